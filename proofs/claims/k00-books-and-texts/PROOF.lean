import PyProof.Rows.All
import Wide.All
import OpenK.AllK
import Wide.FinOn
import HandS.ForMost
import HandS.Dict
import HandS.Walk
import HandS.Zip
import HandS.Defaults
import HandS.Conv
import HandS.Wide
import HandS.IsInst
import HandS.TupAny
import HandS.TupMul
import HandS.SlotsVar
import HandS.Slots
import HandS.Star
import HandS.Style
import HandS.More
import KE.GoesMore
import KE.GoesEnum
import KE.GoesZip
import HandS.HeadWalk
import HandS.Small
import HandS.ListItems
import HandS.Property
import HandS.SlotsOwn
import OpenK.KOps
import OpenK.KMeth
import PyProof.InstNe
import KE.KDictKeyed
import HandS.NoneIn
import HandS.Codes
import HandS.HeadHook4
import PySem.Challenge.RW_opengates_k00_whole_books_and_their_text
import KE.KStateDown
import HandS.Head0
import HandS.Head1
import HandS.Head2
import HandS.HeadEnd
import PyProof.P3Eq
import HandS.Text
import PyProof.StrLawsRepr
set_option Elab.async false
set_option linter.all false
set_option maxRecDepth 100000
section
set_option autoImplicit true
set_option maxHeartbeats 200000
/-! Og: data over the hand layer. D a value with all that hangs on it; Mem the cells that may still change. -/
namespace Og
open PySem PySem.Spec PyProof.Rows L2

inductive D where
  | non | bl (b : Bool) | int (i : Int) | str (x : Str) | ty (n : String) | ref (a : Addr)
  | tup (ds : List D) | lst (ds : List D) | dic
  /-- a dict by texts and ints, by tuples of them; an object of a class without slots, its variables by names -/
  | dK (ks : List Key) (ds : List D) | dT (ks : List (List Key)) (ds : List D)
  | ob (C : Addr) (ns : List Str) (ds : List D)
  /-- a tuple made by the program, kept as such -/
  | lv (ds : List D)

inductive Cell where
  | lst (ds : List D)
  | dK (ks : List Key) (ds : List D) | dT (ks : List (List Key)) (ds : List D)
  | ins (C : Addr) (ns : List Str) (ds : List D)
  | obj (C dx : Addr) (fs : List (Option D))
  | hid (a : Addr)

abbrev Mem := Addr → Option Cell
def put (m : Mem) (a : Addr) (c : Cell) : Mem := fun b => if b = a then some c else m b
def del (m : Mem) (a : Addr) : Mem := fun b => if b = a then none else m b
@[simp] theorem put_same {m : Mem} {a : Addr} {c : Cell} : put m a c a = some c := by unfold put; rw [if_pos rfl]
theorem put_ne {m : Mem} {a b : Addr} {c : Cell} (h : b ≠ a) : put m a c b = m b := by unfold put; rw [if_neg h]
@[simp] theorem put_put {m : Mem} {a : Addr} {c c' : Cell} : put (put m a c) a c' = put m a c' := by
  funext b; unfold put; split <;> rfl
theorem put_self {m : Mem} {a : Addr} {c : Cell} (h : m a = some c) : put m a c = m := by
  funext b; unfold put; split
  · rename_i e; rw [e, h]
  · rfl
theorem del_put {m : Mem} {a : Addr} {c : Cell} (h : m a = none) : del (put m a c) a = m := by
  funext b; unfold del put; split
  · rename_i e; rw [e, h]
  · rfl
theorem ne_of_mem {m : Mem} {a b : Addr} {c : Cell} (h : m a = some c) (h' : m b = none) : a ≠ b := by
  intro e; rw [e, h'] at h; cases h

/-- a tuple, a list of the written part -/
def WT (K : PySem.W.Frag) (a : Addr) (xs : List V) : Prop :=
  ∃ (o : Obj) (its : Array Value) (n : Nat), K.lookup a = some o ∧ o.cls = .type "tuple" ∧ o.data = .seq its n ∧ its.size ≤ sizeLine ∧ Vals xs its.toList
def WL (K : PySem.W.Frag) (a : Addr) (xs : List V) : Prop :=
  ∃ (o : Obj) (its : Array Value) (n : Nat), K.lookup a = some o ∧ o.cls = .type "list" ∧ o.dict = none ∧ o.data = .seq its n ∧ its.size ≤ sizeLine ∧ Vals xs its.toList
def SqTm (K : PySem.W.Frag) (m : Mem) (H : Hp) (a : Addr) (xs : List V) : Prop := (m a = none ∧ H a = some (.tup xs)) ∨ WT K a xs
def SqLm (K : PySem.W.Frag) (m : Mem) (H : Hp) (a : Addr) (xs : List V) : Prop := (m a = none ∧ Rd H a (.lst xs)) ∨ WL K a xs
theorem SqTm.sq {K : PySem.W.Frag} {m : Mem} {H : Hp} {a : Addr} {xs : List V} (h : SqTm K m H a xs) : SqT K H a xs := h.elim (fun z => .inl (.inl z.2)) .inr
theorem SqLm.sq {K : PySem.W.Frag} {m : Mem} {H : Hp} {a : Addr} {xs : List V} (h : SqLm K m H a xs) : SqL K H a xs := h.elim (fun z => .inl z.2) .inr

mutual
def Rep (K : PySem.W.Frag) (m : Mem) (H : Hp) : V → D → Prop
  | v, .non => v = .non
  | v, .bl b => v = .bl b
  | v, .int i => v = .int i
  | v, .str x => v = .str x
  | v, .ty n => v = .ty n
  | v, .ref a => v = .ref a
  | v, .tup ds => ∃ a xs, v = .ref a ∧ SqTm K m H a xs ∧ Reps K m H xs ds
  | v, .lst ds => ∃ a xs, v = .ref a ∧ SqLm K m H a xs ∧ Reps K m H xs ds
  | v, .dic => ∃ a kvs, v = .ref a ∧ m a = none ∧ H a = some (.dK kvs)
  | v, .dK ks ds => ∃ a vs, v = .ref a ∧ m a = none ∧ H a = some (.dK (ks.zip vs)) ∧ ks.length = vs.length ∧ Reps K m H vs ds
  | v, .dT ks ds => ∃ a vs, v = .ref a ∧ m a = none ∧ H a = some (.dT (ks.zip vs)) ∧ ks.length = vs.length ∧ Reps K m H vs ds
  | v, .ob C ns ds => ∃ a dx vs, v = .ref a ∧ m a = none ∧ H a = some (.ins C dx (ns.zip vs)) ∧ ns.length = vs.length ∧ Reps K m H vs ds
  | v, .lv ds => ∃ a xs, v = .ref a ∧ m a = none ∧ H a = some (.tup xs) ∧ Reps K m H xs ds
def Reps (K : PySem.W.Frag) (m : Mem) (H : Hp) : List V → List D → Prop
  | vs, [] => vs = []
  | vs, d :: ds => ∃ v r, vs = v :: r ∧ Rep K m H v d ∧ Reps K m H r ds
end

/-- from one state to a later one: what is no cell stays -/
def Step (m : Mem) (H : Hp) (m' : Mem) (H' : Hp) : Prop := ∀ a u, m a = none → H a = some u → m' a = none ∧ H' a = some u
theorem Step.refl {m : Mem} {H : Hp} : Step m H m H := fun _ _ h1 h2 => ⟨h1, h2⟩
theorem Step.trans {m m1 m2 : Mem} {H H1 H2 : Hp} (a : Step m H m1 H1) (b : Step m1 H1 m2 H2) : Step m H m2 H2 := fun c u h1 h2 => by
  obtain ⟨k1, k2⟩ := a c u h1 h2
  exact b c u k1 k2
theorem Step.same {m : Mem} {H H' : Hp} (s : ∀ a u, H a = some u → H' a = some u) : Step m H m H' := fun a u h1 h2 => ⟨h1, s a u h2⟩
theorem Step.fresh {m : Mem} {H : Hp} {p : Addr} {o : HO} (h : H p = none) : Step m H m (L2.upd H p o) := Step.same fun a u e => by
  rw [upd_ne (ne_of_none e h)]; exact e
theorem rd_step {m m' : Mem} {H H' : Hp} {a : Addr} {u : HO} (s : Step m H m' H') (h0 : m a = none) (h : Rd H a u) : m' a = none ∧ Rd H' a u := by
  rcases h with h | ⟨o, h⟩
  · exact ⟨(s a _ h0 h).1, .inl (s a _ h0 h).2⟩
  · exact ⟨(s a _ h0 h).1, .inr ⟨o, (s a _ h0 h).2⟩⟩
mutual
theorem Rep.step {K : PySem.W.Frag} {m m' : Mem} {H H' : Hp} (s : Step m H m' H') : ∀ (d : D) (v : V), Rep K m H v d → Rep K m' H' v d
  | .non, _, h => by simpa [Rep] using h
  | .bl _, _, h => by simpa [Rep] using h
  | .int _, _, h => by simpa [Rep] using h
  | .str _, _, h => by simpa [Rep] using h
  | .ty _, _, h => by simpa [Rep] using h
  | .ref _, _, h => by simpa [Rep] using h
  | .tup ds, v, h => by
    obtain ⟨a, xs, e, q, r⟩ := (by simpa only [Rep] using h : ∃ a xs, v = .ref a ∧ SqTm K m H a xs ∧ Reps K m H xs ds)
    simp only [Rep]
    refine ⟨a, xs, e, ?_, Reps.step s ds xs r⟩
    rcases q with ⟨h0, q⟩ | q
    · exact .inl (s a _ h0 q)
    · exact .inr q
  | .lst ds, v, h => by
    obtain ⟨a, xs, e, q, r⟩ := (by simpa only [Rep] using h : ∃ a xs, v = .ref a ∧ SqLm K m H a xs ∧ Reps K m H xs ds)
    simp only [Rep]
    refine ⟨a, xs, e, ?_, Reps.step s ds xs r⟩
    rcases q with ⟨h0, q⟩ | q
    · exact .inl (rd_step s h0 q)
    · exact .inr q
  | .dic, v, h => by
    obtain ⟨a, kvs, e, h0, q⟩ := (by simpa only [Rep] using h : ∃ a kvs, v = .ref a ∧ m a = none ∧ H a = some (.dK kvs))
    simp only [Rep]
    exact ⟨a, kvs, e, s a _ h0 q⟩
  | .dK ks ds, v, h => by
    obtain ⟨a, vs, e, h0, q, hl, r⟩ := (by simpa only [Rep] using h : ∃ a vs, v = .ref a ∧ m a = none ∧ H a = some (.dK (ks.zip vs)) ∧ ks.length = vs.length ∧ Reps K m H vs ds)
    simp only [Rep]
    exact ⟨a, vs, e, (s a _ h0 q).1, (s a _ h0 q).2, hl, Reps.step s ds vs r⟩
  | .dT ks ds, v, h => by
    obtain ⟨a, vs, e, h0, q, hl, r⟩ := (by simpa only [Rep] using h : ∃ a vs, v = .ref a ∧ m a = none ∧ H a = some (.dT (ks.zip vs)) ∧ ks.length = vs.length ∧ Reps K m H vs ds)
    simp only [Rep]
    exact ⟨a, vs, e, (s a _ h0 q).1, (s a _ h0 q).2, hl, Reps.step s ds vs r⟩
  | .lv ds, v, h => by
    obtain ⟨a, xs, e, h0, q, r⟩ := (by simpa only [Rep] using h : ∃ a xs, v = .ref a ∧ m a = none ∧ H a = some (.tup xs) ∧ Reps K m H xs ds)
    simp only [Rep]
    exact ⟨a, xs, e, (s a _ h0 q).1, (s a _ h0 q).2, Reps.step s ds xs r⟩
  | .ob C ns ds, v, h => by
    obtain ⟨a, dx, vs, e, h0, q, hl, r⟩ := (by simpa only [Rep] using h : ∃ a dx vs, v = .ref a ∧ m a = none ∧ H a = some (.ins C dx (ns.zip vs)) ∧ ns.length = vs.length ∧ Reps K m H vs ds)
    simp only [Rep]
    exact ⟨a, dx, vs, e, (s a _ h0 q).1, (s a _ h0 q).2, hl, Reps.step s ds vs r⟩
theorem Reps.step {K : PySem.W.Frag} {m m' : Mem} {H H' : Hp} (s : Step m H m' H') : ∀ (ds : List D) (vs : List V), Reps K m H vs ds → Reps K m' H' vs ds
  | [], _, h => by simpa [Reps] using h
  | d :: ds, vs, h => by
    obtain ⟨v, r, e, h1, h2⟩ := (by simpa only [Reps] using h : ∃ v r, vs = v :: r ∧ Rep K m H v d ∧ Reps K m H r ds)
    simp only [Reps]
    exact ⟨v, r, e, Rep.step s d v h1, Reps.step s ds r h2⟩
end
section
variable {K : PySem.W.Frag} {m : Mem} {H : Hp}
theorem Reps.length : ∀ {ds : List D} {vs : List V}, Reps K m H vs ds → vs.length = ds.length
  | [], _, h => by simp only [Reps] at h; rw [h] <;> rfl
  | d :: ds, _, h => by
    simp only [Reps] at h
    obtain ⟨v, r, rfl, _, h2⟩ := h
    simp [Reps.length h2]
theorem Reps.get : ∀ {ds : List D} {vs : List V} {i : Nat} {d : D}, Reps K m H vs ds → ds[i]? = some d → ∃ v, vs[i]? = some v ∧ Rep K m H v d
  | [], _, _, _, _, e => by simp at e
  | d :: ds, _, 0, _, h, e => by
    simp only [Reps] at h
    obtain ⟨v, r, rfl, h1, _⟩ := h
    simp at e; subst e
    exact ⟨v, rfl, h1⟩
  | d :: ds, _, i + 1, _, h, e => by
    simp only [Reps] at h
    obtain ⟨v, r, rfl, _, h2⟩ := h
    obtain ⟨w, q1, q2⟩ := Reps.get (i := i) h2 (by simpa using e)
    exact ⟨w, by simpa using q1, q2⟩
theorem Reps.get' : ∀ {ds : List D} {vs : List V} {i : Nat} {v : V}, Reps K m H vs ds → vs[i]? = some v → ∃ d, ds[i]? = some d ∧ Rep K m H v d := fun {ds vs i v} h e => by
  have hl := h.length
  have hi : i < ds.length := by rw [← hl]; exact (List.getElem?_eq_some_iff.mp e).1
  obtain ⟨w, q1, q2⟩ := h.get (i := i) (List.getElem?_eq_getElem hi)
  rw [e] at q1; cases q1
  exact ⟨_, List.getElem?_eq_getElem hi, q2⟩
theorem Reps.append : ∀ {ds es : List D} {vs ws : List V}, Reps K m H vs ds → Reps K m H ws es → Reps K m H (vs ++ ws) (ds ++ es)
  | [], _, _, _, h, h' => by simp only [Reps] at h; subst h; exact h'
  | d :: ds, es, _, ws, h, h' => by
    simp only [Reps] at h
    obtain ⟨v, r, rfl, h1, h2⟩ := h
    simp only [List.cons_append, Reps]
    exact ⟨v, _, rfl, h1, Reps.append h2 h'⟩
theorem Reps.set : ∀ {ds : List D} {vs : List V} {d : D} {v : V} (i : Nat), Reps K m H vs ds → Rep K m H v d → Reps K m H (vs.set i v) (ds.set i d)
  | [], _, _, _, _, h, _ => by simp only [Reps] at h; subst h; simp [Reps]
  | _ :: ds, _, d, v, 0, h, h' => by
    simp only [Reps] at h
    obtain ⟨w, r, rfl, _, h2⟩ := h
    simp only [List.set_cons_zero, Reps]
    exact ⟨v, r, rfl, h', h2⟩
  | _ :: ds, _, d, v, i + 1, h, h' => by
    simp only [Reps] at h
    obtain ⟨w, r, rfl, h1, h2⟩ := h
    simp only [List.set_cons_succ, Reps]
    exact ⟨w, _, rfl, h1, Reps.set i h2 h'⟩
theorem Reps.take : ∀ {ds : List D} {vs : List V} (n : Nat), Reps K m H vs ds → Reps K m H (vs.take n) (ds.take n)
  | _, _, 0, _ => by simp [Reps]
  | [], _, _ + 1, h => by simp only [Reps] at h; subst h; simp [Reps]
  | d :: ds, _, n + 1, h => by
    simp only [Reps] at h
    obtain ⟨w, r, rfl, h1, h2⟩ := h
    simp only [List.take_succ_cons, Reps]
    exact ⟨w, _, rfl, h1, Reps.take n h2⟩
theorem Reps.drop : ∀ {ds : List D} {vs : List V} (n : Nat), Reps K m H vs ds → Reps K m H (vs.drop n) (ds.drop n)
  | _, _, 0, h => h
  | [], _, _ + 1, h => by simp only [Reps] at h; subst h; simp [Reps]
  | d :: ds, _, n + 1, h => by
    simp only [Reps] at h
    obtain ⟨w, r, rfl, h1, h2⟩ := h
    simp only [List.drop_succ_cons]
    exact Reps.drop n h2
theorem Reps.ints : ∀ {ns : List Int} {vs : List V}, Reps K m H vs (ns.map D.int) → vs = ns.map V.int
  | [], _, h => by simpa [Reps] using h
  | n :: ns, _, h => by
    simp only [List.map_cons, Reps, Rep] at h
    obtain ⟨v, r, rfl, rfl, h2⟩ := h
    rw [Reps.ints h2] <;> rfl
theorem Reps.of_ints : ∀ {ns : List Int}, Reps K m H (ns.map V.int) (ns.map D.int)
  | [] => by simp [Reps]
  | n :: ns => by
    simp only [List.map_cons, Reps, Rep]
    exact ⟨_, _, rfl, rfl, Reps.of_ints⟩
theorem Reps.bls : ∀ {ns : List Bool} {vs : List V}, Reps K m H vs (ns.map D.bl) → vs = ns.map V.bl
  | [], _, h => by simpa [Reps] using h
  | n :: ns, _, h => by
    simp only [List.map_cons, Reps, Rep] at h
    obtain ⟨v, r, rfl, rfl, h2⟩ := h
    rw [Reps.bls h2] <;> rfl
end

/-! ### the cells -/
def RepO (K : PySem.W.Frag) (m : Mem) (H : Hp) : Option V → Option D → Prop
  | _, none => True
  | some v, some d => Rep K m H v d
  | none, some _ => False
def RepsO (K : PySem.W.Frag) (m : Mem) (H : Hp) : List (Option V) → List (Option D) → Prop
  | [], [] => True
  | v :: vs, d :: ds => RepO K m H v d ∧ RepsO K m H vs ds
  | _, _ => False
def CellOk (K : PySem.W.Frag) (m : Mem) (H : Hp) (a : Addr) : Cell → Prop
  | .lst ds => ∃ vs, H a = some (.lst vs) ∧ Reps K m H vs ds
  | .dK ks ds => ∃ vs, H a = some (.dK (ks.zip vs)) ∧ ks.length = vs.length ∧ Reps K m H vs ds
  | .dT ks ds => ∃ vs, H a = some (.dT (ks.zip vs)) ∧ ks.length = vs.length ∧ Reps K m H vs ds
  | .ins C ns ds => ∃ dx vs, H a = some (.ins C dx (ns.zip vs)) ∧ ns.length = vs.length ∧ Reps K m H vs ds
  | .obj C dx fs => ∃ vs, SlX.Slt H a C dx vs ∧ dx ≠ a ∧ m dx = some (.hid a) ∧ RepsO K m H vs fs
  | .hid b => H a = some (.own b) ∨ H a = some (.xd [])
def MemOk (K : PySem.W.Frag) (m : Mem) (H : Hp) : Prop := ∀ a c, m a = some c → CellOk K m H a c
theorem CellOk.there {K : PySem.W.Frag} {m : Mem} {H : Hp} {a : Addr} {c : Cell} (h : CellOk K m H a c) : ∃ u, H a = some u ∧ (∀ xs, u ≠ .tup xs) ∧ ∀ o x, u ≠ .frz o x := by
  cases c with
  | lst ds =>
    obtain ⟨vs, e, _⟩ := h
    exact ⟨_, e, fun _ z => (nomatch z), fun _ _ z => (nomatch z)⟩
  | dK ks ds =>
    obtain ⟨vs, e, _⟩ := h
    exact ⟨_, e, fun _ z => (nomatch z), fun _ _ z => (nomatch z)⟩
  | dT ks ds =>
    obtain ⟨vs, e, _⟩ := h
    exact ⟨_, e, fun _ z => (nomatch z), fun _ _ z => (nomatch z)⟩
  | ins C ns ds =>
    obtain ⟨dx, vs, e, _⟩ := h
    exact ⟨_, e, fun _ z => (nomatch z), fun _ _ z => (nomatch z)⟩
  | obj C dx fs =>
    obtain ⟨vs, e, _⟩ := h
    rcases e with ⟨e, _⟩ | ⟨e, _⟩
    · exact ⟨_, e, fun _ z => (nomatch z), fun _ _ z => (nomatch z)⟩
    · exact ⟨_, e, fun _ z => (nomatch z), fun _ _ z => (nomatch z)⟩
  | hid b =>
    rcases h with e | e
    · exact ⟨_, e, fun _ z => (nomatch z), fun _ _ z => (nomatch z)⟩
    · exact ⟨_, e, fun _ z => (nomatch z), fun _ _ z => (nomatch z)⟩
theorem MemOk.free {K : PySem.W.Frag} {m : Mem} {H : Hp} {a : Addr} (h : MemOk K m H) (e : H a = none) : m a = none := by
  cases q : m a with
  | none => rfl
  | some c =>
    obtain ⟨u, z, _⟩ := (h a c q).there
    rw [e] at z; cases z
theorem RepO.step {K : PySem.W.Frag} {m m' : Mem} {H H' : Hp} (s : Step m H m' H') : ∀ {v : Option V} {d : Option D}, RepO K m H v d → RepO K m' H' v d
  | _, none, _ => by unfold RepO; trivial
  | some v, some d, h => Rep.step s d v h
  | none, some _, h => h.elim
theorem RepsO.step {K : PySem.W.Frag} {m m' : Mem} {H H' : Hp} (s : Step m H m' H') : ∀ {vs : List (Option V)} {ds : List (Option D)}, RepsO K m H vs ds → RepsO K m' H' vs ds
  | [], [], h => h
  | _ :: _, _ :: _, h => ⟨h.1.step s, RepsO.step s h.2⟩
  | [], _ :: _, h => h.elim
  | _ :: _, [], h => h.elim
theorem Slt.same {H H' : Hp} {a C dx : Addr} {vs : List (Option V)} (h : SlX.Slt H a C dx vs) (e1 : H' a = H a) (e2 : H' dx = H dx) : SlX.Slt H' a C dx vs := by
  rcases h with ⟨h1, h2⟩ | ⟨h1, h2⟩
  · exact .inl ⟨e1.trans h1, h2⟩
  · exact .inr ⟨e1.trans h1, e2.trans h2⟩
/-- a cell that is left alone -/
theorem CellOk.step {K : PySem.W.Frag} {m m' : Mem} {H H' : Hp} {a : Addr} {c : Cell} (s : Step m H m' H') (e : H' a = H a) (ed : ∀ C dx fs, c = .obj C dx fs → H' dx = H dx ∧ m' dx = m dx) (h : CellOk K m H a c) : CellOk K m' H' a c := by
  cases c with
  | lst ds =>
    obtain ⟨vs, q, r⟩ := h
    exact ⟨vs, by rw [e]; exact q, Reps.step s _ _ r⟩
  | dK ks ds =>
    obtain ⟨vs, q, hl, r⟩ := h
    exact ⟨vs, by rw [e]; exact q, hl, Reps.step s _ _ r⟩
  | dT ks ds =>
    obtain ⟨vs, q, hl, r⟩ := h
    exact ⟨vs, by rw [e]; exact q, hl, Reps.step s _ _ r⟩
  | ins C ns ds =>
    obtain ⟨dx, vs, q, hl, r⟩ := h
    exact ⟨dx, vs, by rw [e]; exact q, hl, Reps.step s _ _ r⟩
  | obj C dx fs =>
    obtain ⟨vs, q, ne, hd, r⟩ := h
    obtain ⟨k1, k2⟩ := ed C dx fs rfl
    exact ⟨vs, Slt.same q e k1, ne, k2.trans hd, r.step s⟩
  | hid b =>
    show H' a = some (.own b) ∨ H' a = some (.xd [])
    rw [e]; exact h
/-- a new object is laid beside -/
theorem MemOk.at {K : PySem.W.Frag} {m : Mem} {H : Hp} {a : Addr} {c : Cell} (h : MemOk K m H) (e : m a = some c) : ∃ u, H a = some u := let ⟨u, q, _⟩ := (h a c e).there; ⟨u, q⟩
theorem MemOk.dxAt {K : PySem.W.Frag} {m : Mem} {H : Hp} {a C dx : Addr} {fs : List (Option D)} (h : MemOk K m H) (e : m a = some (.obj C dx fs)) : m dx = some (.hid a) ∧ dx ≠ a := let ⟨_, _, ne, q, _⟩ := h a _ e; ⟨q, ne⟩
theorem MemOk.fresh {K : PySem.W.Frag} {m : Mem} {H : Hp} {p : Addr} {o : HO} (h : MemOk K m H) (hp : H p = none) : MemOk K m (L2.upd H p o) := fun a c e => by
  obtain ⟨u, q⟩ := h.at e
  refine (h a c e).step (Step.fresh hp) (by rw [upd_ne (ne_of_none q hp)]) fun C dx fs ec => ?_
  subst ec
  obtain ⟨w, qd⟩ := h.at (h.dxAt e).1
  exact ⟨by rw [upd_ne (ne_of_none qd hp)], rfl⟩
/-- it becomes a list's cell -/
theorem Step.newLst {m : Mem} {H : Hp} {p : Addr} {o : HO} {c : Cell} (hp : H p = none) : Step m H (put m p c) (L2.upd H p o) := fun a u h1 h2 => by
  have ne := ne_of_none h2 hp
  exact ⟨by rw [put_ne ne]; exact h1, by rw [upd_ne ne]; exact h2⟩
theorem MemOk.newLst {K : PySem.W.Frag} {m : Mem} {H : Hp} {p : Addr} {vs : List V} {ds : List D} (h : MemOk K m H) (hp : H p = none) (r : Reps K m H vs ds) : MemOk K (put m p (.lst ds)) (L2.upd H p (.lst vs)) := fun a c e => by
  have s : Step m H (put m p (.lst ds)) (L2.upd H p (.lst vs)) := Step.newLst hp
  by_cases ea : a = p
  · rw [ea, put_same] at e
    cases e
    rw [ea]
    exact ⟨vs, upd_same, Reps.step s _ _ r⟩
  · rw [put_ne ea] at e
    refine (h a c e).step s (by rw [upd_ne ea]) fun C dx fs ec => ?_
    subst ec
    obtain ⟨w, qd⟩ := h.at (h.dxAt e).1
    have nd := ne_of_none qd hp
    exact ⟨by rw [upd_ne nd], by rw [put_ne nd]⟩
/-- a cell that holds no object of slots is laid beside -/
theorem MemOk.newC {K : PySem.W.Frag} {m : Mem} {H : Hp} {p : Addr} {o : HO} {c : Cell} (h : MemOk K m H) (hp : H p = none) (hc : CellOk K (put m p c) (L2.upd H p o) p c) : MemOk K (put m p c) (L2.upd H p o) := fun a c' e => by
  have s : Step m H (put m p c) (L2.upd H p o) := Step.newLst hp
  by_cases ea : a = p
  · rw [ea, put_same] at e
    cases e
    rw [ea]
    exact hc
  · rw [put_ne ea] at e
    refine (h a c' e).step s (by rw [upd_ne ea]) fun C dx fs ec => ?_
    subst ec
    obtain ⟨w, qd⟩ := h.at (h.dxAt e).1
    have nd := ne_of_none qd hp
    exact ⟨by rw [upd_ne nd], by rw [put_ne nd]⟩
/-- a list's cell is written -/
theorem Step.write {m : Mem} {H : Hp} {p : Addr} {o : HO} {c c' : Cell} (hp : m p = some c) : Step m H (put m p c') (L2.upd H p o) := fun a u h1 h2 => by
  have ne : a ≠ p := fun z => by rw [z, hp] at h1; cases h1
  exact ⟨by rw [put_ne ne]; exact h1, by rw [upd_ne ne]; exact h2⟩
theorem MemOk.writeLst {K : PySem.W.Frag} {m : Mem} {H : Hp} {p : Addr} {es : List D} {vs : List V} {ds : List D} (h : MemOk K m H) (hp : m p = some (.lst es)) (r : Reps K m H vs ds) : MemOk K (put m p (.lst ds)) (L2.upd H p (.lst vs)) := fun a c' e => by
  have s : Step m H (put m p (.lst ds)) (L2.upd H p (.lst vs)) := Step.write hp
  by_cases ea : a = p
  · rw [ea, put_same] at e
    cases e
    rw [ea]
    exact ⟨vs, upd_same, Reps.step s _ _ r⟩
  · rw [put_ne ea] at e
    refine (h a c' e).step s (by rw [upd_ne ea]) fun C dx fs ec => ?_
    subst ec
    have nd : dx ≠ p := fun z => by
      have q := (h.dxAt e).1
      rw [z, hp] at q
      cases q
    exact ⟨by rw [upd_ne nd], by rw [put_ne nd]⟩
/-- a cell, no object's dict, is written -/
theorem MemOk.writeC {K : PySem.W.Frag} {m : Mem} {H : Hp} {p : Addr} {o : HO} {c0 c : Cell} (h : MemOk K m H) (hp : m p = some c0) (h0 : ∀ b, c0 ≠ .hid b) (hc : CellOk K (put m p c) (L2.upd H p o) p c) : MemOk K (put m p c) (L2.upd H p o) := fun a c' e => by
  have s : Step m H (put m p c) (L2.upd H p o) := Step.write hp
  by_cases ea : a = p
  · rw [ea, put_same] at e
    cases e
    rw [ea]
    exact hc
  · rw [put_ne ea] at e
    refine (h a c' e).step s (by rw [upd_ne ea]) fun C dx fs ec => ?_
    subst ec
    have nd : dx ≠ p := fun z => by
      have q := (h.dxAt e).1
      rw [z, hp] at q
      exact h0 _ (Option.some.inj q)
    exact ⟨by rw [upd_ne nd], by rw [put_ne nd]⟩
/-- a new object without variables -/
theorem Step.newObj {m : Mem} {H : Hp} {p dx : Addr} {o o' : HO} {c c' : Cell} (hp : H p = none) (hd : H dx = none) : Step m H (put (put m dx c') p c) (L2.upd (L2.upd H dx o') p o) := (Step.newLst hd).trans (fun a u h1 h2 => by
  by_cases ea : a = p
  · subst ea
    by_cases e2 : a = dx
    · subst e2; rw [put_same] at h1; cases h1
    · rw [upd_ne e2, hp] at h2; cases h2
  · exact ⟨by rw [put_ne ea]; exact h1, by rw [upd_ne ea]; exact h2⟩)
theorem MemOk.newObj {K : PySem.W.Frag} {m : Mem} {H : Hp} {p dx C : Addr} (h : MemOk K m H) (hp : H p = none) (hd : H dx = none) (ne : dx ≠ p) :
    MemOk K (put (put m dx (.hid p)) p (.obj C dx [])) (L2.upd (L2.upd H dx (.own p)) p (.ins C dx [])) := fun a c e => by
  have s : Step m H (put (put m dx (.hid p)) p (.obj C dx [])) (L2.upd (L2.upd H dx (.own p)) p (.ins C dx [])) := Step.newObj hp hd
  by_cases ea : a = p
  · rw [ea, put_same] at e
    cases e
    rw [ea]
    exact ⟨[], .inl ⟨upd_same, rfl⟩, ne, by rw [put_ne ne, put_same], True.intro⟩
  · rw [put_ne ea] at e
    by_cases eb : a = dx
    · rw [eb, put_same] at e
      cases e
      rw [eb]
      exact .inl (by rw [upd_ne ne, upd_same])
    · rw [put_ne eb] at e
      refine (h a c e).step s (by rw [upd_ne ea, upd_ne eb]) fun C dy fs ec => ?_
      subst ec
      obtain ⟨w, qd⟩ := h.at (h.dxAt e).1
      have n1 := ne_of_none qd hp
      have n2 := ne_of_none qd hd
      exact ⟨by rw [upd_ne n1, upd_ne n2], by rw [put_ne n1, put_ne n2]⟩
theorem RepO.set : ∀ {K : PySem.W.Frag} {m : Mem} {H : Hp} {vs : List (Option V)} {ds : List (Option D)} {v : V} {d : D} (i : Nat), RepsO K m H vs ds → Rep K m H v d → RepsO K m H (vs.set i (some v)) (ds.set i (some d))
  | _, _, _, [], [], _, _, _, _, _ => True.intro
  | _, _, _, _ :: _, _ :: _, _, _, 0, h, r => ⟨r, h.2⟩
  | _, _, _, _ :: _, _ :: _, _, _, i + 1, h, r => ⟨h.1, RepO.set i h.2 r⟩
  | _, _, _, [], _ :: _, _, _, _, h, _ => h.elim
  | _, _, _, _ :: _, [], _, _, _, h, _ => h.elim
theorem RepsO.append : ∀ {K : PySem.W.Frag} {m : Mem} {H : Hp} {vs ws : List (Option V)} {ds es : List (Option D)}, RepsO K m H vs ds → RepsO K m H ws es → RepsO K m H (vs ++ ws) (ds ++ es)
  | _, _, _, [], _, [], _, _, h => h
  | _, _, _, _ :: _, _, _ :: _, _, h, h' => ⟨h.1, RepsO.append h.2 h'⟩
  | _, _, _, [], _, _ :: _, _, h, _ => h.elim
  | _, _, _, _ :: _, _, [], _, h, _ => h.elim
theorem RepsO.length : ∀ {K : PySem.W.Frag} {m : Mem} {H : Hp} {vs : List (Option V)} {ds : List (Option D)}, RepsO K m H vs ds → vs.length = ds.length
  | _, _, _, [], [], _ => rfl
  | _, _, _, _ :: _, _ :: _, h => congrArg Nat.succ (RepsO.length h.2)
  | _, _, _, [], _ :: _, h => h.elim
  | _, _, _, _ :: _, [], h => h.elim
theorem RepsO.nones : ∀ {K : PySem.W.Frag} {m : Mem} {H : Hp} (n : Nat), RepsO K m H (List.replicate n none) (List.replicate n none)
  | _, _, _, 0 => True.intro
  | _, _, _, n + 1 => ⟨(by unfold RepO; trivial), RepsO.nones n⟩
theorem RepsO.get : ∀ {K : PySem.W.Frag} {m : Mem} {H : Hp} {vs : List (Option V)} {ds : List (Option D)} {i : Nat} {d : D}, RepsO K m H vs ds → ds[i]? = some (some d) → ∃ v, vs[i]? = some (some v) ∧ Rep K m H v d
  | _, _, _, [], [], _, _, _, e => by simp at e
  | _, _, _, v :: _, d0 :: _, 0, d, h, e => by
    simp at e; subst e
    cases v with
    | none => exact h.1.elim
    | some v => exact ⟨v, rfl, h.1⟩
  | _, _, _, _ :: _, _ :: _, i + 1, d, h, e => by
    obtain ⟨v, q, r⟩ := RepsO.get (i := i) h.2 (by simpa using e)
    exact ⟨v, by simpa using q, r⟩
  | _, _, _, [], _ :: _, _, _, h, _ => h.elim
  | _, _, _, _ :: _, [], _, _, h, _ => h.elim
def putF (i : Nat) (d : D) (fs : List (Option D)) : List (Option D) := (fs ++ List.replicate (i + 1 - fs.length) none).set i (some d)
theorem RepsO.put {K : PySem.W.Frag} {m : Mem} {H : Hp} {vs : List (Option V)} {ds : List (Option D)} {v : V} {d : D} (i : Nat) (h : RepsO K m H vs ds) (r : Rep K m H v d) : RepsO K m H (SlX.putS i v vs) (putF i d ds) := by
  unfold SlX.putS putF
  rw [h.length]
  exact RepO.set i (h.append (RepsO.nones _)) r
/-- an object's variable is stored -/
theorem Step.writeObj {m : Mem} {H : Hp} {p dx C : Addr} {fs : List (Option D)} {vs : List (Option V)} {c' : Cell} (hp : m p = some (.obj C dx fs)) (hd : m dx = some (.hid p)) : Step m H (put m p c') (SlX.slH H p C dx vs) := fun a u h1 h2 => by
  have n1 : a ≠ p := fun z => by rw [z, hp] at h1; cases h1
  have n2 : a ≠ dx := fun z => by rw [z, hd] at h1; cases h1
  exact ⟨by rw [put_ne n1]; exact h1, by rw [SlX.slH_ne n1 n2]; exact h2⟩
theorem MemOk.writeObj {K : PySem.W.Frag} {m : Mem} {H : Hp} {p dx C : Addr} {fs gs : List (Option D)} {ws : List (Option V)} (h : MemOk K m H) (hp : m p = some (.obj C dx fs)) (r : RepsO K m H ws gs) :
    MemOk K (put m p (.obj C dx gs)) (SlX.slH H p C dx ws) := fun a c' e => by
  obtain ⟨hd, ne⟩ := h.dxAt hp
  have s : Step m H (put m p (.obj C dx gs)) (SlX.slH H p C dx ws) := Step.writeObj hp hd
  by_cases ea : a = p
  · rw [ea, put_same] at e
    cases e
    rw [ea]
    exact ⟨ws, SlX.slH_slt ne, ne, by rw [put_ne ne]; exact hd, r.step s⟩
  · rw [put_ne ea] at e
    by_cases eb : a = dx
    · rw [eb, hd] at e
      cases e
      rw [eb]
      refine .inr ?_
      unfold SlX.slH
      rw [upd_ne ne, upd_same]
    · refine (h a c' e).step s (SlX.slH_ne ea eb) fun C' dy fs' ec => ?_
      subst ec
      have qd := (h.dxAt e).1
      have n1 : dy ≠ p := fun z => by rw [z, hp] at qd; cases qd
      have n2 : dy ≠ dx := fun z => by
        rw [z, hd] at qd
        injection qd with q2
        injection q2 with q3
        exact ea q3.symm
      exact ⟨SlX.slH_ne n1 n2, by rw [put_ne n1]⟩
/-- cells forgotten -/
def Sub (m' m : Mem) : Prop := ∀ a c, m' a = some c → m a = some c
theorem Sub.refl {m : Mem} : Sub m m := fun _ _ h => h
theorem Sub.trans {m m1 m2 : Mem} (a : Sub m m1) (b : Sub m1 m2) : Sub m m2 := fun c u h => b c u (a c u h)
theorem Sub.no {m m' : Mem} (s : Sub m' m) {a : Addr} (h : m a = none) : m' a = none := by
  cases q : m' a with
  | none => rfl
  | some c => rw [s a c q] at h; cases h
theorem Sub.step {m m' : Mem} {H : Hp} (s : Sub m' m) : Step m H m' H := fun a u h1 h2 => ⟨s.no h1, h2⟩
theorem Sub.fresh {m : Mem} {p : Addr} {c : Cell} (h : m p = none) : Sub m (put m p c) := fun a u e => by
  rw [put_ne (ne_of_mem e h)]; exact e
/-- cells forgotten: an object with its dict -/
structure SubO (m' m : Mem) : Prop where
  sub : Sub m' m
  dx : ∀ a C dx fs, m' a = some (.obj C dx fs) → m' dx = m dx
/-- every object's dict is a cell -/
def WfM (m : Mem) : Prop := ∀ a C dx fs, m a = some (.obj C dx fs) → m dx = some (.hid a)
theorem MemOk.wf {K : PySem.W.Frag} {m : Mem} {H : Hp} (h : MemOk K m H) : WfM m := fun _ _ _ _ e => (h.dxAt e).1
theorem SubO.refl {m : Mem} : SubO m m := ⟨Sub.refl, fun _ _ _ _ _ => rfl⟩
theorem SubO.fresh {m : Mem} {p : Addr} {c : Cell} (w : WfM m) (h : m p = none) : SubO m (put m p c) := ⟨Sub.fresh h, fun a C dx fs e => by
  rw [put_ne (ne_of_mem (w a C dx fs e) h)]⟩
theorem SubO.trans {m m1 m2 : Mem} (a : SubO m m1) (b : SubO m1 m2) : SubO m m2 := ⟨a.sub.trans b.sub, fun p C dx fs e => (a.dx p C dx fs e).trans (b.dx p C dx fs (a.sub _ _ e))⟩
theorem MemOk.sub {K : PySem.W.Frag} {m m' : Mem} {H : Hp} (h : MemOk K m H) (s : SubO m' m) : MemOk K m' H := fun a c e => (h a c (s.sub a c e)).step s.sub.step rfl fun C dx fs ec => ⟨rfl, by subst ec; exact s.dx a C dx fs e⟩
theorem Sub.put {m m' : Mem} {p : Addr} {c : Cell} (s : Sub m' m) : Sub (put m' p c) (put m p c) := fun a u e => by
  by_cases ea : a = p
  · rw [ea, put_same] at e ⊢; exact e
  · rw [put_ne ea] at e ⊢; exact s a u e
/-- a list's cell taken for good -/
theorem Sub.del {m : Mem} {p : Addr} : Sub (del m p) m := fun a u e => by
  unfold Og.del at e
  split at e
  · cases e
  · exact e
end Og
end
section
set_option autoImplicit true
set_option maxHeartbeats 200000
/-! Og: the core language and what a term of it asks, by data. -/
namespace Og
open PySem PySem.Spec PyProof.Rows L2

inductive BOp | add | sub | mul | fdiv | mod | pow
  deriving DecidableEq
inductive COp | lt | le | gt | ge | eq | ne | is_ | isnt | in_ | notin
  deriving DecidableEq
/-- built-ins of one argument -/
inductive B1 | len | abs | int | sum | tuple | all | any | list (mu : Bool) | chars (mu : Bool) | repr | str
  deriving DecidableEq
/-- built-ins of two ints -/
inductive B2 | min | max
  deriving DecidableEq
/-- methods of built-in types, one argument -/
inductive M1 | append | extend | pop
  deriving DecidableEq
/-- methods of texts, no argument -/
inductive M0 | upper
  deriving DecidableEq

inductive Tg where
  | nm (i : Nat)
  | tup (ts : List Tg)
  /-- a list that is unpacked -/
  | lst (ts : List Tg)

mutual
inductive E where
  | non | bl (b : Bool) | int (i : Int) | str (x : Str)
  | x (i : Nat)
  | g (j : Nat)
  | bop (o : BOp) (a b : E)
  | neg (a : E)
  | cmp (o : COp) (a b : E)
  | ch (o o' : COp) (a b c : E)
  | and (a b : E) | or (a b : E) | not (a : E)
  | ife (c a b : E)
  | tup (es : List E)
  | lst (mu : Bool) (es : List E)
  | star (a : E)
  | ix (a i : E)
  | sl (mu : Bool) (a : E) (lo hi : Option E)
  | call (j : Nat) (es : List E)
  | callk (j : Nat) (pm : List Nat) (es : List E)
  | b1 (f : B1) (a : E)
  | b2 (f : B2) (a b : E)
  | isi (a : E) (T : String)
  | m1 (f : M1) (a b : E)
  | lc (mu : Bool) (elt : E) (t : Tg) (it : Ita) (ifs : List E) (own : List Nat)
  | lrg (mu : Bool) (lo hi : E)
  | slot (a : E) (c i : Nat)
  | mk (c j : Nat) (es : List E)
  | meth (j : Nat) (c : Nat) (a : E) (es : List E)
  | frz (a : E)
  | never
  | dic (kvs : List (Str × Int))
  | rev (mu : Bool) (a : E)
  | m0 (f : M0) (a : E)
  /-- a cell, a dict's, taken for good -/
  | thaw (a : E)
  | ltup (es : List E)
  | disp (mu : Bool) (ks : List Key) (es : List E)
  /-- dict(pairs); dict(zip(tuples, values)); list(d.items()) -/
  | dOf (mu : Bool) (a : E) | dZip (mu : Bool) (a b : E) | dItems (mu : Bool) (a : E)
  | din (neg : Bool) (k d : E)
  | dget (a k d : E)
  /-- objects without slots -/
  | fld (a : E) (c : Nat) (f : Str)
  | prop (j c : Nat) (f : Str) (a : E)
  | mkI (c j : Nat) (es : List E)
  | methI (j c : Nat) (f : Str) (a : E) (es : List E)
  | lenO (j c : Nat) (a : E)
  | inO (j c : Nat) (neg : Bool) (a b : E)
  | eqO (j c : Nat) (neg : Bool) (a b : E)
  | isiO (a : E) (c : Nat)
  /-- texts -/
  | split (mu : Bool) (a b : E)
  | join (a b : E)
  | lc2 (mu : Bool) (elt : E) (t1 : Tg) (it1 : Ita) (t2 : Tg) (it2 : Ita) (ifs : List E) (own own2 : List Nat)
inductive Ita where
  | sq (a : E)
  | rg1 (a : E)
  | rg2 (a b : E)
  | enum (a : E)
  | zip (a b : E)
  | signs (a : E)
end

inductive S where
  | ret (e : E) | retN
  | asg (t : Tg) (e : E)
  | par (is : List Nat) (es : List E)
  | asgC (i : Nat) (e : E) | asgC2 (i : Nat) (e : E)
  | setIx (a i e : E) | setD (a i e : E)
  | setAt (a : E) (c i : Nat) (e : E)
  | setFld (a : E) (c : Nat) (f : Str) (e : E)
  | setIx2 (a i b j e : E)
  | ex (e : E)
  | ite (c : E) (a b : List S)
  | for_ (t : Tg) (it : Ita) (b : List S)
  | while_ (c : E) (b : List S)
  | never | brk | cnt | pass

/-! ### what values answer -/
def seqOf (m : Mem) : D → Option (List D)
  | .tup ds => some ds
  | .lst ds => some ds
  | .ref p => match m p with
    | some (.lst ds) => some ds
    | _ => none
  | _ => none
/-- a list (not a tuple) -/
def lstOf (m : Mem) : D → Option (List D)
  | .lst ds => some ds
  | .ref p => match m p with
    | some (.lst ds) => some ds
    | _ => none
  | _ => none

mutual
def D.toP : D → PyData
  | .non => .none | .bl b => .bool b | .int i => .int i | .str x => .str x | .ty _ => .none | .ref _ => .none
  | .tup ds => .tuple (toPs ds)
  | .lst ds => .list (toPs ds)
  | .dic => .none
  | .dK _ _ => .none | .dT _ _ => .none | .ob _ _ _ => .none | .lv _ => .none
def toPs : List D → List PyData
  | [] => []
  | d :: ds => d.toP :: toPs ds
end
mutual
/-- data through and through, not deeper than n -/
def D.flat : Nat → D → Bool
  | _, .non => true | _, .bl _ => true | _, .int _ => true | _, .str x => PyData.strOk x | _, .ty _ => false | _, .ref _ => false
  | _, .dic => false
  | _, .dK _ _ => false | _, .dT _ _ => false | _, .ob _ _ _ => false | _, .lv _ => false
  | 0, .tup _ => false | 0, .lst _ => false
  | n + 1, .tup ds => flats n ds
  | n + 1, .lst ds => flats n ds
def flats : Nat → List D → Bool
  | _, [] => true
  | n, d :: ds => d.flat n && flats n ds
end
/-- a list in a cell, as data -/
def dat (m : Mem) : D → D
  | .ref p => match m p with
    | some (.lst ds) => .lst ds
    | _ => .ref p
  | d => d
abbrev KD := D → Mem → Prop
/-- a new list -/
def newL (mu : Bool) (ds : List D) (m : Mem) (Q : KD) : Prop := match mu with
  | true => ∀ p, m p = none → Q (.ref p) (put m p (.lst ds))
  | false => Q (.lst ds) m

/-! dicts -/
def keyD : Key → D
  | .inl i => .int i
  | .inr x => .str x
def lookK {κ : Type} [DecidableEq κ] : List κ → List D → κ → Option D
  | k :: ks, d :: ds, j => if k = j then some d else lookK ks ds j
  | _, _, _ => none
def putKs {κ : Type} [DecidableEq κ] (ks : List κ) (k : κ) : List κ := if k ∈ ks then ks else ks ++ [k]
def putDs {κ α : Type} [DecidableEq κ] (ks : List κ) (ds : List α) (k : κ) (d : α) : List α := if k ∈ ks then (ks.zip ds).map (fun kv => if kv.1 = k then d else kv.2) else ds ++ [d]
def dKOf (m : Mem) : D → Option (List Key × List D)
  | .dK ks ds => some (ks, ds)
  | .ref p => match m p with
    | some (.dK ks ds) => some (ks, ds)
    | _ => none
  | _ => none
def dTOf (m : Mem) : D → Option (List (List Key) × List D)
  | .dT ks ds => some (ks, ds)
  | .ref p => match m p with
    | some (.dT ks ds) => some (ks, ds)
    | _ => none
  | _ => none
def newDK (mu : Bool) (ks : List Key) (ds : List D) (m : Mem) (Q : KD) : Prop := match mu with
  | true => ∀ p, m p = none → Q (.ref p) (put m p (.dK ks ds))
  | false => Q (.dK ks ds) m
/-- a dict's cell filled at last -/
def endDK (mu : Bool) (p : Addr) (ks : List Key) (ds : List D) (m : Mem) (Q : KD) : Prop := match mu with
  | true => Q (.ref p) (put m p (.dK ks ds))
  | false => Q (.dK ks ds) (del m p)
def newDT (mu : Bool) (ks : List (List Key)) (ds : List D) (m : Mem) (Q : KD) : Prop := match mu with
  | true => ∀ p, m p = none → Q (.ref p) (put m p (.dT ks ds))
  | false => Q (.dT ks ds) m
def thawC : Cell → Option D
  | .lst ds => some (.lst ds)
  | .dK ks ds => some (.dK ks ds)
  | .dT ks ds => some (.dT ks ds)
  | .ins C ns ds => some (.ob C ns ds)
  | _ => none
/-- values some of whose cells are taken for good -/
def frzs (m : Mem) : List D → List D → Mem → Prop
  | [], es, m' => es = [] ∧ m' = m
  | d :: ds, es, m' => ∃ e es', es = e :: es' ∧ ((e = d ∧ frzs m ds es' m') ∨ ∃ q c, d = .ref q ∧ m q = some c ∧ thawC c = some e ∧ frzs (del m q) ds es' m')
def pairsD : List Key → List D → List D
  | k :: ks, d :: ds => .tup [keyD k, d] :: pairsD ks ds
  | _, _ => []

def onB (x : D) (P : Bool → Prop) : Prop := match x with
  | .bl b => P b
  | _ => False
def onI (x : D) (P : Int → Prop) : Prop := match x with
  | .int i => P i
  | _ => False
@[simp] theorem onB_bl {b : Bool} {P : Bool → Prop} : onB (.bl b) P = P b := rfl
@[simp] theorem onI_int {i : Int} {P : Int → Prop} : onI (.int i) P = P i := rfl
theorem onB_out {x : D} {P : Bool → Prop} (h : onB x P) : ∃ b, x = .bl b ∧ P b := by
  cases x <;> first | exact h.elim | exact ⟨_, rfl, h⟩
theorem onI_out {x : D} {P : Int → Prop} (h : onI x P) : ∃ b, x = .int b ∧ P b := by
  cases x <;> first | exact h.elim | exact ⟨_, rfl, h⟩

def opD (o : BOp) (x y : D) (m : Mem) (Q : KD) : Prop := match o, x, y with
  | .add, .int i, .int j => Q (.int (i + j)) m
  | .add, .tup a, .tup b => a.length + b.length ≤ 1000000 ∧ Q (.tup (a ++ b)) m
  | .add, .ref a, .ref b => ∃ as bs, m a = some (.lst as) ∧ m b = some (.lst bs) ∧ as.length + bs.length ≤ 1000000 ∧ newL true (as ++ bs) m Q
  | .add, .str a, .str b => a.length + b.length ≤ 1000000 ∧ Q (.str (a ++ b)) m
  | .add, .lst a, .lst b => a.length + b.length ≤ 1000000 ∧ Q (.lst (a ++ b)) m
  | .add, .lst a, .ref b => ∃ bs, m b = some (.lst bs) ∧ a.length + bs.length ≤ 1000000 ∧ Q (.lst (a ++ bs)) m
  | .add, .ref a, .lst b => ∃ as, m a = some (.lst as) ∧ as.length + b.length ≤ 1000000 ∧ Q (.lst (as ++ b)) m
  | .sub, .int i, .int j => Q (.int (i - j)) m
  | .mul, .int i, .int j => IntMulOk i j ∧ Q (.int (i * j)) m
  | .mul, .ref a, .int k => ∃ as, m a = some (.lst as) ∧ 0 ≤ k ∧ k ≤ 1000 ∧ as.length ≤ 1000 ∧ newL true (List.replicate k.toNat as).flatten m Q
  | .fdiv, .int i, .int j => j ≠ 0 ∧ Q (.int (i.fdiv j)) m
  | .mod, .int i, .int j => j ≠ 0 ∧ Q (.int (i.fmod j)) m
  | .pow, .int i, .int j => 0 ≤ j ∧ (Builtin.Int.intBits i : Int) * j ≤ 2 ^ 27 ∧ Q (.int (i ^ j.toNat)) m
  | _, _, _ => False
def scalV : D → Option V
  | .non => some .non | .bl b => some (.bl b) | .int i => some (.int i) | .str x => some (.str x) | _ => none
/-- == by data -/
def eqD (m : Mem) (x y : D) (R : Bool → Prop) : Prop := match x, y with
  | .int i, .int j => R (decide (i = j))
  | .str i, .str j => R (decide (i = j))
  | x, y => D.flat 40 (dat m x) = true ∧ D.flat 40 (dat m y) = true ∧ R (PyData.eqv (dat m x).toP (dat m y).toP)
def inD (x : D) (ys : List D) (R : Bool → Prop) : Prop := ∃ (v : V) (vs : List V), scalV x = some v ∧ ys.map scalV = vs.map some ∧ R (inV v vs)
def cmpD (o : COp) (x y : D) (m : Mem) (Q : KD) : Prop := match o with
  | .lt => (match x, y with | .int i, .int j => Q (.bl (decide (i < j))) m | _, _ => False)
  | .le => (match x, y with | .int i, .int j => Q (.bl (decide (i ≤ j))) m | _, _ => False)
  | .gt => (match x, y with | .int i, .int j => Q (.bl (decide (j < i))) m | _, _ => False)
  | .ge => (match x, y with | .int i, .int j => Q (.bl (decide (j ≤ i))) m | _, _ => False)
  | .eq => eqD m x y fun b => Q (.bl b) m
  | .ne => eqD m x y fun b => Q (.bl (!b)) m
  | .is_ => (match x, y with
    | .bl b, .bl c => Q (.bl (b == c)) m
    | .non, .non => Q (.bl true) m
    | _, .non => Q (.bl false) m
    | _, _ => False)
  | .isnt => (match x, y with
    | .non, .non => Q (.bl false) m
    | _, .non => Q (.bl true) m
    | _, _ => False)
  | .in_ => (match x, y with
    | .str i, .str j => Q (.bl (!(Builtin.Str.occurrences j i 0 j.length 1).isEmpty)) m
    | x, y => ∃ ys, seqOf m y = some ys ∧ inD x ys fun b => Q (.bl b) m)
  | .notin => ∃ ys, seqOf m y = some ys ∧ inD x ys fun b => Q (.bl (!b)) m
def b1D (f : B1) (x : D) (m : Mem) (Q : KD) : Prop := match f with
  | .len => (match x with
    | .str z => z.length ≤ 1000000 ∧ Q (.int (z.length : Nat)) m
    | x => ∃ ds, seqOf m x = some ds ∧ Q (.int (ds.length : Nat)) m)
  | .abs => (match x with | .int i => Q (.int (if i < 0 then -i else i)) m | _ => False)
  | .int => (match x with | .int i => Q (.int i) m | .bl b => Q (.int (if b then 1 else 0)) m | .str z => ∃ n, PySem.intText? z = some n ∧ z.length ≤ 640 ∧ Q (.int n) m | _ => False)
  | .sum => ∃ ns : List Int, lstOf m x = some (ns.map D.int) ∧ Q (.int ns.sum) m
  | .tuple => ∃ ds, seqOf m x = some ds ∧ Q (.tup ds) m
  | .all => ∃ bs : List Bool, lstOf m x = some (bs.map D.bl) ∧ Q (.bl (bs.all id)) m
  | .any => ∃ bs : List Bool, lstOf m x = some (bs.map D.bl) ∧ Q (.bl (bs.any id)) m
  | .list mu => ∃ ds, seqOf m x = some ds ∧ newL mu ds m Q
  | .chars mu => (match x with | .str z => z.length ≤ 1000000 ∧ newL mu (z.cps.toList.map fun c => D.str ⟨#[c]⟩) m Q | _ => False)
  | .str => (match x with | .int i => i.natAbs.log2 < 1920 ∧ Q (.str (toString i)) m | _ => False)
  | .repr => D.flat 40 (dat m x) = true ∧ (dat m x).toP.showable = true ∧ (dat m x).toP.shown.length ≤ 1000000 ∧ Q (.str (dat m x).toP.shown) m
def b2D (f : B2) (x y : D) (m : Mem) (Q : KD) : Prop := match f, x, y with
  | .min, .int i, .int j => Q (.int (if j < i then j else i)) m
  | .max, .int i, .int j => Q (.int (if j > i then j else i)) m
  | _, _, _ => False
def tyD (m : Mem) : D → Option String
  | .non => some "NoneType" | .bl _ => some "bool" | .int _ => some "int" | .str _ => some "str" | .ty _ => none
  | .tup _ => some "tuple" | .lst _ => some "list" | .dic => some "dict" | .dK _ _ => some "dict" | .dT _ _ => some "dict" | .ob _ _ _ => none | .lv _ => none
  | .ref p => match m p with
    | some (.lst _) => some "list"
    | _ => none
def isiB (t T : String) : Bool := t == T || (t == "bool" && T == "int")
def ixD (m : Mem) (x y : D) (Q : KD) : Prop := match y with
  | .str k => ∃ ks ds d, dKOf m x = some (ks, ds) ∧ lookK ks ds (.inr k) = some d ∧ Q d m
  | .tup es => ∃ ks ds k d, dTOf m x = some (ks, ds) ∧ es = k.map keyD ∧ lookK ks ds k = some d ∧ Q d m
  | .int i => (match x with
    | .str z => ∃ c, z.length ≤ 1000000 ∧ atI z.cps.toList i = some c ∧ Q (.str ⟨#[c]⟩) m
    | x => ∃ ds d, seqOf m x = some ds ∧ atI ds i = some d ∧ Q d m)
  | _ => False
def cutD (xs : List D) (lo hi : Option Int) : List D := (xs.drop (HT.sIx xs.length 0 lo)).take (HT.sIx xs.length xs.length hi - HT.sIx xs.length 0 lo)
def slD (mu : Bool) (m : Mem) (x : D) (lo hi : Option Int) (Q : KD) : Prop := match x with
  | .tup ds => Q (.tup (cutD ds lo hi)) m
  | .str z => z.length ≤ 1000000 ∧ Q (.str (cutS z lo hi)) m
  | x => ∃ ds, lstOf m x = some ds ∧ newL mu (cutD ds lo hi) m Q
def m1D (f : M1) (x y : D) (m : Mem) (Q : KD) : Prop := match f, x with
  | .append, .ref p => ∃ ds, m p = some (.lst ds) ∧ ds.length ≤ 1000000 ∧ Q .non (put m p (.lst (ds ++ [y])))
  | .extend, .ref p => ∃ ds es, m p = some (.lst ds) ∧ (match y with | .ref q => q ≠ p ∧ m q = some (.lst es) | _ => False) ∧ ds.length + es.length ≤ 1000000 ∧ Q .non (put m p (.lst (ds ++ es)))
  | .pop, .ref p => ∃ ds i k d, m p = some (.lst ds) ∧ y = .int i ∧ -(2 ^ 63) ≤ i ∧ i < 2 ^ 63 ∧ seqIndex? i ds.length = some k ∧ ds[k]? = some d ∧ Q d (put m p (.lst (ds.eraseIdx k)))
  | _, _ => False
def revD (mu : Bool) (m : Mem) (x : D) (Q : KD) : Prop := match x with
  | .tup ds => Q (.tup ds.reverse) m
  | x => ∃ ds, lstOf m x = some ds ∧ newL mu ds.reverse m Q
def m0D (f : M0) (x : D) (m : Mem) (Q : KD) : Prop := match f, x with
  | .upper, .str z => z.length ≤ 1000000 ∧ Q (.str (Txt.upper z)) m
  | _, _ => False

/-! ### what a term asks -/
abbrev Rho := List (Option D)
/-- a def's promise by data -/
abbrev Spec := List D → Mem → KD → Prop
structure Ctx where
  gd : List D
  fn : Nat → Spec
  cls : Nat → Addr
abbrev KR := Rho → Mem → Prop

mutual
def setT : Tg → D → Rho → (Rho → Prop) → Prop
  | .nm i, d, r, K => K (r.set i (some d))
  | .tup ts, d, r, K => ∃ ds, d = .tup ds ∧ setTs ts ds r K
  | .lst ts, d, r, K => ∃ ds, d = .lst ds ∧ setTs ts ds r K
def setTs : List Tg → List D → Rho → (Rho → Prop) → Prop
  | [], ds, r, K => ds = [] ∧ K r
  | t :: ts, ds, r, K => ∃ d e, ds = d :: e ∧ setT t d r fun r1 => setTs ts e r1 K
end
def wipeD (r : Rho) : List Nat → Rho
  | [] => r
  | v :: vs => (wipeD r vs).set v none

/-- one comprehension: the turns left, what is made (in the cell p) -/
def lcL (G : Mem → Prop) (turn : D → Mem → (Option D → Mem → Prop) → Prop) (p : Addr) : List D → List D → Mem → (List D → Mem → Prop) → Prop
  | [], acc, m, Q => G m ∧ m p = some (.lst acc) ∧ Q acc m
  | d :: ds, acc, m, Q => G m ∧ turn d m fun o m1 => m1 p = some (.lst acc) ∧ match o with
    | some e => lcL G turn p ds (acc ++ [e]) (put m1 p (.lst (acc ++ [e]))) Q
    | none => lcL G turn p ds acc m1 Q
/-- the inner one of two -/
def lcI (G : Mem → Prop) (turn : D → Mem → (Option D → Mem → Prop) → Prop) (p : Addr) : List D → List D → Mem → (List D → Mem → Prop) → Prop
  | [], acc, m, Q => G m ∧ m p = some (.lst acc) ∧ Q acc m
  | d :: ds, acc, m, Q => G m ∧ turn d m fun o m1 => m1 p = some (.lst acc) ∧ match o with
    | some e => acc.length < 1000000 ∧ lcI G turn p ds (acc ++ [e]) (put m1 p (.lst (acc ++ [e]))) Q
    | none => lcI G turn p ds acc m1 Q
/-- one comprehension of two sources -/
def lcO (G : Mem → Prop) (inner : D → List D → Mem → (List D → Mem → Prop) → Prop) (p : Addr) : List D → List D → Mem → (List D → Mem → Prop) → Prop
  | [], acc, m, Q => G m ∧ m p = some (.lst acc) ∧ Q acc m
  | d :: ds, acc, m, Q => G m ∧ inner d acc m fun acc' m' => lcO G inner p ds acc' m' Q
def lcEnd (mu : Bool) (p : Addr) (Q : KD) (es : List D) (m2 : Mem) : Prop := match mu with
  | true => Q (.ref p) m2
  | false => Q (.lst es) (del m2 p)
/-- one loop -/
structure Kt where
  nx : KR
  rt : KD
  bk : KR
  ct : KR
def forL (G : Mem → Prop) (turn : D → Rho → Mem → Kt → Prop) : List D → Rho → Mem → Kt → Prop
  | [], r, m, K => G m ∧ K.nx r m
  | d :: ds, r, m, K => G m ∧ turn d r m { nx := fun r1 m1 => forL G turn ds r1 m1 K, ct := fun r1 m1 => forL G turn ds r1 m1 K, bk := K.nx, rt := K.rt }
def whL (test : Rho → Mem → (Bool → Mem → Prop) → Prop) (body : Rho → Mem → Kt → Prop) : Nat → Rho → Mem → Kt → Prop
  | 0, _, _, _ => False
  | n + 1, r, m, K => test r m fun b m1 => if b = true then body r m1 { nx := fun r2 m2 => whL test body n r2 m2 K, ct := fun r2 m2 => whL test body n r2 m2 K, bk := K.nx, rt := K.rt } else K.nx r m1

/-- a cell that a loop walks stays as it is -/
def guard (m : Mem) : D → Mem → Prop
  | .ref p => fun m' => m' p = m p
  | _ => fun _ => True
def rgD (lo hi : Int) : List D := (List.range (hi - lo).toNat).map fun i => D.int (lo + (i : Nat))
def enumD : Nat → List D → List D
  | _, [] => []
  | n, d :: ds => .tup [.int (n : Nat), d] :: enumD (n + 1) ds
def zipD : List D → List D → List D
  | x :: xs, y :: ys => .tup [x, y] :: zipD xs ys
  | _, _ => []
def small62 (i : Int) : Prop := -(2 ^ 62) ≤ i ∧ i < 2 ^ 62

section
variable (X : Ctx)
mutual
def ev : E → Rho → Mem → KD → Prop
  | .non, _, m, Q => Q .non m
  | .bl b, _, m, Q => Q (.bl b) m
  | .int i, _, m, Q => Q (.int i) m
  | .str x, _, m, Q => Q (.str x) m
  | .x i, r, m, Q => ∃ d, r[i]? = some (some d) ∧ Q d m
  | .g j, _, m, Q => ∃ d, X.gd[j]? = some d ∧ Q d m
  | .bop o a b, r, m, Q => ev a r m fun x m1 => ev b r m1 fun y m2 => opD o x y m2 Q
  | .neg a, r, m, Q => ev a r m fun x m1 => onI x fun i => Q (.int (-i)) m1
  | .cmp o a b, r, m, Q => ev a r m fun x m1 => ev b r m1 fun y m2 => cmpD o x y m2 Q
  | .ch o o' a b c, r, m, Q => ev a r m fun x m1 => ev b r m1 fun y m2 => cmpD o x y m2 fun z m3 => onB z fun k => if k = true then ev c r m3 fun w m4 => cmpD o' y w m4 Q else Q (.bl false) m3
  | .and a b, r, m, Q => ev a r m fun x m1 => onB x fun k => if k = true then ev b r m1 Q else Q (.bl false) m1
  | .or a b, r, m, Q => ev a r m fun x m1 => onB x fun k => if k = true then Q (.bl true) m1 else ev b r m1 Q
  | .not a, r, m, Q => ev a r m fun x m1 => onB x fun k => Q (.bl (!k)) m1
  | .ife c a b, r, m, Q => ev c r m fun x m1 => onB x fun k => if k = true then ev a r m1 Q else ev b r m1 Q
  | .tup es, r, m, Q => evs es r m fun ds m1 => ds.length ≤ 1000000 ∧ Q (.tup ds) m1
  | .lst mu es, r, m, Q => evs es r m fun ds m1 => ds.length ≤ 1000000 ∧ newL mu ds m1 Q
  | .star _, _, _, _ => False
  | .ix a i, r, m, Q => ev a r m fun x m1 => ev i r m1 fun y m2 => ixD m2 x y Q
  | .sl mu a lo hi, r, m, Q => ev a r m fun x m1 => evO lo r m1 fun l m2 => evO hi r m2 fun u m3 => slD mu m3 x l u Q
  | .call j es, r, m, Q => evs es r m fun ds m1 => ds.length = es.length ∧ X.fn j ds m1 Q
  | .callk j pm es, r, m, Q => evs es r m fun ds m1 => ds.length = es.length ∧ X.fn j (pm.map fun i => ds.getD i .non) m1 Q
  | .b1 f a, r, m, Q => ev a r m fun x m1 => b1D f x m1 Q
  | .b2 f a b, r, m, Q => ev a r m fun x m1 => ev b r m1 fun y m2 => b2D f x y m2 Q
  | .isi a T, r, m, Q => ev a r m fun x m1 => ∃ t, tyD m1 x = some t ∧ Q (.bl (isiB t T)) m1
  | .m1 f a b, r, m, Q => ev a r m fun x m1 => (∃ ds, lstOf m1 x = some ds) ∧ ev b r m1 fun y m2 => m1D f x y m2 Q
  | .lc mu elt t it ifs own, r, m, Q => evI it r m fun ds G m1 => ∀ p, m1 p = none →
      lcL G (fun d m2 K => setT t d (wipeD r own) fun r1 => evT ifs r1 m2 fun b m3 => if b = true then ev elt r1 m3 fun e m4 => K (some e) m4 else K none m3) p ds [] (put m1 p (.lst [])) (lcEnd mu p Q)
  | .lrg mu lo hi, r, m, Q => ev lo r m fun x m1 => ev hi r m1 fun y m2 => onI x fun i => onI y fun j => small62 i ∧ small62 j ∧ (j - i).toNat ≤ 1000000 ∧ newL mu (rgD i j) m2 Q
  | .slot a c i, r, m, Q => ev a r m fun x m1 => ∃ p dx fs d, x = .ref p ∧ m1 p = some (.obj (X.cls c) dx fs) ∧ fs[i]? = some (some d) ∧ Q d m1
  | .mk c j es, r, m, Q => evs es r m fun ds m1 => ds.length = es.length ∧ ∀ p dx, m1 p = none → m1 dx = none → dx ≠ p → X.fn j (.ref p :: ds) (put (put m1 dx (.hid p)) p (.obj (X.cls c) dx [])) fun d m2 => d = .non ∧ Q (.ref p) m2
  | .meth j c a es, r, m, Q => ev a r m fun x m1 => ∃ p dx fs, x = .ref p ∧ m1 p = some (.obj (X.cls c) dx fs) ∧ evs es r m1 fun ds m2 => ds.length = es.length ∧ X.fn j (x :: ds) m2 Q
  | .frz a, r, m, Q => ev a r m fun x m1 => ∃ p ds, x = .ref p ∧ m1 p = some (.lst ds) ∧ Q (.lst ds) (del m1 p)
  | .never, _, _, _ => False
  | .dic _, _, m, Q => Q .dic m
  | .rev mu a, r, m, Q => ev a r m fun x m1 => revD mu m1 x Q
  | .m0 f a, r, m, Q => ev a r m fun x m1 => m0D f x m1 Q
  | .thaw a, r, m, Q => ev a r m fun x m1 => ∃ p c d, x = .ref p ∧ m1 p = some c ∧ thawC c = some d ∧ Q d (del m1 p)
  | .ltup es, r, m, Q => evs es r m fun ds m1 => ds.length ≤ 1000000 ∧ Q (.lv ds) m1
  | .disp mu ks es, r, m, Q => ∀ p, m p = none → evs es r (put m p (.dK [] [])) fun ds m1 => ds.length = ks.length ∧ ks.length ≤ 15 ∧ ks.Nodup ∧ m1 p = some (.dK [] []) ∧ endDK mu p ks ds m1 Q
  | .dOf mu a, r, m, Q => ev a r m fun x m1 => ∃ ks ds, lstOf m1 x = some (pairsD ks ds) ∧ ks.length = ds.length ∧ ks.Nodup ∧ newDK mu ks ds m1 Q
  | .dZip mu a b, r, m, Q => ev a r m fun x m1 => ev b r m1 fun y m2 => ∃ (ks : List (List Key)) (ds : List D), seqOf m2 x = some (ks.map fun k => D.lv (k.map keyD)) ∧ seqOf m2 y = some ds ∧ ks.length = ds.length ∧ ks.Nodup ∧ ks.length ≤ 1000000 ∧ newDT mu ks ds m2 Q
  | .dItems mu a, r, m, Q => ev a r m fun x m1 => ∃ ks ds, dKOf m1 x = some (ks, ds) ∧ ks.length = ds.length ∧ ks.length ≤ 1000000 ∧ newL mu (pairsD ks ds) m1 Q
  | .din neg k a, r, m, Q => ev k r m fun y m1 => ev a r m1 fun x m2 => ∃ ks ds k, dKOf m2 x = some (ks, ds) ∧ y = keyD k ∧ Q (.bl ((lookK ks ds k).isSome != neg)) m2
  | .dget a k d, r, m, Q => ev a r m fun x m1 => (∃ p, (dKOf m1 x = some p)) ∧ ev k r m1 fun y m2 => ev d r m2 fun z m3 => ∃ ks ds k, dKOf m3 x = some (ks, ds) ∧ y = keyD k ∧ Q ((lookK ks ds k).getD z) m3
  | .fld a c f, r, m, Q => ev a r m fun x m1 => ∃ ns ds d, ((∃ p, x = .ref p ∧ m1 p = some (.ins (X.cls c) ns ds)) ∨ x = .ob (X.cls c) ns ds) ∧ lookK ns ds f = some d ∧ Q d m1
  | .prop j c f a, r, m, Q => ev a r m fun x m1 => ∃ ns ds, x = .ob (X.cls c) ns ds ∧ X.fn j [x] m1 Q
  | .mkI c j es, r, m, Q => evs es r m fun ds m1 => ds.length = es.length ∧ ∀ p, m1 p = none → X.fn j (.ref p :: ds) (put m1 p (.ins (X.cls c) [] [])) fun d m2 => d = .non ∧ ∃ ns vs vs' m3, m2 p = some (.ins (X.cls c) ns vs) ∧ frzs (del m2 p) vs vs' m3 ∧ Q (.ob (X.cls c) ns vs') m3
  | .methI j c f a es, r, m, Q => ev a r m fun x m1 => ∃ ns vs, x = .ob (X.cls c) ns vs ∧ f ∉ ns ∧ evs es r m1 fun ds m2 => ds.length = es.length ∧ X.fn j (x :: ds) m2 Q
  | .lenO j c a, r, m, Q => ev a r m fun x m1 => ∃ ns vs, x = .ob (X.cls c) ns vs ∧ X.fn j [x] m1 fun d m2 => ∃ n : Nat, d = .int (n : Int) ∧ n ≤ 1000000 ∧ Q d m2
  | .inO j c neg a b, r, m, Q => ev a r m fun y m1 => ev b r m1 fun x m2 => ∃ ns vs, x = .ob (X.cls c) ns vs ∧ X.fn j [x, y] m2 fun d m3 => onB d fun k => Q (.bl (k != neg)) m3
  | .eqO j c neg a b, r, m, Q => ev a r m fun x m1 => ev b r m1 fun y m2 => ∃ ns vs, x = .ob (X.cls c) ns vs ∧ ((∃ z, y = .str z) ∨ ∃ ns' vs', y = .ob (X.cls c) ns' vs') ∧ X.fn j [x, y] m2 fun d m3 => onB d fun k => Q (.bl (k != neg)) m3
  | .isiO a c, r, m, Q => ev a r m fun x m1 => (∃ ns vs, x = .ob (X.cls c) ns vs ∧ Q (.bl true) m1) ∨ ((∃ z, x = .str z) ∧ Q (.bl false) m1)
  | .split mu a b, r, m, Q => ev a r m fun x m1 => (∃ z, x = .str z) ∧ ev b r m1 fun y m2 => ∃ z w : Str, x = .str z ∧ y = .str w ∧ (w.length == 0) = false ∧ z.length ≤ 1000000 ∧ newL mu ((Txt.split z w).map D.str) m2 Q
  | .join a b, r, m, Q => ev a r m fun x m1 => (∃ z, x = .str z) ∧ ev b r m1 fun y m2 => ∃ (w : Str) (zs : List Str), x = .str w ∧ seqOf m2 y = some (zs.map D.str) ∧ (zs.map (·.length)).sum + zs.length * w.length ≤ 1000000 ∧ Q (.str (Txt.join w zs)) m2
  | .lc2 mu elt t1 it1 t2 it2 ifs own own2, r, m, Q => evI it1 r m fun ds G m1 => ∀ p, m1 p = none →
      lcO G (fun d acc m2 K => setT t1 d (wipeD r own) fun r1 => evI it2 r1 m2 fun ds2 G2 m3 => lcI G2 (fun d2 m4 K2 => setT t2 d2 (wipeD r1 own2) fun r2 => evT ifs r2 m4 fun b m5 => if b = true then ev elt r2 m5 fun e m6 => K2 (some e) m6 else K2 none m5) p ds2 acc m3 K) p ds [] (put m1 p (.lst [])) (lcEnd mu p Q)
def evs : List E → Rho → Mem → (List D → Mem → Prop) → Prop
  | [], _, m, Q => Q [] m
  | .star a :: es, r, m, Q => ev a r m fun x m1 => ∃ ds, seqOf m1 x = some ds ∧ evs es r m1 fun es' m2 => Q (ds ++ es') m2
  | e :: es, r, m, Q => ev e r m fun x m1 => evs es r m1 fun ds m2 => Q (x :: ds) m2
def evO : Option E → Rho → Mem → (Option Int → Mem → Prop) → Prop
  | none, _, m, Q => Q none m
  | some e, r, m, Q => ev e r m fun x m1 => onI x fun i => Q (some i) m1
def evT : List E → Rho → Mem → (Bool → Mem → Prop) → Prop
  | [], _, m, Q => Q true m
  | e :: es, r, m, Q => ev e r m fun x m1 => onB x fun k => if k = true then evT es r m1 Q else Q false m1
def evI : Ita → Rho → Mem → (List D → (Mem → Prop) → Mem → Prop) → Prop
  | .sq a, r, m, Q => ev a r m fun x m1 => ∃ ds, seqOf m1 x = some ds ∧ Q ds (guard m1 x) m1
  | .rg1 a, r, m, Q => ev a r m fun x m1 => onI x fun i => i ≤ 1000000 ∧ -1000000 ≤ i ∧ Q (rgD 0 i) (fun _ => True) m1
  | .rg2 a b, r, m, Q => ev a r m fun x m1 => ev b r m1 fun y m2 => onI x fun i => onI y fun j => small62 i ∧ small62 j ∧ (j - i).toNat ≤ 1000000 ∧ Q (rgD i j) (fun _ => True) m2
  | .enum a, r, m, Q => ev a r m fun x m1 => ∃ ds, seqOf m1 x = some ds ∧ Q (enumD 0 ds) (guard m1 x) m1
  | .signs a, r, m, Q => ev a r m fun x m1 => ∃ z : Str, x = .str z ∧ z.length ≤ 1000000 ∧ Q (z.cps.toList.map fun c => D.str ⟨#[c]⟩) (fun _ => True) m1
  | .zip a b, r, m, Q => ev a r m fun x m1 => ev b r m1 fun y m2 => ∃ ds es, seqOf m2 x = some ds ∧ seqOf m2 y = some es ∧ Q (zipD ds es) (fun m' => guard m2 x m' ∧ guard m2 y m') m2
end

def evB (e : E) (r : Rho) (m : Mem) (Q : Bool → Mem → Prop) : Prop := ev X e r m fun x m1 => onB x fun b => Q b m1
/-- x[z] = d, x a list in a cell, a dict in a cell -/
def stL (x z d : D) (m : Mem) (Q : Mem → Prop) : Prop := match z with
  | .str k => ∃ p ks ds, x = .ref p ∧ m p = some (.dK ks ds) ∧ ks.length ≤ 1000000 ∧ Q (put m p (.dK (putKs ks (.inr k)) (putDs ks ds (.inr k) d)))
  | z => ∃ p ds k j, x = .ref p ∧ z = .int k ∧ m p = some (.lst ds) ∧ ixN ds.length k = some j ∧ Q (put m p (.lst (ds.set j d)))
mutual
def ex : S → Rho → Mem → Kt → Prop
  | .ret e, r, m, K => ev X e r m K.rt
  | .retN, _, m, K => K.rt .non m
  | .asg t e, r, m, K => ev X e r m fun x m1 => setT t x r fun r1 => K.nx r1 m1
  | .par is es, r, m, K => evs X es r m fun ds m1 => ds.length = is.length ∧ K.nx ((is.zip ds).foldl (fun r p => r.set p.1 (some p.2)) r) m1
  | .asgC i e, r, m, K => ev X e r m fun x m1 => K.nx (r.set i (some x)) m1
  | .setIx a i e, r, m, K => ev X e r m fun y m1 => ev X a r m1 fun x m2 => ev X i r m2 fun z m3 => ∃ p ds k j, x = .ref p ∧ z = .int k ∧ m3 p = some (.lst ds) ∧ ixN ds.length k = some j ∧ K.nx r (put m3 p (.lst (ds.set j y)))
  | .setD a i e, r, m, K => ev X e r m fun y m1 => ev X a r m1 fun x m2 => ev X i r m2 fun z m3 => ∃ p ks ds k, x = .ref p ∧ z = keyD k ∧ m3 p = some (.dK ks ds) ∧ ks.length ≤ 1000000 ∧ K.nx r (put m3 p (.dK (putKs ks k) (putDs ks ds k y)))
  | .setFld a c f e, r, m, K => ev X e r m fun y m1 => ev X a r m1 fun x m2 => ∃ p ns ds, x = .ref p ∧ m2 p = some (.ins (X.cls c) ns ds) ∧ ns.length ≤ 900 ∧ ns.Nodup ∧ K.nx r (put m2 p (.ins (X.cls c) (putKs ns f) (putDs ns ds f y)))
  | .asgC2 i e, r, m, K => ev X e r m fun x m1 => K.nx (r.set i (some x)) m1
  | .setAt a c i e, r, m, K => ev X e r m fun y m1 => ev X a r m1 fun x m2 => ∃ p dx fs, x = .ref p ∧ m2 p = some (.obj (X.cls c) dx fs) ∧ K.nx r (put m2 p (.obj (X.cls c) dx (putF i y fs)))
  | .setIx2 a i b j e, r, m, K => ev X e r m fun y m1 => ∃ d1 d2, y = .tup [d1, d2] ∧ ev X a r m1 fun x m2 => ev X i r m2 fun z m3 => stL x z d1 m3 fun m4 => ev X b r m4 fun x2 m5 => ev X j r m5 fun z2 m6 => stL x2 z2 d2 m6 fun m7 => K.nx r m7
  | .ex e, r, m, K => ev X e r m fun _ m1 => K.nx r m1
  | .ite c a b, r, m, K => evB X c r m fun k m1 => if k = true then exs a r m1 K else exs b r m1 K
  | .for_ t it b, r, m, K => evI X it r m fun ds G m1 => forL G (fun d r m K => setT t d r fun r1 => exs b r1 m K) ds r m1 K
  | .while_ c b, r, m, K => ∃ n, whL (fun r m Q => evB X c r m Q) (fun r m K => exs b r m K) n r m K
  | .never, _, _, _ => False
  | .brk, r, m, K => K.bk r m
  | .cnt, r, m, K => K.ct r m
  | .pass, r, m, K => K.nx r m
def exs : List S → Rho → Mem → Kt → Prop
  | [], r, m, K => K.nx r m
  | s :: ss, r, m, K => ex s r m { K with nx := fun r1 m1 => exs ss r1 m1 K }
end
end
/-- a def's body at its arguments: n names in all -/
def startD (n : Nat) (ds : List D) : Rho := ds.map some ++ List.replicate (n - ds.length) none
def body (X : Ctx) (n : Nat) (b : List S) (ds : List D) (m : Mem) (Q : KD) : Prop :=
  exs X b (startD n ds) m { nx := fun _ m1 => ∃ m2, SubO m2 m1 ∧ Q .non m2, rt := fun d m1 => ∃ m2, SubO m2 m1 ∧ Q d m2, bk := fun _ _ => False, ct := fun _ _ => False }
end Og
end
section
set_option maxHeartbeats 4000000
set_option autoImplicit false
/-! Og: the number systems: fractions, numbers modulo a small prime. -/
namespace Og
open PySem

abbrev bits (i : Int) : Nat := Builtin.Int.intBits i
theorem bits_le {i : Int} {n : Nat} (h : i.natAbs < 2 ^ n) : bits i ≤ n := by
  unfold bits Builtin.Int.intBits
  split
  · exact Nat.zero_le _
  · rename_i hz
    have hz' : i.natAbs ≠ 0 := by simpa using hz
    have := (Nat.log2_lt hz').mpr h
    omega
theorem lt_bits (i : Int) : i.natAbs < 2 ^ bits i := by
  unfold bits Builtin.Int.intBits
  split
  · rename_i hz
    have : i = 0 := by simpa using hz
    simp [this]
  · exact Nat.lt_log2_self
theorem mulOk_of {i j : Int} {n k : Nat} (h1 : bits i ≤ n) (h2 : bits j ≤ k) (h : n + k ≤ 2 ^ 27) : IntMulOk i j := by
  unfold IntMulOk
  intro z
  simp only [Bool.and_eq_true, decide_eq_true_eq, Builtin.Int.intTooBig] at z
  have h3 : bitsLine = 2 ^ 27 := rfl
  have h1' : Builtin.Int.intBits i ≤ n := h1
  have h2' : Builtin.Int.intBits j ≤ k := h2
  omega
theorem mulOk_small {i j : Int} (h : i.natAbs < 2 ^ 64) : IntMulOk i j := IntMulOk.of_left (bits_le h)

theorem mulOk_smallR {i j : Int} (h : j.natAbs < 2 ^ 64) : IntMulOk i j := by
  have hb : Builtin.Int.intBits j ≤ 64 := bits_le h
  unfold IntMulOk
  intro z
  simp only [Bool.and_eq_true, decide_eq_true_eq] at z
  have h3 : shortFactorBits = 64 := rfl
  omega
structure Sys where
  F : Type
  [ring : Lean.Grind.CommRing F]
  [dec : DecidableEq F]
  inv : F → F
  inv_mul : ∀ x : F, x ≠ 0 → inv x * x = 1
  one_ne : (1 : F) ≠ 0
  by_ : Int
  num : F → Int
  den : F → Int
  inj : ∀ x y : F, num x = num y → den x = den y → x = y
  num0 : num 0 = 0
  den0 : den 0 = 1
  num1 : num 1 = 1
  den1 : den 1 = 1
  ht : F → Nat
  num_ht : ∀ x, bits (num x) ≤ ht x
  den_ht : ∀ x, bits (den x) ≤ ht x
  I : Int → F
  I_add : ∀ i j, I (i + j) = I i + I j
  I_mul : ∀ i j, I (i * j) = I i * I j
  I_one : I 1 = 1
  num_den : ∀ x : F, x * I (den x) = I (num x)
  den_ne : ∀ x : F, I (den x) ≠ 0
  cd : Nat → Nat → F → Prop
  cd_I : ∀ {d : Nat} (i : Int), cd d (i.natAbs * d) (I i)
  cd_add : ∀ {d a b : Nat} {x y : F}, cd d a x → cd d b y → cd d (a + b) (x + y)
  cd_mul : ∀ {d e a b : Nat} {x y : F}, cd d a x → cd e b y → cd (d * e) (a * b) (x * y)
  cd_neg : ∀ {d a : Nat} {x : F}, cd d a x → cd d a (-x)
  cd_up : ∀ {d a : Nat} (e : Nat) {x : F}, cd d a x → cd (d * e) (a * e) x
  cd_le : ∀ {d a b : Nat} {x : F}, cd d a x → a ≤ b → cd d b x
  cd_zero : ∀ {d : Nat}, cd d 0 0
  cd_one : ∀ {d : Nat}, cd d d 1
  cd_div : ∀ {d b : Nat} {y : F}, 0 < d → cd d b y → y ≠ 0 → ∃ e : Nat, 0 < e ∧ e ≤ max b 1 ∧ ∀ (a : Nat) (x : F), cd d a x → cd e a (inv y * x)
  cd_ht : ∀ {d a n : Nat} {x : F}, cd d a x → 0 < d → d < 2 ^ n → a < 2 ^ n → 7 ≤ n → ht x ≤ n
instance (S : Sys) : Lean.Grind.CommRing S.F := S.ring
instance (S : Sys) : DecidableEq S.F := S.dec

/-! ### fractions -/
namespace Fr
def cd (d a : Nat) (x : Rat) : Prop := ∃ i : Int, i.natAbs ≤ a ∧ x * (d : Rat) = (i : Rat)
def ht (x : Rat) : Nat := max (bits x.num) (bits (x.den : Int))
theorem cd_add {d a b : Nat} {x y : Rat} (h : cd d a x) (h' : cd d b y) : cd d (a + b) (x + y) := by
  obtain ⟨i, h1, h2⟩ := h
  obtain ⟨j, h3, h4⟩ := h'
  refine ⟨i + j, by omega, ?_⟩
  rw [Rat.add_mul, h2, h4, Rat.intCast_add]
theorem cd_mul {d e a b : Nat} {x y : Rat} (h : cd d a x) (h' : cd e b y) : cd (d * e) (a * b) (x * y) := by
  obtain ⟨i, h1, h2⟩ := h
  obtain ⟨j, h3, h4⟩ := h'
  refine ⟨i * j, by rw [Int.natAbs_mul]; exact Nat.mul_le_mul h1 h3, ?_⟩
  rw [Rat.intCast_mul, ← h2, ← h4, Rat.natCast_mul]
  grind
theorem cd_neg {d a : Nat} {x : Rat} (h : cd d a x) : cd d a (-x) := by
  obtain ⟨i, h1, h2⟩ := h
  refine ⟨-i, by omega, ?_⟩
  rw [Rat.intCast_neg, ← h2]
  grind
theorem cd_up {d a : Nat} (e : Nat) {x : Rat} (h : cd d a x) : cd (d * e) (a * e) x := by
  obtain ⟨i, h1, h2⟩ := h
  refine ⟨i * (e : Int), by rw [Int.natAbs_mul]; exact Nat.mul_le_mul h1 (by simp), ?_⟩
  rw [Rat.intCast_mul, ← h2, Rat.natCast_mul, Rat.intCast_natCast]
  grind
theorem cd_le {d a b : Nat} {x : Rat} (h : cd d a x) (l : a ≤ b) : cd d b x := by
  obtain ⟨i, h1, h2⟩ := h
  exact ⟨i, by omega, h2⟩
theorem cd_zero {d : Nat} : cd d 0 0 := ⟨0, by simp, by simp⟩
theorem cd_one {d : Nat} : cd d d 1 := ⟨(d : Int), by simp, by rw [Rat.one_mul, Rat.intCast_natCast]⟩
theorem natAbs_cast (b : Int) : ((b.natAbs : Nat) : Rat) = (b : Rat) ∨ ((b.natAbs : Nat) : Rat) = -(b : Rat) := by
  rcases Int.natAbs_eq b with h | h
  · left
    rw [← Rat.intCast_natCast, ← h]
  · right
    rw [← Rat.intCast_natCast, ← Rat.intCast_neg]
    congr 1
    omega
theorem cd_div {d b : Nat} {y : Rat} (hd : 0 < d) (h : cd d b y) (hy : y ≠ 0) : ∃ e : Nat, 0 < e ∧ e ≤ max b 1 ∧ ∀ (a : Nat) (x : Rat), cd d a x → cd e a (y⁻¹ * x) := by
  obtain ⟨j, h1, h2⟩ := h
  have hd' : (d : Rat) ≠ 0 := by
    intro z
    have : d = 0 := by exact_mod_cast z
    omega
  have hj : j ≠ 0 := by
    intro z
    rw [z] at h2
    have h3 : y * (d : Rat) = 0 := by simpa using h2
    rcases Rat.mul_eq_zero.mp h3 with z | z
    · exact hy z
    · exact hd' z
  refine ⟨j.natAbs, by omega, by omega, fun a x ⟨i, h3, h4⟩ => ?_⟩
  have key : y⁻¹ * x * (j : Rat) = (i : Rat) := by
    rw [← h2, ← h4]
    grind
  rcases natAbs_cast j with z | z
  · exact ⟨i, h3, by rw [z, key]⟩
  · exact ⟨-i, by omega, by rw [z, Rat.intCast_neg, ← key]; grind⟩
theorem cd_ht {d a n : Nat} {x : Rat} (h : cd d a x) (h0 : 0 < d) (hd : d < 2 ^ n) (ha : a < 2 ^ n) (_ : 7 ≤ n) : ht x ≤ n := by
  obtain ⟨i, h1, h2⟩ := h
  have hd' : (d : Rat) ≠ 0 := by
    intro z
    have : d = 0 := by exact_mod_cast z
    omega
  have e : x = Rat.divInt i (d : Int) := by
    rw [Rat.divInt_eq_div, Rat.intCast_natCast, ← h2]
    grind
  unfold ht
  have e1 := Rat.num_divInt i (d : Int)
  have e2 := Rat.den_divInt i (d : Int)
  rw [← e] at e1 e2
  have b1 : x.num.natAbs ≤ a := by
    rw [e1, Int.sign_eq_one_of_pos (by omega), Int.one_mul]
    refine Nat.le_trans ?_ h1
    rw [Int.natAbs_ediv_of_dvd (by exact_mod_cast Int.gcd_dvd_right ..)]
    exact Nat.div_le_self _ _
  have b2 : x.den ≤ d := by
    rw [e2, if_neg (by omega)]
    exact Nat.le_trans (Nat.div_le_self _ _) (by simp)
  exact Nat.max_le.mpr ⟨bits_le (by omega), bits_le (by simp; omega)⟩
end Fr
def ratS : Sys where
  F := Rat
  inv := fun x => x⁻¹
  inv_mul := fun x h => Rat.inv_mul_cancel x h
  one_ne := by decide
  by_ := 0
  num := Rat.num
  den := fun x => (x.den : Int)
  inj := fun x y h1 h2 => Rat.ext h1 (by exact_mod_cast h2)
  num0 := rfl
  den0 := rfl
  num1 := rfl
  den1 := rfl
  ht := Fr.ht
  num_ht := fun x => Nat.le_max_left _ _
  den_ht := fun x => Nat.le_max_right _ _
  I := fun i => (i : Rat)
  I_add := fun i j => Rat.intCast_add i j
  I_mul := fun i j => Rat.intCast_mul i j
  I_one := rfl
  num_den := fun x => by
    show x * ((x.den : Int) : Rat) = (x.num : Rat)
    rw [Rat.intCast_natCast]
    have h := Rat.num_divInt_den x
    rw [Rat.divInt_eq_div, Rat.intCast_natCast] at h
    have hd : ((x.den : Nat) : Rat) ≠ 0 := by
      intro z
      have : x.den = 0 := by exact_mod_cast z
      exact x.den_nz this
    have e : (x.num : Rat) / (x.den : Rat) * (x.den : Rat) = (x.num : Rat) := Rat.div_mul_cancel hd
    rw [h] at e
    exact e
  den_ne := fun x => by
    show ((x.den : Int) : Rat) ≠ 0
    intro z
    have : (x.den : Int) = 0 := by exact_mod_cast z
    have := x.den_nz
    omega
  cd := Fr.cd
  cd_I := fun {d} i => ⟨i * (d : Int), by rw [Int.natAbs_mul]; simp, by rw [Rat.intCast_mul, Rat.intCast_natCast]⟩
  cd_add := Fr.cd_add
  cd_mul := Fr.cd_mul
  cd_neg := Fr.cd_neg
  cd_up := Fr.cd_up
  cd_le := Fr.cd_le
  cd_zero := Fr.cd_zero
  cd_one := Fr.cd_one
  cd_div := Fr.cd_div
  cd_ht := Fr.cd_ht

/-! ### modulo p -/
namespace Zp
variable (p : Nat) [NeZero p]
def inv (x : Fin p) : Fin p := ((List.finRange p).find? fun y => y * x == 1).getD 0
structure Pr : Prop where
  two : 2 ≤ p
  small : p < 128
  inv : ∀ x : Fin p, x ≠ 0 → inv p x * x = 1
end Zp
theorem zp_I (p : Nat) [NeZero p] (i : Int) : ((Fin.ofNat p (i % (p : Int)).toNat).val : Int) = i % (p : Int) := by
  have hp : (0 : Int) < p := by have := Nat.pos_of_ne_zero (NeZero.ne p); omega
  have h1 := Int.emod_nonneg i (Int.ne_of_gt hp)
  have h2 := Int.emod_lt_of_pos i hp
  show ((((i % (p : Int)).toNat % p : Nat)) : Int) = _
  rw [Nat.mod_eq_of_lt (by omega)]
  exact Int.toNat_of_nonneg h1
theorem fin_eq {p : Nat} {x y : Fin p} (h : (x.val : Int) = (y.val : Int)) : x = y := Fin.ext (by exact_mod_cast h)
def zpS (p : Nat) [NeZero p] (h : Zp.Pr p) : Sys where
  F := Fin p
  inv := Zp.inv p
  inv_mul := h.inv
  one_ne := by
    have := h.two
    intro z
    have z' := congrArg Fin.val z
    have z2 : 1 % p = 0 % p := z'
    rw [Nat.mod_eq_of_lt (by omega), Nat.zero_mod] at z2
    cases z2
  by_ := (p : Int)
  num := fun x => (x.val : Int)
  den := fun _ => 1
  inj := fun x y h1 _ => Fin.ext (by exact_mod_cast h1)
  num0 := by simp
  den0 := rfl
  num1 := by
    have := h.two
    show ((1 % p : Nat) : Int) = 1
    rw [Nat.mod_eq_of_lt (by omega)]
    rfl
  den1 := rfl
  ht := fun _ => 7
  num_ht := fun x => bits_le (by
    have := x.isLt
    have := h.small
    simp
    omega)
  den_ht := fun _ => by decide
  I := fun i => Fin.ofNat p (i % (p : Int)).toNat
  I_add := fun i j => fin_eq (by
    rw [zp_I, Fin.val_add, Int.natCast_emod, Int.natCast_add, zp_I, zp_I, ← Int.add_emod])
  I_mul := fun i j => fin_eq (by
    rw [zp_I, Fin.val_mul, Int.natCast_emod, Int.natCast_mul, zp_I, zp_I, ← Int.mul_emod])
  I_one := fin_eq (by
    have := h.two
    rw [zp_I]
    show 1 % (p : Int) = ((1 % p : Nat) : Int)
    rw [Int.natCast_emod]; rfl)
  num_den := fun x => fin_eq (by
    have h1 : ((Fin.ofNat p (1 % (p : Int)).toNat).val : Int) = 1 := by
      have := h.two
      rw [zp_I, Int.emod_eq_of_lt (by omega) (by omega)]
    rw [zp_I, Fin.val_mul, Int.natCast_emod, Int.natCast_mul, h1, Int.mul_one])
  den_ne := fun x z => by
    have h1 := congrArg (fun y : Fin p => (y.val : Int)) z
    have := h.two
    rw [zp_I, Int.emod_eq_of_lt (by omega) (by omega)] at h1
    have h2 : (1 : Int) = ((0 % p : Nat) : Int) := h1
    rw [Nat.zero_mod] at h2
    cases h2
  cd := fun _ _ _ => True
  cd_I := by intros; trivial
  cd_add := fun _ _ => trivial
  cd_mul := fun _ _ => trivial
  cd_neg := fun _ => trivial
  cd_up := by intros; trivial
  cd_le := fun _ _ => trivial
  cd_zero := trivial
  cd_one := trivial
  cd_div := fun _ _ _ => ⟨1, by omega, by omega, fun _ _ _ => trivial⟩
  cd_ht := fun _ _ _ _ h => h
theorem pr2 : Zp.Pr 2 := ⟨by decide, by decide, by decide +kernel⟩
theorem pr3 : Zp.Pr 3 := ⟨by decide, by decide, by decide +kernel⟩
theorem pr5 : Zp.Pr 5 := ⟨by decide, by decide, by decide +kernel⟩
theorem pr97 : Zp.Pr 97 := ⟨by decide, by decide, by decide +kernel⟩
inductive Ks | q | z2 | z3 | z5 | z97
def sys : Ks → Sys
  | .q => ratS | .z2 => zpS 2 pr2 | .z3 => zpS 3 pr3 | .z5 => zpS 5 pr5 | .z97 => zpS 97 pr97
/-- a fraction, or a number modulo p -/
theorem sys_cases {P : Sys → Prop} (h0 : P ratS) (h1 : ∀ (p : Nat) [NeZero p] (h : Zp.Pr p), P (zpS p h)) : ∀ k, P (sys k)
  | .q => h0 | .z2 => h1 2 pr2 | .z3 => h1 3 pr3 | .z5 => h1 5 pr5 | .z97 => h1 97 pr97
end Og
end
section
set_option maxHeartbeats 4000000
set_option autoImplicit false
/-! Og: how the systems' numbers are computed. -/
namespace Og
open PySem
def Sys.d (S : Sys) (x : S.F) : D := .tup [.int (S.num x), .int (S.den x)]
def Sys.quo (S : Sys) (t b : Int) (x : S.F) : Prop := S.I b ≠ 0 ∧ x * S.I b = S.I t
section
variable {S : Sys}
theorem quo_add (x y : S.F) : S.quo (S.num x * S.den y + S.num y * S.den x) (S.den x * S.den y) (x + y) := by
  have h1 := S.num_den x
  have h2 := S.num_den y
  have h3 := S.den_ne x
  have h4 := S.den_ne y
  have i3 := S.inv_mul _ h3
  have i4 := S.inv_mul _ h4
  have o := S.one_ne
  refine ⟨?_, ?_⟩
  · rw [S.I_mul]
    intro z
    apply o
    have : S.inv (S.I (S.den x)) * S.inv (S.I (S.den y)) * (S.I (S.den x) * S.I (S.den y)) = 1 := by grind
    rw [z] at this
    grind
  · rw [S.I_mul, S.I_add, S.I_mul, S.I_mul]
    grind
theorem quo_mul (x y : S.F) : S.quo (S.num x * S.num y) (S.den x * S.den y) (x * y) := by
  refine ⟨(quo_add x y).1, ?_⟩
  have h1 := S.num_den x
  have h2 := S.num_den y
  rw [S.I_mul, S.I_mul]
  grind
theorem I_neg (i : Int) : S.I (-i) = -S.I i := by
  have h := S.I_add i (-i)
  rw [Int.add_right_neg] at h
  have h0 := S.I_add 0 0
  rw [Int.add_zero] at h0
  grind
theorem I_zero : S.I 0 = 0 := by
  have h0 := S.I_add 0 0
  rw [Int.add_zero] at h0
  grind
theorem quo_neg (x : S.F) : S.quo (-S.num x) (S.den x) (-x) := by
  refine ⟨S.den_ne x, ?_⟩
  have h1 := S.num_den x
  rw [I_neg]
  grind
theorem num_zero {x : S.F} : S.num x = 0 ↔ x = 0 := by
  constructor
  · intro h
    have h1 := S.num_den x
    rw [h, I_zero] at h1
    have i3 := S.inv_mul _ (S.den_ne x)
    grind
  · rintro rfl; exact S.num0
theorem quo_inv {x : S.F} (hx : x ≠ 0) : S.quo (S.den x) (S.num x) (S.inv x) := by
  have h1 := S.num_den x
  have i := S.inv_mul x hx
  have i3 := S.inv_mul _ (S.den_ne x)
  refine ⟨?_, by rw [← h1]; grind⟩
  intro z
  apply hx
  rw [← h1] at z
  grind
theorem quo_int (i : Int) : S.quo i 1 (S.I i) := ⟨by rw [S.I_one]; exact S.one_ne, by rw [S.I_one]; grind⟩
theorem quo_self (x : S.F) : S.quo (S.num x) (S.den x) x := ⟨S.den_ne x, S.num_den x⟩
end
/-! ### fractions -/
def gsig (t b : Int) : Int := if 0 < b then (Int.gcd t b : Int) else -(Int.gcd t b : Int)
theorem rat_quo {t b : Int} {x : Rat} (h : ratS.quo t b x) : b ≠ 0 ∧ gsig t b ≠ 0 ∧ t.fdiv (gsig t b) = x.num ∧ b.fdiv (gsig t b) = (x.den : Int) := by
  obtain ⟨h1, h2⟩ := h
  have hb : b ≠ 0 := fun z => h1 (by rw [z]; rfl)
  have h1' : (b : Rat) ≠ 0 := h1
  have h2' : x * (b : Rat) = (t : Rat) := h2
  have e : x = Rat.divInt t b := by
    rw [Rat.divInt_eq_div, ← h2']
    grind
  have e1 := Rat.num_divInt t b
  have e2 := Rat.den_divInt t b
  rw [← e] at e1 e2
  rw [if_neg hb] at e2
  have hg : (Int.gcd b t : Int) ≠ 0 := by
    have : Int.gcd b t ≠ 0 := fun z => hb (Int.gcd_eq_zero_iff.mp z).1
    omega
  have gc : Int.gcd t b = Int.gcd b t := Int.gcd_comm t b
  have gt : (Int.gcd b t : Int) ∣ t := Int.gcd_dvd_right ..
  have gb : (Int.gcd b t : Int) ∣ b := Int.gcd_dvd_left ..
  obtain ⟨t', ht⟩ := gt
  obtain ⟨b', hb'⟩ := gb
  have dn : ((x.den : Nat) : Int) = (b'.natAbs : Int) := by
    rw [e2]
    have : b.natAbs = Int.gcd b t * b'.natAbs := by
      conv => lhs; rw [hb']
      rw [Int.natAbs_mul]; simp
    rw [this, Nat.mul_div_cancel_left _ (by omega)]
  have nm : x.num = b.sign * t' := by
    rw [e1]
    conv => lhs; lhs; rhs; rw [ht]
    rw [show b.sign * ((Int.gcd b t : Int) * t') = (Int.gcd b t : Int) * (b.sign * t') from by rw [← Int.mul_assoc, Int.mul_comm b.sign, Int.mul_assoc]]
    exact Int.mul_ediv_cancel_left _ hg
  have hg0 : gsig t b ≠ 0 := by unfold gsig; rw [gc]; split <;> omega
  refine ⟨hb, hg0, ?_, ?_⟩
  · have : t = x.num * gsig t b := by
      rw [nm]
      unfold gsig
      rw [gc]
      by_cases hp : 0 < b
      · rw [if_pos hp, Int.sign_eq_one_of_pos hp, Int.one_mul, Int.mul_comm]; exact ht
      · rw [if_neg hp, Int.sign_eq_neg_one_of_neg (by omega), Int.neg_mul, Int.one_mul, Int.neg_mul_neg, Int.mul_comm]; exact ht
    conv => lhs; lhs; rw [this]
    exact Int.mul_fdiv_cancel _ hg0
  · have : b = (x.den : Int) * gsig t b := by
      rw [dn]
      unfold gsig
      rw [gc]
      have gp : (0 : Int) < (Int.gcd b t : Int) := by omega
      by_cases hp : 0 < b
      · have hb2 : 0 ≤ b' := by
          rcases Int.lt_or_le b' 0 with z | z
          · exfalso
            have := Int.mul_neg_of_pos_of_neg gp z
            rw [← hb'] at this
            omega
          · exact z
        rw [if_pos hp, Int.natAbs_of_nonneg hb2, Int.mul_comm]; exact hb'
      · have hb2 : b' < 0 := by
          rcases Int.lt_or_le b' 0 with z | z
          · exact z
          · exfalso
            have := Int.mul_nonneg (Int.le_of_lt gp) z
            rw [← hb'] at this
            omega
        rw [if_neg hp, Int.ofNat_natAbs_of_nonpos (Int.le_of_lt hb2), Int.neg_mul_neg, Int.mul_comm]; exact hb'
    conv => lhs; lhs; rw [this]
    exact Int.mul_fdiv_cancel _ hg0

/-! ### modulo p -/
theorem zp_num (p : Nat) [NeZero p] (h : Zp.Pr p) (i : Int) : (zpS p h).num ((zpS p h).I i) = i % (p : Int) := zp_I p i
theorem zp_quo {p : Nat} [NeZero p] {h : Zp.Pr p} {t b : Int} {x : (zpS p h).F} (q : (zpS p h).quo t b x) {f : Int} (hf : (zpS p h).I f * (zpS p h).I b = 1) : (zpS p h).num x = (t * f) % (p : Int) := by
  obtain ⟨h1, h2⟩ := q
  rw [← zp_num p h, (zpS p h).I_mul, ← h2]
  congr 1
  grind
theorem zp_I_eq {p : Nat} [NeZero p] {h : Zp.Pr p} {i j : Int} : (zpS p h).I i = (zpS p h).I j ↔ i % (p : Int) = j % (p : Int) := by
  constructor
  · intro e
    rw [← zp_num p h, ← zp_num p h, e]
  · intro e
    refine (zpS p h).inj _ _ ?_ rfl
    rw [zp_num, zp_num, e]
theorem zp_I_mod {p : Nat} [NeZero p] {h : Zp.Pr p} {i : Int} : (zpS p h).I (i % (p : Int)) = (zpS p h).I i := zp_I_eq.mpr (Int.emod_emod_of_dvd _ (Int.dvd_refl _))
/-- a number's inverse among 1 .. p - 1 -/
theorem zp_back {p : Nat} [NeZero p] {h : Zp.Pr p} {b : Int} (hb : (zpS p h).I b ≠ 0) : ∃ f : Nat, 1 ≤ f ∧ f < p ∧ ((f : Int) * b) % (p : Int) = 1 := by
  have hi := (zpS p h).inv_mul _ hb
  have h2 := h.two
  let y : Fin p := (zpS p h).inv ((zpS p h).I b)
  have e : (zpS p h).I (y.val : Int) = (zpS p h).inv ((zpS p h).I b) := (zpS p h).inj _ _ (by
    rw [zp_num]
    have := y.isLt
    exact Int.emod_eq_of_lt (by omega) (by omega)) rfl
  have key : (((y.val : Nat) : Int) * b) % (p : Int) = 1 := by
    have : (zpS p h).I ((y.val : Int) * b) = (zpS p h).I 1 := by rw [(zpS p h).I_mul, e, hi, (zpS p h).I_one]
    rw [zp_I_eq] at this
    rw [this]
    exact Int.emod_eq_of_lt (by omega) (by omega)
  refine ⟨y.val, ?_, y.isLt, key⟩
  rcases Nat.eq_zero_or_pos y.val with z | z
  · rw [z] at key
    simp at key
  · exact z
theorem zp_one {p : Nat} [NeZero p] {h : Zp.Pr p} {f b : Int} (e : (f * b) % (p : Int) = 1) : (zpS p h).I f * (zpS p h).I b = 1 := by
  have h2 := h.two
  rw [← (zpS p h).I_mul, ← (zpS p h).I_one, zp_I_eq, e]
  exact (Int.emod_eq_of_lt (by omega) (by omega)).symm
theorem fmod_p {i : Int} {p : Nat} : i.fmod (p : Int) = i % (p : Int) := Int.fmod_eq_emod_of_nonneg _ (by omega)

theorem zp_num_I {p : Nat} [NeZero p] {h : Zp.Pr p} (x : (zpS p h).F) : (zpS p h).I ((zpS p h).num x) = x := by
  have h1 := (zpS p h).num_den x
  have h2 : (zpS p h).den x = 1 := rfl
  rw [h2, (zpS p h).I_one] at h1
  grind
theorem zp_add {p : Nat} [NeZero p] {h : Zp.Pr p} (x y : (zpS p h).F) : (zpS p h).num (x + y) = ((zpS p h).num x + (zpS p h).num y) % (p : Int) := by
  rw [← zp_num p h, (zpS p h).I_add, zp_num_I, zp_num_I]
theorem zp_mul {p : Nat} [NeZero p] {h : Zp.Pr p} (x y : (zpS p h).F) : (zpS p h).num (x * y) = ((zpS p h).num x * (zpS p h).num y) % (p : Int) := by
  rw [← zp_num p h, (zpS p h).I_mul, zp_num_I, zp_num_I]
theorem zp_range {p : Nat} [NeZero p] {h : Zp.Pr p} (x : (zpS p h).F) : 0 ≤ (zpS p h).num x ∧ (zpS p h).num x < p := by
  have : (zpS p h).num x = ((x : Fin p).val : Int) := rfl
  have := (x : Fin p).isLt
  omega
theorem den_pos (k : Ks) : ∀ x : (sys k).F, 1 ≤ (sys k).den x := sys_cases (P := fun S => ∀ x : S.F, 1 ≤ S.den x) (fun x => by
  have := Rat.den_pos (self := x)
  show (1 : Int) ≤ ((Rat.den x : Nat) : Int)
  omega) (fun p _ h x => by show (1 : Int) ≤ 1; omega) k
theorem rat_coprime (x : Rat) : Int.gcd x.num (x.den : Int) = 1 := x.reduced
end Og
end
section
set_option autoImplicit true
set_option maxHeartbeats 4000000
/-! Og: values: each operator's rule by data. -/
namespace Og
open PySem PySem.Spec PyProof.Rows L2

/-- where an answer may go on -/
def Fin (K : PySem.W.Frag) (m : Mem) (H : Hp) (Q : KD) (Q' : VK) : Prop := ∀ d m' v H', Q d m' → Rep K m' H' v d → MemOk K m' H' → Step m H m' H' → Q' v H'
def OpD (X : Cx) (f : Value → Value → Sem Value) (sem : D → D → Mem → KD → Prop) : Prop :=
  ∃ r, OpR X f r ∧ ∀ x y d e m H Q Q', MemOk X.K m H → Rep X.K m H x d → Rep X.K m H y e → sem d e m Q → Fin X.K m H Q Q' → r x y H Q'
theorem OpD.mono {X : Cx} {f : Value → Value → Sem Value} {s s' : D → D → Mem → KD → Prop} (h : OpD X f s) (w : ∀ d e m Q, s' d e m Q → s d e m Q) : OpD X f s' := by
  obtain ⟨r, hr, hh⟩ := h
  exact ⟨r, hr, fun x y d e m H Q Q' hm h1 h2 h3 h4 => hh x y d e m H Q Q' hm h1 h2 (w _ _ _ _ h3) h4⟩
theorem OpD.or {X : Cx} {f : Value → Value → Sem Value} {s s' : D → D → Mem → KD → Prop} (h : OpD X f s) (h' : OpD X f s') : OpD X f (fun d e m Q => s d e m Q ∨ s' d e m Q) := by
  obtain ⟨r, hr, hh⟩ := h
  obtain ⟨r', hr', hh'⟩ := h'
  refine ⟨_, hr.or hr', fun x y d e m H Q Q' hm h1 h2 h3 h4 => ?_⟩
  rcases h3 with h3 | h3
  · exact .inl (hh x y d e m H Q Q' hm h1 h2 h3 h4)
  · exact .inr (hh' x y d e m H Q Q' hm h1 h2 h3 h4)
section
variable {K : PySem.W.Frag} {m : Mem} {H : Hp} {Q : KD} {Q' : VK} {v : V} {d : D}
theorem Fin.here (f : Fin K m H Q Q') (hm : MemOk K m H) (r : Rep K m H v d) (q : Q d m) : Q' v H := f d m v H q r hm Step.refl
theorem rep_int {i : Int} : Rep K m H (.int i) (.int i) := by simp [Rep]
theorem rep_bl {b : Bool} : Rep K m H (.bl b) (.bl b) := by simp [Rep]
theorem rep_non : Rep K m H .non .non := by simp [Rep]
theorem rep_str {x : Str} : Rep K m H (.str x) (.str x) := by simp [Rep]
theorem rep_ref {a : Addr} : Rep K m H (.ref a) (.ref a) := by simp [Rep]
theorem Rep.int {i : Int} (h : Rep K m H v (.int i)) : v = .int i := by simpa [Rep] using h
theorem Rep.bl {b : Bool} (h : Rep K m H v (.bl b)) : v = .bl b := by simpa [Rep] using h
theorem Rep.non (h : Rep K m H v .non) : v = .non := by simpa [Rep] using h
theorem Rep.str {x : Str} (h : Rep K m H v (.str x)) : v = .str x := by simpa [Rep] using h
theorem Rep.ref {a : Addr} (h : Rep K m H v (.ref a)) : v = .ref a := by simpa [Rep] using h
theorem Rep.tup {ds : List D} (h : Rep K m H v (.tup ds)) : ∃ a xs, v = .ref a ∧ SqTm K m H a xs ∧ Reps K m H xs ds := by simpa only [Rep] using h
theorem Rep.lst {ds : List D} (h : Rep K m H v (.lst ds)) : ∃ a xs, v = .ref a ∧ SqLm K m H a xs ∧ Reps K m H xs ds := by simpa only [Rep] using h
theorem Rep.dic (h : Rep K m H v .dic) : ∃ a kvs, v = .ref a ∧ m a = none ∧ H a = some (.dK kvs) := by simpa only [Rep] using h
/-- a new tuple -/
theorem Fin.tup {vs : List V} {ds : List D} (f : Fin K m H Q Q') (hm : MemOk K m H) (r : Reps K m H vs ds) (q : Q (.tup ds) m) : ∀ p, H p = none → Q' (.ref p) (L2.upd H p (.tup vs)) := fun p hp => by
  refine f _ m _ _ q ?_ (hm.fresh hp) (Step.fresh hp)
  simp only [Rep]
  exact ⟨p, vs, rfl, .inl ⟨hm.free hp, upd_same⟩, Reps.step (Step.fresh hp) _ _ r⟩
theorem Rep.dK {ks : List Key} {ds : List D} (h : Rep K m H v (.dK ks ds)) : ∃ a vs, v = .ref a ∧ m a = none ∧ H a = some (.dK (ks.zip vs)) ∧ ks.length = vs.length ∧ Reps K m H vs ds := by simpa only [Rep] using h
theorem Rep.dT {ks : List (List Key)} {ds : List D} (h : Rep K m H v (.dT ks ds)) : ∃ a vs, v = .ref a ∧ m a = none ∧ H a = some (.dT (ks.zip vs)) ∧ ks.length = vs.length ∧ Reps K m H vs ds := by simpa only [Rep] using h
theorem Rep.lv {ds : List D} (h : Rep K m H v (.lv ds)) : ∃ a xs, v = .ref a ∧ m a = none ∧ H a = some (.tup xs) ∧ Reps K m H xs ds := by simpa only [Rep] using h
theorem Rep.ob {C : Addr} {ns : List Str} {ds : List D} (h : Rep K m H v (.ob C ns ds)) : ∃ a dx vs, v = .ref a ∧ m a = none ∧ H a = some (.ins C dx (ns.zip vs)) ∧ ns.length = vs.length ∧ Reps K m H vs ds := by simpa only [Rep] using h
theorem Fin.lst {mu : Bool} {vs : List V} {ds : List D} (f : Fin K m H Q Q') (hm : MemOk K m H) (r : Reps K m H vs ds) (q : newL mu ds m Q) : ∀ p, H p = none → Q' (.ref p) (L2.upd H p (.lst vs)) := fun p hp => by
  cases mu with
  | true =>
    refine f _ _ _ _ (q p (hm.free hp)) rep_ref (hm.newLst hp r) (Step.newLst hp)
  | false =>
    refine f _ m _ _ q ?_ (hm.fresh hp) (Step.fresh hp)
    simp only [Rep]
    exact ⟨p, vs, rfl, .inl ⟨hm.free hp, .inl upd_same⟩, Reps.step (Step.fresh hp) _ _ r⟩
/-- a list or tuple, as values -/
theorem seq_val {ds : List D} (hm : MemOk K m H) (r : Rep K m H v d) (h : seqOf m d = some ds) : ∃ a xs, v = .ref a ∧ Reps K m H xs ds ∧ (SqL K H a xs ∨ SqT K H a xs) := by
  cases d with
  | tup es =>
    cases h
    obtain ⟨a, xs, e, q, rs⟩ := r.tup
    exact ⟨a, xs, e, rs, .inr q.sq⟩
  | lst es =>
    cases h
    obtain ⟨a, xs, e, q, rs⟩ := r.lst
    exact ⟨a, xs, e, rs, .inl q.sq⟩
  | ref p =>
    have e := r.ref
    unfold seqOf at h
    simp only at h
    split at h
    · rename_i es q
      cases h
      obtain ⟨vs, hp, rs⟩ := hm p _ q
      exact ⟨p, vs, e, rs, .inl (SqL.of hp)⟩
    · cases h
  | _ => cases h
theorem lst_val {ds : List D} (hm : MemOk K m H) (r : Rep K m H v d) (h : lstOf m d = some ds) : ∃ a xs, v = .ref a ∧ Reps K m H xs ds ∧ SqL K H a xs := by
  cases d with
  | lst es =>
    cases h
    obtain ⟨a, xs, e, q, rs⟩ := r.lst
    exact ⟨a, xs, e, rs, q.sq⟩
  | ref p =>
    have e := r.ref
    unfold lstOf at h
    simp only at h
    split at h
    · rename_i es q
      cases h
      obtain ⟨vs, hp, rs⟩ := hm p _ q
      exact ⟨p, vs, e, rs, SqL.of hp⟩
    · cases h
  | _ => cases h
end
theorem line6 {n : Nat} (h : n ≤ 1000000) : n ≤ sizeLine := by rw [sizeLine_eq]; omega

section
variable {X : Cx}
/-! ### two ints -/
def semI (C : Int → Int → Prop) (g : Int → Int → D) : D → D → Mem → KD → Prop := fun d e m Q => ∃ i j, d = .int i ∧ e = .int j ∧ C i j ∧ Q (g i j) m
theorem opD_rI {f : Value → Value → Sem Value} {C : Int → Int → Prop} {g : Int → Int → Int} (h : OpR X f (rI C fun i j => .int (g i j))) : OpD X f (semI C fun i j => .int (g i j)) :=
  ⟨_, h, fun x y d e m H Q Q' hm h1 h2 ⟨i, j, ed, ee, hc, q⟩ fin => by
    subst ed ee
    exact ⟨i, j, h1.int, h2.int, hc, fin.here hm rep_int q⟩⟩
theorem opD_rI0 {f : Value → Value → Sem Value} {g : Int → Int → Int} (h : OpR X f (rI0 fun i j => .int (g i j))) : OpD X f (semI (fun _ _ => True) fun i j => .int (g i j)) :=
  ⟨_, h, fun x y d e m H Q Q' hm h1 h2 ⟨i, j, ed, ee, hc, q⟩ fin => by
    subst ed ee
    exact ⟨i, j, h1.int, h2.int, fin.here hm rep_int q⟩⟩
theorem opD_rB0 {f : Value → Value → Sem Value} {g : Int → Int → Bool} (h : OpR X f (rI0 fun i j => .bl (g i j))) : OpD X f (semI (fun _ _ => True) fun i j => .bl (g i j)) :=
  ⟨_, h, fun x y d e m H Q Q' hm h1 h2 ⟨i, j, ed, ee, hc, q⟩ fin => by
    subst ed ee
    exact ⟨i, j, h1.int, h2.int, fin.here hm rep_bl q⟩⟩
theorem op_mulA : OpR X (binaryOp .Mult) (rI IntMulOk fun i j => .int (i * j)) := opI fun _ _ _ _ _ _ _ hc q => mul_int q hc
theorem op_powA : OpR X (binaryOp .Pow) (rI (fun i j => 0 ≤ j ∧ (Builtin.Int.intBits i : Int) * j ≤ 2 ^ 27) fun i j => .int (i ^ j.toNat)) := opI fun _ _ _ _ _ _ _ hc q => pow_int hc.1 hc.2 q
theorem op_fdivA (py : ∀ s : Shared, X.Ok → (∀ b o, X.base.get? b = some o → s.heap.get? b = some o) → PylongRoom (model X.prog X.w) X.A s) : OpR X (binaryOp .FloorDiv) (rI (fun _ j => j ≠ 0) fun i j => .int (i.fdiv j)) := by
  intro pins s σ H x y v u Q I rx ry h
  obtain ⟨i, j, rfl, rfl, hc, q⟩ := h
  obtain ⟨t, rfl⟩ := rx
  obtain ⟨t', rfl⟩ := ry
  exact floordiv_int hc ⟨.int (i.fdiv j), H, I.tok _, ⟨_, rfl⟩, q⟩ (.inr (py s I.ok I.bk))
abbrev PyR (X : Cx) : Prop := ∀ s : Shared, X.Ok → (∀ b o, X.base.get? b = some o → s.heap.get? b = some o) → PylongRoom (model X.prog X.w) X.A s

theorem op_catL : OpR X (binaryOp .Add) (fun x y H Q => ∃ l b xs zs, x = V.ref l ∧ y = V.ref b ∧ SqL X.K H l xs ∧ SqL X.K H b zs ∧ xs.length + zs.length ≤ sizeLine ∧ ∀ p, H p = none → Q (.ref p) (upd H p (.lst (xs ++ zs)))) := by
  intro pins s σ H x y v u Q I rx ry h
  obtain ⟨l, b, xs, zs, rfl, rfl, hH, hB, hz, q⟩ := h
  cases rx
  cases ry
  obtain ⟨its, r, ⟨⟨cls, dd, data, sl⟩, n, ho, hc, _, hd⟩, hl⟩ := I.list hH
  obtain ⟨its2, r2, ⟨⟨cls2, dd2, data2, sl2⟩, n2, ho2, hc2, _, hd2⟩, hl2⟩ := I.list hB
  simp only at hc hd hc2 hd2
  subst hc hd hc2 hd2
  have e : its.toArray ++ its2.toArray = (its ++ its2).toArray := by simp
  have e1 := r.length
  have e2 := r2.length
  refine concat_meets ⟨_, ho, rfl⟩ ⟨_, ho2, rfl⟩ noFill_list_add seq_list_add PySem.F.slot_list_add PySem.F.entry_list_add (PySem.F.args_list_add_2 _ _) (list_addW l b its.toArray its2.toArray n n2 dd dd2 sl sl2 (by rw [List.size_toArray, List.size_toArray]; omega)) ⟨ho, ho2, ?_⟩
  rw [e]
  exact ⟨.ref _, _, I.lnew (t' := s.toks) (r.append r2) (by rw [List.length_append]; omega), rfl, q _ I.fresh⟩
theorem opD_add : OpD X (binaryOp .Add) (opD .add) := by
  have cat : OpD X (binaryOp .Add) (fun d e m Q => ∃ a b, d = .tup a ∧ e = .tup b ∧ a.length + b.length ≤ 1000000 ∧ Q (.tup (a ++ b)) m) := ⟨_, op_catA, fun x y d e m H Q Q' hm h1 h2 ⟨as, bs, ed, ee, hc, q⟩ fin => by
    subst ed ee
    obtain ⟨a, xs, ex, qx, rx⟩ := h1.tup
    obtain ⟨b, ys, ey, qy, ry⟩ := h2.tup
    refine ⟨a, b, xs, ys, ex, ey, qx.sq, qy.sq, by rw [rx.length, ry.length]; exact line6 hc, fun e0 => ?_, fun _ e0 => ?_, fun _ _ => ?_⟩
    · subst e0
      have e1 : as = [] := by have := rx.length; simpa using this.symm
      subst e1
      exact fin.here hm (d := .tup bs) (by rw [← ey]; exact h2) q
    · subst e0
      have e1 : bs = [] := by have := ry.length; simpa using this.symm
      subst e1
      exact fin.here hm (d := .tup as) (by rw [← ex]; exact h1) (by simpa using q)
    · exact fin.tup hm (rx.append ry) q⟩
  have lcat : OpD X (binaryOp .Add) (fun d e m Q => ∃ a b, d = .ref a ∧ e = .ref b ∧ ∃ as bs, m a = some (.lst as) ∧ m b = some (.lst bs) ∧ as.length + bs.length ≤ 1000000 ∧ newL true (as ++ bs) m Q) := ⟨_, op_cat, fun x y d e m H Q Q' hm h1 h2 ⟨a, b, ed, ee, as, bs, ha, hb, hc, q⟩ fin => by
    subst ed ee
    obtain ⟨xs, ha, rx⟩ := hm a _ ha
    obtain ⟨ys, hb, ry⟩ := hm b _ hb
    exact ⟨a, b, xs, ys, h1.ref, h2.ref, ha, hb, by rw [rx.length, ry.length]; exact line6 hc, fin.lst hm (rx.append ry) q⟩⟩
  have scat : OpD X (binaryOp .Add) (fun d e m Q => ∃ a b, d = .str a ∧ e = .str b ∧ a.length + b.length ≤ 1000000 ∧ Q (.str (a ++ b)) m) := ⟨_, op_add_str, fun x y d e m H Q Q' hm h1 h2 ⟨a, b, ed, ee, hc, q⟩ fin => by
    subst ed ee
    exact ⟨a, b, h1.str, h2.str, line6 hc, fin.here hm rep_str q⟩⟩
  have pcat : OpD X (binaryOp .Add) (fun d e m Q => ∃ as bs, lstOf m d = some as ∧ lstOf m e = some bs ∧ as.length + bs.length ≤ 1000000 ∧ Q (.lst (as ++ bs)) m) := ⟨_, op_catL, fun x y d e m H Q Q' hm h1 h2 ⟨as, bs, ha, hb, hc, q⟩ fin => by
    obtain ⟨a, xs, ex, rx, qx⟩ := lst_val hm h1 ha
    obtain ⟨b, ys, ey, ry, qy⟩ := lst_val hm h2 hb
    exact ⟨a, b, xs, ys, ex, ey, qx, qy, by rw [rx.length, ry.length]; exact line6 hc, fin.lst (mu := false) hm (rx.append ry) q⟩⟩
  have key : ∀ {p : Addr} {m : Mem} {l : List D}, m p = some (.lst l) → lstOf m (.ref p) = some l := fun h => by unfold lstOf; simp only [h]
  refine ((opD_rI0 op_add).or (cat.or (lcat.or (scat.or pcat)))).mono fun d e m Q h => ?_
  cases d <;> cases e <;> first
    | exact h.elim
    | exact .inl ⟨_, _, rfl, rfl, True.intro, h⟩
    | exact .inr (.inl ⟨_, _, rfl, rfl, h⟩)
    | exact .inr (.inr (.inl ⟨_, _, rfl, rfl, h⟩))
    | exact .inr (.inr (.inr (.inl ⟨_, _, rfl, rfl, h⟩)))
    | exact .inr (.inr (.inr (.inr ⟨_, _, rfl, rfl, h⟩)))
    | (obtain ⟨b, hb, h⟩ := h; exact .inr (.inr (.inr (.inr ⟨_, b, rfl, key hb, h⟩))))
    | (obtain ⟨b, hb, h⟩ := h; exact .inr (.inr (.inr (.inr ⟨b, _, key hb, rfl, h⟩))))
theorem opD_sub : OpD X (binaryOp .Sub) (opD .sub) := (opD_rI0 op_sub).mono fun d e m Q h => by
  cases d <;> cases e <;> first
    | exact h.elim
    | exact ⟨_, _, rfl, rfl, True.intro, h⟩
theorem opD_mul : OpD X (binaryOp .Mult) (opD .mul) := by
  have rep : OpD X (binaryOp .Mult) (fun d e m Q => ∃ a k, d = .ref a ∧ e = .int k ∧ ∃ as, m a = some (.lst as) ∧ 0 ≤ k ∧ k ≤ 1000 ∧ as.length ≤ 1000 ∧ newL true (List.replicate k.toNat as).flatten m Q) := ⟨_, op_rep, fun x y d e m H Q Q' hm h1 h2 ⟨a, k, ed, ee, as, ha, k0, k1, hz, q⟩ fin => by
    subst ed ee
    obtain ⟨xs, ha, rx⟩ := hm a _ ha
    refine ⟨a, k, xs, h1.ref, h2.int, ha, by omega, by omega, ?_, ?_⟩
    · rw [rx.length, sizeLine_eq]
      have : as.length * k.toNat ≤ 1000 * 1000 := Nat.mul_le_mul hz (by omega)
      omega
    · have go : ∀ n : Nat, Reps X.K m H (List.replicate n xs).flatten (List.replicate n as).flatten := by
        intro n
        induction n with
        | zero => simp [Reps]
        | succ n ih =>
          rw [List.replicate_succ, List.replicate_succ, List.flatten_cons, List.flatten_cons]
          exact rx.append ih
      exact fin.lst hm (go _) q⟩
  refine ((opD_rI op_mulA).or rep).mono fun d e m Q h => ?_
  cases d <;> cases e <;> first
    | exact h.elim
    | exact .inl ⟨_, _, rfl, rfl, h.1, h.2⟩
    | exact .inr ⟨_, _, rfl, rfl, h⟩
theorem opD_fdiv (py : PyR X) : OpD X (binaryOp .FloorDiv) (opD .fdiv) := (opD_rI (op_fdivA py)).mono fun d e m Q h => by
  cases d <;> cases e <;> first
    | exact h.elim
    | exact ⟨_, _, rfl, rfl, h.1, h.2⟩
theorem opD_mod : OpD X (binaryOp .Mod) (opD .mod) := (opD_rI op_modN).mono fun d e m Q h => by
  cases d <;> cases e <;> first
    | exact h.elim
    | exact ⟨_, _, rfl, rfl, h.1, h.2⟩
theorem opD_pow : OpD X (binaryOp .Pow) (opD .pow) := (opD_rI op_powA).mono fun d e m Q h => by
  cases d <;> cases e <;> first
    | exact h.elim
    | exact ⟨_, _, rfl, rfl, ⟨h.1, h.2.1⟩, h.2.2⟩
def BOp.py : BOp → Operator
  | .add => .Add | .sub => .Sub | .mul => .Mult | .fdiv => .FloorDiv | .mod => .Mod | .pow => .Pow
theorem opD_ok (py : PyR X) : ∀ o : BOp, OpD X (binaryOp o.py) (opD o)
  | .add => opD_add | .sub => opD_sub | .mul => opD_mul | .fdiv => opD_fdiv py | .mod => opD_mod | .pow => opD_pow

/-! ### comparisons -/
theorem opD_cI {o : CmpOp} {g : Int → Int → Bool} (h : OpR X (compareOp o) (rI0 fun i j => .bl (g i j))) {sem : D → D → Mem → KD → Prop}
    (hs : ∀ d e m Q, sem d e m Q → ∃ i j, d = .int i ∧ e = .int j ∧ Q (.bl (g i j)) m) : OpD X (compareOp o) sem := (opD_rB0 h).mono fun d e m Q q => by
  obtain ⟨i, j, e1, e2, q⟩ := hs d e m Q q
  exact ⟨i, j, e1, e2, True.intro, q⟩
theorem ints_of {d e : D} {P : Int → Int → Prop} (h : match d, e with | .int i, .int j => P i j | _, _ => False) : ∃ i j, d = .int i ∧ e = .int j ∧ P i j := by
  cases d <;> cases e <;> first
    | exact h.elim
    | exact ⟨_, _, rfl, rfl, h⟩
mutual
theorem flat_dp {K : PySem.W.Frag} {m : Mem} {H : Hp} : ∀ (n : Nat) (d : D) (v : V), Rep K m H v d → d.flat n = true → Dp K H v d.toP
  | _, .non, _, h, _ => by rw [h.non]; simp only [D.toP]; exact .non
  | _, .bl _, _, h, _ => by rw [h.bl]; simp only [D.toP]; exact .bl _
  | _, .int _, _, h, _ => by rw [h.int]; simp only [D.toP]; exact .int _
  | _, .str _, _, h, _ => by rw [h.str]; simp only [D.toP]; exact .str _
  | _, .ty _, _, _, f => by simp [D.flat] at f
  | _, .ref _, _, _, f => by simp [D.flat] at f
  | _, .dic, _, _, f => by simp [D.flat] at f
  | _, .dK _ _, _, _, f => by simp [D.flat] at f
  | _, .dT _ _, _, _, f => by simp [D.flat] at f
  | _, .ob _ _ _, _, _, f => by simp [D.flat] at f
  | _, .lv _, _, _, f => by simp [D.flat] at f
  | 0, .tup _, _, _, f => by simp [D.flat] at f
  | 0, .lst _, _, _, f => by simp [D.flat] at f
  | n + 1, .tup ds, _, h, f => by
    obtain ⟨a, xs, e, q, r⟩ := h.tup
    rw [e]
    simp only [D.toP]
    exact .tup q.sq (flats_dp n ds xs r (by simpa [D.flat] using f))
  | n + 1, .lst ds, _, h, f => by
    obtain ⟨a, xs, e, q, r⟩ := h.lst
    rw [e]
    simp only [D.toP]
    exact .lst q.sq (flats_dp n ds xs r (by simpa [D.flat] using f))
theorem flats_dp {K : PySem.W.Frag} {m : Mem} {H : Hp} : ∀ (n : Nat) (ds : List D) (vs : List V), Reps K m H vs ds → flats n ds = true → DpAll K H vs (toPs ds)
  | _, [], _, h, _ => by simp only [Reps] at h; rw [h]; simp only [toPs]; exact .nil
  | n, d :: ds, _, h, f => by
    simp only [Reps] at h
    obtain ⟨v, r, rfl, h1, h2⟩ := h
    have f' : d.flat n = true ∧ flats n ds = true := by simpa [flats] using f
    simp only [toPs]
    exact .cons (flat_dp n d v h1 f'.1) (flats_dp n ds r h2 f'.2)
end
mutual
theorem flat_lay : ∀ (n : Nat) (d : D), d.flat n = true → d.toP.canLay0 = true ∧ d.toP.depth ≤ n
  | _, .non, _ => by simp [D.toP, PyData.canLay0, PyData.depth]
  | _, .bl _, _ => by simp [D.toP, PyData.canLay0, PyData.depth]
  | _, .int _, _ => by simp [D.toP, PyData.canLay0, PyData.depth]
  | _, .str _, f => by simpa [D.toP, D.flat, PyData.canLay0, PyData.depth] using f
  | _, .ty _, f => by simp [D.flat] at f
  | _, .ref _, f => by simp [D.flat] at f
  | _, .dic, f => by simp [D.flat] at f
  | _, .dK _ _, f => by simp [D.flat] at f
  | _, .dT _ _, f => by simp [D.flat] at f
  | _, .ob _ _ _, f => by simp [D.flat] at f
  | _, .lv _, f => by simp [D.flat] at f
  | 0, .tup _, f => by simp [D.flat] at f
  | 0, .lst _, f => by simp [D.flat] at f
  | n + 1, .tup ds, f => by
    obtain ⟨h1, h2⟩ := flats_lay n ds (by simpa [D.flat] using f)
    simp only [D.toP, PyData.canLay0, PyData.depth]
    exact ⟨h1, by omega⟩
  | n + 1, .lst ds, f => by
    obtain ⟨h1, h2⟩ := flats_lay n ds (by simpa [D.flat] using f)
    simp only [D.toP, PyData.canLay0, PyData.depth]
    exact ⟨h1, by omega⟩
theorem flats_lay : ∀ (n : Nat) (ds : List D), flats n ds = true → PyData.canLayAll0 (toPs ds) = true ∧ PyData.depthAll (toPs ds) ≤ n
  | _, [], _ => by simp [toPs, PyData.canLayAll0, PyData.depthAll]
  | n, d :: ds, f => by
    have f' : d.flat n = true ∧ flats n ds = true := by simpa [flats] using f
    obtain ⟨h1, h2⟩ := flat_lay n d f'.1
    obtain ⟨h3, h4⟩ := flats_lay n ds f'.2
    simp only [toPs, PyData.canLayAll0, PyData.depthAll, Bool.and_eq_true]
    exact ⟨⟨h1, h3⟩, by omega⟩
end
theorem flat_shaped {d : D} (f : d.flat 40 = true) : SeqAt.shaped d.toP = true := by
  obtain ⟨h1, h2⟩ := flat_lay 40 d f
  unfold SeqAt.shaped
  rw [h1, decide_eq_true (by omega)] <;> rfl
theorem dat_rep {K : PySem.W.Frag} {m : Mem} {H : Hp} {d : D} {v : V} (hm : MemOk K m H) (r : Rep K m H v d) (f : (dat m d).flat 40 = true) : Dp K H v (dat m d).toP := by
  cases d with
  | ref p =>
    unfold dat at f ⊢
    simp only at f ⊢
    split
    · rename_i ds q
      rw [q] at f
      obtain ⟨vs, hp, rs⟩ := hm p _ q
      rw [r.ref]
      simp only [D.toP]
      exact .lst (SqL.of hp) (flats_dp 39 ds vs rs (by simpa [D.flat] using f))
    · rename_i q
      split at f
      · rename_i ds q2
        exact absurd q2 (q ds)
      · simp [D.flat] at f
  | _ => exact flat_dp 40 _ v r f
def semSc (neg : Bool) : D → D → Mem → KD → Prop := fun d e m Q => (∃ i j, d = .int i ∧ e = .int j ∧ Q (.bl (if neg then !decide (i = j) else decide (i = j))) m) ∨ ∃ i j, d = .str i ∧ e = .str j ∧ Q (.bl (if neg then !decide (i = j) else decide (i = j))) m
def semDp (neg : Bool) : D → D → Mem → KD → Prop := fun d e m Q => D.flat 40 (dat m d) = true ∧ D.flat 40 (dat m e) = true ∧ Q (.bl (if neg then !PyData.eqv (dat m d).toP (dat m e).toP else PyData.eqv (dat m d).toP (dat m e).toP)) m
theorem eqD_out {m : Mem} {d e : D} {R : Bool → Prop} (h : eqD m d e R) : (∃ i j, d = .int i ∧ e = .int j ∧ R (decide (i = j))) ∨ (∃ i j, d = .str i ∧ e = .str j ∧ R (decide (i = j))) ∨ (D.flat 40 (dat m d) = true ∧ D.flat 40 (dat m e) = true ∧ R (PyData.eqv (dat m d).toP (dat m e).toP)) := by
  unfold eqD at h
  split at h
  · exact .inl ⟨_, _, rfl, rfl, h⟩
  · exact .inr (.inl ⟨_, _, rfl, rfl, h⟩)
  · exact .inr (.inr h)
theorem opD_eq (hu : X.A.units + 64 < cLine) : OpD X (compareOp .Eq) (cmpD .eq) := by
  have sc : OpD X (compareOp .Eq) (semSc false) := ⟨_, op_eq, fun x y d e m H Q Q' hm h1 h2 h fin => by
    rcases h with ⟨i, j, ed, ee, q⟩ | ⟨i, j, ed, ee, q⟩
    · subst ed ee
      rw [h1.int, h2.int]
      exact ⟨rfl, fin.here hm rep_bl (by rw [dec_int, Bool.beq_eq_decide_eq]; exact q)⟩
    · subst ed ee
      rw [h1.str, h2.str]
      exact ⟨rfl, fin.here hm rep_bl (by rw [dec_str, Bool.beq_eq_decide_eq]; exact q)⟩⟩
  have dp : OpD X (compareOp .Eq) (semDp false) := ⟨_, op_eqD hu, fun x y d e m H Q Q' hm h1 h2 ⟨f1, f2, q⟩ fin => ⟨_, _, dat_rep hm h1 f1, dat_rep hm h2 f2, flat_shaped f1, flat_shaped f2, fin.here hm rep_bl q⟩⟩
  refine OpD.mono (sc.or dp) fun d e m Q h => ?_
  rcases eqD_out (show eqD m d e fun b => Q (.bl b) m from h) with h | h | h
  · exact .inl (.inl h)
  · exact .inl (.inr h)
  · exact .inr h
theorem opD_ne (hu : X.A.units + 64 < cLine) : OpD X (compareOp .NotEq) (cmpD .ne) := by
  have sc : OpD X (compareOp .NotEq) (semSc true) := ⟨_, op_ne, fun x y d e m H Q Q' hm h1 h2 h fin => by
    rcases h with ⟨i, j, ed, ee, q⟩ | ⟨i, j, ed, ee, q⟩
    · subst ed ee
      rw [h1.int, h2.int]
      exact ⟨rfl, fin.here hm rep_bl (by rw [dec_int, Bool.beq_eq_decide_eq]; exact q)⟩
    · subst ed ee
      rw [h1.str, h2.str]
      exact ⟨rfl, fin.here hm rep_bl (by rw [dec_str, Bool.beq_eq_decide_eq]; exact q)⟩⟩
  have dp : OpD X (compareOp .NotEq) (semDp true) := ⟨_, op_neD hu, fun x y d e m H Q Q' hm h1 h2 ⟨f1, f2, q⟩ fin => ⟨_, _, dat_rep hm h1 f1, dat_rep hm h2 f2, flat_shaped f1, flat_shaped f2, fin.here hm rep_bl q⟩⟩
  refine OpD.mono (sc.or dp) fun d e m Q h => ?_
  rcases eqD_out (show eqD m d e fun b => Q (.bl (!b)) m from h) with h | h | h
  · exact .inl (.inl h)
  · exact .inl (.inr h)
  · exact .inr h
def isNon : D → Bool
  | .non => true
  | _ => false
theorem rep_nn {K : PySem.W.Frag} {m : Mem} {H : Hp} {d : D} {v : V} (r : Rep K m H v d) : decide (v = .non) = isNon d := by
  cases d with
  | non => rw [r.non]; simp [isNon]
  | bl b => rw [r.bl]; simp [isNon]
  | int b => rw [r.int]; simp [isNon]
  | str b => rw [r.str]; simp [isNon]
  | ty b =>
    have e : v = .ty b := by simpa [Rep] using r
    rw [e]; simp [isNon]
  | ref b => rw [r.ref]; simp [isNon]
  | tup b => obtain ⟨a, xs, e, _⟩ := r.tup; rw [e]; simp [isNon]
  | lst b => obtain ⟨a, xs, e, _⟩ := r.lst; rw [e]; simp [isNon]
  | dic => obtain ⟨a, _, e, _⟩ := r.dic; rw [e]; simp [isNon]
  | dK ks ds => obtain ⟨a, _, e, _⟩ := r.dK; rw [e]; simp [isNon]
  | dT ks ds => obtain ⟨a, _, e, _⟩ := r.dT; rw [e]; simp [isNon]
  | ob C ns ds => obtain ⟨a, _, _, e, _⟩ := r.ob; rw [e]; simp [isNon]
  | lv ds => obtain ⟨a, _, e, _⟩ := r.lv; rw [e]; simp [isNon]
theorem opD_isB : OpD X (compareOp .Is) (fun d e m Q => ∃ b c : Bool, d = D.bl b ∧ e = D.bl c ∧ Q (.bl (b == c)) m) := ⟨_, op_isBl, fun x y d e m H Q Q' hm h1 h2 ⟨b, c, ed, ee, q⟩ fin => by
  subst ed ee
  exact ⟨b, c, h1.bl, h2.bl, fin.here hm rep_bl (by rw [← Bool.beq_eq_decide_eq]; exact q)⟩⟩
theorem opD_isN : OpD X (compareOp .Is) (fun d e m Q => e = D.non ∧ Q (.bl (isNon d)) m) := ⟨_, op_isN, fun x y d e m H Q Q' hm h1 h2 ⟨ee, q⟩ fin => by
  subst ee
  exact ⟨h2.non, fin.here hm rep_bl (by rw [rep_nn h1]; exact q)⟩⟩
theorem opD_is : OpD X (compareOp .Is) (cmpD .is_) := OpD.mono (opD_isB.or opD_isN) fun d e m Q h => by
  unfold cmpD at h
  cases d <;> cases e <;> first
    | exact h.elim
    | exact .inl ⟨_, _, rfl, rfl, h⟩
    | exact .inr ⟨rfl, h⟩
theorem opD_isnN : OpD X (compareOp .IsNot) (fun d e m Q => e = D.non ∧ Q (.bl (!isNon d)) m) := ⟨_, op_notN, fun x y d e m H Q Q' hm h1 h2 ⟨ee, q⟩ fin => by
  subst ee
  exact ⟨h2.non, fin.here hm rep_bl (by rw [rep_nn h1]; exact q)⟩⟩
theorem opD_isnt : OpD X (compareOp .IsNot) (cmpD .isnt) := OpD.mono opD_isnN fun d e m Q h => by
  unfold cmpD at h
  cases d <;> cases e <;> first
    | exact h.elim
    | exact ⟨rfl, h⟩
theorem scalV_rep {K : PySem.W.Frag} {m : Mem} {H : Hp} {d : D} {v w : V} (r : Rep K m H v d) (h : scalV d = some w) : v = w ∧ flatV w = true := by
  cases d <;> simp only [scalV] at h <;> first
    | cases h; done
    | (cases h; exact ⟨r.non, rfl⟩)
    | (cases h; exact ⟨r.bl, rfl⟩)
    | (cases h; exact ⟨r.int, rfl⟩)
    | (cases h; exact ⟨r.str, rfl⟩)
theorem scalVs_rep {K : PySem.W.Frag} {m : Mem} {H : Hp} : ∀ {ds : List D} {vs ws : List V}, Reps K m H vs ds → ds.map scalV = ws.map some → vs = ws ∧ ws.all flatV = true
  | [], vs, ws, r, h => by
    simp only [Reps] at r
    cases ws with
    | nil => exact ⟨r, rfl⟩
    | cons _ _ => cases h
  | d :: ds, vs, ws, r, h => by
    simp only [Reps] at r
    obtain ⟨v, t, rfl, r1, r2⟩ := r
    cases ws with
    | nil => cases h
    | cons w ws =>
      rw [List.map_cons, List.map_cons] at h
      injection h with h1 h2
      obtain ⟨e1, f1⟩ := scalV_rep r1 h1
      obtain ⟨e2, f2⟩ := scalVs_rep r2 h2
      exact ⟨by rw [e1, e2], by simp [f1, f2]⟩
theorem opD_in0 : OpD X (compareOp .In) (fun x y m Q => ∃ ys, seqOf m y = some ys ∧ inD x ys fun b => Q (.bl b) m) := ⟨_, op_in_seq, fun x y d e m H Q Q' hm h1 h2 ⟨ys, hs, v, vs, e1, e2, q⟩ fin => by
  obtain ⟨a, xs, ey, rs, hq⟩ := seq_val hm h2 hs
  obtain ⟨ex, fx⟩ := scalV_rep h1 e1
  obtain ⟨es, fs⟩ := scalVs_rep rs e2
  subst ex es
  refine ⟨a, _, ey, hq, fx, fs, ?_⟩
  rw [if_neg Bool.false_ne_true]
  exact fin.here hm rep_bl q⟩
theorem opD_inS : OpD X (compareOp .In) (fun x y m Q => ∃ i j, x = .str i ∧ y = .str j ∧ Q (.bl (!(Builtin.Str.occurrences j i 0 j.length 1).isEmpty)) m) := ⟨_, op_in_str, fun x y d e m H Q Q' hm h1 h2 ⟨i, j, ed, ee, q⟩ fin => by
  subst ed ee
  exact ⟨i, j, h1.str, h2.str, fin.here hm rep_bl q⟩⟩
theorem opD_in : OpD X (compareOp .In) (cmpD .in_) := OpD.mono (opD_in0.or opD_inS) fun d e m Q h => by
  unfold cmpD at h
  simp only at h
  split at h
  · exact .inr ⟨_, _, rfl, rfl, h⟩
  · exact .inl h
theorem opD_notin : OpD X (compareOp .NotIn) (cmpD .notin) := ⟨_, op_notIn_seq, fun x y d e m H Q Q' hm h1 h2 ⟨ys, hs, v, vs, e1, e2, q⟩ fin => by
  obtain ⟨a, xs, ey, rs, hq⟩ := seq_val hm h2 hs
  obtain ⟨ex, fx⟩ := scalV_rep h1 e1
  obtain ⟨es, fs⟩ := scalVs_rep rs e2
  subst ex es
  refine ⟨a, _, ey, hq, fx, fs, ?_⟩
  rw [if_pos rfl]
  exact fin.here hm rep_bl q⟩
def COp.py : COp → CmpOp
  | .lt => .Lt | .le => .LtE | .gt => .Gt | .ge => .GtE | .eq => .Eq | .ne => .NotEq | .is_ => .Is | .isnt => .IsNot | .in_ => .In | .notin => .NotIn
theorem cmpD_ok (hu : X.A.units + 64 < cLine) : ∀ o : COp, OpD X (compareOp o.py) (cmpD o)
  | .lt => opD_cI op_lt fun _ _ _ _ h => ints_of h
  | .le => opD_cI op_le fun _ _ _ _ h => ints_of h
  | .gt => opD_cI op_gt fun _ _ _ _ h => ints_of h
  | .ge => opD_cI op_ge fun _ _ _ _ h => ints_of h
  | .eq => opD_eq hu | .ne => opD_ne hu | .is_ => opD_is | .isnt => opD_isnt | .in_ => opD_in | .notin => opD_notin
end
end Og
end
section
set_option autoImplicit true
set_option maxHeartbeats 4000000
/-! Og: built-ins, items, slices by data. -/
namespace Og
open PySem PySem.Spec PyProof.Rows L2
section
variable {X : Cx}
def CallD (X : Cx) (f : Value) (sem : D → Mem → KD → Prop) : Prop :=
  ∃ r, CallR X f r ∧ ∀ x d m H Q Q', MemOk X.K m H → Rep X.K m H x d → sem d m Q → Fin X.K m H Q Q' → r [x] H Q'
def CallD2 (X : Cx) (f : Value) (sem : D → D → Mem → KD → Prop) : Prop :=
  ∃ r, CallR X f r ∧ ∀ x y d e m H Q Q', MemOk X.K m H → Rep X.K m H x d → Rep X.K m H y e → sem d e m Q → Fin X.K m H Q Q' → r [x, y] H Q'
theorem CallD.mono {f : Value} {s s' : D → Mem → KD → Prop} (h : CallD X f s) (w : ∀ d m Q, s' d m Q → s d m Q) : CallD X f s' := by
  obtain ⟨r, hr, hh⟩ := h
  exact ⟨r, hr, fun x d m H Q Q' hm h1 h3 h4 => hh x d m H Q Q' hm h1 (w _ _ _ h3) h4⟩
theorem CallD.or {f : Value} {s s' : D → Mem → KD → Prop} (h : CallD X f s) (h' : CallD X f s') : CallD X f (fun d m Q => s d m Q ∨ s' d m Q) := by
  obtain ⟨r, hr, hh⟩ := h
  obtain ⟨r', hr', hh'⟩ := h'
  refine ⟨_, hr.or hr', fun x d m H Q Q' hm h1 h3 h4 => ?_⟩
  rcases h3 with h3 | h3
  · exact .inl (hh x d m H Q Q' hm h1 h3 h4)
  · exact .inr (hh' x d m H Q Q' hm h1 h3 h4)
def B1.py : B1 → Str × Value
  | .len => ("len", .builtin "len") | .abs => ("abs", .builtin "abs") | .int => ("int", .type "int") | .sum => ("sum", .builtin "sum") | .tuple => ("tuple", .type "tuple")
  | .all => ("all", .builtin "all") | .any => ("any", .builtin "any") | .list _ => ("list", .type "list") | .chars _ => ("list", .type "list") | .repr => ("repr", .builtin "repr") | .str => ("str", .type "str")
def B1.isTy : B1 → Bool
  | .int => true | .tuple => true | .list _ => true | .chars _ => true | .str => true | _ => false
theorem cd_len : CallD X (.builtin "len") (b1D .len) := by
  have a : CallD X (.builtin "len") (fun d m Q => ∃ ds, seqOf m d = some ds ∧ Q (.int (ds.length : Nat)) m) := ⟨_, call_len_seq, fun x d m H Q Q' hm h1 ⟨ds, hs, q⟩ fin => by
    obtain ⟨a, xs, ex, rs, hq⟩ := seq_val hm h1 hs
    exact ⟨a, xs, by rw [ex], hq, fin.here hm rep_int (by rw [rs.length]; exact q)⟩⟩
  have b : CallD X (.builtin "len") (fun d m Q => ∃ z, d = .str z ∧ z.length ≤ 1000000 ∧ Q (.int (z.length : Nat)) m) := ⟨_, call_len_str, fun x d m H Q Q' hm h1 ⟨z, ed, hz, q⟩ fin => by
    subst ed
    exact ⟨z, by rw [h1.str], line6 hz, fin.here hm rep_int q⟩⟩
  refine CallD.mono (a.or b) fun d m Q h => ?_
  unfold b1D at h
  cases d <;> first
    | exact .inr ⟨_, rfl, h⟩
    | exact .inl h
theorem cd_abs : CallD X (.builtin "abs") (b1D .abs) := ⟨_, call_abs, fun x d m H Q Q' hm h1 h fin => by
  unfold b1D at h
  cases d <;> first
    | exact h.elim
    | exact ⟨_, by rw [h1.int], fin.here hm rep_int h⟩⟩
theorem cd_int : CallD X (.type "int") (b1D .int) := by
  have a : CallD X (.type "int") (fun d m Q => (∃ i, d = .int i ∧ Q (.int i) m) ∨ ∃ k : Bool, d = .bl k ∧ Q (.int (if k then 1 else 0)) m) := ⟨_, call_int1, fun x d m H Q Q' hm h1 h fin => by
    rcases h with ⟨i, ed, q⟩ | ⟨k, ed, q⟩
    · subst ed
      exact .inl ⟨i, by rw [h1.int], fin.here hm rep_int q⟩
    · subst ed
      exact .inr ⟨k, by rw [h1.bl], fin.here hm rep_int q⟩⟩
  have b : CallD X (.type "int") (fun d m Q => ∃ z n, d = .str z ∧ PySem.intText? z = some n ∧ z.length ≤ 640 ∧ Q (.int n) m) := ⟨_, call_int_str, fun x d m H Q Q' hm h1 ⟨z, n, ed, hn, hz, q⟩ fin => by
    subst ed
    exact ⟨z, n, by rw [h1.str], hn, hz, fin.here hm rep_int q⟩⟩
  refine CallD.mono (a.or b) fun d m Q h => ?_
  unfold b1D at h
  cases d <;> first
    | exact h.elim
    | exact .inl (.inl ⟨_, rfl, h⟩)
    | exact .inl (.inr ⟨_, rfl, h⟩)
    | (obtain ⟨n, h⟩ := h; exact .inr ⟨_, n, rfl, h⟩)
theorem cd_sum (hc : X.calm = true) : CallD X (.builtin "sum") (b1D .sum) := ⟨_, cr_sum hc, fun x d m H Q Q' hm h1 ⟨ns, hs, q⟩ fin => by
  obtain ⟨a, xs, ex, rs, hq⟩ := lst_val hm h1 hs
  have e := rs.ints
  subst e
  exact ⟨a, ns, by rw [ex], hq, fin.here hm rep_int q⟩⟩
theorem cd_all (hc : X.calm = true) : CallD X (.builtin "all") (b1D .all) := ⟨_, cr_all hc, fun x d m H Q Q' hm h1 ⟨ns, hs, q⟩ fin => by
  obtain ⟨a, xs, ex, rs, hq⟩ := lst_val hm h1 hs
  have e := rs.bls
  subst e
  exact ⟨a, ns, by rw [ex], hq, fin.here hm rep_bl q⟩⟩
theorem cd_any (hc : X.calm = true) : CallD X (.builtin "any") (b1D .any) := ⟨_, cr_any hc, fun x d m H Q Q' hm h1 ⟨ns, hs, q⟩ fin => by
  obtain ⟨a, xs, ex, rs, hq⟩ := lst_val hm h1 hs
  have e := rs.bls
  subst e
  exact ⟨a, ns, by rw [ex], hq, fin.here hm rep_bl q⟩⟩
theorem cd_list {mu : Bool} : CallD X (.type "list") (b1D (.list mu)) := ⟨_, call_list_of, fun x d m H Q Q' hm h1 ⟨ds, hs, q⟩ fin => by
  obtain ⟨a, xs, ex, rs, hq⟩ := seq_val hm h1 hs
  exact ⟨a, xs, by rw [ex], hq, fin.lst hm rs q⟩⟩
theorem call_list_chars (hc : X.calm = true) : CallR X (.type "list") (fun xs H Q => ∃ z : Str, xs = [.str z] ∧ z.length ≤ 1000000 ∧ ∀ l, H l = none → Q (.ref l) (upd H l (.lst (z.cps.toList.map fun c => V.str ⟨#[c]⟩)))) := by
  intro pins s σ H xs us Q I r h
  obtain ⟨z, rfl, hz, q⟩ := h
  obtain ⟨u, rfl, rx⟩ := vals1 r
  obtain ⟨t, rfl⟩ := rx
  refine call_list_str (I.ok.hd hc) z t (fun h' tk acc' c' kp e hi => ?_) (line6 hz)
  have rv : Vals (z.cps.toList.map fun c => V.str ⟨#[c]⟩) acc'.toList := by
    obtain ⟨h1, h2⟩ := hi
    refine vals_of_at (by simp [h1]) fun j x v ex e => ?_
    obtain ⟨c, u, hc, rfl⟩ := h2 j v (by rw [← Array.getElem?_toList]; exact e)
    rw [List.getElem?_map, Array.getElem?_toList, hc] at ex
    cases ex
    exact ⟨u, rfl⟩
  refine ⟨.ref s.heap.objs.size, _, I.laid (t' := tk) kp (Nat.le_refl _) (show ObjOk X.prog X.w _ h' _ (.lst (z.cps.toList.map fun c => V.str ⟨#[c]⟩)) from ⟨?_, acc'.toList, c', rv, by rw [Array.toArray_toList]; exact e⟩), rfl, q _ (I.hok.fresh (Nat.le_refl _))⟩
  rw [List.length_map]
  exact line6 hz
theorem cd_chars {mu : Bool} (hc : X.calm = true) : CallD X (.type "list") (b1D (.chars mu)) := ⟨_, call_list_chars hc, fun x d m H Q Q' hm h1 h fin => by
  unfold b1D at h
  cases d <;> first
    | exact h.elim
    | skip
  rename_i z
  refine ⟨z, by rw [h1.str], h.1, fin.lst hm ?_ h.2⟩
  generalize z.cps.toList = l
  induction l with
  | nil => simp [Reps]
  | cons c l ih =>
    simp only [List.map_cons, Reps]
    exact ⟨_, _, rfl, rep_str, ih⟩⟩
theorem cd_tuple : CallD X (.type "tuple") (b1D .tuple) := ⟨_, call_tuple_of, fun x d m H Q Q' hm h1 ⟨ds, hs, q⟩ fin => by
  cases d with
  | tup es =>
    cases hs
    obtain ⟨a, xs, ex, q1, rs⟩ := h1.tup
    exact ⟨a, xs, by rw [ex], .inr ⟨q1.sq, fin.here hm (d := .tup _) (by rw [← ex]; exact h1) q⟩⟩
  | lst es =>
    obtain ⟨a, xs, ex, rs, hq⟩ := lst_val (d := .lst es) (ds := ds) hm h1 hs
    exact ⟨a, xs, by rw [ex], .inl ⟨hq, fin.tup hm rs q⟩⟩
  | ref p =>
    obtain ⟨a, xs, ex, rs, hq⟩ := lst_val (d := .ref p) (ds := ds) hm h1 hs
    exact ⟨a, xs, by rw [ex], .inl ⟨hq, fin.tup hm rs q⟩⟩
  | _ => cases hs⟩
theorem cd_str : CallD X (.type "str") (b1D .str) := ⟨_, call_str_int, fun x d m H Q Q' hm h1 h fin => by
  unfold b1D at h
  cases d <;> first
    | exact h.elim
    | exact ⟨_, by rw [h1.int], h.1, fin.here hm rep_str h.2⟩⟩
mutual
theorem flat_nodict : ∀ (n : Nat) (d : D), d.flat n = true → d.toP.hasDict = false
  | _, .non, _ => rfl
  | _, .bl _, _ => rfl
  | _, .int _, _ => rfl
  | _, .str _, _ => rfl
  | _, .ty _, _ => rfl
  | _, .ref _, _ => rfl
  | _, .dic, _ => rfl
  | _, .dK _ _, _ => rfl
  | _, .dT _ _, _ => rfl
  | _, .ob _ _ _, _ => rfl
  | _, .lv _, _ => rfl
  | 0, .tup _, f => by simp [D.flat] at f
  | 0, .lst _, f => by simp [D.flat] at f
  | n + 1, .tup ds, f => by
    simp only [D.toP, PyData.hasDict]
    exact flats_nodict n ds (by simpa [D.flat] using f)
  | n + 1, .lst ds, f => by
    simp only [D.toP, PyData.hasDict]
    exact flats_nodict n ds (by simpa [D.flat] using f)
theorem flats_nodict : ∀ (n : Nat) (ds : List D), flats n ds = true → PyData.hasDictAll (toPs ds) = false
  | _, [], _ => rfl
  | n, d :: ds, f => by
    have f' : d.flat n = true ∧ flats n ds = true := by simpa [flats] using f
    simp only [toPs, PyData.hasDictAll, flat_nodict n d f'.1, flats_nodict n ds f'.2, Bool.or_self]
end
/-- repr, where none is under way -/
theorem call_reprD (g : X.A.guards = some []) (hu : X.A.units + 64 < cLine) : CallR X (.builtin "repr") (fun xs H Q => ∃ v d, xs = [v] ∧ Dp X.K H v d ∧ d.hasDict = false ∧ d.showable = true ∧ d.depth ≤ 40 ∧ d.shown.length ≤ sizeLine ∧ Q (.str d.shown) H) := by
  intro pins s σ H xs us Q I r h
  obtain ⟨v, d, rfl, hd, h1, h2, h3, h4, q⟩ := h
  obtain ⟨u, rfl, rv⟩ := vals1 r
  obtain ⟨as, rd⟩ := Dp.reads I d v u hd rv
  have ref : ∀ a, u = .ref a → wpAny (model X.prog X.w) X.A (call (.builtin "repr") [u]) (EP X pins σ Q) X.xe s := fun a e => by
    subst e
    exact repr_of_reads' rd h2 (fun z => by rw [h1] at z; cases z) g (by omega) (fun _ _ z => z) (fun h' u tk k => ⟨.str _, H, I.kept k, ⟨_, rfl⟩, q⟩) h4
  cases hd with
  | non =>
    cases rv
    exact PySem.P.repr_of_none ⟨.str _, H, I.tok _, ⟨_, rfl⟩, q⟩
  | bl b =>
    cases rv
    exact PySem.P.repr_of_bool ⟨.str _, H, I.tok _, ⟨_, rfl⟩, q⟩
  | int i =>
    obtain ⟨t, rfl⟩ := rv
    have h2' : decide (i.natAbs.log2 < 1920) = true := h2
    exact PySem.P.repr_of_int (of_decide_eq_true h2') ⟨.str _, H, I.tok _, ⟨_, rfl⟩, q⟩
  | str x =>
    obtain ⟨t, rfl⟩ := rv
    exact PySem.P.repr_of_str ⟨.str _, H, I.tok _, ⟨_, rfl⟩, q⟩ h4
  | lst a b => exact ref _ rv
  | tup a b => exact ref _ rv
theorem cd_repr (g : X.A.guards = some []) (hu : X.A.units + 64 < cLine) : CallD X (.builtin "repr") (b1D .repr) := ⟨_, call_reprD g hu, fun x d m H Q Q' hm h1 ⟨hf, hs, hl, q⟩ fin =>
  ⟨x, _, rfl, dat_rep hm h1 hf, flat_nodict 40 _ hf, hs, (flat_lay 40 _ hf).2, line6 hl, fin.here hm rep_str q⟩⟩
theorem b1D_ok (hc : X.calm = true) (g : X.A.guards = some []) (hu : X.A.units + 64 < cLine) : ∀ f : B1, CallD X f.py.2 (b1D f)
  | .len => cd_len | .abs => cd_abs | .int => cd_int | .sum => cd_sum hc | .tuple => cd_tuple | .all => cd_all hc | .any => cd_any hc | .list _ => cd_list | .chars _ => cd_chars hc | .repr => cd_repr g hu | .str => cd_str
def B2.py : B2 → Str × Value
  | .min => ("min", .builtin "min") | .max => ("max", .builtin "max")
theorem b2D_ok (hc : X.calm = true) : ∀ f : B2, CallD2 X f.py.2 (b2D f)
  | .min => ⟨_, call_min2 hc, fun x y d e m H Q Q' hm h1 h2 h fin => by
    cases d <;> cases e <;> first
      | exact h.elim
      | exact ⟨_, _, by rw [h1.int, h2.int], fin.here hm rep_int h⟩⟩
  | .max => ⟨_, call_max2 hc, fun x y d e m H Q Q' hm h1 h2 h fin => by
    cases d <;> cases e <;> first
      | exact h.elim
      | exact ⟨_, _, by rw [h1.int, h2.int], fin.here hm rep_int h⟩⟩

/-! ### isinstance -/
def isiTys : List String := ["int", "bool", "tuple", "str", "list", "dict"]
def valTys : List String := ["NoneType", "bool", "int", "str", "tuple", "list", "dict"]
theorem isi_kit : (valTys.all fun t => isiTys.all fun T => decide (kitB t T = some (isiB t T))) = true := by decide +kernel
theorem tyD_val {m : Mem} {d : D} {t : String} (h : tyD m d = some t) : t ∈ valTys := by
  cases d <;> simp only [tyD] at h <;> first
    | (cases h; done)
    | (cases h; decide)
    | (split at h <;> first | (cases h; done) | (cases h; decide))
theorem tyD_rep {K : PySem.W.Frag} {m : Mem} {H : Hp} {d : D} {v : V} {t : String} (hm : MemOk K m H) (r : Rep K m H v d) (h : tyD m d = some t) : TyX K H v (.type t) := by
  cases d with
  | non => cases h; rw [r.non]; exact .base .non
  | bl b => cases h; rw [r.bl]; exact .base (.bl b)
  | int b => cases h; rw [r.int]; exact .base (.int b)
  | str b => cases h; rw [r.str]; exact .base (.str b)
  | ty b => cases h
  | tup ds =>
    cases h
    obtain ⟨a, xs, e, q, _⟩ := r.tup
    rw [e]
    rcases q with ⟨_, q⟩ | ⟨o, its, n, q, hc, _⟩
    · exact .base (.tup q)
    · exact .kTuple q hc
  | lst ds =>
    cases h
    obtain ⟨a, xs, e, q, _⟩ := r.lst
    rw [e]
    rcases q with ⟨_, q | ⟨o, q⟩⟩ | ⟨o, its, n, q, hc, _⟩
    · exact .base (.lst q)
    · exact .base (.frz q)
    · exact .kList q hc
  | dic =>
    cases h
    obtain ⟨a, kvs, e, _, q⟩ := r.dic
    rw [e]
    exact .base (.dK q)
  | dK ks ds =>
    cases h
    obtain ⟨a, vs, e, _, q, _⟩ := r.dK
    rw [e]
    exact .base (.dK q)
  | dT ks ds =>
    cases h
    obtain ⟨a, vs, e, _, q, _⟩ := r.dT
    rw [e]
    exact .base (.dT q)
  | ob C ns ds => cases h
  | lv ds => cases h
  | ref p =>
    simp only [tyD] at h
    split at h
    · rename_i ds q
      cases h
      obtain ⟨vs, hp, _⟩ := hm p _ q
      rw [r.ref]
      exact .base (.lst hp)
    · cases h
theorem clsV_ty (T : String) : ClsV (.ty T) (.type T) := by
  first
    | rfl
    | exact .ty _
    | constructor
def semIsi (T : String) : D → Mem → KD → Prop := fun d m Q => ∃ t, tyD m d = some t ∧ Q (.bl (isiB t T)) m
theorem isi_ok {T : String} (hT : T ∈ isiTys) : ∃ r, CallR X (.builtin "isinstance") r ∧ ∀ x d m H Q Q', MemOk X.K m H → Rep X.K m H x d → semIsi T d m Q → Fin X.K m H Q Q' → r [x, .ty T] H Q' :=
  ⟨_, call_isi, fun x d m H Q Q' hm h1 ⟨t, ht, q⟩ fin => by
    have k := List.all_eq_true.mp (List.all_eq_true.mp isi_kit t (tyD_val ht)) T hT
    exact ⟨x, .ty T, .type t, .type T, isiB t T, rfl, clsV_ty T, tyD_rep hm h1 ht, kit_ty (of_decide_eq_true k), fin.here hm rep_bl q⟩⟩

/-! ### items, slices -/
theorem reps_at {K : PySem.W.Frag} {m : Mem} {H : Hp} {ds : List D} {vs : List V} {i : Int} {d : D} (r : Reps K m H vs ds) (h : atI ds i = some d) : ∃ v, atI vs i = some v ∧ Rep K m H v d := by
  unfold atI at h ⊢
  rw [r.length]
  cases e : ixN ds.length i with
  | none => rw [e] at h; cases h
  | some j =>
    rw [e] at h
    obtain ⟨v, h1, h2⟩ := r.get (i := j) h
    exact ⟨v, h1, h2⟩
theorem key_sq {pins : List (Addr × Obj)} {σ : L2.St} {H : Hp} {s : Shared} {b : Addr} {k : List Key} (I : Inv X pins σ H s) (h : SqT X.K H b (k.map kV)) : (tupleKind (mixKind X.prog X.w)).is s.heap k b := by
  obtain ⟨its, r, ⟨o, h1, h2, n, h3⟩, _⟩ := I.tuple h
  exact ⟨o, its.toArray, n, h1, h2, h3, by simpa using items_are r⟩
def DGetS (K : PySem.W.Frag) (H : Hp) (a : Addr) (y : V) (r : Option V) : Prop := DGet H a y r ∨ ∃ kvs k b, Rd H a (.dT kvs) ∧ y = .ref b ∧ SqT K H b (k.map kV) ∧ r = valV kvs k
theorem dS_typeIs {pins : List (Addr × Obj)} {σ : L2.St} {H : Hp} {s : Shared} {a : Addr} {y : V} {o : Option V} (I : Inv X pins σ H s) (g : DGetS X.K H a y o) : s.TypeIs (.ref a) "dict" := by
  rcases g with g | ⟨kvs, k, b, e, _, _, _⟩
  · exact dict_typeIs I g
  · obtain ⟨_, _, xs, _, dd⟩ := dt_rd I.hok e
    exact dd.typeIs
theorem dS_getItem {pins : List (Addr × Obj)} {σ : L2.St} {H : Hp} {s : Shared} {a : Addr} {y v : V} {u : Value} {A : Around} {E : Value → Shared → Prop} {Q : Value → Shared → Prop} (hu : A.units + 1 < cLine) (I : Inv X pins σ H s) (g : DGetS X.K H a y (some v)) (ry : RelV y u) (h : ∀ w' s', Inv X pins σ H s' → RelV v w' → Q w' s') :
    wpAny (model X.prog X.w) A (getItem (.ref a) u) Q E s := by
  rcases g with g | ⟨kvs, k, b, e, ey, eb, l⟩
  · exact d_getItem hu I g ry h
  · subst ey
    cases (show u = Value.ref b from ry)
    obtain ⟨z, hd, xs, rel, dd⟩ := dt_rd I.hok e
    obtain ⟨w', hw, rw'⟩ := RelO.some_of (v := v) (o := (atKey xs k).map (·.2)) (by rw [l]; exact rel.val k)
    obtain ⟨p, hp, hp2⟩ := Option.map_eq_some_iff.mp hw
    refine wpAny_getItem_heap (tupleKind_room_in1 hu) (key_sq I eb) dd hp ?_
    rw [hp2]
    exact h w' _ (I.tok _) rw'
/-- d[k] -/
theorem ix_dict (hu : X.A.units + 64 < cLine) : IxR X (fun x y H Q => ∃ a v, x = .ref a ∧ DGetS X.K H a y (some v) ∧ Q v H) := by
  intro value slice pins s σ H x y v u Q I rx ry ⟨a, w, ex, g, q⟩ hs
  subst ex
  obtain rfl : v = Value.ref a := rx
  have hT := dS_typeIs I g
  unfold subscriptTail
  refine wpAny_bind ?_
  rw [getitemInPython_of_ne hT.not_modules]
  refine wpAny_bind (wpAny_specialOf hT PySem.F.slot_dict_getitem.lookup ?_)
  have fin : wpAny (model X.prog X.w) X.A (subscripted slice false (.ref a) u) (fun r s₃ => wpAny (model X.prog X.w) X.A (letTemporaryGo value (.ref a) r >>= fun _ => pure r) (EP X pins σ Q) X.xe s₃) X.xe s := by
    rw [hs]
    exact wpAny_operating (dS_getItem (by omega) I g ry fun w' s3 I3 rw' => wpAny_bind (wpAny_letTemporaryGo (wpAny_pure ⟨w, H, I3, rw', q⟩)))
  first
    | exact wpAny_pure (wpAny_bind fin)
    | exact wpAny_bind (wpAny_pure (wpAny_bind fin))
    | exact wpAny_bind fin
section
variable {K : PySem.W.Frag} {m : Mem} {H : Hp}
theorem keyD_rep {k : Key} {v : V} (h : Rep K m H v (keyD k)) : v = kV k := by
  cases k with
  | inl i => exact h.int
  | inr x => exact h.str
theorem rep_keyD {k : Key} : Rep K m H (kV k) (keyD k) := by
  cases k with
  | inl i => exact rep_int
  | inr x => exact rep_str
theorem keysD_rep : ∀ {ks : List Key} {vs : List V}, Reps K m H vs (ks.map keyD) → vs = ks.map kV
  | [], vs, h => by simpa [Reps] using h
  | k :: ks, vs, h => by
    simp only [List.map_cons, Reps] at h
    obtain ⟨v, r, rfl, h1, h2⟩ := h
    rw [keyD_rep h1, keysD_rep h2]; rfl
theorem look_val {κ : Type} [DecidableEq κ] : ∀ {ks : List κ} {ds : List D} {vs : List V} {k : κ}, ks.length = vs.length → Reps K m H vs ds → (lookK ks ds k = none ↔ valV (ks.zip vs) k = none) ∧ ∀ d, lookK ks ds k = some d → ∃ v, valV (ks.zip vs) k = some v ∧ Rep K m H v d
  | [], [], vs, k, hl, h => by
    simp only [Reps] at h
    subst h
    exact ⟨⟨fun _ => rfl, fun _ => rfl⟩, fun d z => by simp [lookK] at z⟩
  | [], d :: ds, vs, k, hl, h => by
    simp only [Reps] at h
    obtain ⟨v, r, rfl, _⟩ := h
    cases hl
  | j :: ks, [], vs, k, hl, h => by
    simp only [Reps] at h
    subst h
    cases hl
  | j :: ks, d :: ds, vs, k, hl, h => by
    simp only [Reps] at h
    obtain ⟨v, r, rfl, h1, h2⟩ := h
    have ih := look_val (ks := ks) (k := k) (by simpa using hl) h2
    simp only [List.zip_cons_cons, lookK]
    by_cases e : j = k
    · rw [if_pos e, valV_pos (p := (j, v)) e]
      exact ⟨⟨fun z => by (cases z), fun z => by (cases z)⟩, fun d' z => by cases z; exact ⟨v, rfl, h1⟩⟩
    · rw [if_neg e, valV_neg (p := (j, v)) e]
      exact ih
theorem dget_K {ks : List Key} {ds : List D} {d : D} {v : V} (hm : MemOk K m H) (r : Rep K m H v d) (h : dKOf m d = some (ks, ds)) : ∃ a vs, v = .ref a ∧ H a = some (.dK (ks.zip vs)) ∧ ks.length = vs.length ∧ Reps K m H vs ds := by
  cases d <;> simp only [dKOf] at h <;> first
    | (cases h; done)
    | skip
  · rename_i p
    split at h
    · rename_i ks' ds' q
      cases h
      obtain ⟨vs, hp, hl, rs⟩ := hm p _ q
      exact ⟨p, vs, r.ref, hp, hl, rs⟩
    · cases h
  · cases h
    obtain ⟨a, vs, e, _, q, hl, rs⟩ := r.dK
    exact ⟨a, vs, e, q, hl, rs⟩
theorem dget_T {ks : List (List Key)} {ds : List D} {d : D} {v : V} (hm : MemOk K m H) (r : Rep K m H v d) (h : dTOf m d = some (ks, ds)) : ∃ a vs, v = .ref a ∧ H a = some (.dT (ks.zip vs)) ∧ ks.length = vs.length ∧ Reps K m H vs ds := by
  cases d <;> simp only [dTOf] at h <;> first
    | (cases h; done)
    | skip
  · rename_i p
    split at h
    · rename_i ks' ds' q
      cases h
      obtain ⟨vs, hp, hl, rs⟩ := hm p _ q
      exact ⟨p, vs, r.ref, hp, hl, rs⟩
    · cases h
  · cases h
    obtain ⟨a, vs, e, _, q, hl, rs⟩ := r.dT
    exact ⟨a, vs, e, q, hl, rs⟩
end
theorem ix_ok (hu : X.A.units + 64 < cLine) : ∃ r, IxR X r ∧ ∀ x y d e m H Q Q', MemOk X.K m H → Rep X.K m H x d → Rep X.K m H y e → ixD m d e Q → Fin X.K m H Q Q' → r x y H Q' :=
  ⟨_, ix_seq.or (ix_dict hu), fun x y d e m H Q Q' hm h1 h2 h fin => by
    have key : ((∃ i, e = .int i ∧ ∃ ds z, seqOf m d = some ds ∧ atI ds i = some z ∧ Q z m) ∨ ∃ i z c, e = .int i ∧ d = .str z ∧ z.length ≤ 1000000 ∧ atI z.cps.toList i = some c ∧ Q (.str ⟨#[c]⟩) m) ∨
        (∃ k, e = .str k ∧ ∃ ks ds z, dKOf m d = some (ks, ds) ∧ lookK ks ds (.inr k) = some z ∧ Q z m) ∨ ∃ es, e = .tup es ∧ ∃ ks ds k z, dTOf m d = some (ks, ds) ∧ es = k.map keyD ∧ lookK ks ds k = some z ∧ Q z m := by
      unfold ixD at h
      cases e <;> first
        | exact h.elim
        | exact .inr (.inl ⟨_, rfl, h⟩)
        | exact .inr (.inr ⟨_, rfl, h⟩)
        | (cases d <;> first
            | (obtain ⟨c, h⟩ := h; exact .inl (.inr ⟨_, _, c, rfl, rfl, h⟩))
            | exact .inl (.inl ⟨_, rfl, h⟩))
    rcases key with (⟨i, ee, ds, z, hs, ha, q⟩ | ⟨i, z, c, ee, ed, hz, ha, q⟩) | ⟨k, ee, ks, ds, z, hd, hk, q⟩ | ⟨es, ee, ks, ds, k, z, hd, ek, hk, q⟩
    · subst ee
      obtain ⟨a, xs, ex, rs, hq⟩ := seq_val hm h1 hs
      obtain ⟨v, hv, rv⟩ := reps_at rs ha
      rcases hq with hq | hq
      · exact .inl (.inl ⟨a, xs, i, v, ex, h2.int, hq, hv, fin.here hm rv q⟩)
      · exact .inl (.inr (.inl ⟨a, xs, i, v, ex, h2.int, hq, hv, fin.here hm rv q⟩))
    · subst ee ed
      exact .inl (.inr (.inr ⟨z, i, c, h1.str, h2.int, line6 hz, ha, fin.here hm rep_str q⟩))
    · subst ee
      obtain ⟨a, vs, ex, hH, hl, rs⟩ := dget_K hm h1 hd
      obtain ⟨w, hw, rw'⟩ := (look_val hl rs).2 _ hk
      refine .inr ⟨a, w, ex, ?_, fin.here hm rw' q⟩
      rw [h2.str, ← hw]
      exact .inl (DGet.k (k := .inr k) hH)
    · subst ee ek
      obtain ⟨a, vs, ex, hH, hl, rs⟩ := dget_T hm h1 hd
      obtain ⟨w, hw, rw'⟩ := (look_val hl rs).2 _ hk
      obtain ⟨b, xs, ey, qy, ry⟩ := h2.tup
      refine .inr ⟨a, w, ex, ?_, fin.here hm rw' q⟩
      rw [ey, ← hw]
      have ek := keysD_rep ry
      rw [ek] at qy
      exact .inr ⟨_, k, b, .inl hH, rfl, qy.sq, rfl⟩⟩
theorem reps_cut {K : PySem.W.Frag} {m : Mem} {H : Hp} {ds : List D} {vs : List V} (r : Reps K m H vs ds) (lo hi : Option Int) : Reps K m H (cutV vs lo hi) (cutD ds lo hi) := by
  unfold cutV cutD
  rw [r.length]
  exact (r.drop _).take _
theorem cut_whole {ds : List D} {lo hi : Option Int} (h : HT.sIx ds.length 0 lo = 0 ∧ HT.sIx ds.length ds.length hi = ds.length) : cutD ds lo hi = ds := by
  unfold cutD
  rw [h.1, h.2]
  simp
theorem sl_ok {mu : Bool} : ∃ r, SlR X r ∧ ∀ x d lo hi m H Q Q', MemOk X.K m H → Rep X.K m H x d → slD mu m d lo hi Q → Fin X.K m H Q Q' → r x lo hi H Q' :=
  ⟨_, (sl_tupA.or sl_list).or sl_str, fun x d lo hi m H Q Q' hm h1 h fin => by
    have lst : ∀ ds, lstOf m d = some ds → newL mu (cutD ds lo hi) m Q → rSlL X.K x lo hi H Q' := fun ds hs q => by
      obtain ⟨a, xs, ex, rs, hq⟩ := lst_val hm h1 hs
      exact ⟨a, xs, ex, hq, fin.lst hm (reps_cut rs lo hi) q⟩
    unfold slD at h
    cases d with
    | tup ds =>
      obtain ⟨a, xs, ex, hq, rs⟩ := h1.tup
      refine .inl (.inl ⟨a, xs, ex, hq.sq, fun hw => ?_, fun _ => fin.tup hm (reps_cut rs lo hi) h⟩)
      rw [rs.length] at hw
      have h' : Q (.tup ds) m := by
        have h0 : Q (.tup (cutD ds lo hi)) m := h
        rw [cut_whole hw] at h0
        exact h0
      exact fin.here hm (d := .tup ds) (by rw [← ex]; exact h1) h'
    | str z => exact .inr ⟨z, h1.str, line6 h.1, fin.here hm rep_str h.2⟩
    | _ => obtain ⟨ds, hs, q⟩ := h; exact .inl (.inr (lst ds hs q))⟩

/-! ### methods of lists -/
def M1.py : M1 → Str × String
  | .append => ("append", "list.append") | .extend => ("extend", "list.extend") | .pop => ("pop", "list.pop")
def M0.py : M0 → Str
  | .upper => "upper"
end
end Og
end
section
set_option autoImplicit true
set_option maxHeartbeats 4000000
/-! Og: enumerate and zip over lists and tuples alike. -/
namespace Og
open PySem PySem.Spec PyProof.Rows L2
/-- a list (true) or a tuple, read -/
def SqK (K : PySem.W.Frag) (k : Bool) (H : Hp) (a : Addr) (xs : List V) : Prop := if k = true then SqL K H a xs else SqT K H a xs
/-- its iterator -/
def SqI (k : Bool) (h : Heap) (it a : Addr) (i : Nat) : Prop := if k = true then h.IsListIter it a i else h.IsTupleIter it a i
def SqO (k : Bool) (h : Heap) (a : Addr) (its : Array Value) : Prop := if k = true then h.IsList a its else h.IsTuple a its
theorem SqI.obj {k : Bool} {h : Heap} {it a : Addr} {i : Nat} (s : SqI k h it a i) : ∃ o, h.get? it = some o ∧ ∀ v, o.data ≠ .cell v := by
  cases k with
  | true =>
    obtain ⟨o, e, _, d⟩ := (show h.IsListIter it a i from s)
    exact ⟨o, e, fun v z => by rw [d] at z; cases z⟩
  | false =>
    obtain ⟨o, e, _, d⟩ := (show h.IsTupleIter it a i from s)
    exact ⟨o, e, fun v z => by rw [d] at z; cases z⟩
theorem SqI.at {k : Bool} {h h' : Heap} {it a : Addr} {i : Nat} (s : SqI k h it a i) (kp : ∀ o, h.get? it = some o → h'.get? it = some o) : SqI k h' it a i := by
  cases k with
  | true => exact Heap.IsListIter.at (show h.IsListIter it a i from s) kp
  | false => exact Heap.IsTupleIter.at (show h.IsTupleIter it a i from s) kp
theorem SqK.val {X : Cx} {pins : List (Addr × Obj)} {σ : L2.St} {H : Hp} {s : Shared} {k : Bool} {a : Addr} {xs : List V} (I : Inv X pins σ H s) (q : SqK X.K k H a xs) :
    ∃ its : List Value, Vals xs its ∧ SqO k s.heap a its.toArray ∧ a < s.heap.objs.size := by
  cases k with
  | true =>
    obtain ⟨its, r, p, _⟩ := I.list (show SqL X.K H a xs from q)
    exact ⟨its, r, p.isList, p.lt⟩
  | false =>
    obtain ⟨its, r, p, _⟩ := I.tuple (show SqT X.K H a xs from q)
    obtain ⟨o, ho, _⟩ := id p
    exact ⟨its, r, p, Heap.lt_size ho⟩
theorem SqK.inj {X : Cx} {pins : List (Addr × Obj)} {σ : L2.St} {H : Hp} {s : Shared} {k : Bool} {a : Addr} {xs ys : List V} (I : Inv X pins σ H s) (q : SqK X.K k H a xs) (q' : SqK X.K k H a ys) : xs = ys := by
  cases k with
  | true => exact I.list_inj (show SqL X.K H a xs from q) q'
  | false => exact I.tuple_inj (show SqT X.K H a xs from q) q'
theorem sq_draws {prog : Program} {w : World} {A : Around} (hh : A.handled = none) (k : Bool) (it a : Addr) (ne : a ≠ it) (its : Array Value) :
    Draws prog w A it [it, a] its.size (fun i v => its[i]? = some v) (fun i h => SqI k h it a i ∧ SqO k h a its) := by
  cases k with
  | true => exact Draws.list hh it a ne its
  | false => exact Draws.tuple hh it a ne its
/-- the new iterator's object -/
def sqIt (k : Bool) (a : Addr) : Obj := if k = true then { cls := .type "list_iterator", data := .fields #[.ref a, .int 0 0] } else { cls := .type "tuple_iterator", data := .fields #[.ref a, .int 0 0] }
theorem sq_begins (k : Bool) (a : Addr) (its : Array Value) : Begins (.ref a) (sqIt k a) fun h => SqO k h a its := by
  cases k with
  | true => exact begins_list a its
  | false => exact begins_tuple a its
theorem sqIt_new {k : Bool} {h : Heap} {it a : Addr} (e : h.get? it = some (sqIt k a)) : SqI k h it a 0 := by
  cases k with
  | true => exact (show h.IsListIter it a 0 from ⟨_, e, rfl, rfl⟩)
  | false => exact (show h.IsTupleIter it a 0 from ⟨_, e, rfl, rfl⟩)

/-! ### enumerate -/
def IteK (K : PySem.W.Frag) (k : Bool) (a : Addr) : L2.It :=
  ⟨fun i H => ∃ (xs : List V) (x : V), SqK K k H a xs ∧ xs[i]? = some x, fun i H v H' => ∃ T x, v = .ref T ∧ H T = none ∧ H' = L2.upd H T (.tup [.int (i : Nat), x]) ∧ ∀ xs, SqK K k H a xs → xs[i]? = some x, fun i H => ∃ xs : List V, SqK K k H a xs ∧ xs.length = i⟩
theorem turn_enumK {P : Program} {w : World} {K : PySem.W.Frag} {elts : List Expr} {kk : Nat} {tpos : Pos} (k : Bool) (a e it : Addr) :
    Turn P w K (.Tuple elts kk tpos) (IteK K k a) [e, it] e (fun i h => (∃ old, IsEnum h e it ((i : Nat) : Int) old) ∧ SqI k h it a i ∧ e ≠ it ∧ a ≠ it ∧ e ≠ a) where
  mem := by simp
  obj := fun i h st b hb => by
    obtain ⟨⟨old, he⟩, hi, _⟩ := st
    rcases (by simpa using hb : b = e ∨ b = it) with z | z
    · subst z; exact ⟨_, he, fun v q => nomatch q⟩
    · subst z; exact hi.obj
  keep := fun i h h' st kp => let ⟨⟨old, he⟩, hi, hne⟩ := st; ⟨⟨old, kp e (by simp) _ he⟩, hi.at fun o q => kp it (by simp) o q, hne⟩
  item := by
    intro X hP hw hK hc i pins s σ H E I hf st hg
    subst hP hw hK
    obtain ⟨⟨old, he⟩, hit, hne, hna, hea⟩ := st
    obtain ⟨xs, x, hq, hx⟩ := hg
    obtain ⟨its, rv, ho, hlt⟩ := hq.val I
    obtain ⟨u, hu, ru⟩ := rv.get hx
    have hel : e < s.heap.objs.size := Heap.lt_size he
    have hil : it < s.heap.objs.size := let ⟨_, q, _⟩ := hit.obj; Heap.lt_size q
    have hsz : i < its.toArray.size := by simpa using (List.getElem?_eq_some_iff.mp hu).1
    refine wpAny_pyNext_enum_itemD (sq_draws (A := X.A.in1) (I.ok.hd hc) k it a hna its.toArray) he ⟨hit, ho⟩ hsz hne (by simp [hne, hea]) fun x' h' tk hp he' st' hT hz hk => ?_
    obtain rfl : u = x' := by
      have e1 : its.toArray[i]? = some u := by simpa using hu
      exact Option.some.inj (e1.symm.trans hp)
    refine ⟨_, rfl, wpAny_letOwnedTupleGo_enum (s := { s with heap := h', toks := tk + 1 }) he' fun h'' he'' sb => ?_⟩
    have hT2 := (sb.2 s.heap.objs.size (Nat.ne_of_gt hel)).trans hT
    have new : ObjOk X.prog X.w (L2.upd H s.heap.objs.size (.tup [.int (i : Nat), x])) h'' s.heap.objs.size (.tup [.int (i : Nat), x]) :=
      ⟨(by show 2 ≤ sizeLine; decide), [.int i tk, u], .cons ⟨_, rfl⟩ (.cons ru .nil), ⟨_, hT2, rfl, _, rfl⟩⟩
    have I1 : Inv X pins σ (L2.upd H s.heap.objs.size (.tup [.int (i : Nat), x])) { s with heap := h'', toks := tk + 1 } :=
      I.turnedNew (ch := [e, it]) (fun b ob hb q => by
        have n1 : b ≠ e := fun z => hb (by simp [z])
        have n2 : b ≠ it := fun z => hb (by simp [z])
        exact (sb.2 b n1).trans (hk b ob n1 n2 q)) hf (Nat.le_refl _) new
    refine ⟨.ref s.heap.objs.size, _, I1, rfl, ⟨_, x, rfl, I.hok.fresh (Nat.le_refl _), rfl, fun ys hy => by rw [hy.inj I hq]; exact hx⟩, ⟨⟨u, ?_⟩, ?_, hne, hna, hea⟩, fun b hb => ?_⟩
    · have e1 : ((i + 1 : Nat) : Int) = (i : Int) + 1 := by omega
      rw [e1]; exact he''
    · exact st'.1.at fun o q => (sb.2 it (Ne.symm hne)).trans q
    · have hb' : b < s.heap.objs.size := by
        rcases (by simpa using hb : b = e ∨ b = it) with z | z
        · rw [z]; exact hel
        · rw [z]; exact hil
      rw [upd_ne (Nat.ne_of_lt hb')]
      exact (hf b hb).1
  done := by
    intro X hP hw hK hc i pins s σ H E I hf st hg
    subst hP hw hK
    obtain ⟨⟨old, he⟩, hit, hne, hna, hea⟩ := st
    obtain ⟨xs, hq, hx⟩ := hg
    obtain ⟨its, rv, ho, _⟩ := hq.val I
    obtain ⟨f0, f1, f2, f3, f4, f5⟩ := hf it (by simp)
    have hl : i = its.toArray.size := by have := rv.length; simp; omega
    rw [hl] at hit he
    exact wpAny_pyNext_enum_endD (sq_draws (A := X.A.in1) (I.ok.hd hc) k it a hna its.toArray) he ⟨hit, ho⟩ fun h' eb => ⟨rfl, I.turned (t' := s.toks) (fun b o hb q => eb b o hb q) f0 f1 f3 f4 f5⟩
  self := fun A i s Q E st h => let ⟨⟨_, he⟩, _⟩ := st; wpAny_pyIter_enum he h
set_option maxHeartbeats 1000000 in
theorem meets_enum1 {v : Value} {o : Obj} {Hb : Heap → Prop} (B : Begins v o Hb) :
    Meets (Builtin.«enumerate.__new__» ⟨[.type "enumerate", v], []⟩) (fun _ R s => Hb s.heap ∧ R (.ok (.ret (.ref (s.heap.push o).objs.size))) { s with heap := (s.heap.push o).push { cls := .type "enumerate", data := .fields #[.none, .bool false, .ref s.heap.objs.size, rawInt 0, .none, .none] } }) :=
  .of_wp fun prog w A R s h => by
    obtain ⟨hp, g, d, tk, os⟩ := s; obtain ⟨h1, h⟩ := h
    have hsub := sub_enumerate
    have q1 : ∀ {A' : Around} {E : Value → Shared → Prop} {Q : Value → Shared → Prop}, Q (.ref hp.objs.size) ⟨hp.push o, g, d, tk, os⟩ → wpAny (model prog w) A' (pyIter v) Q E ⟨hp, g, d, tk, os⟩ := fun q => B.iter prog w _ _ ⟨hp, g, d, tk, os⟩ _ h1 q
    wp_walk using q1
    refine wpAny_stack_any fun st => wpAny_pure ?_; split
    · rename_i c _ _ _ _ _; cases (c == Value.type "enumerate") <;> (wp_walk using q1; exact ⟨_, rfl, h⟩)
    · wp_walk using q1; exact ⟨_, rfl, h⟩
theorem enum_begins1 {prog : Program} {w : World} {A : Around} {E : Value → Shared → Prop} {s : Shared} {v : Value} {o : Obj} {Hb : Heap → Prop} {Q : Value → Shared → Prop} (B : Begins v o Hb) (h1 : Hb s.heap)
    (h : ∀ h', IsEnum h' (s.heap.objs.size + 1) s.heap.objs.size 0 .none → h'.get? s.heap.objs.size = some o → (∀ b o, s.heap.get? b = some o → h'.get? b = some o) → Q (.ref (s.heap.objs.size + 1)) { s with heap := h' }) :
    wpAny (model prog w) A (call (.type "enumerate") [v]) Q E s := by
  refine callType_new F.called_enumerate (by decide) (F.typeCall_enumerate_1 _) (F.newCall_enumerate_1 _) (fun obj => F.args_object_init_2 obj _) F.entry_enumerate_new (meets_enum1 B) ⟨h1, ?_⟩
  have hz : (s.heap.push o).objs.size = s.heap.objs.size + 1 := Heap.size_push ..
  show _ ∧ _
  rw [hz]
  have he : IsEnum ((s.heap.push o).push { cls := .type "enumerate", data := .fields #[.none, .bool false, .ref s.heap.objs.size, rawInt 0, .none, .none] }) (s.heap.objs.size + 1) s.heap.objs.size 0 .none := by
    have := Heap.get?_push_size (s.heap.push o) (o := { cls := .type "enumerate", data := .fields #[.none, .bool false, .ref s.heap.objs.size, rawInt 0, .none, .none] }) rfl
    rw [hz] at this
    exact this
  exact ⟨⟨_, he, rfl⟩, h _ he (Heap.get?_push_of_some _ (Heap.get?_push_size _ B.free)) fun b o x => Heap.get?_push_of_some _ (Heap.get?_push_of_some _ x)⟩
def iEnumK (K : PySem.W.Frag) (ta : TA) : TI := fun σ H R => ta σ H fun vs H1 => ∃ k a xs, vs = [.ref a] ∧ SqK K k H1 a xs ∧ R (IteK K k a) H1
theorem pi_enumK {X : Cx} {e : Expr} {ta : TA} {p pos tpos : Pos} {elts : List Expr} {kk : Nat} (hg : Gl X "enumerate") (hm : X.mg "enumerate" = none) (ha : PA X [e] ta) (hs : starEach [e] X.env = [(false, eval e X.env)]) :
    PI X (.Tuple elts kk tpos) (.Call (.Name "enumerate" p) [e] [] pos) (iEnumK X.K ta) := by
  refine ⟨fun pins s σ H R I h => Call_ (ld_blt I hg hm boot_enumerate (PyProof.Rows.callWith_type1 (thn (ha.run pos pins s σ H _ I h) fun us s1 ⟨vs, H1, I1, r1, k, a, xs, ex, hq, q⟩ => ?_) hs rfl))⟩
  subst ex
  cases r1 with
  | cons r rr =>
    cases rr
    cases r
    obtain ⟨its, rv, ho, hlt⟩ := hq.val I1
    refine enum_begins1 (sq_begins k a its.toArray) ho fun h' he hit hk => wpAny_pyIter_enum he ?_
    have I2 : Inv X pins σ H1 { s1 with heap := h' } := I1.kept (t' := s1.toks) hk
    refine ⟨s1.heap.objs.size + 1, [s1.heap.objs.size + 1, s1.heap.objs.size], _, _, H1, rfl, I2, turn_enumK k a (s1.heap.objs.size + 1) s1.heap.objs.size, ⟨⟨.none, he⟩, sqIt_new hit, Nat.succ_ne_self _, Nat.ne_of_lt hlt, Ne.symm (Nat.ne_of_lt (Nat.lt_succ_of_lt hlt))⟩, fun b hb => ?_, q⟩
    have hle : s1.heap.objs.size ≤ b := by
      rcases (by simpa using hb : b = s1.heap.objs.size + 1 ∨ b = s1.heap.objs.size) with z | z <;> rw [z] <;> first | exact Nat.le_add_right _ _ | exact Nat.le_refl _
    exact I1.fpOk hle (I1.hok.fresh hle)

/-! ### zip -/
def ItzK (K : PySem.W.Frag) (k l : Bool) (a b : Addr) : L2.It :=
  ⟨fun i H => ∃ (xs ys : List V) (x y : V), SqK K k H a xs ∧ SqK K l H b ys ∧ xs[i]? = some x ∧ ys[i]? = some y,
    fun i H v H' => ∃ T x y, v = .ref T ∧ H T = none ∧ H' = L2.upd H T (.tup [x, y]) ∧ (∀ xs, SqK K k H a xs → xs[i]? = some x) ∧ ∀ ys, SqK K l H b ys → ys[i]? = some y,
    fun i H => ∃ xs ys : List V, SqK K k H a xs ∧ SqK K l H b ys ∧ i ≤ xs.length ∧ i ≤ ys.length ∧ (i = xs.length ∨ i = ys.length)⟩
theorem turn_zipK {P : Program} {w : World} {K : PySem.W.Frag} {elts : List Expr} {kk : Nat} {tpos : Pos} (k l : Bool) {a b z TI TO i1 i2 : Addr} (S : ZipSep2 z TI TO i1 i2 [i1, a] [i2, b]) (n1 : a ≠ i1) (n2 : b ≠ i2) :
    Turn P w K (.Tuple elts kk tpos) (ItzK K k l a b) [z, TI, TO, i1, i2] z (fun i h => IsZip h z TI TO .none ∧ IsTupOf2 h TI (.ref i1) (.ref i2) ∧ (∃ x y, IsTupOf2 h TO x y) ∧ SqI k h i1 a i ∧ SqI l h i2 b i) where
  mem := by simp
  obj := fun i h st c hc => by
    obtain ⟨hz, hTI, ⟨x, y, hTO⟩, h1, h2⟩ := st
    rcases (by simpa using hc : c = z ∨ c = TI ∨ c = TO ∨ c = i1 ∨ c = i2) with q | q | q | q | q <;> subst q
    · exact ⟨_, hz, fun v q => nomatch q⟩
    · exact ⟨_, hTI, fun v q => nomatch q⟩
    · exact ⟨_, hTO, fun v q => nomatch q⟩
    · exact h1.obj
    · exact h2.obj
  keep := fun i h h' st kp => by
    obtain ⟨hz, hTI, ⟨x, y, hTO⟩, h1, h2⟩ := st
    exact ⟨kp z (by simp) _ hz, kp TI (by simp) _ hTI, ⟨x, y, kp TO (by simp) _ hTO⟩, h1.at fun o q => kp i1 (by simp) o q, h2.at fun o q => kp i2 (by simp) o q⟩
  item := by
    intro X hP hw hK hc i pins s σ H E I hf st hg
    subst hP hw hK
    obtain ⟨hz, hTI, ⟨x0, y0, hTO⟩, h1, h2⟩ := st
    obtain ⟨xs, ys, x, y, hqx, hqy, hx, hy⟩ := hg
    obtain ⟨its, rv, o1, _⟩ := hqx.val I
    obtain ⟨jts, rw', o2, _⟩ := hqy.val I
    obtain ⟨u, hu, ru⟩ := rv.get hx
    obtain ⟨u2, hu2, ru2⟩ := rw'.get hy
    have hzl : z < s.heap.objs.size := Heap.lt_size hz
    have z1 : i < its.toArray.size := by simpa using (List.getElem?_eq_some_iff.mp hu).1
    have z2 : i < jts.toArray.size := by simpa using (List.getElem?_eq_some_iff.mp hu2).1
    refine wpAny_pyNext_zipD2_item S (sq_draws (A := X.A.in1) (I.ok.hd hc) k i1 a n1 its.toArray) (sq_draws (A := X.A.in1) (I.ok.hd hc) l i2 b n2 jts.toArray) hz hTI hTO ⟨h1, o1⟩ ⟨h2, o2⟩ z1 z2 fun v1 v2 h' tk p1 p2 z' TO' t1 t2 hT hsz hk => ?_
    obtain rfl : u = v1 := Option.some.inj ((show its.toArray[i]? = some u by simpa using hu).symm.trans p1)
    obtain rfl : u2 = v2 := Option.some.inj ((show jts.toArray[i]? = some u2 by simpa using hu2).symm.trans p2)
    refine ⟨_, rfl, wpAny_letOwnedTupleGo_zip (s := { s with heap := h', toks := tk }) z' fun h'' z'' sb => ?_⟩
    have hT2 := (sb.2 s.heap.objs.size (Nat.ne_of_gt hzl)).trans hT
    have new : ObjOk X.prog X.w (L2.upd H s.heap.objs.size (.tup [x, y])) h'' s.heap.objs.size (.tup [x, y]) :=
      ⟨(by show 2 ≤ sizeLine; decide), [u, u2], .cons ru (.cons ru2 .nil), ⟨_, hT2, rfl, _, rfl⟩⟩
    have I1 : Inv X pins σ (L2.upd H s.heap.objs.size (.tup [x, y])) { s with heap := h'', toks := tk } :=
      I.turnedNew (t' := tk) (ch := [z, TI, TO, i1, i2]) (fun c o hb q => by
        have m1 : c ≠ z := fun q' => hb (by simp [q'])
        have m2 : c ≠ TO := fun q' => hb (by simp [q'])
        have m3 : c ≠ i1 := fun q' => hb (by simp [q'])
        have m4 : c ≠ i2 := fun q' => hb (by simp [q'])
        exact (sb.2 c m1).trans (hk c o m1 m2 m3 m4 q)) hf (Nat.le_refl _) new
    refine ⟨.ref s.heap.objs.size, _, I1, rfl, ⟨_, x, y, rfl, I.hok.fresh (Nat.le_refl _), rfl, fun q hl => by rw [hl.inj I hqx]; exact hx, fun q hl => by rw [hl.inj I hqy]; exact hy⟩, ⟨z'', ?_, ⟨u, u2, ?_⟩, ?_, ?_⟩, fun c hcm => ?_⟩
    · exact (sb.2 _ S.TIz).trans (hk _ _ S.TIz S.TITO S.TIi1 S.TIi2 hTI)
    · exact (sb.2 _ S.TOz).trans TO'
    · exact t1.1.at fun o q => (sb.2 _ (Ne.symm S.zi1)).trans q
    · exact t2.1.at fun o q => (sb.2 _ (Ne.symm S.zi2)).trans q
    · have hlt : c < s.heap.objs.size := by
        rcases (by simpa using hcm : c = z ∨ c = TI ∨ c = TO ∨ c = i1 ∨ c = i2) with q | q | q | q | q <;> subst q
        · exact hzl
        · exact Heap.lt_size hTI
        · exact Heap.lt_size hTO
        · obtain ⟨_, e1, _⟩ := h1.obj; exact Heap.lt_size e1
        · obtain ⟨_, e2, _⟩ := h2.obj; exact Heap.lt_size e2
      rw [upd_ne (Nat.ne_of_lt hlt)]
      exact (hf c hcm).1
  done := by
    intro X hP hw hK hc i pins s σ H E I hf st hg
    subst hP hw hK
    obtain ⟨hz, hTI, ⟨x0, y0, hTO⟩, h1, h2⟩ := st
    obtain ⟨xs, ys, hqx, hqy, le1, le2, hend⟩ := hg
    obtain ⟨its, rv, o1, _⟩ := hqx.val I
    obtain ⟨jts, rw', o2, _⟩ := hqy.val I
    have l1 := rv.length
    have l2 := rw'.length
    refine wpAny_pyNext_zipD2_end S (sq_draws (A := X.A.in1) (I.ok.hd hc) k i1 a n1 its.toArray) (sq_draws (A := X.A.in1) (I.ok.hd hc) l i2 b n2 jts.toArray) hz hTI hTO ⟨h1, o1⟩ ⟨h2, o2⟩ (by simp; omega) (by simp; omega) (by simp; omega) fun h' tk hk => ⟨rfl, ?_⟩
    exact I.turnedL (t' := tk) (ch := [z, TI, TO, i1, i2]) (fun c o hb q => hk c o (fun q' => hb (by simp [q'])) (fun q' => hb (by simp [q'])) (fun q' => hb (by simp [q'])) (fun q' => hb (by simp [q'])) q) hf
  self := fun A i s Q E st h => wpAny_pyIter_zip st.1 h
def iZipK (K : PySem.W.Frag) (ta : TA) : TI := fun σ H R => ta σ H fun vs H1 => ∃ k l a b xs ys, vs = [.ref a, .ref b] ∧ SqK K k H1 a xs ∧ SqK K l H1 b ys ∧ R (ItzK K k l a b) H1
theorem pi_zipK {X : Cx} {e e2 : Expr} {ta : TA} {p pos tpos : Pos} {elts : List Expr} {kk : Nat} (hg : Gl X "zip") (hm : X.mg "zip" = none) (ha : PA X [e, e2] ta)
    (hs : starEach [e, e2] X.env = (false, eval e X.env) :: starEach [e2] X.env) (hpl : (backTo pos (starEach [e2] X.env)).any (·.1) = false) :
    PI X (.Tuple elts kk tpos) (.Call (.Name "zip" p) [e, e2] [] pos) (iZipK X.K ta) := by
  refine ⟨fun pins s σ H R I h => Call_ (ld_blt I hg hm PyProof.Rows.boot_zip (PyProof.Rows.callWith_type1 (thn (ha.run pos pins s σ H _ I h) fun us s1 ⟨vs, H1, I1, r1, k, l, a, b, xs, ys, ex, hqx, hqy, q⟩ => ?_) hs hpl))⟩
  subst ex
  cases r1 with
  | cons r rr =>
    cases rr with
    | cons r' rr =>
      cases rr
      cases r
      cases r'
      obtain ⟨its, rv, o1, la⟩ := hqx.val I1
      obtain ⟨jts, rw', o2, lb⟩ := hqy.val I1
      refine zip_begins2 (sq_begins k a its.toArray) (sq_begins l b jts.toArray) o1 o2 fun h' hz hTI hTO h1 h2 hsz hk => wpAny_pyIter_zip hz ?_
      have I2 : Inv X pins σ H1 { s1 with heap := h' } := I1.kept (t' := s1.toks) hk
      have S : ZipSep2 (s1.heap.objs.size + 4) (s1.heap.objs.size + 2) (s1.heap.objs.size + 3) s1.heap.objs.size (s1.heap.objs.size + 1) [s1.heap.objs.size, a] [s1.heap.objs.size + 1, b] :=
        zip_sep2 (fp1 := [a]) (fp2 := [b]) (by simpa using la) (by simpa using lb)
      refine ⟨s1.heap.objs.size + 4, [s1.heap.objs.size + 4, s1.heap.objs.size + 2, s1.heap.objs.size + 3, s1.heap.objs.size, s1.heap.objs.size + 1], _, _, H1, rfl, I2, turn_zipK k l S (Nat.ne_of_lt la) (Nat.ne_of_lt (Nat.lt_succ_of_lt lb)), ⟨hz, hTI, ⟨_, _, hTO⟩, sqIt_new h1, sqIt_new h2⟩, fun c hcm => ?_, q⟩
      have hle : s1.heap.objs.size ≤ c := by
        rcases (by simpa using hcm : c = s1.heap.objs.size + 4 ∨ c = s1.heap.objs.size + 2 ∨ c = s1.heap.objs.size + 3 ∨ c = s1.heap.objs.size ∨ c = s1.heap.objs.size + 1) with z | z | z | z | z <;> rw [z] <;> first | exact Nat.le_add_right _ _ | exact Nat.le_refl _
      exact I1.fpOk hle (I1.hok.fresh hle)
end Og
end
section
set_option maxHeartbeats 4000000
set_option autoImplicit false
/-! Og: what is shown of each term: its readings by data; the rules for values. -/
namespace Og
open PySem PySem.Spec PyProof.Rows L2
/-- the slots hold what rho says -/
structure REnv (K : PySem.W.Frag) (r : Rho) (m : Mem) (σ : L2.St) (H : Hp) : Prop where
  len : σ.length = r.length
  at_ : ∀ (i : Nat) (d : D), r[i]? = some (some d) → ∃ v, σ[i]? = some (some v) ∧ Rep K m H v d
  mem : MemOk K m H
theorem REnv.step {K : PySem.W.Frag} {r : Rho} {m m' : Mem} {σ : L2.St} {H H' : Hp} (e : REnv K r m σ H) (s : Step m H m' H') (hm : MemOk K m' H') : REnv K r m' σ H' :=
  ⟨e.len, fun i d h => let ⟨v, q, z⟩ := e.at_ i d h; ⟨v, q, Rep.step s _ _ z⟩, hm⟩
theorem REnv.set {K : PySem.W.Frag} {r : Rho} {m : Mem} {σ : L2.St} {H : Hp} {v : V} {d : D} (e : REnv K r m σ H) (i : Nat) (z : Rep K m H v d) : REnv K (r.set i (some d)) m (σ.set i (some v)) H :=
  ⟨by simp [e.len], fun j c h => by
    by_cases hj : i = j
    · subst hj
      by_cases hl : i < r.length
      · rw [List.getElem?_set_self hl] at h
        cases h
        exact ⟨v, List.getElem?_set_self (by rw [e.len]; exact hl), z⟩
      · rw [List.getElem?_eq_none (by simpa using hl)] at h; cases h
    · rw [List.getElem?_set_ne hj] at h ⊢
      exact e.at_ j c h, e.mem⟩
theorem REnv.wipe {K : PySem.W.Frag} {r : Rho} {m : Mem} {σ : L2.St} {H : Hp} (e : REnv K r m σ H) : ∀ vs : List Nat, REnv K (wipeD r vs) m (L2.wipe σ vs) H
  | [] => e
  | v :: vs => by
    have ih := REnv.wipe e vs
    unfold wipeD L2.wipe
    refine ⟨by simp [ih.len], fun j c h => ?_, ih.mem⟩
    by_cases hj : v = j
    · subst hj
      by_cases hl : v < (wipeD r vs).length
      · rw [List.getElem?_set_self hl] at h; cases h
      · rw [List.getElem?_eq_none (by simpa using hl)] at h; cases h
    · rw [List.getElem?_set_ne hj] at h ⊢
      exact ih.at_ j c h

/-- the state is one of the machine's -/
def Good (X : Cx) (H : Hp) : Prop := ∃ pins σ s, Inv X pins σ H s
theorem Good.seq {X : Cx} {H : Hp} {a : Addr} {xs : List V} (g : Good X H) (h : SqL X.K H a xs ∨ SqT X.K H a xs) : xs.length ≤ sizeLine := by
  obtain ⟨_, _, _, I⟩ := g
  rcases h with h | h
  · obtain ⟨_, _, _, z⟩ := I.list h; exact z
  · obtain ⟨_, _, _, z⟩ := I.tuple h; exact z
theorem _root_.L2.PE.imp {X : Cx} {e : Expr} {t u : TE} (h : PE X e u) (i : ∀ σ H Q, Good X H → t σ H Q → u σ H Q) : PE X e t := ⟨fun pins s σ H Q I w => h.run pins s σ H Q I (i σ H Q ⟨_, _, _, I⟩ w)⟩
theorem _root_.L2.PT.imp {X : Cx} {e : Expr} {t u : TT} (h : PT X e u) (i : ∀ σ H Q, Good X H → t σ H Q → u σ H Q) : PT X e t := ⟨fun pins s σ H Q I w => h.run pins s σ H Q I (i σ H Q ⟨_, _, _, I⟩ w)⟩
theorem _root_.L2.PA.imp {X : Cx} {e : List Expr} {t u : TA} (h : PA X e u) (i : ∀ σ H Q, Good X H → t σ H Q → u σ H Q) : PA X e t := ⟨fun pos pins s σ H Q I w => h.run pos pins s σ H Q I (i σ H Q ⟨_, _, _, I⟩ w)⟩
theorem _root_.L2.PO.imp {X : Cx} {e : Option Expr} {t u : TO} (h : PO X e u) (i : ∀ σ H Q, Good X H → t σ H Q → u σ H Q) : PO X e t := ⟨fun pins s σ H Q I w => h.run pins s σ H Q I (i σ H Q ⟨_, _, _, I⟩ w)⟩
theorem _root_.L2.PTs.imp {X : Cx} {e : List Expr} {t u : TT} (h : PTs X e u) (i : ∀ σ H Q, Good X H → t σ H Q → u σ H Q) : PTs X e t := ⟨fun pins s σ H Q I w => h.run pins s σ H Q I (i σ H Q ⟨_, _, _, I⟩ w)⟩
theorem _root_.L2.PI.imp {X : Cx} {tg e : Expr} {t u : TI} (h : PI X tg e u) (i : ∀ σ H Q, Good X H → t σ H Q → u σ H Q) : PI X tg e t := ⟨fun pins s σ H Q I w => h.run pins s σ H Q I (i σ H Q ⟨_, _, _, I⟩ w)⟩
theorem _root_.L2.PS.imp {X : Cx} {e : Stmt} {t u : TS} (h : PS X e u) (i : ∀ D σ H, Good X H → t D σ H → u D σ H) : PS X e t := ⟨fun pins s σ H D I w => h.run pins s σ H D I (i D σ H ⟨_, _, _, I⟩ w)⟩
theorem _root_.L2.PSs.imp {X : Cx} {e : List Stmt} {t u : TS} (h : PSs X e u) (i : ∀ D σ H, Good X H → t D σ H → u D σ H) : PSs X e t := ⟨fun pins s σ H D I w => h.run pins s σ H D I (i D σ H ⟨_, _, _, I⟩ w)⟩
theorem _root_.L2.PG.imp {X : Cx} {e : Expr} {t u : TG} (h : PG X e u) (i : ∀ v σ H Q, t v σ H Q → u v σ H Q) : PG X e t := ⟨fun pins s σ H v z Q I r w => h.run pins s σ H v z Q I r (i v σ H Q w)⟩
theorem _root_.L2.PGs.imp {X : Cx} {e : List Expr} {t u : TGs} (h : PGs X e u) (i : ∀ v σ H Q, t v σ H Q → u v σ H Q) : PGs X e t := ⟨fun pins s σ H v z Q I r w => h.run pins s σ H v z Q I r (i v σ H Q w)⟩
/-- what an iterator gives is known to be of the machine too -/
theorem _root_.L2.PI.good {X : Cx} {tg e : Expr} {t : TI} (h : PI X tg e t) : PI X tg e (fun σ H R => t σ H fun J H1 => Good X H1 → R J H1) := ⟨fun pins s σ H R I w =>
  thn (h.run pins s σ H _ I w) fun v s1 q => thn q fun u s2 ⟨it, fp, tn, J, H', e1, I', T, t0, f, r⟩ => ⟨it, fp, tn, J, H', e1, I', T, t0, f, r ⟨_, _, _, I'⟩⟩⟩
theorem _root_.L2.PE.good {X : Cx} {e : Expr} {t : TE} (h : PE X e t) : PE X e (fun σ H Q => t σ H fun v H1 => Good X H1 → Q v H1) := ⟨fun pins s σ H Q I w =>
  thn (h.run pins s σ H _ I w) fun v s1 ⟨x, H1, I1, r1, q⟩ => ⟨x, H1, I1, r1, q ⟨_, _, _, I1⟩⟩⟩

/-! ### the readings -/
section
variable (K : PySem.W.Frag) (Y : Ctx)
def tE (c : E) : TE := fun σ H Q' => ∃ r m Q, REnv K r m σ H ∧ ev Y c r m Q ∧ Fin K m H Q Q'
def FinB (m : Mem) (H : Hp) (Q : Bool → Mem → Prop) (Q' : Bool → Hp → Prop) : Prop := ∀ b m' H', Q b m' → MemOk K m' H' → Step m H m' H' → Q' b H'
def tTst (c : E) : TT := fun σ H Q' => ∃ r m Q, REnv K r m σ H ∧ evB Y c r m Q ∧ FinB K m H Q Q'
def tTs (cs : List E) : TT := fun σ H Q' => ∃ r m Q, REnv K r m σ H ∧ evT Y cs r m Q ∧ FinB K m H Q Q'
def tAs (es : List E) : TA := fun σ H Q' => ∃ r m Q, REnv K r m σ H ∧ evs Y es r m Q ∧ ∀ ds m' vs H', Q ds m' → Reps K m' H' vs ds → MemOk K m' H' → Step m H m' H' → Q' vs H'
def tOs (o : Option E) : TO := fun σ H Q' => ∃ r m Q, REnv K r m σ H ∧ evO Y o r m Q ∧ ∀ i m' H', Q i m' → MemOk K m' H' → Step m H m' H' → Q' i H'
/-- an iterator that gives the data ds, while G stands of the cells -/
structure WalkD (J : L2.It) (ds : List D) (G : Mem → Prop) (m1 : Mem) (H1 : Hp) : Prop where
  go : ∀ i d m H, ds[i]? = some d → G m → MemOk K m H → Step m1 H1 m H → J.go i H
  yl : ∀ i d m H x H', ds[i]? = some d → G m → MemOk K m H → Step m1 H1 m H → J.yld i H x H' → MemOk K m H' ∧ Step m H m H' ∧ Rep K m H' x d
  st : ∀ m H, G m → MemOk K m H → Step m1 H1 m H → J.stop ds.length H
  len : ds.length ≤ sizeLine
def tIt (it : Ita) : TI := fun σ H R => ∃ r m Q, REnv K r m σ H ∧ evI Y it r m Q ∧ ∀ ds G m' J H', Q ds G m' → MemOk K m' H' → Step m H m' H' → WalkD K J ds G m' H' → R J H'
mutual
def Tg.slots : Tg → List Nat
  | .nm i => [i]
  | .tup ts => slotsAll ts
  | .lst ts => slotsAll ts
def slotsAll : List Tg → List Nat
  | [] => []
  | t :: ts => t.slots ++ slotsAll ts
end
/-- nothing but these slots changed -/
def Out (l : List Nat) (σ σ' : L2.St) : Prop := ∀ vs : List Nat, (∀ i ∈ l, i ∈ vs) → L2.wipe σ' vs = L2.wipe σ vs
def tTg (t : Tg) : TG := fun v σ H Q => ∃ r m d Kd, REnv K r m σ H ∧ Rep K m H v d ∧ setT t d r Kd ∧ ∀ r' σ', Kd r' → REnv K r' m σ' H → Out t.slots σ σ' → Q σ' H
def tTgs (ts : List Tg) : TGs := fun vs σ H Q => ∃ r m ds Kd, REnv K r m σ H ∧ Reps K m H vs ds ∧ setTs ts ds r Kd ∧ ∀ r' σ', Kd r' → REnv K r' m σ' H → Out (slotsAll ts) σ σ' → Q σ' H
structure KtOk (m : Mem) (H : Hp) (k : Kt) (D : Ends) : Prop where
  nx : ∀ r' m' σ' H', k.nx r' m' → REnv K r' m' σ' H' → Step m H m' H' → D.nx σ' H'
  bk : ∀ r' m' σ' H', k.bk r' m' → REnv K r' m' σ' H' → Step m H m' H' → D.bk σ' H'
  ct : ∀ r' m' σ' H', k.ct r' m' → REnv K r' m' σ' H' → Step m H m' H' → D.ct σ' H'
  rt : Fin K m H k.rt D.rt
def tS (s : S) : TS := fun D σ H => ∃ r m k, REnv K r m σ H ∧ ex Y s r m k ∧ KtOk K m H k D
def tSs (ss : List S) : TS := fun D σ H => ∃ r m k, REnv K r m σ H ∧ exs Y ss r m k ∧ KtOk K m H k D
end
section
variable {K : PySem.W.Frag} {Y : Ctx} {m m' : Mem} {H H' : Hp}
theorem Fin.mono {Q : KD} {Q' : VK} (f : Fin K m H Q Q') (s : Step m H m' H') : Fin K m' H' Q Q' := fun d m2 v H2 q r hm s2 => f d m2 v H2 q r hm (s.trans s2)
theorem FinB.mono {Q : Bool → Mem → Prop} {Q' : Bool → Hp → Prop} (f : FinB K m H Q Q') (s : Step m H m' H') : FinB K m' H' Q Q' := fun b m2 H2 q hm s2 => f b m2 H2 q hm (s.trans s2)
theorem KtOk.mono {k : Kt} {D : Ends} (f : KtOk K m H k D) (s : Step m H m' H') : KtOk K m' H' k D :=
  ⟨fun r2 m2 σ2 H2 q e s2 => f.nx r2 m2 σ2 H2 q e (s.trans s2), fun r2 m2 σ2 H2 q e s2 => f.bk r2 m2 σ2 H2 q e (s.trans s2), fun r2 m2 σ2 H2 q e s2 => f.ct r2 m2 σ2 H2 q e (s.trans s2), f.rt.mono s⟩
theorem wipe_set {i : Nat} {v : V} : ∀ {vs : List Nat} {σ : L2.St}, i ∈ vs → L2.wipe (σ.set i (some v)) vs = L2.wipe σ vs
  | [], _, h => by cases h
  | w :: vs, σ, h => by
    unfold L2.wipe
    by_cases hi : i ∈ vs
    · rw [wipe_set hi]
    · have e : i = w := by
        rcases List.mem_cons.mp h with z | z
        · exact z
        · exact absurd z hi
      subst e
      have go : ∀ (us : List Nat) (τ : L2.St), i ∉ us → L2.wipe (τ.set i (some v)) us = (L2.wipe τ us).set i (some v) := by
        intro us
        induction us with
        | nil => intro τ _; rfl
        | cons u us ih =>
          intro τ hu
          unfold L2.wipe
          rw [ih τ fun z => hu (List.mem_cons_of_mem _ z)]
          have ne : i ≠ u := fun z => hu (by rw [z]; exact List.mem_cons_self)
          exact List.set_comm _ _ ne
      rw [go vs σ hi, List.set_set]
theorem Out.nm {i : Nat} {σ : L2.St} {v : V} : Out [i] σ (σ.set i (some v)) := fun vs h => wipe_set (h i (by simp))
theorem Out.refl {l : List Nat} {σ : L2.St} : Out l σ σ := fun _ _ => rfl
theorem Out.trans {l l' : List Nat} {σ σ1 σ2 : L2.St} (a : Out l σ σ1) (b : Out l' σ1 σ2) : Out (l ++ l') σ σ2 := fun vs h => (b vs fun i hi => h i (by simp [hi])).trans (a vs fun i hi => h i (by simp [hi]))
end

/-! ### expressions, one by one -/
section
variable {X : Cx} {Y : Ctx} {e e2 e3 : Expr} {a b c : E} {pos : Pos}
theorem r_int {i : Int} {j : Nat} : PE X (.Constant (.int i) j pos) (tE X.K Y (.int i)) := pe_int.imp fun σ H Q _ ⟨r, m, Qd, he, q, f⟩ => f.here he.mem rep_int (by simpa only [ev] using q)
theorem r_bl {i : Bool} {j : Nat} : PE X (.Constant (.bool i) j pos) (tE X.K Y (.bl i)) := pe_bl.imp fun σ H Q _ ⟨r, m, Qd, he, q, f⟩ => f.here he.mem rep_bl (by simpa only [ev] using q)
theorem r_str {i : Str} {j : Nat} : PE X (.Constant (.str i) j pos) (tE X.K Y (.str i)) := pe_str.imp fun σ H Q _ ⟨r, m, Qd, he, q, f⟩ => f.here he.mem rep_str (by simpa only [ev] using q)
theorem r_non {j : Nat} : PE X (.Constant .none j pos) (tE X.K Y .non) := pe_non.imp fun σ H Q _ ⟨r, m, Qd, he, q, f⟩ => f.here he.mem rep_non (by simpa only [ev] using q)
theorem r_x {i : Nat} {x : Str} (hN : X.N[i]? = some x) (hv : Vis X.env.scope x) (hd : (x == ("__debug__" : Str)) = false) (hc : (x == ("__classdict__" : Str)) = false) : PE X (.Name x pos) (tE X.K Y (.x i)) :=
  (pe_var hN hv hd hc).imp fun σ H Q _ ⟨r, m, Qd, he, q, f⟩ => by
    simp only [ev] at q
    obtain ⟨d, h1, q⟩ := q
    obtain ⟨v, h2, rv⟩ := he.at_ i d h1
    exact ⟨v, h2, f.here he.mem rv q⟩
theorem r_g {j : Nat} {x : Str} {v : V} {u : Value} {d : D} (hg : Gl X x) (hm : X.mg x = some u) (rv : RelV v u) (hd : (x == ("__debug__" : Str)) = false) (hj : Y.gd[j]? = some d) (rd : ∀ m H, Rep X.K m H v d) : PE X (.Name x pos) (tE X.K Y (.g j)) :=
  (pe_glob hg hm rv hd).imp fun σ H Q _ ⟨r, m, Qd, he, q, f⟩ => by
    simp only [ev] at q
    obtain ⟨d', h1, q⟩ := q
    rw [hj] at h1
    cases h1
    exact f.here he.mem (rd m H) q
/-- two expressions in a row -/
theorem two {σ : L2.St} {H : Hp} {r : Rho} {m : Mem} {R : V → V → Hp → Prop} {Qd : D → D → Mem → Prop} (he : REnv X.K r m σ H) (q : ev Y a r m fun x m1 => ev Y b r m1 fun y m2 => Qd x y m2)
    (fin : ∀ x y d e m2 H2, Rep X.K m2 H2 x d → Rep X.K m2 H2 y e → MemOk X.K m2 H2 → Step m H m2 H2 → Qd d e m2 → R x y H2) : tE X.K Y a σ H fun x H1 => tE X.K Y b σ H1 fun y H2 => R x y H2 :=
  ⟨r, m, _, he, q, fun d m1 x H1 q1 rx hm s1 => ⟨r, m1, _, he.step s1 hm, q1, fun e m2 y H2 q2 ry hm2 s2 => fin x y d e m2 H2 (Rep.step s2 _ _ rx) ry hm2 (s1.trans s2) q2⟩⟩
theorem r_bop {o : BOp} (py : PyR X) (ha : PE X e (tE X.K Y a)) (hb : PE X e2 (tE X.K Y b)) : PE X (.BinOp e o.py e2 pos) (tE X.K Y (.bop o a b)) := by
  obtain ⟨r0, hr, hh⟩ := opD_ok (X := X) py o
  refine (pe_op hr ha hb).imp fun σ H Q _ ⟨r, m, Qd, he, q, f⟩ => ?_
  simp only [ev] at q
  exact two he q fun x y d e m2 H2 rx ry hm s q2 => hh x y d e m2 H2 Qd Q hm rx ry q2 (f.mono s)
theorem r_neg (ha : PE X e (tE X.K Y a)) : PE X (.UnaryOp .USub e pos) (tE X.K Y (.neg a)) := (pe_un un_neg ha).imp fun σ H Q _ ⟨r, m, Qd, he, q, f⟩ => by
  simp only [ev] at q
  refine ⟨r, m, _, he, q, fun d m1 v H1 q1 rv hm s => ?_⟩
  obtain ⟨i, rfl, q1⟩ := onI_out q1
  exact ⟨_, rv.int, (f.mono s).here hm rep_int q1⟩
theorem r_cmp {o : COp} (hu : X.A.units + 64 < cLine) (hn : behindInMarks o.py e2 = false) (ha : PE X e (tE X.K Y a)) (hb : PE X e2 (tE X.K Y b)) : PE X (.Compare e [o.py] [e2] pos) (tE X.K Y (.cmp o a b)) := by
  obtain ⟨r0, hr, hh⟩ := cmpD_ok (X := X) hu o
  refine (pe_cmpR hr ha hb hn).imp fun σ H Q _ ⟨r, m, Qd, he, q, f⟩ => ?_
  simp only [ev] at q
  exact two he q fun x y d e m2 H2 rx ry hm s q2 => hh x y d e m2 H2 Qd Q hm rx ry q2 (f.mono s)
theorem tst_of {c : E} {σ : L2.St} {H : Hp} {Q' : Bool → Hp → Prop} (h : tTst X.K Y c σ H Q') : tE X.K Y c σ H fun x H' => ∃ k, x = .bl k ∧ Q' k H' := by
  obtain ⟨r, m, Qd, he, q, f⟩ := h
  refine ⟨r, m, _, he, q, fun d m1 v H1 q1 rv hm s => ?_⟩
  obtain ⟨k, rfl, q1⟩ := onB_out q1
  exact ⟨_, rv.bl, f _ m1 H1 q1 hm s⟩
theorem t_cmp {o : COp} (hu : X.A.units + 64 < cLine) (hn : behindInMarks o.py e2 = false) (ha : PE X e (tE X.K Y a)) (hb : PE X e2 (tE X.K Y b)) : PT X (.Compare e [o.py] [e2] pos) (tTst X.K Y (.cmp o a b)) := by
  obtain ⟨r0, hr, hh⟩ := cmpD_ok (X := X) hu o
  refine (pt_cmpR hr ha hb hn).imp fun σ H Q _ h => ?_
  obtain ⟨r, m, Qd, he, q, f⟩ := tst_of h
  simp only [ev] at q
  exact two he q fun x y d e m2 H2 rx ry hm s q2 => hh x y d e m2 H2 Qd _ hm rx ry q2 (f.mono s)
/-- a chain -/
theorem chain_of {o o' : COp} {r0 r1 : R2} (hh : ∀ x y d e m H Q Q', MemOk X.K m H → Rep X.K m H x d → Rep X.K m H y e → cmpD o d e m Q → Fin X.K m H Q Q' → r0 x y H Q')
    (hh' : ∀ x y d e m H Q Q', MemOk X.K m H → Rep X.K m H x d → Rep X.K m H y e → cmpD o' d e m Q → Fin X.K m H Q Q' → r1 x y H Q') {σ : L2.St} {H : Hp} {Q : VK} (h : tE X.K Y (.ch o o' a b c) σ H Q) : tChain r0 r1 (tE X.K Y a) (tE X.K Y b) (tE X.K Y c) σ H Q := by
  obtain ⟨r, m, Qd, he, q, f⟩ := h
  simp only [ev] at q
  refine two he q fun x y d e m2 H2 rx ry hm s q2 => hh x y d e m2 H2 _ _ hm rx ry q2 fun z m3 v H3 q3 rz hm3 s3 => ?_
  obtain ⟨k, rfl, q3⟩ := onB_out q3
  refine ⟨k, rz.bl, ?_⟩
  cases k with
  | false => exact (f.mono (s.trans s3)).here hm3 rep_bl q3
  | true => exact ⟨r, m3, _, he.step (s.trans s3) hm3, q3, fun w m4 u H4 q4 rw' hm4 s4 => hh' _ _ _ _ m4 H4 Qd Q hm4 (Rep.step (s3.trans s4) _ _ ry) rw' q4 (f.mono ((s.trans s3).trans s4))⟩
theorem r_ch {o o' : COp} (hu : X.A.units + 64 < cLine) (hn : lastMarks [o.py, o'.py] [e2, e3] = false) (ha : PE X e (tE X.K Y a)) (hb : PE X e2 (tE X.K Y b)) (hc : PE X e3 (tE X.K Y c)) : PE X (.Compare e [o.py, o'.py] [e2, e3] pos) (tE X.K Y (.ch o o' a b c)) := by
  obtain ⟨r0, hr, hh⟩ := cmpD_ok (X := X) hu o
  obtain ⟨r1, hr', hh'⟩ := cmpD_ok (X := X) hu o'
  exact (pe_chain hr hr' ha hb hc hn).imp fun σ H Q _ h => chain_of hh hh' h
theorem t_ch {o o' : COp} (hu : X.A.units + 64 < cLine) (hn : lastMarks [o.py, o'.py] [e2, e3] = false) (ha : PE X e (tE X.K Y a)) (hb : PE X e2 (tE X.K Y b)) (hc : PE X e3 (tE X.K Y c)) : PT X (.Compare e [o.py, o'.py] [e2, e3] pos) (tTst X.K Y (.ch o o' a b c)) := by
  obtain ⟨r0, hr, hh⟩ := cmpD_ok (X := X) hu o
  obtain ⟨r1, hr', hh'⟩ := cmpD_ok (X := X) hu o'
  exact (pt_chain hr hr' ha hb hc hn).imp fun σ H Q _ h => chain_of hh hh' (tst_of h)
theorem r_and {rest : List Expr} (ha : PE X e (tE X.K Y a)) (hb : PE X (.BoolOp .And (e2 :: rest) pos) (tE X.K Y b)) : PE X (.BoolOp .And (e :: e2 :: rest) pos) (tE X.K Y (.and a b)) := (pe_and ha hb).imp fun σ H Q _ ⟨r, m, Qd, he, q, f⟩ => by
  simp only [ev] at q
  refine ⟨r, m, _, he, q, fun d m1 v H1 q1 rv hm s => ?_⟩
  obtain ⟨k, rfl, q1⟩ := onB_out q1
  refine ⟨k, rv.bl, ?_⟩
  cases k with
  | true => exact ⟨r, m1, Qd, he.step s hm, q1, f.mono s⟩
  | false => exact (f.mono s).here hm rep_bl q1
theorem r_or {rest : List Expr} (ha : PE X e (tE X.K Y a)) (hb : PE X (.BoolOp .Or (e2 :: rest) pos) (tE X.K Y b)) : PE X (.BoolOp .Or (e :: e2 :: rest) pos) (tE X.K Y (.or a b)) := (pe_or ha hb).imp fun σ H Q _ ⟨r, m, Qd, he, q, f⟩ => by
  simp only [ev] at q
  refine ⟨r, m, _, he, q, fun d m1 v H1 q1 rv hm s => ?_⟩
  obtain ⟨k, rfl, q1⟩ := onB_out q1
  refine ⟨k, rv.bl, ?_⟩
  cases k with
  | false => exact ⟨r, m1, Qd, he.step s hm, q1, f.mono s⟩
  | true => exact (f.mono s).here hm rep_bl q1
theorem r_not (ha : PE X e (tE X.K Y a)) : PE X (.UnaryOp .Not e pos) (tE X.K Y (.not a)) := (pe_not ha).imp fun σ H Q _ ⟨r, m, Qd, he, q, f⟩ => by
  simp only [ev] at q
  refine ⟨r, m, _, he, q, fun d m1 v H1 q1 rv hm s => ?_⟩
  obtain ⟨k, rfl, q1⟩ := onB_out q1
  exact ⟨_, rv.bl, (f.mono s).here hm rep_bl q1⟩
/-! as tests -/
theorem evB_split {r : Rho} {m : Mem} {Qd : Bool → Mem → Prop} {P : Bool → Mem → Prop} (h : ev Y a r m fun x m1 => onB x fun k => P k m1) : evB Y a r m P := h
theorem w_and {rest : List Expr} (ha : PT X e (tTst X.K Y a)) (hb : PW X (.BoolOp .And (e2 :: rest) pos) (tTst X.K Y b)) : PW X (.BoolOp .And (e :: e2 :: rest) pos) (tTst X.K Y (.and a b)) := ⟨fun wh pins s σ H Q I ⟨r, m, Qd, he, q, f⟩ =>
  (pw_and ha hb).run wh pins s σ H Q I (by
    unfold evB at q
    simp only [ev] at q
    refine ⟨r, m, fun k m1 => if k = true then evB Y b r m1 Qd else Qd false m1, he, q, fun k m1 H1 q1 hm s => ?_⟩
    · show if k = true then tTst X.K Y b σ H1 Q else Q false H1
      cases k with
      | true => exact ⟨r, m1, Qd, he.step s hm, q1, f.mono s⟩
      | false => exact f false m1 H1 q1 hm s)⟩
theorem w_or {rest : List Expr} (ha : PT X e (tTst X.K Y a)) (hb : PW X (.BoolOp .Or (e2 :: rest) pos) (tTst X.K Y b)) : PW X (.BoolOp .Or (e :: e2 :: rest) pos) (tTst X.K Y (.or a b)) := ⟨fun wh pins s σ H Q I ⟨r, m, Qd, he, q, f⟩ =>
  (pw_or ha hb).run wh pins s σ H Q I (by
    unfold evB at q
    simp only [ev] at q
    refine ⟨r, m, fun k m1 => if k = true then Qd true m1 else evB Y b r m1 Qd, he, q, fun k m1 H1 q1 hm s => ?_⟩
    · show if k = true then Q true H1 else tTst X.K Y b σ H1 Q
      cases k with
      | false => exact ⟨r, m1, Qd, he.step s hm, q1, f.mono s⟩
      | true => exact f true m1 H1 q1 hm s)⟩
theorem w_and1 (ha : PT X e (tTst X.K Y a)) : PW X (.BoolOp .And [e] pos) (tTst X.K Y a) := pw_and1 ha
theorem w_or1 (ha : PT X e (tTst X.K Y a)) : PW X (.BoolOp .Or [e] pos) (tTst X.K Y a) := pw_or1 ha
theorem t_not (ha : PT X e (tTst X.K Y a)) : PT X (.UnaryOp .Not e pos) (tTst X.K Y (.not a)) := (pt_not ha).imp fun σ H Q _ ⟨r, m, Qd, he, q, f⟩ => by
  unfold evB at q
  simp only [ev] at q
  refine ⟨r, m, fun k m1 => Qd (!k) m1, he, ?_, fun k m1 H1 q1 hm s => f _ m1 H1 q1 hm s⟩
  exact q
/-- any other expression as a test -/
theorem t_val (ha : PE X e (tE X.K Y a)) (hp : ∀ whole, isTrue e X.env whole = (do let v ← whole; standAt e.pos; holding [v] (truthy v))) : PT X e (tTst X.K Y a) := (pt_val ha hp).imp fun σ H Q _ h => tst_of h
theorem r_ife (hc : PT X e (tTst X.K Y c)) (ha : PE X e2 (tE X.K Y a)) (hb : PE X e3 (tE X.K Y b)) : PE X (.IfExp e e2 e3 pos) (tE X.K Y (.ife c a b)) := (pe_ifExp hc ha hb).imp fun σ H Q _ ⟨r, m, Qd, he, q, f⟩ => by
  simp only [ev] at q
  refine ⟨r, m, fun k m1 => if k = true then ev Y a r m1 Qd else ev Y b r m1 Qd, he, q, fun k m1 H1 q1 hm s => ?_⟩
  · show if k = true then tE X.K Y a σ H1 Q else tE X.K Y b σ H1 Q
    cases k with
    | true => exact ⟨r, m1, Qd, he.step s hm, q1, f.mono s⟩
    | false => exact ⟨r, m1, Qd, he.step s hm, q1, f.mono s⟩

/-! ### argument lists, displays -/
def notStar : Expr → Bool
  | .Starred _ _ => false
  | _ => true
theorem star_no {es : List Expr} {env : PySem.Env} (h : notStar e = true) : starEach (e :: es) env = (false, eval e env) :: starEach es env := by
  cases e <;> first
    | rfl
    | cases h
theorem a_nil : PA X [] (tAs X.K Y []) := pa_nil.imp fun σ H Q _ ⟨r, m, Qd, he, q, f⟩ => f [] m [] H (by simpa only [evs] using q) (by simp [Reps]) he.mem Step.refl
theorem evs_cons {c : E} {cs : List E} (hc : ∀ a, c ≠ .star a) {r : Rho} {m : Mem} {Q : List D → Mem → Prop} (h : evs Y (c :: cs) r m Q) : ev Y c r m fun x m1 => evs Y cs r m1 fun ds m2 => Q (x :: ds) m2 := by
  cases c <;> first
    | exact absurd rfl (hc _)
    | simpa only [evs] using h
theorem a_cons {es : List Expr} {c : E} {cs : List E} (hc : ∀ a, c ≠ .star a) (hn : notStar e = true) (ha : PE X e (tE X.K Y c)) (hr : PA X es (tAs X.K Y cs)) : PA X (e :: es) (tAs X.K Y (c :: cs)) := (pa_cons ha hr (star_no hn)).imp fun σ H Q _ ⟨r, m, Qd, he, q, f⟩ =>
  ⟨r, m, _, he, evs_cons hc q, fun d m1 v H1 q1 rv hm s => ⟨r, m1, _, he.step s hm, q1, fun ds m2 vs H2 q2 rs hm2 s2 => f (d :: ds) m2 (v :: vs) H2 q2 (by simp only [Reps]; exact ⟨v, vs, rfl, Rep.step s2 _ _ rv, rs⟩) hm2 (s.trans s2)⟩⟩
theorem a_star {es : List Expr} {c : E} {cs : List E} {p : Pos} (ha : PE X e (tE X.K Y c)) (hr : PA X es (tAs X.K Y cs)) : PA X (.Starred e p :: es) (tAs X.K Y (.star c :: cs)) := (StX.pa_star ha hr rfl).imp fun σ H Q _ ⟨r, m, Qd, he, q, f⟩ => by
  simp only [evs] at q
  refine ⟨r, m, _, he, q, fun d m1 v H1 ⟨ds, hs, q1⟩ rv hm s => ?_⟩
  obtain ⟨x, xs, ex, rs, hq⟩ := seq_val hm rv hs
  refine ⟨x, xs, ex, hq.symm, r, m1, _, he.step s hm, q1, fun es' m2 vs H2 q2 rs2 hm2 s2 => ?_⟩
  exact f (ds ++ es') m2 (xs ++ vs) H2 q2 ((Reps.step s2 _ _ rs).append rs2) hm2 (s.trans s2)
theorem r_tup {es : List Expr} {cs : List E} {k : Nat} (h : PA X es (tAs X.K Y cs)) : PE X (.Tuple es k pos) (tE X.K Y (.tup cs)) := (pe_tup h).imp fun σ H Q _ ⟨r, m, Qd, he, q, f⟩ => by
  simp only [ev] at q
  refine ⟨r, m, _, he, q, fun ds m1 vs H1 ⟨hl, q1⟩ rs hm s => ⟨by rw [rs.length]; exact line6 hl, (f.mono s).tup hm rs q1⟩⟩
theorem r_lst {mu : Bool} {es : List Expr} {cs : List E} (h : PA X es (tAs X.K Y cs)) : PE X (.List es pos) (tE X.K Y (.lst mu cs)) := (pe_lst h).imp fun σ H Q _ ⟨r, m, Qd, he, q, f⟩ => by
  simp only [ev] at q
  refine ⟨r, m, _, he, q, fun ds m1 vs H1 ⟨hl, q1⟩ rs hm s => ⟨by rw [rs.length]; exact line6 hl, (f.mono s).lst hm rs q1⟩⟩
def notSlice : Expr → Bool
  | .Slice _ _ _ _ => false
  | _ => true
theorem plainIx (h : notSlice e = true) : PlainIx e := by
  intro o i
  cases e <;> first
    | rfl
    | cases h
theorem r_ix (hu : X.A.units + 64 < cLine) (hn : notSlice e2 = true) (ha : PE X e (tE X.K Y a)) (hb : PE X e2 (tE X.K Y b)) : PE X (.Subscript e e2 pos) (tE X.K Y (.ix a b)) := by
  obtain ⟨r0, hr, hh⟩ := ix_ok (X := X) hu
  refine (pe_ix hr ha hb (plainIx hn)).imp fun σ H Q _ ⟨r, m, Qd, he, q, f⟩ => ?_
  simp only [ev] at q
  exact two he q fun x y d e m2 H2 rx ry hm s q2 => hh x y d e m2 H2 Qd Q hm rx ry q2 (f.mono s)
theorem o_none : PO X none (tOs X.K Y none) := po_none.imp fun σ H Q _ ⟨r, m, Qd, he, q, f⟩ => f none m H (by simpa only [evO] using q) he.mem Step.refl
theorem o_some (ha : PE X e (tE X.K Y a)) : PO X (some e) (tOs X.K Y (some a)) := (po_some ha).imp fun σ H Q _ ⟨r, m, Qd, he, q, f⟩ => by
  simp only [evO] at q
  refine ⟨r, m, _, he, q, fun d m1 v H1 q1 rv hm s => ?_⟩
  obtain ⟨i, rfl, q1⟩ := onI_out q1
  exact ⟨i, rv.int, f _ m1 H1 q1 hm s⟩
theorem r_sl {mu : Bool} {lo hi : Option Expr} {l h : Option E} {p2 : Pos} (ha : PE X e (tE X.K Y a)) (hl : PO X lo (tOs X.K Y l)) (hh : PO X hi (tOs X.K Y h)) : PE X (.Subscript e (.Slice lo hi none p2) pos) (tE X.K Y (.sl mu a l h)) := by
  obtain ⟨r0, hr, hs⟩ := sl_ok (X := X) (mu := mu)
  refine (pe_slice hr ha hl hh).imp fun σ H Q _ ⟨r, m, Qd, he, q, f⟩ => ?_
  simp only [ev] at q
  exact ⟨r, m, _, he, q, fun d m1 v H1 q1 rv hm s1 => ⟨r, m1, _, he.step s1 hm, q1, fun i m2 H2 q2 hm2 s2 => ⟨r, m2, _, he.step (s1.trans s2) hm2, q2, fun j m3 H3 q3 hm3 s3 =>
    hs v d i j m3 H3 Qd Q hm3 (Rep.step (s2.trans s3) _ _ rv) q3 (f.mono ((s1.trans s2).trans s3))⟩⟩⟩
theorem r_frz (ha : PE X e (tE X.K Y a)) : PE X e (tE X.K Y (.frz a)) := ha.imp fun σ H Q _ ⟨r, m, Qd, he, q, f⟩ => by
  simp only [ev] at q
  refine ⟨r, m, _, he, q, fun d m1 v H1 ⟨p, ds, ed, hp, q1⟩ rv hm s => ?_⟩
  subst ed
  obtain ⟨vs, hH, rs⟩ := hm p _ hp
  have sb : SubO (del m1 p) m1 := ⟨Sub.del, fun x C dx fs ex => by
    have ex1 := Sub.del x _ ex
    have q := (hm.dxAt ex1).1
    have ne : dx ≠ p := fun z => by rw [z, hp] at q; cases q
    unfold del; rw [if_neg ne]⟩
  have hm' := hm.sub sb
  refine f _ _ v H1 q1 ?_ hm' (s.trans sb.sub.step)
  simp only [Rep]
  exact ⟨p, vs, rv.ref, .inl ⟨by unfold del; rw [if_pos rfl], .inl hH⟩, Reps.step sb.sub.step _ _ rs⟩
end
end Og
end
section
set_option maxHeartbeats 4000000
set_option autoImplicit false
/-! Og: t[::-1]; dicts of constants; what is never reached. -/
namespace HT
open PySem PySem.Spec PyProof.Rows
section
variable {prog : Program} {w : World} {A : Around} {E : Value → Shared → Prop} {s : Shared}
theorem adjust_rev (n : Nat) : Builtin.Slice.sliceAdjust none none (-1) (n : Int) = ((n : Int) - 1, -1) := by
  unfold Builtin.Slice.sliceAdjust
  simp
theorem places_rev (n : Nat) : Builtin.Slice.slicePlaces ((n : Int) - 1) (-1) (-1) = n := by
  unfold Builtin.Slice.slicePlaces
  have h1 : ¬ ((-1 : Int) > 0) := by decide
  simp only [h1, if_false]
  have e : (-(-1) : Int) = 1 := by decide
  rw [e, Int.ediv_one]
  split <;> omega
theorem applied_rev {sl : Addr} {vs : Value} {n : Nat} {Q : Int × Int × Nat → Shared → Prop} (hs : s.heap.IsSliceOf sl .none .none vs) (ps : IsPart vs (some (-1)))
    (h : Q ((n : Int) - 1, -1, n) s) : wpAny (model prog w) A (Builtin.Slice.sliceApplied (.ref sl) (pure (n : Int))) Q E s := by
  obtain ⟨os, hos, hcs, hds⟩ := id hs
  unfold Builtin.Slice.sliceApplied Builtin.Slice.sliceFields
  refine wpAny_bind (wpAny_bind (wpAny_field hos hds (x := .none) rfl (wpAny_bind (wpAny_field hos hds (x := .none) rfl (wpAny_bind (wpAny_field hos hds (x := vs) rfl (wpAny_pure ?_)))))))
  refine wpAny_bind (slicePart_ ps ?_)
  show wpAny _ _ (if ((-1 : Int) == 0) = true then _ else _) _ _ s
  rw [if_neg (by decide)]
  refine wpAny_bind (slicePart_none (wpAny_bind (slicePart_none (wpAny_bind (wpAny_pure ?_)))))
  show wpAny _ _ (match Builtin.Slice.sliceAdjust none none (-1) (n : Int) with | (lo, hi) => pure (lo, (-1 : Int), Builtin.Slice.slicePlaces lo hi (-1))) _ _ s
  rw [adjust_rev n]
  show wpAny _ _ (pure ((n : Int) - 1, (-1 : Int), Builtin.Slice.slicePlaces ((n : Int) - 1) (-1) (-1))) _ _ s
  rw [places_rev]
  exact wpAny_pure h
theorem pick_rev (xs : Array Value) : ((List.range xs.size).filterMap fun (m : Nat) => xs[(((xs.size : Int) - 1) + (m : Int) * (-1)).toNat]?).toArray = xs.toList.reverse.toArray := by
  have e : ((List.range xs.size).filterMap fun (m : Nat) => xs[(((xs.size : Int) - 1) + (m : Int) * (-1)).toNat]?) = ((List.range xs.size).map fun k => xs.size - 1 - k).filterMap (xs[·]?) := by
    rw [List.filterMap_map]
    congr 1
    funext m
    have e1 : (((xs.size : Int) - 1) + (m : Int) * (-1)).toNat = xs.size - 1 - m := by omega
    rw [e1]
    rfl
  rw [e, PySem.W.krv_range, List.filterMap_reverse, PySem.W.krv_all]
theorem getItem_tuple_rev {t sl : Addr} {items : Array Value} {vs : Value} {Q : Value → Shared → Prop} (ht : IsTup s.heap t items) (hs : s.heap.IsSliceOf sl .none .none vs) (ps : IsPart vs (some (-1)))
    (h : Q (.ref s.heap.objs.size) { s with heap := s.heap.push { cls := .type "tuple", data := .seq items.toList.reverse.toArray } })
    (hsz : items.size ≤ sizeLine) : wpAny (model prog w) A (getItem (.ref t) (.ref sl)) Q E s := by
  have htake : sizeOk (.seq items.toList.reverse.toArray) := by
    show items.toList.reverse.toArray.size ≤ sizeLine
    simpa using hsz
  obtain ⟨os, hos, hcs, hds⟩ := id hs
  have hTs : s.TypeIs (.ref sl) "slice" := ⟨os, hos, hcs⟩
  unfold getItem
  try with_reducible refine wpAny_holding ?_
  first | refine wpAny_bind (wpAny_pure ?_) | skip
  refine wpAny_bind (wpAny_sequenceKey ht.typeIs (by decide) ?_)
  refine wpAny_bind (wpAny_callSpecial?_slot (name := Str.ofString "__getitem__") ht.typeIs PyProof.Rows.slot_tuple_getitem
    (wpAny_call_entry PyProof.Rows.slot_tuple_getitem ht.typeIs entry_tuple_getitem ?_ (args_tuple_getitem _ _)))
  show wpAny _ _ (Builtin.Tuple.tupleItemsOf (.ref t) >>= _) _ _ s
  refine wpAny_bind (tupleItemsOf_ ht ?_)
  refine wpAny_bind (wpAny_typeOf hTs ?_)
  rw [if_pos (by decide)]
  refine wpAny_bind (applied_rev hs ps ?_)
  have hno : ¬ (((items.size : Int) - 1 == 0 && (-1 : Int) == 1 && items.size == items.size) = true) := by
    intro q
    rw [Bool.and_eq_true, Bool.and_eq_true] at q
    exact absurd q.1.2 (by decide)
  show wpAny _ _ (if (((items.size : Int) - 1 == 0 && (-1 : Int) == 1 && items.size == items.size) = true) then _ else _) _ _ s
  rw [if_neg hno, pick_rev]
  first
    | exact wpAny_bind (m := Builtin.Tuple.tupleExact _) (wpAny_newObj_type (wpAny_pure ⟨_, rfl, wpAny_pure h⟩) htake)
    | exact wpAny_bind (m := Builtin.Tuple.tupleExact _) (wpAny_newObj_type (wpAny_bind (wpAny_pure (wpAny_pure ⟨_, rfl, wpAny_pure h⟩))) htake)
    | exact wpAny_bind (wpAny_bind (m := Builtin.Tuple.tupleExact _) (wpAny_newObj_type (wpAny_pure (wpAny_pure ⟨_, rfl, wpAny_pure h⟩)) htake))
    | exact wpAny_bind (wpAny_bind (m := Builtin.Tuple.tupleExact _) (wpAny_newObj_type (wpAny_pure ⟨_, rfl, wpAny_pure h⟩) htake))
end
end HT
namespace Og
open PySem PySem.Spec PyProof.Rows L2
section
variable {X : Cx}
/-- x[::-1], a list or a tuple -/
def tRev (K : PySem.W.Frag) (te : TE) : TE := fun σ H Q => te σ H fun x H1 => ∃ a xs, x = .ref a ∧ ((SqL K H1 a xs ∧ ∀ p, H1 p = none → Q (.ref p) (upd H1 p (.lst xs.reverse))) ∨ (SqT K H1 a xs ∧ ∀ p, H1 p = none → Q (.ref p) (upd H1 p (.tup xs.reverse))))
theorem pe_rev {e : Expr} {te : TE} {k : Nat} {p1 p2 p3 pos : Pos} (he : PE X e te) : PE X (.Subscript e (.Slice none none (some (.UnaryOp .USub (.Constant (.int 1) k p1) p2)) p3) pos) (tRev X.K te) := by
  refine ⟨fun pins s σ H Q I h => ?_⟩
  refine Subscript_ (thn (he.run pins s σ H _ I h) fun v s1 ⟨x, H1, I1, r1, q1⟩ => ?_)
  obtain ⟨a, xs, ex, q⟩ := q1
  subst ex
  cases r1
  have hst : PO X (some (.UnaryOp .USub (.Constant (.int 1) k p1) p2)) (tPart (tUn (rU fun i => .int (-i)) (tC (.int 1)))) := po_some (pe_un un_neg pe_int)
  refine wpAny_Slice (thn (po_none.run pins s1 σ H1 (fun o H2 => o = none ∧ H2 = H1) I1 ⟨rfl, rfl⟩) fun vl s2 ⟨l, H2, I2, pl, el, e2⟩ => ?_)
  subst el e2
  refine thn (po_none.run pins s2 σ H2 (fun o H3 => o = none ∧ H3 = H2) I2 ⟨rfl, rfl⟩) fun vu s3 ⟨u, H3, I3, pu, eu, e3⟩ => ?_
  subst eu e3
  refine thn (hst.run pins s3 σ H3 (fun o H4 => o = some (-1) ∧ H4 = H3) I3 ⟨1, rfl, -1, rfl, rfl, rfl⟩) fun vs s4 ⟨o, H4, I4, ps, eo, e4⟩ => ?_
  subst eo e4
  have I5 : Inv X pins σ H4 { s4 with heap := s4.heap.push { cls := .type "slice", data := .fields #[vl, vu, vs] } } := I4.kept (t' := s4.toks) fun b ob q => Heap.get?_push_of_some _ q
  show wpAny (model X.prog X.w) X.A (subscriptTail e (.Slice none none (some (.UnaryOp .USub (.Constant (.int 1) k p1) p2)) p3) (.ref a) (.ref s4.heap.objs.size)) (EP X pins σ Q) X.xe { s4 with heap := s4.heap.push { cls := .type "slice", data := .fields #[vl, vu, vs] } }
  rcases q with ⟨hx, q⟩ | ⟨hx, q⟩
  · obtain ⟨its, r, ht, hz⟩ := I5.list hx
    have hlen := r.length
    refine tail_any (ops := [.ref a, .ref s4.heap.objs.size]) ht.isList.typeIs (PySem.slot_list_getitem.lookup) ?_ (by with_unfolding_all rfl)
    refine wpAny_getItem_list_slice ht.isList (Heap.IsSliceOf.new _ vl vu vs) pl pu ps (by decide) ?_ (by rw [List.size_toArray]; omega)
    rw [PySem.W.krv_pick]
    refine ⟨.ref _, _, I5.laid (t' := s4.toks) (o := .lst xs.reverse) (fun b ob q => Heap.get?_push_of_some _ q) (Nat.le_refl _) ?_, rfl, q _ (I5.hok.fresh (Nat.le_refl _))⟩
    exact ⟨by rw [List.length_reverse]; exact hz, _, 0, r.reverse, Heap.get?_push_size _ rfl⟩
  · obtain ⟨its, r, ht, hz⟩ := I5.tuple hx
    have hlen := r.length
    obtain rfl : vl = .none := by cases pl; rfl
    obtain rfl : vu = .none := by cases pu; rfl
    refine tail_any (ops := [.ref a, .ref s4.heap.objs.size]) ht.typeIs (PyProof.Rows.slot_tuple_getitem.lookup) ?_ (by with_unfolding_all rfl)
    refine HT.getItem_tuple_rev ht (Heap.IsSliceOf.new _ .none .none vs) ps ?_ (by rw [List.size_toArray]; omega)
    refine ⟨.ref _, _, I5.laid (t' := s4.toks) (o := .tup xs.reverse) (fun b ob q => Heap.get?_push_of_some _ q) (Nat.le_refl _) ?_, rfl, q _ (I5.hok.fresh (Nat.le_refl _))⟩
    exact ⟨by rw [List.length_reverse]; exact hz, _, r.reverse, IsTup.new _ _⟩
theorem Reps.eraseIdx {K : PySem.W.Frag} {m : Mem} {H : Hp} : ∀ {ds : List D} {vs : List V} (i : Nat), Reps K m H vs ds → Reps K m H (vs.eraseIdx i) (ds.eraseIdx i)
  | [], _, _, h => by simp only [Reps] at h; subst h; simp [Reps]
  | d :: ds, _, 0, h => by
    simp only [Reps] at h
    obtain ⟨v, r, rfl, h1, h2⟩ := h
    exact h2
  | d :: ds, _, i + 1, h => by
    simp only [Reps] at h
    obtain ⟨v, r, rfl, h1, h2⟩ := h
    simp only [List.eraseIdx_cons_succ, Reps]
    exact ⟨v, _, rfl, h1, Reps.eraseIdx i h2⟩
theorem Reps.reverse {K : PySem.W.Frag} {m : Mem} {H : Hp} : ∀ {ds : List D} {vs : List V}, Reps K m H vs ds → Reps K m H vs.reverse ds.reverse
  | [], _, h => by simp only [Reps] at h; subst h; simp [Reps]
  | d :: ds, _, h => by
    simp only [Reps] at h
    obtain ⟨v, r, rfl, h1, h2⟩ := h
    rw [List.reverse_cons, List.reverse_cons]
    exact (Reps.reverse h2).append (by simp only [Reps]; exact ⟨v, [], rfl, h1, rfl⟩)
variable {Y : Ctx} {e : Expr} {a : E}
theorem r_rev {mu : Bool} {k : Nat} {p1 p2 p3 pos : Pos} (ha : PE X e (tE X.K Y a)) : PE X (.Subscript e (.Slice none none (some (.UnaryOp .USub (.Constant (.int 1) k p1) p2)) p3) pos) (tE X.K Y (.rev mu a)) := (pe_rev ha).imp fun σ H Q _ ⟨r, m, Qd, he, q, f⟩ => by
  simp only [ev] at q
  refine ⟨r, m, _, he, q, fun d m1 v H1 q1 rv hm s => ?_⟩
  have lst : ∀ ds, lstOf m1 d = some ds → newL mu ds.reverse m1 Qd → ∃ a xs, v = .ref a ∧ ((SqL X.K H1 a xs ∧ ∀ p, H1 p = none → Q (.ref p) (upd H1 p (.lst xs.reverse))) ∨ (SqT X.K H1 a xs ∧ ∀ p, H1 p = none → Q (.ref p) (upd H1 p (.tup xs.reverse)))) := fun ds hs q => by
    obtain ⟨a, xs, ex, rs, hq⟩ := lst_val hm rv hs
    exact ⟨a, xs, ex, .inl ⟨hq, (f.mono s).lst hm rs.reverse q⟩⟩
  unfold revD at q1
  cases d with
  | tup ds =>
    obtain ⟨a, xs, ex, hq, rs⟩ := rv.tup
    exact ⟨a, xs, ex, .inr ⟨hq.sq, (f.mono s).tup hm rs.reverse q1⟩⟩
  | _ => obtain ⟨ds, hs, q⟩ := q1; exact lst ds hs q
theorem r_never : PE X e (tE X.K Y .never) := ⟨fun pins s σ H Q I ⟨r, m, Qd, he, q, f⟩ => by
  simp only [ev] at q⟩
/-! dicts of constants -/
def dicB : List (Option Expr) → List Expr → List (Str × Int) → Bool
  | [], [], [] => true
  | some (.Constant (.str x) _ _) :: ks, .Constant (.int i) _ _ :: vs, (y, j) :: ps => decide (x = y) && decide (i = j) && dicB ks vs ps
  | _, _, _ => false
theorem dic_pps {pos : Pos} : ∀ (ks : List (Option Expr)) (vs : List Expr) (ps : List (Str × Int)), dicB ks vs ps = true → ∃ trs, PPs X pos ks vs trs ∧ ks.all (·.isSome) = true ∧ ks.length = vs.length ∧ ks.length = ps.length ∧
    ∀ σ H (Q : List (V × V) → Hp → Prop), Q (ps.map fun p => (V.str p.1, V.int p.2)) H → tPairs trs σ H Q
  | [], [], [], _ => ⟨[], pps_nil, rfl, rfl, rfl, fun _ _ _ q => q⟩
  | some (.Constant (.str x) _ _) :: ks, .Constant (.int i) _ _ :: vs, (y, j) :: ps, h => by
    simp only [dicB, Bool.and_eq_true, decide_eq_true_eq] at h
    obtain ⟨⟨rfl, rfl⟩, h⟩ := h
    obtain ⟨trs, h1, h2, h3, h4, h5⟩ := dic_pps ks vs ps h
    exact ⟨_, pps_cons pe_str pe_int h1, by simpa using h2, by simp [h3], by simp [h4], fun σ H Q q => h5 σ H _ q⟩
  | [], [], _ :: _, h => by simp [dicB] at h
  | [], _ :: _, _, h => by simp [dicB] at h
  | _ :: _, [], _, h => by simp [dicB] at h
  | _ :: _, _ :: _, [], h => by
    unfold dicB at h
    split at h
    all_goals first | (rename_i z _; cases z; done) | (cases h; done) | skip
    all_goals simp_all
theorem r_dic {ks : List (Option Expr)} {vs : List Expr} {ps : List (Str × Int)} {pos : Pos} (hl : ps.length ≤ 15) (h : dicB ks vs ps = true) : PE X (.Dict ks vs pos) (tE X.K Y (.dic ps)) := by
  have nw : ∀ {σ : L2.St} {H H' : Hp} {r : Rho} {m : Mem} {Qd : KD} {Q : VK} {p : Addr} {kvs : List (Key × V)}, REnv X.K r m σ H → H p = none → (∀ a, a ≠ p → H' a = H a) → H' p = some (.dK kvs) → Qd .dic m → Fin X.K m H Qd Q → MemOk X.K m H' → Q (.ref p) H' := fun he hp ne hk q f hm => by
    refine f .dic _ _ _ q ?_ hm (Step.same fun a u e => ?_)
    · simp only [Rep]
      exact ⟨_, _, rfl, he.mem.free hp, hk⟩
    · rw [ne a (ne_of_none e hp)]; exact e
  cases ks with
  | nil =>
    have e : vs = [] ∧ ps = [] := by
      cases vs with
      | nil => cases ps with
        | nil => exact ⟨rfl, rfl⟩
        | cons _ _ => simp [dicB] at h
      | cons _ _ => simp [dicB] at h
    obtain ⟨rfl, rfl⟩ := e
    exact pe_dnewK.imp fun σ H Q _ ⟨r, m, Qd, he, q, f⟩ p hp => by
      simp only [ev] at q
      exact nw he hp (fun a ne => upd_ne ne) upd_same q f (he.mem.fresh hp)
  | cons k ks =>
    obtain ⟨trs, h1, h2, h3, h4, h5⟩ := dic_pps (X := X) (pos := pos) (k :: ks) vs ps h
    exact (pe_disp h1 h2 h3 (by simp) (by omega)).imp fun σ H Q _ ⟨r, m, Qd, he, q, f⟩ p hp => by
      simp only [ev] at q
      refine h5 _ _ _ ⟨upd_same, ps.map fun z => ((Sum.inr z.1 : Key), V.int z.2), by rw [List.map_map]; rfl, by rw [List.length_map]; exact hl, ?_⟩
      have hm1 : MemOk X.K m (upd H p (.dK [])) := he.mem.fresh hp
      refine nw he hp (fun a ne => by rw [upd_ne ne, upd_ne ne]) upd_same q f ?_
      rw [upd_upd]
      exact he.mem.fresh hp
end
end Og
end
section
set_option maxHeartbeats 4000000
set_option autoImplicit false
/-! Og: a def's promise wherever no repr is under way. -/
namespace Og
open PySem PySem.Spec PyProof.Rows L2

abbrev allE : XK := fun _ _ _ => True
/-- a def's promise: ends by a value, where no repr is under way -/
structure FnG (P : Program) (w : World) (K : PySem.W.Frag) (mg : Str → Option Value) (base : Heap) (k : Nat) (f : Addr) (fd : FuncData) (ps : List Str) (sp : Sp) : Prop where
  len : ∀ vs H Q, sp vs H Q allE → vs.length = ps.length
  run : ∀ (B : Around) (fr : List Env) (t : Shared) (H : Hp) (ar : Args) (us : List Value) (vs : List V) (Q : VK), B.guards = some [] → Room k B → Env0 P w K mg base B fr t H → BindsTo t fd ar (ps.zip us) → Vals vs us → sp vs H Q allE →
    codeAny (model P w) B (.call (.ref f) ar) (fun r t' => ∃ u, r = .ok (.ret u) ∧ CE fr P w H t Q u t') t
theorem FnG.mono {P : Program} {w : World} {K : PySem.W.Frag} {mg : Str → Option Value} {base : Heap} {j k : Nat} {f : Addr} {fd : FuncData} {ps : List Str} {sp : Sp} (F : FnG P w K mg base j f fd ps sp) (h : j ≤ k) : FnG P w K mg base k f fd ps sp :=
  ⟨F.len, fun B fr t H ar us vs Q g r => F.run B fr t H ar us vs Q g (r.mono h)⟩
section
variable {X : Cx} {k : Nat} {f C : Addr} {fd : FuncData} {ps : List Str} {sp : Sp} {pins : List (Addr × Obj)} {σ : L2.St} {H : Hp} {s : Shared} {Q : VK}
/-- its call, where it is bound -/
theorem FnG.at_ (F : FnG X.prog X.w X.K X.mg X.base k f fd ps sp) (g : X.A.guards = some []) (hr : Room k X.A) (I : Inv X pins σ H s) {ar : Args} {us : List Value} {vs : List V} (hb : BindsTo s fd ar (ps.zip us)) (r : Vals vs us) (h : sp vs H Q allE) :
    wpAny (model X.prog X.w) X.A (PySem.call (.ref f) ar.pos ar.kw) (EP X pins σ Q) X.xe s := by
  obtain ⟨pos, kw⟩ := ar
  refine wpAny_call (codeAny_mono (F.run _ _ s H _ us vs Q g hr I.env0 hb r h) ?_)
  rintro _ t' ⟨u, rfl, z⟩
  exact I.after z
theorem FnG.call (F : FnG X.prog X.w X.K X.mg X.base k f fd ps sp) (g : X.A.guards = some []) (hr : Room k X.A) (hb : Binds X.K fd ps []) (I : Inv X pins σ H s) {us : List Value} {vs : List V} (r : Vals vs us) (h : sp vs H Q allE) :
    wpAny (model X.prog X.w) X.A (PySem.call (.ref f) us) (EP X pins σ Q) X.xe s := by
  have b := hb s us I.kIn (by rw [List.append_nil, ← r.length]; exact F.len _ _ _ h)
  rw [List.append_nil] at b
  exact F.at_ g hr I b r h
theorem FnG.callK (F : FnG X.prog X.w X.K X.mg X.base k f fd ps sp) (g : X.A.guards = some []) (hr : Room k X.A) {ks : List Str} {G : List Value → List Value → List Value} {GV : List V → List V → List V} (hb : KBinds X.K fd ps ks G GV) (I : Inv X pins σ H s)
    {ws : List Value} {zs : List V} (r : Vals zs ws) (h : sp (GV [] zs) H Q allE) : wpAny (model X.prog X.w) X.A (PySem.call (.ref f) [] (ks.zip ws)) (EP X pins σ Q) X.xe s := by
  have r2 := hb.rel (vs := []) (us := []) .nil r
  exact F.at_ g hr I (hb.to s [] ws I.kIn (by rw [← r2.length]; exact F.len _ _ _ h)) r2 h
theorem guards_make {A : Around} {us : List Value} {kw : List (Str × Value)} (g : A.guards = some []) : (A.under (.builtin "type.__call__" ⟨us, kw⟩)).guards = some [] := by
  have n : ¬("type.__call__" ∈ guardIds) := by decide
  simp [Around.under, pushGuards, Code.guards, Code.isGuard, g, n]
/-- a new object, then its __init__ -/
theorem FnG.make (M : Mk X.K C f) (F : FnG X.prog X.w X.K X.mg X.base k f fd ps sp) (g : X.A.guards = some []) (hr : Room (k + 1) X.A) (hb : Binds X.K fd ps []) (I : Inv X pins σ H s) {us : List Value} {vs : List V} (r : Vals vs us)
    (h : ∀ x dx, H x = none → H dx = none → dx ≠ x → sp (.ref x :: vs) (upd (upd H dx (.own x)) x (.ins C dx [])) (fun v H2 => v = .non ∧ Q (.ref x) H2) allE) : wpAny (model X.prog X.w) X.A (PySem.call (.ref C) us) (EP X pins σ Q) X.xe s := by
  have q := h (s.heap.objs.size + 1) s.heap.objs.size (I.hok.fresh (Nat.le_succ _)) (I.hok.fresh (Nat.le_refl _)) (Nat.ne_of_lt (Nat.lt_succ_self _))
  have J := Inv.made (C := C) I
  have r2 : Vals (V.ref (s.heap.objs.size + 1) :: vs) (Value.ref (s.heap.objs.size + 1) :: us) := .cons rfl r
  have b := hb _ (Value.ref (s.heap.objs.size + 1) :: us) J.kIn (by rw [List.append_nil, ← r2.length]; exact F.len _ _ _ q)
  rw [List.append_nil] at b
  refine wpAny_call (make_map (f := f) I.kIn M.makes M.init (beq_iff_eq.mp M.fn) (codeAny_mono (F.run _ X.stack _ _ ⟨_, []⟩ _ _ _ (guards_make g) (hr.make C us []) (J.env0.make C us []) b r2 q) ?_))
  rintro _ t' ⟨u, rfl, z⟩
  obtain ⟨v, H', J2, rv, ev, z2⟩ := J.after z
  subst ev
  exact ⟨rv, V.ref (s.heap.objs.size + 1), H', J2, rfl, z2⟩
end
/-- THE RULE: a def whose body keeps it -/
theorem FnG.of {P : Program} {w : World} {K : PySem.W.Frag} {mg : Str → Option Value} {base : Heap} {x qual : Str} {params : Arguments} {bd : List Stmt} {sc : Scope} {dvs : List V} {kws : List (Str × V)} {f : Addr} {fd : FuncData} {N ps : List Str} {k : Nat} {sp : Sp}
    (F : FunD K x qual params bd sc dvs kws f fd) (S : FnScope N ps sc) (len : ∀ vs H Q, sp vs H Q allE → vs.length = ps.length)
    (hb : ∀ (cdv : Value) (B : Around) (fr : List Env) (t : Shared) (H : Hp) (vs : List V) (Q : VK), B.guards = some [] → Room k (B.deeper (envOfC qual sc t.heap.objs.size f cdv)) → sp vs H Q allE →
      ∃ T, PSs (cxOf CX0 P w K mg base N qual sc f cdv B fr t H allE) bd T ∧ T { nx := fun _ H' => Q .non H', rt := Q } (L2.start N vs) H) : FnG P w K mg base (k + 1) f fd ps sp := by
  obtain ⟨_, _, _, _, _, _, _, cdv, _, _, rfl, lk, hcd, _, _⟩ := F.ex
  refine ⟨len, fun B fr t H ar us vs Q g hr e0 bi r h => ?_⟩
  have KX : K.In t.heap := e0.mod.kin.keeps fun b o e => (e0.bs b o e).1
  have hps : ∀ y ∈ ps.zip us, sc.names.lookup y.1 = some .local ∨ (sc.names.lookup y.1 = some .cell ∧ ((cellsFrom (t.heap.objs.size + 1) sc.names []).lookup y.1).isSome = true) := by
    rintro ⟨n, v⟩ hy
    exact (S.par n (List.of_mem_zip hy).1).imp id fun z => ⟨z, PySem.W.cellsFrom_some _ _ _ (.inl z)⟩
  refine codeAny_call_function hr.depth (KX _ _ lk) rfl S.co S.gen rfl (PySem.W.codeRec_of KX hcd) (bi _ _ _ _ (wpAny_newFunctionEnv_cells S.kind hps fun env ee s1 ic => ?_))
  subst ee
  refine ⟨(e0.mod.nolimit.keeps fun b o e => (e0.bs b o e).1).keeps ic.toInCall.keep, codeAny_func ?_⟩
  obtain ⟨T, hT, hq⟩ := hb cdv B fr t H vs Q g (hr.deeper _) h
  have J : Inv (cxOf CX0 P w K mg base N qual sc f cdv B fr t H allE) [] (L2.start N vs) H s1 := inv_start S hr.hd e0 (len _ _ _ h) r ic
  have fin : ∀ {σ' : L2.St} {H' : Hp} {v : V} {u : Value} {t' : Shared}, Inv (cxOf CX0 P w K mg base N qual sc f cdv B fr t H allE) [] σ' H' t' → RelV v u → Q v H' → CE fr P w H t Q u t' := fun {σ' H' v u t'} J rv q => ⟨v, H', J.os, J.bare, J.base, J.hok, rv, q⟩
  refine wpAny_mono (hT.run [] s1 (L2.start N vs) H _ J hq) (fun fl t' hs => ?_) fun e t' hs => wpAny_mono hs (fun _ _ z => (z : False).elim) fun _ _ z => (z : False).elim
  match fl, hs with
  | .ret u, ⟨v, σ', H', J', rv, q⟩ => exact ⟨_, rfl, fin J' rv q⟩
  | .next, ⟨σ', H', J', q⟩ => exact ⟨_, rfl, fin (v := V.non) (u := Value.none) J' rfl q⟩
  | .brk, ⟨_, _, _, q⟩ => exact (q : False).elim
  | .cont, ⟨_, _, _, q⟩ => exact (q : False).elim
end Og
end
section
set_option maxHeartbeats 4000000
set_option autoImplicit false
/-! Og: calls, built-ins, objects by data. -/
namespace Og
open PySem PySem.Spec PyProof.Rows L2

/-- a def's promise, as the hand layer has it -/
def spK (K : PySem.W.Frag) (n : Nat) (sp : Spec) : Sp := fun vs H Q _ => vs.length = n ∧ ∃ ds m Qd, Reps K m H vs ds ∧ MemOk K m H ∧ sp ds m Qd ∧ Fin K m H Qd Q

/-! ### lists of arguments -/
theorem star_any {env : PySem.Env} : ∀ {es : List Expr}, es.all notStar = true → (starEach es env).any (·.1) = false
  | [], _ => rfl
  | e :: es, h => by
    have h' : notStar e = true ∧ es.all notStar = true := by simpa using h
    rw [star_no h'.1]
    simp only [List.any_cons, star_any h'.2]; rfl
theorem back_any {pos : Pos} {l : List (Bool × Sem Value)} : (backTo pos l).any (·.1) = l.any (·.1) := by
  unfold backTo
  rw [List.any_map]
  rfl
theorem plainArgs {env : PySem.Env} {pos : Pos} {es : List Expr} (h : es.all notStar = true) : (backTo pos (starEach es env)).any (·.1) = false := by
  rw [back_any]; exact star_any h
section
variable {X : Cx} {Y : Ctx} {pins : List (Addr × Obj)} {σ : L2.St} {H : Hp} {s : Shared} {pos : Pos} {es : List Expr} {cs : List E} {f : Value} {first : List Value} {Q : Value → Shared → Prop}
/-- the call's node, any number of arguments -/
theorem node_K (I : Inv X pins σ H s) (hk : PySem.W.keepIn X.K f = true) (ha : PA X es (tAs X.K Y cs)) (h0 : es = [] → cs = []) (hp : es.all notStar = true) {R : List V → Hp → Prop} (h : tAs X.K Y cs σ H R)
    (hr : ∀ us s1 vs H1, Inv X pins σ H1 s1 → Vals vs us → R vs H1 → wpAny (model X.prog X.w) X.A (call f (first ++ us)) Q X.xe s1) :
    wpAny (model X.prog X.w) X.A (callWith pos f first (backTo pos (starEach es X.env)) (backToKw pos (keywordEach [] X.env))) Q X.xe s := by
  cases es with
  | nil =>
    have e := h0 rfl
    subst e
    obtain ⟨r, m, Qd, he, q, g⟩ := h
    exact PySem.W.callWith_K0 I.kIn hk (hr [] s [] H I .nil (g [] m [] H (by simpa only [evs] using q) (by simp [Reps]) he.mem Step.refl))
  | cons e rest =>
    have hs : notStar e = true ∧ rest.all notStar = true := by simpa using hp
    exact PySem.W.callWith_K (h₀ := X.base) I.ok.mod.kin hk (thn (ha.run pos pins s σ H R I h) fun us s1 ⟨vs, H1, I1, r, q⟩ => ⟨I1.kIn, hr us s1 vs H1 I1 r q⟩) (star_no hs.1) (plainArgs hs.2)
end
section
variable {X : Cx} {Y : Ctx} {e e2 : Expr} {a b c : E} {p pos apos : Pos} {es : List Expr} {cs : List E} {x : Str}
/-- f(e, ..) -/
theorem r_call {k j : Nat} {f : Addr} {fd : FuncData} {ps : List Str} {n : Nat} (F : FnG X.prog X.w X.K X.mg X.base k f fd ps (spK X.K n (Y.fn j))) (hG : X.A.guards = some []) (hb : Binds X.K fd ps []) (hr : Room k X.A) (hk : PySem.W.keepIn X.K (.ref f) = true) (hn : cs.length = n)
    (hg : Gl X x) (hm : X.mg x = some (.ref f)) (hd : (x == ("__debug__" : Str)) = false) (ha : PA X es (tAs X.K Y cs)) (h0 : es = [] → cs = []) (hp : es.all notStar = true) : PE X (.Call (.Name x p) es [] pos) (tE X.K Y (.call j cs)) := by
  refine ⟨fun pins s σ H Q I ⟨r, m, Qd, he, q, fin⟩ => ?_⟩
  simp only [ev] at q
  refine wpAny_Call_Name_kw (ld_glob I hg hm ?_ hd)
  refine node_K I hk ha h0 hp (R := fun vs H1 => spK X.K n (Y.fn j) vs H1 Q fun _ _ _ => True) ⟨r, m, _, he, q, fun ds m1 vs H1 ⟨hl, q1⟩ rs hm1 s1 => ⟨by rw [rs.length, hl, hn], ds, m1, Qd, rs, hm1, q1, fin.mono s1⟩⟩ fun us s1 vs H1 I1 rv q1 => ?_
  exact F.call hG hr hb I1 rv q1
/-- .. by keywords alone -/
theorem pk_nil' : PK X [] (tAs X.K Y []) := ⟨fun pos pins s σ H Q I ⟨r, m, Qd, he, q, f⟩ => pk_nil.run pos pins s σ H Q I (f [] m [] H (by simpa only [evs] using q) (by simp [Reps]) he.mem Step.refl)⟩
theorem pk_cons' {nm : Option Str} {kpos : Pos} {kws : List Keyword} (hc : ∀ a, c ≠ .star a) (ha : PE X e (tE X.K Y c)) (hr : PK X kws (tAs X.K Y cs)) : PK X (⟨nm, e, kpos⟩ :: kws) (tAs X.K Y (c :: cs)) := ⟨fun pos pins s σ H Q I ⟨r, m, Qd, he, q, f⟩ => (pk_cons ha hr).run pos pins s σ H Q I
  ⟨r, m, _, he, evs_cons hc q, fun d m1 v H1 q1 rv hm s => ⟨r, m1, _, he.step s hm, q1, fun ds m2 vs H2 q2 rs hm2 s2 => f (d :: ds) m2 (v :: vs) H2 q2 (by simp only [Reps]; exact ⟨v, vs, rfl, Rep.step s2 _ _ rv, rs⟩) hm2 (s.trans s2)⟩⟩⟩
def kwNames : List Keyword → List Str
  | [] => []
  | ⟨some x, _, _⟩ :: r => x :: kwNames r
  | ⟨none, _, _⟩ :: r => kwNames r
def kwAll : List Keyword → Bool
  | [] => true
  | ⟨some _, _, _⟩ :: r => kwAll r
  | ⟨none, _, _⟩ :: _ => false
theorem kw_look {env : PySem.Env} {pos : Pos} : ∀ {kws : List Keyword}, kwAll kws = true → (backToKw pos (keywordEach kws env)).all (·.1.isSome) = true ∧ (backToKw pos (keywordEach kws env)).filterMap (·.1) = kwNames kws ∧ (backToKw pos (keywordEach kws env)).any (·.1.isNone) = false
  | [], _ => ⟨rfl, rfl, rfl⟩
  | ⟨some x, v, q⟩ :: r, h => by
    obtain ⟨h1, h2, h3⟩ := kw_look (env := env) (pos := pos) (kws := r) h
    unfold keywordEach backToKw
    unfold backToKw at h1 h2 h3
    simp only [List.map_cons, List.all_cons, List.filterMap_cons, List.any_cons, kwNames]
    exact ⟨by simpa using h1, by rw [h2], by simpa using h3⟩
  | ⟨none, _, _⟩ :: _, h => by cases h
theorem getD_rep {K : PySem.W.Frag} {m : Mem} {H : Hp} {ds : List D} {vs : List V} (r : Reps K m H vs ds) (i : Nat) : Rep K m H (vs.getD i .non) (ds.getD i .non) := by
  rw [List.getD_eq_getElem?_getD, List.getD_eq_getElem?_getD]
  cases e : ds[i]? with
  | none =>
    have h1 : vs[i]? = none := by
      rw [List.getElem?_eq_none_iff] at e ⊢
      rw [r.length]; exact e
    rw [h1]; exact rep_non
  | some d =>
    obtain ⟨v, h1, h2⟩ := r.get e
    rw [h1]; exact h2
theorem perm_rep {K : PySem.W.Frag} {m : Mem} {H : Hp} {ds : List D} {vs : List V} (r : Reps K m H vs ds) : ∀ pm : List Nat, Reps K m H (pm.map fun i => vs.getD i .non) (pm.map fun i => ds.getD i .non)
  | [] => by simp [Reps]
  | i :: pm => by
    simp only [List.map_cons, Reps]
    exact ⟨_, _, rfl, getD_rep r i, perm_rep r pm⟩
/-- the keywords' values in the parameters' order -/
def kwG {α : Type} (n : α) (pm : List Nat) (us ws : List α) : List α := if ws.length = pm.length then us ++ pm.map fun i => ws.getD i n else []
theorem r_callk {k j : Nat} {f : Addr} {fd : FuncData} {ps ks : List Str} {pm : List Nat} {n : Nat} {kws : List Keyword} (F : FnG X.prog X.w X.K X.mg X.base k f fd ps (spK X.K n (Y.fn j))) (hG : X.A.guards = some [])
    (hb : KBinds X.K fd ps ks (kwG .none pm) (kwG .non pm)) (hcp : cs.length = pm.length) (hr : Room k X.A) (hk : PySem.W.keepIn X.K (.ref f) = true) (hn : pm.length = n)
    (hg : Gl X x) (hm : X.mg x = some (.ref f)) (hd : (x == ("__debug__" : Str)) = false) (hks : kwNames kws = ks) (hall : kwAll kws = true) (ha : PK X kws (tAs X.K Y cs)) : PE X (.Call (.Name x p) [] kws pos) (tE X.K Y (.callk j pm cs)) := by
  refine ⟨fun pins s σ H Q I ⟨r, m, Qd, he, q, fin⟩ => ?_⟩
  simp only [ev] at q
  obtain ⟨k1, k2, k3⟩ := kw_look (env := X.env) (pos := pos) hall
  refine wpAny_Call_Name_kw (ld_glob I hg hm ?_ hd)
  refine PySem.W.callWith_KW0 (h₀ := X.base) I.ok.mod.kin hk k1 (thn (ha.run pos pins s σ H (fun vs H1 => vs.length = pm.length ∧ spK X.K n (Y.fn j) (pm.map fun i => vs.getD i .non) H1 Q fun _ _ _ => True) I ⟨r, m, _, he, q, fun ds m1 vs H1 ⟨hl, q1⟩ rs hm1 s1 =>
    ⟨by rw [rs.length, hl, hcp], by rw [List.length_map, hn], _, m1, Qd, perm_rep rs pm, hm1, q1, fin.mono s1⟩⟩) fun ws s2 ⟨zs, H2, I2, rz, hzl, q2⟩ => ⟨I2.kIn, ?_⟩) (by rw [k3]; rfl)
  rw [k2, hks]
  exact F.callK hG hr hb I2 rz (by unfold kwG; rw [if_pos hzl, List.nil_append]; exact q2)

/-! ### built-ins -/
theorem boot1 : ∀ f : B1, bootBuiltins f.py.1 = some f.py.2
  | .len => by decide +kernel | .abs => by decide +kernel | .int => by decide +kernel | .sum => by decide +kernel | .tuple => by decide +kernel | .all => by decide +kernel | .any => by decide +kernel | .repr => by decide +kernel | .str => by decide +kernel | .list _ => by show bootBuiltins "list" = some (.type "list"); decide +kernel | .chars _ => by show bootBuiltins "list" = some (.type "list"); decide +kernel
theorem boot2 : ∀ f : B2, bootBuiltins f.py.1 = some f.py.2
  | .min => by decide +kernel | .max => by decide +kernel
theorem py1_ne : ∀ f : B1, f.py.1 ≠ "__name__" ∧ (f.py.1 == ("__debug__" : Str)) = false
  | .len => by decide +kernel | .abs => by decide +kernel | .int => by decide +kernel | .sum => by decide +kernel | .tuple => by decide +kernel | .all => by decide +kernel | .any => by decide +kernel | .repr => by decide +kernel | .str => by decide +kernel | .list _ => by show ("list" : Str) ≠ "__name__" ∧ (("list" : Str) == ("__debug__" : Str)) = false; decide +kernel | .chars _ => by show ("list" : Str) ≠ "__name__" ∧ (("list" : Str) == ("__debug__" : Str)) = false; decide +kernel
theorem py2_ne : ∀ f : B2, f.py.1 ≠ "__name__" ∧ (f.py.1 == ("__debug__" : Str)) = false
  | .min => by decide +kernel | .max => by decide +kernel
theorem r_b1 {f : B1} (hc : X.calm = true) (hG : X.A.guards = some []) (hu : X.A.units + 64 < cLine) (hs : notStar e = true) (hg : Gl X f.py.1) (hm : X.mg f.py.1 = none) (ha : PE X e (tE X.K Y a)) : PE X (.Call (.Name f.py.1 p) [e] [] pos) (tE X.K Y (.b1 f a)) := by
  obtain ⟨r0, hr, hh⟩ := b1D_ok (X := X) hc hG hu f
  have key : PE X (.Call (.Name f.py.1 p) [e] [] pos) (tCB r0 (tCons (tE X.K Y a) tNil)) := by
    have hv := boot1 f
    obtain ⟨n1, n2⟩ := py1_ne f
    have hp : PA X [e] (tCons (tE X.K Y a) tNil) := pa_cons ha pa_nil (star_no hs)
    cases f <;> first
      | exact pe_callB hr hg hm hv hp n1 n2 (star_no hs) rfl
      | exact pe_callTy hr hg hm hv hp n1 n2 (star_no hs) rfl
  refine key.imp fun σ H Q _ ⟨r, m, Qd, he, q, f⟩ => ?_
  simp only [ev] at q
  exact ⟨r, m, _, he, q, fun d m1 v H1 q1 rv hm s => hh v d m1 H1 Qd Q hm rv q1 (f.mono s)⟩
theorem r_b2 {f : B2} (hc : X.calm = true) (hs : notStar e = true) (hs2 : notStar e2 = true) (hg : Gl X f.py.1) (hm : X.mg f.py.1 = none) (ha : PE X e (tE X.K Y a)) (hb : PE X e2 (tE X.K Y b)) : PE X (.Call (.Name f.py.1 p) [e, e2] [] pos) (tE X.K Y (.b2 f a b)) := by
  obtain ⟨r0, hr, hh⟩ := b2D_ok (X := X) hc f
  have key : PE X (.Call (.Name f.py.1 p) [e, e2] [] pos) (tCB r0 (tCons (tE X.K Y a) (tCons (tE X.K Y b) tNil))) := by
    have hv := boot2 f
    obtain ⟨n1, n2⟩ := py2_ne f
    have hp : PA X [e, e2] (tCons (tE X.K Y a) (tCons (tE X.K Y b) tNil)) := pa_cons ha (pa_cons hb pa_nil (star_no hs2)) (star_no hs)
    cases f <;> exact pe_callB hr hg hm hv hp n1 n2 (star_no hs) (plainArgs (by simpa using hs2))
  refine key.imp fun σ H Q _ ⟨r, m, Qd, he, q, f⟩ => ?_
  simp only [ev] at q
  exact two he q fun x y d e m2 H2 rx ry hm s q2 => hh x y d e m2 H2 Qd Q hm rx ry q2 (f.mono s)
theorem r_isi {T : String} {tp : Pos} {tx : Str} (hT : T ∈ isiTys) (hs : notStar e = true) (hg : Gl X "isinstance") (hm : X.mg "isinstance" = none) (hg2 : Gl X tx) (hm2 : X.mg tx = none) (hv2 : bootBuiltins tx = some (.type T)) (hn2 : tx ≠ "__name__") (hd2 : (tx == ("__debug__" : Str)) = false)
    (ha : PE X e (tE X.K Y a)) : PE X (.Call (.Name "isinstance" p) [e, .Name tx tp] [] pos) (tE X.K Y (.isi a T)) := by
  obtain ⟨r0, hr, hh⟩ := isi_ok (X := X) hT
  have hty : PE X (.Name tx tp) (tC (.ty T)) := pe_bltn hg2 hm2 hv2 rfl hn2 hd2
  have key : PE X (.Call (.Name "isinstance" p) [e, .Name tx tp] [] pos) (tCB r0 (tCons (tE X.K Y a) (tCons (tC (.ty T)) tNil))) :=
    pe_callB hr hg hm (by decide +kernel) (pa_cons ha (pa_cons hty pa_nil rfl) (star_no hs)) (by decide +kernel) (by decide +kernel) (star_no hs) rfl
  refine key.imp fun σ H Q _ ⟨r, m, Qd, he, q, f⟩ => ?_
  simp only [ev] at q
  exact ⟨r, m, _, he, q, fun d m1 v H1 q1 rv hm s => hh v d m1 H1 Qd Q hm rv q1 (f.mono s)⟩
def okBase : Expr → Bool
  | .Name .. => true | .Attribute .. => true | .Subscript .. => true
  | .Call _ (_ :: _) _ _ => true
  | _ => false
theorem base_of {o : Expr} {x : Str} {env : PySem.Env} (h : okBase o = true) : attributeBase o x env (eval o env) = eval o env := by
  cases o <;> first
    | cases h; done
    | rfl
    | skip
  rename_i f args kw pos
  cases args with
  | nil => cases h
  | cons a as => cases f <;> rfl
theorem r_m1 {f : M1} (hs : notStar e2 = true) (ho : okBase e = true) (hl : (apos.endLine == pos.line) = true) (ha : PE X e (tE X.K Y a)) (hb : PE X e2 (tE X.K Y b)) : PE X (.Call (.Attribute e f.py.1 apos) [e2] [] pos) (tE X.K Y (.m1 f a b)) := by
  have hp : PA X [e2] (tCons (tE X.K Y b) tNil) := pa_cons hb pa_nil (star_no hs)
  have few : ((backTo pos (starEach [e2] X.env)).all (fun x => !x.1) && (backToKw pos (keywordEach [] X.env)).all (fun x => x.1.isSome) && decide (([e2] : List Expr).length + ([] : List Keyword).length + (if ([] : List Keyword).isEmpty then 0 else 1) < 30)) = true := by
    rw [star_no hs]; rfl
  have rest : ∀ {σ H Q} (r0 : V → List V → Hp → VK → Prop), (∀ x y d e m H Q Q', MemOk X.K m H → Rep X.K m H x d → Rep X.K m H y e → m1D f d e m Q → Fin X.K m H Q Q' → r0 x [y] H Q') → tE X.K Y (.m1 f a b) σ H Q → tBM X.K "list" r0 (tE X.K Y a) (tCons (tE X.K Y b) tNil) σ H Q := fun {σ H Q} r0 hh ⟨r, m, Qd, he, q, fin⟩ => by
    simp only [ev] at q
    refine ⟨r, m, _, he, q, fun d m1 v H1 ⟨⟨ds, hds⟩, q1⟩ rv hm s => ?_⟩
    obtain ⟨x, xs, ex, rs, hq⟩ := lst_val hm rv hds
    refine ⟨?_, r, m1, _, he.step s hm, q1, fun e m2 y H2 q2 ry hm2 s2 => hh v y d e m2 H2 Qd Q hm2 (Rep.step s2 _ _ rv) ry q2 (fin.mono (s.trans s2))⟩
    subst ex
    exact .inl ⟨rfl, xs, hq⟩
  cases f with
  | append =>
    exact (pe_bm PySem.F.plainAttrs_list PySem.F.slot_list_append PySem.F.type_list_append mt_append ha hp (base_of ho) few hl (star_no hs) rfl).imp fun σ H Q _ h => rest rAppend (fun x y d e m H Q Q' hm rx ry h fin => by
      unfold m1D at h
      cases d <;> first
        | exact h.elim
        | (obtain ⟨ds, hp, hl, q⟩ := h
           obtain ⟨vs, hH, rs⟩ := hm _ _ hp
           refine ⟨_, vs, y, rx.ref, rfl, hH, ?_, fin _ _ _ _ q rep_non (hm.writeLst hp (rs.append (by simp only [Reps]; exact ⟨y, [], rfl, ry, rfl⟩))) (Step.write hp)⟩
           rw [rs.length, sizeLine_eq]; omega)) h
  | pop =>
    exact (pe_bm PySem.F.plainAttrs_list PySem.F.slot_list_pop PySem.F.type_list_pop mt_popAt ha hp (base_of ho) few hl (star_no hs) rfl).imp fun σ H Q _ h => rest rPopAt (fun x y d e m H Q Q' hm rx ry h fin => by
      unfold m1D at h
      cases d <;> first
        | exact h.elim
        | (obtain ⟨ds, i, k, z, hp, ei, h1, h2, hk, hz, q⟩ := h
           subst ei
           obtain ⟨vs, hH, rs⟩ := hm _ _ hp
           obtain ⟨w, hw, rw'⟩ := rs.get hz
           refine ⟨_, vs, i, k, w, rx.ref, by rw [ry.int], hH, h1, h2, by rw [rs.length]; exact hk, hw, ?_⟩
           exact fin _ _ _ _ q (Rep.step (Step.write hp) _ _ rw') (hm.writeLst hp (rs.eraseIdx k)) (Step.write hp))) h
  | extend =>
    exact (pe_bm PySem.F.plainAttrs_list PySem.F.slot_list_extend PySem.F.type_list_extend mt_extend ha hp (base_of ho) few hl (star_no hs) rfl).imp fun σ H Q _ h => rest rExtend (fun x y d e m H Q Q' hm rx ry h fin => by
      unfold m1D at h
      cases d <;> first
        | exact h.elim
        | (obtain ⟨ds, es, hp, he, hl, q⟩ := h
           cases e <;> first
            | exact he.elim
            | (obtain ⟨ne, hq⟩ := he
               obtain ⟨vs, hH, rs⟩ := hm _ _ hp
               obtain ⟨ws, hG, rs2⟩ := hm _ _ hq
               refine ⟨_, _, vs, ws, rx.ref, by rw [ry.ref], hH, hG, ?_, fin _ _ _ _ q rep_non (hm.writeLst hp (rs.append rs2)) (Step.write hp)⟩
               rw [rs.length, rs2.length]; exact line6 hl))) h

/-- o.m() of a text -/
theorem r_m0 {f : M0} (ho : okBase e = true) (hl : (apos.endLine == pos.line) = true) (ha : PE X e (tE X.K Y a)) : PE X (.Call (.Attribute e f.py apos) [] [] pos) (tE X.K Y (.m0 f a)) := by
  cases f with
  | upper =>
    exact (pe_upper ha (base_of ho) hl).imp fun σ H Q _ ⟨r, m, Qd, he, q, fin⟩ => by
      simp only [ev] at q
      refine ⟨r, m, _, he, q, fun d m1 v H1 q1 rv hm s => ?_⟩
      unfold m0D at q1
      cases d <;> first
        | exact q1.elim
        | skip
      rename_i z
      exact ⟨⟨_, rv.str⟩, z, rv.str, rfl, by have := q1.1; omega, (fin.mono s).here hm rep_str q1.2⟩

/-! ### list(range(..)) -/
theorem rgV_eq (i j : Int) : rgV i j = (List.range (j - i).toNat).map fun (k : Nat) => V.int (i + (k : Int)) := by
  first
    | rfl
    | (unfold rgV; rfl)
theorem rg_reps {K : PySem.W.Frag} {m : Mem} {H : Hp} {i j : Int} : Reps K m H (rgV i j) (rgD i j) := by
  rw [rgV_eq]
  unfold rgD
  generalize List.range (j - i).toNat = l
  induction l with
  | nil => simp [Reps]
  | cons k l ih =>
    simp only [List.map_cons, Reps]
    exact ⟨_, _, rfl, rep_int, ih⟩
theorem r_lrg1 {mu : Bool} {q pos' : Pos} (hc : X.calm = true) (hs : notStar e = true) (hg : Gl X "list") (hm : X.mg "list" = none) (hg2 : Gl X "range") (hm2 : X.mg "range" = none) (ha : PE X e (tE X.K Y a)) : PE X (.Call (.Name "list" p) [.Call (.Name "range" q) [e] [] pos'] [] pos) (tE X.K Y (.lrg mu (.int 0) a)) :=
  (pe_listRg hc hg hm (prg_1 hg2 hm2 ha (star_no hs)) rfl).imp fun σ H Q _ ⟨r, m, Qd, he, q, fin⟩ => by
    simp only [ev] at q
    refine ⟨r, m, _, he, q, fun d m1 v H1 q1 rv hm s => ?_⟩
    obtain ⟨i, e1, q1⟩ := onI_out q1
    cases e1
    obtain ⟨j, rfl, k1, k2, k3, q1⟩ := onI_out q1
    exact ⟨j, rv.int, ⟨by decide, by decide, k2.1, k2.2, Nat.le_trans k3 (by decide)⟩, (fin.mono s).lst hm rg_reps q1⟩
theorem r_lrg2 {mu : Bool} {q pos' : Pos} (hc : X.calm = true) (hs : notStar e = true) (hs2 : notStar e2 = true) (hg : Gl X "list") (hm : X.mg "list" = none) (hg2 : Gl X "range") (hm2 : X.mg "range" = none) (ha : PE X e (tE X.K Y a)) (hb : PE X e2 (tE X.K Y b)) : PE X (.Call (.Name "list" p) [.Call (.Name "range" q) [e, e2] [] pos'] [] pos) (tE X.K Y (.lrg mu a b)) :=
  (pe_listRg hc hg hm (prg_2 hg2 hm2 ha hb (star_no hs) (star_no hs2) (plainArgs (by simpa using hs2))) rfl).imp fun σ H Q _ ⟨r, m, Qd, he, q, fin⟩ => by
    simp only [ev] at q
    refine two he q fun x y d e m2 H2 rx ry hm s q1 => ?_
    obtain ⟨i, e1, q2⟩ := onI_out q1
    obtain ⟨j, e2, k1, k2, k3, q3⟩ := onI_out q2
    subst e1 e2
    exact ⟨i, j, rx.int, ry.int, ⟨k1.1, k1.2, k2.1, k2.2, Nat.le_trans k3 (by decide)⟩, (fin.mono s).lst hm rg_reps q3⟩

/-! ### slotted objects -/
theorem obj_val {K : PySem.W.Frag} {m : Mem} {H : Hp} {a C dx : Addr} {fs : List (Option D)} (hm : MemOk K m H) (h : m a = some (.obj C dx fs)) : ∃ vs, SlX.Slt H a C dx vs ∧ RepsO K m H vs fs := by
  obtain ⟨vs, q, _, _, r⟩ := hm a _ h
  exact ⟨vs, q, r⟩
theorem r_slot {c i : Nat} {pd : Addr} (ho : okBase e = true) (k : SlX.SCls X.K (Y.cls c)) (t : SlX.Slot1 X.K (Y.cls c) x pd i) (ha : PE X e (tE X.K Y a)) : PE X (.Attribute e x pos) (tE X.K Y (.slot a c i)) :=
  (SlX.pe_sl ha (base_of ho)).imp fun σ H Q _ ⟨r, m, Qd, he, q, fin⟩ => by
    simp only [ev] at q
    refine ⟨r, m, _, he, q, fun d m1 v H1 ⟨p, dx, fs, d', ed, hp, hf, q1⟩ rv hm s => ?_⟩
    subst ed
    obtain ⟨vs, hs, rs⟩ := obj_val hm hp
    obtain ⟨w, hw, rw'⟩ := rs.get hf
    exact ⟨p, _, dx, pd, vs, i, w, rv.ref, hs, k, t, hw, (fin.mono s).here hm rw' q1⟩
/-- C(e, ..) -/
theorem r_mk {k c j : Nat} {f : Addr} {fd : FuncData} {ps : List Str} {n : Nat} (M : Mk X.K (Y.cls c) f) (F : FnG X.prog X.w X.K X.mg X.base k f fd ps (spK X.K n (Y.fn j))) (hG : X.A.guards = some []) (hb : Binds X.K fd ps []) (hr : Room (k + 1) X.A) (hn : cs.length + 1 = n)
    (hg : Gl X x) (hm : X.mg x = some (.ref (Y.cls c))) (hd : (x == ("__debug__" : Str)) = false) (ha : PA X es (tAs X.K Y cs)) (h0 : es = [] → cs = []) (hp : es.all notStar = true) : PE X (.Call (.Name x p) es [] pos) (tE X.K Y (.mk c j cs)) := by
  refine ⟨fun pins s σ H Q I ⟨r, m, Qd, he, q, fin⟩ => ?_⟩
  simp only [ev] at q
  refine wpAny_Call_Name_kw (ld_glob I hg hm ?_ hd)
  refine node_K I M.kp ha h0 hp (R := fun vs H1 => ∀ x dx, H1 x = none → H1 dx = none → dx ≠ x → spK X.K n (Y.fn j) (.ref x :: vs) (upd (upd H1 dx (.own x)) x (.ins (Y.cls c) dx [])) (fun v H2 => v = .non ∧ Q (.ref x) H2) fun _ _ _ => True)
    ⟨r, m, _, he, q, fun ds m1 vs H1 ⟨hl, q1⟩ rs hm1 s1 x dx hx hdx ne => ?_⟩ fun us s1 vs H1 I1 rv q1 => ?_
  · refine ⟨by rw [List.length_cons, rs.length, hl, hn], .ref x :: ds, _, _, ?_, hm1.newObj hx hdx ne, q1 x dx (hm1.free hx) (hm1.free hdx) ne, fun d m2 v H2 ⟨ed, q2⟩ rv hm2 s2 => ?_⟩
    · simp only [Reps]
      exact ⟨_, vs, rfl, rep_ref, Reps.step (Step.newObj hx hdx) _ _ rs⟩
    · subst ed
      exact ⟨rv.non, fin _ _ _ _ q2 rep_ref hm2 (s1.trans ((Step.newObj hx hdx).trans s2))⟩
  · exact FnG.make M F hG hr hb I1 rv q1
theorem back_all {pos : Pos} {l : List (Bool × Sem Value)} : (backTo pos l).all (fun x => !x.1) = !(l.any (·.1)) := by
  unfold backTo
  rw [List.all_map]
  induction l with
  | nil => rfl
  | cons x l ih =>
    rw [List.all_cons, List.any_cons, ih]
    obtain ⟨b, t⟩ := x
    cases b <;> rfl
theorem few_of {env : PySem.Env} (hp : es.all notStar = true) (hl : es.length < 30) : methodCallForm (es.length + ([] : List Keyword).length) (backTo pos (starEach es env)) (backToKw pos (keywordEach [] env)) = true := by
  unfold methodCallForm
  rw [back_all, star_any hp]
  simp [keywordEach, backToKw, hl]
theorem meth_eq {o : Expr} {env : PySem.Env} (ho : okBase o = true) (hp : es.all notStar = true) (hn : es.length < 30) (hl : (apos.endLine == pos.line) = true) :
    eval (.Call (.Attribute o x apos) es [] pos) env = (do
      let ov ← eval o env
      standAt apos.atName
      let (f, first) ← holding [ov] (getMethod ov x (plainOf o env))
      callWith pos f first (backTo pos (starEach es env)) (backToKw pos (keywordEach [] env))) := by
  show (do
      let ov ← attributeBase o x env (eval o env)
      standAt apos.atName
      methodCall o x apos pos env ov (es.length + ([] : List Keyword).length) (backTo pos (starEach es env)) (backToKw pos (keywordEach [] env))) = _
  rw [base_of ho]
  have e : ∀ ov, methodCall o x apos pos env ov (es.length + ([] : List Keyword).length) (backTo pos (starEach es env)) (backToKw pos (keywordEach [] env)) = (do
      let (f, first) ← holding [ov] (getMethod ov x (plainOf o env))
      callWith pos f first (backTo pos (starEach es env)) (backToKw pos (keywordEach [] env))) := fun ov => mcall_line (few_of hp hn) hl
  simp only [e]
/-- o.m(e, ..) of a slotted object -/
theorem r_meth {k c j : Nat} {f : Addr} {fd : FuncData} {ps : List Str} {n : Nat} {o : Expr} (hob : okBase o = true) (hl30 : es.length < 30) (hl : (apos.endLine == pos.line) = true) (kc : SlX.SCls X.K (Y.cls c)) (hm : Meth X.K (Y.cls c) x f) (F : FnG X.prog X.w X.K X.mg X.base k f fd ps (spK X.K n (Y.fn j))) (hG : X.A.guards = some []) (hb : Binds X.K fd ps []) (hr : Room k X.A) (hn : cs.length + 1 = n)
    (ho : PE X o (tE X.K Y a)) (ha : PA X es (tAs X.K Y cs)) (h0 : es = [] → cs = []) (hp : es.all notStar = true) : PE X (.Call (.Attribute o x apos) es [] pos) (tE X.K Y (.meth j c a cs)) := by
  refine ⟨fun pins s σ H Q I ⟨r, m, Qd, he, q, fin⟩ => ?_⟩
  simp only [ev] at q
  have hw := ho.run pins s σ H (fun v H1 => ∃ d m1, (∃ p dx fs, d = D.ref p ∧ m1 p = some (.obj (Y.cls c) dx fs) ∧ evs Y cs r m1 fun ds m2 => ds.length = cs.length ∧ Y.fn j (d :: ds) m2 Qd) ∧ Rep X.K m1 H1 v d ∧ MemOk X.K m1 H1 ∧ Step m H m1 H1) I
    ⟨r, m, _, he, q, fun d m1 v H1 q1 rv hm s => ⟨d, m1, q1, rv, hm, s⟩⟩
  refine PySem.W.methodCall_KW (thn hw fun u s1 ⟨x, H1, I1, rx, d, m1, ⟨p, dx, fs, ed, hp1, q1⟩, rv, hm1, st1⟩ => ?_) (meth_eq hob hp hl30 hl)
  subst ed
  obtain rfl := rv.ref
  obtain rfl : u = Value.ref p := rx
  obtain ⟨vs, hs, rs⟩ := obj_val hm1 hp1
  refine SlX.getmethsl_ok I1 hs kc hm ?_
  refine node_K I1 hm.kp ha h0 hp (first := [.ref p]) (R := fun ws H2 => spK X.K n (Y.fn j) (.ref p :: ws) H2 Q fun _ _ _ => True)
    ⟨r, m1, _, he.step st1 hm1, q1, fun ds m2 ws H2 ⟨hl, q2⟩ rs2 hm2 s2 => ⟨by rw [List.length_cons, rs2.length, hl, hn], .ref p :: ds, m2, Qd, by simp only [Reps]; exact ⟨_, ws, rfl, rep_ref, rs2⟩, hm2, q2, fin.mono (st1.trans s2)⟩⟩ fun us s2 ws H2 I2 r2 q2 => ?_
  exact F.call hG hr hb I2 (us := .ref p :: us) (vs := .ref p :: ws) (.cons rfl r2) q2
end
end Og
end
section
set_option maxHeartbeats 4000000
set_option autoImplicit false
/-! Og: targets, iteration, comprehensions by data. -/
namespace Og
open PySem PySem.Spec PyProof.Rows L2

theorem wipe_idem {σ : L2.St} (vs : List Nat) : L2.wipe (L2.wipe σ vs) vs = L2.wipe σ vs := by
  apply List.ext_getElem?
  intro i
  by_cases h : i ∈ vs
  · have none_at : ∀ τ : L2.St, (L2.wipe τ vs)[i]? = none ∨ (L2.wipe τ vs)[i]? = some none := fun τ => by
      cases e : (L2.wipe τ vs)[i]? with
      | none => exact .inl rfl
      | some o =>
        cases o with
        | none => exact .inr rfl
        | some v => exact absurd h (wipe_some e).2
    have l1 := wipe_length (L2.wipe σ vs) vs
    have l2 := wipe_length σ vs
    by_cases hl : i < σ.length
    · have b1 : i < (L2.wipe (L2.wipe σ vs) vs).length := by rw [l1, l2]; exact hl
      have b2 : i < (L2.wipe σ vs).length := by rw [l2]; exact hl
      have k1 := (none_at (L2.wipe σ vs)).resolve_left (by rw [List.getElem?_eq_getElem b1]; exact fun z => (nomatch z))
      have k2 := (none_at σ).resolve_left (by rw [List.getElem?_eq_getElem b2]; exact fun z => (nomatch z))
      rw [k1, k2]
    · rw [List.getElem?_eq_none (by rw [l1, l2]; omega), List.getElem?_eq_none (by rw [l2]; omega)]
  · exact wipe_out h

/-! ### targets -/
mutual
theorem setT_out : ∀ (t : Tg) {d : D} {r : Rho} {Kd : Rho → Prop}, setT t d r Kd → ∃ r1, Kd r1
  | .nm _, _, _, _, h => ⟨_, h⟩
  | .tup ts, _, _, _, h => by
    simp only [setT] at h
    obtain ⟨ds, _, h⟩ := h
    exact (setTs_out ts h).2
  | .lst ts, _, _, _, h => by
    simp only [setT] at h
    obtain ⟨ds, _, h⟩ := h
    exact (setTs_out ts h).2
theorem setTs_out : ∀ (ts : List Tg) {ds : List D} {r : Rho} {Kd : Rho → Prop}, setTs ts ds r Kd → ds.length = ts.length ∧ ∃ r1, Kd r1
  | [], _, _, _, h => by
    simp only [setTs] at h
    exact ⟨by simp [h.1], _, h.2⟩
  | t :: ts, _, _, _, h => by
    simp only [setTs] at h
    obtain ⟨d, e, rfl, h⟩ := h
    obtain ⟨r1, h1⟩ := setT_out t h
    obtain ⟨h2, h3⟩ := setTs_out ts h1
    exact ⟨by simp [h2], h3⟩
end
def notStarT : Expr → Bool
  | .Starred _ _ => false
  | _ => true
theorem assign_no {e : Expr} {es : List Expr} {env : PySem.Env} (h : notStarT e = true) : assignEach (e :: es) env = (false, assign e env) :: assignEach es env := by
  cases e <;> first
    | rfl
    | cases h
theorem assign_all {env : PySem.Env} : ∀ {es : List Expr}, es.all notStarT = true → (assignEach es env).length = es.length ∧ (assignEach es env).findIdx? (·.1) = none
  | [], _ => ⟨rfl, rfl⟩
  | e :: es, h => by
    have h' : notStarT e = true ∧ es.all notStarT = true := by simpa using h
    obtain ⟨h1, h2⟩ := assign_all (env := env) h'.2
    rw [assign_no h'.1]
    refine ⟨by simp [h1], ?_⟩
    rw [List.findIdx?_cons, h2]
    rfl
section
variable {X : Cx} {Y : Ctx} {pos : Pos} {x : Str} {e : Expr} {es : List Expr} {t : Tg} {ts : List Tg}
theorem g_nm {i : Nat} (hN : X.N.Nodup) (hi : X.N[i]? = some x) (hx : Loc X.env.scope x) (hf : X.fn x = true ∨ X.env.scope.names.lookup x = some .local) : PG X (.Name x pos) (tTg X.K (.nm i)) := (pg_name hN hi hx hf).imp fun v σ H Q ⟨r, m, d, Kd, he, rv, q, f⟩ => by
  simp only [setT] at q
  exact f _ _ q (he.set i rv) Out.nm
theorem gs_nil : PGs X [] (tTgs X.K []) := pgs_nil.imp fun vs σ H Q ⟨r, m, ds, Kd, he, rs, q, f⟩ => by
  simp only [setTs] at q
  obtain ⟨rfl, q⟩ := q
  exact ⟨by simpa [Reps] using rs, f _ _ q he Out.refl⟩
theorem gs_cons (hs : notStarT e = true) (h1 : PG X e (tTg X.K t)) (h2 : PGs X es (tTgs X.K ts)) : PGs X (e :: es) (tTgs X.K (t :: ts)) := (pgs_cons h1 h2 (by rw [assign_no hs]; rfl)).imp fun vs σ H Q ⟨r, m, ds, Kd, he, rs, q, f⟩ => by
  simp only [setTs] at q
  obtain ⟨d, es', rfl, q⟩ := q
  simp only [Reps] at rs
  obtain ⟨v, vr, rfl, r1, r2⟩ := rs
  refine ⟨v, vr, rfl, r, m, d, _, he, r1, q, fun r' σ' q' he' o' => ⟨r', m, es', Kd, he', r2, q', fun r2 σ2 q2 he2 o2 => f r2 σ2 q2 he2 (o'.trans o2)⟩⟩
theorem g_tup {k : Nat} (hc : X.calm = true) (hs : es.all notStarT = true) (hl : es.length = ts.length) (h : PGs X es (tTgs X.K ts)) : PG X (.Tuple es k pos) (tTg X.K (.tup ts)) := by
  obtain ⟨a1, a2⟩ := assign_all (env := X.env) hs
  refine (pg_tup (n := ts.length) hc h (by rw [a1, hl]) a2).imp fun v σ H Q ⟨r, m, d, Kd, he, rv, q, f⟩ => ?_
  simp only [setT] at q
  obtain ⟨ds, rfl, q⟩ := q
  obtain ⟨a, xs, ex, hq, rs⟩ := rv.tup
  exact ⟨a, xs, ex, hq.sq, by rw [rs.length]; exact (setTs_out ts q).1, r, m, ds, Kd, he, rs, q, f⟩
end

/-! ### what is walked -/
theorem seqK {K : PySem.W.Frag} {m1 : Mem} {H1 : Hp} {d : D} {v : V} {ds : List D} (hm : MemOk K m1 H1) (r : Rep K m1 H1 v d) (h : seqOf m1 d = some ds) :
    ∃ k a, v = .ref a ∧ ∀ m H, guard m1 d m → MemOk K m H → Step m1 H1 m H → ∃ xs, SqK K k H a xs ∧ Reps K m H xs ds := by
  cases d with
  | tup es =>
    cases h
    obtain ⟨a, xs, e, q, rs⟩ := r.tup
    refine ⟨false, a, e, fun m H _ hm' st => ?_⟩
    have r' := Rep.step st _ _ r
    obtain ⟨a', xs', e', q', rs'⟩ := r'.tup
    rw [e] at e'; cases e'
    exact ⟨xs', q'.sq, rs'⟩
  | lst es =>
    cases h
    obtain ⟨a, xs, e, q, rs⟩ := r.lst
    refine ⟨true, a, e, fun m H _ hm' st => ?_⟩
    have r' := Rep.step st _ _ r
    obtain ⟨a', xs', e', q', rs'⟩ := r'.lst
    rw [e] at e'; cases e'
    exact ⟨xs', q'.sq, rs'⟩
  | ref p =>
    refine ⟨true, p, r.ref, fun m H g hm' st => ?_⟩
    unfold seqOf at h
    simp only at h
    split at h
    · rename_i es q
      cases h
      obtain ⟨vs, hp, rs⟩ := hm' p _ (Eq.trans (show m p = m1 p from g) q)
      exact ⟨vs, SqL.of hp, rs⟩
    · cases h
  | _ => cases h
theorem enumD_get : ∀ {ds : List D} {n i : Nat} {e : D}, (enumD n ds)[i]? = some e → ∃ d, ds[i]? = some d ∧ e = .tup [.int ((n + i : Nat) : Int), d]
  | [], _, _, _, h => by simp [enumD] at h
  | d :: ds, n, 0, e, h => by
    simp [enumD] at h
    exact ⟨d, rfl, h.symm⟩
  | d :: ds, n, i + 1, e, h => by
    simp only [enumD, List.getElem?_cons_succ] at h
    obtain ⟨d', h1, h2⟩ := enumD_get h
    refine ⟨d', by simpa using h1, ?_⟩
    rw [h2, show n + 1 + i = n + (i + 1) from by omega]
theorem enumD_length : ∀ {ds : List D} {n : Nat}, (enumD n ds).length = ds.length
  | [], _ => rfl
  | d :: ds, n => by simp [enumD, enumD_length]
theorem zipD_get : ∀ {ds es : List D} {i : Nat} {z : D}, (zipD ds es)[i]? = some z → ∃ x y, ds[i]? = some x ∧ es[i]? = some y ∧ z = .tup [x, y]
  | [], _, _, _, h => by simp [zipD] at h
  | _ :: _, [], _, _, h => by simp [zipD] at h
  | d :: ds, e :: es, 0, z, h => by
    simp [zipD] at h
    exact ⟨d, e, rfl, rfl, h.symm⟩
  | d :: ds, e :: es, i + 1, z, h => by
    simp only [zipD, List.getElem?_cons_succ] at h
    obtain ⟨x, y, h1, h2, h3⟩ := zipD_get h
    exact ⟨x, y, by simpa using h1, by simpa using h2, h3⟩
theorem zipD_length : ∀ {ds es : List D}, (zipD ds es).length = min ds.length es.length
  | [], _ => by simp [zipD]
  | _ :: _, [] => by simp [zipD]
  | d :: ds, e :: es => by simp [zipD, zipD_length, Nat.succ_min_succ]
theorem SqK.len {X : Cx} {k : Bool} {H : Hp} {a : Addr} {xs : List V} (g : Good X H) (q : SqK X.K k H a xs) : xs.length ≤ sizeLine := by
  unfold SqK at q
  cases k with
  | true => exact g.seq (.inl q)
  | false => exact g.seq (.inr q)

section
variable {X : Cx} {Y : Ctx} {pos p : Pos} {x : Str} {e e2 tg : Expr} {a b : E}
/-- a value has come, with all that is known of it -/
theorem PE.got {pins : List (Addr × Obj)} {σ : L2.St} {H : Hp} {s : Shared} {r : Rho} {m : Mem} {Qd : KD} (ha : PE X e (tE X.K Y a)) (I : Inv X pins σ H s) (he : REnv X.K r m σ H) (q : ev Y a r m Qd) :
    wpAny (model X.prog X.w) X.A (eval e X.env) (fun u s1 => ∃ v H1 d m1, Inv X pins σ H1 s1 ∧ RelV v u ∧ Qd d m1 ∧ Rep X.K m1 H1 v d ∧ MemOk X.K m1 H1 ∧ Step m H m1 H1) X.xe s :=
  thn (ha.run pins s σ H (fun v H1 => ∃ d m1, Qd d m1 ∧ Rep X.K m1 H1 v d ∧ MemOk X.K m1 H1 ∧ Step m H m1 H1) I ⟨r, m, Qd, he, q, fun d m1 v H1 q1 rv hm s => ⟨d, m1, q1, rv, hm, s⟩⟩)
    fun u s1 ⟨v, H1, I1, rx, d, m1, h⟩ => ⟨v, H1, d, m1, I1, rx, h⟩
theorem walk_seq {m1 : Mem} {H1 : Hp} {d : D} {ds : List D} {k : Bool} {ad : Addr} (hl : ds.length ≤ sizeLine) (h : ∀ m H, guard m1 d m → MemOk X.K m H → Step m1 H1 m H → ∃ xs, SqK X.K k H ad xs ∧ Reps X.K m H xs ds) :
    (k = true → WalkD X.K (Itl X.K ad) ds (guard m1 d) m1 H1) ∧ (k = false → WalkD X.K (Itt X.K ad) ds (guard m1 d) m1 H1) := by
  refine ⟨fun ek => ?_, fun ek => ?_⟩
  all_goals
    subst ek
    refine ⟨fun i d' m H hi g hm st => ?_, fun i d' m H v H' hi g hm st hy => ?_, fun m H g hm st => ?_, hl⟩
    · obtain ⟨xs, hq, rs⟩ := h m H g hm st
      obtain ⟨v, hv, _⟩ := rs.get hi
      exact ⟨xs, v, hq, hv⟩
    · obtain ⟨xs, hq, rs⟩ := h m H g hm st
      obtain ⟨v', hv, rv⟩ := rs.get hi
      obtain ⟨rfl, hy⟩ := hy
      have e := hy xs hq
      rw [hv] at e; cases e
      exact ⟨hm, Step.refl, rv⟩
    · obtain ⟨xs, hq, rs⟩ := h m H g hm st
      exact ⟨xs, hq, by rw [rs.length]; exact Nat.le_refl _⟩
theorem i_sq (ha : PE X e (tE X.K Y a)) : PI X tg e (tIt X.K Y (.sq a)) := ⟨fun pins s σ H R I ⟨r, m, Qd, he, q, fin⟩ => by
  simp only [evI] at q
  refine thn (PE.got ha I he q) fun u s1 ⟨v, H1, d, m1, I1, rx, ⟨ds, hs, q1⟩, rv, hm1, st1⟩ => ?_
  obtain ⟨k, ad, rfl, h⟩ := seqK hm1 rv hs
  cases rx
  obtain ⟨xs, hq, rs⟩ := h m1 H1 (by cases d <;> simp [guard]) hm1 Step.refl
  have hl : ds.length ≤ sizeLine := by rw [← rs.length]; exact hq.len ⟨_, _, _, I1⟩
  obtain ⟨w1, w2⟩ := walk_seq (X := X) hl h
  cases k with
  | true =>
    obtain ⟨its, rv', p', hz⟩ := I1.list hq
    refine wpAny_pyIter_list p'.isList ?_
    refine ⟨s1.heap.objs.size, [s1.heap.objs.size], _, _, H1, rfl, I1.kept (t' := s1.toks) fun b o e => Heap.get?_push_of_some _ e, turn_list ad _, ⟨_, Heap.get?_push_size _ rfl, rfl, rfl⟩, fun b hb => ?_, fin _ _ _ _ _ q1 hm1 st1 (w1 rfl)⟩
    have e : b = s1.heap.objs.size := by simpa using hb
    subst e
    exact I1.fpOk (Nat.le_refl _) (I1.hok.fresh (Nat.le_refl _))
  | false =>
    obtain ⟨its, rv', p', hz⟩ := I1.tuple hq
    refine wpAny_pyIter_tuple (show s1.heap.IsTuple ad its.toArray from p') ?_
    refine ⟨s1.heap.objs.size, [s1.heap.objs.size], _, _, H1, rfl, I1.kept (t' := s1.toks) fun b o e => Heap.get?_push_of_some _ e, turn_tuple ad _, ⟨_, Heap.get?_push_size _ rfl, rfl, rfl⟩, fun b hb => ?_, fin _ _ _ _ _ q1 hm1 st1 (w2 rfl)⟩
    have e : b = s1.heap.objs.size := by simpa using hb
    subst e
    exact I1.fpOk (Nat.le_refl _) (I1.hok.fresh (Nat.le_refl _))⟩
theorem rgD_get {lo hi : Int} {i : Nat} {d : D} (h : (rgD lo hi)[i]? = some d) : i < (hi - lo).toNat ∧ d = .int (lo + (i : Nat)) := by
  unfold rgD at h
  rw [List.getElem?_map] at h
  by_cases hi' : i < (hi - lo).toNat
  · rw [List.getElem?_range hi'] at h
    simp at h
    exact ⟨hi', h.symm⟩
  · rw [List.getElem?_eq_none (by simp; omega)] at h
    cases h
theorem rgD_length {lo hi : Int} : (rgD lo hi).length = (hi - lo).toNat := by unfold rgD; simp
theorem walk_rg {K : PySem.W.Frag} {lo hi : Int} {m1 : Mem} {H1 : Hp} (hl : (hi - lo).toNat ≤ 1000000) : WalkD K (Itr lo (hi - lo).toNat) (rgD lo hi) (fun _ => True) m1 H1 :=
  ⟨fun i d m H hi' _ _ _ => (rgD_get hi').1, fun i d m H x H' hi' _ hm _ hy => by
    obtain ⟨rfl, rfl⟩ := hy
    rw [(rgD_get hi').2]
    exact ⟨hm, Step.refl, rep_int⟩, fun m H _ _ _ => by rw [rgD_length]; exact Nat.le_refl _, by rw [rgD_length]; exact line6 hl⟩
theorem i_rg1 (hs : notStar e = true) (hg : Gl X "range") (hm : X.mg "range" = none) (ha : PE X e (tE X.K Y a)) : PI X tg (.Call (.Name "range" p) [e] [] pos) (tIt X.K Y (.rg1 a)) :=
  (pi_range1 hg hm (pa_cons ha pa_nil (star_no hs)) (star_no hs)).imp fun σ H R _ ⟨r, m, Qd, he, q, fin⟩ => by
    simp only [evI] at q
    refine ⟨r, m, _, he, q, fun d m1 v H1 q1 rv hm s => ?_⟩
    obtain ⟨i, rfl, k1, k2, q1⟩ := onI_out q1
    refine ⟨i, by rw [rv.int], by omega, by omega, ?_⟩
    have w := walk_rg (K := X.K) (lo := 0) (hi := i) (m1 := m1) (H1 := H1) (by omega)
    rw [show i - 0 = i from by omega] at w
    exact fin _ _ _ _ _ q1 hm s w
theorem i_rg2 (hs : notStar e = true) (hs2 : notStar e2 = true) (hg : Gl X "range") (hm : X.mg "range" = none) (ha : PE X e (tE X.K Y a)) (hb : PE X e2 (tE X.K Y b)) : PI X tg (.Call (.Name "range" p) [e, e2] [] pos) (tIt X.K Y (.rg2 a b)) :=
  (pi_range2 hg hm (pa_cons ha (pa_cons hb pa_nil (star_no hs2)) (star_no hs)) (by rw [star_no hs, star_no hs2]; rfl) (star_no hs2)).imp fun σ H R _ ⟨r, m, Qd, he, q, fin⟩ => by
    simp only [evI] at q
    refine two he q fun x y d e m2 H2 rx ry hm s q1 => ?_
    obtain ⟨i, e1, q2⟩ := onI_out q1
    obtain ⟨j, e2, k1, k2, k3, q3⟩ := onI_out q2
    subst e1 e2
    exact ⟨i, j, by rw [rx.int, ry.int], ⟨k1.1, k1.2, k2.1, k2.2⟩, fin _ _ _ _ _ q3 hm s (walk_rg k3)⟩
theorem i_enum {elts : List Expr} {kk : Nat} {tpos : Pos} (hs : notStar e = true) (hg : Gl X "enumerate") (hm : X.mg "enumerate" = none) (ha : PE X e (tE X.K Y a)) : PI X (.Tuple elts kk tpos) (.Call (.Name "enumerate" p) [e] [] pos) (tIt X.K Y (.enum a)) :=
  (PI.good (pi_enumK hg hm (pa_cons ha pa_nil (star_no hs)) (star_no hs))).imp fun σ H R _ ⟨r, m, Qd, he, q, fin⟩ => by
    simp only [evI] at q
    refine ⟨r, m, _, he, q, fun d m1 v H1 ⟨ds, hds, q1⟩ rv hm s => ?_⟩
    obtain ⟨k, ad, rfl, h⟩ := seqK hm rv hds
    obtain ⟨xs, hq, rs⟩ := h m1 H1 (by cases d <;> simp [guard]) hm Step.refl
    refine ⟨k, ad, xs, rfl, hq, fun g => fin _ _ _ _ _ q1 hm s ⟨fun i d' m H hi g hm st => ?_, fun i d' m H v H' hi g hm st hy => ?_, fun m H g hm st => ?_, by rw [enumD_length, ← rs.length]; exact hq.len g⟩⟩
    · obtain ⟨xs, hq, rs⟩ := h m H g hm st
      obtain ⟨d1, h1, rfl⟩ := enumD_get hi
      obtain ⟨v, hv, _⟩ := rs.get h1
      exact ⟨xs, v, hq, hv⟩
    · obtain ⟨xs, hq, rs⟩ := h m H g hm st
      obtain ⟨d1, h1, rfl⟩ := enumD_get hi
      obtain ⟨v', hv, rv⟩ := rs.get h1
      obtain ⟨T, x, rfl, hT, rfl, hy⟩ := hy
      have e := hy xs hq
      rw [hv] at e; cases e
      refine ⟨hm.fresh hT, Step.fresh hT, ?_⟩
      simp only [Rep]
      refine ⟨T, _, rfl, .inl ⟨hm.free hT, upd_same⟩, ?_⟩
      simp only [Reps]
      exact ⟨_, _, rfl, by rw [Nat.zero_add]; exact rep_int, _, _, rfl, Rep.step (Step.fresh hT) _ _ rv, rfl⟩
    · obtain ⟨xs, hq, rs⟩ := h m H g hm st
      exact ⟨xs, hq, by rw [enumD_length, rs.length]⟩
theorem i_zip {elts : List Expr} {kk : Nat} {tpos : Pos} (hs : notStar e = true) (hs2 : notStar e2 = true) (hg : Gl X "zip") (hm : X.mg "zip" = none) (ha : PE X e (tE X.K Y a)) (hb : PE X e2 (tE X.K Y b)) : PI X (.Tuple elts kk tpos) (.Call (.Name "zip" p) [e, e2] [] pos) (tIt X.K Y (.zip a b)) :=
  (PI.good (pi_zipK hg hm (pa_cons ha (pa_cons hb pa_nil (star_no hs2)) (star_no hs)) (star_no hs) (plainArgs (by simpa using hs2)))).imp fun σ H R _ ⟨r, m, Qd, he, q, fin⟩ => by
    simp only [evI] at q
    refine two he q fun x y dx dy m2 H2 rx ry hm s ⟨ds, es, hds, hes, q1⟩ => ?_
    obtain ⟨k, ad, rfl, h⟩ := seqK hm rx hds
    obtain ⟨l, bd, rfl, h'⟩ := seqK hm ry hes
    obtain ⟨xs, hq, rs⟩ := h m2 H2 (by cases dx <;> simp [guard]) hm Step.refl
    obtain ⟨ys, hq', rs'⟩ := h' m2 H2 (by cases dy <;> simp [guard]) hm Step.refl
    refine ⟨k, l, ad, bd, xs, ys, rfl, hq, hq', fun g => fin _ _ _ _ _ q1 hm s ⟨fun i d' m H hi g hm st => ?_, fun i d' m H v H' hi g hm st hy => ?_, fun m H g hm st => ?_, ?_⟩⟩
    · obtain ⟨xs, hq, rs⟩ := h m H g.1 hm st
      obtain ⟨ys, hq', rs'⟩ := h' m H g.2 hm st
      obtain ⟨d1, d2, h1, h2, rfl⟩ := zipD_get hi
      obtain ⟨v, hv, _⟩ := rs.get h1
      obtain ⟨w, hw, _⟩ := rs'.get h2
      exact ⟨xs, ys, v, w, hq, hq', hv, hw⟩
    · obtain ⟨xs, hq, rs⟩ := h m H g.1 hm st
      obtain ⟨ys, hq', rs'⟩ := h' m H g.2 hm st
      obtain ⟨d1, d2, h1, h2, rfl⟩ := zipD_get hi
      obtain ⟨v1, hv, rv⟩ := rs.get h1
      obtain ⟨w1, hw, rw'⟩ := rs'.get h2
      obtain ⟨T, x, y, rfl, hT, rfl, hy1, hy2⟩ := hy
      have e1 := hy1 xs hq
      have e2 := hy2 ys hq'
      rw [hv] at e1; cases e1
      rw [hw] at e2; cases e2
      refine ⟨hm.fresh hT, Step.fresh hT, ?_⟩
      simp only [Rep]
      refine ⟨T, _, rfl, .inl ⟨hm.free hT, upd_same⟩, ?_⟩
      simp only [Reps]
      exact ⟨_, _, rfl, Rep.step (Step.fresh hT) _ _ rv, _, _, rfl, Rep.step (Step.fresh hT) _ _ rw', rfl⟩
    · obtain ⟨xs, hq, rs⟩ := h m H g.1 hm st
      obtain ⟨ys, hq', rs'⟩ := h' m H g.2 hm st
      refine ⟨xs, ys, hq, hq', ?_⟩
      rw [zipD_length, rs.length, rs'.length]
      omega
    · have := hq.len g
      rw [zipD_length, ← rs.length, ← rs'.length]
      omega

/-! ### comprehensions -/
theorem freeze {K : PySem.W.Frag} {m : Mem} {H : Hp} {p : Addr} {ds : List D} (hm : MemOk K m H) (hp : m p = some (.lst ds)) : MemOk K (del m p) H ∧ Step m H (del m p) H ∧ Rep K (del m p) H (.ref p) (.lst ds) := by
  obtain ⟨vs, hH, rs⟩ := hm p _ hp
  have sb : SubO (del m p) m := ⟨Sub.del, fun x C dx fs ex => by
    have ex1 := Sub.del x _ ex
    have q := (hm.dxAt ex1).1
    have ne : dx ≠ p := fun z => by rw [z, hp] at q; cases q
    unfold del; rw [if_neg ne]⟩
  refine ⟨hm.sub sb, sb.sub.step, ?_⟩
  simp only [Rep]
  exact ⟨p, vs, rfl, .inl ⟨by unfold del; rw [if_pos rfl], .inl hH⟩, Reps.step sb.sub.step _ _ rs⟩
theorem lc_of {mu : Bool} {elt : E} {t : Tg} {it : Ita} {ifs : List E} {own : List Nat} (hsub : ∀ i ∈ t.slots, i ∈ own) {σ : L2.St} {H : Hp} {Q : VK} (h : tE X.K Y (.lc mu elt t it ifs own) σ H Q) :
    tLc (tIt X.K Y it) (tTg X.K t) (tTs X.K Y ifs) (tE X.K Y elt) own σ H Q := by
  obtain ⟨r, m, Qd, he, q, fin⟩ := h
  simp only [ev] at q
  refine ⟨r, m, _, he, q, fun ds G m1 J H1 q1 hm1 st1 wk p hD => ?_⟩
  have q2 := q1 p (hm1.free hD)
  generalize hT : (fun (d : D) (m2 : Mem) (K : Option D → Mem → Prop) => setT t d (wipeD r own) fun r1 => evT Y ifs r1 m2 fun b m3 => if b = true then ev Y elt r1 m3 fun e m4 => K (some e) m4 else K none m3) = T at q2
  generalize hF : lcEnd mu p Qd = F at q2
  refine ⟨fun i n H => ∃ m acc, lcL G T p (ds.drop i) acc m F ∧ MemOk X.K m H ∧ Step m1 H1 m H ∧ acc.length ≤ i ∧ i ≤ ds.length ∧ n = ds.length - i ∧ H p ≠ none, ⟨ds.length, put m1 p (.lst []), [], by simpa using q2, hm1.newLst hD (by simp [Reps]), Step.newLst hD, Nat.le_refl _, Nat.zero_le _, by omega, by rw [upd_same]; exact fun z => (nomatch z)⟩, fun i n H ⟨m, acc, ql, hm, st, ha, hi, hn, hpn⟩ => ?_⟩
  cases ed : ds.drop i with
  | nil =>
    have el : ds.length = i := by
      have := congrArg List.length ed
      simp at this
      omega
    rw [ed] at ql
    simp only [lcL] at ql
    obtain ⟨g, hp, qf⟩ := ql
    have hstop := wk.st m H g hm st
    rw [el] at hstop
    refine .inl ⟨hstop, ?_⟩
    rw [← hF] at qf
    cases mu with
    | true => exact fin _ _ _ _ qf rep_ref hm (st1.trans st)
    | false =>
      obtain ⟨f1, f2, f3⟩ := freeze hm hp
      exact fin _ _ _ _ qf f3 f1 (st1.trans (st.trans f2))
  | cons d ds' =>
    have hlt : i < ds.length := by
      have := congrArg List.length ed
      simp at this
      omega
    have hd : ds[i]? = some d := by
      have := List.drop_eq_getElem_cons hlt
      rw [ed] at this
      rw [List.getElem?_eq_getElem hlt]
      injection this with h1 h2
      rw [h1]
    have hds : ds' = ds.drop (i + 1) := by
      have := List.drop_eq_getElem_cons hlt
      rw [ed] at this
      injection this
    rw [ed] at ql
    simp only [lcL] at ql
    obtain ⟨g, qt⟩ := ql
    refine .inr ⟨wk.go i d m H hd g hm st, fun H' => ∃ m acc, lcL G T p ds' acc m F ∧ MemOk X.K m H' ∧ Step m1 H1 m H' ∧ acc.length ≤ i + 1 ∧ H' p ≠ none, fun H' ⟨m', acc', z1, z2, z3, z4, z5⟩ => ⟨ds.length - (i + 1), by omega, m', acc', by rw [← hds]; exact z1, z2, z3, z4, by omega, rfl, z5⟩, fun x H' hy => ?_⟩
    obtain ⟨hm', st', rx⟩ := wk.yl i d m H x H' hd g hm st hy
    rw [← hT] at qt
    refine ⟨wipeD r own, m, d, _, (he.step (st1.trans (st.trans st')) hm').wipe own, rx, qt, fun r' σ' qk he' ho => ⟨(ho own hsub).trans (wipe_idem own), r', m, _, he', qk, fun b m3 H3 q3 hm3 s3 => ?_⟩⟩
    cases b with
    | true =>
      rw [if_pos rfl] at q3 ⊢
      refine ⟨r', m3, _, he'.step s3 hm3, q3, fun e m4 y H4 ⟨hp, q4⟩ ry hm4 s4 => ?_⟩
      obtain ⟨vs, hH, rs⟩ := hm4 p _ hp
      have sw := Step.write (o := HO.lst (vs ++ [y])) (c' := .lst (acc ++ [e])) (H := H4) hp
      refine ⟨vs, hH, ?_, put m4 p (.lst (acc ++ [e])), acc ++ [e], by rw [← hT]; exact q4, hm4.writeLst hp (rs.append (by simp only [Reps]; exact ⟨y, [], rfl, ry, rfl⟩)), st.trans (st'.trans (s3.trans (s4.trans sw))), by simp; omega, by rw [upd_same]; exact fun z => (nomatch z)⟩
      rw [rs.length]
      have := wk.len
      omega
    | false =>
      rw [if_neg Bool.false_ne_true] at q3 ⊢
      obtain ⟨hp, q4⟩ := q3
      obtain ⟨vs, hH, rs⟩ := hm3 p _ hp
      exact ⟨m3, acc, by rw [← hT]; exact q4, hm3, st.trans (st'.trans s3), by omega, by rw [hH]; exact fun z => (nomatch z)⟩
theorem r_lc {mu : Bool} {elt : E} {t : Tg} {it : Ita} {ifs : List E} {own : List Nat} {oP : List (Str × Nat)} {elx tgx itx : Expr} {ifx : List Expr} {scope : Scope} (hc : X.calm = true) (hN : X.N.Nodup) (hi : PI X tgx itx (tIt X.K Y it)) (ok : BlkOk X.N X.env.scope scope oP) (ho : oP.map (·.2) = own) (hsub : ∀ i ∈ t.slots, i ∈ own)
    (hg : ∀ (s : Shared) (H : Hp) (C : Addr) (cl : List (Str × Addr)) (fp : List Addr), PG (X.blk s H scope (compEnvC scope cl C X.env) fp) tgx (tTg X.K t)) (ht : ∀ (s : Shared) (H : Hp) (C : Addr) (cl : List (Str × Addr)) (fp : List Addr), PTs (X.blk s H scope (compEnvC scope cl C X.env) fp) ifx (tTs X.K Y ifs))
    (he : ∀ (s : Shared) (H : Hp) (C : Addr) (cl : List (Str × Addr)) (fp : List Addr), PE (X.blk s H scope (compEnvC scope cl C X.env) fp) elx (tE X.K Y elt)) (hs : ∀ x, foldedSetIterable itx X.env x = pure x) :
    PE X (.ListComp elx [⟨tgx, itx, ifx, 0⟩] scope pos) (tE X.K Y (.lc mu elt t it ifs own)) :=
  (pe_lc hc hN hi ok hg ht he hs).imp fun σ H Q _ h => by rw [ho]; exact lc_of hsub h
def notSet : Expr → Bool
  | .Set .. => false
  | _ => true
theorem set_no {itx : Expr} {env : PySem.Env} (h : notSet itx = true) (x : Value) : foldedSetIterable itx env x = pure x := by
  cases itx <;> first
    | rfl
    | cases h
theorem ts_nil : PTs X [] (tTs X.K Y []) := pts_nil.imp fun σ H Q _ ⟨r, m, Qd, he, q, f⟩ => f true m H (by simpa only [evT] using q) he.mem Step.refl
theorem ts_one (h1 : PT X e (tTst X.K Y a)) : PTs X [e] (tTs X.K Y [a]) := (pts_one h1).imp fun σ H Q _ ⟨r, m, Qd, he, q, f⟩ => by
  simp only [evT] at q
  refine ⟨r, m, fun k m1 => if k = true then Qd true m1 else Qd false m1, he, q, fun k m1 H1 q1 hm s => ?_⟩
  cases k with
  | true => exact f true m1 H1 q1 hm s
  | false => exact f false m1 H1 q1 hm s
end
end Og
end
section
set_option maxHeartbeats 4000000
set_option autoImplicit false
/-! Og: statements by data. -/
namespace Og
open PySem PySem.Spec PyProof.Rows L2

def notComp : Expr → Bool
  | .ListComp .. => false | .SetComp .. => false | .DictComp .. => false
  | _ => true
theorem swap_no {e : Expr} {tg : Option Expr} {l : Nat} {env : PySem.Env} (h : notComp e = true) : swapsWith e tg l env = pure false := by
  cases e <;> first
    | rfl
    | cases h
def notName : Expr → Bool
  | .Name .. => false
  | _ => true
theorem swap_tg {e tg : Expr} {l : Nat} {env : PySem.Env} (h : notName tg = true) : swapsWith e (some tg) l env = pure false := by
  cases e <;> first
    | rfl
    | (cases tg <;> first
        | rfl
        | cases h)
/-- the store goes over -/
def swapB (sc : Scope) (scope : Scope) (t : Str) (l1 l2 : Nat) : Bool := decide (sc.kind = .function) && (sc.names.lookup t == some .local) && (l1 == l2) && !(scope.names.any fun (n, k) => n == t && (k == .local || k == .cell))
theorem blockFn {env : PySem.Env} (h : env.scope.kind = .function) : env.blockKind = .function := by
  unfold PySem.Env.blockKind
  rw [h]; rfl
theorem swap_lc {elt : Expr} {gens : List Comprehension} {scope : Scope} {pos tp : Pos} {t : Str} {l : Nat} {env : PySem.Env} (hk : env.scope.kind = .function) :
    swapsWith (.ListComp elt gens scope pos) (some (.Name t tp)) l env = pure (swapB env.scope scope t tp.line pos.line) := by
  unfold swapsWith swapB
  have h1 := blockFn hk
  simp only [h1, hk, decide_true, Bool.true_and]
  first | rfl | (show pure _ = pure _; congr 1)
/-- stores from the right: a pair, a triple of local names on one line -/
def parB (sc : Scope) (xs : List (Str × Pos)) (es : List Expr) : Bool :=
  decide (sc.kind = .function) && xs.all (fun x => sc.names.lookup x.1 == some .local) && (match xs with | x :: r => r.all fun y => y.2.line == x.2.line | [] => false) && decide (xs.map (·.1)).Nodup && es.all notStar && !(es.all (foldedForSure 8)) && !(es.all (constantsAlone 8))
theorem eraseDups_nodup : ∀ {l : List Str}, l.Nodup → l.eraseDups = l
  | [], _ => rfl
  | a :: l, h => by
    rw [List.eraseDups_cons]
    have h' := List.nodup_cons.mp h
    have e : l.filter (fun b => !b == a) = l := List.filter_eq_self.mpr fun b hb => by
      have : b ≠ a := fun z => h'.1 (z ▸ hb)
      simp [this]
    rw [e, eraseDups_nodup h'.2]
theorem any_plain {es : List Expr} (h : es.all notStar = true) (g : Expr → Bool) (hg : ∀ e, notStar e = true → g e = false) : es.any g = false := by
  rw [List.any_eq_false]
  intro e he
  rw [hg e (List.all_eq_true.mp h e he)]
  exact Bool.false_ne_true
theorem names_of {xs : List (Str × Pos)} (g : Expr → Option Str) (h : ∀ x ∈ xs, g (.Name x.1 x.2) = some x.1) : (xs.map fun x => Expr.Name x.1 x.2).filterMap g = xs.map (·.1) := by
  induction xs with
  | nil => rfl
  | cons y r ih =>
    simp only [List.map_cons, List.filterMap_cons]
    rw [h y List.mem_cons_self]
    simp only
    rw [ih fun x hx => h x (List.mem_cons_of_mem _ hx)]
theorem par_look {env : PySem.Env} {xs : List (Str × Pos)} {es : List Expr} {k k2 : Nat} {tp vp : Pos} (hl : xs.length = 2 ∨ xs.length = 3) (hn : es.length = xs.length) (h : parB env.scope xs es = true) :
    swappedStores [.Tuple (xs.map fun x => .Name x.1 x.2) k tp] (.Tuple es k2 vp) env = pure (some (xs.map (·.1))) := by
  unfold parB at h
  simp only [Bool.and_eq_true, decide_eq_true_eq, Bool.not_eq_true'] at h
  obtain ⟨⟨⟨⟨⟨⟨h1, h2⟩, h3⟩, h4⟩, h5⟩, h6⟩, h7⟩ := h
  have hb := blockFn h1
  have line : ∀ x ∈ xs, (x.2.line == (((xs.map fun x => Expr.Name x.1 x.2).head?.map (·.pos.line)).getD 0)) = true := by
    cases xs with
    | nil => intro x hx; cases hx
    | cons y r =>
      intro x hx
      show (x.2.line == y.2.line) = true
      rcases List.mem_cons.mp hx with z | z
      · rw [z]; exact beq_self_eq_true _
      · exact List.all_eq_true.mp h3 x z
  have loc : ∀ x ∈ xs, (env.kindOf x.1 == some .local) = true := fun x hx => List.all_eq_true.mp h2 x hx
  unfold swappedStores
  simp only [List.length_map]
  have c1 : (!(xs.length == 2 || xs.length == 3) || es.length != xs.length || env.blockKind != .function) = false := by
    rw [hb, hn]
    rcases hl with z | z <;> rw [z] <;> rfl
  rw [if_neg (by rw [c1]; exact Bool.false_ne_true), if_neg (by rw [any_plain h5 _ (fun e he => by cases e <;> first | rfl | cases he)]; exact Bool.false_ne_true)]
  rw [names_of _ (fun x hx => by
    show (if (env.kindOf x.1 == some .local && x.2.line == (((xs.map fun x => Expr.Name x.1 x.2).head?.map (·.pos.line)).getD 0)) = true then some x.1 else none) = some x.1
    rw [loc x hx, line x hx]; rfl)]
  rw [if_neg (by simp [eraseDups_nodup h4]), if_neg (by rw [h6]; exact Bool.false_ne_true), if_neg (by rw [h7]; exact Bool.false_ne_true)]

section
variable {X : Cx} {Y : Ctx} {pos : Pos} {e : Expr} {a : E} {st : Stmt} {rest : List Stmt} {s : S} {ss : List S}
theorem s_ret (h : PE X e (tE X.K Y a)) : PS X (.Return (some e) pos) (tS X.K Y (.ret a)) := (ps_ret h).imp fun D σ H _ ⟨r, m, k, he, q, f⟩ => by
  simp only [ex] at q
  exact ⟨r, m, k.rt, he, q, f.rt⟩
theorem s_retN : PS X (.Return none pos) (tS X.K Y .retN) := ps_retN.imp fun D σ H _ ⟨r, m, k, he, q, f⟩ => by
  simp only [ex] at q
  exact f.rt.here he.mem rep_non q
theorem s_asg {tg : Expr} {t : Tg} (h : PE X e (tE X.K Y a)) (hg : PG X tg (tTg X.K t)) (hst : notStarT tg = true) (hs : swapsWith e (some tg) pos.line X.env = pure false) (hw : swappedStores [tg] e X.env = pure none) : PS X (.Assign [tg] e pos) (tS X.K Y (.asg t a)) :=
  (ps_asg h hg hs hw (by rw [assign_no hst]; rfl)).imp fun D σ H _ ⟨r, m, k, he, q, f⟩ => by
    simp only [ex] at q
    exact ⟨r, m, _, he, q, fun d m1 v H1 q1 rv hm s => ⟨r, m1, d, _, he.step s hm, rv, q1, fun r' σ' q' he' _ => f.nx _ _ _ _ q' he' s⟩⟩
theorem s_asgC {i : Nat} {y : Str} {py : Pos} {mu : Bool} {elt : E} {t : Tg} {it : Ita} {ifs : List E} {own : List Nat} {oP : List (Str × Nat)} {elx tgx itx : Expr} {ifx : List Expr} {scope : Scope} {lpos : Pos} (hc : X.calm = true) (hN : X.N.Nodup) (hk : X.env.scope.kind = .function) (hy : X.N[i]? = some y) (hyl : X.env.scope.names.lookup y = some .local)
    (hsw : swapB X.env.scope scope y py.line lpos.line = true) (hi : PI X tgx itx (tIt X.K Y it)) (ok : BlkOk X.N X.env.scope scope oP) (ho : oP.map (·.2) = own) (hsub : ∀ i ∈ t.slots, i ∈ own)
    (hg : ∀ (s : Shared) (H : Hp) (C : Addr) (cl : List (Str × Addr)) (fp : List Addr), PG (X.blk s H scope (compEnvC scope cl C X.env) fp) tgx (tTg X.K t)) (ht : ∀ (s : Shared) (H : Hp) (C : Addr) (cl : List (Str × Addr)) (fp : List Addr), PTs (X.blk s H scope (compEnvC scope cl C X.env) fp) ifx (tTs X.K Y ifs))
    (he : ∀ (s : Shared) (H : Hp) (C : Addr) (cl : List (Str × Addr)) (fp : List Addr), PE (X.blk s H scope (compEnvC scope cl C X.env) fp) elx (tE X.K Y elt)) (hs : ∀ x, foldedSetIterable itx X.env x = pure x) :
    PS X (.Assign [.Name y py] (.ListComp elx [⟨tgx, itx, ifx, 0⟩] scope lpos) pos) (tS X.K Y (.asgC i (.lc mu elt t it ifs own))) :=
  (ps_setLc hc hN hy hyl (by rw [swap_lc hk, hsw]) hi ok hg ht he hs).imp fun D σ H _ ⟨r, m, k, he, q, f⟩ => by
    simp only [ex] at q
    rw [ho]
    exact lc_of hsub ⟨r, m, _, he, q, fun d m1 v H1 q1 rv hm s => f.nx _ _ _ _ q1 ((he.step s hm).set i rv) s⟩
theorem s_par2 {i j : Nat} {x y : Str} {b1 b2 : Expr} {cs : List E} {px py pt pt2 : Pos} {kt k2 : Nat} (hc : X.calm = true) (hN : X.N.Nodup) (hi : X.N[i]? = some x) (hj : X.N[j]? = some y) (hb : parB X.env.scope [(x, px), (y, py)] [b1, b2] = true) (ha : PA X [b1, b2] (tAs X.K Y cs)) :
    PS X (.Assign [.Tuple [.Name x px, .Name y py] kt pt] (.Tuple [b1, b2] k2 pt2) pos) (tS X.K Y (.par [i, j] cs)) := by
  have hw : swappedStores [.Tuple [.Name x px, .Name y py] kt pt] (.Tuple [b1, b2] k2 pt2) X.env = pure (some [x, y]) := par_look (xs := [(x, px), (y, py)]) (.inl rfl) rfl hb
  unfold parB at hb
  simp only [Bool.and_eq_true, decide_eq_true_eq, List.all_cons, List.all_nil, beq_iff_eq] at hb
  obtain ⟨⟨⟨⟨⟨⟨h1, h2⟩, h3⟩, h4⟩, h5⟩, h6⟩, h7⟩ := hb
  have ne : x ≠ y := by simpa using h4
  have hij : i ≠ j := fun z => ne (by rw [z, hj] at hi; exact (Option.some.inj hi).symm)
  refine (ps_par hc hN hi hj hij h2.1 h2.2.1 ha hw rfl).imp fun D σ H _ ⟨r, m, k, he, q, f⟩ => ?_
  simp only [ex] at q
  refine ⟨r, m, _, he, q, fun ds m1 vs H1 ⟨hl, q1⟩ rs hm s => ?_⟩
  match ds, hl, q1, rs with
  | [d1, d2], _, q1, rs =>
    simp only [Reps] at rs
    obtain ⟨v, r1, rfl, rv, w, r2, rfl, rw', rfl⟩ := rs
    exact ⟨v, w, rfl, f.nx _ _ _ _ q1 (((he.step s hm).set i rv).set j rw') s⟩
theorem s_par3 {i j l : Nat} {x y z : Str} {b1 b2 b3 : Expr} {cs : List E} {px py pz pt pt2 : Pos} {kt k2 : Nat} (hc : X.calm = true) (hN : X.N.Nodup) (hi : X.N[i]? = some x) (hj : X.N[j]? = some y) (hl : X.N[l]? = some z) (hb : parB X.env.scope [(x, px), (y, py), (z, pz)] [b1, b2, b3] = true) (ha : PA X [b1, b2, b3] (tAs X.K Y cs)) :
    PS X (.Assign [.Tuple [.Name x px, .Name y py, .Name z pz] kt pt] (.Tuple [b1, b2, b3] k2 pt2) pos) (tS X.K Y (.par [i, j, l] cs)) := by
  have hw : swappedStores [.Tuple [.Name x px, .Name y py, .Name z pz] kt pt] (.Tuple [b1, b2, b3] k2 pt2) X.env = pure (some [x, y, z]) := par_look (xs := [(x, px), (y, py), (z, pz)]) (.inr rfl) rfl hb
  unfold parB at hb
  simp only [Bool.and_eq_true, decide_eq_true_eq, List.all_cons, List.all_nil, beq_iff_eq] at hb
  obtain ⟨⟨⟨⟨⟨⟨h1, h2⟩, h3⟩, h4⟩, h5⟩, h6⟩, h7⟩ := hb
  have ne : (x ≠ y ∧ x ≠ z) ∧ y ≠ z := by simpa using h4
  have hij : i ≠ j := fun e => ne.1.1 (by rw [e, hj] at hi; exact (Option.some.inj hi).symm)
  have hil : i ≠ l := fun e => ne.1.2 (by rw [e, hl] at hi; exact (Option.some.inj hi).symm)
  have hjl : j ≠ l := fun e => ne.2 (by rw [e, hl] at hj; exact (Option.some.inj hj).symm)
  refine (ps_par3 hc hN hi hj hl hij hil hjl h2.1 h2.2.1 h2.2.2.1 ha hw rfl).imp fun D σ H _ ⟨r, m, k, he, q, f⟩ => ?_
  simp only [ex] at q
  refine ⟨r, m, _, he, q, fun ds m1 vs H1 ⟨hl, q1⟩ rs hm s => ?_⟩
  match ds, hl, q1, rs with
  | [d1, d2, d3], _, q1, rs =>
    simp only [Reps] at rs
    obtain ⟨v, r1, rfl, rv, w, r2, rfl, rw', u, r3, rfl, ru, rfl⟩ := rs
    exact ⟨v, w, u, rfl, f.nx _ _ _ _ q1 ((((he.step s hm).set i rv).set j rw').set l ru) s⟩
theorem s_setIx {o ix : Expr} {b c : E} {tp : Pos} (h : PE X e (tE X.K Y c)) (ho : PE X o (tE X.K Y a)) (hi : PE X ix (tE X.K Y b)) (hns : notSlice ix = true) : PS X (.Assign [.Subscript o ix tp] e pos) (tS X.K Y (.setIx a b c)) := by
  have hw : swappedStores [.Subscript o ix tp] e X.env = pure none := by cases e <;> rfl
  have hsw : swapsWith e (some (.Subscript o ix tp)) pos.line X.env = pure false := swap_tg rfl
  refine (ps_asg h (pg_sub ho hi set_list (by intro v; cases ix <;> first | rfl | cases hns)) hsw hw rfl).imp fun D σ H _ ⟨r, m, k, he, q, f⟩ => ?_
  simp only [ex] at q
  refine ⟨r, m, _, he, q, fun d m1 v H1 q1 rv hm s => ⟨r, m1, _, he.step s hm, q1, fun d2 m2 w H2 q2 rw' hm2 s2 => ⟨r, m2, _, he.step (s.trans s2) hm2, q2, fun d3 m3 u H3 ⟨p, ds, kk, j, e1, e2, hp, hix, q3⟩ ru hm3 s3 => ?_⟩⟩⟩
  subst e1 e2
  obtain ⟨vs, hH, rs⟩ := hm3 p _ hp
  have rw3 := (Rep.step s3 _ _ rw').ref
  refine ⟨p, vs, kk, j, rw3, ru.int, hH, by rw [rs.length]; exact hix, ?_⟩
  have sw := Step.write (o := HO.lst (vs.set j v)) (c' := .lst (ds.set j d)) (H := H3) hp
  have hm4 := hm3.writeLst hp (rs.set j (Rep.step (s2.trans s3) _ _ rv))
  exact f.nx _ _ _ _ q3 (he.step (s.trans (s2.trans (s3.trans sw))) hm4) (s.trans (s2.trans (s3.trans sw)))
/-! dicts written -/
theorem put_zip {κ : Type} [DecidableEq κ] : ∀ (ks : List κ) (vs : List V) (k : κ) (v : V), ks.length = vs.length → putK (ks.zip vs) k v = (putKs ks k).zip (putDs ks vs k v) := by
  intro ks vs k v hl
  have ha : ((ks.zip vs).any fun kv => decide (kv.1 = k)) = decide (k ∈ ks) := by
    induction ks generalizing vs with
    | nil => simp
    | cons a r ih =>
      match vs, hl with
      | w :: ws, hl =>
        simp only [List.zip_cons_cons, List.any_cons, ih ws (by simpa using hl), List.mem_cons]
        by_cases e : a = k
        · simp [e]
        · have e' : k ≠ a := fun z => e z.symm
          simp [e, e']
  unfold putK putKs putDs
  rw [ha]
  by_cases hk : k ∈ ks
  · rw [if_pos (by simpa using hk), if_pos hk, if_pos hk]
    clear ha hk
    induction ks generalizing vs with
    | nil => simp
    | cons a r ih =>
      match vs, hl with
      | w :: ws, hl =>
        simp only [List.zip_cons_cons, List.map_cons, ih ws (by simpa using hl)]
        by_cases e : a = k
        · simp [e]
        · simp [e]
  · rw [if_neg (by simpa using hk), if_neg hk, if_neg hk, List.zip_append hl]; rfl
theorem put_len {κ α : Type} [DecidableEq κ] {ks : List κ} {vs : List α} {k : κ} {v : α} (hl : ks.length = vs.length) : (putKs ks k).length = (putDs ks vs k v).length := by
  unfold putKs putDs
  by_cases hk : k ∈ ks
  · rw [if_pos hk, if_pos hk]; simp [hl]
  · rw [if_neg hk, if_neg hk]; simp [hl]
theorem put_reps {κ : Type} [DecidableEq κ] {K : PySem.W.Frag} {m : Mem} {H : Hp} {ks : List κ} {vs : List V} {ds : List D} {k : κ} {v : V} {d : D} (hl : ks.length = vs.length) (rs : Reps K m H vs ds) (r : Rep K m H v d) : Reps K m H (putDs ks vs k v) (putDs ks ds k d) := by
  unfold putDs
  by_cases hk : k ∈ ks
  · rw [if_pos hk, if_pos hk]
    clear hk
    induction ks generalizing vs ds with
    | nil => simp [Reps]
    | cons a t ih =>
      match vs, ds, hl, rs with
      | w :: ws, [], _, rs => simp [Reps] at rs
      | w :: ws, e :: es, hl, rs =>
        simp only [Reps] at rs
        obtain ⟨w', ws', eq, r1, r2⟩ := rs
        cases eq
        simp only [List.zip_cons_cons, List.map_cons, Reps]
        refine ⟨_, _, rfl, ?_, ih (by simpa using hl) r2⟩
        by_cases e : a = k
        · rw [if_pos e, if_pos e]; exact r
        · rw [if_neg e, if_neg e]; exact r1
  · rw [if_neg hk, if_neg hk]
    exact rs.append (by simp only [Reps]; exact ⟨_, _, rfl, r, rfl⟩)
/-- what o[i] = v leaves -/
def SetTo (H : Hp) (o i v : V) (H' : Hp) : Prop := (∃ p vs kk j, o = .ref p ∧ i = .int kk ∧ H p = some (.lst vs) ∧ ixN vs.length kk = some j ∧ H' = L2.upd H p (.lst (vs.set j v))) ∨ ∃ a, o = .ref a ∧ DPut H a i v H'
def rSetTo : TSet := fun o i v H Q => ∃ H', SetTo H o i v H' ∧ Q H'
theorem set_to (hu : X.A.units + 64 < cLine) : PSet X rSetTo := by
  intro pins s σ H o i v ov iv u Q I ro ri rv h
  obtain ⟨H', z, q⟩ := h
  rcases z with ⟨p, vs, kk, j, e1, e2, e3, e4, rfl⟩ | ⟨a, e1, g⟩
  · exact set_list pins s σ H o i v ov iv u Q I ro ri rv ⟨p, vs, kk, j, e1, e2, e3, e4, q⟩
  · exact set_dict (by omega) pins s σ H o i v ov iv u Q I ro ri rv ⟨a, H', e1, g, q⟩
theorem setK_ok {K : PySem.W.Frag} {m : Mem} {H : Hp} {p : Addr} {ks : List Key} {ds : List D} {k : Key} {d : D} {v : V} (hm : MemOk K m H) (hp : m p = some (.dK ks ds)) (hz : ks.length ≤ 1000000) (rd : Rep K m H v d) :
    ∃ H', DPut H p (kV k) v H' ∧ MemOk K (put m p (.dK (putKs ks k) (putDs ks ds k d))) H' ∧ Step m H (put m p (.dK (putKs ks k) (putDs ks ds k d))) H' := by
  obtain ⟨vs, hH, hl, rs⟩ := hm p _ hp
  have s : Step m H (put m p (.dK (putKs ks k) (putDs ks ds k d))) (L2.upd H p (.dK (putK (ks.zip vs) k v))) := Step.write hp
  refine ⟨_, DPut.k hH (by have : sizeLine = 0 + sizeLine := by omega
                           unfold sizeLine; simp only [List.length_zip]; omega), hm.writeC hp (fun b z => by cases z) ⟨putDs ks vs k v, ?_, put_len hl, put_reps hl (Reps.step s _ _ rs) (Rep.step s _ _ rd)⟩, s⟩
  rw [upd_same, put_zip _ _ _ _ hl]
theorem stL_ok {K : PySem.W.Frag} {m : Mem} {H : Hp} {x z d : D} {v w u : V} {Qm : Mem → Prop} (hm : MemOk K m H) (rx : Rep K m H w x) (rz : Rep K m H u z) (rd : Rep K m H v d) (h : stL x z d m Qm) :
    ∃ m' H', SetTo H w u v H' ∧ Qm m' ∧ MemOk K m' H' ∧ Step m H m' H' := by
  unfold stL at h
  split at h
  · obtain ⟨p, ks, ds, rfl, hp, hz, q⟩ := h
    obtain ⟨H', g, h1, h2⟩ := setK_ok (k := .inr _) hm hp hz rd
    exact ⟨_, H', .inr ⟨p, rx.ref, by rw [keyD_rep (k := .inr _) rz]; exact g⟩, q, h1, h2⟩
  · obtain ⟨p, ds, kk, j, rfl, rfl, hp, hix, q⟩ := h
    obtain ⟨vs, hH, rs⟩ := hm p _ hp
    exact ⟨_, _, .inl ⟨p, vs, kk, j, rx.ref, rz.int, hH, by rw [rs.length]; exact hix, rfl⟩, q, hm.writeLst hp (rs.set j rd), Step.write hp⟩
/-- a[i], b[j] = e -/
theorem s_setIx2 {o1 i1 o2 i2 : Expr} {b c d e2 : E} {t1 t2 tp : Pos} {kt : Nat} (hu : X.A.units + 64 < cLine) (hc : X.calm = true) (h : PE X e (tE X.K Y e2)) (ho1 : PE X o1 (tE X.K Y a)) (hi1 : PE X i1 (tE X.K Y b)) (ho2 : PE X o2 (tE X.K Y c)) (hi2 : PE X i2 (tE X.K Y d)) (hs : notComp e = true) (n1 : notSlice i1 = true) (n2 : notSlice i2 = true)
    (hw : swappedStores [.Tuple [.Subscript o1 i1 t1, .Subscript o2 i2 t2] kt tp] e X.env = pure none) : PS X (.Assign [.Tuple [.Subscript o1 i1 t1, .Subscript o2 i2 t2] kt tp] e pos) (tS X.K Y (.setIx2 a b c d e2)) := by
  have g1 := pg_sub (pos := t1) ho1 hi1 (set_to hu) (by intro v; cases i1 <;> first | rfl | cases n1)
  have g2 := pg_sub (pos := t2) ho2 hi2 (set_to hu) (by intro v; cases i2 <;> first | rfl | cases n2)
  have hsw : swapsWith e (some (.Tuple [.Subscript o1 i1 t1, .Subscript o2 i2 t2] kt tp)) pos.line X.env = pure false := swap_no hs
  refine (ps_asg h (pg_tup (n := 2) hc (pgs_cons g1 (pgs_cons g2 pgs_nil rfl) rfl) rfl rfl) hsw hw rfl).imp fun Dk σ H _ ⟨r, m, k, he, q, f⟩ => ?_
  simp only [ex] at q
  refine ⟨r, m, _, he, q, fun y m1 v H1 ⟨d1, d2, ey, q1⟩ rv hm1 s1 => ?_⟩
  subst ey
  obtain ⟨ad, xs, ev, hq, rs⟩ := rv.tup
  simp only [Reps] at rs
  obtain ⟨v1, r1, rfl, p1, v2, r2, rfl, p2, rfl⟩ := rs
  refine ⟨ad, _, ev, hq.sq, rfl, v1, _, rfl, r, m1, _, he.step s1 hm1, q1, fun x m2 w H2 q2 rx hm2 s2 => ⟨r, m2, _, he.step (s1.trans s2) hm2, q2, fun z m3 u H3 q3 rz hm3 s3 => ?_⟩⟩
  obtain ⟨m4, H4, e1, q4, hm4, s4⟩ := stL_ok hm3 (Rep.step s3 _ _ rx) rz (Rep.step (s2.trans s3) _ _ p1) q3
  refine ⟨H4, e1, v2, _, rfl, r, m4, _, he.step (s1.trans (s2.trans (s3.trans s4))) hm4, q4, fun x2 m5 w5 H5 q5 rx5 hm5 s5 => ⟨r, m5, _, he.step (s1.trans (s2.trans (s3.trans (s4.trans s5)))) hm5, q5, fun z6 m6 u6 H6 q6 rz6 hm6 s6 => ?_⟩⟩
  obtain ⟨m7, H7, e7, q7, hm7, s7⟩ := stL_ok hm6 (Rep.step s6 _ _ rx5) rz6 (Rep.step (s2.trans (s3.trans (s4.trans (s5.trans s6)))) _ _ p2) q6
  have all := s1.trans (s2.trans (s3.trans (s4.trans (s5.trans (s6.trans s7)))))
  exact ⟨H7, e7, rfl, f.nx _ _ _ _ q7 (he.step all hm7) all⟩
theorem s_setAt {o : Expr} {c : E} {cl i : Nat} {x : Str} {pd : Addr} {tp : Pos} (kc : SlX.SCls X.K (Y.cls cl)) (kt : SlX.Slot1 X.K (Y.cls cl) x pd i) (h : PE X e (tE X.K Y c)) (ho : PE X o (tE X.K Y a)) : PS X (.Assign [.Attribute o x tp] e pos) (tS X.K Y (.setAt a cl i c)) := by
  refine (SlX.ps_sl ho h (swap_tg rfl)).imp fun D σ H _ ⟨r, m, k, he, q, f⟩ => ?_
  simp only [ex] at q
  refine ⟨r, m, _, he, q, fun d m1 v H1 q1 rv hm s => ⟨r, m1, _, he.step s hm, q1, fun d2 m2 w H2 ⟨p, dx, fs, e1, hp, q2⟩ rw' hm2 s2 => ?_⟩⟩
  subst e1
  obtain ⟨vs, hs, rs⟩ := obj_val hm2 hp
  have sw := Step.writeObj (vs := SlX.putS i v vs) (c' := .obj (Y.cls cl) dx (putF i d fs)) (H := H2) hp (hm2.dxAt hp).1
  have hm3 := hm2.writeObj hp (rs.put i (Rep.step s2 _ _ rv))
  exact ⟨p, _, dx, pd, vs, i, rw'.ref, hs, kc, kt, f.nx _ _ _ _ q2 (he.step (s.trans (s2.trans sw)) hm3) (s.trans (s2.trans sw))⟩
theorem s_ex (hs : notComp e = true) (h : PE X e (tE X.K Y a)) : PS X (.Expr e pos) (tS X.K Y (.ex a)) := (ps_expr h (swap_no hs)).imp fun D σ H _ ⟨r, m, k, he, q, f⟩ => by
  simp only [ex] at q
  exact ⟨r, m, _, he, q, fun d m1 v H1 q1 rv hm s => f.nx _ _ _ _ q1 (he.step s hm) s⟩
theorem s_pass : PS X (.Pass pos) (tS X.K Y .pass) := ps_pass.imp fun D σ H _ ⟨r, m, k, he, q, f⟩ => by
  simp only [ex] at q
  exact f.nx _ _ _ _ q he Step.refl
theorem s_brk : PS X (.Break pos) (tS X.K Y .brk) := ps_break.imp fun D σ H _ ⟨r, m, k, he, q, f⟩ => by
  simp only [ex] at q
  exact f.bk _ _ _ _ q he Step.refl
theorem s_cnt : PS X (.Continue pos) (tS X.K Y .cnt) := ps_continue.imp fun D σ H _ ⟨r, m, k, he, q, f⟩ => by
  simp only [ex] at q
  exact f.ct _ _ _ _ q he Step.refl
theorem s_never : PS X st (tS X.K Y .never) := ps_never.imp fun D σ H _ ⟨r, m, k, he, q, f⟩ => by
  simp only [ex] at q
theorem ss_nil : PSs X [] (tSs X.K Y []) := pss_nil.imp fun D σ H _ ⟨r, m, k, he, q, f⟩ => by
  simp only [exs] at q
  exact f.nx _ _ _ _ q he Step.refl
theorem ss_cons (h1 : PS X st (tS X.K Y s)) (h2 : PSs X rest (tSs X.K Y ss)) : PSs X (st :: rest) (tSs X.K Y (s :: ss)) := (pss_cons h1 h2).imp fun D σ H _ ⟨r, m, k, he, q, f⟩ => by
  simp only [exs] at q
  exact ⟨r, m, _, he, q, ⟨fun r' m' σ' H' q' he' s' => ⟨r', m', k, he', q', f.mono s'⟩, f.bk, f.ct, f.rt⟩⟩
theorem s_ite {c : Expr} {cc : E} {b1 b2 : List Stmt} {c1 c2 : List S} (hc : PT X c (tTst X.K Y cc)) (h1 : PSs X b1 (tSs X.K Y c1)) (h2 : PSs X b2 (tSs X.K Y c2)) : PS X (.If c b1 b2 pos) (tS X.K Y (.ite cc c1 c2)) := (ps_if hc h1 h2).imp fun D σ H _ ⟨r, m, k, he, q, f⟩ => by
  simp only [ex] at q
  refine ⟨r, m, _, he, q, fun b m1 H1 q1 hm s => ?_⟩
  cases b with
  | true => exact ⟨r, m1, k, he.step s hm, q1, f.mono s⟩
  | false => exact ⟨r, m1, k, he.step s hm, q1, f.mono s⟩
theorem s_while {c : Expr} {cc : E} {b1 : List Stmt} {c1 : List S} (hp : PassesOwn (model X.prog X.w) X.A X.env X.xe) (hc : PT X c (tTst X.K Y cc)) (h1 : PSs X b1 (tSs X.K Y c1)) : PS X (.While c b1 [] pos) (tS X.K Y (.while_ cc c1)) := (ps_while hp hc h1).imp fun D σ H _ ⟨r, m, k, he, q, f⟩ => by
  simp only [ex] at q
  obtain ⟨n, q⟩ := q
  refine ⟨fun n σ' H' => ∃ r' m', REnv X.K r' m' σ' H' ∧ whL (fun r m Q => evB Y cc r m Q) (fun r m K => exs Y c1 r m K) n r' m' k ∧ Step m H m' H', ⟨n, r, m, he, q, Step.refl⟩, fun n σ1 H1 ⟨r1, m1, he1, q1, st⟩ => ?_⟩
  cases n with
  | zero => exact q1.elim
  | succ n =>
    simp only [whL] at q1
    refine ⟨r1, m1, _, he1, q1, fun b m2 H2 q2 hm2 s2 => ?_⟩
    cases b with
    | true =>
      refine ⟨fun σ' H' => ∃ r' m', REnv X.K r' m' σ' H' ∧ whL (fun r m Q => evB Y cc r m Q) (fun r m K => exs Y c1 r m K) n r' m' k ∧ Step m H m' H', fun σ' H' z => ⟨n, Nat.lt_succ_self _, z⟩, r1, m2, _, he1.step s2 hm2, q2, ?_⟩
      have s3 := st.trans s2
      exact ⟨fun r' m' σ' H' q' he' s' => ⟨r', m', he', q', s3.trans s'⟩, fun r' m' σ' H' q' he' s' => f.nx _ _ _ _ q' he' (s3.trans s'), fun r' m' σ' H' q' he' s' => ⟨r', m', he', q', s3.trans s'⟩, f.rt.mono s3⟩
    | false => exact f.nx _ _ _ _ q2 (he1.step s2 hm2) (st.trans s2)
theorem s_for {tg it : Expr} {t : Tg} {ic : Ita} {b1 : List Stmt} {c1 : List S} (hp : PassesOwn (model X.prog X.w) X.A X.env X.xe) (hc : X.calm = true) (hi : PI X tg it (tIt X.K Y ic)) (hg : PG X tg (tTg X.K t)) (h1 : PSs X b1 (tSs X.K Y c1)) (hs : notSet it = true) : PS X (.For tg it b1 [] pos) (tS X.K Y (.for_ t ic c1)) :=
  (ps_for hp hc hi hg h1 (set_no hs)).imp fun Dk σ H _ ⟨r, m, k, he, q, f⟩ => by
    simp only [ex] at q
    refine ⟨r, m, _, he, q, fun ds G m1 J H1 q1 hm1 st1 wk => ?_⟩
    generalize hT : (fun (d : Og.D) (r : Rho) (m : Mem) (K : Kt) => setT t d r fun r1 => exs Y c1 r1 m K) = T at q1
    refine ⟨fun i n σ' H' => ∃ r' m', REnv X.K r' m' σ' H' ∧ forL G T (ds.drop i) r' m' k ∧ Step m1 H1 m' H' ∧ i ≤ ds.length ∧ n = ds.length - i, ⟨ds.length, r, m1, he.step st1 hm1, by simpa using q1, Step.refl, Nat.zero_le _, by omega⟩, fun i n σ' H' ⟨r', m', he', q', st', hi', hn⟩ => ?_⟩
    cases ed : ds.drop i with
    | nil =>
      have el : ds.length = i := by
        have := congrArg List.length ed
        simp at this
        omega
      rw [ed] at q'
      simp only [forL] at q'
      have hstop := wk.st m' H' q'.1 he'.mem st'
      rw [el] at hstop
      exact .inl ⟨hstop, f.nx _ _ _ _ q'.2 he' (st1.trans st')⟩
    | cons d ds' =>
      have hlt : i < ds.length := by
        have := congrArg List.length ed
        simp at this
        omega
      have hd : ds[i]? = some d := by
        have := List.drop_eq_getElem_cons hlt
        rw [ed] at this
        rw [List.getElem?_eq_getElem hlt]
        injection this with h1 h2
        rw [h1]
      have hds : ds' = ds.drop (i + 1) := by
        have := List.drop_eq_getElem_cons hlt
        rw [ed] at this
        injection this
      rw [ed] at q'
      simp only [forL] at q'
      obtain ⟨g, qt⟩ := q'
      refine .inr ⟨wk.go i d m' H' hd g he'.mem st', fun σ2 H2 => ∃ r2 m2, REnv X.K r2 m2 σ2 H2 ∧ forL G T ds' r2 m2 k ∧ Step m1 H1 m2 H2, fun σ2 H2 ⟨r2, m2, z1, z2, z3⟩ => ⟨ds.length - (i + 1), by omega, r2, m2, z1, by rw [← hds]; exact z2, z3, by omega, rfl⟩, fun x H2 hy => ?_⟩
      obtain ⟨hm2, st2, rx⟩ := wk.yl i d m' H' x H2 hd g he'.mem st' hy
      have s2 := st1.trans (st'.trans st2)
      rw [← hT] at qt
      refine ⟨r', m', d, _, he'.step st2 hm2, rx, qt, fun r3 σ3 q3 he3 _ => ⟨r3, m', _, he3, q3, ?_⟩⟩
      have go : ∀ r4 m4 σ4 H4, forL G (fun (d : Og.D) (r : Rho) (m : Mem) (K : Kt) => setT t d r fun r1 => exs Y c1 r1 m K) ds' r4 m4 k → REnv X.K r4 m4 σ4 H4 → Step m' H2 m4 H4 → ∃ r2 m2, REnv X.K r2 m2 σ4 H4 ∧ forL G T ds' r2 m2 k ∧ Step m1 H1 m2 H4 := fun r4 m4 σ4 H4 q4 he4 s4 => ⟨r4, m4, he4, by rw [← hT]; exact q4, st'.trans (st2.trans s4)⟩
      exact ⟨go, fun r4 m4 σ4 H4 q4 he4 s4 => f.nx _ _ _ _ q4 he4 (s2.trans s4), go, f.rt.mono s2⟩
end
end Og
end
section
set_option maxHeartbeats 4000000
set_option autoImplicit false
/-! Og: dicts by data. -/
namespace Og
open PySem PySem.Spec PyProof.Rows L2

/-- a cell taken for good -/
theorem thaw_ok {K : PySem.W.Frag} {m : Mem} {H : Hp} {p : Addr} {c : Cell} {d : D} (hm : MemOk K m H) (hp : m p = some c) (ht : thawC c = some d) : MemOk K (del m p) H ∧ Step m H (del m p) H ∧ Rep K (del m p) H (.ref p) d := by
  have nh : ∀ b, c ≠ .hid b := fun b z => by subst z; simp [thawC] at ht
  have sb : SubO (del m p) m := ⟨Sub.del, fun x C dx fs ex => by
    have ex1 := Sub.del x _ ex
    have q := (hm.dxAt ex1).1
    have ne : dx ≠ p := fun z => by rw [z, hp] at q; exact nh _ (Option.some.inj q)
    unfold del; rw [if_neg ne]⟩
  have e0 : del m p p = none := by unfold del; rw [if_pos rfl]
  have st := sb.sub.step (H := H)
  refine ⟨hm.sub sb, st, ?_⟩
  have hc := hm p _ hp
  cases c with
  | lst ds =>
    cases ht
    obtain ⟨vs, hH, rs⟩ := hc
    simp only [Rep]
    exact ⟨p, vs, rfl, .inl ⟨e0, .inl hH⟩, Reps.step st _ _ rs⟩
  | dK ks ds =>
    cases ht
    obtain ⟨vs, hH, hl, rs⟩ := hc
    simp only [Rep]
    exact ⟨p, vs, rfl, e0, hH, hl, Reps.step st _ _ rs⟩
  | dT ks ds =>
    cases ht
    obtain ⟨vs, hH, hl, rs⟩ := hc
    simp only [Rep]
    exact ⟨p, vs, rfl, e0, hH, hl, Reps.step st _ _ rs⟩
  | ins C ns ds =>
    cases ht
    obtain ⟨dx, vs, hH, hl, rs⟩ := hc
    simp only [Rep]
    exact ⟨p, dx, vs, rfl, e0, hH, hl, Reps.step st _ _ rs⟩
  | obj C dx fs => simp [thawC] at ht
  | hid b => simp [thawC] at ht
/-- the cells of some values taken for good -/
theorem frzs_ok {K : PySem.W.Frag} {H : Hp} : ∀ {ds es : List D} {vs : List V} {m m' : Mem}, MemOk K m H → Reps K m H vs ds → frzs m ds es m' → MemOk K m' H ∧ Step m H m' H ∧ Reps K m' H vs es
  | [], es, vs, m, m', hm, rs, h => by
    obtain ⟨rfl, rfl⟩ := h
    exact ⟨hm, Step.refl, rs⟩
  | d :: ds, es, vs, m, m', hm, rs, h => by
    obtain ⟨e, es', rfl, h⟩ := h
    simp only [Reps] at rs
    obtain ⟨v, r, rfl, r1, r2⟩ := rs
    rcases h with ⟨rfl, h⟩ | ⟨q, c, rfl, hq, ht, h⟩
    · obtain ⟨z1, z2, z3⟩ := frzs_ok hm r2 h
      refine ⟨z1, z2, ?_⟩
      simp only [Reps]
      exact ⟨v, r, rfl, Rep.step z2 _ _ r1, z3⟩
    · obtain ⟨y1, y2, y3⟩ := thaw_ok hm hq ht
      obtain ⟨z1, z2, z3⟩ := frzs_ok y1 (Reps.step y2 _ _ r2) h
      refine ⟨z1, y2.trans z2, ?_⟩
      simp only [Reps]
      rw [r1.ref]
      exact ⟨_, r, rfl, Rep.step z2 _ _ y3, z3⟩

/-! the new dicts -/
theorem mergeK_zip : ∀ (ks : List Key) (vs : List V) (acc : List (Key × V)), ks.length = vs.length → ks.Nodup → (∀ k ∈ ks, k ∉ acc.map (·.1)) → mergeK acc (ks.zip vs) = acc ++ ks.zip vs
  | [], vs, acc, _, _, _ => by simp [mergeK]
  | k :: ks, v :: vs, acc, hl, hn, hd => by
    have hn' := List.nodup_cons.mp hn
    have e : putK acc k v = acc ++ [(k, v)] := by
      unfold putK
      rw [if_neg]
      intro z
      rw [List.any_eq_true] at z
      obtain ⟨y, hy, hz⟩ := z
      exact hd k List.mem_cons_self (List.mem_map.mpr ⟨y, hy, of_decide_eq_true hz⟩)
    show mergeK (putK acc k v) (ks.zip vs) = acc ++ (k, v) :: ks.zip vs
    rw [e, mergeK_zip ks vs _ (by simpa using hl) hn'.2 fun j hj z => ?_, List.append_assoc]; rfl
    rw [List.map_append, List.mem_append] at z
    rcases z with z | z
    · exact hd j (List.mem_cons_of_mem _ hj) z
    · simp at z
      exact hn'.1 (z ▸ hj)
  | _ :: _, [], _, hl, _, _ => by cases hl
theorem Fin.dK {K : PySem.W.Frag} {m : Mem} {H : Hp} {Q : KD} {Q' : VK} {mu : Bool} {ks : List Key} {vs : List V} {ds : List D} (f : Fin K m H Q Q') (hm : MemOk K m H) (hl : ks.length = vs.length) (r : Reps K m H vs ds) (q : newDK mu ks ds m Q) : ∀ p, H p = none → Q' (.ref p) (L2.upd H p (.dK (ks.zip vs))) := fun p hp => by
  cases mu with
  | true =>
    have s : Step m H (put m p (.dK ks ds)) (L2.upd H p (.dK (ks.zip vs))) := Step.newLst hp
    exact f _ _ _ _ (q p (hm.free hp)) rep_ref (hm.newC hp ⟨vs, upd_same, hl, Reps.step s _ _ r⟩) s
  | false =>
    refine f _ m _ _ q ?_ (hm.fresh hp) (Step.fresh hp)
    simp only [Rep]
    exact ⟨p, vs, rfl, hm.free hp, upd_same, hl, Reps.step (Step.fresh hp) _ _ r⟩
theorem Fin.dT {K : PySem.W.Frag} {m : Mem} {H : Hp} {Q : KD} {Q' : VK} {mu : Bool} {ks : List (List Key)} {vs : List V} {ds : List D} (f : Fin K m H Q Q') (hm : MemOk K m H) (hl : ks.length = vs.length) (r : Reps K m H vs ds) (q : newDT mu ks ds m Q) : ∀ p, H p = none → Q' (.ref p) (L2.upd H p (.dT (ks.zip vs))) := fun p hp => by
  cases mu with
  | true =>
    have s : Step m H (put m p (.dT ks ds)) (L2.upd H p (.dT (ks.zip vs))) := Step.newLst hp
    exact f _ _ _ _ (q p (hm.free hp)) rep_ref (hm.newC hp ⟨vs, upd_same, hl, Reps.step s _ _ r⟩) s
  | false =>
    refine f _ m _ _ q ?_ (hm.fresh hp) (Step.fresh hp)
    simp only [Rep]
    exact ⟨p, vs, rfl, hm.free hp, upd_same, hl, Reps.step (Step.fresh hp) _ _ r⟩
section
variable {X : Cx} {Y : Ctx} {e e2 e3 : Expr} {a b c : E} {p pos apos : Pos}
theorem r_thaw (ha : PE X e (tE X.K Y a)) : PE X e (tE X.K Y (.thaw a)) := ha.imp fun σ H Q _ ⟨r, m, Qd, he, q, f⟩ => by
  simp only [ev] at q
  refine ⟨r, m, _, he, q, fun d m1 v H1 ⟨p, c, d', ed, hp, ht, q1⟩ rv hm s => ?_⟩
  subst ed
  obtain ⟨h1, h2, h3⟩ := thaw_ok hm hp ht
  rw [rv.ref]
  exact f _ _ _ _ q1 h3 h1 (s.trans h2)

/-! displays -/
def keyB : Expr → Key → Bool
  | .Constant (.str x) _ _, .inr y => decide (x = y)
  | .Constant (.int i) _ _, .inl j => decide (i = j)
  | _, _ => false
def PDs (X : Cx) (Y : Ctx) (pos : Pos) (kx : List (Option Expr)) (vx : List Expr) (ks : List Key) (cs : List E) : Prop := ∃ trs, PPs X pos kx vx trs ∧ kx.all (·.isSome) = true ∧ kx.length = vx.length ∧ kx.length = ks.length ∧
  ∀ σ H (Q : List (V × V) → Hp → Prop) r m (Qd : List D → Mem → Prop), REnv X.K r m σ H → evs Y cs r m Qd → (∀ ds m' vs H', Qd ds m' → Reps X.K m' H' vs ds → MemOk X.K m' H' → Step m H m' H' → vs.length = ks.length → Q ((ks.zip vs).map fun kv => (kV kv.1, kv.2)) H') → tPairs trs σ H Q
theorem pds_nil : PDs X Y pos [] [] [] [] := ⟨[], pps_nil, rfl, rfl, rfl, fun σ H Q r m Qd he q f => f [] m [] H (by simpa only [evs] using q) (by simp [Reps]) he.mem Step.refl rfl⟩
theorem pds_cons {kx : List (Option Expr)} {vx : List Expr} {ks : List Key} {cs : List E} {k : Expr} {key : Key} (hk : keyB k key = true) (hc : ∀ a, c ≠ .star a) (hv : PE X e (tE X.K Y c)) (h : PDs X Y pos kx vx ks cs) : PDs X Y pos (some k :: kx) (e :: vx) (key :: ks) (c :: cs) := by
  obtain ⟨trs, h1, h2, h3, h4, h5⟩ := h
  have ck : ∃ tk, PE X k tk ∧ ∀ σ H Q, Q (kV key) H → tk σ H Q := by
    unfold keyB at hk
    split at hk
    · cases of_decide_eq_true hk; exact ⟨_, pe_str, fun _ _ _ q => q⟩
    · cases of_decide_eq_true hk; exact ⟨_, pe_int, fun _ _ _ q => q⟩
    · cases hk
  obtain ⟨tk, pk, hq⟩ := ck
  refine ⟨(tk, tE X.K Y c) :: trs, pps_cons pk hv h1, by simpa using h2, by simp [h3], by simp [h4], fun σ H Q r m Qd he q f => ?_⟩
  refine hq σ H _ ⟨r, m, _, he, evs_cons hc q, fun d m1 v H1 q1 rv hm s => h5 σ H1 _ r m1 _ (he.step s hm) q1 fun ds m2 vs H2 q2 rs hm2 s2 hl => ?_⟩
  exact f (d :: ds) m2 (v :: vs) H2 q2 (by simp only [Reps]; exact ⟨v, vs, rfl, Rep.step s2 _ _ rv, rs⟩) hm2 (s.trans s2) (by simp [hl])
theorem disp_fin {mu : Bool} {ks : List Key} {H H2 : Hp} {m m1 : Mem} {Qd : KD} {Q : VK} {p : Addr} {vs : List V} {ds : List D} (hp : H p = none) (hm0 : MemOk X.K m H) (f : Fin X.K m H Qd Q) (rs : Reps X.K m1 H2 vs ds) (hm : MemOk X.K m1 H2) (s : Step (put m p (.dK [] [])) (L2.upd H p (.dK [])) m1 H2) (hl : ks.length = vs.length) (hpc : m1 p = some (.dK [] [])) (q : endDK mu p ks ds m1 Qd) : Q (.ref p) (L2.upd H2 p (.dK (ks.zip vs))) := by
  have s0 : Step m H (put m p (.dK [] [])) (L2.upd H p (.dK [])) := Step.newLst hp
  have sw : Step m1 H2 (put m1 p (.dK ks ds)) (L2.upd H2 p (.dK (ks.zip vs))) := Step.write hpc
  have hm2 : MemOk X.K (put m1 p (.dK ks ds)) (L2.upd H2 p (.dK (ks.zip vs))) := hm.writeC hpc (fun b z => by cases z) ⟨vs, upd_same, hl, Reps.step sw _ _ rs⟩
  cases mu with
  | true => exact f _ _ _ _ q rep_ref hm2 (s0.trans (s.trans sw))
  | false =>
    obtain ⟨z1, z2, z3⟩ := thaw_ok hm2 put_same (d := .dK ks ds) rfl
    have e : del (put m1 p (.dK ks ds)) p = del m1 p := by
      funext b; unfold del put; split <;> rfl
    rw [e] at z1 z2 z3
    exact f _ _ _ _ q z3 z1 (s0.trans (s.trans (sw.trans z2)))
theorem disp_mem {H : Hp} {m : Mem} {p : Addr} (hm : MemOk X.K m H) (hp : H p = none) : MemOk X.K (put m p (.dK [] [])) (L2.upd H p (.dK [])) := hm.newC hp ⟨[], upd_same, rfl, by simp [Reps]⟩
theorem r_disp0 {mu : Bool} : PE X (.Dict [] [] pos) (tE X.K Y (.disp mu [] [])) := pe_dnewK.imp fun σ H Q _ ⟨r, m, Qd, he, q, f⟩ p hp => by
  simp only [ev] at q
  have q' := q p (he.mem.free hp)
  simp only [evs] at q'
  have e := disp_fin (ks := []) (vs := []) (ds := []) hp he.mem f (by simp [Reps]) (disp_mem he.mem hp) Step.refl rfl q'.2.2.2.1 q'.2.2.2.2
  rw [upd_upd] at e
  exact e
theorem r_disp {mu : Bool} {kx : List (Option Expr)} {vx : List Expr} {ks : List Key} {cs : List E} (h : PDs X Y pos kx vx ks cs) (h0 : kx ≠ []) (hl : ks.length ≤ 15) : PE X (.Dict kx vx pos) (tE X.K Y (.disp mu ks cs)) := by
  obtain ⟨trs, h1, h2, h3, h4, h5⟩ := h
  exact (pe_disp h1 h2 h3 h0 (by omega)).imp fun σ H Q _ ⟨r, m, Qd, he, q, f⟩ p hp => by
    simp only [ev] at q
    refine h5 _ _ _ r _ _ (he.step (Step.newLst hp) (disp_mem he.mem hp)) (q p (he.mem.free hp)) fun ds m1 vs H2 ⟨g1, g2, g3, g4, g5⟩ rs hm s hl => ?_
    obtain ⟨vs0, hH, hl0, rs0⟩ := hm p _ g4
    have ev0 : vs0 = [] := by cases vs0 with | nil => rfl | cons _ _ => cases hl0
    subst ev0
    refine ⟨hH, ks.zip vs, rfl, by rw [List.length_zip]; omega, ?_⟩
    rw [mergeK_zip ks vs [] hl.symm g3 (by simp)]
    exact disp_fin hp he.mem f rs hm s hl.symm g4 g5

/-! dict(pairs) -/
theorem pairs_rep {K : PySem.W.Frag} {m : Mem} {H : Hp} : ∀ {ks : List Key} {ds : List D} {xs : List V}, ks.length = ds.length → Reps K m H xs (pairsD ks ds) → ∃ (ps : List Addr) (vs : List V), xs = ps.map V.ref ∧ Reps K m H vs ds ∧ Paired (fun p (kv : Key × V) => SqT K H p [kV kv.1, kv.2]) ps (ks.zip vs)
  | [], [], xs, _, h => by
    simp only [pairsD, Reps] at h
    exact ⟨[], [], h, by simp [Reps], .nil⟩
  | k :: ks, d :: ds, xs, hl, h => by
    simp only [pairsD, Reps] at h
    obtain ⟨v, r, rfl, h1, h2⟩ := h
    obtain ⟨a, ys, rfl, hq, rs⟩ := h1.tup
    simp only [Reps] at rs
    obtain ⟨y1, t1, rfl, r1, y2, t2, rfl, r2, rfl⟩ := rs
    obtain ⟨ps, vs, rfl, g1, g2⟩ := pairs_rep (by simpa using hl) h2
    refine ⟨a :: ps, y2 :: vs, rfl, by simp only [Reps]; exact ⟨_, _, rfl, r2, g1⟩, .cons ?_ g2⟩
    rw [keyD_rep r1] at hq
    exact hq.sq
  | [], _ :: _, _, hl, _ => by cases hl
  | _ :: _, [], _, hl, _ => by cases hl
theorem r_dOf {mu : Bool} (hc : X.calm = true) (hs : notStar e = true) (hg : Gl X "dict") (hm : X.mg "dict" = none) (ha : PE X e (tE X.K Y a)) : PE X (.Call (.Name "dict" p) [e] [] pos) (tE X.K Y (.dOf mu a)) := by
  have cd : CallD X (.type "dict") (fun x m Q => ∃ ks ds, lstOf m x = some (pairsD ks ds) ∧ ks.length = ds.length ∧ ks.Nodup ∧ newDK mu ks ds m Q) := ⟨_, call_dictP hc, fun x d m H Q Q' hm h1 ⟨ks, ds, hs, hl, hn, q⟩ fin => by
    obtain ⟨a, xs, ex, rs, hq⟩ := lst_val hm h1 hs
    obtain ⟨ps, vs, rfl, g1, g2⟩ := pairs_rep hl rs
    refine ⟨a, ps, _, by rw [ex], hq, g2, fun p hp => ?_⟩
    have hl' : ks.length = vs.length := by rw [hl, g1.length]
    rw [mergeK_zip ks vs [] hl' hn (by simp)]
    exact fin.dK hm hl' g1 q p hp⟩
  obtain ⟨r0, hr, hh⟩ := cd
  have hp : PA X [e] (tCons (tE X.K Y a) tNil) := pa_cons ha pa_nil (star_no hs)
  refine (pe_callTy hr hg hm (by decide +kernel : bootBuiltins "dict" = some (.type "dict")) hp (by decide) (by decide) (star_no hs) rfl).imp fun σ H Q _ ⟨r, m, Qd, he, q, f⟩ => ?_
  simp only [ev] at q
  exact ⟨r, m, _, he, q, fun d m1 v H1 q1 rv hm s => hh v d m1 H1 Qd Q hm rv q1 (f.mono s)⟩
theorem dK_rd {K : PySem.W.Frag} {m : Mem} {H : Hp} {ks : List Key} {ds : List D} {d : D} {v : V} (hm : MemOk K m H) (r : Rep K m H v d) (h : dKOf m d = some (ks, ds)) : ∃ a vs, v = .ref a ∧ H a = some (.dK (ks.zip vs)) ∧ ks.length = vs.length ∧ Reps K m H vs ds := dget_K hm r h
theorem items_rep {K : PySem.W.Frag} {m : Mem} {H' : Hp} {ks : List Key} {vs : List V} {ds : List D} : ∀ {ts : List Addr}, ks.length = vs.length → (∀ t ∈ ts, m t = none) → Reps K m H' vs ds → Paired (fun (t : Addr) (q : Key × V) => H' t = some (.tup [kV q.1, q.2])) ts (ks.zip vs) → Reps K m H' (ts.map V.ref) (pairsD ks ds) := by
  induction ks generalizing vs ds with
  | nil =>
    intro ts hl hf rs h
    cases h
    simp [pairsD, Reps]
  | cons k ks ih =>
    intro ts hl hf rs h
    match vs, ds, hl, rs with
    | v :: vs, [], _, rs => simp [Reps] at rs
    | v :: vs, d :: ds, hl, rs =>
      simp only [Reps] at rs
      obtain ⟨w, ws, eq, r1, r2⟩ := rs
      cases eq
      rw [List.zip_cons_cons] at h
      cases h with
      | cons h t =>
        simp only [List.map_cons, pairsD, Reps]
        refine ⟨_, _, rfl, ?_, ih (by simpa using hl) (fun t ht => hf t (List.mem_cons_of_mem _ ht)) r2 t⟩
        simp only [Rep, Reps]
        exact ⟨_, _, rfl, .inl ⟨hf _ List.mem_cons_self, h⟩, _, _, rfl, rep_keyD, _, _, rfl, r1, rfl⟩
theorem r_dItems {mu : Bool} {cpos : Pos} (hc : X.calm = true) (ho : okBase e = true) (hl : (apos.endLine == cpos.line) = true) (hg : Gl X "list") (hm : X.mg "list" = none) (ha : PE X e (tE X.K Y a)) : PE X (.Call (.Name "list" p) [.Call (.Attribute e "items" apos) [] [] cpos] [] pos) (tE X.K Y (.dItems mu a)) :=
  (LiI.pe_listItems hc ha hg hm (by decide +kernel) (base_of ho) hl (star_no rfl)).imp fun σ H Q _ ⟨r, m, Qd, he, q, f⟩ => by
    simp only [ev] at q
    refine ⟨r, m, _, he, q, fun d m1 v H1 ⟨ks, ds, hd, hl, hz, q1⟩ rv hm s => ?_⟩
    obtain ⟨a, vs, rfl, hH, hl', rs⟩ := dget_K hm rv hd
    refine ⟨a, _, rfl, hH, fun H' p ts hk hp ht hpt hp' hpr => ?_⟩
    have s1 : Step m1 H1 m1 H' := Step.same hk
    have hmem : MemOk X.K m1 H' := fun b c e => by
      obtain ⟨u, z, _⟩ := (hm b c e).there
      refine (hm b c e).step s1 (by rw [z]; exact hk _ _ z) fun C dx fs ec => ?_
      subst ec
      obtain ⟨w, qd⟩ := hm.at (hm.dxAt e).1
      exact ⟨by rw [qd]; exact hk _ _ qd, rfl⟩
    cases mu with
    | true =>
      have s2 : Step m1 H1 (put m1 p (.lst (pairsD ks ds))) H' := fun b u h1 h2 => by
        have ne := ne_of_none h2 hp
        exact ⟨by rw [put_ne ne]; exact h1, hk _ _ h2⟩
      have rp := items_rep (m := put m1 p (.lst (pairsD ks ds))) hl' (fun t h => by rw [put_ne (fun z : t = p => hpt (z ▸ h))]; exact hm.free (ht t h)) (Reps.step s2 _ _ rs) hpr
      have hm2 : MemOk X.K (put m1 p (.lst (pairsD ks ds))) H' := fun b c e => by
        by_cases eb : b = p
        · rw [eb, put_same] at e
          cases e
          rw [eb]
          exact ⟨_, hp', rp⟩
        · rw [put_ne eb] at e
          obtain ⟨u, z, _⟩ := (hm b c e).there
          refine (hm b c e).step s2 (by rw [z]; exact hk _ _ z) fun C dx fs ec => ?_
          subst ec
          obtain ⟨w, qd⟩ := hm.at (hm.dxAt e).1
          exact ⟨by rw [qd]; exact hk _ _ qd, by rw [put_ne (ne_of_none qd hp)]⟩
      exact f _ _ _ _ (q1 p (hm.free hp)) rep_ref hm2 (s.trans s2)
    | false =>
      have rp := items_rep (m := m1) hl' (fun t h => hm.free (ht t h)) (Reps.step s1 _ _ rs) hpr
      refine f _ m1 _ _ q1 ?_ hmem (s.trans s1)
      simp only [Rep]
      exact ⟨p, _, rfl, .inl ⟨hm.free hp, .inl hp'⟩, rp⟩
theorem din_ok {neg : Bool} {m2 : Mem} {H2 : Hp} {x y : D} {v w : V} {Qd : KD} {R : Option V → Prop} (hm : MemOk X.K m2 H2) (rv : Rep X.K m2 H2 v x) (rw' : Rep X.K m2 H2 w y) (h : ∃ ks ds k, dKOf m2 x = some (ks, ds) ∧ y = keyD k ∧ Qd (.bl ((lookK ks ds k).isSome != neg)) m2)
    (f : ∀ o : Option V, Qd (.bl (o.isSome != neg)) m2 → R o) : ∃ a o, v = .ref a ∧ DGet H2 a w o ∧ R o := by
  obtain ⟨ks, ds, k, hd, rfl, q⟩ := h
  obtain ⟨a, vs, rfl, hH, hl, rs⟩ := dget_K hm rv hd
  refine ⟨a, _, rfl, by rw [keyD_rep rw']; exact DGet.k hH, f _ ?_⟩
  have z := look_val (k := k) hl rs
  cases e : lookK ks ds k with
  | none => rw [e] at q; rw [z.1.mp e]; exact q
  | some x => rw [e] at q; obtain ⟨u, hu, _⟩ := z.2 x e; rw [hu]; exact q
/-- comparisons by values, as expressions and as tests -/
theorem r_opd {op : CmpOp} {sem : D → D → Mem → KD → Prop} {cc : E} (h : OpD X (compareOp op) sem) (hev : ∀ r m Q, ev Y cc r m Q → ev Y a r m fun x m1 => ev Y b r m1 fun y m2 => sem x y m2 Q) (hn : behindInMarks op e2 = false) (ha : PE X e (tE X.K Y a)) (hb : PE X e2 (tE X.K Y b)) : PE X (.Compare e [op] [e2] pos) (tE X.K Y cc) := by
  obtain ⟨r0, hr, hh⟩ := h
  refine (pe_cmpR hr ha hb hn).imp fun σ H Q _ ⟨r, m, Qd, he, q, f⟩ => ?_
  exact two he (hev r m Qd q) fun x y d e m2 H2 rx ry hm s q2 => hh x y d e m2 H2 Qd Q hm rx ry q2 (f.mono s)
theorem t_opd {op : CmpOp} {sem : D → D → Mem → KD → Prop} {cc : E} (h : OpD X (compareOp op) sem) (hev : ∀ r m Q, ev Y cc r m Q → ev Y a r m fun x m1 => ev Y b r m1 fun y m2 => sem x y m2 Q) (hn : behindInMarks op e2 = false) (ha : PE X e (tE X.K Y a)) (hb : PE X e2 (tE X.K Y b)) : PT X (.Compare e [op] [e2] pos) (tTst X.K Y cc) := by
  obtain ⟨r0, hr, hh⟩ := h
  refine (pt_cmpR hr ha hb hn).imp fun σ H Q _ h => ?_
  obtain ⟨r, m, Qd, he, q, f⟩ := tst_of h
  exact two he (hev r m Qd q) fun x y d e m2 H2 rx ry hm s q2 => hh x y d e m2 H2 Qd _ hm rx ry q2 (f.mono s)
theorem op_din (hu : X.A.units + 64 < cLine) : OpR X (compareOp .In) (fun y x H Q => ∃ a o, x = .ref a ∧ DGet H a y o ∧ Q (.bl o.isSome) H) := by
  intro pins s σ H y x v u Q I ry rx ⟨a, o, ex, g, q⟩
  subst ex
  obtain rfl : u = Value.ref a := rx
  exact d_in (by omega) I g ry fun s3 I3 => ⟨.bl o.isSome, H, I3, rfl, q⟩
theorem op_dnotin (hu : X.A.units + 64 < cLine) : OpR X (compareOp .NotIn) (fun y x H Q => ∃ a o, x = .ref a ∧ DGet H a y o ∧ Q (.bl (!o.isSome)) H) := by
  intro pins s σ H y x v u Q I ry rx ⟨a, o, ex, g, q⟩
  subst ex
  obtain rfl : u = Value.ref a := rx
  exact d_notIn (by omega) I g ry fun s3 I3 => ⟨.bl (!o.isSome), H, I3, rfl, q⟩
def semDin (neg : Bool) : D → D → Mem → KD → Prop := fun y x m Q => ∃ ks ds k, dKOf m x = some (ks, ds) ∧ y = keyD k ∧ Q (.bl ((lookK ks ds k).isSome != neg)) m
theorem opD_din {neg : Bool} {op : CmpOp} (hop : op = if neg then .NotIn else .In) (hu : X.A.units + 64 < cLine) : OpD X (compareOp op) (semDin neg) := by
  subst hop
  cases neg with
  | true => exact ⟨_, op_dnotin hu, fun y x d e m H Q Q' hm ry rx h fin => din_ok hm rx ry h fun o qo => fin.here hm rep_bl (by simpa using qo)⟩
  | false => exact ⟨_, op_din hu, fun y x d e m H Q Q' hm ry rx h fin => din_ok hm rx ry h fun o qo => fin.here hm rep_bl (by simpa using qo)⟩
/-- d[k] = v -/
theorem s_setD {o ix : Expr} {tp : Pos} (hu : X.A.units + 64 < cLine) (h : PE X e (tE X.K Y c)) (ho : PE X o (tE X.K Y a)) (hi : PE X ix (tE X.K Y b)) : PS X (.Assign [.Subscript o ix tp] e pos) (tS X.K Y (.setD a b c)) :=
  (ps_dput (by omega) ho hi h (swap_tg rfl)).imp fun D σ H _ ⟨r, m, k, he, q, f⟩ => by
    simp only [ex] at q
    refine ⟨r, m, _, he, q, fun d m1 v H1 q1 rv hm s => ⟨r, m1, _, he.step s hm, q1, fun d2 m2 w H2 q2 rw' hm2 s2 => ⟨r, m2, _, he.step (s.trans s2) hm2, q2, fun d3 m3 u H3 ⟨p, ks, ds, kk, e1, e2, hp, hz, q3⟩ ru hm3 s3 => ?_⟩⟩⟩
    subst e1 e2
    obtain ⟨H', g, hm4, s4⟩ := setK_ok (k := kk) hm3 hp hz (Rep.step (s2.trans s3) _ _ rv)
    have all := s.trans (s2.trans (s3.trans s4))
    exact ⟨p, H', rw'.ref, by rw [keyD_rep ru]; exact g, f.nx _ _ _ _ q3 (he.step all hm4) all⟩
end
end Og
end
section
set_option maxHeartbeats 4000000
set_option autoImplicit false
/-! Og: objects of classes without slots. -/
namespace Og
open PySem PySem.Spec PyProof.Rows L2

theorem zip_lookup {K : PySem.W.Frag} {m : Mem} {H : Hp} : ∀ {ns : List Str} {vs : List V} {ds : List D} {f : Str} {d : D}, ns.length = vs.length → Reps K m H vs ds → lookK ns ds f = some d → ∃ v, (ns.zip vs).lookup f = some v ∧ Rep K m H v d
  | [], vs, ds, f, d, _, _, h => by simp [lookK] at h
  | n :: ns, [], _, _, _, hl, _, _ => by cases hl
  | n :: ns, v :: vs, [], f, d, _, rs, _ => by simp [Reps] at rs
  | n :: ns, v :: vs, e :: ds, f, d, hl, rs, h => by
    simp only [Reps] at rs
    obtain ⟨w, ws, eq, r1, r2⟩ := rs
    cases eq
    unfold lookK at h
    rw [List.zip_cons_cons, List.lookup_cons]
    by_cases e1 : n = f
    · rw [if_pos e1] at h
      cases h
      have : (f == n) = true := by simp [e1]
      rw [this]
      exact ⟨v, rfl, r1⟩
    · rw [if_neg e1] at h
      have : (f == n) = false := by simpa using fun z : f = n => e1 z.symm
      rw [this]
      exact zip_lookup (by simpa using hl) r2 h
theorem zip_putF : ∀ {ns : List Str} {vs : List V} {f : Str} {v : V}, ns.length = vs.length → ns.Nodup → L2.putF f v (ns.zip vs) = (putKs ns f).zip (putDs ns vs f v)
  | [], [], f, v, _, _ => rfl
  | n :: ns, w :: vs, f, v, hl, hn => by
    have hn' := List.nodup_cons.mp hn
    rw [List.zip_cons_cons]
    unfold L2.putF
    by_cases e : n = f
    · subst e
      rw [if_pos rfl]
      unfold putKs putDs
      rw [if_pos List.mem_cons_self, if_pos List.mem_cons_self, List.zip_cons_cons, List.map_cons, if_pos rfl, List.zip_cons_cons]
      congr 1
      have : ∀ (ns : List Str) (vs : List V), ns.length = vs.length → n ∉ ns → (ns.zip vs).map (fun kv => if kv.1 = n then v else kv.2) = vs := by
        intro ns
        induction ns with
        | nil => intro vs h _; cases vs with | nil => rfl | cons _ _ => cases h
        | cons a r ih =>
          intro vs h hn
          match vs, h with
          | w :: ws, h =>
            rw [List.zip_cons_cons, List.map_cons, ih ws (by simpa using h) fun z => hn (List.mem_cons_of_mem _ z), if_neg fun z => hn (by rw [← z]; exact List.mem_cons_self)]
      rw [this ns vs (by simpa using hl) hn'.1]
    · rw [if_neg e, zip_putF (by simpa using hl) hn'.2]
      unfold putKs putDs
      by_cases hf : f ∈ ns
      · rw [if_pos hf, if_pos hf, if_pos (List.mem_cons_of_mem _ hf), if_pos (List.mem_cons_of_mem _ hf), List.zip_cons_cons, List.map_cons, if_neg e, List.zip_cons_cons]
      · have : f ∉ n :: ns := fun z => (List.mem_cons.mp z).elim (fun q => e q.symm) hf
        rw [if_neg hf, if_neg hf, if_neg this, if_neg this]; rfl
  | _ :: _, [], _, _, hl, _ => by cases hl
  | [], _ :: _, _, _, hl, _ => by cases hl
theorem ins_val {K : PySem.W.Frag} {m : Mem} {H : Hp} {v : V} {d : D} {C : Addr} {ns : List Str} {ds : List D} (hm : MemOk K m H) (r : Rep K m H v d) (h : (∃ p, d = .ref p ∧ m p = some (.ins C ns ds)) ∨ d = .ob C ns ds) : ∃ a dx vs, v = .ref a ∧ H a = some (.ins C dx (ns.zip vs)) ∧ ns.length = vs.length ∧ Reps K m H vs ds := by
  rcases h with ⟨p, rfl, hp⟩ | rfl
  · obtain ⟨dx, vs, hH, hl, rs⟩ := hm p _ hp
    exact ⟨p, dx, vs, r.ref, hH, hl, rs⟩
  · obtain ⟨a, dx, vs, rfl, h0, hH, hl, rs⟩ := r.ob
    exact ⟨a, dx, vs, rfl, hH, hl, rs⟩
theorem guards_in1 {A : Around} (g : A.guards = some []) : A.in1.guards = some [] := g
theorem sub_str {K : PySem.W.Frag} {C : Addr} : PySem.W.subIn K (.type "str") (.ref C) = some false := by
  have e : fastBuiltinMro "str" = some [.type "str", .type "object"] := by decide +kernel
  show (fastBuiltinMro "str").map (·.contains (.ref C)) = some false
  rw [e]
  first
    | rfl
    | simp
section
variable {X : Cx} {Y : Ctx} {e e2 : Expr} {a b : E} {p pos apos : Pos} {f : Str} {c : Nat} {es : List Expr} {cs : List E}
theorem r_fld (ho : okBase e = true) (kc : Cls X.K (Y.cls c)) (kn : NoAttr X.K (Y.cls c) f) (ha : PE X e (tE X.K Y a)) : PE X (.Attribute e f pos) (tE X.K Y (.fld a c f)) :=
  (pe_fld ha (base_of ho)).imp fun σ H Q _ ⟨r, m, Qd, he, q, fin⟩ => by
    simp only [ev] at q
    refine ⟨r, m, _, he, q, fun d m1 v H1 ⟨ns, ds, d', hd, hk, q1⟩ rv hm s => ?_⟩
    obtain ⟨p, dx, vs, rfl, hH, hl, rs⟩ := ins_val hm rv hd
    obtain ⟨w, hw, rw'⟩ := zip_lookup hl rs hk
    exact ⟨p, _, dx, _, w, rfl, hH, kc, kn, hw, (fin.mono s).here hm rw' q1⟩
theorem s_setFld {o : Expr} {b : E} {tp : Pos} (kc : Cls X.K (Y.cls c)) (kn : NoAttr X.K (Y.cls c) f) (h : PE X e (tE X.K Y b)) (ho : PE X o (tE X.K Y a)) : PS X (.Assign [.Attribute o f tp] e pos) (tS X.K Y (.setFld a c f b)) :=
  (ps_fld ho h (swap_tg rfl)).imp fun D σ H _ ⟨r, m, k, he, q, fin⟩ => by
    simp only [ex] at q
    refine ⟨r, m, _, he, q, fun d m1 v H1 q1 rv hm s => ⟨r, m1, _, he.step s hm, q1, fun d2 m2 w H2 ⟨p, ns, ds, e1, hp, hz, hn, q2⟩ rw' hm2 s2 => ?_⟩⟩
    subst e1
    obtain ⟨dx, vs, hH, hl, rs⟩ := hm2 p _ hp
    have sw : Step m2 H2 (put m2 p (.ins (Y.cls c) (putKs ns f) (putDs ns ds f d))) (L2.upd H2 p (.ins (Y.cls c) dx (L2.putF f v (ns.zip vs)))) := Step.write hp
    have hm3 := hm2.writeC (o := HO.ins (Y.cls c) dx (L2.putF f v (ns.zip vs))) (c := .ins (Y.cls c) (putKs ns f) (putDs ns ds f d)) hp (fun b z => by cases z) ⟨dx, putDs ns vs f v, by rw [upd_same, zip_putF hl hn], put_len hl, put_reps hl (Reps.step sw _ _ rs) (Rep.step (s2.trans sw) _ _ rv)⟩
    exact ⟨p, _, dx, _, rw'.ref, hH, kc, kn, by rw [List.length_zip]; omega, fin.nx _ _ _ _ q2 (he.step (s.trans (s2.trans sw)) hm3) (s.trans (s2.trans sw))⟩
/-- e.f, a property -/
theorem r_prop {k j : Nat} {pa g : Addr} {fd : FuncData} {ps : List Str} (ho : okBase e = true) (kc : Cls X.K (Y.cls c)) (hp : PropOf X.K (Y.cls c) f pa g) (F : FnG X.prog X.w X.K X.mg X.base k g fd ps (spK X.K 1 (Y.fn j))) (hG : X.A.guards = some []) (hr : Room (k + 1) X.A) (hb : Binds X.K fd ps [])
    (ha : PE X e (tE X.K Y a)) : PE X (.Attribute e f pos) (tE X.K Y (.prop j c f a)) := by
  refine ⟨fun pins s σ H Q I ⟨r, m, Qd, he, q, fin⟩ => ?_⟩
  simp only [ev] at q
  have hw := ha.run pins s σ H (fun v H1 => ∃ d m1, (∃ ns ds, d = D.ob (Y.cls c) ns ds ∧ Y.fn j [d] m1 Qd) ∧ Rep X.K m1 H1 v d ∧ MemOk X.K m1 H1 ∧ Step m H m1 H1) I
    ⟨r, m, _, he, q, fun d m1 v H1 q1 rv hm s => ⟨d, m1, q1, rv, hm, s⟩⟩
  refine attr_of (base_of ho) (thn hw fun u s1 ⟨x, H1, I1, rx, d, m1, ⟨ns, ds, ed, q1⟩, rv, hm1, st1⟩ => ?_)
  subst ed
  obtain ⟨p, dx, vs, rfl, h0, hH, hl, rs⟩ := id rv.ob
  obtain rfl : u = Value.ref p := rx
  obtain ⟨mA, O, _, _, _, _⟩ := ins_get I1.hok hH
  obtain ⟨od, J, _⟩ := O.look
  obtain ⟨rest, hrec⟩ := hp.rec_
  have I2 := I1.tok (s1.toks + 1)
  have hc : (PySem.W.clsIn X.K (Y.cls c)).isSome = true := by
    obtain ⟨cd, hc, _⟩ := PySem.W.any_some kc.hd
    rw [hc]
    rfl
  have hsp : spK X.K 1 (Y.fn j) [.ref p] H1 Q allE := ⟨rfl, [_], m1, Qd, by simp only [Reps]; exact ⟨_, [], rfl, rv, rfl⟩, hm1, q1, fin.mono st1⟩
  have b := hb { s1 with toks := s1.toks + 1 } [Value.ref p] I2.kIn (by rw [List.append_nil, ← F.len _ _ _ hsp]; rfl)
  rw [List.append_nil] at b
  refine PySem.W.get_bind I1.kIn J (PySem.W.plainGet_of (kc.get f)).1 (PySem.W.findObj_data hc hp.at_ hp.get hp.tak) (PySem.W.plainGet_of (kc.get f)).2 (wpAny_call (PySem.W.prop_get (s := { s1 with toks := s1.toks + 1 }) I1.kIn hrec ?_))
  refine codeAny_mono (F.run X.A.in1 X.stack { s1 with toks := s1.toks + 1 } H1 ⟨[.ref p], []⟩ [.ref p] [.ref p] Q (guards_in1 hG) hr.in1 I2.env0.in1 b (.cons rfl .nil) hsp) ?_
  rintro _ t' ⟨u, rfl, z⟩
  obtain ⟨v, H', I3, rv', q3⟩ := I2.after z
  show wpAny _ _ (handedOut u) _ _ _
  rw [PySem.W.handedOut_of (handed_of rv')]
  exact wpAny_pure ⟨v, H', I3, rv', q3⟩
/-- C(e, ..): the object as its __init__ leaves it, its cells taken for good -/
theorem r_mkI {k j : Nat} {fa : Addr} {x : Str} {fd : FuncData} {ps : List Str} {n : Nat} (M : Mk X.K (Y.cls c) fa) (F : FnG X.prog X.w X.K X.mg X.base k fa fd ps (spK X.K n (Y.fn j))) (hG : X.A.guards = some []) (hb : Binds X.K fd ps []) (hr : Room (k + 1) X.A) (hn : cs.length + 1 = n)
    (hg : Gl X x) (hm : X.mg x = some (.ref (Y.cls c))) (hd : (x == ("__debug__" : Str)) = false) (ha : PA X es (tAs X.K Y cs)) (h0 : es = [] → cs = []) (hp : es.all notStar = true) : PE X (.Call (.Name x p) es [] pos) (tE X.K Y (.mkI c j cs)) := by
  refine ⟨fun pins s σ H Q I ⟨r, m, Qd, he, q, fin⟩ => ?_⟩
  simp only [ev] at q
  refine wpAny_Call_Name_kw (ld_glob I hg hm ?_ hd)
  refine node_K I M.kp ha h0 hp (R := fun vs H1 => ∀ x dx, H1 x = none → H1 dx = none → dx ≠ x → spK X.K n (Y.fn j) (.ref x :: vs) (L2.upd (L2.upd H1 dx (.own x)) x (.ins (Y.cls c) dx [])) (fun v H2 => v = .non ∧ Q (.ref x) H2) fun _ _ _ => True)
    ⟨r, m, _, he, q, fun ds m1 vs H1 ⟨hl, q1⟩ rs hm1 s1 x dx hx hdx ne => ?_⟩ fun us s1 vs H1 I1 rv q1 => ?_
  · have sd : Step m1 H1 m1 (L2.upd H1 dx (.own x)) := Step.fresh hdx
    have hmd := hm1.fresh (o := .own x) hdx
    have hx' : (L2.upd H1 dx (.own x)) x = none := by rw [upd_ne ne.symm]; exact hx
    have sx : Step m1 (L2.upd H1 dx (.own x)) (put m1 x (.ins (Y.cls c) [] [])) (L2.upd (L2.upd H1 dx (.own x)) x (.ins (Y.cls c) dx [])) := Step.newLst hx'
    have hm2 := hmd.newC (o := HO.ins (Y.cls c) dx []) (c := .ins (Y.cls c) [] []) hx' ⟨dx, [], upd_same, rfl, by simp [Reps]⟩
    refine ⟨by rw [List.length_cons, rs.length, hl, hn], .ref x :: ds, _, _, ?_, hm2, q1 x (hm1.free hx), fun d m2 v H2 ⟨ed, ns, vs', vs2, m3, hp2, hfz, q2⟩ rv hm2 s2 => ?_⟩
    · simp only [Reps]
      exact ⟨_, vs, rfl, rep_ref, Reps.step (sd.trans sx) _ _ rs⟩
    · subst ed
      obtain ⟨dx', ws, hH, hlw, rsw⟩ := hm2 x _ hp2
      obtain ⟨z1, z2, z3⟩ := thaw_ok hm2 hp2 (d := .ob (Y.cls c) ns vs') rfl
      obtain ⟨y1, y2, y3⟩ := frzs_ok z1 (Reps.step z2 _ _ rsw) hfz
      have hdel : del m2 x x = none := by unfold del; rw [if_pos rfl]
      refine ⟨rv.non, fin _ _ _ _ q2 ?_ y1 (s1.trans (sd.trans (sx.trans (s2.trans (z2.trans y2)))))⟩
      simp only [Rep]
      exact ⟨x, dx', ws, rfl, (y2 x _ hdel hH).1, hH, hlw, y3⟩
  · exact FnG.make M F hG hr hb I1 rv q1
end
end Og
end
section
set_option maxHeartbeats 4000000
set_option autoImplicit false
/-! Og: methods, len, in, ==, isinstance of objects of classes without slots. -/
namespace Og
open PySem PySem.Spec PyProof.Rows L2

theorem ob_inst {X : Cx} {pins : List (Addr × Obj)} {σ : L2.St} {H : Hp} {s : Shared} {a C dx : Addr} {fs : List (Str × V)} (I : Inv X pins σ H s) (hH : H a = some (.ins C dx fs)) : ∃ ox od, PySem.W.InstAt s.heap a ox C od := by
  obtain ⟨mA, O, _, _, _, _⟩ := ins_get I.hok hH
  obtain ⟨od, J, _⟩ := O.look
  exact ⟨_, od, J⟩
/-- an object of a class is asked by one of the class's defs, where it is called inside a built-in -/
theorem FnG.inner {X : Cx} {k : Nat} {f : Addr} {fd : FuncData} {ps : List Str} {sp : Sp} {pins : List (Addr × Obj)} {σ : L2.St} {H : Hp} {s : Shared} {Q : VK} {B : Around} (F : FnG X.prog X.w X.K X.mg X.base k f fd ps sp) (g : B.guards = some []) (hr : Room k B) (e0 : Env0 X.prog X.w X.K X.mg X.base B X.stack s H) (hb : Binds X.K fd ps []) (I : Inv X pins σ H s) {us : List Value} {vs : List V} (r : Vals vs us) (h : sp vs H Q allE) {E : Value → Shared → Prop} :
    wpAny (model X.prog X.w) B (PySem.call (.ref f) us) (EP X pins σ Q) E s := by
  have b := hb s us I.kIn (by rw [List.append_nil, ← r.length]; exact F.len _ _ _ h)
  rw [List.append_nil] at b
  refine wpAny_call (codeAny_mono (F.run B X.stack s H ⟨us, []⟩ us vs Q g hr e0 b r h) ?_)
  rintro _ t' ⟨u, rfl, z⟩
  exact I.after z
section
variable {X : Cx} {Y : Ctx} {e e2 : Expr} {a b : E} {p pos apos : Pos} {x : Str} {c : Nat} {es : List Expr} {cs : List E}
/-- the object, as a def is called with it -/
theorem ob_sp {j n : Nat} {m1 : Mem} {H1 : Hp} {v : V} {d : D} {vs : List V} {ds : List D} {Qd : KD} {Q : VK} (rv : Rep X.K m1 H1 v d) (rs : Reps X.K m1 H1 vs ds) (hn : ds.length + 1 = n) (hm1 : MemOk X.K m1 H1) (q1 : Y.fn j (d :: ds) m1 Qd) (fin : Fin X.K m1 H1 Qd Q) : spK X.K n (Y.fn j) (v :: vs) H1 Q allE :=
  ⟨by rw [List.length_cons, rs.length, hn], d :: ds, m1, Qd, by simp only [Reps]; exact ⟨_, vs, rfl, rv, rs⟩, hm1, q1, fin⟩
/-- o.m(e, ..) -/
theorem r_methI {k j : Nat} {f : Addr} {fd : FuncData} {ps : List Str} {n : Nat} {o : Expr} (hob : okBase o = true) (hl30 : es.length < 30) (hl : (apos.endLine == pos.line) = true) (kc : Cls X.K (Y.cls c)) (hm : Meth X.K (Y.cls c) x f) (F : FnG X.prog X.w X.K X.mg X.base k f fd ps (spK X.K n (Y.fn j))) (hG : X.A.guards = some []) (hb : Binds X.K fd ps []) (hr : Room k X.A) (hn : cs.length + 1 = n)
    (ho : PE X o (tE X.K Y a)) (ha : PA X es (tAs X.K Y cs)) (h0 : es = [] → cs = []) (hp : es.all notStar = true) : PE X (.Call (.Attribute o x apos) es [] pos) (tE X.K Y (.methI j c x a cs)) := by
  refine ⟨fun pins s σ H Q I ⟨r, m, Qd, he, q, fin⟩ => ?_⟩
  simp only [ev] at q
  have hw := ho.run pins s σ H (fun v H1 => ∃ d m1, (∃ ns vs, d = D.ob (Y.cls c) ns vs ∧ x ∉ ns ∧ evs Y cs r m1 fun ds m2 => ds.length = cs.length ∧ Y.fn j (d :: ds) m2 Qd) ∧ Rep X.K m1 H1 v d ∧ MemOk X.K m1 H1 ∧ Step m H m1 H1) I
    ⟨r, m, _, he, q, fun d m1 v H1 q1 rv hm s => ⟨d, m1, q1, rv, hm, s⟩⟩
  refine PySem.W.methodCall_KW (thn hw fun u s1 ⟨x', H1, I1, rx, d, m1, ⟨ns, vs0, ed, hx, q1⟩, rv, hm1, st1⟩ => ?_) (meth_eq hob hp hl30 hl)
  subst ed
  obtain ⟨q, dx, vs, rfl, h00, hH, hlv, rs⟩ := id rv.ob
  obtain rfl : u = Value.ref q := rx
  have hno : (ns.zip vs).lookup x = none := by
    rw [List.lookup_eq_none_iff]
    intro y hy
    have := (List.of_mem_zip hy).1
    simpa using fun z : x = y.1 => hx (z ▸ this)
  refine getmeth_ok I1 hH kc hm hno ?_
  refine node_K I1 hm.kp ha h0 hp (first := [.ref q]) (R := fun ws H2 => spK X.K n (Y.fn j) (.ref q :: ws) H2 Q allE)
    ⟨r, m1, _, he.step st1 hm1, q1, fun ds m2 ws H2 ⟨hl, q2⟩ rs2 hm2 s2 => ob_sp (Rep.step s2 _ _ rv) rs2 (by rw [hl, hn]) hm2 q2 (fin.mono (st1.trans s2))⟩ fun us s2 ws H2 I2 r2 q2 => ?_
  exact F.call hG hr hb I2 (us := .ref q :: us) (vs := .ref q :: ws) (.cons rfl r2) q2
/-- len(o) -/
theorem r_lenO {k j : Nat} {g : Addr} {fd : FuncData} {ps : List Str} (hs0 : notStar e = true) (hs : PySem.W.findIn X.K (.ref (Y.cls c)) "__len__" = some (some (.ref g))) (hf : PySem.W.isFn X.K (.ref g) = true) (F : FnG X.prog X.w X.K X.mg X.base k g fd ps (spK X.K 1 (Y.fn j))) (hG : X.A.guards = some []) (hr : Room (k + 1) X.A) (hb : Binds X.K fd ps [])
    (hg : Gl X "len") (hm : X.mg "len" = none) (ha : PE X e (tE X.K Y a)) : PE X (.Call (.Name "len" p) [e] [] pos) (tE X.K Y (.lenO j c a)) := by
  have cr : CallR X (.builtin "len") (fun xs H Q => ∃ q dx fs, xs = [.ref q] ∧ H q = some (.ins (Y.cls c) dx fs) ∧ spK X.K 1 (Y.fn j) [.ref q] H (fun v H2 => ∃ n : Nat, v = .int (n : Int) ∧ n ≤ 1000000 ∧ Q v H2) allE) := by
    intro pins s σ H xs us Q I r h
    obtain ⟨q, dx, fs, rfl, hH, hsp⟩ := h
    obtain rfl := Vals.ref1 r
    obtain ⟨ox, od, J⟩ := ob_inst I hH
    obtain ⟨mm, hF⟩ := I.fr
    refine PySem.W.len_K hF I.ok.mod.kin J hs hf ?_
    refine wpAny_mono (F.inner (B := X.A.in1) (E := X.xe) (guards_in1 hG) hr.in1 I.env0.in1 hb I (us := [.ref q]) (vs := [.ref q]) (.cons rfl .nil) hsp) (fun w s' z => ?_) fun _ _ z => z
    obtain ⟨v, H', I', rv, n, rfl, hn, qz⟩ := z
    obtain ⟨t, e⟩ := (show ∃ t, w = Value.int (n : Int) t from rv)
    cases e
    exact ⟨⟨by omega, by omega⟩, .int n, H', I'.tok _, ⟨_, rfl⟩, qz⟩
  have hp : PA X [e] (tCons (tE X.K Y a) tNil) := pa_cons ha pa_nil (star_no hs0)
  refine (pe_callB cr hg hm (by decide +kernel) hp (by decide +kernel) (by decide +kernel) (star_no hs0) rfl).imp fun σ H Q _ ⟨r, m, Qd, he, q, fin⟩ => ?_
  simp only [ev] at q
  refine ⟨r, m, _, he, q, fun d m1 v H1 ⟨ns, vs, ed, q1⟩ rv hm1 st => ?_⟩
  subst ed
  obtain ⟨q, dx, ws, rfl, h00, hH, hlv, rs⟩ := id rv.ob
  refine ⟨q, dx, _, rfl, hH, ob_sp rv (by simp [Reps]) rfl hm1 q1 fun d2 m2 v2 H2 ⟨n, e2, hn, q2⟩ rv2 hm2 st2 => ?_⟩
  subst e2
  exact ⟨n, rv2.int, hn, fin _ _ _ _ q2 rv2 hm2 (st.trans st2)⟩
/-- e in o -/
def semInO (Y : Ctx) (j c : Nat) (neg : Bool) : D → D → Mem → KD → Prop := fun y x m Q => ∃ ns vs, x = .ob (Y.cls c) ns vs ∧ Y.fn j [x, y] m fun d m3 => onB d fun k => Q (.bl (k != neg)) m3
theorem opD_inO {k j : Nat} {g : Addr} {fd : FuncData} {ps : List Str} {neg : Bool} {op : CmpOp} (hop : op = if neg then .NotIn else .In) (hs : PySem.W.findIn X.K (.ref (Y.cls c)) "__contains__" = some (some (.ref g))) (hf : PySem.W.isFn X.K (.ref g) = true) (F : FnG X.prog X.w X.K X.mg X.base k g fd ps (spK X.K 2 (Y.fn j))) (hG : X.A.guards = some []) (hr : Room k X.A) (hb : Binds X.K fd ps []) :
    OpD X (compareOp op) (semInO Y j c neg) := by
  have opr : OpR X (compareOp op) (fun y x H Q => ∃ q dx fs, x = .ref q ∧ H q = some (.ins (Y.cls c) dx fs) ∧ spK X.K 2 (Y.fn j) [.ref q, y] H (fun v H2 => ∃ b, v = .bl b ∧ Q (.bl (b != neg)) H2) allE) := by
    intro pins s σ H y x v u Q I ry rx h
    obtain ⟨q, dx, fs, rfl, hH, hsp⟩ := h
    obtain rfl : u = Value.ref q := rx
    obtain ⟨ox, od, J⟩ := ob_inst I hH
    obtain ⟨mm, hF⟩ := I.fr
    have run : wpAny (model X.prog X.w) X.A (call (.ref g) [.ref q, v]) (fun r s' => wpAny (model X.prog X.w) X.A (truthy r) (fun b => EP X pins σ Q (.bool (b != neg))) X.xe s') X.xe s :=
      wpAny_mono (F.inner (B := X.A) (E := X.xe) hG hr I.env0 hb I (us := [.ref q, v]) (vs := [.ref q, y]) (.cons rfl (.cons ry .nil)) hsp) (fun w s' z => by
        obtain ⟨v', H', I', rv, b, rfl, qz⟩ := z
        cases (show w = Value.bool b from rv)
        exact wpAny_truthy_bool ⟨.bl (b != neg), H', I', rfl, qz⟩) fun _ _ z => z
    subst hop
    cases neg with
    | true => exact PySem.W.notIn_K hF I.ok.mod.kin J hs hf (by simpa using run)
    | false => exact PySem.W.in_K hF I.ok.mod.kin J hs hf (by simpa using run)
  refine ⟨_, opr, fun y x d e m2 H2 Q Q' hm2 ry rx ⟨ns, vs, ed, q1⟩ fin => ?_⟩
  subst ed
  obtain ⟨q, dx, ws, rfl, h00, hH, hlv, rs⟩ := id rx.ob
  refine ⟨q, dx, _, rfl, hH, ob_sp rx (by simp only [Reps]; exact ⟨_, [], rfl, ry, rfl⟩) rfl hm2 q1 fun d2 m3 v2 H3 q3 rv3 hm3 st3 => ?_⟩
  obtain ⟨b, e1, q3⟩ := onB_out q3
  subst e1
  exact ⟨b, rv3.bl, fin _ _ _ _ q3 rep_bl hm3 st3⟩
end
end Og
end
section
set_option maxHeartbeats 4000000
set_option autoImplicit false
/-! Og: ==, != and isinstance of objects of classes without slots. -/
namespace Og
open PySem PySem.Spec PyProof.Rows L2
open PySem.W

section
variable {prog : Program} {w : World} {A : Around} {E : Value → Shared → Prop} {s : Shared} {K : PySem.W.Frag} {x C L f : Addr} {h₀ : Heap} {m : Str → Option Value} {ox : Obj} {od : Option Obj} {b tb : Value}
theorem ifBound_objNe {M : Model} {args : List Value} {Q : Option Value → Shared → Prop} (X : K.In s.heap) (I : PySem.W.InstAt s.heap x ox C od) (hs : PySem.W.findIn K (.ref C) "__ne__" = some (some (.builtin "object.__ne__")))
    (h : wpAny M A (call (.builtin "object.__ne__") (.ref x :: args)) (fun v => Q (some v)) E s) : wpAny M A (callSpecialIfBound? (.ref x) "__ne__" args) Q E s := by
  simp only [callSpecialIfBound?, bindSpecialIfBound?]
  refine wpAny_holding (wpAny_bind (wpAny_bind (wpAny_bind (I.type.here ((PySem.W.looks_findIn X hs).here ?_)))))
  refine wpAny_bind (wpAny_askSetting (wpAny_ite ?_))
  have fin : wpAny M A (call (.builtin "object.__ne__") ([.ref x] ++ args) >>= fun v => pure (some v)) Q E s := wpAny_bind (wpAny_mono h (fun v s' h' => wpAny_pure h') fun _ _ h' => h')
  split
  · exact wpAny_bind (wpAny_of_eq (F.cmp_object.ne.bind _) (wpAny_pure (by exact fin)))
  · exact wpAny_tryCatch (wpAny_bind (wpAny_of_eq (F.cmp_object.ne.bind _) (wpAny_pure (by exact fin))))
theorem objNe_entry {Q : PySem.Fin → Shared → Prop} (hu : A.units < cLine) (X : K.In s.heap) (I : PySem.W.InstAt s.heap x ox C od) (he : PySem.W.findIn K (.ref C) "__eq__" = some (some (.ref f))) (hf : PySem.W.isFn K (.ref f) = true)
    (h : wpAny (model prog w) A (call (.ref f) [.ref x, b]) (fun v s' => ∃ k, v = .bool k ∧ Q (.done (.ret (.bool (!k)))) s') E s) : wpAny (model prog w) A (Builtin.«object.__ne__» ⟨[.ref x, b], []⟩) Q E s := by
  unfold Builtin.«object.__ne__»
  refine wpAny_bind (m := slotArgs "__ne__" 1 ⟨[.ref x, b], []⟩) (wpAny_of_eq (a := (Value.ref x, [b])) rfl ?_)
  refine wpAny_bind (wpAny_cRoomFor hu ?_)
  refine wpAny_bind (m := callSpecialIfBound? (.ref x) (Str.ofString "__eq__") [b]) (PySem.W.ifBound_K X I he hf (wpAny_mono h (fun r s' hr => ?_) fun _ _ e => e))
  obtain ⟨k, rfl, hq⟩ := hr
  exact wpAny_bind (m := truthy (.bool _)) (wpAny_truthy_bool (wpAny_pure hq))
theorem call_objNe {Q : Value → Shared → Prop} (hu : A.units + 1 < cLine) (X : K.In s.heap) (I : PySem.W.InstAt s.heap x ox C od) (hm : PySem.W.mroIn K C (.type "object") = some true) (he : PySem.W.findIn K (.ref C) "__eq__" = some (some (.ref f))) (hf : PySem.W.isFn K (.ref f) = true)
    (h : wpAny (model prog w) A.in1 (call (.ref f) [.ref x, b]) (fun v s' => ∃ k, v = .bool k ∧ Q (.bool (!k)) s') E s) : wpAny (model prog w) A (call (.builtin "object.__ne__") [.ref x, b]) Q E s :=
  wpAny_call (codeAny_call_builtin F.cmp_object.ne.plain F.cmpEntry_ne (PySem.W.check_slot F.cmpKind_ne F.cmpSplit_ne (I.type.andThen (PySem.W.looks_mroIn X hm)) (F.cmpArgs_ne _ _) (objNe_entry (A := A.in1) hu X I he hf (wpAny_mono h (fun v s' z => by
    obtain ⟨k, rfl, q⟩ := z
    exact ⟨k, rfl, q⟩) fun _ _ z => z))))
theorem ne_K {Q : Value → Shared → Prop} (hu : A.units + 1 < cLine) (X : K.In s.heap) (I : PySem.W.InstAt s.heap x ox C od) (hb : Looks (model prog w) s.heap (typeOf b) tb) (hn : PySem.W.notFirst K C tb = true)
    (hs : PySem.W.findIn K (.ref C) "__ne__" = some (some (.builtin "object.__ne__"))) (hm : PySem.W.mroIn K C (.type "object") = some true) (he : PySem.W.findIn K (.ref C) "__eq__" = some (some (.ref f))) (hf : PySem.W.isFn K (.ref f) = true)
    (h : wpAny (model prog w) A.in1 (call (.ref f) [.ref x, b]) (fun v s' => ∃ k, v = .bool k ∧ Q (.bool (!k)) s') E s) : wpAny (model prog w) A (richCompare .NotEq (.ref x) b) Q E s := by
  have one : wpAny (model prog w) A (tryCompare (.ref x) "__ne__" b) (fun r s' => ∃ v, r = some v ∧ Q v s') E s := by
    unfold tryCompare
    refine wpAny_bind (ifBound_objNe X I hs (call_objNe hu X I hm he hf (wpAny_mono h (fun v s' z => ?_) fun _ _ e => e)))
    obtain ⟨k, rfl, q⟩ := z
    exact ⟨k, rfl, wpAny_pure ⟨_, rfl, q⟩⟩
  simp only [richCompare, PySem.cmpInfo_NotEq, oneThing_ref]
  refine wpAny_holding (wpAny_bind (wpAny_cRoomFor (by omega) ?_))
  refine wpAny_bind (I.type.here (wpAny_bind (hb.here ?_)))
  split
  · rename_i q
    have e : PySem.W.subIn K tb (.ref C) = some false := by
      rcases Bool.or_eq_true_iff.mp hn with e | e
      · rw [beq_iff_eq.mp e] at q; simp at q
      · exact beq_iff_eq.mp e
    refine wpAny_bind ((PySem.W.looks_subIn X e).here ?_)
    simp only [Bool.false_eq_true, if_false]
    refine wpAny_bind (m := tryCompare (.ref x) _ b) (wpAny_mono one (fun r s' z => ?_) fun _ _ e => e)
    obtain ⟨v, rfl, hq⟩ := z
    exact wpAny_pure hq
  · refine wpAny_bind (wpAny_pure ?_)
    simp only [Bool.false_eq_true, if_false]
    refine wpAny_bind (m := tryCompare (.ref x) _ b) (wpAny_mono one (fun r s' z => ?_) fun _ _ e => e)
    obtain ⟨v, rfl, hq⟩ := z
    exact wpAny_pure hq
end
section
variable {X : Cx} {Y : Ctx} {e e2 : Expr} {a b : E} {p pos apos : Pos} {x : Str} {c : Nat} {es : List Expr} {cs : List E}
theorem ty_of_y {m2 : Mem} {H2 : Hp} {C : Addr} {y : D} {v : V} {u : Value} {pins : List (Addr × Obj)} {σ : L2.St} {s : Shared} (I : Inv X pins σ H2 s) (ru : RelV v u) (rv : Rep X.K m2 H2 v y) (h : (∃ z, y = .str z) ∨ ∃ ns vs, y = .ob C ns vs) :
    ∃ tb, Looks (model X.prog X.w) s.heap (typeOf u) tb ∧ PySem.W.notFirst X.K C tb = true := by
  rcases h with ⟨z, rfl⟩ | ⟨ns, vs, rfl⟩
  · rw [rv.str] at ru
    obtain ⟨t, rfl⟩ := (show ∃ t, u = Value.str z t from ru)
    refine ⟨.type "str", ?_, ?_⟩
    · intro A Q E s' k q
      exact wpAny_of_eq rfl q
    · unfold PySem.W.notFirst
      rw [sub_str]
      simp
  · obtain ⟨q, dx, ws, rfl, h00, hH, hlv, rs⟩ := rv.ob
    obtain rfl : u = Value.ref q := ru
    obtain ⟨ox, od, J⟩ := ob_inst I hH
    refine ⟨.ref C, J.type, ?_⟩
    unfold PySem.W.notFirst
    simp
/-- o == e, o != e -/
def semEqO (Y : Ctx) (j c : Nat) (neg : Bool) : D → D → Mem → KD → Prop := fun x y m Q => ∃ ns vs, x = .ob (Y.cls c) ns vs ∧ ((∃ z, y = .str z) ∨ ∃ ns' vs', y = .ob (Y.cls c) ns' vs') ∧ Y.fn j [x, y] m fun d m3 => onB d fun k => Q (.bl (k != neg)) m3
theorem opD_eqO {k j : Nat} {g : Addr} {fd : FuncData} {ps : List Str} {neg : Bool} {op : CmpOp} (hop : op = if neg then .NotEq else .Eq) (hu : X.A.units + 64 < cLine) (hs : PySem.W.findIn X.K (.ref (Y.cls c)) "__eq__" = some (some (.ref g))) (hf : PySem.W.isFn X.K (.ref g) = true)
    (hne : neg = true → PySem.W.findIn X.K (.ref (Y.cls c)) "__ne__" = some (some (.builtin "object.__ne__"))) (hmr : PySem.W.mroIn X.K (Y.cls c) (.type "object") = some true)
    (F : FnG X.prog X.w X.K X.mg X.base k g fd ps (spK X.K 2 (Y.fn j))) (hG : X.A.guards = some []) (hr : Room (k + 1) X.A) (hb : Binds X.K fd ps []) : OpD X (compareOp op) (semEqO Y j c neg) := by
  have opr : OpR X (compareOp op) (fun x y H Q => ∃ q dx fs m y', x = .ref q ∧ H q = some (.ins (Y.cls c) dx fs) ∧ Rep X.K m H y y' ∧ ((∃ z, y' = .str z) ∨ ∃ ns vs, y' = .ob (Y.cls c) ns vs) ∧ spK X.K 2 (Y.fn j) [.ref q, y] H (fun v H2 => ∃ b, v = .bl b ∧ Q (.bl (b != neg)) H2) allE) := by
    intro pins s σ H x y v u Q I rx ry h
    obtain ⟨q, dx, fs, m, y', rfl, hH, ryd, hy, hsp⟩ := h
    obtain rfl : v = Value.ref q := rx
    obtain ⟨ox, od, J⟩ := ob_inst I hH
    obtain ⟨mm, hF⟩ := I.fr
    obtain ⟨tb, hL, hnf⟩ := ty_of_y I ry ryd hy
    subst hop
    cases neg with
    | true =>
      refine ne_K (by omega) I.kIn J hL hnf (hne rfl) hmr hs hf ?_
      refine wpAny_mono (F.inner (B := X.A.in1) (E := X.xe) (guards_in1 hG) hr.in1 I.env0.in1 hb I (us := [.ref q, u]) (vs := [.ref q, y]) (.cons rfl (.cons ry .nil)) hsp) (fun w s' z => ?_) fun _ _ z => z
      obtain ⟨v', H', I', rv, b, rfl, qz⟩ := z
      cases (show w = Value.bool b from rv)
      exact ⟨b, rfl, .bl (!b), H', I', rfl, by simpa using qz⟩
    | false =>
      refine PySem.W.cmp_K (op := .Eq) hr.units0 hF I.ok.mod.kin J hL hnf hs hf ?_
      refine wpAny_mono (F.inner (B := X.A) (E := X.xe) hG (hr.mono (Nat.le_succ k)) I.env0 hb I (us := [.ref q, u]) (vs := [.ref q, y]) (.cons rfl (.cons ry .nil)) hsp) (fun w s' z => ?_) fun _ _ z => z
      obtain ⟨v', H', I', rv, b, rfl, qz⟩ := z
      cases (show w = Value.bool b from rv)
      exact ⟨.bl b, H', I', rfl, by simpa using qz⟩
  refine ⟨_, opr, fun x y d e m2 H2 Q Q' hm2 rx ry ⟨ns, vs, ed, hy, q1⟩ fin => ?_⟩
  subst ed
  obtain ⟨q, dx, ws, rfl, h00, hH, hlv, rs⟩ := id rx.ob
  refine ⟨q, dx, _, m2, _, rfl, hH, ry, hy, ob_sp rx (by simp only [Reps]; exact ⟨_, [], rfl, ry, rfl⟩) rfl hm2 q1 fun d2 m3 v2 H3 q3 rv3 hm3 st3 => ?_⟩
  obtain ⟨b, e1, q3⟩ := onB_out q3
  subst e1
  exact ⟨b, rv3.bl, fin _ _ _ _ q3 rep_bl hm3 st3⟩
/-- what isinstance asks of a class -/
structure IsiC (K : PySem.W.Frag) (C : Addr) : Prop where
  cl : Cls K C
  ha : PySem.W.findIn K (.ref C) "__class__" = some (some (.builtin "object.__class__"))
  hn : PySem.W.specialIn K (.builtin "object.__class__") "__get__" = some (some (.builtin "getset_descriptor.__get__"))
  htk : PySem.W.takesIn K (.builtin "object.__class__") = some true
  hm : PySem.W.mroIn K C (.type "object") = some true
  me : PySem.W.kitOne K (.ref C) (.ref C) = some true
  ms : PySem.W.kitOne K (.type "str") (.ref C) = some false
/-- isinstance(e, C) -/
theorem r_isiO {tp : Pos} {tx : Str} (k : IsiC X.K (Y.cls c)) (hs : notStar e = true) (hg : Gl X "isinstance") (hm : X.mg "isinstance" = none) (hg2 : Gl X tx) (hm2 : X.mg tx = some (.ref (Y.cls c))) (hd2 : (tx == ("__debug__" : Str)) = false)
    (ha : PE X e (tE X.K Y a)) : PE X (.Call (.Name "isinstance" p) [e, .Name tx tp] [] pos) (tE X.K Y (.isiO a c)) := by
  have hty : PE X (.Name tx tp) (tC (.ref (Y.cls c))) := pe_glob hg2 hm2 rfl hd2
  have key := pe_callB (X := X) (p := p) (pos := pos) call_isi hg hm (by decide +kernel) (pa_cons ha (pa_cons hty pa_nil rfl) (star_no hs)) (by decide +kernel) (by decide +kernel) (star_no hs) rfl
  refine key.imp fun σ H Q _ ⟨r, m, Qd, he, q, f⟩ => ?_
  simp only [ev] at q
  refine ⟨r, m, _, he, q, fun d m1 v H1 q1 rv hm s => ?_⟩
  rcases q1 with ⟨ns, vs, ed, q1⟩ | ⟨⟨z, ed⟩, q1⟩
  · subst ed
    obtain ⟨q, dx, ws, rfl, h00, hH, hlv, rs⟩ := rv.ob
    exact ⟨_, _, .ref (Y.cls c), _, true, rfl, .own _, .base (.ins hH k.cl k.ha k.hn k.htk k.hm), k.me, (f.mono s).here hm rep_bl q1⟩
  · subst ed
    rw [rv.str]
    exact ⟨_, _, .type "str", _, false, rfl, .own _, .base (.str z), k.ms, (f.mono s).here hm rep_bl q1⟩
end
end Og
end
section
set_option maxHeartbeats 4000000
set_option autoImplicit false
/-! Og: dict(zip(..)) of a list or a tuple each, keys tuples. -/
namespace Og
open PySem PySem.Spec PyProof.Rows L2

section
variable {prog : Program} {w : World} {A : Around} {E : Value → Shared → Prop} {s : Shared} {z TI TO i1 i2 T : Addr} {f : Bool} {oT : Obj} {fp1 fp2 : List Addr} {n1 n2 i : Nat} {P1 P2 : Nat → Value → Prop} {St1 St2 : Nat → Heap → Prop}
theorem zipD_item_held {Q : Value → Shared → Prop} (S : ZipSep2 z TI TO i1 i2 fp1 fp2) (D1 : Draws prog w A i1 fp1 n1 P1 St1) (D2 : Draws prog w A i2 fp2 n2 P2 St2)
    (hz : IsZipHeld s.heap z TI TO T f) (hT : s.heap.get? T = some oT) (hTI : IsPair s.heap TI (.ref i1) (.ref i2)) (st1 : St1 i s.heap) (st2 : St2 i s.heap) (hlt1 : i < n1) (hlt2 : i < n2)
    (hQ : ∀ x1 x2 h' tk, P1 i x1 → P2 i x2 → IsZipHeld h' z TI TO T true → St1 (i + 1) h' → St2 (i + 1) h' → IsPair h' s.heap.objs.size x1 x2 → h'.objs.size = s.heap.objs.size + 1 →
      (∀ c o, c ≠ z → c ≠ i1 → c ≠ i2 → s.heap.get? c = some o → h'.get? c = some o) → Q (.ref s.heap.objs.size) { s with heap := h', toks := tk }) :
    wpAny (model prog w) A (Builtin.«zip.__next__» ⟨[.ref z], []⟩) (fun fin s' => ∃ v, fin = .done (.ret v) ∧ Q v s') E s := by
  obtain ⟨hp, g, d, tk0, os⟩ := s
  show wpAny _ _ (field (.ref z) 2 >>= _) _ _ _
  refine wpAny_bind (wpAny_field hz rfl (x := .bool false) rfl ?_)
  show wpAny _ _ (field (.ref z) 3 >>= _) _ _ _
  refine wpAny_bind (wpAny_field hz rfl (x := .ref TI) rfl ?_)
  refine wpAny_bind (wpAny_seqItems hTI rfl ?_)
  show wpAny _ _ (Builtin.SmallTypes.ownedTupleIsFree (.ref z) >>= _) _ _ _
  refine wpAny_bind (wpAny_tupleHeld_zip hz hT fun h₁ hz₁ hs₁ => ?_)
  simp only [Bool.false_eq_true, if_false]
  refine wpAny_bind ?_
  rw [← Array.forIn_toList]
  simp only [List.forIn_cons, List.forIn_nil]
  refine wpAny_bind (wpAny_bind (wpAny_holding ?_))
  show wpAny _ _ (Builtin.SmallTypes.nextOf (.ref i1) >>= _) _ _ ⟨h₁, g, d, tk0, os⟩
  replace hs₁ : Heap.SameBut z hp h₁ := hs₁
  refine wpAny_bind (D1.item i _ _ _ hlt1 (D1.over st1 hs₁ S.zf1) fun x1 p1 tk1 hx1 sn1 hp1 => wpAny_pure ?_)
  replace hp1 : Heap.SameBut i1 h₁ p1 := hp1
  refine wpAny_pure ?_
  refine wpAny_bind (wpAny_bind (wpAny_holding ?_))
  show wpAny _ _ (Builtin.SmallTypes.nextOf (.ref i2) >>= _) _ _ ⟨p1, g, d, tk1, os⟩
  refine wpAny_bind (D2.item i _ _ _ hlt2 (D2.over (D2.over st2 hs₁ S.zf2) hp1 S.sep1_2) fun x2 p2 tk2 hx2 sn2 hp2 => wpAny_pure ?_)
  replace hp2 : Heap.SameBut i2 p1 p2 := hp2
  refine wpAny_pure (wpAny_pure ?_)
  show wpAny _ _ (newTuple [x1, x2] >>= _) _ _ ⟨p2, g, d, tk2, os⟩
  refine wpAny_bind (wpAny_newTuple ?_)
  have hsz : p2.objs.size = hp.objs.size := by rw [hp2.1, hp1.1, hs₁.1]
  have hz₃ : IsZipHeld p2 z TI TO T true := hp2.extBut _ _ S.zi2 (hp1.extBut _ _ S.zi1 hz₁)
  have hk : ∀ c o, c ≠ z → c ≠ i1 → c ≠ i2 → hp.get? c = some o → p2.get? c = some o := fun c o c1 c2 c3 e => hp2.extBut _ _ c3 (hp1.extBut _ _ c2 (hs₁.extBut _ _ c1 e))
  have up : ∀ c o, p2.get? c = some o → (p2.push { cls := .type "tuple", data := .seq #[x1, x2] }).get? c = some o := fun c o e => Heap.get?_push_of_some _ e
  refine wpAny_pure ⟨_, rfl, ?_⟩
  show Q (.ref p2.objs.size) _
  have hp' : IsPair (p2.push { cls := .type "tuple", data := .seq #[x1, x2] }) p2.objs.size x1 x2 := Heap.get?_push_size _ rfl
  have hz4 : (p2.push { cls := .type "tuple", data := .seq #[x1, x2] }).objs.size = p2.objs.size + 1 := Heap.size_push ..
  rw [hsz] at hp' hz4 ⊢
  exact hQ x1 x2 _ tk2 hx1 hx2 (up _ _ hz₃) (D1.frame _ _ _ (D1.over sn1 hp2 S.sep2_1) fun b _ o e => up b o e) (D2.frame _ _ _ sn2 fun b _ o e => up b o e) hp' hz4 fun c o c1 c2 c3 e => up c o (hk c o c1 c2 c3 e)
theorem zipD_end_held {Q : PySem.Fin → Shared → Prop} (S : ZipSep2 z TI TO i1 i2 fp1 fp2) (D1 : Draws prog w A i1 fp1 n1 P1 St1) (D2 : Draws prog w A i2 fp2 n2 P2 St2)
    (hz : IsZipHeld s.heap z TI TO T f) (hT : s.heap.get? T = some oT) (hTI : IsPair s.heap TI (.ref i1) (.ref i2)) (st1 : St1 i s.heap) (st2 : St2 i s.heap) (hle1 : i ≤ n1) (hle2 : i ≤ n2) (hend : i = n1 ∨ i = n2)
    (hE : ∀ h' tk e, (∀ c o, c ≠ z → c ≠ i1 → c ≠ i2 → s.heap.get? c = some o → h'.get? c = some o) → (∃ o, h'.get? e = some o ∧ o.cls = .type "StopIteration") → E (.ref e) { s with heap := h', toks := tk }) :
    wpAny (model prog w) A (Builtin.«zip.__next__» ⟨[.ref z], []⟩) Q E s := by
  obtain ⟨hp, g, d, tk0, os⟩ := s
  show wpAny _ _ (field (.ref z) 2 >>= _) _ _ _
  refine wpAny_bind (wpAny_field hz rfl (x := .bool false) rfl ?_)
  show wpAny _ _ (field (.ref z) 3 >>= _) _ _ _
  refine wpAny_bind (wpAny_field hz rfl (x := .ref TI) rfl ?_)
  refine wpAny_bind (wpAny_seqItems hTI rfl ?_)
  show wpAny _ _ (Builtin.SmallTypes.ownedTupleIsFree (.ref z) >>= _) _ _ _
  refine wpAny_bind (wpAny_tupleHeld_zip hz hT fun h₁ hz₁ hs₁ => ?_)
  simp only [Bool.false_eq_true, if_false]
  refine wpAny_bind ?_
  rw [← Array.forIn_toList]
  simp only [List.forIn_cons, List.forIn_nil]
  refine wpAny_bind (wpAny_bind (wpAny_holding ?_))
  show wpAny _ _ (Builtin.SmallTypes.nextOf (.ref i1) >>= _) _ _ ⟨h₁, g, d, tk0, os⟩
  replace hs₁ : Heap.SameBut z hp h₁ := hs₁
  by_cases hlt1 : i < n1
  · refine wpAny_bind (D1.item i _ _ _ hlt1 (D1.over st1 hs₁ S.zf1) fun x1 p1 tk1 hx1 sn1 hp1 => wpAny_pure ?_)
    replace hp1 : Heap.SameBut i1 h₁ p1 := hp1
    have hi2 : i = n2 := by omega
    refine wpAny_pure ?_
    refine wpAny_bind (wpAny_bind (wpAny_holding ?_))
    show wpAny _ _ (Builtin.SmallTypes.nextOf (.ref i2) >>= _) _ _ ⟨p1, g, d, tk1, os⟩
    refine wpAny_bind (D2.done ⟨p1, g, d, tk1, os⟩ _ _ (by rw [← hi2]; exact D2.over (D2.over st2 hs₁ S.zf2) hp1 S.sep1_2) fun q e hq he => ?_)
    exact hE q tk1 e (fun c o c1 c2 c3 x => hq _ _ c3 (hp1.extBut _ _ c2 (hs₁.extBut _ _ c1 x))) he
  · have hi1 : i = n1 := by omega
    refine wpAny_bind (D1.done ⟨h₁, g, d, tk0, os⟩ _ _ (by rw [← hi1]; exact D1.over st1 hs₁ S.zf1) fun q e hq he => ?_)
    exact hE q tk0 e (fun c o c1 c2 _ x => hq _ _ c2 (hs₁.extBut _ _ c1 x)) he
theorem next_zipD_item_held {Q : Option Value → Shared → Prop} (S : ZipSep2 z TI TO i1 i2 fp1 fp2) (D1 : Draws prog w A.in1 i1 fp1 n1 P1 St1) (D2 : Draws prog w A.in1 i2 fp2 n2 P2 St2)
    (hz : IsZipHeld s.heap z TI TO T f) (hT : s.heap.get? T = some oT) (hTI : IsPair s.heap TI (.ref i1) (.ref i2)) (st1 : St1 i s.heap) (st2 : St2 i s.heap) (hlt1 : i < n1) (hlt2 : i < n2)
    (hQ : ∀ x1 x2 h' tk, P1 i x1 → P2 i x2 → IsZipHeld h' z TI TO T true → St1 (i + 1) h' → St2 (i + 1) h' → IsPair h' s.heap.objs.size x1 x2 → h'.objs.size = s.heap.objs.size + 1 →
      (∀ c o, c ≠ z → c ≠ i1 → c ≠ i2 → s.heap.get? c = some o → h'.get? c = some o) → Q (some (.ref s.heap.objs.size)) { s with heap := h', toks := tk }) :
    wpAny (model prog w) A (pyNext (.ref z)) Q E s := by
  have hTy : s.TypeIs (.ref z) "zip" := ⟨_, hz, rfl⟩
  unfold pyNext
  exact wpAny_bind (wpAny_attempt (wpAny_callSpecial?_slot (name := Str.ofString "__next__") hTy F.slot_zip_next
    (wpAny_call_entry F.slot_zip_next hTy F.entry_zip_next
      (zipD_item_held S D1 D2 hz hT hTI st1 st2 hlt1 hlt2 fun x1 x2 h' tk a0 a1 a3 a4 a5 a6 a7 a8 => wpAny_pure (hQ x1 x2 h' tk a0 a1 a3 a4 a5 a6 a7 a8)) (F.args_zip_next_1 _))))
theorem next_zipD_end_held {Q : Option Value → Shared → Prop} (S : ZipSep2 z TI TO i1 i2 fp1 fp2) (D1 : Draws prog w A.in1 i1 fp1 n1 P1 St1) (D2 : Draws prog w A.in1 i2 fp2 n2 P2 St2)
    (hz : IsZipHeld s.heap z TI TO T f) (hT : s.heap.get? T = some oT) (hTI : IsPair s.heap TI (.ref i1) (.ref i2)) (st1 : St1 i s.heap) (st2 : St2 i s.heap) (hle1 : i ≤ n1) (hle2 : i ≤ n2) (hend : i = n1 ∨ i = n2)
    (hQ : ∀ h' tk, (∀ c o, c ≠ z → c ≠ i1 → c ≠ i2 → s.heap.get? c = some o → h'.get? c = some o) → Q none { s with heap := h', toks := tk }) : wpAny (model prog w) A (pyNext (.ref z)) Q E s := by
  have hTy : s.TypeIs (.ref z) "zip" := ⟨_, hz, rfl⟩
  unfold pyNext
  refine wpAny_bind (wpAny_attempt (wpAny_callSpecial?_slot (name := Str.ofString "__next__") hTy F.slot_zip_next
    (wpAny_call_entry F.slot_zip_next hTy F.entry_zip_next (zipD_end_held S D1 D2 hz hT hTI st1 st2 hle1 hle2 hend fun h' tk e hk he => ?_) (F.args_zip_next_1 _))))
  obtain ⟨o, ho, hc⟩ := he
  refine wpAny_bind (wpAny_isInstance (T := "StopIteration") (b := true) ⟨o, ho, hc⟩ isSubtype_stop ?_)
  exact wpAny_pure (hQ _ _ hk)
end
section
variable {prog : Program} {w : World}
theorem SqO.at {k : Bool} {h h' : Heap} {a : Addr} {its : Array Value} (s : SqO k h a its) (kp : ∀ o, h.get? a = some o → h'.get? a = some o) : SqO k h' a its := by
  cases k with
  | true => exact (show h.IsList a its from s).at kp
  | false =>
    obtain ⟨o, ho, r⟩ := (show h.IsTuple a its from s)
    exact (show h'.IsTuple a its from ⟨o, kp o ho, r⟩)
theorem SqO.obj {k : Bool} {h : Heap} {a : Addr} {its : Array Value} (s : SqO k h a its) : ∃ o, h.get? a = some o := by
  cases k with
  | true => obtain ⟨o, ho, _⟩ := (show h.IsList a its from s); exact ⟨o, ho⟩
  | false => obtain ⟨o, ho, _⟩ := (show h.IsTuple a its from s); exact ⟨o, ho⟩
theorem pair_zipK (z TI TO i1 i2 l1 l2 : Addr) (k l : Bool) (S : ZipSep2 z TI TO i1 i2 [i1, l1] [i2, l2]) (ne1 : l1 ≠ i1) (ne2 : l2 ≠ i2) (xs ys : Array Value) :
    PairArg prog w "zip" z [z, TI, TO, i1, i2, l1, l2] [z, TO, i1, i2] (min xs.size ys.size) (fun i k v => xs[i]? = some k ∧ ys[i]? = some v)
      (fun h => IsZip h z TI TO .none ∧ IsPair h TI (.ref i1) (.ref i2) ∧ (∃ a b, IsPair h TO a b) ∧ (SqI k h i1 l1 0 ∧ SqO k h l1 xs) ∧ (SqI l h i2 l2 0 ∧ SqO l h l2 ys)) where
  type := fun s ok => ⟨_, ok.1, rfl⟩
  notDict := by decide
  keep := fun h h' ok hk => by
    obtain ⟨hz, hTI, ⟨a, b, hTO⟩, ⟨h1, hl1⟩, ⟨h2, hl2⟩⟩ := ok
    exact ⟨hk _ _ hz, hk _ _ hTI, ⟨a, b, hk _ _ hTO⟩, ⟨h1.at fun o e => hk _ o e, hl1.at fun o e => hk _ o e⟩, h2.at fun o e => hk _ o e, hl2.at fun o e => hk _ o e⟩
  there := fun h ok b hb => by
    obtain ⟨hz, hTI, ⟨a, c, hTO⟩, ⟨h1, hl1⟩, ⟨h2, hl2⟩⟩ := ok
    obtain ⟨o1, h1, _⟩ := h1.obj
    obtain ⟨o2, h2, _⟩ := h2.obj
    obtain ⟨o3, hl1⟩ := hl1.obj
    obtain ⟨o4, hl2⟩ := hl2.obj
    simp only [List.mem_cons, List.not_mem_nil, or_false] at hb
    rcases hb with rfl | rfl | rfl | rfl | rfl | rfl | rfl
    all_goals first | exact ⟨_, hz⟩ | exact ⟨_, hTI⟩ | exact ⟨_, hTO⟩ | exact ⟨_, h1⟩ | exact ⟨_, h2⟩ | exact ⟨_, hl1⟩ | exact ⟨_, hl2⟩
  sub := fun b hb => by simp at hb ⊢; rcases hb with rfl | rfl | rfl | rfl <;> simp
  noKeys := fun A s Q E hA ok h => getAttrOr_miss_zip ok.1 rfl rfl rfl zip_no_keys (by decide +kernel) hA h
  iter := fun A s d Q E hA ok hd hdf h => by
    obtain ⟨hz, hTI, ⟨a, b, hTO⟩, ⟨h1, hl1⟩, ⟨h2, hl2⟩⟩ := ok
    simp only [List.mem_cons, List.not_mem_nil, or_false, not_or] at hdf
    obtain ⟨dz, dTI, dTO, di1, di2, dl1, dl2⟩ := hdf
    have D1 := sq_draws (prog := prog) (w := w) (A := A.in1) (hh := hA) k i1 l1 ne1 xs
    have D2 := sq_draws (prog := prog) (w := w) (A := A.in1) (hh := hA) l i2 l2 ne2 ys
    refine wpAny_pyIter_zip hz (h z [z, TO, i1, i2] (fun i h => IsPair h TI (.ref i1) (.ref i2) ∧ (SqI k h i1 l1 i ∧ SqO k h l1 xs) ∧ (SqI l h i2 l2 i ∧ SqO l h l2 ys) ∧
      ((IsZip h z TI TO .none ∧ ∃ a b, IsPair h TO a b) ∨ ∃ T f oT, IsZipHeld h z TI TO T f ∧ h.get? T = some oT ∧ T ≠ z ∧ T ≠ i1 ∧ T ≠ i2 ∧ T ≠ d)) s.heap s.toks ?_
      ⟨hTI, ⟨h1, hl1⟩, ⟨h2, hl2⟩, .inl ⟨hz, a, b, hTO⟩⟩ (fun _ _ e => e) fun b hb => .inl hb)
    exact {
      off := fun hm => by
        simp only [List.mem_cons, List.not_mem_nil, or_false] at hm
        rcases hm with e | e | e | e
        · exact dz e
        · exact dTO e
        · exact di1 e
        · exact di2 e
      frame := fun i h₁ h₂ st hk => by
        obtain ⟨hTI, ⟨h1, hl1⟩, ⟨h2, hl2⟩, hz⟩ := st
        refine ⟨hk _ _ (Ne.symm dTI) hTI, ⟨h1.at fun o e => hk _ o (Ne.symm di1) e, hl1.at fun o e => hk _ o (Ne.symm dl1) e⟩, ⟨h2.at fun o e => hk _ o (Ne.symm di2) e, hl2.at fun o e => hk _ o (Ne.symm dl2) e⟩, ?_⟩
        rcases hz with ⟨hz, a, b, hTO⟩ | ⟨T, f, oT, hz, hT, r1, r2, r3, r4⟩
        · exact .inl ⟨hk _ _ (Ne.symm dz) hz, a, b, hk _ _ (Ne.symm dTO) hTO⟩
        · exact .inr ⟨T, f, oT, hk _ _ (Ne.symm dz) hz, hk _ _ r4 hT, r1, r2, r3, r4⟩
      item := fun i s₁ Q₁ E₁ hi st hds hQ => by
        obtain ⟨hTI, st1, st2, hz⟩ := st
        have hix : i < xs.size := Nat.lt_of_lt_of_le hi (Nat.min_le_left ..)
        have hiy : i < ys.size := Nat.lt_of_lt_of_le hi (Nat.min_le_right ..)
        have lt : ∀ {c o}, s₁.heap.get? c = some o → s₁.heap.objs.size ≠ c := fun e => Nat.ne_of_gt (Heap.lt_size e)
        have n1 : s₁.heap.objs.size ≠ i1 := let ⟨_, e, _⟩ := st1.1.obj; lt e
        have n2 : s₁.heap.objs.size ≠ i2 := let ⟨_, e, _⟩ := st2.1.obj; lt e
        rcases hz with ⟨hz, a, b, hTO⟩ | ⟨T, f, oT, hz, hT, r1, r2, r3, r4⟩
        · refine wpAny_pyNext_zipD2_item S D1 D2 hz hTI hTO st1 st2 hix hiy fun x1 x2 h' tk p1 p2 a1 a2 a3 a4 a5 a6 hk => ?_
          exact hQ s₁.heap.objs.size _ _ h' tk ⟨p1, p2⟩ (.inl ⟨_, a5, rfl, _, rfl⟩)
            ⟨hk _ _ S.TIz S.TITO S.TIi1 S.TIi2 hTI, a3, a4, .inr ⟨s₁.heap.objs.size, false, _, a1, a5, lt hz, n1, n2, Nat.ne_of_gt hds⟩⟩
            fun c o hc e => hk c o (fun x => hc (by simp [x])) (fun x => hc (by simp [x])) (fun x => hc (by simp [x])) (fun x => hc (by simp [x])) e
        · refine next_zipD_item_held S D1 D2 hz hT hTI st1 st2 hix hiy fun x1 x2 h' tk p1 p2 a1 a3 a4 a5 a6 hk => ?_
          exact hQ s₁.heap.objs.size _ _ h' tk ⟨p1, p2⟩ (.inl ⟨_, a5, rfl, _, rfl⟩)
            ⟨hk _ _ S.TIz S.TIi1 S.TIi2 hTI, a3, a4, .inr ⟨T, true, oT, a1, hk _ _ r1 r2 r3 hT, r1, r2, r3, r4⟩⟩
            fun c o hc e => hk c o (fun x => hc (by simp [x])) (fun x => hc (by simp [x])) (fun x => hc (by simp [x])) e
      done := fun s₁ Q₁ E₁ st hQ => by
        obtain ⟨hTI, st1, st2, hz⟩ := st
        have le1 : min xs.size ys.size ≤ xs.size := Nat.min_le_left ..
        have le2 : min xs.size ys.size ≤ ys.size := Nat.min_le_right ..
        have hend : min xs.size ys.size = xs.size ∨ min xs.size ys.size = ys.size := by omega
        rcases hz with ⟨hz, a, b, hTO⟩ | ⟨T, f, oT, hz, hT, r1, r2, r3, r4⟩
        · exact wpAny_pyNext_zipD2_end S D1 D2 hz hTI hTO st1 st2 le1 le2 hend fun h' tk hk => hQ h' tk fun c o hc e => hk c o (fun x => hc (by simp [x])) (fun x => hc (by simp [x])) (fun x => hc (by simp [x])) (fun x => hc (by simp [x])) e
        · exact next_zipD_end_held S D1 D2 hz hT hTI st1 st2 le1 le2 hend fun h' tk hk => hQ h' tk fun c o hc e => hk c o (fun x => hc (by simp [x])) (fun x => hc (by simp [x])) (fun x => hc (by simp [x])) e }
end
end Og
end
section
set_option maxHeartbeats 4000000
set_option autoImplicit false
/-! Og: dict(zip(tuples, values)). -/
namespace Og
open PySem PySem.Spec PyProof.Rows L2

theorem storedAll_new {κ : Type} [DecidableEq κ] : ∀ (ps acc : List (κ × Addr × Value)), (ps.map (·.1)).Nodup → (∀ x ∈ ps, x.1 ∉ acc.map (·.1)) → storedAllH acc ps = acc ++ ps
  | [], acc, _, _ => by simp [storedAllH]
  | p :: ps, acc, hn, hd => by
    have hn' := List.nodup_cons.mp (by simpa using hn : (p.1 :: ps.map (·.1)).Nodup)
    have e : storedH acc p.1 p.2.1 p.2.2 = acc ++ [p] := storedH_new (by
      refine atKey_none_of_get fun j q z => ?_
      exact hd p List.mem_cons_self (List.mem_map.mpr ⟨_, List.mem_of_getElem? z, rfl⟩)) p.2.1 p.2.2
    show storedAllH (storedH acc p.1 p.2.1 p.2.2) ps = _
    rw [e, storedAll_new ps _ hn'.2 fun x hx z => ?_, List.append_assoc]; rfl
    rw [List.map_append, List.mem_append] at z
    rcases z with z | z
    · exact hd x (List.mem_cons_of_mem _ hx) z
    · simp at z
      exact hn'.1 (List.mem_map.mpr ⟨x, hx, z⟩)
def tDZip (K : PySem.W.Frag) (ta : TA) : TE := fun σ H Q => ta σ H fun vs H1 => ∃ (k l : Bool) (a b : Addr) (bs : List Addr) (ks : List (List Key)) (ys : List V), vs = [.ref a, .ref b] ∧ SqK K k H1 a (bs.map V.ref) ∧ SqK K l H1 b ys ∧ ks.length = ys.length ∧ ks.Nodup ∧
  Paired (fun (b : Addr) (k : List Key) => H1 b = some (.tup (k.map kV))) bs ks ∧ ys.length ≤ 1000000 ∧ ∀ p, H1 p = none → Q (.ref p) (L2.upd H1 p (.dT (ks.zip ys)))
theorem zip3_get {κ α β : Type} : ∀ {ks : List κ} {bs : List α} {ys : List β} {i : Nat} {b : α} {y : β}, bs.length = ks.length → bs[i]? = some b → ys[i]? = some y → ∃ k, ks[i]? = some k ∧ (ks.zip (bs.zip ys))[i]? = some (k, b, y)
  | [], [], _, _, _, _, _, h, _ => by simp at h
  | k :: ks, b :: bs, y :: ys, 0, _, _, _, h1, h2 => by
    simp at h1 h2
    subst h1 h2
    exact ⟨k, rfl, rfl⟩
  | k :: ks, b :: bs, y :: ys, i + 1, b', y', hl, h1, h2 => by
    obtain ⟨k', e1, e2⟩ := zip3_get (i := i) (ks := ks) (bs := bs) (ys := ys) (by simpa using hl) (by simpa using h1) (by simpa using h2)
    exact ⟨k', by simpa using e1, by simpa using e2⟩
  | _, _, [], _, _, _, _, _, h => by simp at h
  | [], _ :: _, _, _, _, _, hl, _, _ => by simp at hl
  | _ :: _, [], _, _, _, _, _, h, _ => by simp at h
theorem zip3_mem {H1 : Hp} : ∀ {ks : List (List Key)} {bs : List Addr} {us : List Value}, Paired (fun (b : Addr) (k : List Key) => H1 b = some (.tup (k.map kV))) bs ks → ∀ x ∈ ks.zip (bs.zip us), H1 x.2.1 = some (.tup (x.1.map kV))
  | _, _, _, .nil, x, hx => by simp at hx
  | _, _, [], .cons h t, x, hx => by simp at hx
  | _, _, u :: us, .cons h t, x, hx => by
    rw [List.zip_cons_cons, List.zip_cons_cons] at hx
    rcases List.mem_cons.mp hx with rfl | hx
    · exact h
    · exact zip3_mem t x hx
theorem zip3_kt {H1 : Hp} : ∀ {ks : List (List Key)} {bs : List Addr} {ys : List V} {us : List Value}, Paired (fun (b : Addr) (k : List Key) => H1 b = some (.tup (k.map kV))) bs ks → Vals ys us → ks.length = ys.length →
    Paired (fun (p : List Key × V) (q : List Key × Addr × Value) => p.1 = q.1 ∧ H1 q.2.1 = some (.tup (p.1.map kV)) ∧ RelV p.2 q.2.2) (ks.zip ys) (ks.zip (bs.zip us))
  | _, _, _, _, .nil, r, hl => by simp; exact .nil
  | _, _, [], _, .cons h t, r, hl => by simp at hl
  | _, _, y :: ys, _, .cons h t, .cons r rs, hl => by
    rw [List.zip_cons_cons, List.zip_cons_cons, List.zip_cons_cons]
    exact .cons ⟨rfl, h, r⟩ (zip3_kt t rs (by simpa using hl))
theorem paired_len {α β : Type} {F : α → β → Prop} : ∀ {xs : List α} {ys : List β}, Paired F xs ys → xs.length = ys.length
  | _, _, .nil => rfl
  | _, _, .cons _ t => congrArg Nat.succ (paired_len t)
theorem zip3_fst {κ α β : Type} : ∀ {ks : List κ} {bs : List α} {us : List β}, bs.length = ks.length → us.length = ks.length → (ks.zip (bs.zip us)).map (·.1) = ks
  | [], _, _, _, _ => rfl
  | k :: ks, b :: bs, u :: us, h1, h2 => by
    rw [List.zip_cons_cons, List.zip_cons_cons, List.map_cons, zip3_fst (by simpa using h1) (by simpa using h2)]
  | _ :: _, [], _, h, _ => by cases h
  | _ :: _, _ :: _, [], _, h => by cases h
section
variable {X : Cx} {Y : Ctx} {e e2 : Expr} {a b : E} {p q pos pos' : Pos}
theorem pe_dictZip {ta : TA} (hc : X.calm = true) (hu : X.A.units + 64 < cLine) (hg : Gl X "dict") (hm : X.mg "dict" = none) (hg2 : Gl X "zip") (hm2 : X.mg "zip" = none) (ha : PA X [e, e2] ta)
    (hs : starEach [e, e2] X.env = (false, eval e X.env) :: starEach [e2] X.env) (hpl : (backTo pos' (starEach [e2] X.env)).any (·.1) = false) : PE X (.Call (.Name "dict" p) [.Call (.Name "zip" q) [e, e2] [] pos'] [] pos) (tDZip X.K ta) := by
  have na : starEach [.Call (.Name "zip" q) [e, e2] [] pos'] X.env = (false, eval (.Call (.Name "zip" q) [e, e2] [] pos') X.env) :: starEach [] X.env := rfl
  refine ⟨fun pins s σ H Q I h => ?_⟩
  refine PyProof.Rows.Call_ (ld_blt I hg hm (by decide +kernel : bootBuiltins "dict" = some (.type "dict")) (PyProof.Rows.callWith_type1 (args_cons (PyProof.Rows.Call_ (ld_blt I hg2 hm2 PyProof.Rows.boot_zip (PyProof.Rows.callWith_type1 (thn (ha.run pos' pins s σ H _ I h) fun us s1 ⟨vs, H1, I1, r1, k, l, a, b, bs, ks, ys, ex, hqx, hqy, hl, hn, hpk, hsz, q1⟩ => ?_) hs hpl))) na) na))
  subst ex
  cases r1 with
  | cons r rr =>
    cases rr with
    | cons r' rr =>
      cases rr
      cases r
      cases r'
      obtain ⟨its, rv, o1, la⟩ := hqx.val I1
      obtain ⟨jts, rw', o2, lb⟩ := hqy.val I1
      have ei := refs_at rv
      subst ei
      refine zip_begins2 (sq_begins k a _) (sq_begins l b jts.toArray) o1 o2 fun h' hz hTI hTO h1 h2 hsz' hk => ?_
      have I2 : Inv X pins σ H1 { s1 with heap := h' } := I1.kept (t' := s1.toks) hk
      have S : ZipSep2 (s1.heap.objs.size + 4) (s1.heap.objs.size + 2) (s1.heap.objs.size + 3) s1.heap.objs.size (s1.heap.objs.size + 1) [s1.heap.objs.size, a] [s1.heap.objs.size + 1, b] :=
        zip_sep2 (fp1 := [a]) (fp2 := [b]) (by simpa using la) (by simpa using lb)
      have P := pair_zipK (prog := X.prog) (w := X.w) (s1.heap.objs.size + 4) (s1.heap.objs.size + 2) (s1.heap.objs.size + 3) s1.heap.objs.size (s1.heap.objs.size + 1) a b k l S (Nat.ne_of_lt la) (Nat.ne_of_lt (Nat.lt_succ_of_lt lb)) (bs.map Value.ref).toArray jts.toArray
      refine args_nil ?_
      have lj : ys.length = jts.length := rw'.length
      have lbk : bs.length = ks.length := paired_len hpk
      have there : ∀ x ∈ ks.zip (bs.zip jts), ∃ o its n, s1.heap.get? x.2.1 = some o ∧ o.cls = .type "tuple" ∧ o.data = .seq its n ∧ ItemsAre (mixKind X.prog X.w) x.1 its.toList := fun x hx => by
        obtain ⟨o, its, n, g1, g2, g3, g4⟩ := key_of I1.hok (zip3_mem hpk x hx)
        exact ⟨o, its, n, g1, g2, g3, g4⟩
      have off : ∀ c : Addr, c < s1.heap.objs.size → c ∉ [s1.heap.objs.size + 4, s1.heap.objs.size + 3, s1.heap.objs.size, s1.heap.objs.size + 1] := fun c lt z => by
        rcases (by simpa using z : c = s1.heap.objs.size + 4 ∨ c = s1.heap.objs.size + 3 ∨ c = s1.heap.objs.size ∨ c = s1.heap.objs.size + 1) with z | z | z | z
        · exact Nat.ne_of_lt (Nat.lt_of_lt_of_le lt (Nat.le_add_right _ 4)) z
        · exact Nat.ne_of_lt (Nat.lt_of_lt_of_le lt (Nat.le_add_right _ 3)) z
        · exact Nat.ne_of_lt lt z
        · exact Nat.ne_of_lt (Nat.lt_of_lt_of_le lt (Nat.le_add_right _ 1)) z
      have hlen : (bs.map Value.ref).toArray.size = jts.toArray.size := by simp; omega
      refine call_dict_pairsH (knd := tupleKind (mixKind X.prog X.w)) (ps := ks.zip (bs.zip jts)) (s := { s1 with heap := h' }) P (I1.ok.hd hc) (show (tupleKind (mixKind X.prog X.w)).room X.A.in1.in1 from tupleKind_room_in1 (by show X.A.units + 1 + 1 < cLine; omega)) ⟨hz, hTI, ⟨_, _, hTO⟩, ⟨sqIt_new h1, o1.at fun o e => hk _ o e⟩, sqIt_new h2, o2.at fun o e => hk _ o e⟩ ⟨?_, fun i key v hr => ?_⟩ (fun h2 hk2 x hx => ?_) ?_ fun h2 tk hd hk2 => ?_
      · simp; omega
      · obtain ⟨g1, g2⟩ := hr
        have g1' : (bs.map Value.ref)[i]? = some key := by simpa using g1
        rw [List.getElem?_map] at g1'
        cases eb : bs[i]? with
        | none => rw [eb] at g1'; cases g1'
        | some b0 =>
          rw [eb] at g1'
          obtain ⟨kk, e1, e2⟩ := zip3_get (ys := jts) lbk eb (by simpa using g2 : jts[i]? = some v)
          exact ⟨kk, b0, e2, (Option.some.inj g1').symm⟩
      · obtain ⟨o, its, n, g1, g2, g3, g4⟩ := there x hx
        have lt := Heap.lt_size g1
        exact ⟨o, its, n, hk2 _ _ (Nat.ne_of_lt (Nat.lt_of_lt_of_le lt (by show _ ≤ h'.objs.size; rw [hsz']; exact Nat.le_add_right _ _))) (off _ lt) (hk _ _ g1), g2, g3, g4⟩
      · have : min (bs.map Value.ref).toArray.size jts.toArray.size ≤ jts.length := by simp; omega
        have := line6 hsz
        omega
      · have hpsn : ((ks.zip (bs.zip jts)).map (·.1)) = ks := zip3_fst lbk (by omega)
        rw [storedAll_new _ [] (by rw [hpsn]; exact hn) (by simp), List.nil_append] at hd
        obtain ⟨o, es, ep, d1, d2, d3, d4, d5, d6⟩ := hd
        have kp : ∀ c u, s1.heap.get? c = some u → h2.get? c = some u := fun c u e => by
          have lt := Heap.lt_size e
          exact hk2 c u (off _ lt) (hk c u e)
        have hge : s1.heap.objs.size ≤ h'.objs.size := by rw [hsz']; omega
        refine ⟨.ref h'.objs.size, L2.upd H1 h'.objs.size (.dT (ks.zip ys)), I1.laid (t' := tk) kp hge (show ObjOk X.prog X.w _ _ _ (.dT (ks.zip ys)) from ⟨?_, ?_, ks.zip (bs.zip jts), ?_, o, es, ep, d1, d2, d3, d4, d6⟩), rfl, q1 _ (I1.hok.fresh hge)⟩
        · have := line6 hsz
          rw [List.length_zip]; omega
        · exact beq_eq_false_iff_ne.mpr (Ne.symm (Nat.ne_of_lt (Nat.lt_of_lt_of_le I1.big hge)))
        · have fr := I1.hok.fresh hge
          exact (zip3_kt hpk rw' hl).mono fun x y hxy => ⟨hxy.1, by rw [upd_ne (ne_of_none hxy.2.1 fr)]; exact hxy.2.1, hxy.2.2⟩
theorem lvs_rep {K : PySem.W.Frag} {m : Mem} {H : Hp} : ∀ {ks : List (List Key)} {xs : List V}, Reps K m H xs (ks.map fun k => D.lv (k.map keyD)) → ∃ bs : List Addr, xs = bs.map V.ref ∧ Paired (fun (b : Addr) (k : List Key) => H b = some (.tup (k.map kV))) bs ks
  | [], xs, h => by
    simp only [List.map_nil, Reps] at h
    exact ⟨[], h, .nil⟩
  | k :: ks, xs, h => by
    simp only [List.map_cons, Reps] at h
    obtain ⟨v, r, rfl, h1, h2⟩ := h
    obtain ⟨a, ys, rfl, _, hH, rs⟩ := h1.lv
    obtain ⟨bs, rfl, hp⟩ := lvs_rep h2
    rw [keysD_rep rs] at hH
    exact ⟨a :: bs, rfl, .cons hH hp⟩
theorem r_dZip {mu : Bool} (hc : X.calm = true) (hu : X.A.units + 64 < cLine) (hs : notStar e = true) (hs2 : notStar e2 = true) (hg : Gl X "dict") (hm : X.mg "dict" = none) (hg2 : Gl X "zip") (hm2 : X.mg "zip" = none) (ha : PE X e (tE X.K Y a)) (hb : PE X e2 (tE X.K Y b)) : PE X (.Call (.Name "dict" p) [.Call (.Name "zip" q) [e, e2] [] pos'] [] pos) (tE X.K Y (.dZip mu a b)) :=
  (pe_dictZip hc hu hg hm hg2 hm2 (pa_cons ha (pa_cons hb pa_nil (star_no hs2)) (star_no hs)) (star_no hs) (plainArgs (by simpa using hs2))).imp fun σ H Q _ ⟨r, m, Qd, he, q, fin⟩ => by
    simp only [ev] at q
    refine two he q fun x y dx dy m2 H2 rx ry hm s ⟨ks, ds, hds, hes, hl, hn, hz, q1⟩ => ?_
    obtain ⟨k, ad, rfl, h⟩ := seqK hm rx hds
    obtain ⟨l, bd, rfl, h'⟩ := seqK hm ry hes
    obtain ⟨xs, hq, rs⟩ := h m2 H2 (by cases dx <;> simp [guard]) hm Step.refl
    obtain ⟨ys, hq', rs'⟩ := h' m2 H2 (by cases dy <;> simp [guard]) hm Step.refl
    obtain ⟨bs, rfl, hpk⟩ := lvs_rep rs
    have hly : ks.length = ys.length := by rw [hl, rs'.length]
    exact ⟨k, l, ad, bd, bs, ks, ys, rfl, hq, hq', hly, hn, hpk, by omega, (fin.mono s).dT hm hly rs' q1⟩
theorem r_ltup {es : List Expr} {cs : List E} {k : Nat} (h : PA X es (tAs X.K Y cs)) : PE X (.Tuple es k pos) (tE X.K Y (.ltup cs)) := (pe_tup h).imp fun σ H Q _ ⟨r, m, Qd, he, q, f⟩ => by
  simp only [ev] at q
  refine ⟨r, m, _, he, q, fun ds m1 vs H1 ⟨hl, q1⟩ rs hm s => ⟨by rw [rs.length]; exact line6 hl, fun p hp => ?_⟩⟩
  refine f _ m1 _ _ q1 ?_ (hm.fresh hp) (s.trans (Step.fresh hp))
  simp only [Rep]
  exact ⟨p, vs, rfl, hm.free hp, upd_same, Reps.step (Step.fresh hp) _ _ rs⟩
end
end Og
end
section
set_option maxHeartbeats 4000000
set_option autoImplicit false
/-! Og: split, join, the signs of a text; lists unpacked; two sources in a comprehension. -/
namespace Og
open PySem PySem.Spec PyProof.Rows L2

def okBase2 : Expr → Bool
  | .Constant (.str _) _ _ => true
  | e => okBase e
theorem base_of2 {o : Expr} {x : Str} {env : PySem.Env} (h : okBase2 o = true) : attributeBase o x env (eval o env) = eval o env := by
  unfold okBase2 at h
  split at h
  · rfl
  · exact base_of h
theorem strs_rep {K : PySem.W.Frag} {m : Mem} {H : Hp} : ∀ {zs : List Str} {vs : List V}, Reps K m H vs (zs.map D.str) → vs = zs.map V.str
  | [], vs, h => by simpa [Reps] using h
  | z :: zs, vs, h => by
    simp only [List.map_cons, Reps] at h
    obtain ⟨v, r, rfl, h1, h2⟩ := h
    rw [h1.str, strs_rep h2]; rfl
theorem rep_strs {K : PySem.W.Frag} {m : Mem} {H : Hp} : ∀ {zs : List Str}, Reps K m H (zs.map V.str) (zs.map D.str)
  | [] => by simp [Reps]
  | z :: zs => by
    simp only [List.map_cons, Reps]
    exact ⟨_, _, rfl, rep_str, rep_strs⟩
section
variable {X : Cx} {Y : Ctx} {e e2 : Expr} {a b : E} {p q pos apos : Pos}
theorem r_split {mu : Bool} (hs : notStar e2 = true) (hob : okBase2 e = true) (hl : (apos.endLine == pos.line) = true) (ha : PE X e (tE X.K Y a)) (hb : PE X e2 (tE X.K Y b)) : PE X (.Call (.Attribute e "split" apos) [e2] [] pos) (tE X.K Y (.split mu a b)) :=
  (pe_split ha hb (by rw [star_no hs]; rfl) (base_of2 hob) hl).imp fun σ H Q _ ⟨r, m, Qd, he, q, fin⟩ => by
    simp only [ev] at q
    refine ⟨r, m, _, he, q, fun d m1 v H1 ⟨⟨z, ed⟩, q1⟩ rv hm s => ⟨⟨z, by subst ed; exact rv.str⟩, r, m1, _, he.step s hm, q1, fun d2 m2 v2 H2 ⟨z', w, e1, e2, hw, hz, q2⟩ rv2 hm2 s2 => ?_⟩⟩
    subst e1 e2
    exact ⟨z', w, rv.str, by rw [rv2.str], hw, by rw [sizeLine_eq]; omega, (fin.mono (s.trans s2)).lst hm2 rep_strs q2⟩
theorem r_join (hs : notStar e2 = true) (hob : okBase2 e = true) (hl : (apos.endLine == pos.line) = true) (ha : PE X e (tE X.K Y a)) (hb : PE X e2 (tE X.K Y b)) : PE X (.Call (.Attribute e "join" apos) [e2] [] pos) (tE X.K Y (.join a b)) :=
  (pe_join ha hb (by rw [star_no hs]; rfl) (base_of2 hob) hl).imp fun σ H Q _ ⟨r, m, Qd, he, q, fin⟩ => by
    simp only [ev] at q
    refine ⟨r, m, _, he, q, fun d m1 v H1 ⟨⟨z, ed⟩, q1⟩ rv hm s => ⟨⟨z, by subst ed; exact rv.str⟩, r, m1, _, he.step s hm, q1, fun d2 m2 v2 H2 ⟨w, zs, e1, hsq, hz, q2⟩ rv2 hm2 s2 => ?_⟩⟩
    subst e1
    obtain ⟨p, xs, rfl, rs, hq⟩ := seq_val hm2 rv2 hsq
    have ex := strs_rep rs
    subst ex
    exact ⟨w, p, zs, rv.str, rfl, hq, by omega, (fin.mono (s.trans s2)).here hm2 rep_str q2⟩
theorem i_signs {tg : Expr} (ha : PE X e (tE X.K Y a)) : PI X tg e (tIt X.K Y (.signs a)) :=
  (pi_str ha).imp fun σ H R _ ⟨r, m, Qd, he, q, fin⟩ => by
    simp only [evI] at q
    refine ⟨r, m, _, he, q, fun d m1 v H1 ⟨z, ed, hz, q1⟩ rv hm s => ?_⟩
    subst ed
    have hlen : z.cps.size ≤ 1000000 := hz
    refine ⟨z, rv.str, fin _ _ _ _ _ q1 hm s ⟨fun i d m H hi _ hm st => ?_, fun i d m H x H' hi _ hm st hy => ?_, fun m H _ hm st => ?_, ?_⟩⟩
    · have := (List.getElem?_eq_some_iff.mp hi).1
      show i < z.cps.size
      simpa using this
    · obtain ⟨rfl, c, hc, rfl⟩ := hy
      refine ⟨hm, Step.refl, ?_⟩
      rw [List.getElem?_map, Array.getElem?_toList, hc] at hi
      cases hi
      exact rep_str
    · show z.cps.size ≤ _
      simp
    · simp
      exact line6 hlen
/-- a list unpacked -/
theorem g_lst {es : List Expr} {ts : List Tg} {k : Nat} (hc : X.calm = true) (hs : es.all notStarT = true) (hl : es.length = ts.length) (h : PGs X es (tTgs X.K ts)) : PG X (.Tuple es k pos) (tTg X.K (.lst ts)) := by
  obtain ⟨h1, h2⟩ := assign_all (env := X.env) hs
  refine (pg_unl (n := es.length) hc h h1 h2).imp fun v σ H Q ⟨r, m, d, Kd, he, rv, q, f⟩ => ?_
  simp only [setT] at q
  obtain ⟨ds, rfl, q⟩ := q
  obtain ⟨a, xs, ex, hq, rs⟩ := rv.lst
  refine ⟨a, xs, ex, hq.sq, ?_, r, m, ds, Kd, he, rs, q, fun r' σ' k he' ho => f r' σ' k he' ?_⟩
  · rw [rs.length, hl, (setTs_out ts q).1]
  · simpa only [Tg.slots] using ho
theorem lc2_of {mu : Bool} {elt : E} {t1 t2 : Tg} {it1 it2 : Ita} {ifs : List E} {own own2 : List Nat} (hsub : ∀ i ∈ t1.slots, i ∈ own) (hsub2 : ∀ i ∈ t2.slots, i ∈ own2) {σ : L2.St} {H : Hp} {Q : VK} (h : tE X.K Y (.lc2 mu elt t1 it1 t2 it2 ifs own own2) σ H Q) :
    tLc2 (tIt X.K Y it1) (tTg X.K t1) (tTs X.K Y []) (tIt X.K Y it2) (tTg X.K t2) (tTs X.K Y ifs) (tE X.K Y elt) own own2 σ H Q := by
  obtain ⟨r, m, Qd, he, q, fin⟩ := h
  simp only [ev] at q
  refine ⟨r, m, _, he, q, fun ds G m1 J H1 q1 hm1 st1 wk p hD => ?_⟩
  have q2 := q1 p (hm1.free hD)
  generalize hT2 : (fun (r1 : Rho) (d2 : Og.D) (m4 : Mem) (K2 : Option Og.D → Mem → Prop) => setT t2 d2 (wipeD r1 own2) fun r2 => evT Y ifs r2 m4 fun b m5 => if b = true then ev Y elt r2 m5 fun e m6 => K2 (some e) m6 else K2 none m5) = T2 at q2
  generalize hT : (fun (d : Og.D) (acc : List Og.D) (m2 : Mem) (K : List Og.D → Mem → Prop) => setT t1 d (wipeD r own) fun r1 => evI Y it2 r1 m2 fun ds2 G2 m3 => lcI G2 (fun d2 m4 K2 => setT t2 d2 (wipeD r1 own2) fun r2 => evT Y ifs r2 m4 fun b m5 => if b = true then ev Y elt r2 m5 fun e m6 => K2 (some e) m6 else K2 none m5) p ds2 acc m3 K) = T at q2
  generalize hF : lcEnd mu p Qd = F at q2
  refine ⟨fun i n H => ∃ m acc, lcO G T p (ds.drop i) acc m F ∧ MemOk X.K m H ∧ Step m1 H1 m H ∧ i ≤ ds.length ∧ n = ds.length - i, ⟨ds.length, put m1 p (.lst []), [], by simpa using q2, hm1.newLst hD (by simp [Reps]), Step.newLst hD, Nat.zero_le _, by omega⟩, fun i n H ⟨m, acc, ql, hm, st, hi, hn⟩ => ?_⟩
  cases ed : ds.drop i with
  | nil =>
    have el : ds.length = i := by
      have := congrArg List.length ed
      simp at this
      omega
    rw [ed] at ql
    simp only [lcO] at ql
    obtain ⟨g, hp, qf⟩ := ql
    have hstop := wk.st m H g hm st
    rw [el] at hstop
    refine .inl ⟨hstop, ?_⟩
    rw [← hF] at qf
    cases mu with
    | true => exact fin _ _ _ _ qf rep_ref hm (st1.trans st)
    | false =>
      obtain ⟨f1, f2, f3⟩ := freeze hm hp
      exact fin _ _ _ _ qf f3 f1 (st1.trans (st.trans f2))
  | cons d ds' =>
    have hlt : i < ds.length := by
      have := congrArg List.length ed
      simp at this
      omega
    have hd : ds[i]? = some d := by
      have := List.drop_eq_getElem_cons hlt
      rw [ed] at this
      rw [List.getElem?_eq_getElem hlt]
      injection this with h1 h2
      rw [h1]
    have hds : ds' = ds.drop (i + 1) := by
      have := List.drop_eq_getElem_cons hlt
      rw [ed] at this
      injection this
    rw [ed] at ql
    simp only [lcO] at ql
    obtain ⟨g, qt⟩ := ql
    refine .inr ⟨wk.go i d m H hd g hm st, fun H' => ∃ m acc, lcO G T p ds' acc m F ∧ MemOk X.K m H' ∧ Step m1 H1 m H', fun H' ⟨m', acc', z1, z2, z3⟩ => ⟨ds.length - (i + 1), by omega, m', acc', by rw [← hds]; exact z1, z2, z3, by omega, rfl⟩, fun x H' hy => ?_⟩
    obtain ⟨hm', st', rx⟩ := wk.yl i d m H x H' hd g hm st hy
    rw [← hT] at qt
    refine ⟨wipeD r own, m, d, _, (he.step (st1.trans (st.trans st')) hm').wipe own, rx, qt, fun r' σ' qk he' ho => ⟨(ho own hsub).trans (wipe_idem own), r', m, fun b m3 => b = true ∧ m3 = m, he', by simp [evT], fun b m3 H3 q3 hm3 s3 => ?_⟩⟩
    obtain ⟨rfl, rfl⟩ := q3
    rw [if_pos rfl]
    have sa := st.trans (st'.trans s3)
    refine ⟨r', m3, _, he'.step s3 hm3, qk, fun ds2 G2 m4 J1 H4 q4 hm4 s4 wk2 => ?_⟩
    have he4 := (he'.step s3 hm3).step s4 hm4
    generalize hTi : (fun (d2 : Og.D) (m4 : Mem) (K2 : Option Og.D → Mem → Prop) => setT t2 d2 (wipeD r' own2) fun r2 => evT Y ifs r2 m4 fun b m5 => if b = true then ev Y elt r2 m5 fun e m6 => K2 (some e) m6 else K2 none m5) = Ti at q4
    rw [hT] at q4
    refine ⟨fun j n H => ∃ m acc, lcI G2 Ti p (ds2.drop j) acc m (fun acc' m' => lcO G T p ds' acc' m' F) ∧ MemOk X.K m H ∧ Step m4 H4 m H ∧ j ≤ ds2.length ∧ n = ds2.length - j, ⟨ds2.length, m4, acc, by simpa using q4, hm4, Step.refl, Nat.zero_le _, by omega⟩, fun j n H ⟨m, acc, ql, hm, stj, hj, hnj⟩ => ?_⟩
    cases ed2 : ds2.drop j with
    | nil =>
      have el : ds2.length = j := by
        have := congrArg List.length ed2
        simp at this
        omega
      rw [ed2] at ql
      simp only [lcI] at ql
      obtain ⟨g2, hp, qf⟩ := ql
      have hstop := wk2.st m H g2 hm stj
      rw [el] at hstop
      exact .inl ⟨hstop, m, acc, qf, hm, sa.trans (s4.trans stj)⟩
    | cons d2 ds2' =>
      have hlt2 : j < ds2.length := by
        have := congrArg List.length ed2
        simp at this
        omega
      have hd2 : ds2[j]? = some d2 := by
        have := List.drop_eq_getElem_cons hlt2
        rw [ed2] at this
        rw [List.getElem?_eq_getElem hlt2]
        injection this with h1 h2
        rw [h1]
      have hds2 : ds2' = ds2.drop (j + 1) := by
        have := List.drop_eq_getElem_cons hlt2
        rw [ed2] at this
        injection this
      rw [ed2] at ql
      simp only [lcI] at ql
      obtain ⟨g2, qt2⟩ := ql
      refine .inr ⟨wk2.go j d2 m H hd2 g2 hm stj, fun H' => ∃ m acc, lcI G2 Ti p ds2' acc m (fun acc' m' => lcO G T p ds' acc' m' F) ∧ MemOk X.K m H' ∧ Step m4 H4 m H', fun H' ⟨m', acc', z1, z2, z3⟩ => ⟨ds2.length - (j + 1), by omega, m', acc', by rw [← hds2]; exact z1, z2, z3, by omega, rfl⟩, fun x2 H5 hy2 => ?_⟩
      obtain ⟨hm5, st5, rx2⟩ := wk2.yl j d2 m H x2 H5 hd2 g2 hm stj hy2
      rw [← hTi] at qt2
      refine ⟨wipeD r' own2, m, d2, _, (he4.step (stj.trans st5) hm5).wipe own2, rx2, qt2, fun r3 σ3 qk3 he3 ho3 => ⟨(ho3 own2 hsub2).trans (wipe_idem own2), r3, m, _, he3, qk3, fun b m6 H6 q6 hm6 s6 => ?_⟩⟩
      cases b with
      | true =>
        rw [if_pos rfl] at q6 ⊢
        refine ⟨r3, m6, _, he3.step s6 hm6, q6, fun e m7 y H7 ⟨hp, hz, q7⟩ ry hm7 s7 => ?_⟩
        obtain ⟨vs, hH, rs⟩ := hm7 p _ hp
        have sw := Step.write (o := HO.lst (vs ++ [y])) (c' := .lst (acc ++ [e])) (H := H7) hp
        refine ⟨vs, hH, ?_, put m7 p (.lst (acc ++ [e])), acc ++ [e], by rw [← hTi]; exact q7, hm7.writeLst hp (rs.append (by simp only [Reps]; exact ⟨y, [], rfl, ry, rfl⟩)), stj.trans (st5.trans (s6.trans (s7.trans sw)))⟩
        rw [rs.length, sizeLine_eq]
        omega
      | false =>
        rw [if_neg Bool.false_ne_true] at q6 ⊢
        obtain ⟨hp, q7⟩ := q6
        exact ⟨m6, acc, by rw [← hTi]; exact q7, hm6, stj.trans (st5.trans s6)⟩
theorem r_lc2 {mu : Bool} {elt : E} {t1 t2 : Tg} {it1 it2 : Ita} {ifs : List E} {own own2 : List Nat} {oP : List (Str × Nat)} {elx tg1 itx1 tg2 itx2 : Expr} {ifx : List Expr} {scope : Scope} (hc : X.calm = true) (hN : X.N.Nodup) (hi : PI X tg1 itx1 (tIt X.K Y it1)) (ok : BlkOk X.N X.env.scope scope oP) (ho : oP.map (·.2) = own) (hsub : ∀ i ∈ t1.slots, i ∈ own) (hsub2 : ∀ i ∈ t2.slots, i ∈ own2) (hv : ∀ i ∈ own2, i ∈ own)
    (hg : ∀ (s : Shared) (H : Hp) (C : Addr) (cl : List (Str × Addr)) (fp : List Addr), PG (X.blk s H scope (compEnvC scope cl C X.env) fp) tg1 (tTg X.K t1))
    (hi2 : ∀ (s : Shared) (H : Hp) (C : Addr) (cl : List (Str × Addr)) (fp : List Addr), PI (X.blk s H scope (compEnvC scope cl C X.env) fp) tg2 itx2 (tIt X.K Y it2))
    (hg2 : ∀ (s : Shared) (H : Hp) (C : Addr) (cl : List (Str × Addr)) (fp : List Addr), PG (X.blk s H scope (compEnvC scope cl C X.env) fp) tg2 (tTg X.K t2)) (ht : ∀ (s : Shared) (H : Hp) (C : Addr) (cl : List (Str × Addr)) (fp : List Addr), PTs (X.blk s H scope (compEnvC scope cl C X.env) fp) ifx (tTs X.K Y ifs))
    (he : ∀ (s : Shared) (H : Hp) (C : Addr) (cl : List (Str × Addr)) (fp : List Addr), PE (X.blk s H scope (compEnvC scope cl C X.env) fp) elx (tE X.K Y elt)) (hs : notSet itx1 = true) (hs2 : notSet itx2 = true) :
    PE X (.ListComp elx [⟨tg1, itx1, [], 0⟩, ⟨tg2, itx2, ifx, 0⟩] scope pos) (tE X.K Y (.lc2 mu elt t1 it1 t2 it2 ifs own own2)) :=
  (pe_lc2 hc hN hi ok (by rw [ho]; exact hv) hg (fun s H C cl fp => ts_nil (X := X.blk s H scope (compEnvC scope cl C X.env) fp)) hi2 hg2 ht he (set_no hs) (fun _ => set_no hs2)).imp fun σ H Q _ h => by rw [ho]; exact lc2_of hsub hsub2 h
end
end Og
end
section
set_option maxHeartbeats 4000000
set_option autoImplicit false
/-! Og: a name set by a comprehension of two sources. -/
namespace Og
open PySem PySem.Spec PyProof.Rows L2
section
variable {X : Cx} {Y : Ctx} {pos : Pos}
theorem s_asgC2 {i : Nat} {y : Str} {py : Pos} {mu : Bool} {elt : E} {t1 t2 : Tg} {it1 it2 : Ita} {ifs : List E} {own own2 : List Nat} {oP : List (Str × Nat)} {elx tg1 itx1 tg2 itx2 : Expr} {ifx : List Expr} {scope : Scope} {lpos : Pos} (hc : X.calm = true) (hN : X.N.Nodup) (hk : X.env.scope.kind = .function) (hy : X.N[i]? = some y) (hyl : X.env.scope.names.lookup y = some .local)
    (hsw : swapB X.env.scope scope y py.line lpos.line = true) (hi : PI X tg1 itx1 (tIt X.K Y it1)) (ok : BlkOk X.N X.env.scope scope oP) (ho : oP.map (·.2) = own) (hsub : ∀ i ∈ t1.slots, i ∈ own) (hsub2 : ∀ i ∈ t2.slots, i ∈ own2) (hv : ∀ i ∈ own2, i ∈ own)
    (hg : ∀ (s : Shared) (H : Hp) (C : Addr) (cl : List (Str × Addr)) (fp : List Addr), PG (X.blk s H scope (compEnvC scope cl C X.env) fp) tg1 (tTg X.K t1))
    (hi2 : ∀ (s : Shared) (H : Hp) (C : Addr) (cl : List (Str × Addr)) (fp : List Addr), PI (X.blk s H scope (compEnvC scope cl C X.env) fp) tg2 itx2 (tIt X.K Y it2))
    (hg2 : ∀ (s : Shared) (H : Hp) (C : Addr) (cl : List (Str × Addr)) (fp : List Addr), PG (X.blk s H scope (compEnvC scope cl C X.env) fp) tg2 (tTg X.K t2)) (ht : ∀ (s : Shared) (H : Hp) (C : Addr) (cl : List (Str × Addr)) (fp : List Addr), PTs (X.blk s H scope (compEnvC scope cl C X.env) fp) ifx (tTs X.K Y ifs))
    (he : ∀ (s : Shared) (H : Hp) (C : Addr) (cl : List (Str × Addr)) (fp : List Addr), PE (X.blk s H scope (compEnvC scope cl C X.env) fp) elx (tE X.K Y elt)) (hs : notSet itx1 = true) (hs2 : notSet itx2 = true) :
    PS X (.Assign [.Name y py] (.ListComp elx [⟨tg1, itx1, [], 0⟩, ⟨tg2, itx2, ifx, 0⟩] scope lpos) pos) (tS X.K Y (.asgC2 i (.lc2 mu elt t1 it1 t2 it2 ifs own own2))) :=
  (ps_setLc2 hc hN hy hyl (by rw [swap_lc hk, hsw]) hi ok (by rw [ho]; exact hv) hg (fun s H C cl fp => ts_nil (X := X.blk s H scope (compEnvC scope cl C X.env) fp)) hi2 hg2 ht he (set_no hs) (fun _ => set_no hs2)).imp fun σ H Q _ ⟨r, m, k, he, q, f⟩ => by
    simp only [ex] at q
    rw [ho]
    exact lc2_of hsub hsub2 ⟨r, m, _, he, q, fun d m1 v H1 q1 rv hm s => f.nx _ _ _ _ q1 ((he.step s hm).set i rv) s⟩
end
end Og
end
section
set_option maxHeartbeats 4000000
set_option autoImplicit false
/-! Og: tables, the look at a def's syntax, and that it says what the core term says. -/
namespace Og
open PySem PySem.Spec PyProof.Rows L2

inductive FK where
  | top (x : Str) | meth (c : Nat) (m : Str) | init (c : Nat) | prop (c : Nat) (f : Str)
structure Tb where
  gs : List Str
  fs : List (FK × Nat)
  /-- a class: plain (true: its objects have dicts, these variables) or slotted (these slots) -/
  cs : List (Str × Bool × List Str)
  kw : List (Nat × List Str × List Nat)
  bl : List Str

def FkOk (K : PySem.W.Frag) (mg : Str → Option Value) (Y : Ctx) (f : Addr) : FK → Prop
  | .top x => mg x = some (.ref f) ∧ PySem.W.keepIn K (.ref f) = true
  | .meth c m => Meth K (Y.cls c) m f
  | .init c => Mk K (Y.cls c) f
  | .prop c x => ∃ p, PropOf K (Y.cls c) x p f
/-- what a division of long numbers asks of the heap -/
structure Seer3 (h : Heap) : Prop where
  statics : ∃ mc, h.Ns cStatics mc ∧ mc "sys.audit-hooks" = none ∧ mc "sys.dict" = none
  mods : ∃ mm, h.Ns sysModules mm ∧ mm "_pylong" = none
  main : ∃ mg bm ob, h.Ns mainGlobals mg ∧ mg "__builtins__" = some (.ref bm) ∧ h.get? bm = some ob ∧ ob.cls = .type "module" ∧ ob.dict = some builtinsNs
/-- what is known of a plain class -/
structure PCls (K : PySem.W.Frag) (C : Addr) (fs : List Str) : Prop where
  isi : IsiC K C
  ne : PySem.W.findIn K (.ref C) "__ne__" = some (some (.builtin "object.__ne__"))
  no : ∀ f ∈ fs, NoAttr K C f
/-- what is known of the module -/
structure Fx (P : Program) (w : World) (K : PySem.W.Frag) (mg : Str → Option Value) (base : Heap) (T : Tb) (Y : Ctx) (k : Nat) : Prop where
  gs : ∀ (j : Nat) (x : Str), T.gs[j]? = some x → ∃ v u d, mg x = some u ∧ RelV v u ∧ Y.gd[j]? = some d ∧ ∀ m H, Rep K m H v d
  fs : ∀ (j : Nat) (q : FK) (n : Nat), T.fs[j]? = some (q, n) → ∃ (f : Addr) (fd : FuncData) (ps : List Str), FnG P w K mg base k f fd ps (spK K n (Y.fn j)) ∧ Binds K fd ps [] ∧ FkOk K mg Y f q ∧
    ∀ ks pm, (j, ks, pm) ∈ T.kw → KBinds K fd ps ks (kwG .none pm) (kwG .non pm)
  cs : ∀ (c : Nat) (x : Str) (pl : Bool) (sl : List Str), T.cs[c]? = some (x, pl, sl) → mg x = some (.ref (Y.cls c)) ∧ (pl = false → SlX.SCls K (Y.cls c) ∧ ∀ (i : Nat) (f : Str), sl[i]? = some f → ∃ p, SlX.Slot1 K (Y.cls c) f p i) ∧ (pl = true → PCls K (Y.cls c) sl)
  bl : ∀ x ∈ T.bl, mg x = none
  sr : Seer3 base
  tr : P.given.tree = none
  lv : 40 ≤ k

structure XOk (T : Tb) (Y : Ctx) (k : Nat) (N : List Str) (sc : Scope) (X : Cx) : Prop where
  fx : Fx X.prog X.w X.K X.mg X.base T Y k
  scE : X.env.scope = sc
  kind : sc.kind = .function
  nE : X.N = N
  nd : N.Nodup
  calm : X.calm = true
  room : Room (k + 1) X.A
  gd : X.A.guards = some []
  stk : ∃ e l, X.stack = e :: l ∧ e.scope.isGenerator = false ∧ e.scope.isCoroutine = false ∧ e.builtins = builtinsNs ∧ e.globals = mainGlobals
/-- a comprehension's scope, as it runs -/
def relS (scope sc : Scope) : Scope := { scope with names := scope.names.map fun (n, k) => if (k == NameKind.free && sc.kind == .function && sc.names.lookup n == some .cell) then (n, NameKind.cell) else (n, k) }
theorem relS_of {scope : Scope} {env : PySem.Env} : PySem.relabel scope env = relS scope env.scope := rfl
theorem XOk.blk {T : Tb} {Y : Ctx} {k : Nat} {N : List Str} {sc : Scope} {X : Cx} (x : XOk T Y k N sc X) {scope : Scope} (hk : scope.kind = .function) (s : Shared) (H : Hp) (C : Addr) (cl : List (Str × Addr)) (fp : List Addr) :
    XOk T Y k N (relS scope sc) (X.blk s H scope (compEnvC scope cl C X.env) fp) :=
  ⟨x.fx, by show PySem.relabel scope X.env = _; rw [relS_of, x.scE], hk, x.nE, x.nd, x.calm, x.room, x.gd, x.stk⟩

/-! ### the look -/
def visB (sc : Scope) (x : Str) : Bool := match sc.names.lookup x with
  | some .local => true | some .cell => true | some .free => true
  | _ => false
def locB (sc : Scope) (x : Str) : Bool := match sc.names.lookup x with
  | some .local => true | some .cell => true
  | _ => false
def lclB (sc : Scope) (x : Str) : Bool := match sc.names.lookup x with
  | some .local => true
  | _ => false
def celB (sc : Scope) (x : Str) : Bool := match sc.names.lookup x with
  | some .cell => true
  | _ => false
def glB (sc : Scope) (x : Str) : Bool := match sc.names.lookup x with
  | some .globalImplicit => true
  | _ => false
def dbgB (x : Str) : Bool := !(x == ("__debug__" : Str))
def bltB (T : Tb) (sc : Scope) (x : Str) : Bool := glB sc x && decide (x ∈ T.bl)
def bopB : BOp → Operator → Bool := fun o p => decide (p = o.py)
def copB : COp → CmpOp → Bool := fun o p => decide (p = o.py)
def isiNm : List (Str × String) := [("int", "int"), ("bool", "bool"), ("tuple", "tuple"), ("str", "str"), ("list", "list"), ("dict", "dict")]
structure Rec where
  e : Scope → Expr → E → Bool
  t : Scope → Expr → E → Bool
def chkAnd (f : Expr → E → Bool) : List Expr → E → Bool
  | [e], c => f e c
  | e :: e2 :: r, .and a b => f e a && chkAnd f (e2 :: r) b
  | _, _ => false
def chkOr (f : Expr → E → Bool) : List Expr → E → Bool
  | [e], c => f e c
  | e :: e2 :: r, .or a b => f e a && chkOr f (e2 :: r) b
  | _, _ => false
def notStarE : E → Bool
  | .star _ => false
  | _ => true
def chkAs (f : Expr → E → Bool) : List Expr → List E → Bool
  | [], [] => true
  | .Starred e _ :: es, .star a :: cs => f e a && chkAs f es cs
  | e :: es, c :: cs => notStar e && notStarE c && f e c && chkAs f es cs
  | _, _ => false
def chkDs (f : Expr → E → Bool) : List (Option Expr) → List Expr → List Key → List E → Bool
  | [], [], [], [] => true
  | some k :: kx, e :: vx, key :: ks, c :: cs => keyB k key && notStarE c && f e c && chkDs f kx vx ks cs
  | _, _, _, _ => false
def chkK (f : Expr → E → Bool) : List Keyword → List E → Bool
  | [], [] => true
  | k :: ks, c :: cs => notStarE c && f k.value c && chkK f ks cs
  | _, _ => false
def chkO (f : Expr → E → Bool) : Option Expr → Option E → Bool
  | none, none => true
  | some e, some c => f e c
  | _, _ => false
mutual
def chkTg (N : List Str) (sc fsc : Scope) : Tg → Expr → Bool
  | .nm i, e => (match e with
    | .Name x _ => decide (N[i]? = some x) && locB sc x && (lclB sc x || celB fsc x)
    | _ => false)
  | .tup ts, e => (match e with
    | .Tuple es _ _ => es.all notStarT && chkTgs N sc fsc ts es
    | _ => false)
  | .lst ts, e => (match e with
    | .Tuple es _ _ => es.all notStarT && chkTgs N sc fsc ts es
    | _ => false)
def chkTgs (N : List Str) (sc fsc : Scope) : List Tg → List Expr → Bool
  | [], [] => true
  | t :: ts, e :: es => notStarT e && chkTg N sc fsc t e && chkTgs N sc fsc ts es
  | _, _ => false
end
def isTup : Expr → Bool
  | .Tuple .. => true
  | _ => false
def fkTop (T : Tb) (j : Nat) (x : Str) (n : Nat) : Bool := match T.fs[j]? with
  | some (.top y, k) => decide (y = x) && (k == n)
  | _ => false
def fkInit (T : Tb) (j c : Nat) (n : Nat) : Bool := match T.fs[j]? with
  | some (.init d, k) => (d == c) && (k == n)
  | _ => false
def fkMeth (T : Tb) (j c : Nat) (m : Str) (n : Nat) : Bool := match T.fs[j]? with
  | some (.meth d y, k) => (d == c) && decide (y = m) && (k == n)
  | _ => false
def clsB (T : Tb) (c : Nat) (x : Str) : Bool := match T.cs[c]? with
  | some (y, _, _) => decide (y = x)
  | _ => false
def sclB (T : Tb) (c : Nat) : Bool := match T.cs[c]? with
  | some (_, false, _) => true
  | _ => false
def pclB (T : Tb) (c : Nat) : Bool := match T.cs[c]? with
  | some (_, true, _) => true
  | _ => false
def fldB (T : Tb) (c : Nat) (f : Str) : Bool := match T.cs[c]? with
  | some (_, true, sl) => decide (f ∈ sl)
  | _ => false
def fkProp (T : Tb) (j c : Nat) (f : Str) : Bool := match T.fs[j]? with
  | some (.prop d y, k) => (d == c) && decide (y = f) && (k == 1)
  | _ => false
def slotB (T : Tb) (c i : Nat) (f : Str) : Bool := match T.cs[c]? with
  | some (_, false, sl) => decide (sl[i]? = some f)
  | _ => false
def isZ : E → Bool
  | .int i => i == 0
  | _ => false
section
variable (T : Tb) (N : List Str) (R : Rec)
def stepI (sc : Scope) (tg e : Expr) : Ita → Bool
  | .sq a => R.e sc e a
  | .rg1 a => (match e with
    | .Call (.Name x _) [e1] [] _ => decide (x = "range") && bltB T sc x && notStar e1 && R.e sc e1 a
    | _ => false)
  | .rg2 a b => (match e with
    | .Call (.Name x _) [e1, e2] [] _ => decide (x = "range") && bltB T sc x && notStar e1 && notStar e2 && R.e sc e1 a && R.e sc e2 b
    | _ => false)
  | .enum a => (match e with
    | .Call (.Name x _) [e1] [] _ => decide (x = "enumerate") && bltB T sc x && isTup tg && notStar e1 && R.e sc e1 a
    | _ => false)
  | .zip a b => (match e with
    | .Call (.Name x _) [e1, e2] [] _ => decide (x = "zip") && bltB T sc x && isTup tg && notStar e1 && notStar e2 && R.e sc e1 a && R.e sc e2 b
    | _ => false)
  | .signs a => R.e sc e a
def ownP (own : List Nat) : List (Str × Nat) := own.map fun i => (N.getD i Str.empty, i)
def chkLc (sc : Scope) (elx tgx itx : Expr) (ifx : List Expr) (scope : Scope) (elt : E) (t : Tg) (it : Ita) (ifs : List E) (own : List Nat) : Bool :=
  blkC N sc scope (ownP N own) && notSet itx && t.slots.all (fun i => decide (i ∈ own)) && stepI T R sc tgx itx it && chkTg N (relS scope sc) scope t tgx && R.e (relS scope sc) elx elt &&
    (match ifx, ifs with
    | [], [] => true
    | [e], [c] => R.t (relS scope sc) e c
    | _, _ => false)
def chkLc2 (sc : Scope) (elx tg1 itx1 tg2 itx2 : Expr) (ifx : List Expr) (scope : Scope) (elt : E) (t1 : Tg) (it1 : Ita) (t2 : Tg) (it2 : Ita) (ifs : List E) (own own2 : List Nat) : Bool :=
  blkC N sc scope (ownP N own) && notSet itx1 && notSet itx2 && t1.slots.all (fun i => decide (i ∈ own)) && t2.slots.all (fun i => decide (i ∈ own2)) && own2.all (fun i => decide (i ∈ own)) && stepI T R sc tg1 itx1 it1 && chkTg N (relS scope sc) scope t1 tg1 &&
    stepI T R (relS scope sc) tg2 itx2 it2 && chkTg N (relS scope sc) scope t2 tg2 && R.e (relS scope sc) elx elt &&
    (match ifx, ifs with
    | [], [] => true
    | [e], [c] => R.t (relS scope sc) e c
    | _, _ => false)
def stepE (sc : Scope) (e : Expr) (c : E) : Bool := match c with
  | .non => (match e with | .Constant .none _ _ => true | _ => false)
  | .bl b => (match e with | .Constant (.bool b') _ _ => b == b' | _ => false)
  | .int i => (match e with | .Constant (.int j) _ _ => decide (i = j) | _ => false)
  | .str x => (match e with | .Constant (.str y) _ _ => decide (x = y) | _ => false)
  | .x i => (match e with | .Name y _ => decide (N[i]? = some y) && visB sc y && dbgB y && !(y == ("__classdict__" : Str)) | _ => false)
  | .g j => (match e with | .Name y _ => decide (T.gs[j]? = some y) && glB sc y && dbgB y | _ => false)
  | .bop o a b => (match e with | .BinOp l op r _ => bopB o op && R.e sc l a && R.e sc r b | _ => false)
  | .neg a => (match e with | .UnaryOp .USub x _ => R.e sc x a | _ => false)
  | .cmp o a b => (match e with | .Compare l [op] [r] _ => copB o op && !(behindInMarks op r) && R.e sc l a && R.e sc r b | _ => false)
  | .ch o o' a b d => (match e with | .Compare l [op, op'] [r, r'] _ => copB o op && copB o' op' && !(lastMarks [op, op'] [r, r']) && R.e sc l a && R.e sc r b && R.e sc r' d | _ => false)
  | .and a b => (match e with | .BoolOp .And es _ => chkAnd (R.e sc) es (.and a b) | _ => false)
  | .or a b => (match e with | .BoolOp .Or es _ => chkOr (R.e sc) es (.or a b) | _ => false)
  | .not a => (match e with | .UnaryOp .Not x _ => R.e sc x a | _ => false)
  | .ife d a b => (match e with | .IfExp t x y _ => R.t sc t d && R.e sc x a && R.e sc y b | _ => false)
  | .tup cs => (match e with | .Tuple es _ _ => chkAs (R.e sc) es cs | _ => false)
  | .lst _ cs => (match e with | .List es _ => chkAs (R.e sc) es cs | _ => false)
  | .star _ => false
  | .ix a i => (match e with | .Subscript o s _ => notSlice s && R.e sc o a && R.e sc s i | _ => false)
  | .sl _ a lo hi => (match e with | .Subscript o (.Slice l h none _) _ => R.e sc o a && chkO (R.e sc) l lo && chkO (R.e sc) h hi | _ => false)
  | .call j cs => (match e with
    | .Call (.Name x _) es [] _ => fkTop T j x cs.length && glB sc x && dbgB x && es.all notStar && chkAs (R.e sc) es cs
    | _ => false)
  | .callk j pm cs => (match e with
    | .Call (.Name x _) [] kws _ => fkTop T j x pm.length && glB sc x && dbgB x && kwAll kws && (cs.length == pm.length) && decide ((j, kwNames kws, pm) ∈ T.kw) && chkK (R.e sc) kws cs
    | _ => false)
  | .b1 f a => (match e with
    | .Call (.Name x _) [e1] [] _ => decide (x = f.py.1) && bltB T sc x && notStar e1 && R.e sc e1 a
    | _ => false)
  | .b2 f a b => (match e with
    | .Call (.Name x _) [e1, e2] [] _ => decide (x = f.py.1) && bltB T sc x && notStar e1 && notStar e2 && R.e sc e1 a && R.e sc e2 b
    | _ => false)
  | .isi a Tn => (match e with
    | .Call (.Name x _) [e1, .Name tx _] [] _ => decide (x = "isinstance") && bltB T sc x && bltB T sc tx && decide ((tx, Tn) ∈ isiNm) && notStar e1 && R.e sc e1 a
    | _ => false)
  | .m1 f a b => (match e with
    | .Call (.Attribute o m apos) [e1] [] pos => decide (m = f.py.1) && okBase o && notStar e1 && (apos.endLine == pos.line) && R.e sc o a && R.e sc e1 b
    | _ => false)
  | .lc _ elt t it ifs own => (match e with
    | .ListComp elx [⟨tgx, itx, ifx, 0⟩] scope _ => chkLc T N R sc elx tgx itx ifx scope elt t it ifs own
    | _ => false)
  | .lrg _ lo hi => (match e with
    | .Call (.Name x _) [.Call (.Name y _) [e1] [] _] [] _ => decide (x = "list") && decide (y = "range") && bltB T sc x && bltB T sc y && isZ lo && notStar e1 && R.e sc e1 hi
    | .Call (.Name x _) [.Call (.Name y _) [e1, e2] [] _] [] _ => decide (x = "list") && decide (y = "range") && bltB T sc x && bltB T sc y && notStar e1 && notStar e2 && R.e sc e1 lo && R.e sc e2 hi
    | _ => false)
  | .slot a c i => (match e with
    | .Attribute o f _ => okBase o && slotB T c i f && R.e sc o a
    | _ => false)
  | .mk c j cs => (match e with
    | .Call (.Name x _) es [] _ => clsB T c x && fkInit T j c (cs.length + 1) && glB sc x && dbgB x && es.all notStar && chkAs (R.e sc) es cs
    | _ => false)
  | .meth j c a cs => (match e with
    | .Call (.Attribute o m apos) es [] pos => fkMeth T j c m (cs.length + 1) && sclB T c && okBase o && decide (es.length < 30) && (apos.endLine == pos.line) && es.all notStar && R.e sc o a && chkAs (R.e sc) es cs
    | _ => false)
  | .frz a => R.e sc e a
  | .never => true
  | .dic ps => (match e with | .Dict ks vs _ => decide (ps.length ≤ 15) && dicB ks vs ps | _ => false)
  | .rev _ a => (match e with | .Subscript o (.Slice none none (some (.UnaryOp .USub (.Constant (.int i) _ _) _)) _) _ => decide (i = 1) && R.e sc o a | _ => false)
  | .m0 f a => (match e with
    | .Call (.Attribute o m apos) [] [] pos => decide (m = f.py) && okBase o && (apos.endLine == pos.line) && R.e sc o a
    | _ => false)
  | .thaw a => R.e sc e a
  | .ltup cs => (match e with | .Tuple es _ _ => chkAs (R.e sc) es cs | _ => false)
  | .disp _ ks cs => (match e with | .Dict kx vx _ => decide (ks.length ≤ 15) && chkDs (R.e sc) kx vx ks cs | _ => false)
  | .dOf _ a => (match e with
    | .Call (.Name x _) [e1] [] _ => decide (x = "dict") && bltB T sc x && notStar e1 && R.e sc e1 a
    | _ => false)
  | .dZip _ a b => (match e with
    | .Call (.Name x _) [.Call (.Name y _) [e1, e2] [] _] [] _ => decide (x = "dict") && decide (y = "zip") && bltB T sc x && bltB T sc y && notStar e1 && notStar e2 && R.e sc e1 a && R.e sc e2 b
    | _ => false)
  | .dItems _ a => (match e with
    | .Call (.Name x _) [.Call (.Attribute o m apos) [] [] cpos] [] _ => decide (x = "list") && decide (m = "items") && bltB T sc x && okBase o && (apos.endLine == cpos.line) && R.e sc o a
    | _ => false)
  | .din neg a b => (match e with | .Compare l [op] [r] _ => decide (op = if neg then .NotIn else .In) && !(behindInMarks op r) && R.e sc l a && R.e sc r b | _ => false)
  | .dget _ _ _ => false
  | .fld a c f => (match e with
    | .Attribute o x _ => decide (x = f) && okBase o && fldB T c f && R.e sc o a
    | _ => false)
  | .prop j c f a => (match e with
    | .Attribute o x _ => decide (x = f) && okBase o && pclB T c && fkProp T j c f && R.e sc o a
    | _ => false)
  | .mkI c j cs => (match e with
    | .Call (.Name x _) es [] _ => clsB T c x && fkInit T j c (cs.length + 1) && glB sc x && dbgB x && es.all notStar && chkAs (R.e sc) es cs
    | _ => false)
  | .methI j c f a cs => (match e with
    | .Call (.Attribute o m apos) es [] pos => decide (m = f) && fkMeth T j c m (cs.length + 1) && pclB T c && okBase o && decide (es.length < 30) && (apos.endLine == pos.line) && es.all notStar && R.e sc o a && chkAs (R.e sc) es cs
    | _ => false)
  | .lenO j c a => (match e with
    | .Call (.Name x _) [e1] [] _ => decide (x = "len") && bltB T sc x && notStar e1 && fkMeth T j c "__len__" 1 && R.e sc e1 a
    | _ => false)
  | .inO j c neg a b => (match e with | .Compare l [op] [r] _ => decide (op = if neg then .NotIn else .In) && !(behindInMarks op r) && fkMeth T j c "__contains__" 2 && R.e sc l a && R.e sc r b | _ => false)
  | .eqO j c neg a b => (match e with | .Compare l [op] [r] _ => decide (op = if neg then .NotEq else .Eq) && !(behindInMarks op r) && pclB T c && fkMeth T j c "__eq__" 2 && R.e sc l a && R.e sc r b | _ => false)
  | .isiO a c => (match e with
    | .Call (.Name x _) [e1, .Name tx _] [] _ => decide (x = "isinstance") && bltB T sc x && glB sc tx && dbgB tx && clsB T c tx && pclB T c && notStar e1 && R.e sc e1 a
    | _ => false)
  | .split _ a b => (match e with
    | .Call (.Attribute o m apos) [e1] [] pos => decide (m = "split") && okBase2 o && notStar e1 && (apos.endLine == pos.line) && R.e sc o a && R.e sc e1 b
    | _ => false)
  | .join a b => (match e with
    | .Call (.Attribute o m apos) [e1] [] pos => decide (m = "join") && okBase2 o && notStar e1 && (apos.endLine == pos.line) && R.e sc o a && R.e sc e1 b
    | _ => false)
  | .lc2 _ elt t1 it1 t2 it2 ifs own own2 => (match e with
    | .ListComp elx [⟨tg1, itx1, [], 0⟩, ⟨tg2, itx2, ifx, 0⟩] scope _ => chkLc2 T N R sc elx tg1 itx1 tg2 itx2 ifx scope elt t1 it1 t2 it2 ifs own own2
    | _ => false)
def plainT : Expr → Bool
  | .UnaryOp .. => false | .BoolOp .. => false | .IfExp .. => false | .Compare .. => false
  | _ => true
def stepT (T : Tb) (sc : Scope) (e : Expr) (c : E) : Bool := match e with
  | .Compare l [op] [r] _ => (match c with
    | .cmp o a b => copB o op && !(behindInMarks op r) && R.e sc l a && R.e sc r b
    | .din neg a b => decide (op = if neg then .NotIn else .In) && !(behindInMarks op r) && R.e sc l a && R.e sc r b
    | .inO j c neg a b => decide (op = if neg then .NotIn else .In) && !(behindInMarks op r) && fkMeth T j c "__contains__" 2 && R.e sc l a && R.e sc r b
    | .eqO j c neg a b => decide (op = if neg then .NotEq else .Eq) && !(behindInMarks op r) && pclB T c && fkMeth T j c "__eq__" 2 && R.e sc l a && R.e sc r b
    | _ => false)
  | .Compare l [op, op'] [r, r'] _ => (match c with
    | .ch o o' a b d => copB o op && copB o' op' && !(lastMarks [op, op'] [r, r']) && R.e sc l a && R.e sc r b && R.e sc r' d
    | _ => false)
  | .UnaryOp .Not x _ => (match c with
    | .not a => R.t sc x a
    | _ => false)
  | .BoolOp .And es _ => chkAnd (R.t sc) es c
  | .BoolOp .Or es _ => chkOr (R.t sc) es c
  | e => plainT e && R.e sc e c
end
def recs (T : Tb) (N : List Str) : Nat → Rec
  | 0 => ⟨fun _ _ _ => false, fun _ _ _ => false⟩
  | n + 1 => ⟨stepE T N (recs T N n), stepT (recs T N n) T⟩

/-! ### statements -/
def swOk (sc : Scope) (tg e : Expr) : Bool := notComp e || notName tg || (match tg, e with
  | .Name y tp, .ListComp _ _ scope lp => !(swapB sc scope y tp.line lp.line)
  | _, _ => false)
def nonLoc (sc : Scope) : Expr → Bool
  | .Name x _ => !(sc.names.lookup x == some .local)
  | _ => true
def swNone (sc : Scope) (tg e : Expr) : Bool := match tg, e with
  | .Tuple ts _ _, .Tuple vs _ _ => (!(ts.length == 2 || ts.length == 3) || vs.length != ts.length) || ts.any (nonLoc sc)
  | .Tuple .., _ => true
  | .Name .., _ => true
  | _, _ => false
/-- two values, none of them starred -/
def swNone2 : Expr → Bool
  | .Tuple [a, b] _ _ => notStar a && notStar b
  | _ => false
def chkSs (f : Stmt → S → Bool) : List Stmt → List S → Bool
  | [], [] => true
  | st :: r, s :: ss => f st s && chkSs f r ss
  | _, _ => false
section
variable (T : Tb) (N : List Str) (R : Rec) (f : Stmt → S → Bool) (sc : Scope)
def stepS (st : Stmt) (s : S) : Bool := match s with
  | .ret c => (match st with | .Return (some e) _ => R.e sc e c | _ => false)
  | .retN => (match st with | .Return none _ => true | _ => false)
  | .asg t c => (match st with | .Assign [tg] e _ => chkTg N sc sc t tg && notStarT tg && swOk sc tg e && swNone sc tg e && R.e sc e c | _ => false)
  | .par is cs => (match st, is with
    | .Assign [.Tuple [.Name x px, .Name y py] _ _] (.Tuple [b1, b2] _ _) _, [i, j] => decide (N[i]? = some x) && decide (N[j]? = some y) && parB sc [(x, px), (y, py)] [b1, b2] && chkAs (R.e sc) [b1, b2] cs
    | .Assign [.Tuple [.Name x px, .Name y py, .Name z pz] _ _] (.Tuple [b1, b2, b3] _ _) _, [i, j, l] => decide (N[i]? = some x) && decide (N[j]? = some y) && decide (N[l]? = some z) && parB sc [(x, px), (y, py), (z, pz)] [b1, b2, b3] && chkAs (R.e sc) [b1, b2, b3] cs
    | _, _ => false)
  | .asgC i c => (match st, c with
    | .Assign [.Name y py] (.ListComp elx [⟨tgx, itx, ifx, 0⟩] scope lp) _, .lc _ elt t it ifs own => decide (N[i]? = some y) && lclB sc y && swapB sc scope y py.line lp.line && chkLc T N R sc elx tgx itx ifx scope elt t it ifs own
    | _, _ => false)
  | .asgC2 i c => (match st, c with
    | .Assign [.Name y py] (.ListComp elx [⟨tg1, itx1, [], 0⟩, ⟨tg2, itx2, ifx, 0⟩] scope lp) _, .lc2 _ elt t1 it1 t2 it2 ifs own own2 => decide (N[i]? = some y) && lclB sc y && swapB sc scope y py.line lp.line && chkLc2 T N R sc elx tg1 itx1 tg2 itx2 ifx scope elt t1 it1 t2 it2 ifs own own2
    | _, _ => false)
  | .setD a i c => (match st with | .Assign [.Subscript o ix _] e _ => R.e sc e c && R.e sc o a && R.e sc ix i | _ => false)
  | .setFld a c f d => (match st with | .Assign [.Attribute o x _] e _ => decide (x = f) && fldB T c f && R.e sc e d && R.e sc o a | _ => false)
  | .setIx a i c => (match st with | .Assign [.Subscript o ix _] e _ => notSlice ix && R.e sc e c && R.e sc o a && R.e sc ix i | _ => false)
  | .setAt a c i d => (match st with | .Assign [.Attribute o x _] e _ => slotB T c i x && R.e sc e d && R.e sc o a | _ => false)
  | .setIx2 a i b j c => (match st with | .Assign [.Tuple [.Subscript o1 i1 p1, .Subscript o2 i2 p2] kt tp] e _ => notComp e && notSlice i1 && notSlice i2 && swNone2 e && R.e sc e c && R.e sc o1 a && R.e sc i1 i && R.e sc o2 b && R.e sc i2 j | _ => false)
  | .ex c => (match st with | .Expr e _ => notComp e && R.e sc e c | _ => false)
  | .ite c a b => (match st with | .If t x y _ => R.t sc t c && chkSs f x a && chkSs f y b | _ => false)
  | .for_ t it b => (match st with | .For tg itx body [] _ => notSet itx && stepI T R sc tg itx it && chkTg N sc sc t tg && chkSs f body b | _ => false)
  | .while_ c b => (match st with | .While t body [] _ => R.t sc t c && chkSs f body b | _ => false)
  | .never => true
  | .brk => (match st with | .Break _ => true | _ => false)
  | .cnt => (match st with | .Continue _ => true | _ => false)
  | .pass => (match st with | .Pass _ => true | _ => false)
end
def chkS (T : Tb) (N : List Str) (sc : Scope) : Nat → Stmt → S → Bool
  | 0 => fun _ _ => false
  | n + 1 => stepS T N (recs T N 60) (chkS T N sc n) sc
end Og
end
section
set_option maxHeartbeats 4000000
set_option autoImplicit false
/-! Og: the look is sound. -/
namespace Og
open PySem PySem.Spec PyProof.Rows L2

section
variable {T : Tb} {Y : Ctx} {k : Nat} {N : List Str} {sc : Scope} {X : Cx}
theorem glB_ok (x : XOk T Y k N sc X) {y : Str} (h : glB sc y = true) : Gl X y := by
  unfold glB at h
  show X.env.scope.names.lookup y = some .globalImplicit
  rw [x.scE]
  split at h
  · assumption
  · cases h
theorem visB_ok {y : Str} (h : visB sc y = true) : Vis sc y := by
  unfold visB at h
  unfold Vis
  split at h
  · exact .inl (by assumption)
  · exact .inr (.inl (by assumption))
  · exact .inr (.inr (by assumption))
  · cases h
theorem locB_ok {y : Str} (h : locB sc y = true) : L2.Loc sc y := by
  unfold locB at h
  unfold L2.Loc
  split at h
  · exact .inl (by assumption)
  · exact .inr (by assumption)
  · cases h
theorem lclB_ok {y : Str} (h : lclB sc y = true) : sc.names.lookup y = some .local := by
  unfold lclB at h
  split at h
  · assumption
  · cases h
theorem celB_ok {y : Str} (h : celB sc y = true) : sc.names.lookup y = some .cell := by
  unfold celB at h
  split at h
  · assumption
  · cases h
theorem dbgB_ok {y : Str} (h : dbgB y = true) : (y == ("__debug__" : Str)) = false := by
  unfold dbgB at h
  simpa using h
theorem bltB_ok (x : XOk T Y k N sc X) {y : Str} (h : bltB T sc y = true) : Gl X y ∧ X.mg y = none := by
  unfold bltB at h
  simp only [Bool.and_eq_true, decide_eq_true_eq] at h
  exact ⟨glB_ok x h.1, x.fx.bl y h.2⟩
theorem isiNm_ok {tx : Str} {t : String} (h : (tx, t) ∈ isiNm) : t ∈ isiTys ∧ bootBuiltins tx = some (.type t) ∧ tx ≠ "__name__" ∧ (tx == ("__debug__" : Str)) = false := by
  unfold isiNm at h
  simp only [List.mem_cons, List.not_mem_nil, or_false, Prod.mk.injEq] at h
  rcases h with ⟨rfl, rfl⟩ | ⟨rfl, rfl⟩ | ⟨rfl, rfl⟩ | ⟨rfl, rfl⟩ | ⟨rfl, rfl⟩ | ⟨rfl, rfl⟩ <;> exact ⟨by decide, by decide +kernel, by decide +kernel, by decide +kernel⟩
theorem fkTop_ok {j n : Nat} {y : Str} (h : fkTop T j y n = true) : T.fs[j]? = some (.top y, n) := by
  unfold fkTop at h
  split at h
  · rename_i e
    simp only [Bool.and_eq_true, decide_eq_true_eq, beq_iff_eq] at h
    rw [e, h.1, h.2]
  · cases h
theorem fkInit_ok {j n c : Nat} (h : fkInit T j c n = true) : T.fs[j]? = some (.init c, n) := by
  unfold fkInit at h
  split at h
  · rename_i e
    simp only [Bool.and_eq_true, beq_iff_eq] at h
    rw [e, h.1, h.2]
  · cases h
theorem fkMeth_ok {j n c : Nat} {m : Str} (h : fkMeth T j c m n = true) : T.fs[j]? = some (.meth c m, n) := by
  unfold fkMeth at h
  split at h
  · rename_i e
    simp only [Bool.and_eq_true, beq_iff_eq, decide_eq_true_eq] at h
    rw [e, h.1.1, h.1.2, h.2]
  · cases h
theorem clsB_ok (x : XOk T Y k N sc X) {c : Nat} {y : Str} (h : clsB T c y = true) : X.mg y = some (.ref (Y.cls c)) := by
  unfold clsB at h
  split at h
  · rename_i e
    simp only [decide_eq_true_eq] at h
    rw [← h]
    exact (x.fx.cs _ _ _ _ e).1
  · cases h
theorem slotB_ok (x : XOk T Y k N sc X) {c i : Nat} {f : Str} (h : slotB T c i f = true) : SlX.SCls X.K (Y.cls c) ∧ ∃ p, SlX.Slot1 X.K (Y.cls c) f p i := by
  unfold slotB at h
  split at h
  · rename_i e
    simp only [decide_eq_true_eq] at h
    obtain ⟨h2, h3⟩ := (x.fx.cs _ _ _ _ e).2.1 rfl
    exact ⟨h2, h3 _ _ h⟩
  · cases h
theorem sclB_ok (x : XOk T Y k N sc X) {c : Nat} (h : sclB T c = true) : SlX.SCls X.K (Y.cls c) := by
  unfold sclB at h
  split at h
  · rename_i e
    exact ((x.fx.cs _ _ _ _ e).2.1 rfl).1
  · cases h
theorem pclB_ok (x : XOk T Y k N sc X) {c : Nat} (h : pclB T c = true) : ∃ fs, PCls X.K (Y.cls c) fs := by
  unfold pclB at h
  split at h
  · rename_i e
    exact ⟨_, (x.fx.cs _ _ _ _ e).2.2 rfl⟩
  · cases h
theorem fldB_ok (x : XOk T Y k N sc X) {c : Nat} {f : Str} (h : fldB T c f = true) : Cls X.K (Y.cls c) ∧ NoAttr X.K (Y.cls c) f := by
  unfold fldB at h
  split at h
  · rename_i e
    have q := (x.fx.cs _ _ _ _ e).2.2 rfl
    exact ⟨q.isi.cl, q.no _ (of_decide_eq_true h)⟩
  · cases h
theorem fkProp_ok {j c : Nat} {f : Str} (h : fkProp T j c f = true) : T.fs[j]? = some (.prop c f, 1) := by
  unfold fkProp at h
  split at h
  · rename_i e
    simp only [Bool.and_eq_true, beq_iff_eq, decide_eq_true_eq] at h
    rw [e, h.1.1, h.1.2, h.2]
  · cases h
theorem py_ok (x : XOk T Y k N sc X) : PyR X := fun s ok h => by
  obtain ⟨e, l, h1, h2, h3, h4, h5⟩ := x.stk
  have n0 : X.base.NoSeer := ⟨x.fx.sr.statics, x.fx.sr.mods, ok.mod.blt, x.fx.sr.main⟩
  have hd : X.A.depth + Builtin.pylongFrames < recursionLimit := by
    have := x.room.dp
    have := x.fx.lv
    show X.A.depth + 100 < recursionLimit
    omega
  have hf : X.A.frames = some (e :: l) := by rw [ok.frames, h1]
  exact PylongRoom.of (ok.mod.nolimit.keeps h) hd (SeerAt.of (n0.keeps h) x.fx.tr hf h2 h3 h4 h5)
theorem XOk.room' (x : XOk T Y k N sc X) : Room k X.A := x.room.mono (Nat.le_succ _)

/-! ### targets -/
mutual
theorem tg_ok (x : XOk T Y k N sc X) {fsc : Scope} (hf : ∀ y, fsc.names.lookup y = some .cell → X.fn y = true) : ∀ (t : Tg) (e : Expr), chkTg N sc fsc t e = true → PG X e (tTg X.K t)
  | .nm i, e, h => by
    simp only [chkTg] at h
    split at h
    · simp only [Bool.and_eq_true, decide_eq_true_eq, Bool.or_eq_true] at h
      obtain ⟨⟨h1, h2⟩, h3⟩ := h
      refine g_nm (by rw [x.nE]; exact x.nd) (by rw [x.nE]; exact h1) (by rw [x.scE]; exact locB_ok h2) ?_
      rcases h3 with h3 | h3
      · exact .inr (by rw [x.scE]; exact lclB_ok h3)
      · exact .inl (hf _ (celB_ok h3))
    · cases h
  | .tup ts, e, h => by
    simp only [chkTg] at h
    split at h
    · simp only [Bool.and_eq_true] at h
      obtain ⟨h1, h2⟩ := h
      obtain ⟨q1, q2⟩ := tgs_ok x hf ts _ h2
      exact g_tup x.calm h1 q1 q2
    · cases h
  | .lst ts, e, h => by
    simp only [chkTg] at h
    split at h
    · simp only [Bool.and_eq_true] at h
      obtain ⟨h1, h2⟩ := h
      obtain ⟨q1, q2⟩ := tgs_ok x hf ts _ h2
      exact g_lst x.calm h1 q1 q2
    · cases h
theorem tgs_ok (x : XOk T Y k N sc X) {fsc : Scope} (hf : ∀ y, fsc.names.lookup y = some .cell → X.fn y = true) : ∀ (ts : List Tg) (es : List Expr), chkTgs N sc fsc ts es = true → es.length = ts.length ∧ PGs X es (tTgs X.K ts)
  | [], [], _ => ⟨rfl, gs_nil⟩
  | t :: ts, e :: es, h => by
    simp only [chkTgs, Bool.and_eq_true] at h
    obtain ⟨⟨h1, h2⟩, h3⟩ := h
    obtain ⟨q1, q2⟩ := tgs_ok x hf ts es h3
    exact ⟨by simp [q1], gs_cons h1 (tg_ok x hf t e h2) q2⟩
  | [], _ :: _, h => by simp [chkTgs] at h
  | _ :: _, [], h => by simp [chkTgs] at h
end
end

structure Snd (T : Tb) (Y : Ctx) (k : Nat) (N : List Str) (R : Rec) : Prop where
  e : ∀ {sc : Scope} {X : Cx} {e : Expr} {c : E}, XOk T Y k N sc X → R.e sc e c = true → PE X e (tE X.K Y c)
  t : ∀ {sc : Scope} {X : Cx} {e : Expr} {c : E}, XOk T Y k N sc X → R.t sc e c = true → PT X e (tTst X.K Y c)

section
variable {T : Tb} {Y : Ctx} {k : Nat} {N : List Str} {sc : Scope} {X : Cx} {R : Rec}
theorem notStarE_ne {c : E} (h : notStarE c = true) : ∀ a, c ≠ .star a := fun a z => by rw [z] at h; cases h
theorem as_ok (S : Snd T Y k N R) (x : XOk T Y k N sc X) : ∀ (es : List Expr) (cs : List E), chkAs (R.e sc) es cs = true → PA X es (tAs X.K Y cs) ∧ (es = [] → cs = [])
  | [], [], _ => ⟨a_nil, fun _ => rfl⟩
  | [], _ :: _, h => by simp [chkAs] at h
  | e :: es, [], h => by cases e <;> simp [chkAs] at h
  | e :: es, c :: cs, h => by
    refine ⟨?_, fun z => (nomatch z)⟩
    unfold chkAs at h
    split at h
    · rename_i z1 z2
      cases z1
    · rename_i z1 z2
      cases z1; cases z2
      simp only [Bool.and_eq_true] at h
      exact a_star (S.e x h.1) (as_ok S x _ _ h.2).1
    · rename_i z1 z2
      cases z1; cases z2
      simp only [Bool.and_eq_true] at h
      obtain ⟨⟨⟨h1, h2⟩, h3⟩, h4⟩ := h
      exact a_cons (notStarE_ne h2) h1 (S.e x h3) (as_ok S x _ _ h4).1
    · cases h
theorem ks_ok (S : Snd T Y k N R) (x : XOk T Y k N sc X) : ∀ (es : List Keyword) (cs : List E), chkK (R.e sc) es cs = true → PK X es (tAs X.K Y cs)
  | [], [], _ => pk_nil'
  | [], _ :: _, h => by simp [chkK] at h
  | e :: es, [], h => by simp [chkK] at h
  | ⟨nm, e, p⟩ :: es, c :: cs, h => by
    simp only [chkK, Bool.and_eq_true] at h
    obtain ⟨⟨h1, h2⟩, h3⟩ := h
    exact pk_cons' (notStarE_ne h1) (S.e x h2) (ks_ok S x es cs h3)
theorem ds_ok (S : Snd T Y k N R) (x : XOk T Y k N sc X) {pos : Pos} : ∀ (kx : List (Option Expr)) (vx : List Expr) (ks : List Key) (cs : List E), chkDs (R.e sc) kx vx ks cs = true → PDs X Y pos kx vx ks cs
  | [], [], [], [], _ => pds_nil
  | some k :: kx, e :: vx, key :: ks, c :: cs, h => by
    simp only [chkDs, Bool.and_eq_true] at h
    obtain ⟨⟨⟨h1, h2⟩, h3⟩, h4⟩ := h
    exact pds_cons h1 (notStarE_ne h2) (S.e x h3) (ds_ok S x kx vx ks cs h4)
  | none :: _, _, _, _, h => by simp [chkDs] at h
  | [], _ :: _, _, _, h => by simp [chkDs] at h
  | [], [], _ :: _, _, h => by simp [chkDs] at h
  | [], [], [], _ :: _, h => by simp [chkDs] at h
  | some _ :: _, [], _, _, h => by simp [chkDs] at h
  | some _ :: _, _ :: _, [], _, h => by simp [chkDs] at h
  | some _ :: _, _ :: _, _ :: _, [], h => by simp [chkDs] at h
theorem o_ok (S : Snd T Y k N R) (x : XOk T Y k N sc X) : ∀ (o : Option Expr) (c : Option E), chkO (R.e sc) o c = true → PO X o (tOs X.K Y c)
  | none, none, _ => o_none
  | some e, some c, h => o_some (S.e x h)
  | none, some _, h => by cases h
  | some _, none, h => by cases h
theorem and_ok {pos : Pos} (S : Snd T Y k N R) (x : XOk T Y k N sc X) : ∀ (es : List Expr) (c : E), chkAnd (R.e sc) es c = true → PE X (.BoolOp .And es pos) (tE X.K Y c)
  | [], _, h => by simp [chkAnd] at h
  | [e], c, h => pe_one (S.e x (by simpa [chkAnd] using h))
  | e :: e2 :: r, c, h => by
    cases c <;> simp only [chkAnd, Bool.and_eq_true, Bool.false_eq_true] at h
    exact r_and (S.e x h.1) (and_ok S x _ _ h.2)
theorem or_ok {pos : Pos} (S : Snd T Y k N R) (x : XOk T Y k N sc X) : ∀ (es : List Expr) (c : E), chkOr (R.e sc) es c = true → PE X (.BoolOp .Or es pos) (tE X.K Y c)
  | [], _, h => by simp [chkOr] at h
  | [e], c, h => pe_one (S.e x (by simpa [chkOr] using h))
  | e :: e2 :: r, c, h => by
    cases c <;> simp only [chkOr, Bool.and_eq_true, Bool.false_eq_true] at h
    exact r_or (S.e x h.1) (or_ok S x _ _ h.2)
theorem andT_ok {pos : Pos} (S : Snd T Y k N R) (x : XOk T Y k N sc X) : ∀ (es : List Expr) (c : E), chkAnd (R.t sc) es c = true → PW X (.BoolOp .And es pos) (tTst X.K Y c)
  | [], _, h => by simp [chkAnd] at h
  | [e], c, h => w_and1 (S.t x (by simpa [chkAnd] using h))
  | e :: e2 :: r, c, h => by
    cases c <;> simp only [chkAnd, Bool.and_eq_true, Bool.false_eq_true] at h
    exact w_and (S.t x h.1) (andT_ok S x _ _ h.2)
theorem orT_ok {pos : Pos} (S : Snd T Y k N R) (x : XOk T Y k N sc X) : ∀ (es : List Expr) (c : E), chkOr (R.t sc) es c = true → PW X (.BoolOp .Or es pos) (tTst X.K Y c)
  | [], _, h => by simp [chkOr] at h
  | [e], c, h => w_or1 (S.t x (by simpa [chkOr] using h))
  | e :: e2 :: r, c, h => by
    cases c <;> simp only [chkOr, Bool.and_eq_true, Bool.false_eq_true] at h
    exact w_or (S.t x h.1) (orT_ok S x _ _ h.2)
theorem it_ok (S : Snd T Y k N R) (x : XOk T Y k N sc X) {tg e : Expr} : ∀ (it : Ita), stepI T R sc tg e it = true → PI X tg e (tIt X.K Y it)
  | .sq a, h => i_sq (S.e x h)
  | .rg1 a, h => by
    simp only [stepI] at h
    split at h
    · simp only [Bool.and_eq_true, decide_eq_true_eq] at h
      obtain ⟨⟨⟨rfl, h1⟩, h2⟩, h3⟩ := h
      obtain ⟨g, m⟩ := bltB_ok x h1
      exact i_rg1 h2 g m (S.e x h3)
    · cases h
  | .rg2 a b, h => by
    simp only [stepI] at h
    split at h
    · simp only [Bool.and_eq_true, decide_eq_true_eq] at h
      obtain ⟨⟨⟨⟨⟨rfl, h1⟩, h2⟩, h2'⟩, h3⟩, h4⟩ := h
      obtain ⟨g, m⟩ := bltB_ok x h1
      exact i_rg2 h2 h2' g m (S.e x h3) (S.e x h4)
    · cases h
  | .enum a, h => by
    simp only [stepI] at h
    split at h
    · simp only [Bool.and_eq_true, decide_eq_true_eq] at h
      obtain ⟨⟨⟨⟨rfl, h1⟩, ht⟩, h2⟩, h3⟩ := h
      obtain ⟨g, m⟩ := bltB_ok x h1
      cases tg <;> first
        | (cases ht; done)
        | exact i_enum h2 g m (S.e x h3)
    · cases h
  | .zip a b, h => by
    simp only [stepI] at h
    split at h
    · simp only [Bool.and_eq_true, decide_eq_true_eq] at h
      obtain ⟨⟨⟨⟨⟨⟨rfl, h1⟩, ht⟩, h2⟩, h2'⟩, h3⟩, h4⟩ := h
      obtain ⟨g, m⟩ := bltB_ok x h1
      cases tg <;> first
        | (cases ht; done)
        | exact i_zip h2 h2' g m (S.e x h3) (S.e x h4)
    · cases h
  | .signs a, h => i_signs (S.e x (by simpa only [stepI] using h))
theorem ownP_map {own : List Nat} : (ownP N own).map (·.2) = own := by
  unfold ownP
  rw [List.map_map]
  exact List.map_id' own
theorem lc_ok (S : Snd T Y k N R) (x : XOk T Y k N sc X) {elx tgx itx : Expr} {ifx : List Expr} {scope : Scope} {elt : E} {t : Tg} {it : Ita} {ifs : List E} {own : List Nat} (h : chkLc T N R sc elx tgx itx ifx scope elt t it ifs own = true) :
    BlkOk X.N X.env.scope scope (ownP N own) ∧ (∀ i ∈ t.slots, i ∈ own) ∧ notSet itx = true ∧ PI X tgx itx (tIt X.K Y it) ∧
    (∀ (s : Shared) (H : Hp) (C : Addr) (cl : List (Str × Addr)) (fp : List Addr), PG (X.blk s H scope (compEnvC scope cl C X.env) fp) tgx (tTg X.K t)) ∧
    (∀ (s : Shared) (H : Hp) (C : Addr) (cl : List (Str × Addr)) (fp : List Addr), PTs (X.blk s H scope (compEnvC scope cl C X.env) fp) ifx (tTs X.K Y ifs)) ∧
    (∀ (s : Shared) (H : Hp) (C : Addr) (cl : List (Str × Addr)) (fp : List Addr), PE (X.blk s H scope (compEnvC scope cl C X.env) fp) elx (tE X.K Y elt)) := by
  unfold chkLc at h
  simp only [Bool.and_eq_true, List.all_eq_true, decide_eq_true_eq] at h
  obtain ⟨⟨⟨⟨⟨⟨h1, h2⟩, h3⟩, h4⟩, h5⟩, h6⟩, h7⟩ := h
  have ok := blkOk_by h1
  have hx := fun s H C cl fp => x.blk ok.kind s H C cl fp
  refine ⟨by rw [x.nE, x.scE]; exact ok, h3, h2, it_ok S x it h4, fun s H C cl fp => ?_, fun s H C cl fp => ?_, fun s H C cl fp => ?_⟩
  · exact tg_ok (hx s H C cl fp) (fun y hy => by show (scope.names.lookup y == some .cell) = true; rw [hy]; rfl) t tgx h5
  · split at h7
    · exact ts_nil
    · exact ts_one (S.t (hx s H C cl fp) h7)
    · cases h7
  · exact S.e (hx s H C cl fp) h6
theorem lc2_ok (S : Snd T Y k N R) (x : XOk T Y k N sc X) {elx tg1 itx1 tg2 itx2 : Expr} {ifx : List Expr} {scope : Scope} {elt : E} {t1 t2 : Tg} {it1 it2 : Ita} {ifs : List E} {own own2 : List Nat} (h : chkLc2 T N R sc elx tg1 itx1 tg2 itx2 ifx scope elt t1 it1 t2 it2 ifs own own2 = true) :
    BlkOk X.N X.env.scope scope (ownP N own) ∧ (∀ i ∈ t1.slots, i ∈ own) ∧ (∀ i ∈ t2.slots, i ∈ own2) ∧ (∀ i ∈ own2, i ∈ own) ∧ notSet itx1 = true ∧ notSet itx2 = true ∧ PI X tg1 itx1 (tIt X.K Y it1) ∧
    (∀ (s : Shared) (H : Hp) (C : Addr) (cl : List (Str × Addr)) (fp : List Addr), PG (X.blk s H scope (compEnvC scope cl C X.env) fp) tg1 (tTg X.K t1)) ∧
    (∀ (s : Shared) (H : Hp) (C : Addr) (cl : List (Str × Addr)) (fp : List Addr), PI (X.blk s H scope (compEnvC scope cl C X.env) fp) tg2 itx2 (tIt X.K Y it2)) ∧
    (∀ (s : Shared) (H : Hp) (C : Addr) (cl : List (Str × Addr)) (fp : List Addr), PG (X.blk s H scope (compEnvC scope cl C X.env) fp) tg2 (tTg X.K t2)) ∧
    (∀ (s : Shared) (H : Hp) (C : Addr) (cl : List (Str × Addr)) (fp : List Addr), PTs (X.blk s H scope (compEnvC scope cl C X.env) fp) ifx (tTs X.K Y ifs)) ∧
    (∀ (s : Shared) (H : Hp) (C : Addr) (cl : List (Str × Addr)) (fp : List Addr), PE (X.blk s H scope (compEnvC scope cl C X.env) fp) elx (tE X.K Y elt)) := by
  unfold chkLc2 at h
  simp only [Bool.and_eq_true, List.all_eq_true, decide_eq_true_eq] at h
  obtain ⟨⟨⟨⟨⟨⟨⟨⟨⟨⟨⟨h1, h2⟩, h2'⟩, h3⟩, h3'⟩, h3''⟩, h4⟩, h5⟩, h6⟩, h7⟩, h8⟩, h9⟩ := h
  have ok := blkOk_by h1
  have hx := fun s H C cl fp => x.blk ok.kind s H C cl fp
  have fn : ∀ (s : Shared) (H : Hp) (C : Addr) (cl : List (Str × Addr)) (fp : List Addr) (y : Str), scope.names.lookup y = some .cell → (X.blk s H scope (compEnvC scope cl C X.env) fp).fn y = true := fun s H C cl fp y hy => by show (scope.names.lookup y == some .cell) = true; rw [hy]; rfl
  refine ⟨by rw [x.nE, x.scE]; exact ok, h3, h3', h3'', h2, h2', it_ok S x it1 h4, fun s H C cl fp => tg_ok (hx s H C cl fp) (fn s H C cl fp) t1 tg1 h5, fun s H C cl fp => it_ok S (hx s H C cl fp) it2 h6, fun s H C cl fp => tg_ok (hx s H C cl fp) (fn s H C cl fp) t2 tg2 h7, fun s H C cl fp => ?_, fun s H C cl fp => S.e (hx s H C cl fp) h8⟩
  split at h9
  · exact ts_nil
  · exact ts_one (S.t (hx s H C cl fp) h9)
  · cases h9
theorem evD (neg : Bool) {a b : E} {r : Rho} {m : Mem} {Q : KD} (h : ev Y (.din neg a b) r m Q) : ev Y a r m fun x m1 => ev Y b r m1 fun y m2 => semDin neg x y m2 Q := by simp only [ev] at h; exact h
theorem evIn {j c : Nat} (neg : Bool) {a b : E} {r : Rho} {m : Mem} {Q : KD} (h : ev Y (.inO j c neg a b) r m Q) : ev Y a r m fun x m1 => ev Y b r m1 fun y m2 => semInO Y j c neg x y m2 Q := by simp only [ev] at h; exact h
theorem evEq {j c : Nat} (neg : Bool) {a b : E} {r : Rho} {m : Mem} {Q : KD} (h : ev Y (.eqO j c neg a b) r m Q) : ev Y a r m fun x m1 => ev Y b r m1 fun y m2 => semEqO Y j c neg x y m2 Q := by simp only [ev] at h; exact h
theorem dIn_ok (x : XOk T Y k N sc X) {j c : Nat} {neg : Bool} {op : CmpOp} (hop : op = if neg then .NotIn else .In) (h : fkMeth T j c "__contains__" 2 = true) : OpD X (compareOp op) (semInO Y j c neg) := by
  obtain ⟨f, fd, ps, F, B, M, _⟩ := x.fx.fs _ _ _ (fkMeth_ok h)
  exact opD_inO hop M.at_ M.fn F x.gd x.room' B
theorem dEq_ok (x : XOk T Y k N sc X) {j c : Nat} {neg : Bool} {op : CmpOp} (hop : op = if neg then .NotEq else .Eq) (hp : pclB T c = true) (h : fkMeth T j c "__eq__" 2 = true) : OpD X (compareOp op) (semEqO Y j c neg) := by
  obtain ⟨f, fd, ps, F, B, M, _⟩ := x.fx.fs _ _ _ (fkMeth_ok h)
  obtain ⟨fs, pc⟩ := pclB_ok x hp
  exact opD_eqO hop x.room.units M.at_ M.fn (fun _ => pc.ne) pc.isi.hm F x.gd x.room B
theorem stepE_ok (S : Snd T Y k N R) (x : XOk T Y k N sc X) {e : Expr} {c : E} (h : stepE T N R sc e c = true) : PE X e (tE X.K Y c) := by
  have hu : X.A.units + 64 < cLine := x.room.units
  cases c with
  | non => simp only [stepE] at h; split at h; exact r_non; cases h
  | bl b =>
    simp only [stepE] at h; split at h
    · have e := eq_of_beq h
      subst e; exact r_bl
    · cases h
  | int i =>
    simp only [stepE] at h; split at h
    · have e := of_decide_eq_true h
      subst e; exact r_int
    · cases h
  | str y =>
    simp only [stepE] at h; split at h
    · have e := of_decide_eq_true h
      subst e; exact r_str
    · cases h
  | x i =>
    simp only [stepE] at h; split at h
    · simp only [Bool.and_eq_true, decide_eq_true_eq, Bool.not_eq_true'] at h
      obtain ⟨⟨⟨h1, h2⟩, h3⟩, h4⟩ := h
      exact r_x (by rw [x.nE]; exact h1) (by rw [x.scE]; exact visB_ok h2) (dbgB_ok h3) h4
    · cases h
  | g j =>
    simp only [stepE] at h; split at h
    · simp only [Bool.and_eq_true, decide_eq_true_eq] at h
      obtain ⟨⟨h1, h2⟩, h3⟩ := h
      obtain ⟨v, u, d, q1, q2, q3, q4⟩ := x.fx.gs j _ h1
      exact r_g (glB_ok x h2) q1 q2 (dbgB_ok h3) q3 q4
    · cases h
  | bop o a b =>
    simp only [stepE] at h; split at h
    · simp only [Bool.and_eq_true, bopB, decide_eq_true_eq] at h
      obtain ⟨⟨rfl, h2⟩, h3⟩ := h
      exact r_bop (py_ok x) (S.e x h2) (S.e x h3)
    · cases h
  | neg a =>
    simp only [stepE] at h; split at h
    · exact r_neg (S.e x h)
    · cases h
  | cmp o a b =>
    simp only [stepE] at h; split at h
    · simp only [Bool.and_eq_true, copB, decide_eq_true_eq, Bool.not_eq_true'] at h
      obtain ⟨⟨⟨rfl, h1⟩, h2⟩, h3⟩ := h
      exact r_cmp hu h1 (S.e x h2) (S.e x h3)
    · cases h
  | ch o o' a b d =>
    simp only [stepE] at h; split at h
    · simp only [Bool.and_eq_true, copB, decide_eq_true_eq, Bool.not_eq_true'] at h
      obtain ⟨⟨⟨⟨⟨rfl, rfl⟩, h1⟩, h2⟩, h3⟩, h4⟩ := h
      exact r_ch hu h1 (S.e x h2) (S.e x h3) (S.e x h4)
    · cases h
  | and a b =>
    simp only [stepE] at h; split at h
    · exact and_ok S x _ _ h
    · cases h
  | or a b =>
    simp only [stepE] at h; split at h
    · exact or_ok S x _ _ h
    · cases h
  | not a =>
    simp only [stepE] at h; split at h
    · exact r_not (S.e x h)
    · cases h
  | ife d a b =>
    simp only [stepE] at h; split at h
    · simp only [Bool.and_eq_true] at h
      exact r_ife (S.t x h.1.1) (S.e x h.1.2) (S.e x h.2)
    · cases h
  | tup cs =>
    simp only [stepE] at h; split at h
    · exact r_tup (as_ok S x _ _ h).1
    · cases h
  | lst mu cs =>
    simp only [stepE] at h; split at h
    · exact r_lst (as_ok S x _ _ h).1
    · cases h
  | star a => simp [stepE] at h
  | ix a i =>
    simp only [stepE] at h; split at h
    · simp only [Bool.and_eq_true] at h
      exact r_ix hu h.1.1 (S.e x h.1.2) (S.e x h.2)
    · cases h
  | sl mu a lo hi =>
    simp only [stepE] at h; split at h
    · simp only [Bool.and_eq_true] at h
      exact r_sl (S.e x h.1.1) (o_ok S x _ _ h.1.2) (o_ok S x _ _ h.2)
    · cases h
  | call j cs =>
    simp only [stepE] at h; split at h
    · simp only [Bool.and_eq_true] at h
      obtain ⟨⟨⟨⟨h1, h2⟩, h3⟩, h4⟩, h5⟩ := h
      obtain ⟨f, fd, ps, F, B, ⟨m1, m2⟩, _⟩ := x.fx.fs _ _ _ (fkTop_ok h1)
      obtain ⟨a1, a2⟩ := as_ok S x _ _ h5
      exact r_call F x.gd B x.room' m2 rfl (glB_ok x h2) m1 (dbgB_ok h3) a1 a2 h4
    · cases h
  | callk j pm cs =>
    simp only [stepE] at h; split at h
    · simp only [Bool.and_eq_true, decide_eq_true_eq, beq_iff_eq] at h
      obtain ⟨⟨⟨⟨⟨⟨h1, h2⟩, h3⟩, h4⟩, h4'⟩, h5⟩, h6⟩ := h
      obtain ⟨f, fd, ps, F, _, ⟨m1, m2⟩, B⟩ := x.fx.fs _ _ _ (fkTop_ok h1)
      exact r_callk F x.gd (B _ _ h5) h4' x.room' m2 rfl (glB_ok x h2) m1 (dbgB_ok h3) rfl h4 (ks_ok S x _ _ h6)
    · cases h
  | b1 f a =>
    simp only [stepE] at h; split at h
    · simp only [Bool.and_eq_true, decide_eq_true_eq] at h
      obtain ⟨⟨⟨rfl, h1⟩, h2⟩, h3⟩ := h
      obtain ⟨g, m⟩ := bltB_ok x h1
      exact r_b1 x.calm x.gd x.room.units h2 g m (S.e x h3)
    · cases h
  | b2 f a b =>
    simp only [stepE] at h; split at h
    · simp only [Bool.and_eq_true, decide_eq_true_eq] at h
      obtain ⟨⟨⟨⟨⟨rfl, h1⟩, h2⟩, h2'⟩, h3⟩, h4⟩ := h
      obtain ⟨g, m⟩ := bltB_ok x h1
      exact r_b2 x.calm h2 h2' g m (S.e x h3) (S.e x h4)
    · cases h
  | isi a Tn =>
    simp only [stepE] at h; split at h
    · simp only [Bool.and_eq_true, decide_eq_true_eq] at h
      obtain ⟨⟨⟨⟨⟨rfl, h1⟩, h2⟩, h3⟩, h4⟩, h5⟩ := h
      obtain ⟨g, m⟩ := bltB_ok x h1
      obtain ⟨g2, m2⟩ := bltB_ok x h2
      obtain ⟨q1, q2, q3, q4⟩ := isiNm_ok h3
      exact r_isi q1 h4 g m g2 m2 q2 q3 q4 (S.e x h5)
    · cases h
  | m1 f a b =>
    simp only [stepE] at h; split at h
    · simp only [Bool.and_eq_true, decide_eq_true_eq] at h
      obtain ⟨⟨⟨⟨⟨rfl, h1⟩, h2⟩, h3⟩, h4⟩, h5⟩ := h
      exact r_m1 h2 h1 h3 (S.e x h4) (S.e x h5)
    · cases h
  | lc mu elt t it ifs own =>
    simp only [stepE] at h; split at h
    · obtain ⟨q1, q2, q3, q4, q5, q6, q7⟩ := lc_ok S x h
      exact r_lc x.calm (by rw [x.nE]; exact x.nd) q4 q1 ownP_map q2 q5 q6 q7 (set_no q3)
    · cases h
  | lrg mu lo hi =>
    simp only [stepE] at h; split at h
    · simp only [Bool.and_eq_true, decide_eq_true_eq] at h
      obtain ⟨⟨⟨⟨⟨⟨rfl, rfl⟩, h1⟩, h2⟩, h3⟩, h4⟩, h5⟩ := h
      obtain ⟨g, m⟩ := bltB_ok x h1
      obtain ⟨g2, m2⟩ := bltB_ok x h2
      cases lo <;> simp only [isZ, Bool.false_eq_true, beq_iff_eq] at h3
      subst h3
      exact r_lrg1 x.calm h4 g m g2 m2 (S.e x h5)
    · simp only [Bool.and_eq_true, decide_eq_true_eq] at h
      obtain ⟨⟨⟨⟨⟨⟨⟨rfl, rfl⟩, h1⟩, h2⟩, h4⟩, h4'⟩, h5⟩, h6⟩ := h
      obtain ⟨g, m⟩ := bltB_ok x h1
      obtain ⟨g2, m2⟩ := bltB_ok x h2
      exact r_lrg2 x.calm h4 h4' g m g2 m2 (S.e x h5) (S.e x h6)
    · cases h
  | slot a c i =>
    simp only [stepE] at h; split at h
    · simp only [Bool.and_eq_true] at h
      obtain ⟨q1, p, q2⟩ := slotB_ok x h.1.2
      exact r_slot h.1.1 q1 q2 (S.e x h.2)
    · cases h
  | mk c j cs =>
    simp only [stepE] at h; split at h
    · simp only [Bool.and_eq_true] at h
      obtain ⟨⟨⟨⟨⟨h1, h2⟩, h3⟩, h4⟩, h5⟩, h6⟩ := h
      obtain ⟨f, fd, ps, F, B, M, _⟩ := x.fx.fs _ _ _ (fkInit_ok h2)
      obtain ⟨a1, a2⟩ := as_ok S x _ _ h6
      exact r_mk M F x.gd B x.room rfl (glB_ok x h3) (clsB_ok x h1) (dbgB_ok h4) a1 a2 h5
    · cases h
  | meth j c a cs =>
    simp only [stepE] at h; split at h
    · simp only [Bool.and_eq_true, decide_eq_true_eq] at h
      obtain ⟨⟨⟨⟨⟨⟨⟨h1, h2⟩, h3⟩, h4⟩, h5⟩, h6⟩, h7⟩, h8⟩ := h
      obtain ⟨f, fd, ps, F, B, M, _⟩ := x.fx.fs _ _ _ (fkMeth_ok h1)
      obtain ⟨a1, a2⟩ := as_ok S x _ _ h8
      exact r_meth h3 h4 h5 (sclB_ok x h2) M F x.gd B x.room' rfl (S.e x h7) a1 a2 h6
    · cases h
  | frz a => exact r_frz (S.e x (by simpa only [stepE] using h))
  | never => exact r_never
  | dic ps =>
    simp only [stepE] at h; split at h
    · simp only [Bool.and_eq_true, decide_eq_true_eq] at h
      exact r_dic h.1 h.2
    · cases h
  | rev mu a =>
    simp only [stepE] at h; split at h
    · simp only [Bool.and_eq_true, decide_eq_true_eq] at h
      obtain ⟨rfl, h2⟩ := h
      exact r_rev (S.e x h2)
    · cases h
  | m0 f a =>
    simp only [stepE] at h; split at h
    · simp only [Bool.and_eq_true, decide_eq_true_eq] at h
      obtain ⟨⟨⟨rfl, h1⟩, h2⟩, h3⟩ := h
      exact r_m0 h1 h2 (S.e x h3)
    · cases h
  | thaw a => exact r_thaw (S.e x (by simpa only [stepE] using h))
  | ltup cs =>
    simp only [stepE] at h; split at h
    · exact r_ltup (as_ok S x _ _ h).1
    · cases h
  | disp mu ks cs =>
    simp only [stepE] at h; split at h
    · rename_i kx vx pos
      simp only [Bool.and_eq_true, decide_eq_true_eq] at h
      cases kx with
      | nil =>
        have h2 := h.2
        cases vx with
        | nil =>
          cases ks with
          | nil =>
            cases cs with
            | nil => exact r_disp0
            | cons _ _ => simp [chkDs] at h2
          | cons _ _ => simp [chkDs] at h2
        | cons _ _ => simp [chkDs] at h2
      | cons k0 kx => exact r_disp (ds_ok S x _ _ _ _ h.2) (by simp) h.1
    · cases h
  | dOf mu a =>
    simp only [stepE] at h; split at h
    · simp only [Bool.and_eq_true, decide_eq_true_eq] at h
      obtain ⟨⟨⟨rfl, h1⟩, h2⟩, h3⟩ := h
      obtain ⟨g, m⟩ := bltB_ok x h1
      exact r_dOf x.calm h2 g m (S.e x h3)
    · cases h
  | dZip mu a b =>
    simp only [stepE] at h; split at h
    · simp only [Bool.and_eq_true, decide_eq_true_eq] at h
      obtain ⟨⟨⟨⟨⟨⟨⟨rfl, rfl⟩, h1⟩, h2⟩, h3⟩, h4⟩, h5⟩, h6⟩ := h
      obtain ⟨g, m⟩ := bltB_ok x h1
      obtain ⟨g2, m2⟩ := bltB_ok x h2
      exact r_dZip x.calm hu h3 h4 g m g2 m2 (S.e x h5) (S.e x h6)
    · cases h
  | dItems mu a =>
    simp only [stepE] at h; split at h
    · simp only [Bool.and_eq_true, decide_eq_true_eq] at h
      obtain ⟨⟨⟨⟨⟨rfl, rfl⟩, h1⟩, h2⟩, h3⟩, h4⟩ := h
      obtain ⟨g, m⟩ := bltB_ok x h1
      exact r_dItems x.calm h2 h3 g m (S.e x h4)
    · cases h
  | din neg a b =>
    simp only [stepE] at h; split at h
    · simp only [Bool.and_eq_true, decide_eq_true_eq, Bool.not_eq_true'] at h
      obtain ⟨⟨⟨h1, h2⟩, h3⟩, h4⟩ := h
      exact r_opd (opD_din h1 hu) (fun _ _ _ z => evD neg z) h2 (S.e x h3) (S.e x h4)
    · cases h
  | dget a k d => simp [stepE] at h
  | fld a c f =>
    simp only [stepE] at h; split at h
    · simp only [Bool.and_eq_true, decide_eq_true_eq] at h
      obtain ⟨⟨⟨rfl, h1⟩, h2⟩, h3⟩ := h
      obtain ⟨q1, q2⟩ := fldB_ok x h2
      exact r_fld h1 q1 q2 (S.e x h3)
    · cases h
  | prop j c f a =>
    simp only [stepE] at h; split at h
    · simp only [Bool.and_eq_true, decide_eq_true_eq] at h
      obtain ⟨⟨⟨⟨rfl, h1⟩, h2⟩, h3⟩, h4⟩ := h
      obtain ⟨fs, pc⟩ := pclB_ok x h2
      obtain ⟨g, fd, ps, F, B, ⟨p, M⟩, _⟩ := x.fx.fs _ _ _ (fkProp_ok h3)
      exact r_prop h1 pc.isi.cl M F x.gd x.room B (S.e x h4)
    · cases h
  | mkI c j cs =>
    simp only [stepE] at h; split at h
    · simp only [Bool.and_eq_true] at h
      obtain ⟨⟨⟨⟨⟨h1, h2⟩, h3⟩, h4⟩, h5⟩, h6⟩ := h
      obtain ⟨f, fd, ps, F, B, M, _⟩ := x.fx.fs _ _ _ (fkInit_ok h2)
      obtain ⟨a1, a2⟩ := as_ok S x _ _ h6
      exact r_mkI M F x.gd B x.room rfl (glB_ok x h3) (clsB_ok x h1) (dbgB_ok h4) a1 a2 h5
    · cases h
  | methI j c f a cs =>
    simp only [stepE] at h; split at h
    · simp only [Bool.and_eq_true, decide_eq_true_eq] at h
      obtain ⟨⟨⟨⟨⟨⟨⟨⟨rfl, h1⟩, h2⟩, h3⟩, h4⟩, h5⟩, h6⟩, h7⟩, h8⟩ := h
      obtain ⟨f, fd, ps, F, B, M, _⟩ := x.fx.fs _ _ _ (fkMeth_ok h1)
      obtain ⟨a1, a2⟩ := as_ok S x _ _ h8
      obtain ⟨fs, pc⟩ := pclB_ok x h2
      exact r_methI h3 h4 h5 pc.isi.cl M F x.gd B x.room' rfl (S.e x h7) a1 a2 h6
    · cases h
  | lenO j c a =>
    simp only [stepE] at h; split at h
    · simp only [Bool.and_eq_true, decide_eq_true_eq] at h
      obtain ⟨⟨⟨⟨rfl, h1⟩, h2⟩, h3⟩, h4⟩ := h
      obtain ⟨g, m⟩ := bltB_ok x h1
      obtain ⟨f, fd, ps, F, B, M, _⟩ := x.fx.fs _ _ _ (fkMeth_ok h3)
      exact r_lenO h2 M.at_ M.fn F x.gd x.room B g m (S.e x h4)
    · cases h
  | inO j c neg a b =>
    simp only [stepE] at h; split at h
    · simp only [Bool.and_eq_true, decide_eq_true_eq, Bool.not_eq_true'] at h
      obtain ⟨⟨⟨⟨h1, h2⟩, h3⟩, h4⟩, h5⟩ := h
      exact r_opd (dIn_ok x h1 h3) (fun _ _ _ z => evIn neg z) h2 (S.e x h4) (S.e x h5)
    · cases h
  | eqO j c neg a b =>
    simp only [stepE] at h; split at h
    · simp only [Bool.and_eq_true, decide_eq_true_eq, Bool.not_eq_true'] at h
      obtain ⟨⟨⟨⟨⟨h1, h2⟩, h2'⟩, h3⟩, h4⟩, h5⟩ := h
      exact r_opd (dEq_ok x h1 h2' h3) (fun _ _ _ z => evEq neg z) h2 (S.e x h4) (S.e x h5)
    · cases h
  | isiO a c =>
    simp only [stepE] at h; split at h
    · simp only [Bool.and_eq_true, decide_eq_true_eq] at h
      obtain ⟨⟨⟨⟨⟨⟨⟨rfl, h1⟩, h2⟩, h3⟩, h4⟩, h5⟩, h6⟩, h7⟩ := h
      obtain ⟨g, m⟩ := bltB_ok x h1
      obtain ⟨fs, pc⟩ := pclB_ok x h5
      exact r_isiO pc.isi h6 g m (glB_ok x h2) (clsB_ok x h4) (dbgB_ok h3) (S.e x h7)
    · cases h
  | split mu a b =>
    simp only [stepE] at h; split at h
    · simp only [Bool.and_eq_true, decide_eq_true_eq] at h
      obtain ⟨⟨⟨⟨⟨rfl, h1⟩, h2⟩, h3⟩, h4⟩, h5⟩ := h
      exact r_split h2 h1 h3 (S.e x h4) (S.e x h5)
    · cases h
  | join a b =>
    simp only [stepE] at h; split at h
    · simp only [Bool.and_eq_true, decide_eq_true_eq] at h
      obtain ⟨⟨⟨⟨⟨rfl, h1⟩, h2⟩, h3⟩, h4⟩, h5⟩ := h
      exact r_join h2 h1 h3 (S.e x h4) (S.e x h5)
    · cases h
  | lc2 mu elt t1 it1 t2 it2 ifs own own2 =>
    simp only [stepE] at h; split at h
    · obtain ⟨q1, q2, q2', q2'', q3, q3', q4, q5, q6, q7, q8, q9⟩ := lc2_ok S x h
      exact r_lc2 x.calm (by rw [x.nE]; exact x.nd) q4 q1 ownP_map q2 q2' q2'' q5 q6 q7 q8 q9 q3 q3'
    · cases h
theorem plainT_ok {e : Expr} {env : PySem.Env} (h : plainT e = true) : ∀ whole, isTrue e env whole = (do let v ← whole; standAt e.pos; holding [v] (truthy v)) := by
  intro whole
  cases e <;> first
    | (cases h; done)
    | rfl
theorem stepT_ok (S : Snd T Y k N R) (x : XOk T Y k N sc X) {e : Expr} {c : E} (h : stepT R T sc e c = true) : PT X e (tTst X.K Y c) := by
  have hu : X.A.units + 64 < cLine := x.room.units
  unfold stepT at h
  split at h
  · split at h
    · simp only [Bool.and_eq_true, copB, decide_eq_true_eq, Bool.not_eq_true'] at h
      obtain ⟨⟨⟨rfl, h1⟩, h2⟩, h3⟩ := h
      exact t_cmp hu h1 (S.e x h2) (S.e x h3)
    · simp only [Bool.and_eq_true, decide_eq_true_eq, Bool.not_eq_true'] at h
      obtain ⟨⟨⟨h1, h2⟩, h3⟩, h4⟩ := h
      exact t_opd (opD_din h1 hu) (fun _ _ _ z => evD _ z) h2 (S.e x h3) (S.e x h4)
    · simp only [Bool.and_eq_true, decide_eq_true_eq, Bool.not_eq_true'] at h
      obtain ⟨⟨⟨⟨h1, h2⟩, h3⟩, h4⟩, h5⟩ := h
      exact t_opd (dIn_ok x h1 h3) (fun _ _ _ z => evIn _ z) h2 (S.e x h4) (S.e x h5)
    · simp only [Bool.and_eq_true, decide_eq_true_eq, Bool.not_eq_true'] at h
      obtain ⟨⟨⟨⟨⟨h1, h2⟩, h2'⟩, h3⟩, h4⟩, h5⟩ := h
      exact t_opd (dEq_ok x h1 h2' h3) (fun _ _ _ z => evEq _ z) h2 (S.e x h4) (S.e x h5)
    · cases h
  · split at h
    · simp only [Bool.and_eq_true, copB, decide_eq_true_eq, Bool.not_eq_true'] at h
      obtain ⟨⟨⟨⟨⟨rfl, rfl⟩, h1⟩, h2⟩, h3⟩, h4⟩ := h
      exact t_ch hu h1 (S.e x h2) (S.e x h3) (S.e x h4)
    · cases h
  · split at h
    · exact t_not (S.t x h)
    · cases h
  · exact (andT_ok S x _ _ h).pt
  · exact (orT_ok S x _ _ h).pt
  · simp only [Bool.and_eq_true] at h
    exact t_val (S.e x h.2) (plainT_ok h.1)
theorem recs_ok : ∀ n : Nat, Snd T Y k N (recs T N n)
  | 0 => ⟨fun _ h => by simp [recs] at h, fun _ h => by simp [recs] at h⟩
  | n + 1 => ⟨fun x h => stepE_ok (recs_ok n) x h, fun x h => stepT_ok (recs_ok n) x h⟩
end
end Og
end
section
set_option maxHeartbeats 4000000
set_option autoImplicit false
/-! Og: the look at statements is sound; a def by its core term. -/
namespace Og
open PySem PySem.Spec PyProof.Rows L2

theorem swOk_ok {sc : Scope} {tg e : Expr} {l : Nat} {env : PySem.Env} (hs : env.scope = sc) (hk : sc.kind = .function) (h : swOk sc tg e = true) : swapsWith e (some tg) l env = pure false := by
  unfold swOk at h
  simp only [Bool.or_eq_true] at h
  rcases h with (h | h) | h
  · exact swap_no h
  · exact swap_tg h
  · split at h
    · rw [swap_lc (by rw [hs]; exact hk), hs]
      simp only [Bool.not_eq_true'] at h
      rw [h]
    · cases h
theorem fm_lt {α β : Type} {f : α → Option β} : ∀ {l : List α} {a : α}, a ∈ l → f a = none → (l.filterMap f).length ≠ l.length
  | b :: l, a, h, h0, e => by
    have le := List.length_filterMap_le f l
    rcases List.mem_cons.mp h with z | z
    · subst z
      rw [List.filterMap_cons_none h0, List.length_cons] at e
      omega
    · cases hb : f b with
      | none =>
        rw [List.filterMap_cons_none hb, List.length_cons] at e
        omega
      | some c =>
        rw [List.filterMap_cons_some hb, List.length_cons, List.length_cons] at e
        exact fm_lt z h0 (by omega)
theorem swNone_ok {tg e : Expr} {env : PySem.Env} (h : swNone env.scope tg e = true) : swappedStores [tg] e env = pure none := by
  unfold swNone at h
  split at h
  · unfold swappedStores
    simp only
    split
    · rfl
    · rename_i h1
      split
      · rfl
      · rw [if_pos]
        rw [Bool.or_eq_true] at h
        rcases h with h | h
        · exact absurd (by rw [Bool.or_eq_true]; exact .inl h) h1
        · obtain ⟨t, ht, hn⟩ := List.any_eq_true.mp h
          rw [Bool.or_eq_true]
          refine .inl ?_
          rw [bne_iff_ne]
          refine fm_lt ht ?_
          cases t with
          | Name x p =>
            have hn' : (!(env.scope.names.lookup x == some .local)) = true := hn
            have : (env.kindOf x == some .local) = false := by
              show (env.scope.names.lookup x == some .local) = false
              simpa using hn'
            simp only [this, Bool.false_and]
            rfl
          | _ => rfl
  · rename_i hne
    cases e <;> first
      | rfl
      | exact absurd rfl (hne _ _ _)
      | (exfalso; exact hne _ _ _ rfl rfl)
      | (exfalso; exact hne _ _ _ _ _ _ rfl rfl)
  · cases e <;> rfl
  · cases h
theorem swNone2_ok {o1 i1 o2 i2 e : Expr} {p1 p2 tp : Pos} {kt : Nat} {env : PySem.Env} (hk : env.scope.kind = .function) (h : swNone2 e = true) : swappedStores [.Tuple [.Subscript o1 i1 p1, .Subscript o2 i2 p2] kt tp] e env = pure none := by
  unfold swNone2 at h
  split at h
  · rename_i a b k q
    simp only [Bool.and_eq_true] at h
    have hb := blockFn hk
    have hst : ([a, b].any fun x => match x with | .Starred _ _ => true | _ => false) = false := by
      have one : ∀ x : Expr, notStar x = true → (match x with | .Starred _ _ => true | _ => false) = false := fun x hx => by
        cases x <;> first
          | rfl
          | (simp [notStar] at hx; done)
      simp only [List.any_cons, List.any_nil, Bool.or_false]
      rw [one a h.1, one b h.2]
      rfl
    unfold swappedStores
    simp only [List.length_cons, List.length_nil]
    rw [if_neg (by rw [hb]; decide), if_neg]
    · rw [if_pos]
      simp
    · intro z
      exact Bool.false_ne_true (hst.symm.trans z)
  · cases h
structure XOkS (T : Tb) (Y : Ctx) (k : Nat) (N : List Str) (sc : Scope) (X : Cx) : Prop where
  x : XOk T Y k N sc X
  own : PassesOwn (model X.prog X.w) X.A X.env X.xe
  fn : ∀ y, X.fn y = true
section
variable {T : Tb} {Y : Ctx} {k : Nat} {N : List Str} {sc : Scope} {X : Cx} {R : Rec} {f : Stmt → S → Bool}
theorem ss_ok (hf : ∀ st s, f st s = true → PS X st (tS X.K Y s)) : ∀ (st : List Stmt) (ss : List S), chkSs f st ss = true → PSs X st (tSs X.K Y ss)
  | [], [], _ => ss_nil
  | st :: r, s :: ss, h => by
    simp only [chkSs, Bool.and_eq_true] at h
    exact ss_cons (hf st s h.1) (ss_ok hf r ss h.2)
  | [], _ :: _, h => by simp [chkSs] at h
  | _ :: _, [], h => by simp [chkSs] at h
theorem stepS_ok (S : Snd T Y k N R) (xs : XOkS T Y k N sc X) (hf : ∀ st s, f st s = true → PS X st (tS X.K Y s)) {st : Stmt} {s : Og.S} (h : stepS T N R f sc st s = true) : PS X st (tS X.K Y s) := by
  have x := xs.x
  have nd : X.N.Nodup := by rw [x.nE]; exact x.nd
  have kd : X.env.scope.kind = .function := by rw [x.scE]; exact x.kind
  cases s with
  | ret c =>
    simp only [stepS] at h; split at h
    · exact s_ret (S.e x h)
    · cases h
  | retN =>
    simp only [stepS] at h; split at h
    · exact s_retN
    · cases h
  | asg t c =>
    simp only [stepS] at h; split at h
    · simp only [Bool.and_eq_true] at h
      obtain ⟨⟨⟨⟨h1, h2⟩, h3⟩, h4⟩, h5⟩ := h
      exact s_asg (S.e x h5) (tg_ok x (fun y _ => xs.fn y) t _ h1) h2 (swOk_ok x.scE x.kind h3) (swNone_ok (by rw [x.scE]; exact h4))
    · cases h
  | par is cs =>
    simp only [stepS] at h; split at h
    · simp only [Bool.and_eq_true, decide_eq_true_eq] at h
      obtain ⟨⟨⟨h1, h2⟩, h3⟩, h4⟩ := h
      exact s_par2 x.calm nd (by rw [x.nE]; exact h1) (by rw [x.nE]; exact h2) (by rw [x.scE]; exact h3) (as_ok S x _ _ h4).1
    · simp only [Bool.and_eq_true, decide_eq_true_eq] at h
      obtain ⟨⟨⟨⟨h1, h2⟩, h2'⟩, h3⟩, h4⟩ := h
      exact s_par3 x.calm nd (by rw [x.nE]; exact h1) (by rw [x.nE]; exact h2) (by rw [x.nE]; exact h2') (by rw [x.scE]; exact h3) (as_ok S x _ _ h4).1
    · cases h
  | asgC i c =>
    simp only [stepS] at h; split at h
    · simp only [Bool.and_eq_true, decide_eq_true_eq] at h
      obtain ⟨⟨⟨h1, h2⟩, h3⟩, h4⟩ := h
      obtain ⟨q1, q2, q3, q4, q5, q6, q7⟩ := lc_ok S x h4
      exact s_asgC x.calm nd kd (by rw [x.nE]; exact h1) (by rw [x.scE]; exact lclB_ok h2) (by rw [x.scE]; exact h3) q4 q1 ownP_map q2 q5 q6 q7 (set_no q3)
    · cases h
  | setIx a i c =>
    simp only [stepS] at h; split at h
    · simp only [Bool.and_eq_true] at h
      obtain ⟨⟨⟨h2, h3⟩, h4⟩, h5⟩ := h
      exact s_setIx (S.e x h3) (S.e x h4) (S.e x h5) h2
    · cases h
  | asgC2 i c =>
    simp only [stepS] at h; split at h
    · simp only [Bool.and_eq_true, decide_eq_true_eq] at h
      obtain ⟨⟨⟨h1, h2⟩, h3⟩, h4⟩ := h
      obtain ⟨q1, q2, q2', q2'', q3, q3', q4, q5, q6, q7, q8, q9⟩ := lc2_ok S x h4
      exact s_asgC2 x.calm nd kd (by rw [x.nE]; exact h1) (by rw [x.scE]; exact lclB_ok h2) (by rw [x.scE]; exact h3) q4 q1 ownP_map q2 q2' q2'' q5 q6 q7 q8 q9 q3 q3'
    · cases h
  | setD a i c =>
    simp only [stepS] at h; split at h
    · simp only [Bool.and_eq_true] at h
      exact s_setD x.room.units (S.e x h.1.1) (S.e x h.1.2) (S.e x h.2)
    · cases h
  | setFld a c f d =>
    simp only [stepS] at h; split at h
    · simp only [Bool.and_eq_true, decide_eq_true_eq] at h
      obtain ⟨⟨⟨rfl, h1⟩, h2⟩, h3⟩ := h
      obtain ⟨q1, q2⟩ := fldB_ok x h1
      exact s_setFld q1 q2 (S.e x h2) (S.e x h3)
    · cases h
  | setAt a c i d =>
    simp only [stepS] at h; split at h
    · simp only [Bool.and_eq_true] at h
      obtain ⟨⟨h1, h2⟩, h3⟩ := h
      obtain ⟨q1, p, q2⟩ := slotB_ok x h1
      exact s_setAt q1 q2 (S.e x h2) (S.e x h3)
    · cases h
  | setIx2 a i b j c =>
    simp only [stepS] at h; split at h
    · simp only [Bool.and_eq_true] at h
      obtain ⟨⟨⟨⟨⟨⟨⟨⟨h1, h2⟩, h3⟩, h4⟩, h5⟩, h6⟩, h7⟩, h8⟩, h9⟩ := h
      exact s_setIx2 x.room.units x.calm (S.e x h5) (S.e x h6) (S.e x h7) (S.e x h8) (S.e x h9) h1 h2 h3 (swNone2_ok kd h4)
    · cases h
  | ex c =>
    simp only [stepS] at h; split at h
    · simp only [Bool.and_eq_true] at h
      exact s_ex h.1 (S.e x h.2)
    · cases h
  | ite c a b =>
    simp only [stepS] at h; split at h
    · simp only [Bool.and_eq_true] at h
      exact s_ite (S.t x h.1.1) (ss_ok hf _ _ h.1.2) (ss_ok hf _ _ h.2)
    · cases h
  | for_ t it b =>
    simp only [stepS] at h; split at h
    · simp only [Bool.and_eq_true] at h
      obtain ⟨⟨⟨h1, h2⟩, h3⟩, h4⟩ := h
      exact s_for xs.own x.calm (it_ok S x it h2) (tg_ok x (fun y _ => xs.fn y) t _ h3) (ss_ok hf _ _ h4) h1
    · cases h
  | while_ c b =>
    simp only [stepS] at h; split at h
    · simp only [Bool.and_eq_true] at h
      exact s_while xs.own (S.t x h.1) (ss_ok hf _ _ h.2)
    · cases h
  | never => exact s_never
  | brk =>
    simp only [stepS] at h; split at h
    · exact s_brk
    · cases h
  | cnt =>
    simp only [stepS] at h; split at h
    · exact s_cnt
    · cases h
  | pass =>
    simp only [stepS] at h; split at h
    · exact s_pass
    · cases h
theorem chkS_ok (xs : XOkS T Y k N sc X) : ∀ (n : Nat) (st : Stmt) (s : Og.S), chkS T N sc n st s = true → PS X st (tS X.K Y s)
  | 0, _, _, h => by simp [chkS] at h
  | n + 1, st, s, h => stepS_ok (recs_ok 60) xs (chkS_ok xs n) h
end

/-- a def's body as core terms -/
def chkB (T : Tb) (N ps : List Str) (sc : Scope) (bd : List Stmt) (b : List S) : Bool := C8.scC N ps sc && chkSs (chkS T N sc 30) bd b
theorem REnv.start {K : PySem.W.Frag} {N : List Str} {m : Mem} {H : Hp} {ds : List D} {vs : List V} (rs : Reps K m H vs ds) (hm : MemOk K m H) : REnv K (startD N.length ds) m (L2.start N vs) H := by
  refine ⟨?_, fun i d h => ?_, hm⟩
  · unfold startD L2.start
    simp [rs.length]
  · unfold startD at h
    unfold L2.start
    have hl := rs.length
    by_cases hi : i < ds.length
    · rw [List.getElem?_append_left (by simpa using hi), List.getElem?_map] at h
      rw [List.getElem?_append_left (by simpa [hl] using hi), List.getElem?_map]
      cases e : ds[i]? with
      | none => rw [e] at h; simp at h
      | some d' =>
        rw [e] at h
        simp at h
        subst h
        obtain ⟨v, q1, q2⟩ := rs.get e
        rw [q1]
        exact ⟨v, rfl, q2⟩
    · rw [List.getElem?_append_right (by simpa using hi)] at h
      have := List.mem_of_getElem? h
      rw [List.mem_replicate] at this
      cases this.2
/-- THE RULE for a def -/
theorem def_ok {P : Program} {w : World} {K : PySem.W.Frag} {mg : Str → Option Value} {base : Heap} {T : Tb} {Y : Ctx} {k : Nat} (fx : Fx P w K mg base T Y k) {x qual : Str} {params : Arguments} {bd : List Stmt} {sc : Scope} {f : Addr} {fd : FuncData} (F : FunD K x qual params bd sc [] [] f fd) {N ps : List Str} {b : List S}
    (hc : chkB T N ps sc bd b = true) {n : Nat} (hn : ps.length = n) {sp : Spec} (hsp : ∀ ds m Q, ds.length = n → sp ds m Q → body Y N.length b ds m Q) : FnG P w K mg base (k + 2) f fd ps (spK K n sp) := by
  unfold chkB at hc
  simp only [Bool.and_eq_true] at hc
  obtain ⟨h1, h2⟩ := hc
  have sco := C8.fnScope_by h1
  refine FnG.of F sco (fun vs H Q h => by rw [h.1, hn]) fun cdv A outer s H vs Q hg hr ⟨hl, ds, m, Qd, rs, hm, hq, fin⟩ => ⟨tSs K Y b, ?_, ?_⟩
  · have xo : XOkS T Y k N sc (cxOf CX0 P w K mg base N qual sc f cdv A outer s H allE).nox :=
      ⟨⟨fx, rfl, sco.kind, rfl, sco.nd, rfl, hr, hg, _, _, rfl, sco.gen, sco.co, rfl, rfl⟩, PassesOwn.never, fun _ => rfl⟩
    exact (ss_ok (chkS_ok xo 30) _ _ h2).nox
  · refine ⟨startD N.length ds, m, _, REnv.start rs hm, hsp ds m Qd (by rw [← rs.length, hl]) hq, ?_⟩
    exact ⟨fun r' m' σ' H' ⟨m2, sb, q⟩ he s' => fin _ _ _ _ q rep_non (he.mem.sub sb) (s'.trans sb.sub.step), fun _ _ _ _ q => q.elim, fun _ _ _ _ q => q.elim,
      fun d m' v H' ⟨m2, sb, q⟩ rv hm' s' => fin _ _ _ _ q (Rep.step sb.sub.step _ _ rv) (hm'.sub sb) (s'.trans sb.sub.step)⟩
end Og
end
section
set_option maxHeartbeats 4000000
set_option autoImplicit false
/-! Og: a module, def by def. -/
namespace Og
open PySem PySem.Spec PyProof.Rows L2

structure Row where
  fk : FK
  n : Nat
  N : List Str
  ps : List Str
  d : He.DefD
  b : List S
def Yn (gd : List D) (cls : Nat → Addr) (spec : Nat → Spec) (j : Nat) : Ctx := ⟨gd, fun i => if i < j then spec i else fun _ _ _ => False, cls⟩
theorem fnG_none {P : Program} {w : World} {K : PySem.W.Frag} {mg : Str → Option Value} {base : Heap} {k : Nat} {f : Addr} {fd : FuncData} {ps : List Str} {n : Nat} (hn : ps.length = n) : FnG P w K mg base k f fd ps (spK K n fun _ _ _ => False) :=
  ⟨fun vs H Q h => by rw [h.1, hn], fun A outer s H args us vs Q _ _ _ _ _ h => by obtain ⟨_, _, _, _, _, _, z, _⟩ := h; exact z.elim⟩
/-- what is known of the module ahead of any promise -/
structure Mx (P : Program) (w : World) (K : PySem.W.Frag) (mg : Str → Option Value) (base : Heap) (T : Tb) (rows : List Row) (gd : List D) (cls : Nat → Addr) : Prop where
  tf : T.fs = rows.map fun r => (r.fk, r.n)
  gs : ∀ (j : Nat) (x : Str), T.gs[j]? = some x → ∃ v u d, mg x = some u ∧ RelV v u ∧ gd[j]? = some d ∧ ∀ m H, Rep K m H v d
  row : ∀ (i : Nat) (r : Row), rows[i]? = some r → r.ps.length = r.n ∧ chkB T r.N r.ps r.d.scope r.d.body r.b = true ∧ ∃ (f : Addr) (fd : FuncData), FunD K r.d.name r.d.qual r.d.params r.d.body r.d.scope [] [] f fd ∧ Binds K fd r.ps [] ∧
    (∀ fn, FkOk K mg ⟨gd, fn, cls⟩ f r.fk) ∧ ∀ ks pm, (i, ks, pm) ∈ T.kw → KBinds K fd r.ps ks (kwG .none pm) (kwG .non pm)
  cs : ∀ (c : Nat) (x : Str) (pl : Bool) (sl : List Str), T.cs[c]? = some (x, pl, sl) → mg x = some (.ref (cls c)) ∧ (pl = false → SlX.SCls K (cls c) ∧ ∀ (i : Nat) (f : Str), sl[i]? = some f → ∃ p, SlX.Slot1 K (cls c) f p i) ∧ (pl = true → PCls K (cls c) sl)
  bl : ∀ x ∈ T.bl, mg x = none
  sr : Seer3 base
  tr : P.given.tree = none
theorem mod_ok {P : Program} {w : World} {K : PySem.W.Frag} {mg : Str → Option Value} {base : Heap} {T : Tb} {rows : List Row} {gd : List D} {cls : Nat → Addr} {spec : Nat → Spec} (M : Mx P w K mg base T rows gd cls)
    (law : ∀ (i : Nat) (r : Row), rows[i]? = some r → ∀ ds m Q, ds.length = r.n → spec i ds m Q → body (Yn gd cls spec i) r.N.length r.b ds m Q) : ∀ j : Nat, Fx P w K mg base T (Yn gd cls spec j) (40 + 2 * j)
  | 0 => ⟨M.gs, fun i q n h => by
      rw [M.tf, List.getElem?_map] at h
      cases e : rows[i]? with
      | none => rw [e] at h; cases h
      | some r =>
        rw [e] at h
        obtain ⟨rfl, rfl⟩ : r.fk = q ∧ r.n = n := by simpa using h
        obtain ⟨hn, _, f, fd, F, B, k1, k2⟩ := M.row i r e
        exact ⟨f, fd, r.ps, by
          show FnG P w K mg base 40 f fd r.ps (spK K r.n (if i < 0 then spec i else fun _ _ _ => False))
          rw [if_neg (Nat.not_lt_zero _)]
          exact fnG_none hn, B, k1 _, k2⟩, M.cs, M.bl, M.sr, M.tr, Nat.le_refl _⟩
  | j + 1 => ⟨M.gs, fun i q n h => by
      have ih := mod_ok M law j
      have h0 := h
      rw [M.tf, List.getElem?_map] at h
      cases e : rows[i]? with
      | none => rw [e] at h; cases h
      | some r =>
        rw [e] at h
        obtain ⟨rfl, rfl⟩ : r.fk = q ∧ r.n = n := by simpa using h
        show ∃ (f : Addr) (fd : FuncData) (ps : List Str), FnG P w K mg base (40 + 2 * j + 2) f fd ps (spK K r.n (if i < j + 1 then spec i else fun _ _ _ => False)) ∧ _
        by_cases h1 : i < j
        · obtain ⟨f, fd, ps, F, B, k1, k2⟩ := ih.fs i r.fk r.n h0
          have F' : FnG P w K mg base (40 + 2 * j) f fd ps (spK K r.n (if i < j then spec i else fun _ _ _ => False)) := F
          rw [if_pos h1] at F'
          rw [if_pos (Nat.lt_succ_of_lt h1)]
          refine ⟨f, fd, ps, F'.mono (by omega), B, ?_, k2⟩
          cases hk : r.fk <;> rw [hk] at k1 <;> exact k1
        · obtain ⟨hn, hc, f, fd, F, B, k1, k2⟩ := M.row i r e
          by_cases h2 : i = j
          · subst h2
            rw [if_pos (Nat.lt_succ_self _)]
            exact ⟨f, fd, r.ps, def_ok ih F hc hn (law i r e), B, k1 _, k2⟩
          · rw [if_neg (by omega)]
            exact ⟨f, fd, r.ps, fnG_none hn, B, k1 _, k2⟩, M.cs, M.bl, M.sr, M.tr, by omega⟩
end Og
end
section
set_option maxHeartbeats 4000000
set_option autoImplicit false
/-! Og: what the head must tell of a module. -/
namespace Og
open PySem PySem.Spec PyProof.Rows L2

/-! ### constants of the written part -/
mutual
def cdB (K : PySem.W.Frag) : D → Value → Bool
  | .non, v => (match v with | .none => true | _ => false)
  | .bl b, v => (match v with | .bool c => b == c | _ => false)
  | .int i, v => (match v with | .int j _ => decide (i = j) | _ => false)
  | .str x, v => (match v with | .str y _ => decide (x = y) | _ => false)
  | .ty _, _ => false
  | .ref _, _ => false
  | .dic, _ => false
  | .dK _ _, _ => false
  | .dT _ _, _ => false
  | .ob _ _ _, _ => false
  | .lv _, _ => false
  | .tup ds, v => (match v with
    | .ref a => (match K.lookup a with
      | some ⟨.type c, _, .seq its _, _⟩ => decide (c = "tuple") && decide (its.size ≤ sizeLine) && cdsB K ds its.toList
      | _ => false)
    | _ => false)
  | .lst ds, v => (match v with
    | .ref a => (match K.lookup a with
      | some ⟨.type c, none, .seq its _, _⟩ => decide (c = "list") && decide (its.size ≤ sizeLine) && cdsB K ds its.toList
      | _ => false)
    | _ => false)
def cdsB (K : PySem.W.Frag) : List D → List Value → Bool
  | [], [] => true
  | d :: ds, v :: vs => cdB K d v && cdsB K ds vs
  | _, _ => false
end
mutual
theorem cdB_ok {K : PySem.W.Frag} : ∀ (d : D) (v : Value), cdB K d v = true → ∃ x : V, RelV x v ∧ ∀ m H, Rep K m H x d
  | .non, v, h => by
    simp only [cdB] at h; split at h
    · exact ⟨.non, rfl, fun _ _ => rep_non⟩
    · cases h
  | .bl b, v, h => by
    simp only [cdB] at h; split at h
    · have e := eq_of_beq h
      subst e
      exact ⟨.bl b, rfl, fun _ _ => rep_bl⟩
    · cases h
  | .int i, v, h => by
    simp only [cdB] at h; split at h
    · have e := of_decide_eq_true h
      subst e
      exact ⟨.int i, ⟨_, rfl⟩, fun _ _ => rep_int⟩
    · cases h
  | .str x, v, h => by
    simp only [cdB] at h; split at h
    · have e := of_decide_eq_true h
      subst e
      exact ⟨.str x, ⟨_, rfl⟩, fun _ _ => rep_str⟩
    · cases h
  | .ty _, _, h => by simp [cdB] at h
  | .ref _, _, h => by simp [cdB] at h
  | .dic, _, h => by simp [cdB] at h
  | .dK _ _, _, h => by simp [cdB] at h
  | .dT _ _, _, h => by simp [cdB] at h
  | .ob _ _ _, _, h => by simp [cdB] at h
  | .lv _, _, h => by simp [cdB] at h
  | .tup ds, v, h => by
    simp only [cdB] at h; split at h
    · split at h
      · rename_i a x0 c od its n sl e
        simp only [Bool.and_eq_true, decide_eq_true_eq] at h
        obtain ⟨⟨rfl, h2⟩, h3⟩ := h
        obtain ⟨xs, q1, q2⟩ := cdsB_ok ds _ h3
        refine ⟨.ref a, rfl, fun m H => ?_⟩
        simp only [Rep]
        exact ⟨a, xs, rfl, .inr ⟨_, its, n, e, rfl, rfl, h2, q1⟩, q2 m H⟩
      · cases h
    · cases h
  | .lst ds, v, h => by
    simp only [cdB] at h; split at h
    · split at h
      · rename_i a x0 c its n sl e
        simp only [Bool.and_eq_true, decide_eq_true_eq] at h
        obtain ⟨⟨rfl, h2⟩, h3⟩ := h
        obtain ⟨xs, q1, q2⟩ := cdsB_ok ds _ h3
        refine ⟨.ref a, rfl, fun m H => ?_⟩
        simp only [Rep]
        exact ⟨a, xs, rfl, .inr ⟨_, its, n, e, rfl, rfl, rfl, h2, q1⟩, q2 m H⟩
      · cases h
    · cases h
theorem cdsB_ok {K : PySem.W.Frag} : ∀ (ds : List D) (vs : List Value), cdsB K ds vs = true → ∃ xs : List V, Vals xs vs ∧ ∀ m H, Reps K m H xs ds
  | [], [], _ => ⟨[], .nil, fun _ _ => by simp [Reps]⟩
  | d :: ds, v :: vs, h => by
    simp only [cdsB, Bool.and_eq_true] at h
    obtain ⟨x, q1, q2⟩ := cdB_ok d v h.1
    obtain ⟨xs, q3, q4⟩ := cdsB_ok ds vs h.2
    exact ⟨x :: xs, .cons q1 q3, fun m H => by simp only [Reps]; exact ⟨x, xs, rfl, q2 m H, q4 m H⟩⟩
  | [], _ :: _, h => by simp [cdsB] at h
  | _ :: _, [], h => by simp [cdsB] at h
end
def gconB (K : PySem.W.Frag) (x : Str) (d : D) : Bool := match PySem.W.nsIn K mainGlobals x with
  | some (some v) => cdB K d v
  | _ => false
theorem gconB_ok {K : PySem.W.Frag} {h : Heap} {mg : Str → Option Value} (X : K.In h) (G : h.Ns mainGlobals mg) {x : Str} {d : D} (c : gconB K x d = true) : ∃ v u, mg x = some u ∧ RelV v u ∧ ∀ m H, Rep K m H v d := by
  unfold gconB at c
  split at c
  · rename_i u e
    obtain ⟨v, q1, q2⟩ := cdB_ok d u c
    exact ⟨v, u, PySem.W.mg_of X G e, q1, q2⟩
  · cases c

/-! ### classes -/
def slot1B (K : PySem.W.Frag) (C : Addr) (f : Str) (i : Nat) : Bool :=
  He.eqO (PySem.W.findIn K (.ref C) f) (some (some (.ref (He.ma K C f)))) && (He.eqO (PySem.W.specialIn K (.ref (He.ma K C f)) "__get__") (some (some (.builtin "member_descriptor.__get__"))) &&
  (decide (PySem.W.takesIn K (.ref (He.ma K C f)) = some true) && (decide (PySem.W.typeIn K (.ref (He.ma K C f)) = some (.type "member_descriptor")) && (decide (PySem.W.slotIn K (He.ma K C f) C = some i) && decide (i < 1000)))))
theorem slot1B_ok {K : PySem.W.Frag} {C : Addr} {f : Str} {i : Nat} (h : slot1B K C f i = true) : SlX.Slot1 K C f (He.ma K C f) i := by
  unfold slot1B at h
  simp only [Bool.and_eq_true, decide_eq_true_eq] at h
  obtain ⟨h1, h2, h3, h4, h5, h6⟩ := h
  exact ⟨He.eqO_ok h1, He.eqO_ok h2, h3, h4, h5, h6⟩
def sclsB (K : PySem.W.Frag) (C : Addr) : Bool := PySem.W.plainGet K C Str.empty && (PySem.W.isClsIn K C && (PySem.W.plainOver K C && He.eqO (PySem.W.findIn K (.ref C) "__setattr__") (some (some (.builtin "object.__setattr__")))))
theorem sclsB_ok {K : PySem.W.Frag} {C : Addr} (h : sclsB K C = true) : SlX.SCls K C := by
  unfold sclsB at h
  simp only [Bool.and_eq_true] at h
  exact ⟨h.1, h.2.1, h.2.2.1, He.eqO_ok h.2.2.2⟩
def slotsB (K : PySem.W.Frag) (C : Addr) : Nat → List Str → Bool
  | _, [] => true
  | i, f :: fs => slot1B K C f i && slotsB K C (i + 1) fs
theorem slotsB_ok {K : PySem.W.Frag} {C : Addr} : ∀ {sl : List Str} {n i : Nat} {f : Str}, slotsB K C n sl = true → sl[i]? = some f → ∃ p, SlX.Slot1 K C f p (n + i)
  | [], _, _, _, _, e => by simp at e
  | g :: sl, n, 0, f, h, e => by
    simp only [slotsB, Bool.and_eq_true] at h
    simp at e
    subst e
    exact ⟨_, slot1B_ok h.1⟩
  | g :: sl, n, i + 1, f, h, e => by
    simp only [slotsB, Bool.and_eq_true] at h
    obtain ⟨p, q⟩ := slotsB_ok (i := i) h.2 (by simpa using e)
    exact ⟨p, by rw [show n + (i + 1) = n + 1 + i from by omega]; exact q⟩
def pclsB (K : PySem.W.Frag) (C : Addr) (fs : List Str) : Bool :=
  PySem.W.plainGet K C Str.empty && (PySem.W.hasDictIn K C && (PySem.W.plainOver K C && (He.eqO (PySem.W.findIn K (.ref C) "__setattr__") (some (some (.builtin "object.__setattr__"))) &&
  (He.eqO (PySem.W.findIn K (.ref C) "__class__") (some (some (.builtin "object.__class__"))) && (He.eqO (PySem.W.specialIn K (.builtin "object.__class__") "__get__") (some (some (.builtin "getset_descriptor.__get__"))) &&
  (decide (PySem.W.takesIn K (.builtin "object.__class__") = some true) && (decide (PySem.W.mroIn K C (.type "object") = some true) && (decide (PySem.W.kitOne K (.ref C) (.ref C) = some true) && (decide (PySem.W.kitOne K (.type "str") (.ref C) = some false) &&
  (He.eqO (PySem.W.findIn K (.ref C) "__ne__") (some (some (.builtin "object.__ne__"))) && fs.all fun f => He.eqO (PySem.W.findIn K (.ref C) f) (some none)))))))))))
theorem pclsB_ok {K : PySem.W.Frag} {C : Addr} {fs : List Str} (h : pclsB K C fs = true) : PCls K C fs := by
  unfold pclsB at h
  simp only [Bool.and_eq_true, decide_eq_true_eq] at h
  obtain ⟨h1, h2, h3, h4, h5, h6, h7, h8, h9, h10, h11, h12⟩ := h
  exact ⟨⟨⟨h1, h2, h3, He.eqO_ok h4⟩, He.eqO_ok h5, He.eqO_ok h6, h7, h8, h9, h10⟩, He.eqO_ok h11, fun f hf => He.eqO_ok (List.all_eq_true.mp h12 f hf)⟩
def clsAllB (K : PySem.W.Frag) : List (Str × Bool × List Str) → Bool
  | [] => true
  | (x, pl, sl) :: r => (match pl with | false => sclsB K (He.ga K x) && slotsB K (He.ga K x) 0 sl | true => pclsB K (He.ga K x) sl) && clsAllB K r
theorem clsAllB_ok {K : PySem.W.Frag} : ∀ {cs : List (Str × Bool × List Str)} {c : Nat} {x : Str} {pl : Bool} {sl : List Str}, clsAllB K cs = true → cs[c]? = some (x, pl, sl) → (pl = false → SlX.SCls K (He.ga K x) ∧ slotsB K (He.ga K x) 0 sl = true) ∧ (pl = true → PCls K (He.ga K x) sl)
  | [], _, _, _, _, _, e => by simp at e
  | (y, ql, tl) :: r, 0, x, pl, sl, h, e => by
    simp only [clsAllB, Bool.and_eq_true] at h
    simp at e
    obtain ⟨rfl, rfl, rfl⟩ := e
    refine ⟨fun z => ?_, fun z => ?_⟩
    · subst z
      have h1 := h.1
      simp only [Bool.and_eq_true] at h1
      exact ⟨sclsB_ok h1.1, h1.2⟩
    · subst z
      exact pclsB_ok h.1
  | (y, ql, tl) :: r, c + 1, x, pl, sl, h, e => by
    simp only [clsAllB, Bool.and_eq_true] at h
    exact clsAllB_ok (c := c) h.2 (by simpa using e)
def gsAllB (K : PySem.W.Frag) : List Str → List D → Bool
  | [], [] => true
  | x :: xs, d :: ds => gconB K x d && gsAllB K xs ds
  | _, _ => false
theorem gsAllB_ok {K : PySem.W.Frag} : ∀ {xs : List Str} {ds : List D} {j : Nat} {x : Str}, gsAllB K xs ds = true → xs[j]? = some x → ∃ d, ds[j]? = some d ∧ gconB K x d = true
  | [], _, _, _, _, e => by simp at e
  | y :: xs, [], _, _, h, _ => by simp [gsAllB] at h
  | y :: xs, d :: ds, 0, x, h, e => by
    simp only [gsAllB, Bool.and_eq_true] at h
    simp at e
    subst e
    exact ⟨d, rfl, h.1⟩
  | y :: xs, d :: ds, j + 1, x, h, e => by
    simp only [gsAllB, Bool.and_eq_true] at h
    obtain ⟨d', q1, q2⟩ := gsAllB_ok (j := j) h.2 (by simpa using e)
    exact ⟨d', by simpa using q1, q2⟩

/-! ### what long divisions ask -/
def keysB (es : Array DictEntry) : Bool := es.toList.all fun e => match e.key with
  | .str _ _ => true
  | _ => false
def lackB (K : PySem.W.Frag) (a : Addr) (xs : List Str) : Bool := match K.lookup a with
  | some ⟨_, _, .dict es _, _⟩ => keysB es && xs.all fun x => (match nsFind es x with | none => true | some _ => false)
  | _ => false
theorem lackB_ok {K : PySem.W.Frag} {h : Heap} (X : K.In h) {a : Addr} {xs : List Str} (c : lackB K a xs = true) : ∃ m, h.Ns a m ∧ ∀ x ∈ xs, m x = none := by
  unfold lackB at c
  split at c
  · rename_i c1 c2 es n sl e
    simp only [Bool.and_eq_true] at c
    refine ⟨nsFind es, ⟨_, es, n, X _ _ e, rfl, fun z hz => ?_, fun _ => rfl⟩, fun x hx => ?_⟩
    · have q := List.all_eq_true.mp c.1 z (by simpa using hz)
      cases k : z.key with
      | str s t => exact ⟨s, t, rfl⟩
      | _ => rw [k] at q; cases q
    · have q := List.all_eq_true.mp c.2 x hx
      split at q
      · assumption
      · cases q
  · cases c
def bmB (K : PySem.W.Frag) : Bool := match PySem.W.nsIn K mainGlobals "__builtins__" with
  | some (some (.ref b)) => (match K.lookup b with
    | some ⟨.type c, some d, _, _⟩ => decide (c = "module") && decide (d = builtinsNs)
    | _ => false)
  | _ => false
theorem bmB_ok {K : PySem.W.Frag} {h : Heap} {mg : Str → Option Value} (X : K.In h) (G : h.Ns mainGlobals mg) (c : bmB K = true) : ∃ mg bm ob, h.Ns mainGlobals mg ∧ mg "__builtins__" = some (.ref bm) ∧ h.get? bm = some ob ∧ ob.cls = .type "module" ∧ ob.dict = some builtinsNs := by
  unfold bmB at c
  split at c
  · rename_i b e
    split at c
    · rename_i c1 d x1 x2 e2
      simp only [Bool.and_eq_true, decide_eq_true_eq] at c
      exact ⟨mg, b, _, G, PySem.W.mg_of X G e, X _ _ e2, by rw [c.1], by rw [c.2]⟩
    · cases c
  · cases c
def seerB (K : PySem.W.Frag) : Bool := lackB K cStatics ["sys.audit-hooks", "sys.dict"] && (lackB K sysModules ["_pylong"] && bmB K)
theorem seerB_ok {K : PySem.W.Frag} {h : Heap} {mg : Str → Option Value} (X : K.In h) (G : h.Ns mainGlobals mg) (c : seerB K = true) : Seer3 h := by
  unfold seerB at c
  simp only [Bool.and_eq_true] at c
  obtain ⟨mc, h1, h2⟩ := lackB_ok X c.1
  obtain ⟨mm, h3, h4⟩ := lackB_ok X c.2.1
  exact ⟨⟨mc, h1, h2 _ (by simp), h2 _ (by simp)⟩, ⟨mm, h3, h4 _ (by simp)⟩, bmB_ok X G c.2.2⟩
/-! ### the Hook -/
def asO (g : Addr → Option Obj) : Nat → List Addr
  | 0 => [mainGlobals, cStatics, sysModules]
  | n + 1 => He.growD g (asO g n)
/-! properties: where their getters stand, that they are these defs -/
def pgA (K : PySem.W.Frag) (p : Str × Option Str) : Addr := match PySem.W.recIn K (He.fAd K p) "property" with
  | some (.ref g :: _) => g
  | _ => 0
def fnA (K : PySem.W.Frag) (a : Addr) : He.FnW := match K.lookup a with
  | some ⟨_, _, .func fd, _⟩ => some (fd.name, fd.qualname, fd.params, fd.body, fd.scope, fd.globals, fd.closure, fd.builtins)
  | _ => none
def okA (K : PySem.W.Frag) (a : Addr) (d : He.DefD) : Bool := PySem.W.keepIn K (.ref a) && (match K.lookup a with
  | some ⟨_, _, .func fd, _⟩ => PySem.W.codeIn K fd.code d.qual && (He.dflB K fd.defaults (d.dvs K) && He.kwdB K fd.kwdefaults (d.kws K))
  | _ => false)
theorem funD_at {K : PySem.W.Frag} {a : Addr} {d : He.DefD} (e : fnA K a = d.val) (c : okA K a d = true) : ∃ fd, FunD K d.name d.qual d.params d.body d.scope (d.dvs K) (d.kws K) a fd := by
  unfold okA at c
  rw [Bool.and_eq_true] at c
  obtain ⟨kp, c2⟩ := c
  unfold fnA at e
  cases q : K.lookup a with
  | none =>
    rw [q] at c2
    cases c2
  | some o =>
    obtain ⟨oc, od, dt, osl⟩ := o
    rw [q] at c2 e
    cases dt with
    | func fd =>
      obtain ⟨n1, n2, n3, n4, n5, n6, n7, n8, n9, n10, n11, n12, n13, n14, n15⟩ := fd
      have e2 : (some (n1, n2, n3, n4, n5, n6, n7, n15) : He.FnW) = some (d.name, d.qual, d.params, .stmts d.body, d.scope, mainGlobals, [], builtinsNs) := e
      simp only [Option.some.injEq, Prod.mk.injEq] at e2
      obtain ⟨h1, h2, h3, h4, h5, h6, h7, h8⟩ := e2
      subst h1 h2 h3 h4 h5 h6 h7 h8
      have c3 : (PySem.W.codeIn K n13 d.qual && (He.dflB K n8 (d.dvs K) && He.kwdB K n9 (d.kws K))) = true := c2
      rw [Bool.and_eq_true, Bool.and_eq_true] at c3
      obtain ⟨k1, k3, k4⟩ := c3
      exact ⟨_, ⟨oc, od, n8, n9, n10, n11, n12, n13, n14, osl, rfl, q, k1, He.dflB_ok k3, He.kwdB_ok k4⟩, kp⟩
    | _ => cases c2
def propB (K : PySem.W.Frag) (d : He.DefD) : Bool := match d.at_.2 with
  | none => false
  | some f => (match PySem.W.recIn K (He.fAd K d.at_) "property" with | some (.ref _ :: _) => true | _ => false) && (He.eqO (PySem.W.findIn K (.ref (He.ga K d.at_.1)) f) (some (some (.ref (He.fAd K d.at_)))) && (He.eqO (PySem.W.specialIn K (.ref (He.fAd K d.at_)) "__get__") (some (some (.builtin "property.__get__"))) &&
    (decide (PySem.W.takesIn K (.ref (He.fAd K d.at_)) = some true) && okA K (pgA K d.at_) d)))
theorem propB_ok {K : PySem.W.Frag} {d : He.DefD} {x f : Str} (e : d.at_ = (x, some f)) (h : propB K d = true) : PropOf K (He.ga K x) f (He.fAd K d.at_) (pgA K d.at_) ∧ okA K (pgA K d.at_) d = true := by
  unfold propB at h
  rw [e] at h
  simp only [Bool.and_eq_true, decide_eq_true_eq] at h
  obtain ⟨h1, h2, h3, h4, h5⟩ := h
  rw [e]
  refine ⟨⟨He.eqO_ok h2, He.eqO_ok h3, h4, ?_⟩, h5⟩
  split at h1
  · rename_i g rest er
    refine ⟨rest, ?_⟩
    rw [er]
    unfold pgA
    rw [er]
  · cases h1
abbrev AlO : Type := He.AlD × Bool × List He.FnW
def frO (n : Nat) (g : Addr → Option Obj) : PySem.W.Frag := He.frG g (asO g n)
def obP (fp : List He.DefD) (K : PySem.W.Frag) : List He.FnW := fp.map fun d => fnA K (pgA K d.at_)
def obO (n : Nat) (fa : List He.Fa) (fn fp : List He.DefD) (ex : PySem.W.Frag → Bool) (g : Addr → Option Obj) : AlO := (He.obsD fa fn (frO n g), (ex (frO n g) && fp.all (propB (frO n g))), obP fp (frO n g))
def hookO (n : Nat) (fa : List He.Fa) (fn fp : List He.DefD) (ex : PySem.W.Frag → Bool) : PySem.W.Hook where
  α := AlO
  obs := fun s => obO n fa fn fp ex s.heap.get?
  val := fun _ => (He.valD fn, true, fp.map He.DefD.val)
  says := fun _ h => ∃ K : PySem.W.Frag, K.In h ∧ He.SaysD fa fn K ∧ (ex K && fp.all (propB K)) = true ∧ obP fp K = fp.map He.DefD.val
  of := fun _ _ e => ⟨_, He.frG_in, congrArg (fun z : AlO => z.1) e, congrArg (fun z : AlO => z.2.1) e, congrArg (fun z : AlO => z.2.2) e⟩
  keeps := fun _ _ _ ⟨K, hK, c, d⟩ k => ⟨K, PySem.W.Frag.In.keeps hK k, c, d⟩
theorem obO_eq {n : Nat} {fa : List He.Fa} {fn fp : List He.DefD} {ex : PySem.W.Frag → Bool} {g : Addr → Option Obj} {s : Shared} (h : ∀ a, g a = s.heap.get? a) : obO n fa fn fp ex g = (hookO n fa fn fp ex).obs s := by
  have e : g = s.heap.get? := funext h
  rw [e]; rfl
/-- what is told of the properties -/
structure SaysP (fp : List He.DefD) (K : PySem.W.Frag) : Prop where
  ok : fp.all (propB K) = true
  fn : obP fp K = fp.map He.DefD.val
theorem SaysP.defs {fp : List He.DefD} {K : PySem.W.Frag} (c : SaysP fp K) {d : He.DefD} (h : d ∈ fp) {x f : Str} (e : d.at_ = (x, some f)) : ∃ fd, FunD K d.name d.qual d.params d.body d.scope (d.dvs K) (d.kws K) (pgA K d.at_) fd ∧ PropOf K (He.ga K x) f (He.fAd K d.at_) (pgA K d.at_) := by
  obtain ⟨i, hi, e2⟩ := List.mem_iff_getElem.mp h
  have e3 : (obP fp K)[i]? = (fp.map He.DefD.val)[i]? := by rw [c.fn]
  unfold obP at e3
  rw [List.getElem?_map, List.getElem?_map, List.getElem?_eq_getElem hi, e2] at e3
  obtain ⟨q1, q2⟩ := propB_ok e (List.all_eq_true.mp c.ok d h)
  obtain ⟨fd, F⟩ := funD_at (Option.some.inj e3) q2
  exact ⟨fd, F, q1⟩

/-! ### the head's lists -/
def Tb.cn (T : Tb) (c : Nat) : Str := match T.cs[c]? with
  | some (x, _, _) => x
  | none => Str.empty
def fkFa (T : Tb) : FK → He.Fa
  | .top x => .glo x
  | .meth c m => .meth (T.cn c) m
  | .init c => .mkr (T.cn c)
  | .prop c _ => .glo (T.cn c)
def fkAt (T : Tb) : FK → Str × Option Str
  | .top x => (x, none)
  | .meth c m => (T.cn c, some m)
  | .init c => (T.cn c, some "__init__")
  | .prop c f => (T.cn c, some f)
def FK.isProp : FK → Bool
  | .prop _ _ => true
  | _ => false
def faOf (T : Tb) (rows : List Row) : List He.Fa := T.bl.map .free ++ (rows.map (fun r => fkFa T r.fk) ++ T.cs.map fun c => .glo c.1)
def fnOf (rows : List Row) : List He.DefD := (rows.filter fun r => !r.fk.isProp).map (·.d)
def fpOf (rows : List Row) : List He.DefD := (rows.filter fun r => r.fk.isProp).map (·.d)
def exOf (T : Tb) (gd : List D) (K : PySem.W.Frag) : Bool := gsAllB K T.gs gd && (clsAllB K T.cs && seerB K)
def clsOf (T : Tb) (K : PySem.W.Frag) (c : Nat) : Addr := He.ga K (T.cn c)
def rowB (T : Tb) (r : Row) : Bool := decide (r.d.at_ = fkAt T r.fk) && decide (r.ps.length = r.n) && r.d.dfl.isEmpty && r.d.kwd.isEmpty && chkB T r.N r.ps r.d.scope r.d.body r.b
/-- how a def takes its arguments -/
def BindLaw (r : Row) : Prop := ∀ (kV doc pm : Value) (an : Option Addr) (cdv ct : Value) (us : List Value), us.length = r.ps.length → bindArgs (PySem.W.fnOf r.d.name r.d.qual r.d.params r.d.body r.d.scope .none kV doc pm an cdv ct) ⟨us, []⟩ = pure (r.ps.zip us)
def KwLaw (r : Row) (ks : List Str) (pm : List Nat) : Prop := r.ps ≠ [] ∧ pm.length = r.ps.length ∧ ∀ (kV doc pmv : Value) (an : Option Addr) (cdv ct : Value) (ws : List Value), ws.length = pm.length → bindArgs (PySem.W.fnOf r.d.name r.d.qual r.d.params r.d.body r.d.scope .none kV doc pmv an cdv ct) ⟨[], ks.zip ws⟩ = pure (r.ps.zip (pm.map fun i => ws.getD i .none))
theorem getD_vals {zs : List V} {ws : List Value} (r : Vals zs ws) (i : Nat) : RelV (zs.getD i .non) (ws.getD i .none) := by
  rw [List.getD_eq_getElem?_getD, List.getD_eq_getElem?_getD]
  cases e : zs[i]? with
  | none =>
    have h1 : ws[i]? = none := by
      rw [List.getElem?_eq_none_iff] at e ⊢
      rw [← r.length]; exact e
    rw [h1]; rfl
  | some d =>
    obtain ⟨u, h1, h2⟩ := r.get e
    rw [h1]; exact h2
theorem pm_vals {zs : List V} {ws : List Value} (rz : Vals zs ws) : ∀ pm : List Nat, Vals (pm.map fun i => zs.getD i .non) (pm.map fun i => ws.getD i .none)
  | [] => .nil
  | i :: pm => .cons (getD_vals rz i) (pm_vals rz pm)
theorem kwG_rel {pm : List Nat} {vs : List V} {us : List Value} {zs : List V} {ws : List Value} (r : Vals vs us) (rz : Vals zs ws) : Vals (kwG .non pm vs zs) (kwG .none pm us ws) := by
  unfold kwG
  rw [rz.length]
  split
  · exact r.append (pm_vals rz pm)
  · exact .nil
theorem kw_of {K : PySem.W.Frag} {r : Row} {fd : FuncData} {f : Addr} {ks : List Str} {pm : List Nat} (F : FunD K r.d.name r.d.qual r.d.params r.d.body r.d.scope [] [] f fd) (h : KwLaw r ks pm) : KBinds K fd r.ps ks (kwG .none pm) (kwG .non pm) := by
  obtain ⟨oc, od, dV, kV, doc, pmv, an, cdv, ct, osl, rfl, lk, hcd, hD, hK⟩ := F.ex
  obtain ⟨h1, h2, h3⟩ := h
  rcases hD with ⟨_, rfl⟩ | ⟨e, _⟩
  · refine ⟨fun s us ws _ hl => ?_, fun r1 r2 => kwG_rel r1 r2⟩
    unfold kwG at hl ⊢
    split at hl
    · rename_i e
      rw [if_pos e]
      have hu : us = [] := by
        cases us with
        | nil => rfl
        | cons a us =>
          simp only [List.length_append, List.length_cons, List.length_map] at hl
          omega
      subst hu
      exact .of_eq (h3 kV doc pmv an cdv ct ws e)
    · exfalso
      exact h1 (List.length_eq_zero_iff.mp hl.symm)
  · exact absurd rfl e
theorem bind_of {K : PySem.W.Frag} {r : Row} {fd : FuncData} {f : Addr} (F : FunD K r.d.name r.d.qual r.d.params r.d.body r.d.scope [] [] f fd) (h : BindLaw r) : Binds K fd r.ps [] := F.bindsN h
theorem row_fun {K : PySem.W.Frag} {h : Heap} {mg : Str → Option Value} {T : Tb} {rows : List Row} (X : K.In h) (G : h.Ns mainGlobals mg) (c : He.SaysD (faOf T rows) (fnOf rows) K) (cp : SaysP (fpOf rows) K) {r : Row} (hm : r ∈ rows) (h1 : r.d.at_ = fkAt T r.fk) (h3 : r.d.dfl = []) (h4 : r.d.kwd = []) :
    ∃ (f : Addr) (fd : FuncData), FunD K r.d.name r.d.qual r.d.params r.d.body r.d.scope [] [] f fd ∧ (∀ (fn : Nat → Spec) (gd : List D), FkOk K mg ⟨gd, fn, clsOf T K⟩ f r.fk) ∧ (r.fk.isProp = false → f = He.fAd K r.d.at_) := by
  have e1 : r.d.dvs K = [] := by unfold He.DefD.dvs; rw [h3]; rfl
  have e2 : r.d.kws K = [] := by unfold He.DefD.kws; rw [h4]; rfl
  have fact := c.facts (f := fkFa T r.fk) (List.mem_append_right _ (List.mem_append_left _ (List.mem_map.mpr ⟨r, hm, rfl⟩)))
  have nonp : r.fk.isProp = false → ∃ fd, FunD K r.d.name r.d.qual r.d.params r.d.body r.d.scope [] [] (He.fAd K r.d.at_) fd := fun hp => by
    obtain ⟨fd, F⟩ := c.defs (d := r.d) (List.mem_map_of_mem (List.mem_filter.mpr ⟨hm, by rw [hp]; rfl⟩))
    rw [e1, e2] at F
    exact ⟨fd, F⟩
  cases hfk : r.fk with
  | top x =>
    obtain ⟨fd, F'⟩ := nonp (by rw [hfk]; rfl)
    refine ⟨_, fd, F', fun fn gd => ?_, fun _ => rfl⟩
    rw [hfk] at fact h1
    have hg := He.glo_ok X G fact
    rw [h1]
    exact ⟨hg, by have := F'.kp; rw [h1] at this; exact this⟩
  | meth c' m =>
    obtain ⟨fd, F'⟩ := nonp (by rw [hfk]; rfl)
    refine ⟨_, fd, F', fun fn gd => ?_, fun _ => rfl⟩
    rw [hfk] at fact h1
    rw [h1]
    exact He.meth_ok fact
  | init c' =>
    obtain ⟨fd, F'⟩ := nonp (by rw [hfk]; rfl)
    refine ⟨_, fd, F', fun fn gd => ?_, fun _ => rfl⟩
    rw [hfk] at fact h1
    rw [h1]
    exact He.mkr_ok fact
  | prop c' f =>
    rw [hfk] at h1
    obtain ⟨fd, F, q⟩ := cp.defs (d := r.d) (List.mem_map_of_mem (List.mem_filter.mpr ⟨hm, by rw [hfk]; rfl⟩)) h1
    rw [e1, e2] at F
    exact ⟨_, fd, F, fun fn gd => ⟨_, q⟩, fun z => by cases z⟩
theorem mx_ok {P : Program} {w : World} {K : PySem.W.Frag} {base : Heap} {mg : Str → Option Value} {T : Tb} {rows : List Row} {gd : List D} (X : K.In base) (G : base.Ns mainGlobals mg) (c : He.SaysD (faOf T rows) (fnOf rows) K) (cp : SaysP (fpOf rows) K) (e : exOf T gd K = true) (tf : T.fs = rows.map fun r => (r.fk, r.n))
    (hr : rows.all (rowB T) = true) (hb : ∀ r ∈ rows, BindLaw r) (hk : ∀ i ks pm, (i, ks, pm) ∈ T.kw → ∀ r, rows[i]? = some r → KwLaw r ks pm) (tr : P.given.tree = none) : Mx P w K mg base T rows gd (clsOf T K) := by
  unfold exOf at e
  simp only [Bool.and_eq_true] at e
  refine ⟨tf, fun j x hx => ?_, fun i r hi => ?_, fun cc x pl sl hc => ?_, fun x hx => ?_, seerB_ok X G e.2.2, tr⟩
  · obtain ⟨d, q1, q2⟩ := gsAllB_ok e.1 hx
    obtain ⟨v, u, q3, q4, q5⟩ := gconB_ok X G q2
    exact ⟨v, u, d, q3, q4, q1, q5⟩
  · have hm := List.mem_of_getElem? hi
    have hrw := List.all_eq_true.mp hr r hm
    unfold rowB at hrw
    simp only [Bool.and_eq_true, decide_eq_true_eq, List.isEmpty_iff] at hrw
    obtain ⟨⟨⟨⟨h1, h2⟩, h3⟩, h4⟩, h5⟩ := hrw
    obtain ⟨f, fd, F', hf, _⟩ := row_fun X G c cp hm h1 h3 h4
    exact ⟨h2, h5, f, fd, F', bind_of F' (hb r hm), fun fn => hf fn gd, fun ks pm hkw => kw_of F' (hk i ks pm hkw r hi)⟩
  · obtain ⟨q1, q2⟩ := clsAllB_ok e.2.1 hc
    have ecn : T.cn cc = x := by unfold Tb.cn; rw [hc]
    have fact := c.facts (f := .glo x) (List.mem_append_right _ (List.mem_append_right _ (List.mem_map.mpr ⟨(x, pl, sl), List.mem_of_getElem? hc, rfl⟩)))
    unfold clsOf
    rw [ecn]
    exact ⟨He.glo_ok X G fact, fun z => ⟨(q1 z).1, fun i f hf => by
      obtain ⟨p, q⟩ := slotsB_ok (q1 z).2 hf
      exact ⟨p, by rw [Nat.zero_add] at q; exact q⟩⟩, q2⟩
  · exact He.free_ok X G (c.facts (f := .free x) (List.mem_append_left _ (List.mem_map_of_mem hx)))
end Og
end
section
set_option maxHeartbeats 0
set_option autoImplicit false
namespace Og.Lk00
open PySem PySem.Spec PyProof.Rows L2 Og
def top (i : Nat) : Stmt := PySem.Challenge.pw_opengates_k00_whole_books_and_their_text.main.body.getD i (.Pass ⟨0, 0, 0, 0⟩)

/-- _law_take -/
def c0 : List S := [.ite (.cmp .gt (.ix (.x 0) (.int 0)) (.int 0)) [.asg (.nm 2) (.bop .mod (.b1 .int (.ix (.x 0) (.int 0))) (.x 1)),
    .setIx (.x 0) (.int 0) (.bop .fdiv (.ix (.x 0) (.int 0)) (.x 1)),
    .ret (.x 2)] [],
    .setIx (.x 0) (.int 2) (.bop .add (.ix (.x 0) (.int 2)) (.int 1)),
    .asg (.nm 3) (.ix (.lst false [.int 2147483647, .int 2147483629, .int 2147483587, .int 2147483579, .int 2147483563]) (.bop .mod (.b1 .int (.ix (.x 0) (.int 2))) (.int 5))),
    .asg (.nm 4) (.bop .mod (.b1 .int (.bop .pow (.b1 .int (.bop .add (.bop .add (.ix (.x 0) (.int 1)) (.bop .mul (.bop .mul (.int 97127) (.ix (.x 0) (.int 2))) (.ix (.x 0) (.int 2)))) (.int 521))) (.int 3))) (.x 3)),
    .asg (.nm 4) (.bop .mod (.b1 .int (.bop .mul (.x 4) (.bop .add (.bop .mod (.b1 .int (.x 4)) (.int 10037)) (.bop .mul (.int 101) (.ix (.x 0) (.int 2)))))) (.int 2305843009213693907)),
    .ret (.bop .mod (.b1 .int (.bop .fdiv (.x 4) (.int 167))) (.x 1))]
/-- _law_of -/
def c1 : List S := [.ret (.ix (.x 1) (.call 0 [.x 0, .b1 .len (.x 1)]))]
/-- _law_some -/
def c2 : List S := [.par [3, 4] [.b1 (.list true) (.x 1), .lst true []],
    .for_ (.nm 5) (.rg1 (.x 2)) [.ex (.m1 .append (.x 4) (.m1 .pop (.x 3) (.call 0 [.x 0, .b1 .len (.x 3)])))],
    .ret (.frz (.x 4))]
/-- _law_book_names -/
def c3 : List S := [.par [2, 3] [.call 0 [.x 0, .int 4], .cmp .eq (.call 0 [.x 0, .int 2]) (.int 0)],
    .asg (.nm 4) (.b1 (.chars false) (.str "abcdefghijklmnopqrstuvwxyz")),
    .par [5, 6] [.call 2 [.x 0, .x 4, .x 1], .bop .add (.bop .add (.x 2) (.int 1)) (.call 0 [.x 0, .bop .sub (.int 4) (.x 2)])],
    .par [7, 8] [.lc false (.call 1 [.x 0, .x 4]) (.nm 10) (.rg1 (.x 6)) [] [10], .lst true []],
    .for_ (.nm 9) (.sq (.x 5)) [.ite (.not (.x 3)) [.asgC 7 (.lc false (.call 1 [.x 0, .x 4]) (.nm 10) (.rg1 (.bop .add (.bop .add (.x 2) (.int 1)) (.call 0 [.x 0, .bop .sub (.int 4) (.x 2)]))) [] [10])] [],
    .ex (.m1 .append (.x 8) (.join (.str "") (.bop .add (.bop .add (.sl false (.x 7) none (some (.x 2))) (.lst false [.x 9])) (.sl false (.x 7) (some (.bop .add (.x 2) (.int 1))) none))))],
    .ret (.b1 .tuple (.x 8))]
/-- _law_book_weights -/
def c4 : List S := [.asg (.nm 4) (.call 0 [.x 0, .int 6]),
    .ite (.cmp .eq (.x 4) (.int 0)) [.ret (.b1 .tuple (.bop .mul (.lst true [.int 1]) (.x 2)))] [],
    .ite (.cmp .gt (.x 1) (.int 0)) [.ret (.b1 .tuple (.lc false (.bop .add (.int 1) (.call 0 [.x 0, .bop .sub (.x 1) (.int 1)])) (.nm 8) (.rg1 (.x 2)) [] [8]))] [],
    .ite (.or (.x 3) (.cmp .lt (.x 4) (.int 3))) [.asg (.nm 5) (.call 1 [.x 0, .lst false [.int 3, .int 3, .int 99, .bop .pow (.int 10) (.int 12)]]),
    .ret (.b1 .tuple (.lc false (.bop .add (.int 1) (.call 0 [.x 0, .x 5])) (.nm 8) (.rg1 (.x 2)) [] [8]))] [],
    .ite (.cmp .eq (.x 4) (.int 3)) [.ret (.b1 .tuple (.lc false (.call 1 [.x 0, .lst false [.bop .pow (.int 10) (.int 12), .neg (.bop .pow (.int 10) (.int 12)), .int 1, .neg (.int 1), .int 99]]) (.nm 8) (.rg1 (.x 2)) [] [8]))] [],
    .asgC 6 (.lc false (.call 1 [.x 0, .lst false [.int 1, .neg (.int 1), .int 2, .neg (.int 2), .int 3, .neg (.int 3)]]) (.nm 8) (.rg1 (.x 2)) [] [8]),
    .asg (.nm 7) (.neg (.b1 .sum (.lc false (.b1 .int (.x 9)) (.nm 9) (.sq (.sl false (.x 6) (some (.int 1)) none)) [] [9]))),
    .ret (.b1 .tuple (.ife (.and (.cmp .eq (.x 4) (.int 4)) (.cmp .ne (.x 7) (.int 0))) (.bop .add (.lst false [.x 7]) (.sl false (.x 6) (some (.int 1)) none)) (.x 6)))]
/-- _law_book_twinned -/
def c5 : List S := [.asg (.tup [.nm 3, .nm 4]) (.tup [.disp true [] [], .lc false (.ife (.cmp .eq (.x 6) (.x 2)) (.x 1) (.x 6)) (.nm 6) (.rg1 (.b1 .len (.ix (.x 0) (.str "marks")))) [] [6]]),
    .for_ (.nm 5) (.sq (.ix (.x 0) (.str "kinds"))) [.setD (.x 3) (.x 5) (.b1 .tuple (.lc false (.b1 .tuple (.lc false (.ix (.ix (.ix (.ix (.x 0) (.str "tables")) (.x 5)) (.x 7)) (.x 8)) (.nm 8) (.sq (.x 4)) [] [8])) (.nm 7) (.sq (.x 4)) [] [7]))],
    .ret (.disp true [.inr "by", .inr "marks", .inr "weights", .inr "kinds", .inr "tables"] [.ix (.x 0) (.str "by"), .ix (.x 0) (.str "marks"), .ix (.x 0) (.str "weights"), .ix (.x 0) (.str "kinds"), .thaw (.x 3)])]
/-- _law_book_table -/
def c6 : List S := [.asg (.tup [.nm 3, .nm 4]) (.tup [.call 0 [.x 0, .int 10], .lrg false (.int 0) (.x 2)]),
    .asg (.tup [.nm 5, .nm 6]) (.call 1 [.x 0, .lst false [.tup [.int 0, .int 1], .tup [.int 0, .int 1], .tup [.neg (.int 1), .int 1], .tup [.neg (.int 3), .int 3], .tup [.neg (.int 9), .int 9]]]),
    .asg (.nm 7) (.lc false (.lc false (.bop .add (.x 5) (.call 0 [.x 0, .bop .add (.bop .sub (.x 6) (.x 5)) (.int 1)])) (.nm 9) (.sq (.x 4)) [] [9]) (.nm 8) (.sq (.x 4)) [] [8]),
    .ite (.cmp .eq (.x 3) (.int 0)) [.asg (.nm 7) (.lc false (.lc false (.b1 .int (.cmp .eq (.x 8) (.x 9))) (.nm 9) (.sq (.x 4)) [] [9]) (.nm 8) (.sq (.x 4)) [] [8])] [.ite (.cmp .eq (.x 3) (.int 1)) [.asg (.nm 7) (.lc false (.lc false (.b1 .int (.cmp .ne (.x 8) (.x 9))) (.nm 9) (.sq (.x 4)) [] [9]) (.nm 8) (.sq (.x 4)) [] [8])] [.ite (.cmp .eq (.x 3) (.int 2)) [.asg (.nm 7) (.lc false (.lc false (.b1 .int (.cmp .eq (.x 9) (.bop .mod (.b1 .int (.bop .add (.x 8) (.int 1))) (.x 2)))) (.nm 9) (.sq (.x 4)) [] [9]) (.nm 8) (.sq (.x 4)) [] [8])] [.ite (.cmp .lt (.x 3) (.int 6)) [.asg (.nm 7) (.lc false (.lc false (.ix (.ix (.x 7) (.b2 .min (.x 8) (.x 9))) (.b2 .max (.x 8) (.x 9))) (.nm 9) (.sq (.x 4)) [] [9]) (.nm 8) (.sq (.x 4)) [] [8])] [.ite (.cmp .eq (.x 3) (.int 6)) [.asg (.nm 7) (.lc false (.lc false (.bop .mul (.ix (.ix (.x 7) (.int 0)) (.x 8)) (.ix (.ix (.x 7) (.neg (.int 1))) (.x 9))) (.nm 9) (.sq (.x 4)) [] [9]) (.nm 8) (.sq (.x 4)) [] [8])] [.ite (.cmp .eq (.x 3) (.int 7)) [.asg (.nm 7) (.lc false (.lc false (.call 1 [.x 0, .lst false [.bop .pow (.int 10) (.int 12), .neg (.bop .pow (.int 10) (.int 12)), .int 0, .int 1, .bop .pow (.int 10) (.int 6)]]) (.nm 9) (.sq (.x 4)) [] [9]) (.nm 8) (.sq (.x 4)) [] [8])] [.ite (.cmp .eq (.x 3) (.int 8)) [.asg (.nm 7) (.lc false (.lc false (.int 1) (.nm 9) (.sq (.x 4)) [] [9]) (.nm 8) (.sq (.x 4)) [] [8])] []]]]]]],
    .ret (.b1 .tuple (.lc false (.b1 .tuple (.lc false (.ife (.cmp .gt (.x 1) (.int 0)) (.bop .mod (.b1 .int (.x 11)) (.x 1)) (.x 11)) (.nm 11) (.sq (.x 10)) [] [11])) (.nm 10) (.sq (.x 7)) [] [10]))]
/-- _law_book_of -/
def c7 : List S := [.asg (.nm 5) (.disp true [.inr "by", .inr "marks", .inr "weights"] [.x 1, .call 3 [.x 0, .x 2], .call 4 [.x 0, .x 1, .x 2, .x 4]]),
    .setD (.x 5) (.str "kinds") (.b1 .tuple (.x 3)),
    .setD (.x 5) (.str "tables") (.dOf false (.lc false (.tup [.x 8, .call 6 [.x 0, .x 1, .x 2]]) (.nm 8) (.sq (.x 3)) [] [8])),
    .ite (.and (.cmp .gt (.x 2) (.int 1)) (.cmp .eq (.call 0 [.x 0, .int 4]) (.int 0))) [.asg (.lst [.nm 6, .nm 7]) (.call 2 [.x 0, .lrg false (.int 0) (.x 2), .int 2]),
    .asg (.nm 5) (.call 5 [.x 5, .x 6, .x 7])] [],
    .ret (.x 5)]
/-- _law_book_drawn -/
def c8 : List S := [.par [5, 6] [.call 1 [.x 0, .x 1], .call 1 [.x 0, .x 2]],
    .asg (.nm 7) (.call 3 [.x 0, .bop .add (.int 1) (.call 0 [.x 0, .x 3])]),
    .asg (.nm 8) (.call 7 [.x 0, .x 5, .x 6, .x 7, .x 4]),
    .ite (.and (.cmp .le (.b1 .len (.x 7)) (.x 6)) (.cmp .eq (.call 0 [.x 0, .int 6]) (.int 0))) [.asg (.nm 9) (.dOf false (.lc false (.tup [.x 10, .ix (.ix (.x 8) (.str "tables")) (.x 11)]) (.tup [.nm 10, .nm 11]) (.zip (.ix (.x 8) (.str "marks")) (.x 7)) [] [10, 11])),
    .setIx2 (.x 8) (.str "kinds") (.x 8) (.str "tables") (.tup [.sl false (.ix (.x 8) (.str "marks")) none (some (.b1 .len (.x 7))), .x 9])] [],
    .ret (.thaw (.x 8))]
/-- _law_book_text -/
def c9 : List S := [.asg (.nm 1) (.lst true [.bop .add (.str "book ") (.b1 .str (.b1 .int (.ix (.x 0) (.str "by"))))]),
    .for_ (.tup [.nm 2, .nm 3]) (.zip (.ix (.x 0) (.str "marks")) (.ix (.x 0) (.str "weights"))) [.ex (.m1 .append (.x 1) (.bop .add (.bop .add (.bop .add (.str "mark ") (.x 2)) (.str " ")) (.b1 .str (.b1 .int (.x 3)))))],
    .for_ (.nm 4) (.sq (.ix (.x 0) (.str "kinds"))) [.asgC 5 (.lc false (.join (.str " ") (.lc false (.b1 .str (.b1 .int (.x 7))) (.nm 7) (.sq (.x 6)) [] [7])) (.nm 6) (.sq (.ix (.ix (.x 0) (.str "tables")) (.x 4))) [] [6]),
    .ex (.m1 .append (.x 1) (.bop .add (.bop .add (.bop .add (.str "kind ") (.x 4)) (.str " ")) (.join (.str " ") (.x 5))))],
    .ret (.join (.str "\n") (.x 1))]
/-- lines_of -/
def c10 : List S := [.ret (.lc false (.split false (.x 1) (.g 1)) (.nm 1) (.sq (.split false (.x 0) (.g 0))) [] [1])]
/-- integer_in -/
def c11 : List S := [.asg (.nm 1) (.ife (.cmp .eq (.sl false (.x 0) none (some (.int 1))) (.g 4)) (.sl false (.x 0) (some (.int 1)) none) (.x 0)),
    .ite (.or (.not (.ch .le .le (.int 1) (.b1 .len (.x 1)) (.g 6))) (.not (.b1 .all (.lc false (.cmp .in_ (.x 2) (.g 2)) (.nm 2) (.signs (.x 1)) [] [2])))) [.ret (.non)] [],
    .ite (.and (.cmp .eq (.ix (.x 1) (.int 0)) (.g 5)) (.cmp .ne (.x 0) (.g 5))) [.ret (.non)] [],
    .ret (.b1 .int (.x 0))]
/-- by_in -/
def c12 : List S := [.asg (.nm 1) (.ife (.and (.cmp .eq (.b1 .len (.x 0)) (.g 14)) (.cmp .eq (.ix (.x 0) (.int 0)) (.g 7))) (.call 11 [.ix (.x 0) (.int 1)]) (.non)),
    .ret (.ife (.or (.cmp .eq (.x 1) (.int 0)) (.cmp .in_ (.x 1) (.g 15))) (.x 1) (.non))]
/-- is_name -/
def c13 : List S := [.ret (.and (.isi (.x 0) "str") (.and (.ch .le .le (.int 1) (.b1 .len (.x 0)) (.g 10)) (.b1 .all (.lc false (.cmp .in_ (.x 1) (.g 3)) (.nm 1) (.signs (.x 0)) [] [1]))))]
/-- is_worth -/
def c14 : List S := [.ite (.cmp .is_ (.x 1) (.non)) [.ret (.bl false)] [],
    .ret (.ife (.cmp .eq (.x 0) (.int 0)) (.ch .le .le (.neg (.g 13)) (.x 1) (.g 13)) (.ch .le .lt (.int 0) (.x 1) (.x 0)))]
/-- take_kind -/
def c15 : List S := [.ite (.or (.cmp .ne (.b1 .len (.x 3)) (.bop .add (.g 14) (.bop .mul (.x 1) (.x 1)))) (.cmp .eq (.b1 .len (.x 2)) (.g 12))) [.ret (.bl false)] [],
    .par [4, 5] [.ix (.x 3) (.int 1), .lc false (.call 11 [.x 6]) (.nm 6) (.sq (.sl false (.x 3) (some (.g 14)) none)) [] [6]],
    .ite (.or (.not (.call 13 [.x 4])) (.or (.cmp .in_ (.x 4) (.lc false (.ix (.x 7) (.int 0)) (.nm 7) (.sq (.x 2)) [] [7])) (.not (.b1 .all (.lc false (.call 14 [.x 0, .x 8]) (.nm 8) (.sq (.x 5)) [] [8]))))) [.ret (.bl false)] [],
    .ex (.m1 .append (.x 2) (.tup [.x 4, .b1 .tuple (.x 5)])),
    .ret (.bl true)]
/-- take_mark -/
def c16 : List S := [.ite (.or (.cmp .ne (.b1 .len (.x 2)) (.g 16)) (.cmp .eq (.b1 .len (.x 1)) (.g 11))) [.ret (.bl false)] [],
    .par [3, 4] [.ix (.x 2) (.int 1), .call 11 [.ix (.x 2) (.int 2)]],
    .ite (.or (.not (.call 13 [.x 3])) (.or (.cmp .in_ (.x 3) (.lc false (.ix (.x 5) (.int 0)) (.nm 5) (.sq (.x 1)) [] [5])) (.or (.not (.call 14 [.x 0, .x 4])) (.cmp .eq (.x 4) (.int 0))))) [.ret (.bl false)] [],
    .ex (.m1 .append (.x 1) (.tup [.x 3, .x 4])),
    .ret (.bl true)]
/-- is_taken -/
def c17 : List S := [.ite (.cmp .eq (.ix (.x 3) (.int 0)) (.g 8)) [.ret (.and (.cmp .eq (.x 2) (.lst false [])) (.call 16 [.x 0, .x 1, .x 3]))] [],
    .ret (.and (.cmp .eq (.ix (.x 3) (.int 0)) (.g 9)) (.and (.cmp .ne (.x 1) (.lst false [])) (.call 15 [.x 0, .b1 .len (.x 1), .x 2, .x 3])))]
/-- read -/
def c18 : List S := [.ite (.not (.isi (.x 0) "str")) [.never] [],
    .asg (.nm 1) (.call 10 [.x 0]),
    .par [2, 3, 4] [.call 12 [.ix (.x 1) (.int 0)], .lst true [], .lst true []],
    .ite (.cmp .is_ (.x 2) (.non)) [.never] [],
    .for_ (.tup [.nm 5, .nm 6]) (.enum (.sl false (.x 1) (some (.int 1)) none)) [.ite (.not (.call 17 [.x 2, .x 3, .x 4, .x 6])) [.never] []],
    .ite (.cmp .eq (.x 4) (.lst false [])) [.never] [],
    .ret (.tup [.x 2, .thaw (.x 3), .thaw (.x 4)])]
/-- Book_init -/
def c19 : List S := [.asg (.tup [.nm 2, .nm 3, .nm 4]) (.call 18 [.x 1]),
    .setFld (.x 0) 0 "own_text" (.x 1),
    .setFld (.x 0) 0 "own_by" (.x 2),
    .setFld (.x 0) 0 "own_marks" (.b1 .tuple (.lc false (.x 6) (.tup [.nm 6, .nm 10]) (.sq (.x 3)) [] [6, 10])),
    .setFld (.x 0) 0 "own_kinds" (.b1 .tuple (.lc false (.x 6) (.tup [.nm 6, .nm 7]) (.sq (.x 4)) [] [6, 7])),
    .setFld (.x 0) 0 "own_weights" (.dOf false (.x 3)),
    .setFld (.x 0) 0 "own_tables" (.disp true [] []),
    .asgC2 5 (.lc2 false (.ltup [.x 8, .x 9]) (.nm 8) (.sq (.fld (.x 0) 0 "own_marks")) (.nm 9) (.sq (.fld (.x 0) 0 "own_marks")) [] [8, 9] [9]),
    .for_ (.tup [.nm 6, .nm 7]) (.sq (.x 4)) [.setD (.fld (.x 0) 0 "own_tables") (.x 6) (.dZip false (.x 5) (.x 7))]]
/-- _law_book_picked -/
def c20 : List S := [.asg (.nm 4) (.disp true [] []),
    .for_ (.nm 5) (.sq (.ix (.x 0) (.str "kinds"))) [.setD (.x 4) (.x 5) (.b1 .tuple (.lc false (.b1 .tuple (.lc false (.ix (.ix (.ix (.ix (.x 0) (.str "tables")) (.x 5)) (.x 6)) (.x 7)) (.nm 7) (.sq (.x 1)) [] [7])) (.nm 6) (.sq (.x 1)) [] [6]))],
    .ret (.disp false [.inr "by", .inr "marks", .inr "weights", .inr "kinds", .inr "tables"] [.ix (.x 0) (.str "by"), .b1 .tuple (.x 2), .b1 .tuple (.x 3), .ix (.x 0) (.str "kinds"), .thaw (.x 4)])]
/-- _law_book_renamed -/
def c21 : List S := [.asg (.nm 2) (.call 2 [.x 0, .lrg false (.int 0) (.b1 .len (.ix (.x 1) (.str "marks"))), .b1 .len (.ix (.x 1) (.str "marks"))]),
    .ret (.call 20 [.x 1, .x 2, .call 3 [.x 0, .b1 .len (.x 2)], .lc false (.ix (.ix (.x 1) (.str "weights")) (.x 3)) (.nm 3) (.sq (.x 2)) [] [3]])]
/-- _law_book_split -/
def c22 : List S := [.par [3, 4] [.b1 .len (.ix (.x 1) (.str "marks")), .ix (.x 1) (.str "by")],
    .par [5, 6] [.call 0 [.x 0, .x 3], .bop .add (.int 1) (.call 0 [.x 0, .ife (.cmp .gt (.x 4) (.int 0)) (.bop .sub (.x 4) (.int 1)) (.int 3)])],
    .asg (.nm 7) (.bop .sub (.ix (.ix (.x 1) (.str "weights")) (.x 5)) (.x 6)),
    .asg (.nm 7) (.ife (.cmp .gt (.x 4) (.int 0)) (.bop .mod (.b1 .int (.x 7)) (.x 4)) (.x 7)),
    .ite (.or (.cmp .eq (.x 3) (.int 4)) (.or (.cmp .eq (.x 7) (.int 0)) (.or (.and (.x 2) (.cmp .lt (.x 7) (.int 0))) (.cmp .gt (.b1 .abs (.x 7)) (.bop .pow (.int 10) (.int 12)))))) [.ret (.x 1)] [],
    .asg (.nm 8) (.bop .add (.b1 (.list true) (.ix (.x 1) (.str "weights"))) (.lst true [.x 6])),
    .setIx (.x 8) (.x 5) (.x 7),
    .ret (.call 20 [.x 1, .bop .add (.lrg false (.int 0) (.x 3)) (.lst false [.x 5]), .call 3 [.x 0, .bop .add (.x 3) (.int 1)], .x 8])]
/-- _law_book_changed -/
def c23 : List S := [.par [2, 3] [.b1 .len (.ix (.x 1) (.str "marks")), .ix (.x 1) (.str "by")],
    .par [4, 5, 6] [.b1 (.list true) (.ix (.x 1) (.str "weights")), .dOf true (.dItems false (.ix (.x 1) (.str "tables"))), .call 1 [.x 0, .lst false [.int 1, .neg (.int 1), .int 2]]],
    .ite (.cmp .eq (.call 0 [.x 0, .int 3]) (.int 0)) [.asg (.nm 7) (.call 0 [.x 0, .x 2]),
    .asg (.nm 8) (.ife (.cmp .gt (.x 3) (.int 0)) (.bop .mod (.b1 .int (.bop .add (.ix (.x 4) (.x 7)) (.x 6))) (.x 3)) (.bop .add (.ix (.x 4) (.x 7)) (.x 6))),
    .setIx (.x 4) (.x 7) (.ife (.and (.cmp .ne (.x 8) (.int 0)) (.cmp .le (.b1 .abs (.x 8)) (.bop .pow (.int 10) (.int 12)))) (.x 8) (.ix (.x 4) (.x 7)))] [.par [9, 10, 11] [.call 1 [.x 0, .b1 (.list false) (.ix (.x 1) (.str "kinds"))], .call 0 [.x 0, .x 2], .call 0 [.x 0, .x 2]],
    .asgC 12 (.lc false (.b1 (.list true) (.x 13)) (.nm 13) (.sq (.ix (.x 5) (.x 9))) [] [13]),
    .asg (.nm 8) (.ife (.cmp .gt (.x 3) (.int 0)) (.bop .mod (.b1 .int (.bop .add (.ix (.ix (.x 12) (.x 10)) (.x 11)) (.x 6))) (.x 3)) (.bop .add (.ix (.ix (.x 12) (.x 10)) (.x 11)) (.x 6))),
    .setIx (.ix (.x 12) (.x 10)) (.x 11) (.ife (.cmp .le (.b1 .abs (.x 8)) (.bop .pow (.int 10) (.int 12))) (.x 8) (.ix (.ix (.x 12) (.x 10)) (.x 11))),
    .setD (.x 5) (.x 9) (.b1 .tuple (.lc false (.b1 .tuple (.x 13)) (.nm 13) (.sq (.x 12)) [] [13]))],
    .ret (.disp false [.inr "by", .inr "marks", .inr "weights", .inr "kinds", .inr "tables"] [.x 3, .ix (.x 1) (.str "marks"), .b1 .tuple (.x 4), .ix (.x 1) (.str "kinds"), .thaw (.x 5)])]
/-- _law_book_other -/
def c24 : List S := [.asg (.nm 4) (.call 0 [.x 0, .int 7]),
    .ite (.cmp .lt (.x 4) (.int 2)) [.ret (.call 21 [.x 0, .x 1])] [],
    .ite (.cmp .eq (.x 4) (.int 2)) [.ret (.call 22 [.x 0, .x 1, .x 3])] [],
    .ite (.cmp .eq (.x 4) (.int 3)) [.ret (.call 21 [.x 0, .call 22 [.x 0, .x 1, .x 3]])] [],
    .ite (.cmp .eq (.x 4) (.int 4)) [.ret (.call 21 [.x 0, .call 23 [.x 0, .x 1]])] [],
    .ite (.cmp .eq (.x 4) (.int 5)) [.ret (.thaw (.call 7 [.x 0, .ix (.x 1) (.str "by"), .call 1 [.x 0, .x 2], .ix (.x 1) (.str "kinds"), .x 3]))] [],
    .ret (.x 1)]
/-- Book_by -/
def c25 : List S := [.ret (.fld (.x 0) 0 "own_by")]
/-- Book_marks -/
def c26 : List S := [.ret (.fld (.x 0) 0 "own_marks")]
/-- Book_kinds -/
def c27 : List S := [.ret (.fld (.x 0) 0 "own_kinds")]
/-- Book_len -/
def c28 : List S := [.ret (.b1 .len (.fld (.x 0) 0 "own_marks"))]
/-- Book_contains -/
def c29 : List S := [.ret (.and (.isi (.x 1) "str") (.cmp .in_ (.x 1) (.fld (.x 0) 0 "own_marks")))]
/-- Book_check_mark -/
def c30 : List S := [.ite (.inO 29 0 true (.x 1) (.x 0)) [.never] []]
/-- Book_weight -/
def c31 : List S := [.ex (.methI 30 0 "check_mark" (.x 0) [.x 1]),
    .ret (.ix (.fld (.x 0) 0 "own_weights") (.x 1))]
/-- Book_worth -/
def c32 : List S := [.ite (.or (.not (.isi (.x 1) "str")) (.cmp .notin (.x 1) (.fld (.x 0) 0 "own_kinds"))) [.never] [],
    .ex (.methI 30 0 "check_mark" (.x 0) [.x 2]),
    .ex (.methI 30 0 "check_mark" (.x 0) [.x 3]),
    .ret (.ix (.ix (.fld (.x 0) 0 "own_tables") (.x 1)) (.tup [.x 2, .x 3]))]
/-- _law_is_told_right -/
def c33 : List S := [.asg (.tup [.nm 2, .nm 3, .nm 4]) (.tup [.ix (.x 0) (.str "marks"), .ix (.x 0) (.str "kinds"), .lrg false (.int 0) (.b1 .len (.ix (.x 0) (.str "marks")))]),
    .ite (.cmp .ne (.b1 .repr (.tup [.prop 25 0 "by" (.x 1), .prop 26 0 "marks" (.x 1), .prop 27 0 "kinds" (.x 1), .lenO 28 0 (.x 1)])) (.b1 .repr (.tup [.ix (.x 0) (.str "by"), .x 2, .x 3, .b1 .len (.x 2)]))) [.ret (.bl false)] [],
    .ite (.cmp .ne (.b1 .repr (.lc false (.methI 31 0 "weight" (.x 1) [.x 8]) (.nm 8) (.sq (.x 2)) [] [8])) (.b1 .repr (.b1 (.list false) (.ix (.x 0) (.str "weights"))))) [.ret (.bl false)] [],
    .for_ (.nm 5) (.sq (.x 3)) [.for_ (.nm 6) (.sq (.x 4)) [.asgC 7 (.lc false (.methI 32 0 "worth" (.x 1) [.x 5, .ix (.x 2) (.x 6), .ix (.x 2) (.x 9)]) (.nm 9) (.sq (.x 4)) [] [9]),
    .ite (.cmp .ne (.b1 .repr (.x 7)) (.b1 .repr (.b1 (.list false) (.ix (.ix (.ix (.x 0) (.str "tables")) (.x 5)) (.x 6))))) [.ret (.bl false)] []]],
    .ret (.bl true)]
/-- Book_text -/
def c34 : List S := [.ret (.fld (.x 0) 0 "own_text")]
/-- _law_books_primes -/
def c35 : List S := [.ret (.lst false [.int 2, .int 3, .int 5, .int 7, .int 11, .int 13, .int 17, .int 19, .int 23, .int 29, .int 31, .int 37, .int 41, .int 43, .int 47, .int 53, .int 59, .int 61, .int 67, .int 71, .int 73, .int 79, .int 83, .int 89, .int 97])]
/-- _law_odd -/
def c36 : List S := [.asg (.nm 1) (.lst false [.non, .bl true, .bl false, .int 0, .int 1, .neg (.int 1), .int 7, .bop .pow (.int 10) (.int 8), .str "", .str "a", .str "x", .str "script", .str "script\nx = one", .str "same", .tup [], .lst false [], .dic [], .tup [.int 0]]),
    .asg (.nm 1) (.bop .add (.x 1) (.lst false [.tup [.int 0, .int 1], .tup [.int 1, .int 0], .tup [.int 1, .int 1], .tup [.tup []], .lst false [.int 0], .tup [.non], .dic [("a", 1)], .tup [.bl true], .tup [.str "a"], .tup [.str "a", .str "b"], .str "parts", .str "rows"])),
    .ret (.call 1 [.x 0, .x 1])]
/-- Book_eq -/
def c37 : List S := [.ret (.and (.isiO (.x 1) 0) (.cmp .eq (.fld (.x 0) 0 "own_text") (.fld (.x 1) 0 "own_text")))]
/-- _law_right -/
def c38 : List S := [.asg (.nm 1) (.call 1 [.x 0, .lst false [.int 0, .int 0, .int 0, .int 2, .int 3, .int 5, .int 7, .call 1 [.x 0, .call 35 []]]]),
    .asg (.nm 2) (.call 8 [.x 0, .lst false [.x 1], .lst false [.int 1, .int 2, .int 3, .int 4, .int 2], .int 3, .bl false]),
    .asg (.nm 3) (.call 9 [.x 2]),
    .par [4, 5] [.mkI 0 19 [.x 3], .call 24 [.x 0, .x 2, .lst false [.int 1, .int 2, .int 3, .int 4], .bl false]],
    .ite (.or (.not (.call 33 [.x 2, .x 4])) (.cmp .ne (.prop 34 0 "text" (.x 4)) (.x 3))) [.ret (.bl false)] [],
    .for_ (.nm 6) (.sq (.bop .add (.bop .add (.bop .add (.b1 (.list false) (.ix (.x 2) (.str "marks"))) (.b1 (.list false) (.ix (.x 2) (.str "kinds")))) (.lc false (.call 36 [.x 0]) (.nm 10) (.rg1 (.int 4)) [] [10])) (.lst false [.b1 (.list false) (.ix (.x 2) (.str "marks"))]))) [.asg (.nm 7) (.and (.isi (.x 6) "str") (.cmp .in_ (.x 6) (.ix (.x 2) (.str "marks")))),
    .ite (.cmp .ne (.b1 .repr (.inO 29 0 false (.x 6) (.x 4))) (.b1 .repr (.x 7))) [.ret (.bl false)] []],
    .par [8, 9] [.call 9 [.x 5], .mkI 0 19 [.prop 34 0 "text" (.x 4)]],
    .ite (.cmp .ne (.b1 .repr (.lst false [.eqO 37 0 false (.x 4) (.x 9), .eqO 37 0 true (.x 4) (.x 9), .eqO 37 0 false (.x 4) (.x 3), .cmp .is_ (.x 4) (.non)])) (.b1 .repr (.lst false [.bl true, .bl false, .bl false, .bl false]))) [.ret (.bl false)] [],
    .ite (.cmp .ne (.b1 .repr (.lst false [.eqO 37 0 false (.mkI 0 19 [.x 8]) (.x 4), .eqO 37 0 true (.x 4) (.mkI 0 19 [.x 8])])) (.b1 .repr (.lst false [.cmp .eq (.x 8) (.x 3), .cmp .ne (.x 8) (.x 3)]))) [.ret (.bl false)] [],
    .ret (.and (.call 33 [.x 5, .mkI 0 19 [.x 8]]) (.call 33 [.x 2, .x 4]))]
/-- _law_pot -/
def c39 : List S := [.asg (.nm 2) (.ife (.cmp .lt (.x 1) (.b1 .len (.x 0))) (.ix (.x 0) (.x 1)) (.bop .add (.bop .add (.bop .mod (.b1 .sum (.sl false (.x 0) none (some (.int 1)))) (.int 1000003)) (.bop .mul (.int 1019) (.x 1))) (.int 433))),
    .asg (.nm 3) (.bop .mul (.bop .mod (.b1 .int (.b1 .abs (.x 2))) (.bop .pow (.bop .pow (.int 10) (.int 60)) (.int 5))) (.b1 .int (.cmp .ge (.b1 .abs (.x 2)) (.bop .pow (.int 10) (.int 18))))),
    .asg (.nm 4) (.bop .mod (.b1 .int (.x 2)) (.int 2305843009213693951)),
    .ret (.lst true [.x 3, .bop .mod (.b1 .int (.bop .add (.bop .add (.bop .mul (.x 4) (.int 70111)) (.bop .mul (.bop .mul (.int 7043) (.x 1)) (.x 1))) (.int 331))) (.int 2305843009213693921), .int 0])]
/-- _law_cells -/
def c40 : List S := [.ret (.lrg false (.int 0) (.b2 .max (.int 1) (.b2 .min (.x 1) (.b1 .len (.x 0)))))]
/-- law -/
def c41 : List S := [.ret (.b1 .all (.lc false (.call 38 [.call 39 [.x 0, .x 1]]) (.nm 1) (.sq (.call 40 [.x 0, .int 2])) [] [1]))]
def r0 : Row := ⟨.top "_law_take", 2, ["pot", "upto", "digit", "prime", "blend"], ["pot", "upto"], ⟨("_law_take", none), "_law_take", "_law_take", defArgs (top 37), defBody (top 37), defScope (top 37), [], []⟩, c0⟩
def r1 : Row := ⟨.top "_law_of", 2, ["pot", "some"], ["pot", "some"], ⟨("_law_of", none), "_law_of", "_law_of", defArgs (top 38), defBody (top 38), defScope (top 38), [], []⟩, c1⟩
def r2 : Row := ⟨.top "_law_some", 3, ["pot", "pool", "many", "left", "found", "lap"], ["pot", "pool", "many"], ⟨("_law_some", none), "_law_some", "_law_some", defArgs (top 39), defBody (top 39), defScope (top 39), [], []⟩, c2⟩
def r3 : Row := ⟨.top "_law_book_names", 2, ["pot", "many", "at", "is_alike", "letters", "tellings", "long", "base", "found", "telling", "lap"], ["pot", "many"], ⟨("_law_book_names", none), "_law_book_names", "_law_book_names", defArgs (top 42), defBody (top 42), defScope (top 42), [], []⟩, c3⟩
def r4 : Row := ⟨.top "_law_book_weights", 4, ["pot", "by", "many", "is_above", "way", "most", "found", "last", "lap", "weight"], ["pot", "by", "many", "is_above"], ⟨("_law_book_weights", none), "_law_book_weights", "_law_book_weights", defArgs (top 43), defBody (top 43), defScope (top 43), [], []⟩, c4⟩
def r5 : Row := ⟨.top "_law_book_twinned", 3, ["own", "one", "other", "tables", "places", "kind", "at", "a", "b"], ["own", "one", "other"], ⟨("_law_book_twinned", none), "_law_book_twinned", "_law_book_twinned", defArgs (top 45), defBody (top 45), defScope (top 45), [], []⟩, c5⟩
def r6 : Row := ⟨.top "_law_book_table", 3, ["pot", "by", "many", "way", "places", "low", "high", "some", "a", "b", "row", "n"], ["pot", "by", "many"], ⟨("_law_book_table", none), "_law_book_table", "_law_book_table", defArgs (top 44), defBody (top 44), defScope (top 44), [], []⟩, c6⟩
def r7 : Row := ⟨.top "_law_book_of", 5, ["pot", "by", "many", "kinds", "is_above", "own", "one", "other", "kind"], ["pot", "by", "many", "kinds", "is_above"], ⟨("_law_book_of", none), "_law_book_of", "_law_book_of", defArgs (top 46), defBody (top 46), defScope (top 46), [], []⟩, c7⟩
def r8 : Row := ⟨.top "_law_book_drawn", 5, ["pot", "bys", "manys", "kinds", "is_above", "by", "many", "names", "own", "tables", "mark", "kind"], ["pot", "bys", "manys", "kinds", "is_above"], ⟨("_law_book_drawn", none), "_law_book_drawn", "_law_book_drawn", defArgs (top 47), defBody (top 47), defScope (top 47), [], []⟩, c8⟩
def r9 : Row := ⟨.top "_law_book_text", 1, ["own", "lines", "mark", "weight", "kind", "rows", "row", "n"], ["own"], ⟨("_law_book_text", none), "_law_book_text", "_law_book_text", defArgs (top 48), defBody (top 48), defScope (top 48), [], []⟩, c9⟩
def r10 : Row := ⟨.top "lines_of", 1, ["text", "line"], ["text"], ⟨("lines_of", none), "lines_of", "lines_of", defArgs (top 10), defBody (top 10), defScope (top 10), [], []⟩, c10⟩
def r11 : Row := ⟨.top "integer_in", 1, ["text", "figures", "sign"], ["text"], ⟨("integer_in", none), "integer_in", "integer_in", defArgs (top 9), defBody (top 9), defScope (top 9), [], []⟩, c11⟩
def r12 : Row := ⟨.top "by_in", 1, ["words", "number"], ["words"], ⟨("by_in", none), "by_in", "by_in", defArgs (top 28), defBody (top 28), defScope (top 28), [], []⟩, c12⟩
def r13 : Row := ⟨.top "is_name", 1, ["value", "sign"], ["value"], ⟨("is_name", none), "is_name", "is_name", defArgs (top 27), defBody (top 27), defScope (top 27), [], []⟩, c13⟩
def r14 : Row := ⟨.top "is_worth", 2, ["by", "number"], ["by", "number"], ⟨("is_worth", none), "is_worth", "is_worth", defArgs (top 29), defBody (top 29), defScope (top 29), [], []⟩, c14⟩
def r15 : Row := ⟨.top "take_kind", 4, ["by", "many", "kinds", "words", "name", "worths", "word", "row", "one"], ["by", "many", "kinds", "words"], ⟨("take_kind", none), "take_kind", "take_kind", defArgs (top 31), defBody (top 31), defScope (top 31), [], []⟩, c15⟩
def r16 : Row := ⟨.top "take_mark", 3, ["by", "marks", "words", "name", "weight", "row"], ["by", "marks", "words"], ⟨("take_mark", none), "take_mark", "take_mark", defArgs (top 30), defBody (top 30), defScope (top 30), [], []⟩, c16⟩
def r17 : Row := ⟨.top "is_taken", 4, ["by", "marks", "kinds", "words"], ["by", "marks", "kinds", "words"], ⟨("is_taken", none), "is_taken", "is_taken", defArgs (top 32), defBody (top 32), defScope (top 32), [], []⟩, c17⟩
def r18 : Row := ⟨.top "read", 1, ["text", "lines", "by", "marks", "kinds", "at", "words"], ["text"], ⟨("read", none), "read", "read", defArgs (top 33), defBody (top 33), defScope (top 33), [], []⟩, c18⟩
def r19 : Row := ⟨.init 0, 2, ["self", "text", "by", "marks", "kinds", "pairs", "name", "worths", "one", "other", "weight"], ["self", "text"], ⟨("Book", some "__init__"), "__init__", "Book.__init__", defArgs (inClass (top 34) 0), defBody (inClass (top 34) 0), defScope (inClass (top 34) 0), [], []⟩, c19⟩
def r20 : Row := ⟨.top "_law_book_picked", 4, ["own", "places", "names", "weights", "tables", "kind", "a", "b"], ["own", "places", "names", "weights"], ⟨("_law_book_picked", none), "_law_book_picked", "_law_book_picked", defArgs (top 49), defBody (top 49), defScope (top 49), [], []⟩, c20⟩
def r21 : Row := ⟨.top "_law_book_renamed", 2, ["pot", "own", "places", "at"], ["pot", "own"], ⟨("_law_book_renamed", none), "_law_book_renamed", "_law_book_renamed", defArgs (top 50), defBody (top 50), defScope (top 50), [], []⟩, c21⟩
def r22 : Row := ⟨.top "_law_book_split", 3, ["pot", "own", "is_above", "many", "by", "at", "part", "rest", "weights"], ["pot", "own", "is_above"], ⟨("_law_book_split", none), "_law_book_split", "_law_book_split", defArgs (top 51), defBody (top 51), defScope (top 51), [], []⟩, c22⟩
def r23 : Row := ⟨.top "_law_book_changed", 2, ["pot", "own", "many", "by", "weights", "tables", "step", "at", "number", "kind", "a", "b", "rows", "row"], ["pot", "own"], ⟨("_law_book_changed", none), "_law_book_changed", "_law_book_changed", defArgs (top 52), defBody (top 52), defScope (top 52), [], []⟩, c23⟩
def r24 : Row := ⟨.top "_law_book_other", 4, ["pot", "own", "manys", "is_above", "way"], ["pot", "own", "manys", "is_above"], ⟨("_law_book_other", none), "_law_book_other", "_law_book_other", defArgs (top 53), defBody (top 53), defScope (top 53), [], []⟩, c24⟩
def r25 : Row := ⟨.prop 0 "by", 1, ["self"], ["self"], ⟨("Book", some "by"), "by", "Book.by", defArgs (inClass (top 34) 2), defBody (inClass (top 34) 2), defScope (inClass (top 34) 2), [], []⟩, c25⟩
def r26 : Row := ⟨.prop 0 "marks", 1, ["self"], ["self"], ⟨("Book", some "marks"), "marks", "Book.marks", defArgs (inClass (top 34) 3), defBody (inClass (top 34) 3), defScope (inClass (top 34) 3), [], []⟩, c26⟩
def r27 : Row := ⟨.prop 0 "kinds", 1, ["self"], ["self"], ⟨("Book", some "kinds"), "kinds", "Book.kinds", defArgs (inClass (top 34) 4), defBody (inClass (top 34) 4), defScope (inClass (top 34) 4), [], []⟩, c27⟩
def r28 : Row := ⟨.meth 0 "__len__", 1, ["self"], ["self"], ⟨("Book", some "__len__"), "__len__", "Book.__len__", defArgs (inClass (top 34) 5), defBody (inClass (top 34) 5), defScope (inClass (top 34) 5), [], []⟩, c28⟩
def r29 : Row := ⟨.meth 0 "__contains__", 2, ["self", "value"], ["self", "value"], ⟨("Book", some "__contains__"), "__contains__", "Book.__contains__", defArgs (inClass (top 34) 6), defBody (inClass (top 34) 6), defScope (inClass (top 34) 6), [], []⟩, c29⟩
def r30 : Row := ⟨.meth 0 "check_mark", 2, ["self", "value"], ["self", "value"], ⟨("Book", some "check_mark"), "check_mark", "Book.check_mark", defArgs (inClass (top 34) 8), defBody (inClass (top 34) 8), defScope (inClass (top 34) 8), [], []⟩, c30⟩
def r31 : Row := ⟨.meth 0 "weight", 2, ["self", "mark"], ["self", "mark"], ⟨("Book", some "weight"), "weight", "Book.weight", defArgs (inClass (top 34) 9), defBody (inClass (top 34) 9), defScope (inClass (top 34) 9), [], []⟩, c31⟩
def r32 : Row := ⟨.meth 0 "worth", 4, ["self", "kind", "one", "other"], ["self", "kind", "one", "other"], ⟨("Book", some "worth"), "worth", "Book.worth", defArgs (inClass (top 34) 10), defBody (inClass (top 34) 10), defScope (inClass (top 34) 10), [], []⟩, c32⟩
def r33 : Row := ⟨.top "_law_is_told_right", 2, ["own", "book", "marks", "kinds", "places", "kind", "a", "told", "mark", "b"], ["own", "book"], ⟨("_law_is_told_right", none), "_law_is_told_right", "_law_is_told_right", defArgs (top 55), defBody (top 55), defScope (top 55), [], []⟩, c33⟩
def r34 : Row := ⟨.prop 0 "text", 1, ["self"], ["self"], ⟨("Book", some "text"), "text", "Book.text", defArgs (inClass (top 34) 1), defBody (inClass (top 34) 1), defScope (inClass (top 34) 1), [], []⟩, c34⟩
def r35 : Row := ⟨.top "_law_books_primes", 0, [], [], ⟨("_law_books_primes", none), "_law_books_primes", "_law_books_primes", defArgs (top 54), defBody (top 54), defScope (top 54), [], []⟩, c35⟩
def r36 : Row := ⟨.top "_law_odd", 1, ["pot", "some"], ["pot"], ⟨("_law_odd", none), "_law_odd", "_law_odd", defArgs (top 41), defBody (top 41), defScope (top 41), [], []⟩, c36⟩
def r37 : Row := ⟨.meth 0 "__eq__", 2, ["self", "other"], ["self", "other"], ⟨("Book", some "__eq__"), "__eq__", "Book.__eq__", defArgs (inClass (top 34) 7), defBody (inClass (top 34) 7), defScope (inClass (top 34) 7), [], []⟩, c37⟩
def r38 : Row := ⟨.top "_law_right", 1, ["pot", "by", "own", "text", "book", "other", "value", "due", "far", "back", "lap"], ["pot"], ⟨("_law_right", none), "_law_right", "_law_right", defArgs (top 56), defBody (top 56), defScope (top 56), [], []⟩, c38⟩
def r39 : Row := ⟨.top "_law_pot", 2, ["script", "place", "cell", "own", "small"], ["script", "place"], ⟨("_law_pot", none), "_law_pot", "_law_pot", defArgs (top 36), defBody (top 36), defScope (top 36), [], []⟩, c39⟩
def r40 : Row := ⟨.top "_law_cells", 2, ["script", "most"], ["script", "most"], ⟨("_law_cells", none), "_law_cells", "_law_cells", defArgs (top 40), defBody (top 40), defScope (top 40), [], []⟩, c40⟩
def r41 : Row := ⟨.top "law", 1, ["script", "place"], ["script"], ⟨("law", none), "law", "law", defArgs (top 57), defBody (top 57), defScope (top 57), [], []⟩, c41⟩
def rows : List Row := [r0, r1, r2, r3, r4, r5, r6, r7, r8, r9, r10, r11, r12, r13, r14, r15, r16, r17, r18, r19, r20, r21, r22, r23, r24, r25, r26, r27, r28, r29, r30, r31, r32, r33, r34, r35, r36, r37, r38, r39, r40, r41]
def gd : List D := [.str "\n", .str " ", .str "0123456789", .str "abcdefghijklmnopqrstuvwxyz", .str "-", .str "0", .int (4000), .str "book", .str "mark", .str "kind", .int (4), .int (4), .int (3), .int 1000000000000, .int (2), .tup [.int (2), .int (3), .int (5), .int (7), .int (11), .int (13), .int (17), .int (19), .int (23), .int (29), .int (31), .int (37), .int (41), .int (43), .int (47), .int (53), .int (59), .int (61), .int (67), .int (71), .int (73), .int (79), .int (83), .int (89), .int (97)], .int (3)]
def T : Tb := ⟨["FEED", "BLANK", "FIGURES", "LETTERS", "MINUS", "NOUGHT", "MOST_READ", "BOOK", "MARK", "KIND", "MOST_LETTERS", "MOST_MARKS", "MOST_KINDS", "MOST_NUMBER", "PAIR", "PRIMES", "TRIPLE"], [(.top "_law_take", 2), (.top "_law_of", 2), (.top "_law_some", 3), (.top "_law_book_names", 2), (.top "_law_book_weights", 4), (.top "_law_book_twinned", 3), (.top "_law_book_table", 3), (.top "_law_book_of", 5), (.top "_law_book_drawn", 5), (.top "_law_book_text", 1), (.top "lines_of", 1), (.top "integer_in", 1), (.top "by_in", 1), (.top "is_name", 1), (.top "is_worth", 2), (.top "take_kind", 4), (.top "take_mark", 3), (.top "is_taken", 4), (.top "read", 1), (.init 0, 2), (.top "_law_book_picked", 4), (.top "_law_book_renamed", 2), (.top "_law_book_split", 3), (.top "_law_book_changed", 2), (.top "_law_book_other", 4), (.prop 0 "by", 1), (.prop 0 "marks", 1), (.prop 0 "kinds", 1), (.meth 0 "__len__", 1), (.meth 0 "__contains__", 2), (.meth 0 "check_mark", 2), (.meth 0 "weight", 2), (.meth 0 "worth", 4), (.top "_law_is_told_right", 2), (.prop 0 "text", 1), (.top "_law_books_primes", 0), (.top "_law_odd", 1), (.meth 0 "__eq__", 2), (.top "_law_right", 1), (.top "_law_pot", 2), (.top "_law_cells", 2), (.top "law", 1)], [("Book", true, ["own_text", "own_by", "own_marks", "own_kinds", "own_weights", "own_tables"])], [], ["int", "len", "list", "range", "tuple", "sum", "min", "max", "dict", "zip", "str", "all", "isinstance", "enumerate", "abs", "repr"]⟩
theorem b0 : BindLaw r0 := fun _ _ _ _ _ _ us hl => match us, hl with | [_, _], _ => rfl
theorem b1 : BindLaw r1 := fun _ _ _ _ _ _ us hl => match us, hl with | [_, _], _ => rfl
theorem b2 : BindLaw r2 := fun _ _ _ _ _ _ us hl => match us, hl with | [_, _, _], _ => rfl
theorem b3 : BindLaw r3 := fun _ _ _ _ _ _ us hl => match us, hl with | [_, _], _ => rfl
theorem b4 : BindLaw r4 := fun _ _ _ _ _ _ us hl => match us, hl with | [_, _, _, _], _ => rfl
theorem b5 : BindLaw r5 := fun _ _ _ _ _ _ us hl => match us, hl with | [_, _, _], _ => rfl
theorem b6 : BindLaw r6 := fun _ _ _ _ _ _ us hl => match us, hl with | [_, _, _], _ => rfl
theorem b7 : BindLaw r7 := fun _ _ _ _ _ _ us hl => match us, hl with | [_, _, _, _, _], _ => rfl
theorem b8 : BindLaw r8 := fun _ _ _ _ _ _ us hl => match us, hl with | [_, _, _, _, _], _ => rfl
theorem b9 : BindLaw r9 := fun _ _ _ _ _ _ us hl => match us, hl with | [_], _ => rfl
theorem b10 : BindLaw r10 := fun _ _ _ _ _ _ us hl => match us, hl with | [_], _ => rfl
theorem b11 : BindLaw r11 := fun _ _ _ _ _ _ us hl => match us, hl with | [_], _ => rfl
theorem b12 : BindLaw r12 := fun _ _ _ _ _ _ us hl => match us, hl with | [_], _ => rfl
theorem b13 : BindLaw r13 := fun _ _ _ _ _ _ us hl => match us, hl with | [_], _ => rfl
theorem b14 : BindLaw r14 := fun _ _ _ _ _ _ us hl => match us, hl with | [_, _], _ => rfl
theorem b15 : BindLaw r15 := fun _ _ _ _ _ _ us hl => match us, hl with | [_, _, _, _], _ => rfl
theorem b16 : BindLaw r16 := fun _ _ _ _ _ _ us hl => match us, hl with | [_, _, _], _ => rfl
theorem b17 : BindLaw r17 := fun _ _ _ _ _ _ us hl => match us, hl with | [_, _, _, _], _ => rfl
theorem b18 : BindLaw r18 := fun _ _ _ _ _ _ us hl => match us, hl with | [_], _ => rfl
theorem b19 : BindLaw r19 := fun _ _ _ _ _ _ us hl => match us, hl with | [_, _], _ => rfl
theorem b20 : BindLaw r20 := fun _ _ _ _ _ _ us hl => match us, hl with | [_, _, _, _], _ => rfl
theorem b21 : BindLaw r21 := fun _ _ _ _ _ _ us hl => match us, hl with | [_, _], _ => rfl
theorem b22 : BindLaw r22 := fun _ _ _ _ _ _ us hl => match us, hl with | [_, _, _], _ => rfl
theorem b23 : BindLaw r23 := fun _ _ _ _ _ _ us hl => match us, hl with | [_, _], _ => rfl
theorem b24 : BindLaw r24 := fun _ _ _ _ _ _ us hl => match us, hl with | [_, _, _, _], _ => rfl
theorem b25 : BindLaw r25 := fun _ _ _ _ _ _ us hl => match us, hl with | [_], _ => rfl
theorem b26 : BindLaw r26 := fun _ _ _ _ _ _ us hl => match us, hl with | [_], _ => rfl
theorem b27 : BindLaw r27 := fun _ _ _ _ _ _ us hl => match us, hl with | [_], _ => rfl
theorem b28 : BindLaw r28 := fun _ _ _ _ _ _ us hl => match us, hl with | [_], _ => rfl
theorem b29 : BindLaw r29 := fun _ _ _ _ _ _ us hl => match us, hl with | [_, _], _ => rfl
theorem b30 : BindLaw r30 := fun _ _ _ _ _ _ us hl => match us, hl with | [_, _], _ => rfl
theorem b31 : BindLaw r31 := fun _ _ _ _ _ _ us hl => match us, hl with | [_, _], _ => rfl
theorem b32 : BindLaw r32 := fun _ _ _ _ _ _ us hl => match us, hl with | [_, _, _, _], _ => rfl
theorem b33 : BindLaw r33 := fun _ _ _ _ _ _ us hl => match us, hl with | [_, _], _ => rfl
theorem b34 : BindLaw r34 := fun _ _ _ _ _ _ us hl => match us, hl with | [_], _ => rfl
theorem b35 : BindLaw r35 := fun _ _ _ _ _ _ us hl => match us, hl with | [], _ => rfl
theorem b36 : BindLaw r36 := fun _ _ _ _ _ _ us hl => match us, hl with | [_], _ => rfl
theorem b37 : BindLaw r37 := fun _ _ _ _ _ _ us hl => match us, hl with | [_, _], _ => rfl
theorem b38 : BindLaw r38 := fun _ _ _ _ _ _ us hl => match us, hl with | [_], _ => rfl
theorem b39 : BindLaw r39 := fun _ _ _ _ _ _ us hl => match us, hl with | [_, _], _ => rfl
theorem b40 : BindLaw r40 := fun _ _ _ _ _ _ us hl => match us, hl with | [_, _], _ => rfl
theorem b41 : BindLaw r41 := fun _ _ _ _ _ _ us hl => match us, hl with | [_], _ => rfl
theorem binds : ∀ r ∈ rows, BindLaw r := by
  intro r h
  simp only [rows, List.mem_cons, List.not_mem_nil, or_false] at h
  rcases h with rfl | rfl | rfl | rfl | rfl | rfl | rfl | rfl | rfl | rfl | rfl | rfl | rfl | rfl | rfl | rfl | rfl | rfl | rfl | rfl | rfl | rfl | rfl | rfl | rfl | rfl | rfl | rfl | rfl | rfl | rfl | rfl | rfl | rfl | rfl | rfl | rfl | rfl | rfl | rfl | rfl | rfl
  · exact b0
  · exact b1
  · exact b2
  · exact b3
  · exact b4
  · exact b5
  · exact b6
  · exact b7
  · exact b8
  · exact b9
  · exact b10
  · exact b11
  · exact b12
  · exact b13
  · exact b14
  · exact b15
  · exact b16
  · exact b17
  · exact b18
  · exact b19
  · exact b20
  · exact b21
  · exact b22
  · exact b23
  · exact b24
  · exact b25
  · exact b26
  · exact b27
  · exact b28
  · exact b29
  · exact b30
  · exact b31
  · exact b32
  · exact b33
  · exact b34
  · exact b35
  · exact b36
  · exact b37
  · exact b38
  · exact b39
  · exact b40
  · exact b41
theorem kws : ∀ i ks pm, (i, ks, pm) ∈ T.kw → ∀ r, rows[i]? = some r → KwLaw r ks pm := by
  intro i ks pm h r hr
  simp only [T, List.mem_cons, List.not_mem_nil, or_false, Prod.mk.injEq] at h
theorem tf : T.fs = rows.map fun r => (r.fk, r.n) := rfl
theorem rows_ok : rows.all (rowB T) = true := by decide +kernel
end Og.Lk00
end
section
set_option autoImplicit true
set_option maxHeartbeats 0
namespace Og.Lk00
open PySem PySem.Spec PyProof.Rows L2 Og
abbrev R : PySem.W.OpenRow := PySem.W.OpenLaw.row PySem.Challenge.rw_opengates_k00_whole_books_and_their_text
abbrev hk : PySem.W.Hook := hookO 5 (faOf T rows) (fnOf rows) (fpOf rows) (exOf T gd)
def ob (s : PySem.W.SharedT) : AlO := obO 5 (faOf T rows) (fnOf rows) (fpOf rows) (exOf T gd) (HandSHeadRun.getT s)
theorem ob_eq (s : PySem.W.SharedT) : ob s = hk.obs s.abs := obO_eq (HandSHeadRun.getT_eq s)
def loose : List PySem.Str := [("_wall" : PySem.Str), ("__name__" : PySem.Str), ("FEED" : PySem.Str), ("BLANK" : PySem.Str), ("FIGURES" : PySem.Str), ("LETTERS" : PySem.Str), ("MINUS" : PySem.Str), ("NOUGHT" : PySem.Str), ("MOST_READ" : PySem.Str), ("integer_in" : PySem.Str), ("lines_of" : PySem.Str), ("GateError" : PySem.Str), ("BadBook" : PySem.Str), ("NoMark" : PySem.Str), ("NoKind" : PySem.Str), ("BOOK" : PySem.Str), ("MARK" : PySem.Str), ("KIND" : PySem.Str), ("MOST_LETTERS" : PySem.Str), ("MOST_MARKS" : PySem.Str), ("MOST_KINDS" : PySem.Str), ("MOST_NUMBER" : PySem.Str), ("PAIR" : PySem.Str), ("PRIMES" : PySem.Str), ("TRIPLE" : PySem.Str), ("is_name" : PySem.Str), ("by_in" : PySem.Str), ("is_worth" : PySem.Str), ("take_mark" : PySem.Str), ("take_kind" : PySem.Str), ("is_taken" : PySem.Str), ("read" : PySem.Str), ("Book" : PySem.Str), ("_law_pot" : PySem.Str), ("_law_take" : PySem.Str), ("_law_of" : PySem.Str), ("_law_some" : PySem.Str), ("_law_cells" : PySem.Str), ("_law_odd" : PySem.Str), ("_law_book_names" : PySem.Str), ("_law_book_weights" : PySem.Str), ("_law_book_table" : PySem.Str), ("_law_book_twinned" : PySem.Str), ("_law_book_of" : PySem.Str), ("_law_book_drawn" : PySem.Str), ("_law_book_text" : PySem.Str), ("_law_book_picked" : PySem.Str), ("_law_book_renamed" : PySem.Str), ("_law_book_split" : PySem.Str), ("_law_book_changed" : PySem.Str), ("_law_book_other" : PySem.Str), ("_law_books_primes" : PySem.Str), ("_law_is_told_right" : PySem.Str), ("_law_right" : PySem.Str)]
theorem run (w : World) : HandSHeadRun.RunEq R (PySem.W.view R.prog [57]) hk ob 4000 loose w := by
  intro os
  kernel_rfl
end Og.Lk00
end
section
set_option maxHeartbeats 4000000
set_option autoImplicit false
/-! Og: the law's own call. -/
namespace Og
open PySem PySem.Spec PyProof.Rows L2
/-- the script, as it is tracked: not at all where the module holds it -/
def scr (K : PySem.W.Frag) (a : Addr) (o : Obj) (xs : List V) : Hp := fun b => if b = a ∧ K.lookup a = none then some (.frz o (.lst xs)) else none
section
variable {K : PySem.W.Frag} {a b : Addr} {o : Obj} {xs : List V} {u : HO}
theorem scr_out (h : scr K a o xs b = some u) : b = a ∧ K.lookup a = none ∧ u = .frz o (.lst xs) := by
  unfold scr at h
  split at h
  · rename_i z
    exact ⟨z.1, z.2, (Option.some.inj h).symm⟩
  · cases h
theorem scr_none (h : b ≠ a) : scr K a o xs b = none := by
  unfold scr
  rw [if_neg fun z => h z.1]
theorem scr_only : Only (scr K a o xs) := fun b => by
  cases h : scr K a o xs b with
  | none => exact .inl rfl
  | some u =>
    obtain ⟨_, _, rfl⟩ := scr_out h
    exact .inr ⟨_, _, rfl⟩
end
theorem call_top {P : Program} {w : World} {K : PySem.W.Frag} {mg mb : Str → Option Value} {k : Nat} {fa a : Addr} {fd : FuncData} {x : Str} {sp : Sp} {t : Shared} {vs : List Value} {ns : List Int} (KX : K.In t.heap) (hm : t.heap.Ns mainGlobals mg) (hb : t.heap.Ns builtinsNs mb)
    (hbb : ∀ x : Str, x ≠ "__name__" → mb x = bootBuiltins x) (hlim : t.heap.NoLimit) (hg : t.gens = #[]) (ha : t.heap.get? a = some { cls := .type "list", data := .seq vs.toArray }) (hi : IntsAre vs ns) (hl : ns.length ≤ sizeLine) (hr : Room k callerA)
    (F : ∀ base : Heap, K.In base → base.Ns mainGlobals mg → FnG P w K mg base k fa fd [x] sp) (hbind : ∀ (s : Shared) (u : Value), BindsTo s fd ⟨[u], []⟩ [(x, u)]) (hsp : ∀ H : Hp, Only H → SqL K H a (ns.map V.int) → sp [.ref a] H (fun v _ => v = .bl true) allE) :
    codeAny (model P w) callerA (.call (.ref fa) ⟨[.ref a], []⟩) (fun r t' => r = .ok (.ret (.bool true)) ∧ OldK t.heap t'.heap ∧ t'.os = t.os ∧ AllBare t'.gens) t := by
  have rv := vals_ints hi
  have nl := hi.length
  generalize hT : scr K a { cls := .type "list", data := .seq vs.toArray } (ns.map V.int) = T
  have out : ∀ {b u}, T b = some u → b = a ∧ K.lookup a = none ∧ u = .frz { cls := .type "list", data := .seq vs.toArray } (.lst (ns.map V.int)) := fun {b u} z => scr_out (by rw [hT]; exact z)
  have only : Only T := by rw [← hT]; exact scr_only
  have sq : SqL K T a (ns.map V.int) := by
    cases hk : K.lookup a with
    | some o =>
      have e := KX a o hk
      rw [ha] at e
      obtain rfl := Option.some.inj e
      exact .inr ⟨_, vs.toArray, _, hk, rfl, rfl, rfl, by simpa [nl] using hl, by simpa using rv⟩
    | none => exact .inl (.inr ⟨_, by rw [← hT]; unfold scr; exact if_pos ⟨rfl, hk⟩⟩)
  have hok : HOk P w T t.heap := fun b u z => by
    obtain ⟨rfl, _, rfl⟩ := out z
    exact ⟨ha, by rw [List.length_map]; exact hl, vs, _, rv, ha⟩
  have hid : ∀ {b o}, t.heap.get? b = some o → T b = none → (hidT t.heap T).get? b = some o := fun e n => hidT_get e n
  have dictN : ∀ {b : Addr} {o : Obj} {es : Array DictEntry} {ep : Nat}, t.heap.get? b = some o → o.data = .dict es ep → T b = none := fun {b o es ep} e d => by
    cases z : T b with
    | none => rfl
    | some u =>
      obtain ⟨rfl, _, _⟩ := out z
      rw [ha] at e
      obtain rfl := Option.some.inj e
      cases d
  have nsT : ∀ {b : Addr} {m : Str → Option Value}, t.heap.Ns b m → (hidT t.heap T).Ns b m := fun ⟨o, es, ep, e, d, r⟩ => ⟨o, es, ep, hid e (dictN e d), d, r⟩
  have KT : K.In (hidT t.heap T) := fun b o e => hid (KX b o e) (by
    cases z : T b with
    | none => rfl
    | some u =>
      obtain ⟨rfl, n, _⟩ := out z
      rw [n] at e; cases e)
  have e0 : Env0 P w K mg (hidT t.heap T) callerA [] t T := ⟨rfl, ⟨KT, nsT hm, ⟨mb, nsT hb, hbb⟩, by obtain ⟨mc, h1, h2⟩ := hlim; exact ⟨mc, nsT h1, h2⟩⟩, fun b o e => of_hidT e, Nat.le_of_eq (hidT_size _ _), trivial, (fun b hb => by cases hb), hok, .of_eq hg⟩
  refine codeAny_mono ((F _ KT (nsT hm)).run callerA [] t T ⟨[.ref a], []⟩ [.ref a] [.ref a] _ rfl hr e0 (hbind t (.ref a)) (.cons rfl .nil) (hsp T only sq)) ?_
  rintro _ t' ⟨u, rfl, v, H', os, bare, un, hok', rv', q⟩
  obtain rfl : v = V.bl true := q
  obtain rfl : u = Value.bool true := rv'
  refine ⟨rfl, OldK.of_keep fun b o e => ?_, os, bare⟩
  cases z : T b with
  | none => exact un.keep b o e z (by intro y; cases y) (by intro y; cases y)
  | some u =>
    obtain ⟨rfl, _, rfl⟩ := out z
    have e2 := (hok' _ _ (un.frzs _ _ _ z)).1
    rw [ha] at e
    obtain rfl := Option.some.inj e
    exact e2
theorem walk_top {l : PySem.W.OpenLaw} {n k : Nat} {q : Program} {loose : List Str} {XP : (Str → Option Value) → Heap → Prop} {YP : World → Heap → Prop} {d : DefRec} {x : Str} (hn : l.most = some n) (hn2 : n ≤ sizeLine) (hdf : d.params.defaults = []) (hr : Room k callerA)
    (F : ∀ (w : World) (mg : Str → Option Value) (fa : Addr) (h : Heap), YP w h → h.Ns mainGlobals mg → mg d.name = some (.ref fa) → ∃ (K : PySem.W.Frag) (fd : FuncData) (sp : Sp), K.In h ∧ (∀ (s : Shared) (u : Value), BindsTo s fd ⟨[u], []⟩ [(x, u)]) ∧
      (∀ (H : Hp) (a : Addr) (ns : List Int), ns.length ≤ n → Only H → SqL K H a (ns.map V.int) → sp [.ref a] H (fun v _ => v = .bl true) allE) ∧ ∀ base : Heap, K.In base → base.Ns mainGlobals mg → FnG l.prog w K mg base k fa fd [x] sp) :
    PySem.W.WalkO q loose XP YP l.row.toRowW d [] (fun f vs => PySem.call f vs) := by
  refine Att.attach_call hn hdf fun w _ t mg mb fa _ _ _ _ a vs ns G Y _ _ _ hmg hobj hints hlen hg => ?_
  obtain ⟨K, fd, sp, KX, hb, hsp, hF⟩ := F w mg fa _ Y G.T.g hmg
  exact call_top KX G.T.g G.T.b G.T.builtins G.T.nolimit hg hobj hints (Nat.le_trans hlen hn2) hr hF hb fun H hO hS => hsp H a ns hlen hO hS
end Og
end
section
set_option maxHeartbeats 4000000
set_option autoImplicit false
/-! Og: a law's end. -/
namespace Og
open PySem PySem.Spec PyProof.Rows L2

/-- what the law's def is asked: True, from any short list of ints -/
def spLaw : Spec := fun ds m Q => ∃ ns : List Int, ds = [.lst (ns.map .int)] ∧ ns.length ≤ 63 ∧ (∀ a, m a = none) ∧ Q (.bl true) m
theorem law_end {P : Program} {w : World} {T : Tb} {rows : List Row} {gd : List D} {spec : (Nat → Addr) → Nat → Spec} {K : PySem.W.Frag} {h : Heap} {mg : Str → Option Value} {fa : Addr} (X : K.In h) (G : h.Ns mainGlobals mg) (c : He.SaysD (faOf T rows) (fnOf rows) K) (cp : SaysP (fpOf rows) K) (e : exOf T gd K = true)
    (tf : T.fs = rows.map fun r => (r.fk, r.n)) (hr : rows.all (rowB T) = true) (hb : ∀ r ∈ rows, BindLaw r) (hk : ∀ i ks pm, (i, ks, pm) ∈ T.kw → ∀ r, rows[i]? = some r → KwLaw r ks pm) (tr : P.given.tree = none)
    (law : ∀ cls : Nat → Addr, ∀ (i : Nat) (r : Row), rows[i]? = some r → ∀ ds m Q, ds.length = r.n → spec cls i ds m Q → body (Yn gd cls (spec cls) i) r.N.length r.b ds m Q)
    {j : Nat} {r : Row} (hj : rows[j]? = some r) (hfk : r.fk = .top "law") (hps : r.ps = (["script"] : List Str)) (hn : r.n = 1) (hm : mg "law" = some (.ref fa)) :
    ∃ fd : FuncData, (∀ (s : Shared) (u : Value), BindsTo s fd ⟨[u], []⟩ [("script", u)]) ∧ ∀ base : Heap, K.In base → base.Ns mainGlobals mg → FnG P w K mg base (40 + 2 * j + 2) fa fd ["script"] (spK K 1 (spec (clsOf T K) j)) := by
  have hmem := List.mem_of_getElem? hj
  have hrw := List.all_eq_true.mp hr r hmem
  unfold rowB at hrw
  simp only [Bool.and_eq_true, decide_eq_true_eq, List.isEmpty_iff] at hrw
  obtain ⟨⟨⟨⟨h1, h2⟩, h3⟩, h4⟩, h5⟩ := hrw
  obtain ⟨f0, fd, F', _, hf0⟩ := row_fun X G c cp hmem h1 h3 h4
  obtain rfl := hf0 (by rw [hfk]; rfl)
  have fact := c.facts (f := fkFa T r.fk) (List.mem_append_right _ (List.mem_append_left _ (List.mem_map.mpr ⟨r, hmem, rfl⟩)))
  rw [hfk] at fact h1
  have hg : mg "law" = some (.ref (He.ga K "law")) := He.glo_ok X G fact
  have ea : He.fAd K r.d.at_ = fa := by
    rw [h1]
    rw [hm] at hg
    have := Option.some.inj hg
    injection this with z
    exact z.symm
  rw [ea] at F'
  refine ⟨fd, fun s u => ?_, fun base KX GX => ?_⟩
  · have b := FunD.bindsA (ps := r.ps) F' (hb r hmem) s [u] (by rw [hps]; rfl)
    rw [hps] at b
    exact b
  · have M : Mx P w K mg base T rows gd (clsOf T K) := mx_ok KX GX c cp e tf hr hb hk tr
    have q := def_ok (mod_ok M (law (clsOf T K)) j) F' h5 (h2.trans hn) (sp := spec (clsOf T K) j) fun ds m Q hl => law (clsOf T K) j r hj ds m Q (by rw [hn]; exact hl)
    rw [hps] at q
    exact q
theorem law_sp {K : PySem.W.Frag} {H : Hp} {a : Addr} {ns : List Int} {sp : Spec} (hl : ns.length ≤ 63) (hS : SqL K H a (ns.map V.int)) (hs : ∀ ds m Q, spLaw ds m Q → sp ds m Q) : spK K 1 sp [.ref a] H (fun v _ => v = .bl true) allE := by
  refine ⟨rfl, [.lst (ns.map .int)], fun _ => none, fun d _ => d = .bl true, ?_, fun a c z => (nomatch z), hs _ _ _ ⟨ns, rfl, hl, fun _ => rfl, rfl⟩, fun d m' v H' ed rv _ _ => by subst ed; exact rv.bl⟩
  simp only [Reps, Rep]
  refine ⟨_, _, rfl, ⟨a, ns.map V.int, rfl, ?_, Reps.of_ints⟩, rfl⟩
  rcases hS with z | z
  · exact .inl ⟨rfl, z⟩
  · exact .inr z
end Og
end
section
set_option maxHeartbeats 4000000
set_option autoImplicit false
/-! Og: how terms are read, row by row. -/
namespace Og
open PySem L2
section
variable {gd : List D} {cls : Nat → Addr} {spec : Nat → Spec} {i j : Nat} {m : Mem} {Q : KD} {a b : Int} {p q : Bool} {x y : D} {ds es : List D}
theorem yn_fn : (Yn gd cls spec i).fn j = if j < i then spec j else fun _ _ _ => False := rfl
theorem yn_gd : (Yn gd cls spec i).gd = gd := rfl
theorem yn_cls : (Yn gd cls spec i).cls = cls := rfl
theorem op_add' : opD .add (.int a) (.int b) m Q = Q (.int (a + b)) m := rfl
theorem op_addT : opD .add (.tup ds) (.tup es) m Q = (ds.length + es.length ≤ 1000000 ∧ Q (.tup (ds ++ es)) m) := rfl
theorem op_sub' : opD .sub (.int a) (.int b) m Q = Q (.int (a - b)) m := rfl
theorem op_mul' : opD .mul (.int a) (.int b) m Q = (IntMulOk a b ∧ Q (.int (a * b)) m) := rfl
theorem op_fdiv' : opD .fdiv (.int a) (.int b) m Q = (b ≠ 0 ∧ Q (.int (a.fdiv b)) m) := rfl
theorem op_mod' : opD .mod (.int a) (.int b) m Q = (b ≠ 0 ∧ Q (.int (a.fmod b)) m) := rfl
theorem op_pow' : opD .pow (.int a) (.int b) m Q = (0 ≤ b ∧ (Builtin.Int.intBits a : Int) * b ≤ 2 ^ 27 ∧ Q (.int (a ^ b.toNat)) m) := rfl
theorem cm_lt : cmpD .lt (.int a) (.int b) m Q = Q (.bl (decide (a < b))) m := rfl
theorem cm_le : cmpD .le (.int a) (.int b) m Q = Q (.bl (decide (a ≤ b))) m := rfl
theorem cm_gt : cmpD .gt (.int a) (.int b) m Q = Q (.bl (decide (b < a))) m := rfl
theorem cm_ge : cmpD .ge (.int a) (.int b) m Q = Q (.bl (decide (b ≤ a))) m := rfl
theorem cm_eq : cmpD .eq (.int a) (.int b) m Q = Q (.bl (decide (a = b))) m := rfl
theorem cm_ne : cmpD .ne (.int a) (.int b) m Q = Q (.bl (!decide (a = b))) m := rfl
theorem cm_eqS {s t : Str} : cmpD .eq (.str s) (.str t) m Q = Q (.bl (decide (s = t))) m := rfl
theorem cm_neS {s t : Str} : cmpD .ne (.str s) (.str t) m Q = Q (.bl (!decide (s = t))) m := rfl
theorem onb {P : Bool → Prop} : onB (.bl p) P = P p := rfl
theorem oni {P : Int → Prop} : onI (.int a) P = P a := rfl
theorem ifb {A B : Prop} [Decidable A] {C E : Prop} : (if decide A = true then C else E) = if A then C else E := by simp only [decide_eq_true_eq]
theorem ix_tup : ixD m (.tup ds) (.int a) (fun d m' => Q d m') = (∃ d, atI ds a = some d ∧ Q d m) := by
  simp only [ixD, seqOf, Option.some.injEq, exists_and_left, exists_eq_left']
theorem atI_nat {α : Type} {xs : List α} {n : Nat} : atI xs (n : Int) = xs[n]? := by
  unfold atI ixN
  rw [if_pos (by omega)]
  by_cases h : (n : Int) < xs.length
  · rw [if_pos h]; rfl
  · rw [if_neg h, List.getElem?_eq_none (by omega)]; rfl
theorem at0 : atI (x :: ds) 0 = some x := atI_nat (n := 0)
theorem at1 : atI (x :: y :: ds) 1 = some y := atI_nat (n := 1)
theorem at2 {z : D} : atI (x :: y :: z :: ds) 2 = some z := atI_nat (n := 2)
end
section
variable {m : Mem} {Q : KD} {a b : Int} {p : Bool} {ds : List D}
theorem b1_abs : b1D .abs (.int a) m Q = Q (.int (a.natAbs : Int)) m := by
  show Q (.int (if a < 0 then -a else a)) m = _
  have : (if a < 0 then -a else a) = (a.natAbs : Int) := by split <;> omega
  rw [this]
theorem b1_int : b1D .int (.int a) m Q = Q (.int a) m := rfl
theorem b1_intB : b1D .int (.bl p) m Q = Q (.int (if p then 1 else 0)) m := rfl
theorem b1_lenT : b1D .len (.tup ds) m Q = Q (.int (ds.length : Nat)) m := by
  simp only [b1D, seqOf, Option.some.injEq, exists_eq_left']
theorem b1_lenL : b1D .len (.lst ds) m Q = Q (.int (ds.length : Nat)) m := by
  simp only [b1D, seqOf, Option.some.injEq, exists_eq_left']
theorem b1_tupL : b1D .tuple (.lst ds) m Q = Q (.tup ds) m := by
  simp only [b1D, seqOf, Option.some.injEq, exists_eq_left']
theorem b1_tupT : b1D .tuple (.tup ds) m Q = Q (.tup ds) m := by
  simp only [b1D, seqOf, Option.some.injEq, exists_eq_left']
theorem b1_all {bs : List Bool} (h : Q (.bl (bs.all id)) m) : b1D .all (.lst (bs.map D.bl)) m Q := ⟨bs, rfl, h⟩
theorem b2_min : b2D .min (.int a) (.int b) m Q = Q (.int (min a b)) m := by
  show Q (.int (if b < a then b else a)) m = _
  have : (if b < a then b else a) = min a b := by split <;> omega
  rw [this]
theorem b2_max : b2D .max (.int a) (.int b) m Q = Q (.int (max a b)) m := by
  show Q (.int (if b > a then b else a)) m = _
  have : (if b > a then b else a) = max a b := by split <;> omega
  rw [this]
theorem seq_tup : seqOf m (.tup ds) = some ds := rfl
theorem seq_lst : seqOf m (.lst ds) = some ds := rfl
theorem gd_tup : guard m (.tup ds) = fun _ => True := rfl
theorem gd_lst : guard m (.lst ds) = fun _ => True := rfl
theorem ix_lst : ixD m (.lst ds) (.int a) (fun d m' => Q d m') = (∃ d, atI ds a = some d ∧ Q d m) := by
  simp only [ixD, seqOf, Option.some.injEq, exists_and_left, exists_eq_left']
end
section
variable {m : Mem} {Q : KD} {a : Int} {ds : List D} {p : Addr}
theorem seq_ref (h : m p = some (.lst ds)) : seqOf m (.ref p) = some ds := by unfold seqOf; simp only; rw [h]
theorem ix_ref (h : m p = some (.lst ds)) : ixD m (.ref p) (.int a) (fun d m' => Q d m') = (∃ d, atI ds a = some d ∧ Q d m) := by
  simp only [ixD, seq_ref h, Option.some.injEq, exists_and_left, exists_eq_left']
theorem lst_ref (h : m p = some (.lst ds)) : lstOf m (.ref p) = some ds := by unfold lstOf; simp only; rw [h]
/-- a tuple or a list that stays -/
def sq (b : Bool) (ds : List D) : D := match b with
  | true => .tup ds
  | false => .lst ds
theorem seq_sq {b : Bool} : seqOf m (sq b ds) = some ds := by cases b <;> rfl
theorem gd_sq {b : Bool} : guard m (sq b ds) = fun _ => True := by cases b <;> rfl
theorem ix_sq {b : Bool} : ixD m (sq b ds) (.int a) (fun d m' => Q d m') = (∃ d, atI ds a = some d ∧ Q d m) := by
  cases b
  · exact ix_lst
  · exact ix_tup
theorem len_sq {b : Bool} : b1D .len (sq b ds) m Q = Q (.int (ds.length : Nat)) m := by
  cases b
  · exact b1_lenL
  · exact b1_lenT
theorem tup_ref (h : m p = some (.lst ds)) : b1D .tuple (.ref p) m Q = Q (.tup ds) m := by
  simp only [b1D, seq_ref h, Option.some.injEq, exists_eq_left']
theorem len_ref (h : m p = some (.lst ds)) : b1D .len (.ref p) m Q = Q (.int (ds.length : Nat)) m := by
  simp only [b1D, seq_ref h, Option.some.injEq, exists_eq_left']
theorem new_t : newL true ds m Q = ∀ p, m p = none → Q (.ref p) (put m p (.lst ds)) := rfl
theorem new_f : newL false ds m Q = Q (.lst ds) m := rfl
theorem wf_put {c : Cell} (w : WfM m) (h : m p = none) (hc : ∀ C dx fs, c ≠ .obj C dx fs) : WfM (put m p c) := fun a C dx fs e => by
  by_cases ea : a = p
  · rw [ea, put_same] at e
    exact absurd (Option.some.inj e) (hc _ _ _)
  · rw [put_ne ea] at e
    have q := w a C dx fs e
    rw [put_ne (ne_of_mem q h)]
    exact q
theorem ty_int : tyD m (.int a) = some "int" := rfl
theorem ty_tup : tyD m (.tup ds) = some "tuple" := rfl
theorem ty_str {x : Str} : tyD m (.str x) = some "str" := rfl
theorem isi_ii : isiB "int" "int" = true := by decide
theorem isi_ib : isiB "int" "bool" = false := by decide
theorem isi_tt : isiB "tuple" "tuple" = true := by decide
theorem isi_ss : isiB "str" "str" = true := by decide
end
section
variable {i : Nat} {d : D} {ds : List D} {t : Tg} {ts : List Tg} {r : Rho} {Kd : Rho → Prop}
theorem set_nm : setT (.nm i) d r Kd = Kd (r.set i (some d)) := by simp only [setT]
theorem set_tup : setT (.tup ts) (.tup ds) r Kd = setTs ts ds r Kd := by
  simp only [setT, D.tup.injEq, exists_eq_left']
theorem set_nil : setTs [] [] r Kd = Kd r := by simp only [setTs, true_and]
theorem set_cons : setTs (t :: ts) (d :: ds) r Kd = setT t d r fun r1 => setTs ts ds r1 Kd := by
  simp only [setTs, List.cons.injEq]
  apply propext
  constructor
  · rintro ⟨d', e, ⟨rfl, rfl⟩, h⟩; exact h
  · intro h; exact ⟨d, ds, ⟨rfl, rfl⟩, h⟩
end
theorem zip_map {ι : Type} {f g : ι → D} : ∀ {l : List ι}, zipD (l.map f) (l.map g) = l.map fun i => D.tup [f i, g i]
  | [] => rfl
  | x :: l => by simp only [List.map_cons, zipD, zip_map]
theorem enum_map {f : Nat → D} : ∀ {n k : Nat}, enumD k ((List.range' k n).map f) = (List.range' k n).map fun i => D.tup [.int (i : Nat), f i]
  | 0, _ => rfl
  | n + 1, k => by simp only [List.range'_succ, List.map_cons, enumD, enum_map]
/-- a comprehension whose element changes nothing -/
theorem lc_pure {ι : Type} {G : Mem → Prop} {T : D → Mem → (Option D → Mem → Prop) → Prop} {m0 : Mem} {Q : KD} (l : List ι) (g h : ι → D) (hG : ∀ p c, m0 p = none → G (put m0 p c)) (ht : ∀ i ∈ l, ∀ p c K, m0 p = none → K (some (h i)) (put m0 p c) → T (g i) (put m0 p c) K)
    (hQ : Q (.lst (l.map h)) m0) : ∀ p, m0 p = none → lcL G T p (l.map g) [] (put m0 p (.lst [])) (lcEnd false p Q) := by
  intro p hp
  have go : ∀ (l : List ι) (acc : List D), (∀ i ∈ l, ∀ p c K, m0 p = none → K (some (h i)) (put m0 p c) → T (g i) (put m0 p c) K) → Q (.lst (acc ++ l.map h)) m0 → lcL G T p (l.map g) acc (put m0 p (.lst acc)) (lcEnd false p Q) := by
    intro l
    induction l with
    | nil =>
      intro acc _ hq
      simp only [List.map_nil, lcL]
      refine ⟨hG p _ hp, put_same, ?_⟩
      show Q (.lst acc) (del (put m0 p (.lst acc)) p)
      rw [del_put hp]
      simpa using hq
    | cons i l ih =>
      intro acc ht hq
      simp only [List.map_cons, lcL]
      refine ⟨hG p _ hp, ht i List.mem_cons_self p _ _ hp ⟨put_same, ?_⟩⟩
      simp only [put_put]
      exact ih _ (fun j hj => ht j (List.mem_cons_of_mem _ hj)) (by simpa using hq)
  exact go l [] ht (by simpa using hQ)
/-- a loop over a list: I n ahead of turn n -/
theorem for_inv {ι : Type} {G : Mem → Prop} {T : D → Rho → Mem → Kt → Prop} (g : ι → D) (I : Nat → Rho → Mem → Prop) {K : Kt} : ∀ (l : List ι) (n : Nat) (r : Rho) (m : Mem), I n r m →
    (∀ i (hi : i < l.length) r m (N : Rho → Mem → Prop), I (n + i) r m → (∀ r' m', I (n + i + 1) r' m' → N r' m') → G m ∧ T (g l[i]) r m { nx := N, ct := N, bk := K.nx, rt := K.rt }) → (∀ r m, I (n + l.length) r m → G m ∧ K.nx r m) → forL G T (l.map g) r m K
  | [], n, r, m, h0, _, h2 => h2 r m h0
  | a :: l, n, r, m, h0, h1, h2 => by
    simp only [List.map_cons, forL]
    have key : ∀ r' m', I (n + 1) r' m' → forL G T (l.map g) r' m' K := fun r' m' h' => for_inv g I l (n + 1) r' m' h' (fun i hi r m N q kq => by
      have := h1 (i + 1) (by simp; omega) r m N (by rw [show n + (i + 1) = n + 1 + i from by omega]; exact q) (fun r' m' z => kq r' m' (by rw [show n + 1 + i + 1 = n + (i + 1) + 1 from by omega]; exact z))
      simpa using this) (fun r m q => h2 r m (by simp only [List.length_cons]; rw [show n + (l.length + 1) = n + 1 + l.length from by omega]; exact q))
    exact h1 0 (by simp) r m _ h0 key
/-- while: I with its measure -/
theorem while_inv {test : Rho → Mem → (Bool → Mem → Prop) → Prop} {body : Rho → Mem → Kt → Prop} {K : Kt} (I : Nat → Rho → Mem → Prop) {n : Nat} {r : Rho} {m : Mem} (h0 : I n r m)
    (step : ∀ n r m (N : Rho → Mem → Prop), I n r m → (∀ n' r' m', n' < n → I n' r' m' → N r' m') → test r m fun b m1 => if b = true then body r m1 { nx := N, ct := N, bk := K.nx, rt := K.rt } else K.nx r m1) : ∃ n, whL test body n r m K := by
  have go : ∀ fuel n r m, n < fuel → I n r m → whL test body fuel r m K := by
    intro fuel
    induction fuel with
    | zero => intro n r m h; omega
    | succ fuel ih =>
      intro n r m hn h
      simp only [whL]
      exact step n r m _ h fun n' r' m' h1 h2 => ih n' r' m' (by omega) h2
  exact ⟨n + 1, go (n + 1) n r m (by omega) h0⟩
theorem start0 : startD 0 [] = [] := rfl
end Og
end
section
set_option maxHeartbeats 4000000
set_option autoImplicit false
/-! Og: a body cut in two. -/
namespace Og
open PySem
theorem exs_app {X : Ctx} : ∀ {a b : List S} {r : Rho} {m : Mem} {K : Kt}, exs X (a ++ b) r m K = exs X a r m { K with nx := fun r1 m1 => exs X b r1 m1 K }
  | [], b, r, m, K => by simp only [List.nil_append, exs]
  | s :: a, b, r, m, K => by
    simp only [List.cons_append, exs]
    congr 1
    congr 1
    funext r1 m1
    exact exs_app
theorem exs_cut {X : Ctx} {c : List S} (n : Nat) {r : Rho} {m : Mem} {K : Kt} : exs X c r m K = exs X (c.take n) r m { K with nx := fun r1 m1 => exs X (c.drop n) r1 m1 K } := by
  rw [← exs_app, List.take_append_drop]
/-- where a body goes on -/
abbrev endK (Q : KD) : Kt := { nx := fun _ m1 => ∃ m2, SubO m2 m1 ∧ Q .non m2, rt := fun d m1 => ∃ m2, SubO m2 m1 ∧ Q d m2, bk := fun _ _ => False, ct := fun _ _ => False }
theorem body_cut {X : Ctx} {N : Nat} {c : List S} (n : Nat) {ds : List D} {m : Mem} {Q : KD} (h : exs X (c.take n) (startD N ds) m { endK Q with nx := fun r1 m1 => exs X (c.drop n) r1 m1 (endK Q) }) : body X N c ds m Q := by
  show exs X c (startD N ds) m (endK Q)
  rw [exs_cut n]
  exact h
/-- a comprehension whose element changes nothing, over a list's cell -/
theorem lc_pureW {ι : Type} {G : Mem → Prop} {T : D → Mem → (Option D → Mem → Prop) → Prop} {m0 : Mem} {Q : KD} (l : List ι) (g h : ι → D) (hG : ∀ p c, m0 p = none → G (put m0 p c)) (ht : ∀ i ∈ l, ∀ p acc K, m0 p = none → K (some (h i)) (put m0 p (.lst acc)) → T (g i) (put m0 p (.lst acc)) K)
    (hQ : Q (.lst (l.map h)) m0) : ∀ p, m0 p = none → lcL G T p (l.map g) [] (put m0 p (.lst [])) (lcEnd false p Q) := by
  intro p hp
  have go : ∀ (l : List ι) (acc : List D), (∀ i ∈ l, ∀ p acc K, m0 p = none → K (some (h i)) (put m0 p (.lst acc)) → T (g i) (put m0 p (.lst acc)) K) → Q (.lst (acc ++ l.map h)) m0 → lcL G T p (l.map g) acc (put m0 p (.lst acc)) (lcEnd false p Q) := by
    intro l
    induction l with
    | nil =>
      intro acc _ hq
      simp only [List.map_nil, lcL]
      refine ⟨hG p _ hp, put_same, ?_⟩
      show Q (.lst acc) (del (put m0 p (.lst acc)) p)
      rw [del_put hp]
      simpa using hq
    | cons i l ih =>
      intro acc ht hq
      simp only [List.map_cons, lcL]
      refine ⟨hG p _ hp, ht i List.mem_cons_self p _ _ hp ⟨put_same, ?_⟩⟩
      simp only [put_put]
      exact ih _ (fun j hj => ht j (List.mem_cons_of_mem _ hj)) (by simpa using hq)
  exact go l [] ht (by simpa using hQ)
end Og
end
section
set_option maxHeartbeats 4000000
set_option autoImplicit false
/-! Og: rows of numbers. -/
namespace Og
open PySem
def Sys.row (S : Sys) (w : Nat) (v : Nat → S.F) : D := .tup ((List.range w).map fun i => S.d (v i))
def Sys.mat (S : Sys) (n w : Nat) (M : Nat → Nat → S.F) : D := .tup ((List.range n).map fun i => S.row w (M i))
def Sys.Sm (S : Sys) (x : S.F) : Prop := S.ht x ≤ 2 ^ 26
def sm {S : Sys} : Nat → (Nat → S.F) → S.F
  | 0, _ => 0
  | n + 1, f => sm n f + f n
section
variable {S : Sys} {w n : Nat} {v u : Nat → S.F}
theorem row_congr (h : ∀ i, i < w → v i = u i) : S.row w v = S.row w u := by
  unfold Sys.row
  congr 1
  exact List.map_congr_left fun i hi => by rw [h i (List.mem_range.mp hi)]
theorem sm_congr : ∀ {n : Nat} {v u : Nat → S.F}, (∀ i, i < n → v i = u i) → sm n v = sm n u
  | 0, _, _, _ => rfl
  | n + 1, v, u, h => by
    simp only [sm]
    rw [sm_congr fun i hi => h i (by omega), h n (by omega)]
theorem row_get {m : Mem} {Q : KD} {i : Nat} (h : i < w) : ixD m (S.row w v) (.int (i : Nat)) Q = Q (S.d (v i)) m := by
  have e := ix_tup (m := m) (Q := Q) (a := (i : Int)) (ds := (List.range w).map fun i => S.d (v i))
  rw [show S.row w v = .tup ((List.range w).map fun i => S.d (v i)) from rfl]
  refine e.trans ?_
  rw [atI_nat, List.getElem?_map, List.getElem?_range h]
  simp
theorem mat_get {m : Mem} {Q : KD} {M : Nat → Nat → S.F} {i : Nat} (h : i < n) : ixD m (S.mat n w M) (.int (i : Nat)) Q = Q (S.row w (M i)) m := by
  have e := ix_tup (m := m) (Q := Q) (a := (i : Int)) (ds := (List.range n).map fun i => S.row w (M i))
  rw [show S.mat n w M = .tup ((List.range n).map fun i => S.row w (M i)) from rfl]
  refine e.trans ?_
  rw [atI_nat, List.getElem?_map, List.getElem?_range h]
  simp
theorem mat_get0 {m : Mem} {Q : KD} {M : Nat → Nat → S.F} (h : 1 ≤ n) : ixD m (S.mat n w M) (.int 0) Q = Q (S.row w (M 0)) m := mat_get (i := 0) h
theorem row_len {m : Mem} {Q : KD} : b1D .len (S.row w v) m Q = Q (.int (w : Nat)) m := by
  rw [show S.row w v = .tup ((List.range w).map fun i => S.d (v i)) from rfl, b1_lenT]
  simp
theorem mat_len {m : Mem} {Q : KD} {M : Nat → Nat → S.F} : b1D .len (S.mat n w M) m Q = Q (.int (n : Nat)) m := by
  rw [show S.mat n w M = .tup ((List.range n).map fun i => S.row w (M i)) from rfl, b1_lenT]
  simp
theorem d_num {m : Mem} {Q : KD} {x : S.F} : ixD m (S.d x) (.int 0) Q = Q (.int (S.num x)) m := by
  have e := ix_tup (m := m) (Q := Q) (a := 0) (ds := [.int (S.num x), .int (S.den x)])
  rw [show S.d x = .tup [.int (S.num x), .int (S.den x)] from rfl]
  refine e.trans ?_
  rw [at0]; simp
theorem Sm.two {x y : S.F} (h : S.Sm x) (h' : S.Sm y) : S.ht x + S.ht y ≤ 2 ^ 27 := by
  unfold Sys.Sm at h h'
  omega
theorem seq_row {m : Mem} : seqOf m (S.row w v) = some ((List.range w).map fun i => S.d (v i)) := rfl
theorem seq_mat {m : Mem} {M : Nat → Nat → S.F} : seqOf m (S.mat n w M) = some ((List.range n).map fun i => S.row w (M i)) := rfl
theorem gd_row {m : Mem} : guard m (S.row w v) = fun _ => True := rfl
theorem gd_mat {m : Mem} {M : Nat → Nat → S.F} : guard m (S.mat n w M) = fun _ => True := rfl
theorem d0 : S.d (0 : S.F) = .tup [.int 0, .int 1] := by
  unfold Sys.d; rw [S.num0, S.den0]
theorem d1 : S.d (1 : S.F) = .tup [.int 1, .int 1] := by
  unfold Sys.d; rw [S.num1, S.den1]
theorem tup_row {m : Mem} {Q : KD} : b1D .tuple (.lst ((List.range w).map fun i => S.d (v i))) m Q = Q (S.row w v) m := b1_tupL
end
theorem at_range {g : Nat → D} {n i : Nat} (h : i < n) : L2.atI ((List.range n).map g) (i : Int) = some (g i) := by
  rw [atI_nat, List.getElem?_map, List.getElem?_range h]; rfl
theorem at_range0 {g : Nat → D} {n : Nat} (h : 1 ≤ n) : L2.atI ((List.range n).map g) 0 = some (g 0) := at_range (i := 0) h
theorem rgD_nat {w : Nat} : rgD 0 (w : Int) = (List.range w).map fun i => D.int ((i : Nat) : Int) := by
  unfold rgD
  rw [show ((w : Int) - 0).toNat = w from by omega]
  exact List.map_congr_left fun i _ => by rw [Int.zero_add]
theorem wf_lst {m : Mem} {p : PySem.Addr} {l : List D} (w : WfM m) (h : m p = none) : WfM (put m p (.lst l)) := wf_put w h fun _ _ _ z => (nomatch z)
theorem subo_lst {m : Mem} {p : PySem.Addr} {c : Cell} (w : WfM m) (h : m p = none) : SubO m (put m p c) := SubO.fresh w h
end Og
end
section
set_option maxHeartbeats 4000000
set_option autoImplicit false
/-! Og: rows compared. -/
namespace Og
open PySem
section
variable {S : Sys} {w n : Nat} {v u : Nat → S.F} {m : Mem} {Q : KD} {x y : S.F}
theorem flats_map {ι : Type} {k : Nat} {g : ι → D} (h : ∀ i, (g i).flat k = true) : ∀ l : List ι, flats k (l.map g) = true
  | [] => rfl
  | i :: l => by simp only [List.map_cons, flats, h i, flats_map h l, Bool.and_self]
theorem d_flat {k : Nat} : (S.d x).flat (k + 1) = true := rfl
theorem row_flat {k : Nat} : (S.row w v).flat (k + 2) = true := flats_map (fun _ => d_flat) _
theorem eqv_d : PyData.eqv (S.d x).toP (S.d y).toP = decide (x = y) := by
  unfold Sys.d
  simp only [D.toP, toPs, PyData.eqv, PyData.eqvAll, Bool.and_true]
  by_cases e : x = y
  · subst e; simp
  · rw [decide_eq_false e]
    by_cases h1 : S.num x = S.num y
    · have h2 : S.den x ≠ S.den y := fun z => e (S.inj _ _ h1 z)
      simp [h1, h2]
    · simp [h1]
theorem eq_d : cmpD .eq (S.d x) (S.d y) m Q = Q (.bl (decide (x = y))) m := by
  show (D.flat 40 (S.d x) = true ∧ D.flat 40 (S.d y) = true ∧ Q (.bl (PyData.eqv (S.d x).toP (S.d y).toP)) m) = _
  rw [d_flat, d_flat, eqv_d]
  simp
theorem ne_d : cmpD .ne (S.d x) (S.d y) m Q = Q (.bl (!decide (x = y))) m := by
  show (D.flat 40 (S.d x) = true ∧ D.flat 40 (S.d y) = true ∧ Q (.bl (!PyData.eqv (S.d x).toP (S.d y).toP)) m) = _
  rw [d_flat, d_flat, eqv_d]
  simp
theorem eq_row (h : ∀ i, i < w → v i = u i) (q : Q (.bl true) m) : cmpD .eq (S.row w v) (S.row w u) m Q := by
  rw [row_congr h]
  show D.flat 40 (S.row w u) = true ∧ D.flat 40 (S.row w u) = true ∧ Q (.bl (PyData.eqv (S.row w u).toP (S.row w u).toP)) m
  refine ⟨row_flat, row_flat, ?_⟩
  rw [SeqAt.eqv_refl _ (flat_lay 40 _ row_flat).1]
  exact q
end
theorem all_const {ι : Type} (l : List ι) {m : Mem} {Q : KD} (q : Q (.bl true) m) : b1D .all (.lst (l.map fun _ => D.bl true)) m Q := by
  rw [show l.map (fun _ => D.bl true) = (l.map fun _ => true).map D.bl from by rw [List.map_map]; rfl]
  refine b1_all ?_
  have e : (l.map fun _ => true).all id = true := List.all_eq_true.mpr fun x hx => by
    obtain ⟨_, _, rfl⟩ := List.mem_map.mp hx
    rfl
  rw [e]; exact q
end Og
end
section
set_option maxHeartbeats 4000000
set_option autoImplicit false
/-! Og: drawing. -/
namespace Og
open PySem
theorem len_seq {m : Mem} {v : D} {l : List D} {Q : KD} (h : seqOf m v = some l) : b1D .len v m Q = Q (.int (l.length : Nat)) m := by
  cases v with
  | tup ds => cases h; exact b1_lenT
  | lst ds => cases h; exact b1_lenL
  | ref p =>
    show (∃ ds, seqOf m (.ref p) = some ds ∧ Q (.int (ds.length : Nat)) m) = _
    simp only [h, Option.some.injEq, exists_eq_left']
  | _ => cases h
theorem ix_seq {m : Mem} {v : D} {l : List D} {a : Int} {Q : KD} (h : seqOf m v = some l) : ixD m v (.int a) Q = ∃ d, L2.atI l a = some d ∧ Q d m := by
  cases v with
  | tup ds => cases h; exact ix_tup
  | lst ds => cases h; exact ix_lst
  | ref p =>
    show (∃ ds d, seqOf m (.ref p) = some ds ∧ L2.atI ds a = some d ∧ Q d m) = _
    simp only [h, Option.some.injEq, exists_and_left, exists_eq_left']
  | _ => cases h
theorem put_comm {m : Mem} {p q : Addr} {c c' : Cell} (h : p ≠ q) : put (put m p c) q c' = put (put m q c') p c := by
  funext a
  unfold put
  by_cases h1 : a = q
  · subst h1; simp [Ne.symm h]
  · by_cases h2 : a = p
    · subst h2; simp [h]
    · simp [h1, h2]
/-- one list's cell written -/
def Chg (m m' : Mem) (p : Addr) : Prop := ∃ l, m' = put m p (.lst l)
def Pot (L : Nat) (m : Mem) (p : Addr) : Prop := ∃ a b c : Int, m p = some (.lst [.int a, .int b, .int c]) ∧ 0 ≤ a ∧ a < 2 ^ 1100 ∧ 0 ≤ b ∧ b < 2 ^ 62 ∧ 0 ≤ c ∧ c ≤ (L : Int)
section
variable {m m' m2 : Mem} {p q : Addr} {L K : Nat} {l : List D}
theorem Chg.trans (h : Chg m m' p) (h' : Chg m' m2 p) : Chg m m2 p := by
  obtain ⟨l, rfl⟩ := h
  obtain ⟨l', rfl⟩ := h'
  exact ⟨l', by rw [put_put]⟩
theorem Pot.at_ (h : Pot L m p) : ∃ l, m p = some (.lst l) := let ⟨_, _, _, e, _⟩ := h; ⟨_, e⟩
theorem Pot.refl (h : Pot L m p) : Chg m m p := by
  obtain ⟨l, e⟩ := h.at_
  exact ⟨l, (put_self e).symm⟩
theorem Pot.mono (h : Pot L m p) (hl : L ≤ K) : Pot K m p := by
  obtain ⟨a, b, c, e, h1, h2, h3, h4, h5, h6⟩ := h
  exact ⟨a, b, c, e, h1, h2, h3, h4, h5, by omega⟩
theorem Pot.ne (h : Pot L m p) (hq : m q = none) : p ≠ q := fun z => by
  obtain ⟨l, e⟩ := h.at_
  rw [z, hq] at e; cases e
theorem Pot.put (h : Pot L m p) (hn : p ≠ q) {c : Cell} : Pot L (put m q c) p := by
  obtain ⟨a, b, c', e, r⟩ := h
  exact ⟨a, b, c', by rw [put_ne hn]; exact e, r⟩
theorem Chg.none (h : Chg m m' p) (hn : p ≠ q) (hq : m q = none) : m' q = none := by
  obtain ⟨l, rfl⟩ := h
  rw [put_ne (Ne.symm hn)]; exact hq
theorem Chg.other (h : Chg m m' p) (hn : p ≠ q) : m' q = m q := by
  obtain ⟨l, rfl⟩ := h
  exact put_ne (Ne.symm hn)
/-- beside a list's cell -/
theorem Chg.beside {c : Cell} (hn : p ≠ q) (h : Chg (Og.put m q c) m2 p) : ∃ m', m2 = Og.put m' q c ∧ Chg m m' p := by
  obtain ⟨l, rfl⟩ := h
  exact ⟨_, put_comm (Ne.symm hn), l, rfl⟩
theorem Pot.back {c : Cell} (hn : p ≠ q) (h : Pot L (Og.put m q c) p) : Pot L m p := by
  obtain ⟨a, b, c', e, r⟩ := h
  exact ⟨a, b, c', by rw [put_ne hn] at e; exact e, r⟩
theorem wf_chg (w : WfM m) (h : Chg m m' p) (hp : ∃ l, m p = some (.lst l)) : WfM m' := by
  obtain ⟨l, rfl⟩ := h
  obtain ⟨l0, e0⟩ := hp
  intro a C dx fs e
  by_cases ea : a = p
  · rw [ea, put_same] at e; cases e
  · rw [put_ne ea] at e
    have q := w a C dx fs e
    have : dx ≠ p := fun z => by rw [z, e0] at q; cases q
    rw [put_ne this]; exact q
end
/-- a comprehension that draws -/
theorem lc_inv {ι : Type} {G : Mem → Prop} {T : D → Mem → (Option D → Mem → Prop) → Prop} {q : Addr} {Q : List D → Mem → Prop} (g : ι → D) (I : Nat → List D → Mem → Prop) : ∀ (l : List ι) (n : Nat) (acc : List D) (m : Mem), I n acc m →
    (∀ i (hi : i < l.length) acc m (K : Option D → Mem → Prop), I (n + i) acc m → (∀ e m1, m1 q = some (.lst acc) → I (n + i + 1) (acc ++ [e]) (put m1 q (.lst (acc ++ [e]))) → K (some e) m1) → G m ∧ T (g l[i]) m K) →
    (∀ acc m, I (n + l.length) acc m → G m ∧ m q = some (.lst acc) ∧ Q acc m) → lcL G T q (l.map g) acc m Q
  | [], n, acc, m, h0, _, h2 => h2 acc m h0
  | a :: l, n, acc, m, h0, h1, h2 => by
    simp only [List.map_cons, lcL]
    refine h1 0 (by simp) acc m _ h0 fun e m1 hq hI => ⟨hq, ?_⟩
    exact lc_inv g I l (n + 1) _ _ hI (fun i hi acc m K hi' hK => by
      have := h1 (i + 1) (by simp; omega) acc m K (by rw [show n + (i + 1) = n + 1 + i from by omega]; exact hi') (fun e m1 a b => hK e m1 a (by rw [show n + 1 + i + 1 = n + (i + 1) + 1 from by omega]; exact b))
      simpa using this) (fun acc m h => h2 acc m (by simp only [List.length_cons]; rw [show n + (l.length + 1) = n + 1 + l.length from by omega]; exact h))
theorem rat_cd {t b : Int} {x : Rat} (h2' : x * (b : Rat) = (t : Rat)) (hb : b = 1 ∨ b = 2 ∨ b = 3 ∨ b = 7) : Fr.cd 42 (t.natAbs * 42) x := by
  rcases hb with rfl | rfl | rfl | rfl
  · exact ⟨t * 42, by rw [Int.natAbs_mul]; simp, by rw [Rat.intCast_mul, ← h2']; grind⟩
  · exact ⟨t * 21, by rw [Int.natAbs_mul]; simp; omega, by rw [Rat.intCast_mul, ← h2']; grind⟩
  · exact ⟨t * 14, by rw [Int.natAbs_mul]; simp; omega, by rw [Rat.intCast_mul, ← h2']; grind⟩
  · exact ⟨t * 6, by rw [Int.natAbs_mul]; simp; omega, by rw [Rat.intCast_mul, ← h2']; grind⟩
theorem cd_quo (k : Ks) : ∀ {t b : Int} {x : (sys k).F}, (sys k).quo t b x → b = 1 ∨ b = 2 ∨ b = 3 ∨ b = 7 → (sys k).cd 42 (t.natAbs * 42) x :=
  sys_cases (P := fun S => ∀ {t b : Int} {x : S.F}, S.quo t b x → b = 1 ∨ b = 2 ∨ b = 3 ∨ b = 7 → S.cd 42 (t.natAbs * 42) x) (fun h hb => rat_cd h.2 hb) (fun p _ h => fun _ _ => trivial) k
end Og
end
section
set_option maxHeartbeats 4000000
set_option autoImplicit false
namespace Og.Lk00
open PySem Og
theorem mod_in {b : Int} {p : Nat} (h : 0 < p) : ∃ c : Nat, b % (p : Int) = (c : Int) ∧ c < p := by
  have h1 := Int.emod_nonneg b (show (p : Int) ≠ 0 by omega)
  have h2 := Int.emod_lt_of_pos b (show (0 : Int) < p by omega)
  exact ⟨(b % (p : Int)).toNat, by omega, by omega⟩
def s_take : Spec := fun ds m Q => ∃ (p : Addr) (n L : Nat), ds = [.ref p, .int (n : Int)] ∧ 1 ≤ n ∧ n ≤ 2 ^ 40 ∧ Pot L m p ∧ L ≤ 1000000 ∧ ∀ (i : Nat) (m' : Mem), i < n → Chg m m' p → Pot (L + 1) m' p → Q (.int (i : Int)) m'
theorem natmod {a : Int} {n : Nat} (h : 0 ≤ a) (hn : 1 ≤ n) : ∃ i : Nat, a.fmod (n : Int) = (i : Int) ∧ i < n := by
  rw [fmod_p]
  exact mod_in (by omega)
theorem law_take {X : Ctx} (ds : List D) (m : Mem) (Q : KD) (h : s_take ds m Q) : body X 5 c0 ds m Q := by
  obtain ⟨p, n, L, rfl, n1, n2, ⟨a, b, c, hp, ha0, ha1, hb0, hb1, hc0, hc1⟩, hL, q⟩ := h
  simp only [c0, ix_ref hp, body, exs, ex, ev, evs, evB, evO, evT, evI, startD, List.map_cons, List.map_nil, List.length_cons, List.length_nil, Nat.reduceAdd, Nat.reduceSub, List.replicate, List.cons_append, List.nil_append, List.append_nil, List.getElem?_cons_zero, List.getElem?_cons_succ, Option.some.injEq, exists_and_left, exists_eq_left', exists_eq_left, exists_eq, ix_tup, at0, at1, at2, op_add', op_sub', op_mul', op_fdiv', op_mod', op_pow', op_addT, cm_lt, cm_le, cm_gt, cm_ge, cm_eq, cm_ne, cm_eqS, cm_neS, onb, oni, yn_gd, yn_cls, Nat.reduceLT, if_true, if_false, true_and, and_true, List.set_cons_zero, List.set_cons_succ, set_nm, set_tup, set_nil, set_cons, ifb, b1_abs, b1_int, b1_intB, b1_lenT, b1_lenL, b1_tupL, b1_tupT, b2_min, b2_max, seq_tup, seq_lst, seq_sq, gd_sq, ix_sq, len_sq, new_t, new_f, gd_tup, gd_lst, ix_lst, ty_int, ty_tup, ty_str, isi_ii, isi_ib, isi_tt, isi_ss, reduceIte, Bool.true_eq_false, Bool.false_eq_true, Bool.not_true, Bool.not_false,  List.zip_cons_cons, List.zip_nil_right, List.foldl_cons, List.foldl_nil, ne_eq, not_false_eq_true, not_true_eq_false, Bool.not_eq_true', decide_eq_false_iff_not, decide_eq_true_eq, reduceCtorEq, List.cons.injEq, and_self, D.ref.injEq, Cell.obj.injEq, D.int.injEq]
  by_cases ha : 0 < a
  · rw [if_pos ha]
    obtain ⟨i, ei, hi⟩ := natmod ha0 n1
    have df : a.fdiv (n : Int) = a / (n : Int) := Int.fdiv_eq_ediv_of_nonneg _ (by omega)
    have hd0 : 0 ≤ a / (n : Int) := Int.ediv_nonneg ha0 (by omega)
    have hd1 : a / (n : Int) ≤ a := Int.ediv_le_self _ ha0
    refine ⟨by omega, by omega, _, hp, 0, rfl, ?_⟩
    rw [ei, df]
    exact ⟨_, SubO.refl, q i _ hi ⟨_, rfl⟩ ⟨_, b, c, put_same, hd0, by omega, hb0, hb1, hc0, by omega⟩⟩
  · rw [if_neg ha]
    refine ⟨_, hp, 2, rfl, ?_⟩
    have hm : put m p (.lst ([D.int a, D.int b, D.int c].set 2 (D.int (c + 1)))) p = some (.lst [.int a, .int b, .int (c + 1)]) := put_same
    generalize hmm : put m p (.lst ([D.int a, D.int b, D.int c].set 2 (D.int (c + 1)))) = m1 at hm ⊢
    have hch : Chg m m1 p := ⟨_, hmm.symm⟩
    simp only [ix_ref hm, body, exs, ex, ev, evs, evB, evO, evT, evI, startD, List.map_cons, List.map_nil, List.length_cons, List.length_nil, Nat.reduceAdd, Nat.reduceSub, List.replicate, List.cons_append, List.nil_append, List.append_nil, List.getElem?_cons_zero, List.getElem?_cons_succ, Option.some.injEq, exists_and_left, exists_eq_left', exists_eq_left, exists_eq, ix_tup, at0, at1, at2, op_add', op_sub', op_mul', op_fdiv', op_mod', op_pow', op_addT, cm_lt, cm_le, cm_gt, cm_ge, cm_eq, cm_ne, cm_eqS, cm_neS, onb, oni, yn_gd, yn_cls, Nat.reduceLT, if_true, if_false, true_and, and_true, List.set_cons_zero, List.set_cons_succ, set_nm, set_tup, set_nil, set_cons, ifb, b1_abs, b1_int, b1_intB, b1_lenT, b1_lenL, b1_tupL, b1_tupT, b2_min, b2_max, seq_tup, seq_lst, seq_sq, gd_sq, ix_sq, len_sq, new_t, new_f, gd_tup, gd_lst, ix_lst, ty_int, ty_tup, ty_str, isi_ii, isi_ib, isi_tt, isi_ss, reduceIte, Bool.true_eq_false, Bool.false_eq_true, Bool.not_true, Bool.not_false,  List.zip_cons_cons, List.zip_nil_right, List.foldl_cons, List.foldl_nil, ne_eq, not_false_eq_true, not_true_eq_false, Bool.not_eq_true', decide_eq_false_iff_not, decide_eq_true_eq, reduceCtorEq, List.cons.injEq, and_self, D.ref.injEq, Cell.obj.injEq, D.int.injEq]
    obtain ⟨j, ej, hj⟩ := natmod (a := c + 1) (n := 5) (by omega) (by omega)
    rw [show (5 : Int) = ((5 : Nat) : Int) from rfl, ej]
    have hpr : ∃ pr : Nat, L2.atI [D.int 2147483647, D.int 2147483629, D.int 2147483587, D.int 2147483579, D.int 2147483563] (j : Int) = some (.int (pr : Int)) ∧ 1 ≤ pr ∧ pr < 2 ^ 31 := by
      rcases (by omega : j = 0 ∨ j = 1 ∨ j = 2 ∨ j = 3 ∨ j = 4) with rfl | rfl | rfl | rfl | rfl
      · exact ⟨2147483647, rfl, by decide, by decide⟩
      · exact ⟨2147483629, rfl, by decide, by decide⟩
      · exact ⟨2147483587, rfl, by decide, by decide⟩
      · exact ⟨2147483579, rfl, by decide, by decide⟩
      · exact ⟨2147483563, rfl, by decide, by decide⟩
    obtain ⟨pr, epr, pr1, pr2⟩ := hpr
    simp only [epr, body, exs, ex, ev, evs, evB, evO, evT, evI, startD, List.map_cons, List.map_nil, List.length_cons, List.length_nil, Nat.reduceAdd, Nat.reduceSub, List.replicate, List.cons_append, List.nil_append, List.append_nil, List.getElem?_cons_zero, List.getElem?_cons_succ, Option.some.injEq, exists_and_left, exists_eq_left', exists_eq_left, exists_eq, ix_tup, at0, at1, at2, op_add', op_sub', op_mul', op_fdiv', op_mod', op_pow', op_addT, cm_lt, cm_le, cm_gt, cm_ge, cm_eq, cm_ne, cm_eqS, cm_neS, onb, oni, yn_gd, yn_cls, Nat.reduceLT, if_true, if_false, true_and, and_true, List.set_cons_zero, List.set_cons_succ, set_nm, set_tup, set_nil, set_cons, ifb, b1_abs, b1_int, b1_intB, b1_lenT, b1_lenL, b1_tupL, b1_tupT, b2_min, b2_max, seq_tup, seq_lst, seq_sq, gd_sq, ix_sq, len_sq, new_t, new_f, gd_tup, gd_lst, ix_lst, ty_int, ty_tup, ty_str, isi_ii, isi_ib, isi_tt, isi_ss, reduceIte, Bool.true_eq_false, Bool.false_eq_true, Bool.not_true, Bool.not_false,  List.zip_cons_cons, List.zip_nil_right, List.foldl_cons, List.foldl_nil, ne_eq, not_false_eq_true, not_true_eq_false, Bool.not_eq_true', decide_eq_false_iff_not, decide_eq_true_eq, reduceCtorEq, List.cons.injEq, and_self, D.ref.injEq, Cell.obj.injEq, D.int.injEq]
    have sq1 : (97127 * (c + 1)).natAbs < 2 ^ 64 := by omega
    have bnd : 0 ≤ 97127 * (c + 1) * (c + 1) ∧ 97127 * (c + 1) * (c + 1) ≤ 2 ^ 62 := by
      have h1 : 0 ≤ 97127 * (c + 1) := by omega
      have h2 : 97127 * (c + 1) ≤ 2 ^ 40 := by omega
      have h3 : (c + 1) ≤ 2 ^ 21 := by omega
      refine ⟨Int.mul_nonneg h1 (by omega), ?_⟩
      have := Int.mul_le_mul h2 h3 (by omega) (by decide)
      exact Int.le_trans this (by decide)
    have v0 : 0 ≤ b + 97127 * (c + 1) * (c + 1) + 521 := by omega
    have v1 : b + 97127 * (c + 1) * (c + 1) + 521 < 2 ^ 64 := by omega
    generalize b + 97127 * (c + 1) * (c + 1) + 521 = v at v0 v1 ⊢
    have vb : Builtin.Int.intBits v ≤ 64 := bits_le (i := v) (n := 64) (by omega)
    have p0 : 0 ≤ v ^ Int.toNat 3 := Int.pow_nonneg v0
    obtain ⟨e1, he1, he2⟩ := natmod p0 pr1
    refine ⟨by omega, by omega, mulOk_small (by decide), mulOk_small sq1, by omega, by omega, by omega, by omega, ?_⟩
    rw [he1]
    obtain ⟨e2, he3, he4⟩ := natmod (a := (e1 : Int)) (n := 10037) (by omega) (by omega)
    rw [show (10037 : Int) = ((10037 : Nat) : Int) from rfl, he3]
    simp only [ix_ref hm, body, exs, ex, ev, evs, evB, evO, evT, evI, startD, List.map_cons, List.map_nil, List.length_cons, List.length_nil, Nat.reduceAdd, Nat.reduceSub, List.replicate, List.cons_append, List.nil_append, List.append_nil, List.getElem?_cons_zero, List.getElem?_cons_succ, Option.some.injEq, exists_and_left, exists_eq_left', exists_eq_left, exists_eq, ix_tup, at0, at1, at2, op_add', op_sub', op_mul', op_fdiv', op_mod', op_pow', op_addT, cm_lt, cm_le, cm_gt, cm_ge, cm_eq, cm_ne, cm_eqS, cm_neS, onb, oni, yn_gd, yn_cls, Nat.reduceLT, if_true, if_false, true_and, and_true, List.set_cons_zero, List.set_cons_succ, set_nm, set_tup, set_nil, set_cons, ifb, b1_abs, b1_int, b1_intB, b1_lenT, b1_lenL, b1_tupL, b1_tupT, b2_min, b2_max, seq_tup, seq_lst, seq_sq, gd_sq, ix_sq, len_sq, new_t, new_f, gd_tup, gd_lst, ix_lst, ty_int, ty_tup, ty_str, isi_ii, isi_ib, isi_tt, isi_ss, reduceIte, Bool.true_eq_false, Bool.false_eq_true, Bool.not_true, Bool.not_false,  List.zip_cons_cons, List.zip_nil_right, List.foldl_cons, List.foldl_nil, ne_eq, not_false_eq_true, not_true_eq_false, Bool.not_eq_true', decide_eq_false_iff_not, decide_eq_true_eq, reduceCtorEq, List.cons.injEq, and_self, D.ref.injEq, Cell.obj.injEq, D.int.injEq]
    have w0 : 0 ≤ (e2 : Int) + 101 * (c + 1) := by omega
    have w1 : ((e2 : Int) + 101 * (c + 1)).natAbs < 2 ^ 64 := by omega
    generalize (e2 : Int) + 101 * (c + 1) = u at w0 w1 ⊢
    have u0 : 0 ≤ (e1 : Int) * u := Int.mul_nonneg (by omega) w0
    obtain ⟨e3, he5, he6⟩ := natmod (n := 2305843009213693907) u0 (by omega)
    refine ⟨mulOk_small (by decide), mulOk_small (by omega), by omega, by omega, by omega, ?_⟩
    rw [show (2305843009213693907 : Int) = ((2305843009213693907 : Nat) : Int) from rfl, he5]
    have f0 : 0 ≤ (e3 : Int).fdiv 167 := by rw [Int.fdiv_eq_ediv_of_nonneg _ (by omega)]; omega
    obtain ⟨e4, he7, he8⟩ := natmod f0 n1
    rw [he7]
    exact ⟨m1, SubO.refl, q e4 m1 he8 hch ⟨a, b, c + 1, hm, ha0, ha1, hb0, hb1, by omega, by omega⟩⟩
def s_of : Spec := fun ds m Q => ∃ (p : Addr) (L : Nat) (v : D) (l : List D), ds = [.ref p, v] ∧ Pot L m p ∧ L ≤ 1000000 ∧ 1 ≤ l.length ∧ l.length ≤ 1000000 ∧ (∀ m', Chg m m' p → seqOf m' v = some l) ∧ ∀ (d : D) (m' : Mem), d ∈ l → Chg m m' p → Pot (L + 1) m' p → Q d m'
theorem law_of {X : Ctx} (ht : X.fn 0 = s_take) (ds : List D) (m : Mem) (Q : KD) (h : s_of ds m Q) : body X 2 c1 ds m Q := by
  obtain ⟨p, L, v, l, rfl, hp, hL, l1, l2, hv, q⟩ := h
  simp only [c1, ht, len_seq (hv m hp.refl), body, exs, ex, ev, evs, evB, evO, evT, evI, startD, List.map_cons, List.map_nil, List.length_cons, List.length_nil, Nat.reduceAdd, Nat.reduceSub, List.replicate, List.cons_append, List.nil_append, List.append_nil, List.getElem?_cons_zero, List.getElem?_cons_succ, Option.some.injEq, exists_and_left, exists_eq_left', exists_eq_left, exists_eq, ix_tup, at0, at1, at2, op_add', op_sub', op_mul', op_fdiv', op_mod', op_pow', op_addT, cm_lt, cm_le, cm_gt, cm_ge, cm_eq, cm_ne, cm_eqS, cm_neS, onb, oni, yn_gd, yn_cls, Nat.reduceLT, if_true, if_false, true_and, and_true, List.set_cons_zero, List.set_cons_succ, set_nm, set_tup, set_nil, set_cons, ifb, b1_abs, b1_int, b1_intB, b1_lenT, b1_lenL, b1_tupL, b1_tupT, b2_min, b2_max, seq_tup, seq_lst, seq_sq, gd_sq, ix_sq, len_sq, new_t, new_f, gd_tup, gd_lst, ix_lst, ty_int, ty_tup, ty_str, isi_ii, isi_ib, isi_tt, isi_ss, reduceIte, Bool.true_eq_false, Bool.false_eq_true, Bool.not_true, Bool.not_false,  List.zip_cons_cons, List.zip_nil_right, List.foldl_cons, List.foldl_nil, ne_eq, not_false_eq_true, not_true_eq_false, Bool.not_eq_true', decide_eq_false_iff_not, decide_eq_true_eq, reduceCtorEq, List.cons.injEq, and_self, D.ref.injEq, Cell.obj.injEq, D.int.injEq]
  refine ⟨p, l.length, L, rfl, l1, by omega, hp, hL, fun i m' hi hc hp' => ?_⟩
  show ixD m' v (.int (i : Int)) _
  rw [ix_seq (hv m' hc), atI_nat, List.getElem?_eq_getElem hi]
  try simp only [body, exs, ex, ev, evs, evB, evO, evT, evI, startD, List.map_cons, List.map_nil, List.length_cons, List.length_nil, Nat.reduceAdd, Nat.reduceSub, List.replicate, List.cons_append, List.nil_append, List.append_nil, List.getElem?_cons_zero, List.getElem?_cons_succ, Option.some.injEq, exists_and_left, exists_eq_left', exists_eq_left, exists_eq, ix_tup, at0, at1, at2, op_add', op_sub', op_mul', op_fdiv', op_mod', op_pow', op_addT, cm_lt, cm_le, cm_gt, cm_ge, cm_eq, cm_ne, cm_eqS, cm_neS, onb, oni, yn_gd, yn_cls, Nat.reduceLT, if_true, if_false, true_and, and_true, List.set_cons_zero, List.set_cons_succ, set_nm, set_tup, set_nil, set_cons, ifb, b1_abs, b1_int, b1_intB, b1_lenT, b1_lenL, b1_tupL, b1_tupT, b2_min, b2_max, seq_tup, seq_lst, seq_sq, gd_sq, ix_sq, len_sq, new_t, new_f, gd_tup, gd_lst, ix_lst, ty_int, ty_tup, ty_str, isi_ii, isi_ib, isi_tt, isi_ss, reduceIte, Bool.true_eq_false, Bool.false_eq_true, Bool.not_true, Bool.not_false,  List.zip_cons_cons, List.zip_nil_right, List.foldl_cons, List.foldl_nil, ne_eq, not_false_eq_true, not_true_eq_false, Bool.not_eq_true', decide_eq_false_iff_not, decide_eq_true_eq, reduceCtorEq, List.cons.injEq, and_self, D.ref.injEq, Cell.obj.injEq, D.int.injEq]
  exact ⟨m', SubO.refl, q _ m' (List.getElem_mem hi) hc hp'⟩
def s_pot : Spec := fun ds m Q => ∃ (ns : List Int) (i : Nat), ds = [.lst (ns.map D.int), .int (i : Int)] ∧ i < 10 ∧ ∀ p m', (∃ l, m' = put m p (.lst l)) → m p = none → Pot 0 m' p → Q (.ref p) m'
def s_cells : Spec := fun ds m Q => ∃ (ns : List Int), ds = [.lst (ns.map D.int), .int 2] ∧ ns.length ≤ 63 ∧ ∀ n : Nat, n ≤ 2 → Q (.lst ((List.range n).map fun i => D.int ((i : Nat) : Int))) m
theorem law_cells {X : Ctx} (ds : List D) (m : Mem) (Q : KD) (h : s_cells ds m Q) : body X 2 c40 ds m Q := by
  obtain ⟨ns, rfl, hl, q⟩ := h
  simp only [c40, body, exs, ex, ev, evs, evB, evO, evT, evI, startD, List.map_cons, List.map_nil, List.length_cons, List.length_nil, Nat.reduceAdd, Nat.reduceSub, List.replicate, List.cons_append, List.nil_append, List.append_nil, List.getElem?_cons_zero, List.getElem?_cons_succ, Option.some.injEq, exists_and_left, exists_eq_left', exists_eq_left, exists_eq, ix_tup, at0, at1, at2, op_add', op_sub', op_mul', op_fdiv', op_mod', op_pow', op_addT, cm_lt, cm_le, cm_gt, cm_ge, cm_eq, cm_ne, cm_eqS, cm_neS, onb, oni, yn_gd, yn_cls, Nat.reduceLT, if_true, if_false, true_and, and_true, List.set_cons_zero, List.set_cons_succ, set_nm, set_tup, set_nil, set_cons, ifb, b1_abs, b1_int, b1_intB, b1_lenT, b1_lenL, b1_tupL, b1_tupT, b2_min, b2_max, seq_tup, seq_lst, seq_sq, gd_sq, ix_sq, len_sq, new_t, new_f, gd_tup, gd_lst, ix_lst, ty_int, ty_tup, ty_str, isi_ii, isi_ib, isi_tt, isi_ss, reduceIte, Bool.true_eq_false, Bool.false_eq_true, Bool.not_true, Bool.not_false,  List.zip_cons_cons, List.zip_nil_right, List.foldl_cons, List.foldl_nil, ne_eq, not_false_eq_true, not_true_eq_false, Bool.not_eq_true', decide_eq_false_iff_not, decide_eq_true_eq, reduceCtorEq, List.cons.injEq, and_self, D.ref.injEq, Cell.obj.injEq, D.int.injEq]
  have e : max (1 : Int) (min 2 (((ns.map D.int).length : Nat) : Int)) = (((max 1 (min 2 ns.length) : Nat)) : Int) := by
    rw [List.length_map]; omega
  rw [e, rgD_nat]
  refine ⟨⟨by decide, by decide⟩, ⟨by omega, by omega⟩, by omega, m, SubO.refl, q _ (by omega)⟩
theorem law_pot {X : Ctx} (ds : List D) (m : Mem) (Q : KD) (h : s_pot ds m Q) : body X 5 c39 ds m Q := by
  obtain ⟨ns, i, rfl, hi, q⟩ := h
  simp only [c39, body, exs, ex, ev, evs, evB, evO, evT, evI, startD, List.map_cons, List.map_nil, List.length_cons, List.length_nil, Nat.reduceAdd, Nat.reduceSub, List.replicate, List.cons_append, List.nil_append, List.append_nil, List.getElem?_cons_zero, List.getElem?_cons_succ, Option.some.injEq, exists_and_left, exists_eq_left', exists_eq_left, exists_eq, ix_tup, at0, at1, at2, op_add', op_sub', op_mul', op_fdiv', op_mod', op_pow', op_addT, cm_lt, cm_le, cm_gt, cm_ge, cm_eq, cm_ne, cm_eqS, cm_neS, onb, oni, yn_gd, yn_cls, Nat.reduceLT, if_true, if_false, true_and, and_true, List.set_cons_zero, List.set_cons_succ, set_nm, set_tup, set_nil, set_cons, ifb, b1_abs, b1_int, b1_intB, b1_lenT, b1_lenL, b1_tupL, b1_tupT, b2_min, b2_max, seq_tup, seq_lst, seq_sq, gd_sq, ix_sq, len_sq, new_t, new_f, gd_tup, gd_lst, ix_lst, ty_int, ty_tup, ty_str, isi_ii, isi_ib, isi_tt, isi_ss, reduceIte, Bool.true_eq_false, Bool.false_eq_true, Bool.not_true, Bool.not_false,  List.zip_cons_cons, List.zip_nil_right, List.foldl_cons, List.foldl_nil, ne_eq, not_false_eq_true, not_true_eq_false, Bool.not_eq_true', decide_eq_false_iff_not, decide_eq_true_eq, reduceCtorEq, List.cons.injEq, and_self, D.ref.injEq, Cell.obj.injEq, D.int.injEq]
  by_cases h : (i : Int) < ((ns.map D.int).length : Nat)
  · rw [if_pos h]
    have hl : i < ns.length := by rw [List.length_map] at h; omega
    have hc : L2.atI (ns.map D.int) (i : Int) = some (.int ns[i]) := by
      rw [atI_nat, List.getElem?_map, List.getElem?_eq_getElem hl]; rfl
    generalize ns[i] = c at hc
    simp only [hc, body, exs, ex, ev, evs, evB, evO, evT, evI, startD, List.map_cons, List.map_nil, List.length_cons, List.length_nil, Nat.reduceAdd, Nat.reduceSub, List.replicate, List.cons_append, List.nil_append, List.append_nil, List.getElem?_cons_zero, List.getElem?_cons_succ, Option.some.injEq, exists_and_left, exists_eq_left', exists_eq_left, exists_eq, ix_tup, at0, at1, at2, op_add', op_sub', op_mul', op_fdiv', op_mod', op_pow', op_addT, cm_lt, cm_le, cm_gt, cm_ge, cm_eq, cm_ne, cm_eqS, cm_neS, onb, oni, yn_gd, yn_cls, Nat.reduceLT, if_true, if_false, true_and, and_true, List.set_cons_zero, List.set_cons_succ, set_nm, set_tup, set_nil, set_cons, ifb, b1_abs, b1_int, b1_intB, b1_lenT, b1_lenL, b1_tupL, b1_tupT, b2_min, b2_max, seq_tup, seq_lst, seq_sq, gd_sq, ix_sq, len_sq, new_t, new_f, gd_tup, gd_lst, ix_lst, ty_int, ty_tup, ty_str, isi_ii, isi_ib, isi_tt, isi_ss, reduceIte, Bool.true_eq_false, Bool.false_eq_true, Bool.not_true, Bool.not_false,  List.zip_cons_cons, List.zip_nil_right, List.foldl_cons, List.foldl_nil, ne_eq, not_false_eq_true, not_true_eq_false, Bool.not_eq_true', decide_eq_false_iff_not, decide_eq_true_eq, reduceCtorEq, List.cons.injEq, and_self, D.ref.injEq, Cell.obj.injEq, D.int.injEq]
    have i2 : (7043 * (i : Int)).natAbs < 2 ^ 64 := by omega
    obtain ⟨B, hB⟩ : ∃ B : Nat, (((10 : Int) ^ Int.toNat 60) ^ Int.toNat 5) = (B : Int) ∧ 1 ≤ B ∧ B < 2 ^ 1100 := ⟨(10 ^ 60) ^ 5, rfl, by decide, by decide⟩
    obtain ⟨o, ho1, ho2⟩ := natmod (a := ((c.natAbs : Nat) : Int)) (n := B) (by omega) hB.2.1
    obtain ⟨s, hs1, hs2⟩ := mod_in (b := c) (p := 2305843009213693951) (by decide)
    rw [hB.1, ho1]
    rw [show (2305843009213693951 : Int) = ((2305843009213693951 : Nat) : Int) from rfl, fmod_p, hs1]
    have w0 : 0 ≤ (s : Int) * 70111 + 7043 * (i : Int) * (i : Int) + 331 := by
      have := Int.mul_nonneg (show 0 ≤ 7043 * (i : Int) by omega) (show 0 ≤ (i : Int) by omega)
      omega
    obtain ⟨u, hu1, hu2⟩ := natmod (n := 2305843009213693921) w0 (by decide)
    have sm : ∀ b : Bool, ((if b = true then (1 : Int) else 0)).natAbs < 2 ^ 64 := fun b => by cases b <;> decide
    refine ⟨by decide, by decide, by decide, by decide, by have := hB.2.1; omega, by decide, by decide, mulOk_smallR (by split <;> decide), by decide, mulOk_smallR (by decide), mulOk_small (by decide), mulOk_small i2, by decide, by decide, fun p hp => ?_⟩
    rw [show (2305843009213693921 : Int) = ((2305843009213693921 : Nat) : Int) from rfl, hu1]
    refine ⟨_, SubO.refl, q p _ ⟨_, rfl⟩ hp ⟨_, _, _, put_same, ?_, ?_, by omega, by omega, by omega, by omega⟩⟩
    · split <;> omega
    · have := hB.2.2
      split <;> omega
  · rw [if_neg h]
    have hsl : ∃ z : Int, ∀ (R : KD), R (.int z) m → slD false m (.lst (ns.map D.int)) none (some 1) fun x m1 => b1D .sum x m1 R := ⟨_, fun R hR => ⟨_, rfl, (ns.take 1), by
      show some (cutD (ns.map D.int) none (some 1)) = _
      congr 1
      cases ns <;> rfl, hR⟩⟩
    obtain ⟨z, hz⟩ := hsl
    refine hz _ ?_
    try simp only [body, exs, ex, ev, evs, evB, evO, evT, evI, startD, List.map_cons, List.map_nil, List.length_cons, List.length_nil, Nat.reduceAdd, Nat.reduceSub, List.replicate, List.cons_append, List.nil_append, List.append_nil, List.getElem?_cons_zero, List.getElem?_cons_succ, Option.some.injEq, exists_and_left, exists_eq_left', exists_eq_left, exists_eq, ix_tup, at0, at1, at2, op_add', op_sub', op_mul', op_fdiv', op_mod', op_pow', op_addT, cm_lt, cm_le, cm_gt, cm_ge, cm_eq, cm_ne, cm_eqS, cm_neS, onb, oni, yn_gd, yn_cls, Nat.reduceLT, if_true, if_false, true_and, and_true, List.set_cons_zero, List.set_cons_succ, set_nm, set_tup, set_nil, set_cons, ifb, b1_abs, b1_int, b1_intB, b1_lenT, b1_lenL, b1_tupL, b1_tupT, b2_min, b2_max, seq_tup, seq_lst, seq_sq, gd_sq, ix_sq, len_sq, new_t, new_f, gd_tup, gd_lst, ix_lst, ty_int, ty_tup, ty_str, isi_ii, isi_ib, isi_tt, isi_ss, reduceIte, Bool.true_eq_false, Bool.false_eq_true, Bool.not_true, Bool.not_false,  List.zip_cons_cons, List.zip_nil_right, List.foldl_cons, List.foldl_nil, ne_eq, not_false_eq_true, not_true_eq_false, Bool.not_eq_true', decide_eq_false_iff_not, decide_eq_true_eq, reduceCtorEq, List.cons.injEq, and_self, D.ref.injEq, Cell.obj.injEq, D.int.injEq]
    refine ⟨by decide, mulOk_small (by decide), ?_⟩
    generalize z.fmod 1000003 + 1019 * (i : Int) + 433 = c
    have i2 : (7043 * (i : Int)).natAbs < 2 ^ 64 := by omega
    obtain ⟨B, hB⟩ : ∃ B : Nat, (((10 : Int) ^ Int.toNat 60) ^ Int.toNat 5) = (B : Int) ∧ 1 ≤ B ∧ B < 2 ^ 1100 := ⟨(10 ^ 60) ^ 5, rfl, by decide, by decide⟩
    obtain ⟨o, ho1, ho2⟩ := natmod (a := ((c.natAbs : Nat) : Int)) (n := B) (by omega) hB.2.1
    obtain ⟨s, hs1, hs2⟩ := mod_in (b := c) (p := 2305843009213693951) (by decide)
    rw [hB.1, ho1]
    rw [show (2305843009213693951 : Int) = ((2305843009213693951 : Nat) : Int) from rfl, fmod_p, hs1]
    have w0 : 0 ≤ (s : Int) * 70111 + 7043 * (i : Int) * (i : Int) + 331 := by
      have := Int.mul_nonneg (show 0 ≤ 7043 * (i : Int) by omega) (show 0 ≤ (i : Int) by omega)
      omega
    obtain ⟨u, hu1, hu2⟩ := natmod (n := 2305843009213693921) w0 (by decide)
    have sm : ∀ b : Bool, ((if b = true then (1 : Int) else 0)).natAbs < 2 ^ 64 := fun b => by cases b <;> decide
    refine ⟨by decide, by decide, by decide, by decide, by have := hB.2.1; omega, by decide, by decide, mulOk_smallR (by split <;> decide), by decide, mulOk_smallR (by decide), mulOk_small (by decide), mulOk_small i2, by decide, by decide, fun p hp => ?_⟩
    rw [show (2305843009213693921 : Int) = ((2305843009213693921 : Nat) : Int) from rfl, hu1]
    refine ⟨_, SubO.refl, q p _ ⟨_, rfl⟩ hp ⟨_, _, _, put_same, ?_, ?_, by omega, by omega, by omega, by omega⟩⟩
    · split <;> omega
    · have := hB.2.2
      split <;> omega
end Og.Lk00
end
section
set_option maxHeartbeats 4000000
set_option autoImplicit false
/-! Og: the state, with cells laid beside; no slotted objects anywhere. -/
namespace Og
open PySem
def Cell.isObj : Cell → Prop
  | .obj _ _ _ => True
  | _ => False
theorem oL {l : List D} : ¬(Cell.lst l).isObj := fun z => z
theorem oK {ks : List L2.Key} {l : List D} : ¬(Cell.dK ks l).isObj := fun z => z
theorem oI {C : Addr} {ns : List Str} {l : List D} : ¬(Cell.ins C ns l).isObj := fun z => z
theorem perm_erase {α : Type} : ∀ (l : List α) (i : Nat) (h : i < l.length), (l[i] :: l.eraseIdx i).Perm l
  | a :: l, 0, _ => by simp
  | a :: l, i + 1, h => by
    simp only [List.getElem_cons_succ, List.eraseIdx_cons_succ]
    exact (List.Perm.swap a _ _).trans ((perm_erase l i (by simpa using h)).cons a)
def NoObj (m : Mem) : Prop := ∀ a c, m a = some c → ¬c.isObj
/-- all cells stay but the one at p -/
structure Ux (m M : Mem) (p : Addr) : Prop where
  keep : ∀ a c, a ≠ p → m a = some c → M a = some c
  no : NoObj M
  pt : ∃ l, m p = some (.lst l)
/-- all cells stay -/
structure Kx (m M : Mem) : Prop where
  keep : ∀ a c, m a = some c → M a = some c
  no : NoObj M
section
variable {m M M' : Mem} {p s : Addr} {L K : Nat} {c : Cell}
theorem NoObj.put (h : NoObj M) (hc : ¬c.isObj) : NoObj (Og.put M s c) := fun a c' e => by
  by_cases ea : a = s
  · rw [ea, put_same] at e; cases e; exact hc
  · rw [put_ne ea] at e; exact h a c' e
theorem NoObj.del (h : NoObj M) : NoObj (Og.del M s) := fun a c' e => h a c' (Sub.del a _ e)
theorem NoObj.subO (h : NoObj M) (hs : Sub m M) : SubO m M := ⟨hs, fun a C dx fs e => absurd True.intro (h a _ (hs a _ e))⟩
theorem Ux.refl (h : Pot L m p) (no : NoObj m) : Ux m m p := ⟨fun _ _ _ e => e, no, h.at_⟩
theorem Ux.trans (u : Ux m M p) (v : Ux M M' p) : Ux m M' p := ⟨fun a c' ne e => v.keep a c' ne (u.keep a c' ne e), v.no, u.pt⟩
theorem Ux.at_ (u : Ux m M p) (h : m s = some c) (hn : s ≠ p) : M s = some c := u.keep s c hn h
theorem Ux.new (u : Ux m M p) (hs : M s = none) (hc : ¬c.isObj) : Ux m (put M s c) p := ⟨fun a c' ne e => by
  have q := u.keep a c' ne e
  rw [put_ne (ne_of_mem q hs)]; exact q, u.no.put hc, u.pt⟩
theorem Ux.set (u : Ux m M p) (hs : m s = none) (hc : ¬c.isObj) : Ux m (put M s c) p := ⟨fun a c' ne e => by
  rw [put_ne (ne_of_mem e hs)]; exact u.keep a c' ne e, u.no.put hc, u.pt⟩
theorem Ux.del (u : Ux m M p) (hs : m s = none) : Ux m (Og.del M s) p := ⟨fun a c' ne e => by
  unfold Og.del; rw [if_neg (ne_of_mem e hs)]; exact u.keep a c' ne e, u.no.del, u.pt⟩
theorem Ux.chg (u : Ux m M p) (h : Chg M M' p) : Ux m M' p := by
  obtain ⟨l, rfl⟩ := h
  exact ⟨fun a c' ne e => by rw [put_ne ne]; exact u.keep a c' ne e, u.no.put (fun z => z), u.pt⟩
theorem Ux.ne (u : Ux m M p) (h : m s = none) : p ≠ s := fun z => by
  obtain ⟨l, e⟩ := u.pt
  rw [z, h] at e; cases e
theorem Ux.none (u : Ux m M p) (h : M s = none) (hn : s ≠ p) : m s = none := by
  cases q : m s with
  | none => rfl
  | some c => rw [u.keep s c hn q] at h; cases h
theorem Pot.del (h : Pot L M p) (hn : p ≠ s) : Pot L (Og.del M s) p := by
  obtain ⟨a, b, c', e, r⟩ := h
  exact ⟨a, b, c', by unfold Og.del; rw [if_neg hn]; exact e, r⟩
theorem Pot.ne' (h : Pot L M p) (hs : ∀ l, M s ≠ some (.lst l)) : p ≠ s := fun z => by
  obtain ⟨l, e⟩ := h.at_
  exact hs l (by rw [← z]; exact e)
theorem del_ne {a : Addr} (h : a ≠ s) : Og.del M s a = M a := by unfold Og.del; rw [if_neg h]
theorem Kx.refl (no : NoObj m) : Kx m m := ⟨fun _ _ e => e, no⟩
theorem Kx.trans (u : Kx m M) (v : Kx M M') : Kx m M' := ⟨fun a c e => v.keep a c (u.keep a c e), v.no⟩
theorem Kx.new (u : Kx m M) (hs : M s = none) (hc : ¬c.isObj) : Kx m (put M s c) := ⟨fun a c' e => by
  have q := u.keep a c' e
  rw [put_ne (ne_of_mem q hs)]; exact q, u.no.put hc⟩
theorem Kx.set (u : Kx m M) (hs : m s = none) (hc : ¬c.isObj) : Kx m (put M s c) := ⟨fun a c' e => by
  rw [put_ne (ne_of_mem e hs)]; exact u.keep a c' e, u.no.put hc⟩
theorem Kx.del (u : Kx m M) (hs : m s = none) : Kx m (Og.del M s) := ⟨fun a c' e => by
  unfold Og.del; rw [if_neg (ne_of_mem e hs)]; exact u.keep a c' e, u.no.del⟩
theorem Ux.kx (u : Ux m M p) (v : Kx M M') : Ux m M' p := ⟨fun a c ne e => v.keep a c (u.keep a c ne e), v.no, u.pt⟩
theorem Pot.kx (h : Pot L M p) (v : Kx M M') : Pot L M' p := by
  obtain ⟨a, b, c', e, r⟩ := h
  exact ⟨a, b, c', v.keep _ _ e, r⟩
theorem Kx.none (u : Kx m M) (h : M s = none) : m s = none := by
  cases q : m s with
  | none => rfl
  | some c => rw [u.keep s c q] at h; cases h
end
/-- a comprehension that draws, k at most each time -/
theorem lc_draw {ι : Type} {T : D → Mem → (Option D → Mem → Prop) → Prop} {m0 : Mem} {p : Addr} {L k : Nat} {Q : KD} (l : List ι) (g : ι → D) (P : ι → D → Prop) (hp : Pot L m0 p) (no : NoObj m0)
    (ht : ∀ i (hi : i < l.length) (M : Mem) (K : Option D → Mem → Prop), Ux m0 M p → Pot (L + k * i) M p → (∀ (e : D) (M' : Mem), Ux M M' p → Pot (L + k * i + k) M' p → P l[i] e → K (some e) M') → T (g l[i]) M K)
    (hQ : ∀ (es : List D) (M : Mem), Paired P l es → Ux m0 M p → Pot (L + k * l.length) M p → Q (.lst es) M) : ∀ s, m0 s = none → lcL (fun _ => True) T s (l.map g) [] (put m0 s (.lst [])) (lcEnd false s Q) := by
  intro s hs
  have np := hp.ne hs
  refine lc_inv (Q := lcEnd false s Q) g (fun i acc M => Paired P (l.take i) acc ∧ Ux m0 M p ∧ Pot (L + k * i) M p ∧ M s = some (.lst acc)) l 0 [] _ ⟨.nil, (Ux.refl hp no).new hs (fun z => z), by simpa using hp.put np, put_same⟩ ?_ ?_
  · rintro i hi acc M K ⟨h1, h2, h3, h4⟩ hK
    simp only [Nat.zero_add] at h1 h3 hK ⊢
    refine ⟨trivial, ht i hi M K h2 h3 fun e M' u' p' pe => ?_⟩
    have e4 : M' s = some (.lst acc) := u'.keep s _ (Ne.symm np) h4
    refine hK e M' e4 ⟨?_, (h2.trans u').set hs (fun z => z), ?_, put_same⟩
    · rw [List.take_succ_eq_append_getElem hi]
      exact h1.snoc pe
    · rw [show k * (i + 1) = k * i + k from Nat.mul_succ _ _, ← Nat.add_assoc]
      exact p'.put np
  · rintro acc M ⟨h1, h2, h3, h4⟩
    simp only [Nat.zero_add, List.take_length] at h1 h3
    exact ⟨trivial, h4, hQ acc (del M s) h1 (h2.del hs) (h3.del np)⟩
/-- a comprehension that draws nothing, with cells laid beside -/
theorem lc_keep {ι : Type} {T : D → Mem → (Option D → Mem → Prop) → Prop} {m0 : Mem} {Q : KD} (l : List ι) (g : ι → D) (P : ι → D → Prop) (no : NoObj m0)
    (ht : ∀ i (hi : i < l.length) (M : Mem) (K : Option D → Mem → Prop), Kx m0 M → (∀ (e : D) (M' : Mem), Kx M M' → P l[i] e → K (some e) M') → T (g l[i]) M K)
    (hQ : ∀ (es : List D) (M : Mem), Paired P l es → Kx m0 M → Q (.lst es) M) : ∀ s, m0 s = none → lcL (fun _ => True) T s (l.map g) [] (put m0 s (.lst [])) (lcEnd false s Q) := by
  intro s hs
  refine lc_inv (Q := lcEnd false s Q) g (fun i acc M => Paired P (l.take i) acc ∧ Kx m0 M ∧ M s = some (.lst acc)) l 0 [] _ ⟨.nil, (Kx.refl no).new hs (fun z => z), put_same⟩ ?_ ?_
  · rintro i hi acc M K ⟨h1, h2, h4⟩ hK
    simp only [Nat.zero_add] at h1 hK ⊢
    refine ⟨trivial, ht i hi M K h2 fun e M' u' pe => ?_⟩
    have e4 : M' s = some (.lst acc) := u'.keep s _ h4
    refine hK e M' e4 ⟨?_, (h2.trans u').set hs (fun z => z), put_same⟩
    rw [List.take_succ_eq_append_getElem hi]
    exact h1.snoc pe
  · rintro acc M ⟨h1, h2, h4⟩
    simp only [Nat.zero_add, List.take_length] at h1
    exact ⟨trivial, h4, hQ acc (del M s) h1 (h2.del hs)⟩
end Og
end
section
set_option maxHeartbeats 4000000
set_option autoImplicit false
/-! Og: books, plain: numbers' texts, names. -/
namespace Og
open PySem TL PySem.NumText
theorem tl_str (s : String) : tl (Str.ofString s) = s.toList.map Char.toNat := by
  exact PyProof.Rows.signs_ofString s
def numS (i : Int) : Str := Str.ofString (toString i)
def numT (i : Int) : List Nat := if i < 0 then 45 :: numL i.natAbs else numL i.natAbs
theorem tl_numS (i : Int) : tl (numS i) = numT i := by
  unfold numS numT
  cases i with
  | ofNat n =>
    rw [if_neg (by simp)]
    exact tl_num n
  | negSucc n =>
    rw [if_pos (by omega), tl_str]
    have e : (toString (Int.negSucc n) : String) = "-" ++ toString (n + 1) := rfl
    rw [e, String.toList_append, List.map_append]
    have q := tl_num (n + 1)
    rw [tl_str] at q
    have e2 : (toString (((n + 1 : Nat)) : Int) : String) = toString (n + 1) := rfl
    rw [e2] at q
    rw [q]
    rfl
theorem numT_free {i : Int} {s : Nat} (h : s < 45 ∨ 57 < s) : s ∉ numT i := by
  unfold numT
  split
  · intro z
    rcases List.mem_cons.mp z with z | z
    · omega
    · exact numL_free (by omega) z
  · exact numL_free (by omega)
theorem numT_len {i : Int} (h : i.natAbs ≤ 10 ^ 12) : (numT i).length ≤ 14 := by
  have q : (numL i.natAbs).length ≤ 13 := numL_len (by decide) (by omega)
  unfold numT
  split <;> simp <;> omega
theorem numS_len {i : Int} (h : i.natAbs ≤ 10 ^ 12) : (numS i).length ≤ 14 := by
  rw [len_tl, tl_numS]; exact numT_len h
theorem numS_int {i : Int} (h : i.natAbs ≤ 10 ^ 12) : PySem.intText? (numS i) = some i := by
  have l : (numL i.natAbs).length ≤ 13 := numL_len (by decide) (by omega)
  by_cases hi : i < 0
  · have e : (numS i).cps.toList = 45 :: numL i.natAbs := by
      have := tl_numS i
      unfold numT at this
      rw [if_pos hi] at this
      exact this
    rw [intText_neg e (numL_digits _) (numL_ne _) (by have := numS_len h; omega), numL_val]
    congr 1; omega
  · have e : (numS i).cps.toList = numL i.natAbs := by
      have := tl_numS i
      unfold numT at this
      rw [if_neg hi] at this
      exact this
    rw [intText_digits (by rw [e]; exact numL_digits _) (by rw [e]; exact numL_ne _) (by have := numS_len h; omega), e, numL_val]
    congr 1; omega
theorem numL_head {n : Nat} (h : 0 < n) : ∃ c r, numL n = c :: r ∧ 49 ≤ c ∧ c ≤ 57 := by
  induction n using Nat.strongRecOn with
  | _ n ih =>
    by_cases h10 : n < 10
    · rw [numL_lt h10]; exact ⟨_, _, rfl, by omega, by omega⟩
    · rw [numL_step (by omega)]
      obtain ⟨c, r, e, h1, h2⟩ := ih (n / 10) (by omega) (by omega)
      rw [e]
      exact ⟨c, r ++ [48 + n % 10], rfl, h1, h2⟩
def inT (c : Nat) (x : Str) : Bool := !(Builtin.Str.occurrences x ⟨#[c]⟩ 0 x.length 1).isEmpty
theorem fig_kit : ((List.range 128).all fun c => !(decide (48 ≤ c) && decide (c ≤ 57)) || inT c "0123456789") = true := by decide +kernel
theorem fig_in {c : Nat} (h1 : 48 ≤ c) (h2 : c ≤ 57) : inT c "0123456789" = true := by
  have := List.all_eq_true.mp fig_kit c (by simp; omega)
  simpa [h1, h2] using this
theorem let_kit : ((List.range 128).all fun c => !(decide (97 ≤ c) && decide (c ≤ 122)) || inT c "abcdefghijklmnopqrstuvwxyz") = true := by decide +kernel
theorem let_in {c : Nat} (h1 : 97 ≤ c) (h2 : c ≤ 122) : inT c "abcdefghijklmnopqrstuvwxyz" = true := by
  have := List.all_eq_true.mp let_kit c (by simp; omega)
  simpa [h1, h2] using this

/-! names -/
structure Nm (x : Str) : Prop where
  l1 : 1 ≤ x.length
  l4 : x.length ≤ 4
  let_ : ∀ c ∈ tl x, 97 ≤ c ∧ c ≤ 122
def sgn (c : Nat) : Str := ⟨#[c]⟩
theorem joinL_nil : ∀ l : List (List Nat), joinL [] l = l.flatten
  | [] => rfl
  | [p] => by simp [joinL]
  | p :: q :: r => by
    show p ++ ([] ++ joinL [] (q :: r)) = _
    rw [joinL_nil (q :: r)]; simp
theorem tl_joinE (l : List Nat) : tl (Txt.join (Str.ofString "") (l.map sgn)) = l := by
  rw [join_eq, tl_join, show tl (Str.ofString "") = [] from rfl, joinL_nil]
  induction l with
  | nil => rfl
  | cons c r ih => simpa [sgn, tl] using ih
theorem letters_cps : (Str.ofString "abcdefghijklmnopqrstuvwxyz").cps.toList = List.range' 97 26 := by decide +kernel
theorem letters_eq : (Str.ofString "abcdefghijklmnopqrstuvwxyz").cps.toList.map (fun c => D.str ⟨#[c]⟩) = (List.range' 97 26).map fun c => D.str (sgn c) := by rw [letters_cps]; rfl
end Og
end
section
set_option maxHeartbeats 4000000
set_option autoImplicit false
/-! Og: books, plain: what an own book is. -/
namespace Og
open PySem TL L2
structure Bk where
  by_ : Int
  marks : List Str
  wts : List Int
  kinds : List Str
  tabs : List (List (List Int))
def primes : List Int := [2, 3, 5, 7, 11, 13, 17, 19, 23, 29, 31, 37, 41, 43, 47, 53, 59, 61, 67, 71, 73, 79, 83, 89, 97]
def OkBy (b : Int) : Prop := b = 0 ∨ b ∈ primes
def OkE (b x : Int) : Prop := if b = 0 then x.natAbs ≤ 10 ^ 12 else 0 ≤ x ∧ x < b
def OkW (b x : Int) : Prop := x ≠ 0 ∧ OkE b x
def OkT (b : Int) (n : Nat) (t : List (List Int)) : Prop := t.length = n ∧ ∀ r ∈ t, r.length = n ∧ ∀ x ∈ r, OkE b x
structure NmsOk (l : List Str) (n : Nat) : Prop where
  len : l.length = n
  nd : l.Nodup
  nm : ∀ x ∈ l, Nm x
structure BkOk (b : Bk) (n k : Nat) : Prop where
  by_ok : OkBy b.by_
  n1 : 1 ≤ n
  n4 : n ≤ 4
  k1 : 1 ≤ k
  k3 : k ≤ 3
  m : NmsOk b.marks n
  wl : b.wts.length = n
  w : ∀ x ∈ b.wts, OkW b.by_ x
  kn : NmsOk b.kinds k
  tl : b.tabs.length = k
  tab : ∀ t ∈ b.tabs, OkT b.by_ n t
theorem OkBy.lt {b : Int} (h : OkBy b) : b = 0 ∨ (2 ≤ b ∧ b ≤ 97) := by
  rcases h with h | h
  · exact .inl h
  · right
    have : ∀ x ∈ primes, 2 ≤ x ∧ x ≤ 97 := by decide
    exact this b h
theorem OkE.le {b x : Int} (hb : OkBy b) (h : OkE b x) : x.natAbs ≤ 10 ^ 12 := by
  unfold OkE at h
  split at h
  · exact h
  · rcases hb.lt with z | z <;> omega
def strsD (l : List Str) : D := .tup (l.map D.str)
def intsD (l : List Int) : D := .tup (l.map D.int)
def tabD (t : List (List Int)) : D := .tup (t.map intsD)
def tabsD (kinds : List Str) (tabs : List (List (List Int))) : D := .dK (kinds.map Sum.inr) (tabs.map tabD)
def ownK : List Key := [.inr "by", .inr "marks", .inr "weights", .inr "kinds", .inr "tables"]
def ownV (b : Bk) : List D := [.int b.by_, strsD b.marks, intsD b.wts, strsD b.kinds, tabsD b.kinds b.tabs]
def ownD (b : Bk) : D := .dK ownK (ownV b)
def ownC (b : Bk) : Cell := .dK ownK (ownV b)
/-- the own book d, data or a cell -/
def IsOwn (m : Mem) (d : D) (b : Bk) : Prop := dKOf m d = some (ownK, ownV b)
theorem isOwn_data {m : Mem} {b : Bk} : IsOwn m (ownD b) b := rfl
theorem isOwn_ref {m : Mem} {b : Bk} {p : Addr} (h : m p = some (ownC b)) : IsOwn m (.ref p) b := by
  unfold IsOwn dKOf ownC at *; simp only [h]
section
variable {m : Mem} {d : D} {b : Bk} {Q : KD}
theorem ixs {ks : List Key} {ds : List D} {x : Str} (h : dKOf m d = some (ks, ds)) : ixD m d (.str x) Q = ∃ e, lookK ks ds (.inr x) = some e ∧ Q e m := by
  show (∃ ks ds e, dKOf m d = some (ks, ds) ∧ lookK ks ds (.inr x) = some e ∧ Q e m) = _
  apply propext
  constructor
  · rintro ⟨ks', ds', e, h1, h2, h3⟩
    rw [h] at h1; cases h1; exact ⟨e, h2, h3⟩
  · rintro ⟨e, h2, h3⟩; exact ⟨ks, ds, e, h, h2, h3⟩
theorem own_by (h : IsOwn m d b) : ixD m d (.str "by") Q = Q (.int b.by_) m := by
  rw [ixs h]; simp [ownK, ownV, lookK]
theorem own_marks (h : IsOwn m d b) : ixD m d (.str "marks") Q = Q (strsD b.marks) m := by
  rw [ixs h, show lookK ownK (ownV b) (.inr "marks") = some (strsD b.marks) from by unfold ownK ownV; simp only [lookK]; rw [if_neg (by decide), if_pos trivial]]
  simp
theorem own_weights (h : IsOwn m d b) : ixD m d (.str "weights") Q = Q (intsD b.wts) m := by
  rw [ixs h, show lookK ownK (ownV b) (.inr "weights") = some (intsD b.wts) from by unfold ownK ownV; simp only [lookK]; rw [if_neg (by decide), if_neg (by decide), if_pos trivial]]
  simp
theorem own_kinds (h : IsOwn m d b) : ixD m d (.str "kinds") Q = Q (strsD b.kinds) m := by
  rw [ixs h, show lookK ownK (ownV b) (.inr "kinds") = some (strsD b.kinds) from by unfold ownK ownV; simp only [lookK]; rw [if_neg (by decide), if_neg (by decide), if_neg (by decide), if_pos trivial]]
  simp
theorem own_tables (h : IsOwn m d b) : ixD m d (.str "tables") Q = Q (tabsD b.kinds b.tabs) m := by
  rw [ixs h, show lookK ownK (ownV b) (.inr "tables") = some (tabsD b.kinds b.tabs) from by unfold ownK ownV; simp only [lookK]; rw [if_neg (by decide), if_neg (by decide), if_neg (by decide), if_neg (by decide), if_pos trivial]]
  simp
end
/-- what stands at a name among names -/
theorem look_at {κ α : Type} [DecidableEq κ] (f : α → D) : ∀ {ks : List κ} {vs : List α} {k : κ} {v : α} {i : Nat}, ks.Nodup → ks[i]? = some k → vs[i]? = some v → lookK ks (vs.map f) k = some (f v)
  | k0 :: ks, v0 :: vs, k, v, 0, _, h1, h2 => by
    simp at h1 h2; subst h1 h2
    simp [lookK]
  | k0 :: ks, v0 :: vs, k, v, i + 1, hn, h1, h2 => by
    have hn' := List.nodup_cons.mp hn
    have : k ∈ ks := List.mem_of_getElem? (by simpa using h1)
    have ne : k0 ≠ k := fun z => hn'.1 (z ▸ this)
    simp only [List.map_cons, lookK]
    rw [if_neg ne]
    exact look_at f (i := i) hn'.2 (by simpa using h1) (by simpa using h2)
  | [], _, _, _, _, _, h, _ => by simp at h
  | _ :: _, [], _, _, _, _, _, h => by simp at h
end Og
end
section
set_option maxHeartbeats 4000000
set_option autoImplicit false
namespace Og.Lk00
open PySem Og
def s_some : Spec := fun ds m Q => ∃ (p : Addr) (L n : Nat) (l : List D) (v : D), ds = [.ref p, v, .int (n : Int)] ∧ seqOf m v = some l ∧ n ≤ l.length ∧ l.length ≤ 1000 ∧ Pot L m p ∧ L + n ≤ 1000000 ∧ NoObj m ∧ ∀ (f : List D) (M : Mem), (∃ rest, (f ++ rest).Perm l) → f.length = n → Ux m M p → Pot (L + n) M p → Q (.lst f) M
theorem b1_listT {v : D} {l : List D} {m : Mem} {Q : KD} (h : seqOf m v = some l) (q : ∀ r, m r = none → Q (.ref r) (put m r (.lst l))) : b1D (.list true) v m Q := ⟨l, h, q⟩
theorem law_some {X : Ctx} (htk : X.fn 0 = s_take) (ds : List D) (m : Mem) (Q : KD) (h : s_some ds m Q) : body X 6 c2 ds m Q := by
  obtain ⟨p, L, n, l, v, rfl, hv, hn, hl, hp, hL, no, q⟩ := h
  simp only [c2, htk, body, exs, ex, ev, evs, evB, evO, evT, evI, startD, List.map_cons, List.map_nil, List.length_cons, List.length_nil, Nat.reduceAdd, Nat.reduceSub, List.replicate, List.cons_append, List.nil_append, List.append_nil, List.getElem?_cons_zero, List.getElem?_cons_succ, Option.some.injEq, exists_and_left, exists_eq_left', exists_eq_left, exists_eq, ix_tup, at0, at1, at2, op_add', op_sub', op_mul', op_fdiv', op_mod', op_pow', op_addT, cm_lt, cm_le, cm_gt, cm_ge, cm_eq, cm_ne, cm_eqS, cm_neS, onb, oni, yn_gd, yn_cls, Nat.reduceLT, if_true, if_false, true_and, and_true, List.set_cons_zero, List.set_cons_succ, set_nm, set_tup, set_nil, set_cons, ifb, b1_abs, b1_int, b1_intB, b1_lenT, b1_lenL, b1_tupL, b1_tupT, b2_min, b2_max, seq_tup, seq_lst, seq_sq, gd_sq, ix_sq, len_sq, new_t, new_f, gd_tup, gd_lst, ix_lst, ty_int, ty_tup, ty_str, isi_ii, isi_ib, isi_tt, isi_ss, reduceIte, Bool.true_eq_false, Bool.false_eq_true, Bool.not_true, Bool.not_false,  List.zip_cons_cons, List.zip_nil_right, List.foldl_cons, List.foldl_nil, ne_eq, not_false_eq_true, not_true_eq_false, Bool.not_eq_true', decide_eq_false_iff_not, decide_eq_true_eq, reduceCtorEq, List.cons.injEq, and_self, D.ref.injEq, Cell.obj.injEq, D.int.injEq]
  refine b1_listT hv fun rl hrl => ?_
  have nl := hp.ne hrl
  try simp only [body, exs, ex, ev, evs, evB, evO, evT, evI, startD, List.map_cons, List.map_nil, List.length_cons, List.length_nil, Nat.reduceAdd, Nat.reduceSub, List.replicate, List.cons_append, List.nil_append, List.append_nil, List.getElem?_cons_zero, List.getElem?_cons_succ, Option.some.injEq, exists_and_left, exists_eq_left', exists_eq_left, exists_eq, ix_tup, at0, at1, at2, op_add', op_sub', op_mul', op_fdiv', op_mod', op_pow', op_addT, cm_lt, cm_le, cm_gt, cm_ge, cm_eq, cm_ne, cm_eqS, cm_neS, onb, oni, yn_gd, yn_cls, Nat.reduceLT, if_true, if_false, true_and, and_true, List.set_cons_zero, List.set_cons_succ, set_nm, set_tup, set_nil, set_cons, ifb, b1_abs, b1_int, b1_intB, b1_lenT, b1_lenL, b1_tupL, b1_tupT, b2_min, b2_max, seq_tup, seq_lst, seq_sq, gd_sq, ix_sq, len_sq, new_t, new_f, gd_tup, gd_lst, ix_lst, ty_int, ty_tup, ty_str, isi_ii, isi_ib, isi_tt, isi_ss, reduceIte, Bool.true_eq_false, Bool.false_eq_true, Bool.not_true, Bool.not_false,  List.zip_cons_cons, List.zip_nil_right, List.foldl_cons, List.foldl_nil, ne_eq, not_false_eq_true, not_true_eq_false, Bool.not_eq_true', decide_eq_false_iff_not, decide_eq_true_eq, reduceCtorEq, List.cons.injEq, and_self, D.ref.injEq, Cell.obj.injEq, D.int.injEq]
  refine ⟨by decide, fun rf hrf => ?_⟩
  have nrr : rl ≠ rf := fun z => by rw [← z, put_same] at hrf; cases hrf
  have hrf0 : m rf = none := by rw [put_ne (Ne.symm nrr)] at hrf; exact hrf
  have nf := hp.ne hrf0
  try simp only [body, exs, ex, ev, evs, evB, evO, evT, evI, startD, List.map_cons, List.map_nil, List.length_cons, List.length_nil, Nat.reduceAdd, Nat.reduceSub, List.replicate, List.cons_append, List.nil_append, List.append_nil, List.getElem?_cons_zero, List.getElem?_cons_succ, Option.some.injEq, exists_and_left, exists_eq_left', exists_eq_left, exists_eq, ix_tup, at0, at1, at2, op_add', op_sub', op_mul', op_fdiv', op_mod', op_pow', op_addT, cm_lt, cm_le, cm_gt, cm_ge, cm_eq, cm_ne, cm_eqS, cm_neS, onb, oni, yn_gd, yn_cls, Nat.reduceLT, if_true, if_false, true_and, and_true, List.set_cons_zero, List.set_cons_succ, set_nm, set_tup, set_nil, set_cons, ifb, b1_abs, b1_int, b1_intB, b1_lenT, b1_lenL, b1_tupL, b1_tupT, b2_min, b2_max, seq_tup, seq_lst, seq_sq, gd_sq, ix_sq, len_sq, new_t, new_f, gd_tup, gd_lst, ix_lst, ty_int, ty_tup, ty_str, isi_ii, isi_ib, isi_tt, isi_ss, reduceIte, Bool.true_eq_false, Bool.false_eq_true, Bool.not_true, Bool.not_false,  List.zip_cons_cons, List.zip_nil_right, List.foldl_cons, List.foldl_nil, ne_eq, not_false_eq_true, not_true_eq_false, Bool.not_eq_true', decide_eq_false_iff_not, decide_eq_true_eq, reduceCtorEq, List.cons.injEq, and_self, D.ref.injEq, Cell.obj.injEq, D.int.injEq]
  refine ⟨by omega, by omega, ?_⟩
  rw [rgD_nat]
  refine for_inv _ (fun i r M => ∃ (A B : List D) (o5 : Option D), r = [some (.ref p), some v, some (.int (n : Int)), some (.ref rl), some (.ref rf), o5] ∧ M rl = some (.lst A) ∧ M rf = some (.lst B) ∧ (B ++ A).Perm l ∧ A.length + i = l.length ∧ B.length = i ∧ Ux m M p ∧ Pot (L + i) M p) (List.range n) 0 _ _
    ⟨l, [], none, rfl, by rw [put_ne nrr, put_same], put_same, by simp, rfl, rfl, ((Ux.refl hp no).new hrl oL).new hrf oL, (hp.put nl).put nf⟩ ?_ ?_
  · rintro i hi r M N ⟨A, B, o5, rfl, hA, hB, hpm, hAl, hBl, hu, hp'⟩ kN
    have hi' : i < n := by simpa using hi
    simp only [Nat.zero_add] at hAl hBl hp' kN
    refine ⟨trivial, ?_⟩
    try simp only [body, exs, ex, ev, evs, evB, evO, evT, evI, startD, List.map_cons, List.map_nil, List.length_cons, List.length_nil, Nat.reduceAdd, Nat.reduceSub, List.replicate, List.cons_append, List.nil_append, List.append_nil, List.getElem?_cons_zero, List.getElem?_cons_succ, Option.some.injEq, exists_and_left, exists_eq_left', exists_eq_left, exists_eq, ix_tup, at0, at1, at2, op_add', op_sub', op_mul', op_fdiv', op_mod', op_pow', op_addT, cm_lt, cm_le, cm_gt, cm_ge, cm_eq, cm_ne, cm_eqS, cm_neS, onb, oni, yn_gd, yn_cls, Nat.reduceLT, if_true, if_false, true_and, and_true, List.set_cons_zero, List.set_cons_succ, set_nm, set_tup, set_nil, set_cons, ifb, b1_abs, b1_int, b1_intB, b1_lenT, b1_lenL, b1_tupL, b1_tupT, b2_min, b2_max, seq_tup, seq_lst, seq_sq, gd_sq, ix_sq, len_sq, new_t, new_f, gd_tup, gd_lst, ix_lst, ty_int, ty_tup, ty_str, isi_ii, isi_ib, isi_tt, isi_ss, reduceIte, Bool.true_eq_false, Bool.false_eq_true, Bool.not_true, Bool.not_false,  List.zip_cons_cons, List.zip_nil_right, List.foldl_cons, List.foldl_nil, ne_eq, not_false_eq_true, not_true_eq_false, Bool.not_eq_true', decide_eq_false_iff_not, decide_eq_true_eq, reduceCtorEq, List.cons.injEq, and_self, D.ref.injEq, Cell.obj.injEq, D.int.injEq]
    refine ⟨⟨_, lst_ref hB⟩, ⟨_, lst_ref hA⟩, ?_⟩
    rw [len_ref hA]
    try simp only [body, exs, ex, ev, evs, evB, evO, evT, evI, startD, List.map_cons, List.map_nil, List.length_cons, List.length_nil, Nat.reduceAdd, Nat.reduceSub, List.replicate, List.cons_append, List.nil_append, List.append_nil, List.getElem?_cons_zero, List.getElem?_cons_succ, Option.some.injEq, exists_and_left, exists_eq_left', exists_eq_left, exists_eq, ix_tup, at0, at1, at2, op_add', op_sub', op_mul', op_fdiv', op_mod', op_pow', op_addT, cm_lt, cm_le, cm_gt, cm_ge, cm_eq, cm_ne, cm_eqS, cm_neS, onb, oni, yn_gd, yn_cls, Nat.reduceLT, if_true, if_false, true_and, and_true, List.set_cons_zero, List.set_cons_succ, set_nm, set_tup, set_nil, set_cons, ifb, b1_abs, b1_int, b1_intB, b1_lenT, b1_lenL, b1_tupL, b1_tupT, b2_min, b2_max, seq_tup, seq_lst, seq_sq, gd_sq, ix_sq, len_sq, new_t, new_f, gd_tup, gd_lst, ix_lst, ty_int, ty_tup, ty_str, isi_ii, isi_ib, isi_tt, isi_ss, reduceIte, Bool.true_eq_false, Bool.false_eq_true, Bool.not_true, Bool.not_false,  List.zip_cons_cons, List.zip_nil_right, List.foldl_cons, List.foldl_nil, ne_eq, not_false_eq_true, not_true_eq_false, Bool.not_eq_true', decide_eq_false_iff_not, decide_eq_true_eq, reduceCtorEq, List.cons.injEq, and_self, D.ref.injEq, Cell.obj.injEq, D.int.injEq]
    refine ⟨p, A.length, L + i, rfl, by omega, by omega, hp', by omega, fun j m2 hj c2 p2 => ?_⟩
    have hA2 : m2 rl = some (.lst A) := (c2.other nl).trans hA
    have hB2 : m2 rf = some (.lst B) := (c2.other nf).trans hB
    refine ⟨A, (j : Int), j, A[j], hA2, rfl, by omega, by omega, ?_, List.getElem?_eq_getElem hj, ?_⟩
    · unfold seqIndex?
      simp only
      rw [if_neg (show ¬((j : Nat) : Int) < 0 from by omega), if_pos (by simp only [Bool.and_eq_true, decide_eq_true_eq]; omega), Int.toNat_natCast]
    refine ⟨B, by rw [put_ne (Ne.symm nrr)]; exact hB2, by omega, ?_⟩
    refine kN _ _ ⟨A.eraseIdx j, B ++ [A[j]], _, rfl, by rw [put_ne nrr, put_same], put_same, ?_, ?_, by simp [hBl], ((hu.chg c2).set hrl oL).set hrf0 oL, ((p2.put nl).put nf).mono (by omega)⟩
    · rw [List.append_assoc]
      exact ((perm_erase A j hj).append_left B).trans hpm
    · rw [List.length_eraseIdx_of_lt hj]; omega
  · rintro r M ⟨A, B, o5, rfl, hA, hB, hpm, hAl, hBl, hu, hp'⟩
    rw [List.length_range, Nat.zero_add] at hAl hBl hp'
    refine ⟨trivial, ?_⟩
    try simp only [body, exs, ex, ev, evs, evB, evO, evT, evI, startD, List.map_cons, List.map_nil, List.length_cons, List.length_nil, Nat.reduceAdd, Nat.reduceSub, List.replicate, List.cons_append, List.nil_append, List.append_nil, List.getElem?_cons_zero, List.getElem?_cons_succ, Option.some.injEq, exists_and_left, exists_eq_left', exists_eq_left, exists_eq, ix_tup, at0, at1, at2, op_add', op_sub', op_mul', op_fdiv', op_mod', op_pow', op_addT, cm_lt, cm_le, cm_gt, cm_ge, cm_eq, cm_ne, cm_eqS, cm_neS, onb, oni, yn_gd, yn_cls, Nat.reduceLT, if_true, if_false, true_and, and_true, List.set_cons_zero, List.set_cons_succ, set_nm, set_tup, set_nil, set_cons, ifb, b1_abs, b1_int, b1_intB, b1_lenT, b1_lenL, b1_tupL, b1_tupT, b2_min, b2_max, seq_tup, seq_lst, seq_sq, gd_sq, ix_sq, len_sq, new_t, new_f, gd_tup, gd_lst, ix_lst, ty_int, ty_tup, ty_str, isi_ii, isi_ib, isi_tt, isi_ss, reduceIte, Bool.true_eq_false, Bool.false_eq_true, Bool.not_true, Bool.not_false,  List.zip_cons_cons, List.zip_nil_right, List.foldl_cons, List.foldl_nil, ne_eq, not_false_eq_true, not_true_eq_false, Bool.not_eq_true', decide_eq_false_iff_not, decide_eq_true_eq, reduceCtorEq, List.cons.injEq, and_self, D.ref.injEq, Cell.obj.injEq, D.int.injEq]
    exact ⟨B, hB, _, SubO.refl, q B _ ⟨A, hpm⟩ hBl (hu.del hrf0) (hp'.del nf)⟩
/-- a value of any kind: a text, or of a type that is none -/
def OddD (d : D) : Prop := (∃ z, d = .str z) ∨ ∃ t, (∀ m, tyD m d = some t) ∧ isiB t "str" = false
def s_odd : Spec := fun ds m Q => ∃ (p : Addr) (L : Nat), ds = [.ref p] ∧ Pot L m p ∧ L ≤ 999999 ∧ ∀ (d : D) (m' : Mem), OddD d → Chg m m' p → Pot (L + 1) m' p → Q d m'
theorem op_addL {a b : List D} {m : Mem} {Q : KD} : opD .add (.lst a) (.lst b) m Q = (a.length + b.length ≤ 1000000 ∧ Q (.lst (a ++ b)) m) := rfl
theorem law_odd {X : Ctx} (ho : X.fn 1 = s_of) (ds : List D) (m : Mem) (Q : KD) (h : s_odd ds m Q) : body X 2 c36 ds m Q := by
  obtain ⟨p, L, rfl, hp, hL, q⟩ := h
  simp only [c36, ho, op_addL, body, exs, ex, ev, evs, evB, evO, evT, evI, startD, List.map_cons, List.map_nil, List.length_cons, List.length_nil, Nat.reduceAdd, Nat.reduceSub, List.replicate, List.cons_append, List.nil_append, List.append_nil, List.getElem?_cons_zero, List.getElem?_cons_succ, Option.some.injEq, exists_and_left, exists_eq_left', exists_eq_left, exists_eq, ix_tup, at0, at1, at2, op_add', op_sub', op_mul', op_fdiv', op_mod', op_pow', op_addT, cm_lt, cm_le, cm_gt, cm_ge, cm_eq, cm_ne, cm_eqS, cm_neS, onb, oni, yn_gd, yn_cls, Nat.reduceLT, if_true, if_false, true_and, and_true, List.set_cons_zero, List.set_cons_succ, set_nm, set_tup, set_nil, set_cons, ifb, b1_abs, b1_int, b1_intB, b1_lenT, b1_lenL, b1_tupL, b1_tupT, b2_min, b2_max, seq_tup, seq_lst, seq_sq, gd_sq, ix_sq, len_sq, new_t, new_f, gd_tup, gd_lst, ix_lst, ty_int, ty_tup, ty_str, isi_ii, isi_ib, isi_tt, isi_ss, reduceIte, Bool.true_eq_false, Bool.false_eq_true, Bool.not_true, Bool.not_false,  List.zip_cons_cons, List.zip_nil_right, List.foldl_cons, List.foldl_nil, ne_eq, not_false_eq_true, not_true_eq_false, Bool.not_eq_true', decide_eq_false_iff_not, decide_eq_true_eq, reduceCtorEq, List.cons.injEq, and_self, D.ref.injEq, Cell.obj.injEq, D.int.injEq, and_assoc]
  refine ⟨by decide, by decide, by decide, by decide, by decide, by decide, by decide, by decide, by decide, by decide, by decide, by decide, by decide, by decide, by decide, by decide, by decide, by decide, p, L, _, _, rfl, hp, by omega, by simp, by simp, fun _ _ => rfl, fun d m1 hd c1 p1 => ⟨m1, SubO.refl, q d m1 ?_ c1 p1⟩⟩
  simp only [List.mem_cons, List.not_mem_nil, or_false] at hd
  rcases hd with rfl | rfl | rfl | rfl | rfl | rfl | rfl | rfl | rfl | rfl | rfl | rfl | rfl | rfl | rfl | rfl | rfl | rfl | rfl | rfl | rfl | rfl | rfl | rfl | rfl | rfl | rfl | rfl | rfl | rfl <;> first
    | exact .inl ⟨_, rfl⟩
    | exact .inr ⟨"NoneType", fun _ => rfl, by decide⟩
    | exact .inr ⟨"bool", fun _ => rfl, by decide⟩
    | exact .inr ⟨"int", fun _ => rfl, by decide⟩
    | exact .inr ⟨"tuple", fun _ => rfl, by decide⟩
    | exact .inr ⟨"list", fun _ => rfl, by decide⟩
    | exact .inr ⟨"dict", fun _ => rfl, by decide⟩
def s_primes : Spec := fun ds m Q => ds = [] ∧ Q (.lst (primes.map .int)) m
theorem law_primes {X : Ctx} (ds : List D) (m : Mem) (Q : KD) (h : s_primes ds m Q) : body X 0 c35 ds m Q := by
  obtain ⟨rfl, q⟩ := h
  simp only [c35, body, exs, ex, ev, evs, evB, evO, evT, evI, startD, List.map_cons, List.map_nil, List.length_cons, List.length_nil, Nat.reduceAdd, Nat.reduceSub, List.replicate, List.cons_append, List.nil_append, List.append_nil, List.getElem?_cons_zero, List.getElem?_cons_succ, Option.some.injEq, exists_and_left, exists_eq_left', exists_eq_left, exists_eq, ix_tup, at0, at1, at2, op_add', op_sub', op_mul', op_fdiv', op_mod', op_pow', op_addT, cm_lt, cm_le, cm_gt, cm_ge, cm_eq, cm_ne, cm_eqS, cm_neS, onb, oni, yn_gd, yn_cls, Nat.reduceLT, if_true, if_false, true_and, and_true, List.set_cons_zero, List.set_cons_succ, set_nm, set_tup, set_nil, set_cons, ifb, b1_abs, b1_int, b1_intB, b1_lenT, b1_lenL, b1_tupL, b1_tupT, b2_min, b2_max, seq_tup, seq_lst, seq_sq, gd_sq, ix_sq, len_sq, new_t, new_f, gd_tup, gd_lst, ix_lst, ty_int, ty_tup, ty_str, isi_ii, isi_ib, isi_tt, isi_ss, reduceIte, Bool.true_eq_false, Bool.false_eq_true, Bool.not_true, Bool.not_false,  List.zip_cons_cons, List.zip_nil_right, List.foldl_cons, List.foldl_nil, ne_eq, not_false_eq_true, not_true_eq_false, Bool.not_eq_true', decide_eq_false_iff_not, decide_eq_true_eq, reduceCtorEq, List.cons.injEq, and_self, D.ref.injEq, Cell.obj.injEq, D.int.injEq]
  exact ⟨by decide, m, SubO.refl, q⟩
end Og.Lk00
end
section
set_option maxHeartbeats 4000000
set_option autoImplicit false
/-! Og: lists cut, names put together, draws out of a pool. -/
namespace Og
open PySem TL L2
theorem cut_to {xs : List D} {a : Nat} (h : a ≤ xs.length) : cutD xs none (some (a : Int)) = xs.take a := by
  unfold cutD
  rw [HT.sIx_none, HT.sIx_nat, Nat.min_eq_left h]
  simp
theorem cut_from {xs : List D} {a : Nat} (h : a ≤ xs.length) : cutD xs (some (a : Int)) none = xs.drop a := by
  unfold cutD
  rw [HT.sIx_none, HT.sIx_nat, Nat.min_eq_left h]
  rw [List.take_of_length_le (by simp)]
theorem sl_lstF {ds : List D} {lo hi : Option Int} {m : Mem} {Q : KD} : slD false m (.lst ds) lo hi Q = Q (.lst (cutD ds lo hi)) m := by
  show (∃ es, lstOf m (.lst ds) = some es ∧ newL false (cutD es lo hi) m Q) = _
  simp only [lstOf, Option.some.injEq, exists_eq_left']
  rfl
theorem sl_tupF {mu : Bool} {ds : List D} {lo hi : Option Int} {m : Mem} {Q : KD} : slD mu m (.tup ds) lo hi Q = Q (.tup (cutD ds lo hi)) m := rfl
theorem op_addLL {a b : List D} {m : Mem} {Q : KD} : opD .add (.lst a) (.lst b) m Q = (a.length + b.length ≤ 1000000 ∧ Q (.lst (a ++ b)) m) := rfl
theorem op_addS {a b : Str} {m : Mem} {Q : KD} : opD .add (.str a) (.str b) m Q = (a.length + b.length ≤ 1000000 ∧ Q (.str (a ++ b)) m) := rfl
theorem perm_map_out {α β : Type} {g : α → β} {l k : List β} (h : l.Perm k) : ∀ {cs : List α}, k = cs.map g → ∃ ds : List α, l = ds.map g ∧ ds.Perm cs := by
  induction h with
  | nil => intro cs e; cases cs with | nil => exact ⟨[], rfl, .nil⟩ | cons _ _ => simp at e
  | cons a p ih =>
    intro cs e
    cases cs with
    | nil => simp at e
    | cons c cs =>
      simp only [List.map_cons, List.cons.injEq] at e
      obtain ⟨ds, rfl, hp⟩ := ih e.2
      exact ⟨c :: ds, by rw [e.1]; rfl, hp.cons c⟩
  | swap x y l =>
    intro cs e
    match cs, e with
    | c1 :: c2 :: cs, e =>
      simp only [List.map_cons, List.cons.injEq] at e
      exact ⟨c2 :: c1 :: cs, by rw [e.1, e.2.1, e.2.2]; rfl, List.Perm.swap c1 c2 cs⟩
    | [], e => simp at e
    | [_], e => simp at e
  | trans p q ih1 ih2 =>
    intro cs e
    obtain ⟨ds, e1, h1⟩ := ih2 e
    obtain ⟨es, e2, h2⟩ := ih1 e1
    exact ⟨es, e2, h2.trans h1⟩
/-- drawn unlike ones of a pool told by g -/
theorem some_out {α : Type} {g : α → D} {f rest : List D} {cs : List α} (h : (f ++ rest).Perm (cs.map g)) (hn : cs.Nodup) : ∃ ts : List α, f = ts.map g ∧ ts.Nodup ∧ ∀ t ∈ ts, t ∈ cs := by
  obtain ⟨ds, e, hp⟩ := perm_map_out h rfl
  refine ⟨ds.take f.length, ?_, (hp.nodup_iff.mpr hn).sublist (List.take_sublist _ _), fun t ht => hp.subset (List.mem_of_mem_take ht)⟩
  rw [List.map_take, ← e]; simp
def putAt (cs : List Nat) (a t : Nat) : List Nat := cs.take a ++ t :: cs.drop (a + 1)
theorem putAt_len {cs : List Nat} {a t : Nat} (h : a < cs.length) : (putAt cs a t).length = cs.length := by
  unfold putAt; simp; omega
theorem putAt_at {cs : List Nat} {a t : Nat} (h : a < cs.length) : (putAt cs a t)[a]? = some t := by
  unfold putAt
  rw [List.getElem?_append_right (by simp; omega)]
  simp [Nat.min_eq_left (Nat.le_of_lt h)]
def IsLet (c : Nat) : Prop := 97 ≤ c ∧ c ≤ 122
theorem putAt_let {cs : List Nat} {a t : Nat} (h : ∀ c ∈ cs, IsLet c) (ht : IsLet t) : ∀ c ∈ putAt cs a t, IsLet c := by
  intro c hc
  unfold putAt at hc
  rcases List.mem_append.mp hc with hc | hc
  · exact h c (List.mem_of_mem_take hc)
  · rcases List.mem_cons.mp hc with rfl | hc
    · exact ht
    · exact h c (List.mem_of_mem_drop hc)
def sgD (c : Nat) : D := .str (sgn c)
theorem join_names {cs : List Nat} {a t : Nat} (h : a < cs.length) : cutD (cs.map sgD) none (some (a : Int)) ++ [sgD t] ++ cutD (cs.map sgD) (some ((a : Int) + 1)) none = (putAt cs a t).map sgD := by
  rw [cut_to (by simp; omega), show ((a : Int) + 1) = ((a + 1 : Nat) : Int) from by omega, cut_from (by simp; omega)]
  unfold putAt
  simp [List.map_take, List.map_drop]
theorem nm_join {l : List Nat} (h1 : 1 ≤ l.length) (h4 : l.length ≤ 4) (h : ∀ c ∈ l, IsLet c) : Nm (Txt.join (Str.ofString "") (l.map sgn)) :=
  ⟨by rw [len_tl, tl_joinE]; exact h1, by rw [len_tl, tl_joinE]; exact h4, by rw [tl_joinE]; exact h⟩
theorem range_let : ∀ c ∈ List.range' 97 26, IsLet c := fun c h => by
  rw [List.mem_range'_1] at h
  exact ⟨h.1, by omega⟩
/-- names that differ at one place -/
theorem names_nd {ns : List Str} {ts : List Nat} {a : Nat} (h : Paired (fun (x : Str) (t : Nat) => (tl x)[a]? = some t) ns ts) (hn : ts.Nodup) : ns.Nodup := by
  induction h with
  | nil => exact List.nodup_nil
  | @cons x t xs ts h r ih =>
    have hn' := List.nodup_cons.mp hn
    refine List.nodup_cons.mpr ⟨fun hx => hn'.1 ?_, ih hn'.2⟩
    clear ih hn hn'
    induction r with
    | nil => cases hx
    | @cons y u ys us h' r' ih' =>
      rcases List.mem_cons.mp hx with rfl | hx
      · rw [h] at h'; cases h'; exact List.mem_cons_self
      · exact List.mem_cons_of_mem _ (ih' hx)
theorem paired_out {ι α : Type} {P : α → Prop} {g : α → D} {as : List ι} {bs : List D} (h : Paired (fun _ d => ∃ c, P c ∧ d = g c) as bs) : ∃ cs : List α, bs = cs.map g ∧ cs.length = as.length ∧ ∀ c ∈ cs, P c := by
  induction h with
  | nil => exact ⟨[], rfl, rfl, fun _ h => by cases h⟩
  | @cons a b as bs h t ih =>
    obtain ⟨cs, rfl, h1, h2⟩ := ih
    obtain ⟨c, hc, rfl⟩ := h
    exact ⟨c :: cs, rfl, by simp [h1], fun x hx => by
      rcases List.mem_cons.mp hx with rfl | hx
      · exact hc
      · exact h2 x hx⟩
/-- .. where each comes of its turn's index -/
theorem paired_fn {ι α : Type} {P : ι → α → Prop} {g : α → D} {as : List ι} {bs : List D} (h : Paired (fun i d => ∃ c, P i c ∧ d = g c) as bs) : ∃ cs : List α, bs = cs.map g ∧ Paired P as cs := by
  induction h with
  | nil => exact ⟨[], rfl, .nil⟩
  | @cons a b as bs h t ih =>
    obtain ⟨cs, rfl, h1⟩ := ih
    obtain ⟨c, hc, rfl⟩ := h
    exact ⟨c :: cs, rfl, .cons hc h1⟩
theorem paired_left {α β : Type} {P : α → Prop} {R : α → β → Prop} {xs : List α} {ys : List β} (h : Paired (fun x t => P x ∧ R x t) xs ys) : ∀ x ∈ xs, P x := by
  induction h with
  | nil => intro x hx; cases hx
  | cons h t ih =>
    intro x hx
    rcases List.mem_cons.mp hx with rfl | hx
    · exact h.1
    · exact ih x hx
theorem paired_right {α β : Type} {P : β → Prop} {R : α → β → Prop} {xs : List α} {ys : List β} (h : Paired (fun x t => P t ∧ R x t) xs ys) : ∀ x ∈ ys, P x := by
  induction h with
  | nil => intro x hx; cases hx
  | cons h t ih =>
    intro x hx
    rcases List.mem_cons.mp hx with rfl | hx
    · exact h.1
    · exact ih x hx
/-- a comprehension that draws at most k times each turn -/
theorem draw_list {ι α : Type} {l : List ι} {f : ι → D} {T : D → Mem → (Option D → Mem → Prop) → Prop} {P : ι → α → Prop} {g : α → D} {p : Addr} {L : Nat} (k : Nat) {m : Mem} {Q : KD} (hp : Pot L m p) (no : NoObj m)
    (hT : ∀ i (hi : i < l.length) (M : Mem) (K : Option D → Mem → Prop), Ux m M p → Pot (L + k * i) M p → (∀ (x : α) (M' : Mem), P l[i] x → Ux M M' p → Pot (L + k * i + k) M' p → K (some (g x)) M') → T (f l[i]) M K)
    (q : ∀ (cs : List α) (M : Mem), Paired P l cs → Ux m M p → Pot (L + k * l.length) M p → Q (.lst (cs.map g)) M) :
    ∀ s, m s = none → lcL (fun _ => True) T s (l.map f) [] (put m s (.lst [])) (lcEnd false s Q) :=
  lc_draw (L := L) (k := k) l f (fun i d => ∃ c, P i c ∧ d = g c) hp no (fun i hi M K hu hp' kK => hT i hi M K hu hp' fun x M' hx u' p' => kK _ M' u' p' ⟨x, hx, rfl⟩) fun es M hes hu hp' => by
    obtain ⟨cs, rfl, h1⟩ := paired_fn hes
    exact q cs M h1 hu hp'
theorem paired_all {ι α : Type} {P : α → Prop} {as : List ι} {bs : List α} (h : Paired (fun _ c => P c) as bs) : ∀ x ∈ bs, P x := by
  induction h with
  | nil => intro x hx; cases hx
  | cons h t ih =>
    intro x hx
    rcases List.mem_cons.mp hx with rfl | hx
    · exact h
    · exact ih x hx
theorem sumI {b : Nat} : ∀ {l : List Int}, (∀ x ∈ l, x.natAbs ≤ b) → l.sum.natAbs ≤ b * l.length
  | [], _ => by simp
  | x :: l, h => by
    have := sumI (b := b) (l := l) fun y hy => h y (List.mem_cons_of_mem _ hy)
    have hx := h x List.mem_cons_self
    simp only [List.sum_cons, List.length_cons, Nat.mul_succ]
    omega
theorem okE_one {b : Int} (h : OkBy b) : OkW b 1 := by
  refine ⟨by decide, ?_⟩
  unfold OkE
  rcases h.lt with z | z
  · rw [if_pos z]; decide
  · rw [if_neg (by omega)]; omega
theorem rep_ones : ∀ n : Nat, (List.replicate n [D.int 1]).flatten = (List.replicate n (1 : Int)).map D.int
  | 0 => rfl
  | n + 1 => by rw [List.replicate_succ, List.flatten_cons, rep_ones n, List.replicate_succ]; rfl
def nsD (n : Nat) : List D := (List.range n).map fun i => D.int ((i : Nat) : Int)
def gridD (t : List (List Int)) : D := .lst (t.map fun r => .lst (r.map D.int))
def Grid (P : Int → Prop) (n : Nat) (t : List (List Int)) : Prop := t.length = n ∧ ∀ r ∈ t, r.length = n ∧ ∀ x ∈ r, P x
/-- rows of n by n -/
theorem grid {T : D → Mem → (Option D → Mem → Prop) → Prop} {U : Nat → D → Mem → (Option D → Mem → Prop) → Prop} {P : Int → Prop} {m : Mem} {p : Addr} {L k n : Nat} {Q : KD} (hp : Pot L m p) (no : NoObj m)
    (hT : ∀ a, a < n → ∀ (M : Mem) (K : Option D → Mem → Prop), (∀ s, M s = none → lcL (fun _ => True) (U a) s (nsD n) [] (put M s (.lst [])) (lcEnd false s fun e m4 => K (some e) m4)) → T (.int ((a : Nat) : Int)) M K)
    (hU : ∀ a b, a < n → b < n → ∀ (M : Mem) (K : Option D → Mem → Prop) (L' : Nat), Ux m M p → Pot L' M p → L' ≤ L + k * (n * n) → (∀ (x : Int) (M' : Mem), P x → Ux M M' p → Pot (L' + k) M' p → K (some (.int x)) M') → U a (.int ((b : Nat) : Int)) M K)
    (q : ∀ (t : List (List Int)) (M : Mem), Grid P n t → Ux m M p → Pot (L + k * (n * n)) M p → Q (gridD t) M) : ∀ s, m s = none → lcL (fun _ => True) T s (nsD n) [] (put m s (.lst [])) (lcEnd false s Q) := by
  refine draw_list (L := L) (k * n) (P := fun _ (r : List Int) => r.length = n ∧ ∀ x ∈ r, P x) (g := fun r => .lst (r.map D.int)) hp no (fun a ha M K u1 p1 kK => ?_) fun cs M hcs u1 p1 => ?_
  · have ha' : a < n := by simpa using ha
    simp only [List.getElem_range]
    refine hT a ha' M K (draw_list (L := L + k * n * a) k (P := fun _ x => P x) (g := D.int) p1 u1.no (fun b hb M1 K1 u2 p2 kK1 => ?_) fun r M1 hr u2 p2 => ?_)
    · have hb' : b < n := by simpa using hb
      simp only [List.getElem_range]
      refine hU a b ha' hb' M1 K1 _ (u1.trans u2) p2 ?_ fun x M2 hx u3 p3 => kK1 x M2 hx u3 p3
      have h1 : k * n * a + k * b ≤ k * (n * n) := by
        rw [Nat.mul_assoc, ← Nat.mul_add]
        refine Nat.mul_le_mul_left _ ?_
        have : n * a + b ≤ n * a + n := by omega
        have h2 : n * a + n = n * (a + 1) := by rw [Nat.mul_succ]
        have h3 : n * (a + 1) ≤ n * n := Nat.mul_le_mul_left _ (by omega)
        omega
      omega
    · refine kK r M1 ⟨by rw [← paired_len hr, List.length_range], paired_all hr⟩ u2 ?_
      rw [List.length_range] at p2
      exact p2
  · refine q cs M ⟨by rw [← paired_len hcs, List.length_range], paired_all hcs⟩ u1 ?_
    rw [List.length_range] at p1
    rw [← Nat.mul_assoc]
    exact p1
theorem paired_to {α β : Type} {F : α → β → Prop} {A : α → Prop} {B : β → Prop} {xs : List α} {ys : List β} (h : Paired F xs ys) (f : ∀ x y, F x y → A x → B y) (ha : ∀ x ∈ xs, A x) : ∀ y ∈ ys, B y := by
  induction h with
  | nil => intro y hy; cases hy
  | cons h t ih =>
    intro y hy
    rcases List.mem_cons.mp hy with rfl | hy
    · exact f _ _ h (ha _ List.mem_cons_self)
    · exact ih (fun x hx => ha x (List.mem_cons_of_mem _ hx)) y hy
theorem grid_at {P : Int → Prop} {n : Nat} {t : List (List Int)} (h : Grid P n t) {a b : Nat} (ha : a < n) (hb : b < n) : ∃ r x, t[a]? = some r ∧ r[b]? = some x ∧ P x := by
  have h1 : a < t.length := by rw [h.1]; exact ha
  have h2 := h.2 t[a] (List.getElem_mem h1)
  have h3 : b < t[a].length := by rw [h2.1]; exact hb
  exact ⟨t[a], t[a][b], List.getElem?_eq_getElem h1, List.getElem?_eq_getElem h3, h2.2 _ (List.getElem_mem h3)⟩
theorem gridD_row {t : List (List Int)} {r : List Int} {a : Nat} (h : t[a]? = some r) : L2.atI (t.map fun r => D.lst (r.map D.int)) (a : Int) = some (.lst (r.map D.int)) := by
  rw [atI_nat, List.getElem?_map, h]; rfl
theorem row_at {r : List Int} {x : Int} {a : Nat} (h : r[a]? = some x) : L2.atI (r.map D.int) (a : Int) = some (.int x) := by
  rw [atI_nat, List.getElem?_map, h]; rfl
theorem ix_gridD {t : List (List Int)} {i : Int} {m : Mem} {Q : KD} : ixD m (gridD t) (.int i) (fun d m' => Q d m') = (∃ d, L2.atI (t.map fun r => D.lst (r.map D.int)) i = some d ∧ Q d m) := ix_lst
theorem atI_last {α : Type} {xs : List α} (h : 1 ≤ xs.length) : L2.atI xs (-1) = xs[xs.length - 1]? := by
  have e : L2.ixN xs.length (-1) = some (xs.length - 1) := by
    unfold L2.ixN
    simp only [show ¬((0 : Int) ≤ -1) from by omega, if_false]
    split <;> first
      | (congr 1; omega)
      | (exfalso; omega)
  unfold L2.atI
  rw [e]; rfl
end Og
end
section
set_option maxHeartbeats 4000000
set_option autoImplicit false
namespace Og.Lk00
open PySem Og TL L2
def s_names : Spec := fun ds m Q => ∃ (p : Addr) (L n : Nat), ds = [.ref p, .int (n : Int)] ∧ n ≤ 4 ∧ Pot L m p ∧ L ≤ 900000 ∧ NoObj m ∧ ∀ (ns : List Str) (M : Mem), NmsOk ns n → Ux m M p → Pot (L + 100) M p → Q (strsD ns) M
theorem len_ltr : ((List.range' 97 26).map sgD).length = 26 := rfl
theorem b1_charsF {z : Str} {m : Mem} {Q : KD} : b1D (.chars false) (.str z) m Q = (z.length ≤ 1000000 ∧ Q (.lst (z.cps.toList.map fun c => D.str ⟨#[c]⟩)) m) := rfl
/-- a letter is drawn -/
theorem draw_ltr {p : Addr} {L : Nat} {m : Mem} {Q : KD} (hp : Pot L m p) (hL : L ≤ 1000000) (q : ∀ (c : Nat) (m' : Mem), IsLet c → Chg m m' p → Pot (L + 1) m' p → Q (sgD c) m') : s_of [.ref p, .lst ((List.range' 97 26).map sgD)] m Q :=
  ⟨p, L, _, (List.range' 97 26).map sgD, rfl, hp, hL, by decide, by decide, fun _ _ => rfl, fun d m' hd hc hp' => by
    obtain ⟨c, h1, rfl⟩ := List.mem_map.mp hd
    exact q c m' (range_let c h1) hc hp'⟩
/-- so many letters -/
theorem draw_ltrs {T : D → Mem → (Option D → Mem → Prop) → Prop} {p : Addr} {L n : Nat} {m : Mem} {Q : KD} (hp : Pot L m p) (no : NoObj m) (hL : L + n ≤ 999000) (hT : ∀ d M K, s_of [.ref p, .lst ((List.range' 97 26).map sgD)] M (fun e m' => K (some e) m') → T d M K)
    (q : ∀ (cs : List Nat) (M : Mem), cs.length = n → (∀ c ∈ cs, IsLet c) → Ux m M p → Pot (L + n) M p → Q (.lst (cs.map sgD)) M) :
    ∀ s, m s = none → lcL (fun _ => True) T s ((List.range n).map fun i => D.int ((i : Nat) : Int)) [] (put m s (.lst [])) (lcEnd false s Q) := by
  refine lc_draw (L := L) (k := 1) (List.range n) _ (fun _ d => ∃ c, IsLet c ∧ d = sgD c) hp no (fun i hi M K hu hp' kK => ?_) fun es M hes hu hp' => ?_
  · have hi' : i < n := by simpa using hi
    exact hT _ _ _ (draw_ltr hp' (by omega) fun c m' hc c1 p1 => kK _ _ ((Ux.refl hp' hu.no).chg c1) p1 ⟨c, hc, rfl⟩)
  · obtain ⟨cs, rfl, h1, h2⟩ := paired_out hes
    rw [List.length_range] at h1 hp'
    exact q cs M h1 h2 hu (by simpa using hp')
theorem law_names {X : Ctx} (ht : X.fn 0 = s_take) (ho : X.fn 1 = s_of) (hs : X.fn 2 = s_some) (ds : List D) (m : Mem) (Q : KD) (h : s_names ds m Q) : body X 11 c3 ds m Q := by
  obtain ⟨p, L, n, rfl, hn, hp, hL, no, q⟩ := h
  simp only [c3, ht, body, exs, ex, ev, evs, evB, evO, evT, evI, startD, List.map_cons, List.map_nil, List.length_cons, List.length_nil, Nat.reduceAdd, Nat.reduceSub, List.replicate, List.cons_append, List.nil_append, List.append_nil, List.getElem?_cons_zero, List.getElem?_cons_succ, Option.some.injEq, exists_and_left, exists_eq_left', exists_eq_left, exists_eq, ix_tup, at0, at1, at2, op_add', op_sub', op_mul', op_fdiv', op_mod', op_pow', op_addT, cm_lt, cm_le, cm_gt, cm_ge, cm_eq, cm_ne, cm_eqS, cm_neS, onb, oni, yn_gd, yn_cls, Nat.reduceLT, if_true, if_false, true_and, and_true, List.set_cons_zero, List.set_cons_succ, set_nm, set_tup, set_nil, set_cons, ifb, b1_abs, b1_int, b1_intB, b1_lenT, b1_lenL, b1_tupL, b1_tupT, b2_min, b2_max, seq_tup, seq_lst, seq_sq, gd_sq, ix_sq, len_sq, new_t, new_f, gd_tup, gd_lst, ix_lst, ty_int, ty_tup, ty_str, isi_ii, isi_ib, isi_tt, isi_ss, reduceIte, Bool.true_eq_false, Bool.false_eq_true, Bool.not_true, Bool.not_false,  List.zip_cons_cons, List.zip_nil_right, List.foldl_cons, List.foldl_nil, ne_eq, not_false_eq_true, not_true_eq_false, Bool.not_eq_true', decide_eq_false_iff_not, decide_eq_true_eq, reduceCtorEq, List.cons.injEq, and_self, D.ref.injEq, Cell.obj.injEq, D.int.injEq]
  refine ⟨p, 4, L, rfl, by decide, by decide, hp, by omega, fun a m1 ha c1 p1 => ?_⟩
  have u1 := (Ux.refl hp no).chg c1
  refine ⟨p, 2, L + 1, rfl, by decide, by decide, p1, by omega, fun ik m2 _ c2 p2 => ?_⟩
  have u2 := u1.chg c2
  simp only [b1_charsF, letters_eq, hs, body, exs, ex, ev, evs, evB, evO, evT, evI, startD, List.map_cons, List.map_nil, List.length_cons, List.length_nil, Nat.reduceAdd, Nat.reduceSub, List.replicate, List.cons_append, List.nil_append, List.append_nil, List.getElem?_cons_zero, List.getElem?_cons_succ, Option.some.injEq, exists_and_left, exists_eq_left', exists_eq_left, exists_eq, ix_tup, at0, at1, at2, op_add', op_sub', op_mul', op_fdiv', op_mod', op_pow', op_addT, cm_lt, cm_le, cm_gt, cm_ge, cm_eq, cm_ne, cm_eqS, cm_neS, onb, oni, yn_gd, yn_cls, Nat.reduceLT, if_true, if_false, true_and, and_true, List.set_cons_zero, List.set_cons_succ, set_nm, set_tup, set_nil, set_cons, ifb, b1_abs, b1_int, b1_intB, b1_lenT, b1_lenL, b1_tupL, b1_tupT, b2_min, b2_max, seq_tup, seq_lst, seq_sq, gd_sq, ix_sq, len_sq, new_t, new_f, gd_tup, gd_lst, ix_lst, ty_int, ty_tup, ty_str, isi_ii, isi_ib, isi_tt, isi_ss, reduceIte, Bool.true_eq_false, Bool.false_eq_true, Bool.not_true, Bool.not_false,  List.zip_cons_cons, List.zip_nil_right, List.foldl_cons, List.foldl_nil, ne_eq, not_false_eq_true, not_true_eq_false, Bool.not_eq_true', decide_eq_false_iff_not, decide_eq_true_eq, reduceCtorEq, List.cons.injEq, and_self, D.ref.injEq, Cell.obj.injEq, D.int.injEq]
  refine ⟨by decide, p, L + 2, n, (List.range' 97 26).map sgD, _, rfl, rfl, by rw [len_ltr]; omega, by rw [len_ltr]; decide, p2, by omega, u2.no, fun f m3 ⟨rest, hpm⟩ hf u3 p3 => ?_⟩
  obtain ⟨ts, rfl, tnd, tlet⟩ := some_out hpm List.nodup_range'
  have tl' : ts.length = n := by simpa using hf
  try simp only [body, exs, ex, ev, evs, evB, evO, evT, evI, startD, List.map_cons, List.map_nil, List.length_cons, List.length_nil, Nat.reduceAdd, Nat.reduceSub, List.replicate, List.cons_append, List.nil_append, List.append_nil, List.getElem?_cons_zero, List.getElem?_cons_succ, Option.some.injEq, exists_and_left, exists_eq_left', exists_eq_left, exists_eq, ix_tup, at0, at1, at2, op_add', op_sub', op_mul', op_fdiv', op_mod', op_pow', op_addT, cm_lt, cm_le, cm_gt, cm_ge, cm_eq, cm_ne, cm_eqS, cm_neS, onb, oni, yn_gd, yn_cls, Nat.reduceLT, if_true, if_false, true_and, and_true, List.set_cons_zero, List.set_cons_succ, set_nm, set_tup, set_nil, set_cons, ifb, b1_abs, b1_int, b1_intB, b1_lenT, b1_lenL, b1_tupL, b1_tupT, b2_min, b2_max, seq_tup, seq_lst, seq_sq, gd_sq, ix_sq, len_sq, new_t, new_f, gd_tup, gd_lst, ix_lst, ty_int, ty_tup, ty_str, isi_ii, isi_ib, isi_tt, isi_ss, reduceIte, Bool.true_eq_false, Bool.false_eq_true, Bool.not_true, Bool.not_false,  List.zip_cons_cons, List.zip_nil_right, List.foldl_cons, List.foldl_nil, ne_eq, not_false_eq_true, not_true_eq_false, Bool.not_eq_true', decide_eq_false_iff_not, decide_eq_true_eq, reduceCtorEq, List.cons.injEq, and_self, D.ref.injEq, Cell.obj.injEq, D.int.injEq]
  rw [show (4 : Int) - (a : Int) = ((4 - a : Nat) : Int) from by omega]
  refine ⟨p, 4 - a, L + 2 + n, rfl, by omega, by omega, p3, by omega, fun j m4 hj c4 p4 => ?_⟩
  have u4 := (u2.trans u3).chg c4
  try simp only [body, exs, ex, ev, evs, evB, evO, evT, evI, startD, List.map_cons, List.map_nil, List.length_cons, List.length_nil, Nat.reduceAdd, Nat.reduceSub, List.replicate, List.cons_append, List.nil_append, List.append_nil, List.getElem?_cons_zero, List.getElem?_cons_succ, Option.some.injEq, exists_and_left, exists_eq_left', exists_eq_left, exists_eq, ix_tup, at0, at1, at2, op_add', op_sub', op_mul', op_fdiv', op_mod', op_pow', op_addT, cm_lt, cm_le, cm_gt, cm_ge, cm_eq, cm_ne, cm_eqS, cm_neS, onb, oni, yn_gd, yn_cls, Nat.reduceLT, if_true, if_false, true_and, and_true, List.set_cons_zero, List.set_cons_succ, set_nm, set_tup, set_nil, set_cons, ifb, b1_abs, b1_int, b1_intB, b1_lenT, b1_lenL, b1_tupL, b1_tupT, b2_min, b2_max, seq_tup, seq_lst, seq_sq, gd_sq, ix_sq, len_sq, new_t, new_f, gd_tup, gd_lst, ix_lst, ty_int, ty_tup, ty_str, isi_ii, isi_ib, isi_tt, isi_ss, reduceIte, Bool.true_eq_false, Bool.false_eq_true, Bool.not_true, Bool.not_false,  List.zip_cons_cons, List.zip_nil_right, List.foldl_cons, List.foldl_nil, ne_eq, not_false_eq_true, not_true_eq_false, Bool.not_eq_true', decide_eq_false_iff_not, decide_eq_true_eq, reduceCtorEq, List.cons.injEq, and_self, D.ref.injEq, Cell.obj.injEq, D.int.injEq]
  rw [show (a : Int) + 1 + (j : Int) = ((a + 1 + j : Nat) : Int) from by omega, rgD_nat]
  refine ⟨by omega, by omega, draw_ltrs p4 u4.no (by omega) (fun d M K h => ⟨_, rfl, _, rfl, by rw [ho]; exact h⟩) fun cs m5 hcl hcs u5 p5 => ?_⟩
  try simp only [body, exs, ex, ev, evs, evB, evO, evT, evI, startD, List.map_cons, List.map_nil, List.length_cons, List.length_nil, Nat.reduceAdd, Nat.reduceSub, List.replicate, List.cons_append, List.nil_append, List.append_nil, List.getElem?_cons_zero, List.getElem?_cons_succ, Option.some.injEq, exists_and_left, exists_eq_left', exists_eq_left, exists_eq, ix_tup, at0, at1, at2, op_add', op_sub', op_mul', op_fdiv', op_mod', op_pow', op_addT, cm_lt, cm_le, cm_gt, cm_ge, cm_eq, cm_ne, cm_eqS, cm_neS, onb, oni, yn_gd, yn_cls, Nat.reduceLT, if_true, if_false, true_and, and_true, List.set_cons_zero, List.set_cons_succ, set_nm, set_tup, set_nil, set_cons, ifb, b1_abs, b1_int, b1_intB, b1_lenT, b1_lenL, b1_tupL, b1_tupT, b2_min, b2_max, seq_tup, seq_lst, seq_sq, gd_sq, ix_sq, len_sq, new_t, new_f, gd_tup, gd_lst, ix_lst, ty_int, ty_tup, ty_str, isi_ii, isi_ib, isi_tt, isi_ss, reduceIte, Bool.true_eq_false, Bool.false_eq_true, Bool.not_true, Bool.not_false,  List.zip_cons_cons, List.zip_nil_right, List.foldl_cons, List.foldl_nil, ne_eq, not_false_eq_true, not_true_eq_false, Bool.not_eq_true', decide_eq_false_iff_not, decide_eq_true_eq, reduceCtorEq, List.cons.injEq, and_self, D.ref.injEq, Cell.obj.injEq, D.int.injEq]
  have u5' := u4.trans u5
  refine ⟨by decide, fun rf hrf => ?_⟩
  have hrf0 : m rf = none := u5'.none hrf (p5.ne hrf).symm
  have nf := hp.ne hrf0
  refine for_inv sgD (fun i r M => ∃ (cs : List Nat) (o9 : Option D) (ns : List Str), r = [some (.ref p), some (.int (n : Int)), some (.int (a : Int)), some (.bl (decide ((ik : Int) = 0))), some (.lst ((List.range' 97 26).map sgD)), some (.lst (ts.map sgD)), some (.int ((a + 1 + j : Nat) : Int)), some (.lst (cs.map sgD)), some (.ref rf), o9, none] ∧
      a < cs.length ∧ cs.length ≤ 4 ∧ (∀ c ∈ cs, IsLet c) ∧ M rf = some (.lst (ns.map D.str)) ∧ Paired (fun (x : Str) (t : Nat) => Nm x ∧ (tl x)[a]? = some t) ns (ts.take i) ∧ Ux m M p ∧ Pot (L + 2 + n + 1 + 4 + 5 * i) M p) ts 0 _ _
    ⟨cs, none, [], rfl, by omega, by omega, hcs, put_same, .nil, u5'.new hrf oL, (p5.put nf).mono (by omega)⟩ ?_ ?_
  · rintro i hi r M N ⟨cs, o9, ns, rfl, k1, k2, k3, k4, k5, k6, k7⟩ kN
    simp only [Nat.zero_add] at k5 k7 kN
    refine ⟨trivial, ?_⟩
    have fin : ∀ (cs' : List Nat) (M' : Mem), a < cs'.length → cs'.length ≤ 4 → (∀ c ∈ cs', IsLet c) → Ux m M' p → Pot (L + 2 + n + 1 + 4 + 5 * (i + 1)) M' p → M' rf = some (.lst (ns.map D.str)) →
        (∃ ds, lstOf M' (D.ref rf) = some ds) ∧ (∃ z, D.str (Str.ofString "") = D.str z) ∧ 1 ≤ 1000000 ∧ (cutD (List.map sgD cs') none (some (a : Int))).length + 1 ≤ 1000000 ∧
          (cutD (List.map sgD cs') none (some (a : Int)) ++ [sgD ts[i]]).length + (cutD (List.map sgD cs') (some ((a : Int) + 1)) none).length ≤ 1000000 ∧
          ∃ w, D.str (Str.ofString "") = D.str w ∧ ∃ x, cutD (List.map sgD cs') none (some (a : Int)) ++ [sgD ts[i]] ++ cutD (List.map sgD cs') (some ((a : Int) + 1)) none = List.map D.str x ∧
            (List.map (fun x => x.length) x).sum + x.length * w.length ≤ 1000000 ∧ m1D M1.append (D.ref rf) (D.str (Txt.join w x)) M' fun x m1 => N
              [some (D.ref p), some (D.int (n : Int)), some (D.int (a : Int)), some (D.bl (decide ((ik : Int) = 0))), some (D.lst (List.map sgD (List.range' 97 26))), some (D.lst (List.map sgD ts)), some (D.int ((a + 1 + j : Nat) : Int)), some (D.lst (List.map sgD cs')), some (D.ref rf), some (sgD ts[i]), none] m1 := by
      intro cs' M' h1 h2 h3 h4 h5 h6
      have hj2 : cutD (List.map sgD cs') none (some (a : Int)) ++ [sgD ts[i]] ++ cutD (List.map sgD cs') (some ((a : Int) + 1)) none = ((putAt cs' a ts[i]).map sgn).map D.str := by
        rw [join_names h1, List.map_map]; rfl
      have lens := congrArg List.length hj2
      simp only [List.length_append, List.length_map, putAt_len h1, List.length_singleton] at lens
      have tle : IsLet ts[i] := range_let _ (tlet _ (List.getElem_mem hi))
      refine ⟨⟨_, lst_ref h6⟩, ⟨_, rfl⟩, by decide, by omega, by rw [List.length_append, List.length_singleton]; omega, _, rfl, _, hj2, ?_, ?_⟩
      · have : ((putAt cs' a ts[i]).map sgn).map (fun x => x.length) = (putAt cs' a ts[i]).map fun _ => 1 := by
          rw [List.map_map]; rfl
        have l4 := putAt_len (t := ts[i]) h1
        rw [this, List.map_const', List.sum_replicate_nat]
        simp only [List.length_map, l4]
        have : (Str.ofString "").length = 0 := rfl
        rw [this]; omega
      · refine ⟨ns.map D.str, h6, ?_, ?_⟩
        · have := paired_len k5
          simp at this ⊢
          omega
        · refine kN _ _ ⟨cs', _, ns ++ [Txt.join (Str.ofString "") ((putAt cs' a ts[i]).map sgn)], rfl, h1, h2, h3, ?_, ?_, h4.set hrf0 oL, h5.put nf⟩
          · rw [put_same, List.map_append]; rfl
          · rw [List.take_succ_eq_append_getElem hi]
            refine k5.snoc ⟨nm_join (by rw [putAt_len h1]; omega) (by rw [putAt_len h1]; exact h2) (putAt_let h3 tle), ?_⟩
            rw [tl_joinE]
            exact putAt_at h1
    simp only [sl_lstF, op_addLL, body, exs, ex, ev, evs, evB, evO, evT, evI, startD, List.map_cons, List.map_nil, List.length_cons, List.length_nil, Nat.reduceAdd, Nat.reduceSub, List.replicate, List.cons_append, List.nil_append, List.append_nil, List.getElem?_cons_zero, List.getElem?_cons_succ, Option.some.injEq, exists_and_left, exists_eq_left', exists_eq_left, exists_eq, ix_tup, at0, at1, at2, op_add', op_sub', op_mul', op_fdiv', op_mod', op_pow', op_addT, cm_lt, cm_le, cm_gt, cm_ge, cm_eq, cm_ne, cm_eqS, cm_neS, onb, oni, yn_gd, yn_cls, Nat.reduceLT, if_true, if_false, true_and, and_true, List.set_cons_zero, List.set_cons_succ, set_nm, set_tup, set_nil, set_cons, ifb, b1_abs, b1_int, b1_intB, b1_lenT, b1_lenL, b1_tupL, b1_tupT, b2_min, b2_max, seq_tup, seq_lst, seq_sq, gd_sq, ix_sq, len_sq, new_t, new_f, gd_tup, gd_lst, ix_lst, ty_int, ty_tup, ty_str, isi_ii, isi_ib, isi_tt, isi_ss, reduceIte, Bool.true_eq_false, Bool.false_eq_true, Bool.not_true, Bool.not_false,  List.zip_cons_cons, List.zip_nil_right, List.foldl_cons, List.foldl_nil, ne_eq, not_false_eq_true, not_true_eq_false, Bool.not_eq_true', decide_eq_false_iff_not, decide_eq_true_eq, reduceCtorEq, List.cons.injEq, and_self, D.ref.injEq, Cell.obj.injEq, D.int.injEq]
    by_cases hk : (ik : Int) = 0
    · rw [if_neg (by simpa using hk)]
      exact fin cs M k1 k2 k3 k6 (k7.mono (by omega)) k4
    · rw [if_pos hk, show (4 : Int) - (a : Int) = ((4 - a : Nat) : Int) from by omega]
      have hi4 : i < 4 := by omega
      refine ⟨p, 4 - a, _, rfl, by omega, by omega, k7, by omega, fun j' m6 hj' c6 p6 => ?_⟩
      try simp only [body, exs, ex, ev, evs, evB, evO, evT, evI, startD, List.map_cons, List.map_nil, List.length_cons, List.length_nil, Nat.reduceAdd, Nat.reduceSub, List.replicate, List.cons_append, List.nil_append, List.append_nil, List.getElem?_cons_zero, List.getElem?_cons_succ, Option.some.injEq, exists_and_left, exists_eq_left', exists_eq_left, exists_eq, ix_tup, at0, at1, at2, op_add', op_sub', op_mul', op_fdiv', op_mod', op_pow', op_addT, cm_lt, cm_le, cm_gt, cm_ge, cm_eq, cm_ne, cm_eqS, cm_neS, onb, oni, yn_gd, yn_cls, Nat.reduceLT, if_true, if_false, true_and, and_true, List.set_cons_zero, List.set_cons_succ, set_nm, set_tup, set_nil, set_cons, ifb, b1_abs, b1_int, b1_intB, b1_lenT, b1_lenL, b1_tupL, b1_tupT, b2_min, b2_max, seq_tup, seq_lst, seq_sq, gd_sq, ix_sq, len_sq, new_t, new_f, gd_tup, gd_lst, ix_lst, ty_int, ty_tup, ty_str, isi_ii, isi_ib, isi_tt, isi_ss, reduceIte, Bool.true_eq_false, Bool.false_eq_true, Bool.not_true, Bool.not_false,  List.zip_cons_cons, List.zip_nil_right, List.foldl_cons, List.foldl_nil, ne_eq, not_false_eq_true, not_true_eq_false, Bool.not_eq_true', decide_eq_false_iff_not, decide_eq_true_eq, reduceCtorEq, List.cons.injEq, and_self, D.ref.injEq, Cell.obj.injEq, D.int.injEq]
      rw [show (a : Int) + 1 + (j' : Int) = ((a + 1 + j' : Nat) : Int) from by omega, rgD_nat]
      have u6 := k6.chg c6
      refine ⟨by omega, by omega, draw_ltrs p6 u6.no (by omega) (fun d M K h => ⟨_, rfl, _, rfl, by rw [ho]; exact h⟩) fun cs' M' hl' hc' u7 p7 => ?_⟩
      simp only [sl_lstF, op_addLL, body, exs, ex, ev, evs, evB, evO, evT, evI, startD, List.map_cons, List.map_nil, List.length_cons, List.length_nil, Nat.reduceAdd, Nat.reduceSub, List.replicate, List.cons_append, List.nil_append, List.append_nil, List.getElem?_cons_zero, List.getElem?_cons_succ, Option.some.injEq, exists_and_left, exists_eq_left', exists_eq_left, exists_eq, ix_tup, at0, at1, at2, op_add', op_sub', op_mul', op_fdiv', op_mod', op_pow', op_addT, cm_lt, cm_le, cm_gt, cm_ge, cm_eq, cm_ne, cm_eqS, cm_neS, onb, oni, yn_gd, yn_cls, Nat.reduceLT, if_true, if_false, true_and, and_true, List.set_cons_zero, List.set_cons_succ, set_nm, set_tup, set_nil, set_cons, ifb, b1_abs, b1_int, b1_intB, b1_lenT, b1_lenL, b1_tupL, b1_tupT, b2_min, b2_max, seq_tup, seq_lst, seq_sq, gd_sq, ix_sq, len_sq, new_t, new_f, gd_tup, gd_lst, ix_lst, ty_int, ty_tup, ty_str, isi_ii, isi_ib, isi_tt, isi_ss, reduceIte, Bool.true_eq_false, Bool.false_eq_true, Bool.not_true, Bool.not_false,  List.zip_cons_cons, List.zip_nil_right, List.foldl_cons, List.foldl_nil, ne_eq, not_false_eq_true, not_true_eq_false, Bool.not_eq_true', decide_eq_false_iff_not, decide_eq_true_eq, reduceCtorEq, List.cons.injEq, and_self, D.ref.injEq, Cell.obj.injEq, D.int.injEq]
      exact fin cs' M' (by omega) (by omega) hc' (u6.trans u7) (p7.mono (by omega)) (u7.at_ ((c6.other nf).trans k4) nf.symm)
  · rintro r M ⟨cs, o9, ns, rfl, k1, k2, k3, k4, k5, k6, k7⟩
    rw [Nat.zero_add] at k5 k7
    rw [List.take_length] at k5
    refine ⟨trivial, ?_⟩
    simp only [tup_ref k4, body, exs, ex, ev, evs, evB, evO, evT, evI, startD, List.map_cons, List.map_nil, List.length_cons, List.length_nil, Nat.reduceAdd, Nat.reduceSub, List.replicate, List.cons_append, List.nil_append, List.append_nil, List.getElem?_cons_zero, List.getElem?_cons_succ, Option.some.injEq, exists_and_left, exists_eq_left', exists_eq_left, exists_eq, ix_tup, at0, at1, at2, op_add', op_sub', op_mul', op_fdiv', op_mod', op_pow', op_addT, cm_lt, cm_le, cm_gt, cm_ge, cm_eq, cm_ne, cm_eqS, cm_neS, onb, oni, yn_gd, yn_cls, Nat.reduceLT, if_true, if_false, true_and, and_true, List.set_cons_zero, List.set_cons_succ, set_nm, set_tup, set_nil, set_cons, ifb, b1_abs, b1_int, b1_intB, b1_lenT, b1_lenL, b1_tupL, b1_tupT, b2_min, b2_max, seq_tup, seq_lst, seq_sq, gd_sq, ix_sq, len_sq, new_t, new_f, gd_tup, gd_lst, ix_lst, ty_int, ty_tup, ty_str, isi_ii, isi_ib, isi_tt, isi_ss, reduceIte, Bool.true_eq_false, Bool.false_eq_true, Bool.not_true, Bool.not_false,  List.zip_cons_cons, List.zip_nil_right, List.foldl_cons, List.foldl_nil, ne_eq, not_false_eq_true, not_true_eq_false, Bool.not_eq_true', decide_eq_false_iff_not, decide_eq_true_eq, reduceCtorEq, List.cons.injEq, and_self, D.ref.injEq, Cell.obj.injEq, D.int.injEq]
    refine ⟨_, SubO.refl, q ns M ⟨by rw [paired_len k5, tl'], names_nd (k5.mono fun _ _ h => h.2) tnd, paired_left k5⟩ k6 (k7.mono (by omega))⟩
end Og.Lk00
end
section
set_option maxHeartbeats 4000000
set_option autoImplicit false
namespace Og.Lk00
open PySem Og TL L2
/-- one of these ints -/
theorem draw_int {p : Addr} {L : Nat} {m : Mem} {Q : KD} {l : List Int} (hp : Pot L m p) (hL : L ≤ 1000000) (h1 : 1 ≤ l.length) (h2 : l.length ≤ 1000000) (q : ∀ (x : Int) (m' : Mem), x ∈ l → Chg m m' p → Pot (L + 1) m' p → Q (.int x) m') : s_of [.ref p, .lst (l.map D.int)] m Q :=
  ⟨p, L, _, l.map D.int, rfl, hp, hL, by simpa using h1, by simpa using h2, fun _ _ => rfl, fun d m' hd hc hp' => by
    obtain ⟨c, h1, rfl⟩ := List.mem_map.mp hd
    exact q c m' h1 hc hp'⟩
def s_weights : Spec := fun ds m Q => ∃ (p : Addr) (L n : Nat) (b : Int) (ia : Bool), ds = [.ref p, .int b, .int (n : Int), .bl ia] ∧ OkBy b ∧ n ≤ 4 ∧ Pot L m p ∧ L ≤ 900000 ∧ NoObj m ∧ ∀ (ws : List Int) (M : Mem), ws.length = n → (∀ w ∈ ws, OkW b w) → Ux m M p → Pot (L + 20) M p → Q (intsD ws) M
theorem b1_tupF {l : List Int} {m : Mem} {Q : KD} : b1D .tuple (.lst (l.map D.int)) m Q = Q (intsD l) m := b1_tupL
theorem law_weights {X : Ctx} (ht : X.fn 0 = s_take) (ho : X.fn 1 = s_of) (ds : List D) (m : Mem) (Q : KD) (h : s_weights ds m Q) : body X 10 c4 ds m Q := by
  obtain ⟨p, L, n, b, ia, rfl, hb, hn, hp, hL, no, q⟩ := h
  simp only [c4, ht, body, exs, ex, ev, evs, evB, evO, evT, evI, startD, List.map_cons, List.map_nil, List.length_cons, List.length_nil, Nat.reduceAdd, Nat.reduceSub, List.replicate, List.cons_append, List.nil_append, List.append_nil, List.getElem?_cons_zero, List.getElem?_cons_succ, Option.some.injEq, exists_and_left, exists_eq_left', exists_eq_left, exists_eq, ix_tup, at0, at1, at2, op_add', op_sub', op_mul', op_fdiv', op_mod', op_pow', op_addT, cm_lt, cm_le, cm_gt, cm_ge, cm_eq, cm_ne, cm_eqS, cm_neS, onb, oni, yn_gd, yn_cls, Nat.reduceLT, if_true, if_false, true_and, and_true, List.set_cons_zero, List.set_cons_succ, set_nm, set_tup, set_nil, set_cons, ifb, b1_abs, b1_int, b1_intB, b1_lenT, b1_lenL, b1_tupL, b1_tupT, b2_min, b2_max, seq_tup, seq_lst, seq_sq, gd_sq, ix_sq, len_sq, new_t, new_f, gd_tup, gd_lst, ix_lst, ty_int, ty_tup, ty_str, isi_ii, isi_ib, isi_tt, isi_ss, reduceIte, Bool.true_eq_false, Bool.false_eq_true, Bool.not_true, Bool.not_false,  List.zip_cons_cons, List.zip_nil_right, List.foldl_cons, List.foldl_nil, ne_eq, not_false_eq_true, not_true_eq_false, Bool.not_eq_true', decide_eq_false_iff_not, decide_eq_true_eq, reduceCtorEq, List.cons.injEq, and_self, D.ref.injEq, Cell.obj.injEq, D.int.injEq]
  refine ⟨p, 6, L, rfl, by decide, by decide, hp, by omega, fun w m1 hw c1 p1 => ?_⟩
  have u1 := (Ux.refl hp no).chg c1
  -- a comprehension of drawn weights
  have lcw : ∀ (M : Mem) (L' : Nat) (T : D → Mem → (Option D → Mem → Prop) → Prop) (P : Int → Prop) (K : KD), Ux m M p → Pot L' M p → L' + n ≤ L + 20 →
      (∀ (d : D) (M1 : Mem) (K1 : Option D → Mem → Prop) (L1 : Nat), Pot L1 M1 p → L1 ≤ 999000 → (∀ (x : Int) (M2 : Mem), P x → Chg M1 M2 p → Pot (L1 + 1) M2 p → K1 (some (.int x)) M2) → T d M1 K1) →
      (∀ (ws : List Int) (M1 : Mem), ws.length = n → (∀ x ∈ ws, P x) → Ux m M1 p → Pot (L + 20) M1 p → K (.lst (ws.map D.int)) M1) →
      ∀ s, M s = none → lcL (fun _ => True) T s ((List.range n).map fun i => D.int ((i : Nat) : Int)) [] (put M s (.lst [])) (lcEnd false s K) := fun M L' T P K u hP hl hT hK =>
    draw_list 1 hP u.no (P := fun _ x => P x) (fun i hi M1 K1 u1 p1 kK => by
      have hi' : i < n := by simpa using hi
      exact hT _ M1 K1 _ p1 (by omega) fun x M2 hx c2 p2 => kK x M2 hx ((Ux.refl p1 u1.no).chg c2) p2) fun cs M1 hcs u1 p1 => hK cs M1 (by rw [← paired_len hcs, List.length_range]) (paired_all hcs) (u.trans u1) (p1.mono (by rw [List.length_range]; omega))
  try simp only [body, exs, ex, ev, evs, evB, evO, evT, evI, startD, List.map_cons, List.map_nil, List.length_cons, List.length_nil, Nat.reduceAdd, Nat.reduceSub, List.replicate, List.cons_append, List.nil_append, List.append_nil, List.getElem?_cons_zero, List.getElem?_cons_succ, Option.some.injEq, exists_and_left, exists_eq_left', exists_eq_left, exists_eq, ix_tup, at0, at1, at2, op_add', op_sub', op_mul', op_fdiv', op_mod', op_pow', op_addT, cm_lt, cm_le, cm_gt, cm_ge, cm_eq, cm_ne, cm_eqS, cm_neS, onb, oni, yn_gd, yn_cls, Nat.reduceLT, if_true, if_false, true_and, and_true, List.set_cons_zero, List.set_cons_succ, set_nm, set_tup, set_nil, set_cons, ifb, b1_abs, b1_int, b1_intB, b1_lenT, b1_lenL, b1_tupL, b1_tupT, b2_min, b2_max, seq_tup, seq_lst, seq_sq, gd_sq, ix_sq, len_sq, new_t, new_f, gd_tup, gd_lst, ix_lst, ty_int, ty_tup, ty_str, isi_ii, isi_ib, isi_tt, isi_ss, reduceIte, Bool.true_eq_false, Bool.false_eq_true, Bool.not_true, Bool.not_false,  List.zip_cons_cons, List.zip_nil_right, List.foldl_cons, List.foldl_nil, ne_eq, not_false_eq_true, not_true_eq_false, Bool.not_eq_true', decide_eq_false_iff_not, decide_eq_true_eq, reduceCtorEq, List.cons.injEq, and_self, D.ref.injEq, Cell.obj.injEq, D.int.injEq]
  by_cases h0 : (w : Int) = 0
  · rw [if_pos h0]
    refine ⟨by decide, fun a ha => ?_⟩
    refine ⟨_, put_same, by omega, by omega, by decide, fun r hr => ?_⟩
    have e : (List.replicate (n : Int).toNat [D.int 1]).flatten = (List.replicate n (1 : Int)).map D.int := by
      rw [Int.toNat_natCast, rep_ones]
    simp only [e, tup_ref (put_same), body, exs, ex, ev, evs, evB, evO, evT, evI, startD, List.map_cons, List.map_nil, List.length_cons, List.length_nil, Nat.reduceAdd, Nat.reduceSub, List.replicate, List.cons_append, List.nil_append, List.append_nil, List.getElem?_cons_zero, List.getElem?_cons_succ, Option.some.injEq, exists_and_left, exists_eq_left', exists_eq_left, exists_eq, ix_tup, at0, at1, at2, op_add', op_sub', op_mul', op_fdiv', op_mod', op_pow', op_addT, cm_lt, cm_le, cm_gt, cm_ge, cm_eq, cm_ne, cm_eqS, cm_neS, onb, oni, yn_gd, yn_cls, Nat.reduceLT, if_true, if_false, true_and, and_true, List.set_cons_zero, List.set_cons_succ, set_nm, set_tup, set_nil, set_cons, ifb, b1_abs, b1_int, b1_intB, b1_lenT, b1_lenL, b1_tupL, b1_tupT, b2_min, b2_max, seq_tup, seq_lst, seq_sq, gd_sq, ix_sq, len_sq, new_t, new_f, gd_tup, gd_lst, ix_lst, ty_int, ty_tup, ty_str, isi_ii, isi_ib, isi_tt, isi_ss, reduceIte, Bool.true_eq_false, Bool.false_eq_true, Bool.not_true, Bool.not_false,  List.zip_cons_cons, List.zip_nil_right, List.foldl_cons, List.foldl_nil, ne_eq, not_false_eq_true, not_true_eq_false, Bool.not_eq_true', decide_eq_false_iff_not, decide_eq_true_eq, reduceCtorEq, List.cons.injEq, and_self, D.ref.injEq, Cell.obj.injEq, D.int.injEq]
    have na := p1.ne ha
    have hr1 : p ≠ r := (p1.put (c := .lst [D.int 1]) na).ne hr
    exact ⟨_, SubO.refl, q _ _ (by simp) (fun w hw => by rw [List.eq_of_mem_replicate hw]; exact okE_one hb) ((u1.new ha oL).new hr oL) (((p1.put na).put hr1).mono (by omega))⟩
  rw [if_neg h0]
  by_cases hb0 : 0 < b
  · rw [if_pos hb0]
    rw [rgD_nat]
    have hb2 : 2 ≤ b ∧ b ≤ 97 := hb.lt.elim (fun z => by omega) id
    refine ⟨by omega, by omega, lcw m1 (L + 1) _ (OkW b) _ u1 p1 (by omega) (fun d M1 K1 L1 hP hL1 kK => ?_) fun ws M1 h1 h2 u2 p2 => ?_⟩
    · refine ⟨_, rfl, _, rfl, ?_⟩
      try simp only [body, exs, ex, ev, evs, evB, evO, evT, evI, startD, List.map_cons, List.map_nil, List.length_cons, List.length_nil, Nat.reduceAdd, Nat.reduceSub, List.replicate, List.cons_append, List.nil_append, List.append_nil, List.getElem?_cons_zero, List.getElem?_cons_succ, Option.some.injEq, exists_and_left, exists_eq_left', exists_eq_left, exists_eq, ix_tup, at0, at1, at2, op_add', op_sub', op_mul', op_fdiv', op_mod', op_pow', op_addT, cm_lt, cm_le, cm_gt, cm_ge, cm_eq, cm_ne, cm_eqS, cm_neS, onb, oni, yn_gd, yn_cls, Nat.reduceLT, if_true, if_false, true_and, and_true, List.set_cons_zero, List.set_cons_succ, set_nm, set_tup, set_nil, set_cons, ifb, b1_abs, b1_int, b1_intB, b1_lenT, b1_lenL, b1_tupL, b1_tupT, b2_min, b2_max, seq_tup, seq_lst, seq_sq, gd_sq, ix_sq, len_sq, new_t, new_f, gd_tup, gd_lst, ix_lst, ty_int, ty_tup, ty_str, isi_ii, isi_ib, isi_tt, isi_ss, reduceIte, Bool.true_eq_false, Bool.false_eq_true, Bool.not_true, Bool.not_false,  List.zip_cons_cons, List.zip_nil_right, List.foldl_cons, List.foldl_nil, ne_eq, not_false_eq_true, not_true_eq_false, Bool.not_eq_true', decide_eq_false_iff_not, decide_eq_true_eq, reduceCtorEq, List.cons.injEq, and_self, D.ref.injEq, Cell.obj.injEq, D.int.injEq]
      refine ⟨p, (b - 1).toNat, L1, by rw [show (((b - 1).toNat : Nat) : Int) = b - 1 from by omega], by omega, by omega, hP, by omega, fun i M2 hi c2 p2 => ?_⟩
      exact kK (1 + i) M2 ⟨by omega, by unfold OkE; rw [if_neg (by omega)]; omega⟩ c2 p2
    · simp only [b1_tupF]
      exact ⟨M1, SubO.refl, q ws M1 h1 h2 u2 p2⟩
  rw [if_neg hb0]
  have hbz : b = 0 := hb.lt.elim id fun z => by omega
  subst hbz
  simp only [ho, body, exs, ex, ev, evs, evB, evO, evT, evI, startD, List.map_cons, List.map_nil, List.length_cons, List.length_nil, Nat.reduceAdd, Nat.reduceSub, List.replicate, List.cons_append, List.nil_append, List.append_nil, List.getElem?_cons_zero, List.getElem?_cons_succ, Option.some.injEq, exists_and_left, exists_eq_left', exists_eq_left, exists_eq, ix_tup, at0, at1, at2, op_add', op_sub', op_mul', op_fdiv', op_mod', op_pow', op_addT, cm_lt, cm_le, cm_gt, cm_ge, cm_eq, cm_ne, cm_eqS, cm_neS, onb, oni, yn_gd, yn_cls, Nat.reduceLT, if_true, if_false, true_and, and_true, List.set_cons_zero, List.set_cons_succ, set_nm, set_tup, set_nil, set_cons, ifb, b1_abs, b1_int, b1_intB, b1_lenT, b1_lenL, b1_tupL, b1_tupT, b2_min, b2_max, seq_tup, seq_lst, seq_sq, gd_sq, ix_sq, len_sq, new_t, new_f, gd_tup, gd_lst, ix_lst, ty_int, ty_tup, ty_str, isi_ii, isi_ib, isi_tt, isi_ss, reduceIte, Bool.true_eq_false, Bool.false_eq_true, Bool.not_true, Bool.not_false,  List.zip_cons_cons, List.zip_nil_right, List.foldl_cons, List.foldl_nil, ne_eq, not_false_eq_true, not_true_eq_false, Bool.not_eq_true', decide_eq_false_iff_not, decide_eq_true_eq, reduceCtorEq, List.cons.injEq, and_self, D.ref.injEq, Cell.obj.injEq, D.int.injEq]
  have okW0 : ∀ x : Int, x ≠ 0 → x.natAbs ≤ 10 ^ 12 → OkW 0 x := fun x h1 h2 => ⟨h1, by unfold OkE; rw [if_pos rfl]; exact h2⟩
  -- 1 to most each
  have most : (0 : Int) ≤ 12 ∧ (Builtin.Int.intBits 10 : Int) * 12 ≤ 2 ^ 27 ∧ 4 ≤ 1000000 ∧ s_of [D.ref p, D.lst [D.int 3, D.int 3, D.int 99, D.int (10 ^ Int.toNat 12)]] m1 fun x_2 m1 =>
      (n : Int) ≤ 1000000 ∧ -1000000 ≤ (n : Int) ∧ ∀ (p_1 : Addr), m1 p_1 = none → lcL (fun x => True)
        (fun d m2 K => ∃ d_1, (List.set (wipeD [some (D.ref p), some (D.int 0), some (D.int (n : Int)), some (D.bl ia), some (D.int (w : Int)), some x_2, none, none, none, none] [8]) 8 (some d))[0]? = some (some d_1) ∧
          ∃ d_2, (List.set (wipeD [some (D.ref p), some (D.int 0), some (D.int (n : Int)), some (D.bl ia), some (D.int (w : Int)), some x_2, none, none, none, none] [8]) 8 (some d))[5]? = some (some d_2) ∧
            s_take [d_1, d_2] m2 fun y m2 => opD BOp.add (D.int 1) y m2 fun e m4 => K (some e) m4)
        p_1 (rgD 0 (n : Int)) [] (put m1 p_1 (Cell.lst [])) (lcEnd false p_1 fun x m1 => b1D B1.tuple x m1 fun d m1 => ∃ m2, SubO m2 m1 ∧ Q d m2) := by
    refine ⟨by decide, by decide, by decide, draw_int (l := [3, 3, 99, 10 ^ 12]) p1 (by omega) (by decide) (by decide) fun x m2 hx c2 p2 => ?_⟩
    have hx' : 1 ≤ x ∧ x ≤ 10 ^ 12 := by
      simp only [List.mem_cons, List.not_mem_nil, or_false] at hx
      omega
    have u2 := u1.chg c2
    rw [rgD_nat]
    refine ⟨by omega, by omega, lcw m2 (L + 2) _ (OkW 0) _ u2 p2 (by omega) (fun d M1 K1 L1 hP hL1 kK => ?_) fun ws M1 h1 h2 u3 p3 => ?_⟩
    · refine ⟨_, rfl, _, rfl, p, x.toNat, L1, by rw [show ((x.toNat : Nat) : Int) = x from by omega], by omega, by omega, hP, by omega, fun i M2 hi c2 p2 => ?_⟩
      exact kK (1 + i) M2 (okW0 _ (by omega) (by omega)) c2 p2
    · simp only [b1_tupF]
      exact ⟨M1, SubO.refl, q ws M1 h1 h2 u3 p3⟩
  by_cases hia : ia = true
  · rw [if_pos hia]; exact most
  rw [if_neg hia]
  by_cases h3 : (w : Int) < 3
  · rw [if_pos h3]; exact most
  rw [if_neg h3]
  by_cases h3' : (w : Int) = 3
  · rw [if_pos h3', rgD_nat]
    refine ⟨by omega, by omega, lcw m1 (L + 1) _ (OkW 0) _ u1 p1 (by omega) (fun d M1 K1 L1 hP hL1 kK => ?_) fun ws M1 h1 h2 u2 p2 => ?_⟩
    · refine ⟨_, rfl, by decide, by decide, by decide, by decide, by decide, draw_int (l := [10 ^ 12, -10 ^ 12, 1, -1, 99]) hP (by omega) (by decide) (by decide) fun x m2 hx c2 p2 => kK x m2 (okW0 _ ?_ ?_) c2 p2⟩
      · simp only [List.mem_cons, List.not_mem_nil, or_false] at hx
        omega
      · simp only [List.mem_cons, List.not_mem_nil, or_false] at hx
        omega
    · simp only [b1_tupF]
      exact ⟨M1, SubO.refl, q ws M1 h1 h2 u2 p2⟩
  rw [if_neg h3', rgD_nat]
  refine ⟨by omega, by omega, lcw m1 (L + 1) _ (fun x => x ≠ 0 ∧ x.natAbs ≤ 3) _ u1 p1 (by omega) (fun d M1 K1 L1 hP hL1 kK => ?_) fun ws M1 h1 h2 u2 p2 => ?_⟩
  · refine ⟨_, rfl, by decide, draw_int (l := [1, -1, 2, -2, 3, -3]) hP (by omega) (by decide) (by decide) fun x m2 hx c2 p2 => kK x m2 ?_ c2 p2⟩
    simp only [List.mem_cons, List.not_mem_nil, or_false] at hx
    omega
  · have ec : cutD (ws.map D.int) (some 1) none = (ws.drop 1).map D.int := by
      by_cases hl : 1 ≤ ws.length
      · rw [show (1 : Int) = ((1 : Nat) : Int) from rfl, cut_from (by simpa using hl), List.map_drop]
      · have : ws = [] := List.length_eq_zero_iff.mp (by omega)
        subst this; rfl
    simp only [sl_lstF, ec, body, exs, ex, ev, evs, evB, evO, evT, evI, startD, List.map_cons, List.map_nil, List.length_cons, List.length_nil, Nat.reduceAdd, Nat.reduceSub, List.replicate, List.cons_append, List.nil_append, List.append_nil, List.getElem?_cons_zero, List.getElem?_cons_succ, Option.some.injEq, exists_and_left, exists_eq_left', exists_eq_left, exists_eq, ix_tup, at0, at1, at2, op_add', op_sub', op_mul', op_fdiv', op_mod', op_pow', op_addT, cm_lt, cm_le, cm_gt, cm_ge, cm_eq, cm_ne, cm_eqS, cm_neS, onb, oni, yn_gd, yn_cls, Nat.reduceLT, if_true, if_false, true_and, and_true, List.set_cons_zero, List.set_cons_succ, set_nm, set_tup, set_nil, set_cons, ifb, b1_abs, b1_int, b1_intB, b1_lenT, b1_lenL, b1_tupL, b1_tupT, b2_min, b2_max, seq_tup, seq_lst, seq_sq, gd_sq, ix_sq, len_sq, new_t, new_f, gd_tup, gd_lst, ix_lst, ty_int, ty_tup, ty_str, isi_ii, isi_ib, isi_tt, isi_ss, reduceIte, Bool.true_eq_false, Bool.false_eq_true, Bool.not_true, Bool.not_false,  List.zip_cons_cons, List.zip_nil_right, List.foldl_cons, List.foldl_nil, ne_eq, not_false_eq_true, not_true_eq_false, Bool.not_eq_true', decide_eq_false_iff_not, decide_eq_true_eq, reduceCtorEq, List.cons.injEq, and_self, D.ref.injEq, Cell.obj.injEq, D.int.injEq]
    refine lc_pureW (ws.drop 1) D.int D.int (fun _ _ _ => trivial) (fun i _ p' acc K _ k => ⟨_, rfl, k⟩) ?_
    refine ⟨ws.drop 1, rfl, ?_⟩
    have hs3 : ∀ x ∈ ws.drop 1, x ≠ 0 ∧ x.natAbs ≤ 3 := fun x hx => h2 x (List.mem_of_mem_drop hx)
    have hsum : (ws.drop 1).sum.natAbs ≤ 3 * 4 := Nat.le_trans (sumI fun x hx => (hs3 x hx).2) (Nat.mul_le_mul_left _ (by simp; omega))
    try simp only [body, exs, ex, ev, evs, evB, evO, evT, evI, startD, List.map_cons, List.map_nil, List.length_cons, List.length_nil, Nat.reduceAdd, Nat.reduceSub, List.replicate, List.cons_append, List.nil_append, List.append_nil, List.getElem?_cons_zero, List.getElem?_cons_succ, Option.some.injEq, exists_and_left, exists_eq_left', exists_eq_left, exists_eq, ix_tup, at0, at1, at2, op_add', op_sub', op_mul', op_fdiv', op_mod', op_pow', op_addT, cm_lt, cm_le, cm_gt, cm_ge, cm_eq, cm_ne, cm_eqS, cm_neS, onb, oni, yn_gd, yn_cls, Nat.reduceLT, if_true, if_false, true_and, and_true, List.set_cons_zero, List.set_cons_succ, set_nm, set_tup, set_nil, set_cons, ifb, b1_abs, b1_int, b1_intB, b1_lenT, b1_lenL, b1_tupL, b1_tupT, b2_min, b2_max, seq_tup, seq_lst, seq_sq, gd_sq, ix_sq, len_sq, new_t, new_f, gd_tup, gd_lst, ix_lst, ty_int, ty_tup, ty_str, isi_ii, isi_ib, isi_tt, isi_ss, reduceIte, Bool.true_eq_false, Bool.false_eq_true, Bool.not_true, Bool.not_false,  List.zip_cons_cons, List.zip_nil_right, List.foldl_cons, List.foldl_nil, ne_eq, not_false_eq_true, not_true_eq_false, Bool.not_eq_true', decide_eq_false_iff_not, decide_eq_true_eq, reduceCtorEq, List.cons.injEq, and_self, D.ref.injEq, Cell.obj.injEq, D.int.injEq]
    have fin : Q (.tup (ws.map D.int)) M1 := q ws M1 h1 (fun x hx => okW0 x (h2 x hx).1 (by have := (h2 x hx).2; omega)) u2 p2
    by_cases h4 : (w : Int) = 4
    · rw [if_pos h4]
      by_cases hz : -(ws.drop 1).sum = 0
      · rw [if_neg (by simpa using hz)]
        exact ⟨M1, SubO.refl, fin⟩
      · rw [if_pos (by simpa using hz)]
        refine ⟨by decide, ?_⟩
        simp only [op_addLL, body, exs, ex, ev, evs, evB, evO, evT, evI, startD, List.map_cons, List.map_nil, List.length_cons, List.length_nil, Nat.reduceAdd, Nat.reduceSub, List.replicate, List.cons_append, List.nil_append, List.append_nil, List.getElem?_cons_zero, List.getElem?_cons_succ, Option.some.injEq, exists_and_left, exists_eq_left', exists_eq_left, exists_eq, ix_tup, at0, at1, at2, op_add', op_sub', op_mul', op_fdiv', op_mod', op_pow', op_addT, cm_lt, cm_le, cm_gt, cm_ge, cm_eq, cm_ne, cm_eqS, cm_neS, onb, oni, yn_gd, yn_cls, Nat.reduceLT, if_true, if_false, true_and, and_true, List.set_cons_zero, List.set_cons_succ, set_nm, set_tup, set_nil, set_cons, ifb, b1_abs, b1_int, b1_intB, b1_lenT, b1_lenL, b1_tupL, b1_tupT, b2_min, b2_max, seq_tup, seq_lst, seq_sq, gd_sq, ix_sq, len_sq, new_t, new_f, gd_tup, gd_lst, ix_lst, ty_int, ty_tup, ty_str, isi_ii, isi_ib, isi_tt, isi_ss, reduceIte, Bool.true_eq_false, Bool.false_eq_true, Bool.not_true, Bool.not_false,  List.zip_cons_cons, List.zip_nil_right, List.foldl_cons, List.foldl_nil, ne_eq, not_false_eq_true, not_true_eq_false, Bool.not_eq_true', decide_eq_false_iff_not, decide_eq_true_eq, reduceCtorEq, List.cons.injEq, and_self, D.ref.injEq, Cell.obj.injEq, D.int.injEq]
        have hne : ws ≠ [] := fun z => hz (by rw [z]; rfl)
        have hl : 1 ≤ ws.length := List.length_pos_iff.mpr hne
        refine ⟨by simp; omega, M1, SubO.refl, ?_⟩
        refine q (-(ws.drop 1).sum :: ws.drop 1) M1 (by simp; omega) (fun x hx => ?_) u2 p2
        rcases List.mem_cons.mp hx with rfl | hx
        · exact okW0 _ hz (by omega)
        · exact okW0 x (hs3 x hx).1 (by have := (hs3 x hx).2; omega)
    · rw [if_neg h4]
      exact ⟨M1, SubO.refl, fin⟩
end Og.Lk00
end
section
set_option maxHeartbeats 4000000
set_option autoImplicit false
namespace Og.Lk00
open PySem Og TL L2
def s_table : Spec := fun ds m Q => ∃ (p : Addr) (L n : Nat) (b : Int), ds = [.ref p, .int b, .int (n : Int)] ∧ OkBy b ∧ 1 ≤ n ∧ n ≤ 4 ∧ Pot L m p ∧ L ≤ 900000 ∧ NoObj m ∧ ∀ (t : List (List Int)) (M : Mem), OkT b n t → Ux m M p → Pot (L + 50) M p → Q (tabD t) M
theorem mod_in' {x b : Int} (h : 2 ≤ b) : 0 ≤ x.fmod b ∧ x.fmod b < b := by
  rw [Int.fmod_eq_emod_of_nonneg _ (by omega)]
  exact ⟨Int.emod_nonneg _ (by omega), Int.emod_lt_of_pos _ (by omega)⟩
theorem mul12 {a b : Int} (h1 : a.natAbs ≤ 9) (h2 : b.natAbs ≤ 9) : (a * b).natAbs ≤ 81 := by
  rw [Int.natAbs_mul]
  exact Nat.mul_le_mul h1 h2
abbrev tabR (p : Addr) (b : Int) (n w : Nat) (lo hi : Int) (t : List (List Int)) : Rho := [some (.ref p), some (.int b), some (.int (n : Int)), some (.int (w : Int)), some (.lst (nsD n)), some (.int lo), some (.int hi), some (gridD t), none, none, none, none]
theorem tab_last {X : Ctx} {Q : KD} {p : Addr} {L n w : Nat} {b lo hi : Int} {m : Mem} (hb : OkBy b) (q : ∀ (t : List (List Int)) (M : Mem), OkT b n t → Ux m M p → Pot (L + 50) M p → Q (tabD t) M) (t : List (List Int)) (M : Mem) (ht : Grid (fun x => x.natAbs ≤ 10 ^ 12) n t) (hu : Ux m M p) (hp : Pot (L + 50) M p) :
    exs X (c6.drop 4) (tabR p b n w lo hi t) M (endK Q) := by
  simp only [c6, List.drop, tabR, gridD, body, exs, ex, ev, evs, evB, evO, evT, evI, startD, List.map_cons, List.map_nil, List.length_cons, List.length_nil, Nat.reduceAdd, Nat.reduceSub, List.replicate, List.cons_append, List.nil_append, List.append_nil, List.getElem?_cons_zero, List.getElem?_cons_succ, Option.some.injEq, exists_and_left, exists_eq_left', exists_eq_left, exists_eq, ix_tup, at0, at1, at2, op_add', op_sub', op_mul', op_fdiv', op_mod', op_pow', op_addT, cm_lt, cm_le, cm_gt, cm_ge, cm_eq, cm_ne, cm_eqS, cm_neS, onb, oni, yn_gd, yn_cls, Nat.reduceLT, if_true, if_false, true_and, and_true, List.set_cons_zero, List.set_cons_succ, set_nm, set_tup, set_nil, set_cons, ifb, b1_abs, b1_int, b1_intB, b1_lenT, b1_lenL, b1_tupL, b1_tupT, b2_min, b2_max, seq_tup, seq_lst, seq_sq, gd_sq, ix_sq, len_sq, new_t, new_f, gd_tup, gd_lst, ix_lst, ty_int, ty_tup, ty_str, isi_ii, isi_ib, isi_tt, isi_ss, reduceIte, Bool.true_eq_false, Bool.false_eq_true, Bool.not_true, Bool.not_false,  List.zip_cons_cons, List.zip_nil_right, List.foldl_cons, List.foldl_nil, ne_eq, not_false_eq_true, not_true_eq_false, Bool.not_eq_true', decide_eq_false_iff_not, decide_eq_true_eq, reduceCtorEq, List.cons.injEq, and_self, D.ref.injEq, Cell.obj.injEq, D.int.injEq]
  have e : (t.map fun r => D.lst (r.map D.int)) = t.map (fun r => (fun r : List Int => D.lst (r.map D.int)) r) := rfl
  refine lc_keep t (fun r => D.lst (r.map D.int)) (fun r d => ∃ r', r'.length = r.length ∧ (∀ x ∈ r', OkE b x) ∧ d = intsD r') hu.no (fun i hi M1 K u1 kK => ?_) fun es M1 hes u1 => ?_
  · refine ⟨_, rfl, _, rfl, ?_⟩
    refine lc_keep t[i] D.int (fun x d => ∃ x', OkE b x' ∧ d = .int x') u1.no (fun j hj M2 K2 u2 kK2 => ?_) fun es2 M2 hes2 u2 => ?_
    · try simp only [body, exs, ex, ev, evs, evB, evO, evT, evI, startD, List.map_cons, List.map_nil, List.length_cons, List.length_nil, Nat.reduceAdd, Nat.reduceSub, List.replicate, List.cons_append, List.nil_append, List.append_nil, List.getElem?_cons_zero, List.getElem?_cons_succ, Option.some.injEq, exists_and_left, exists_eq_left', exists_eq_left, exists_eq, ix_tup, at0, at1, at2, op_add', op_sub', op_mul', op_fdiv', op_mod', op_pow', op_addT, cm_lt, cm_le, cm_gt, cm_ge, cm_eq, cm_ne, cm_eqS, cm_neS, onb, oni, yn_gd, yn_cls, Nat.reduceLT, if_true, if_false, true_and, and_true, List.set_cons_zero, List.set_cons_succ, set_nm, set_tup, set_nil, set_cons, ifb, b1_abs, b1_int, b1_intB, b1_lenT, b1_lenL, b1_tupL, b1_tupT, b2_min, b2_max, seq_tup, seq_lst, seq_sq, gd_sq, ix_sq, len_sq, new_t, new_f, gd_tup, gd_lst, ix_lst, ty_int, ty_tup, ty_str, isi_ii, isi_ib, isi_tt, isi_ss, reduceIte, Bool.true_eq_false, Bool.false_eq_true, Bool.not_true, Bool.not_false,  List.zip_cons_cons, List.zip_nil_right, List.foldl_cons, List.foldl_nil, ne_eq, not_false_eq_true, not_true_eq_false, Bool.not_eq_true', decide_eq_false_iff_not, decide_eq_true_eq, reduceCtorEq, List.cons.injEq, and_self, D.ref.injEq, Cell.obj.injEq, D.int.injEq]
      have hx : t[i][j].natAbs ≤ 10 ^ 12 := (ht.2 _ (List.getElem_mem hi)).2 _ (List.getElem_mem hj)
      generalize t[i][j] = x at hx
      refine ⟨_, rfl, ?_⟩
      try simp only [body, exs, ex, ev, evs, evB, evO, evT, evI, startD, List.map_cons, List.map_nil, List.length_cons, List.length_nil, Nat.reduceAdd, Nat.reduceSub, List.replicate, List.cons_append, List.nil_append, List.append_nil, List.getElem?_cons_zero, List.getElem?_cons_succ, Option.some.injEq, exists_and_left, exists_eq_left', exists_eq_left, exists_eq, ix_tup, at0, at1, at2, op_add', op_sub', op_mul', op_fdiv', op_mod', op_pow', op_addT, cm_lt, cm_le, cm_gt, cm_ge, cm_eq, cm_ne, cm_eqS, cm_neS, onb, oni, yn_gd, yn_cls, Nat.reduceLT, if_true, if_false, true_and, and_true, List.set_cons_zero, List.set_cons_succ, set_nm, set_tup, set_nil, set_cons, ifb, b1_abs, b1_int, b1_intB, b1_lenT, b1_lenL, b1_tupL, b1_tupT, b2_min, b2_max, seq_tup, seq_lst, seq_sq, gd_sq, ix_sq, len_sq, new_t, new_f, gd_tup, gd_lst, ix_lst, ty_int, ty_tup, ty_str, isi_ii, isi_ib, isi_tt, isi_ss, reduceIte, Bool.true_eq_false, Bool.false_eq_true, Bool.not_true, Bool.not_false,  List.zip_cons_cons, List.zip_nil_right, List.foldl_cons, List.foldl_nil, ne_eq, not_false_eq_true, not_true_eq_false, Bool.not_eq_true', decide_eq_false_iff_not, decide_eq_true_eq, reduceCtorEq, List.cons.injEq, and_self, D.ref.injEq, Cell.obj.injEq, D.int.injEq]
      by_cases hb0 : 0 < b
      · rw [if_pos hb0]
        have hb2 : 2 ≤ b ∧ b ≤ 97 := hb.lt.elim (fun z => by omega) id
        refine ⟨_, rfl, ?_⟩
        try simp only [body, exs, ex, ev, evs, evB, evO, evT, evI, startD, List.map_cons, List.map_nil, List.length_cons, List.length_nil, Nat.reduceAdd, Nat.reduceSub, List.replicate, List.cons_append, List.nil_append, List.append_nil, List.getElem?_cons_zero, List.getElem?_cons_succ, Option.some.injEq, exists_and_left, exists_eq_left', exists_eq_left, exists_eq, ix_tup, at0, at1, at2, op_add', op_sub', op_mul', op_fdiv', op_mod', op_pow', op_addT, cm_lt, cm_le, cm_gt, cm_ge, cm_eq, cm_ne, cm_eqS, cm_neS, onb, oni, yn_gd, yn_cls, Nat.reduceLT, if_true, if_false, true_and, and_true, List.set_cons_zero, List.set_cons_succ, set_nm, set_tup, set_nil, set_cons, ifb, b1_abs, b1_int, b1_intB, b1_lenT, b1_lenL, b1_tupL, b1_tupT, b2_min, b2_max, seq_tup, seq_lst, seq_sq, gd_sq, ix_sq, len_sq, new_t, new_f, gd_tup, gd_lst, ix_lst, ty_int, ty_tup, ty_str, isi_ii, isi_ib, isi_tt, isi_ss, reduceIte, Bool.true_eq_false, Bool.false_eq_true, Bool.not_true, Bool.not_false,  List.zip_cons_cons, List.zip_nil_right, List.foldl_cons, List.foldl_nil, ne_eq, not_false_eq_true, not_true_eq_false, Bool.not_eq_true', decide_eq_false_iff_not, decide_eq_true_eq, reduceCtorEq, List.cons.injEq, and_self, D.ref.injEq, Cell.obj.injEq, D.int.injEq]
        refine ⟨_, rfl, ?_⟩
        try simp only [body, exs, ex, ev, evs, evB, evO, evT, evI, startD, List.map_cons, List.map_nil, List.length_cons, List.length_nil, Nat.reduceAdd, Nat.reduceSub, List.replicate, List.cons_append, List.nil_append, List.append_nil, List.getElem?_cons_zero, List.getElem?_cons_succ, Option.some.injEq, exists_and_left, exists_eq_left', exists_eq_left, exists_eq, ix_tup, at0, at1, at2, op_add', op_sub', op_mul', op_fdiv', op_mod', op_pow', op_addT, cm_lt, cm_le, cm_gt, cm_ge, cm_eq, cm_ne, cm_eqS, cm_neS, onb, oni, yn_gd, yn_cls, Nat.reduceLT, if_true, if_false, true_and, and_true, List.set_cons_zero, List.set_cons_succ, set_nm, set_tup, set_nil, set_cons, ifb, b1_abs, b1_int, b1_intB, b1_lenT, b1_lenL, b1_tupL, b1_tupT, b2_min, b2_max, seq_tup, seq_lst, seq_sq, gd_sq, ix_sq, len_sq, new_t, new_f, gd_tup, gd_lst, ix_lst, ty_int, ty_tup, ty_str, isi_ii, isi_ib, isi_tt, isi_ss, reduceIte, Bool.true_eq_false, Bool.false_eq_true, Bool.not_true, Bool.not_false,  List.zip_cons_cons, List.zip_nil_right, List.foldl_cons, List.foldl_nil, ne_eq, not_false_eq_true, not_true_eq_false, Bool.not_eq_true', decide_eq_false_iff_not, decide_eq_true_eq, reduceCtorEq, List.cons.injEq, and_self, D.ref.injEq, Cell.obj.injEq, D.int.injEq]
        refine ⟨by omega, kK2 _ M2 (Kx.refl u2.no) ⟨_, ?_, rfl⟩⟩
        unfold OkE
        rw [if_neg (by omega)]
        exact mod_in' hb2.1
      · rw [if_neg hb0]
        refine ⟨_, rfl, kK2 _ M2 (Kx.refl u2.no) ⟨_, ?_, rfl⟩⟩
        unfold OkE
        rw [if_pos (hb.lt.elim id fun z => by omega)]
        exact hx
    · obtain ⟨cs, rfl, h1, h2⟩ := paired_out hes2
      simp only [b1_tupF]
      exact kK _ M2 u2 ⟨cs, h1, h2, rfl⟩
  · obtain ⟨cs, rfl, h1⟩ := paired_fn (P := fun (r r' : List Int) => r'.length = r.length ∧ ∀ x ∈ r', OkE b x) (g := intsD) (hes.mono fun _ _ ⟨r', h1, h2, h3⟩ => ⟨r', ⟨h1, h2⟩, h3⟩)
    try simp only [body, exs, ex, ev, evs, evB, evO, evT, evI, startD, List.map_cons, List.map_nil, List.length_cons, List.length_nil, Nat.reduceAdd, Nat.reduceSub, List.replicate, List.cons_append, List.nil_append, List.append_nil, List.getElem?_cons_zero, List.getElem?_cons_succ, Option.some.injEq, exists_and_left, exists_eq_left', exists_eq_left, exists_eq, ix_tup, at0, at1, at2, op_add', op_sub', op_mul', op_fdiv', op_mod', op_pow', op_addT, cm_lt, cm_le, cm_gt, cm_ge, cm_eq, cm_ne, cm_eqS, cm_neS, onb, oni, yn_gd, yn_cls, Nat.reduceLT, if_true, if_false, true_and, and_true, List.set_cons_zero, List.set_cons_succ, set_nm, set_tup, set_nil, set_cons, ifb, b1_abs, b1_int, b1_intB, b1_lenT, b1_lenL, b1_tupL, b1_tupT, b2_min, b2_max, seq_tup, seq_lst, seq_sq, gd_sq, ix_sq, len_sq, new_t, new_f, gd_tup, gd_lst, ix_lst, ty_int, ty_tup, ty_str, isi_ii, isi_ib, isi_tt, isi_ss, reduceIte, Bool.true_eq_false, Bool.false_eq_true, Bool.not_true, Bool.not_false,  List.zip_cons_cons, List.zip_nil_right, List.foldl_cons, List.foldl_nil, ne_eq, not_false_eq_true, not_true_eq_false, Bool.not_eq_true', decide_eq_false_iff_not, decide_eq_true_eq, reduceCtorEq, List.cons.injEq, and_self, D.ref.injEq, Cell.obj.injEq, D.int.injEq]
    refine ⟨M1, SubO.refl, q cs M1 ⟨by rw [← paired_len h1]; exact ht.1, fun r hr => ?_⟩ (hu.kx u1) (hp.kx u1)⟩
    exact paired_to (A := fun r : List Int => r.length = n ∧ ∀ x ∈ r, x.natAbs ≤ 10 ^ 12) (B := fun r : List Int => r.length = n ∧ ∀ x ∈ r, OkE b x) h1 (fun r r' h hr => ⟨h.1.trans hr.1, h.2⟩) ht.2 r hr
theorem seq_grid {t : List (List Int)} {m : Mem} : seqOf m (gridD t) = some (t.map fun r => .lst (r.map D.int)) := rfl
/-- the branches: another grid, its numbers not too great -/
theorem tab_mid {X : Ctx} (ho : X.fn 1 = s_of) {Q : KD} {p : Addr} {L n w : Nat} {b lo hi : Int} {m : Mem} (hn1 : 1 ≤ n) (hn : n ≤ 4) (hL : L ≤ 900000) (t : List (List Int)) (M : Mem) (ht : Grid (fun x => x.natAbs ≤ 9) n t) (hu : Ux m M p) (hp : Pot (L + 30) M p)
    (k : ∀ (t : List (List Int)) (M : Mem), Grid (fun x => x.natAbs ≤ 10 ^ 12) n t → Ux m M p → Pot (L + 50) M p → exs X (c6.drop 4) (tabR p b n w lo hi t) M (endK Q)) :
    exs X (c6.drop 3) (tabR p b n w lo hi t) M (endK Q) := by
  generalize hR : c6.drop 4 = R at k
  have e3 : c6.drop 3 = (c6.drop 3).take 1 ++ R := by rw [← hR]; rfl
  rw [e3, exs_app]
  simp only [c6, List.drop, List.take, tabR, ho, body, exs, ex, ev, evs, evB, evO, evT, evI, startD, List.map_cons, List.map_nil, List.length_cons, List.length_nil, Nat.reduceAdd, Nat.reduceSub, List.replicate, List.cons_append, List.nil_append, List.append_nil, List.getElem?_cons_zero, List.getElem?_cons_succ, Option.some.injEq, exists_and_left, exists_eq_left', exists_eq_left, exists_eq, ix_tup, at0, at1, at2, op_add', op_sub', op_mul', op_fdiv', op_mod', op_pow', op_addT, cm_lt, cm_le, cm_gt, cm_ge, cm_eq, cm_ne, cm_eqS, cm_neS, onb, oni, yn_gd, yn_cls, Nat.reduceLT, if_true, if_false, true_and, and_true, List.set_cons_zero, List.set_cons_succ, set_nm, set_tup, set_nil, set_cons, ifb, b1_abs, b1_int, b1_intB, b1_lenT, b1_lenL, b1_tupL, b1_tupT, b2_min, b2_max, seq_tup, seq_lst, seq_sq, gd_sq, ix_sq, len_sq, new_t, new_f, gd_tup, gd_lst, ix_lst, ty_int, ty_tup, ty_str, isi_ii, isi_ib, isi_tt, isi_ss, reduceIte, Bool.true_eq_false, Bool.false_eq_true, Bool.not_true, Bool.not_false,  List.zip_cons_cons, List.zip_nil_right, List.foldl_cons, List.foldl_nil, ne_eq, not_false_eq_true, not_true_eq_false, Bool.not_eq_true', decide_eq_false_iff_not, decide_eq_true_eq, reduceCtorEq, List.cons.injEq, and_self, D.ref.injEq, Cell.obj.injEq, D.int.injEq]
  have k' : ∀ (t : List (List Int)) (M' : Mem), Grid (fun x => x.natAbs ≤ 81) n t → Ux M M' p → Pot (L + 30) M' p → exs X R (tabR p b n w lo hi t) M' (endK Q) := fun t M' h1 h2 h3 => k t M' ⟨h1.1, fun r hr => ⟨(h1.2 r hr).1, fun x hx => by have := (h1.2 r hr).2 x hx; omega⟩⟩ (hu.trans h2) (h3.mono (by omega))
  by_cases w0 : (w : Int) = 0
  · rw [if_pos w0]
    refine grid (k := 0) (P := fun x => x.natAbs ≤ 81) hp hu.no (fun a ha M1 K h => ⟨_, rfl, _, rfl, h⟩) (fun a b' ha hb M1 K L' u1 p1 hl kK => ⟨_, rfl, _, rfl, ?_⟩) fun t M1 hg u1 p1 => k' t M1 hg u1 (by simpa using p1)
    try simp only [body, exs, ex, ev, evs, evB, evO, evT, evI, startD, List.map_cons, List.map_nil, List.length_cons, List.length_nil, Nat.reduceAdd, Nat.reduceSub, List.replicate, List.cons_append, List.nil_append, List.append_nil, List.getElem?_cons_zero, List.getElem?_cons_succ, Option.some.injEq, exists_and_left, exists_eq_left', exists_eq_left, exists_eq, ix_tup, at0, at1, at2, op_add', op_sub', op_mul', op_fdiv', op_mod', op_pow', op_addT, cm_lt, cm_le, cm_gt, cm_ge, cm_eq, cm_ne, cm_eqS, cm_neS, onb, oni, yn_gd, yn_cls, Nat.reduceLT, if_true, if_false, true_and, and_true, List.set_cons_zero, List.set_cons_succ, set_nm, set_tup, set_nil, set_cons, ifb, b1_abs, b1_int, b1_intB, b1_lenT, b1_lenL, b1_tupL, b1_tupT, b2_min, b2_max, seq_tup, seq_lst, seq_sq, gd_sq, ix_sq, len_sq, new_t, new_f, gd_tup, gd_lst, ix_lst, ty_int, ty_tup, ty_str, isi_ii, isi_ib, isi_tt, isi_ss, reduceIte, Bool.true_eq_false, Bool.false_eq_true, Bool.not_true, Bool.not_false,  List.zip_cons_cons, List.zip_nil_right, List.foldl_cons, List.foldl_nil, ne_eq, not_false_eq_true, not_true_eq_false, Bool.not_eq_true', decide_eq_false_iff_not, decide_eq_true_eq, reduceCtorEq, List.cons.injEq, and_self, D.ref.injEq, Cell.obj.injEq, D.int.injEq]
    exact kK _ M1 (by split <;> decide) (Ux.refl p1 u1.no) p1
  rw [if_neg w0]
  by_cases w1 : (w : Int) = 1
  · rw [if_pos w1]
    refine grid (k := 0) (P := fun x => x.natAbs ≤ 81) hp hu.no (fun a ha M1 K h => ⟨_, rfl, _, rfl, h⟩) (fun a b' ha hb M1 K L' u1 p1 hl kK => ⟨_, rfl, _, rfl, ?_⟩) fun t M1 hg u1 p1 => k' t M1 hg u1 (by simpa using p1)
    try simp only [body, exs, ex, ev, evs, evB, evO, evT, evI, startD, List.map_cons, List.map_nil, List.length_cons, List.length_nil, Nat.reduceAdd, Nat.reduceSub, List.replicate, List.cons_append, List.nil_append, List.append_nil, List.getElem?_cons_zero, List.getElem?_cons_succ, Option.some.injEq, exists_and_left, exists_eq_left', exists_eq_left, exists_eq, ix_tup, at0, at1, at2, op_add', op_sub', op_mul', op_fdiv', op_mod', op_pow', op_addT, cm_lt, cm_le, cm_gt, cm_ge, cm_eq, cm_ne, cm_eqS, cm_neS, onb, oni, yn_gd, yn_cls, Nat.reduceLT, if_true, if_false, true_and, and_true, List.set_cons_zero, List.set_cons_succ, set_nm, set_tup, set_nil, set_cons, ifb, b1_abs, b1_int, b1_intB, b1_lenT, b1_lenL, b1_tupL, b1_tupT, b2_min, b2_max, seq_tup, seq_lst, seq_sq, gd_sq, ix_sq, len_sq, new_t, new_f, gd_tup, gd_lst, ix_lst, ty_int, ty_tup, ty_str, isi_ii, isi_ib, isi_tt, isi_ss, reduceIte, Bool.true_eq_false, Bool.false_eq_true, Bool.not_true, Bool.not_false,  List.zip_cons_cons, List.zip_nil_right, List.foldl_cons, List.foldl_nil, ne_eq, not_false_eq_true, not_true_eq_false, Bool.not_eq_true', decide_eq_false_iff_not, decide_eq_true_eq, reduceCtorEq, List.cons.injEq, and_self, D.ref.injEq, Cell.obj.injEq, D.int.injEq]
    exact kK _ M1 (by split <;> decide) (Ux.refl p1 u1.no) p1
  rw [if_neg w1]
  by_cases w2 : (w : Int) = 2
  · rw [if_pos w2]
    refine grid (k := 0) (P := fun x => x.natAbs ≤ 81) hp hu.no (fun a ha M1 K h => ⟨_, rfl, _, rfl, h⟩) (fun a b' ha hb M1 K L' u1 p1 hl kK => ⟨_, rfl, _, rfl, ?_⟩) fun t M1 hg u1 p1 => k' t M1 hg u1 (by simpa using p1)
    try simp only [body, exs, ex, ev, evs, evB, evO, evT, evI, startD, List.map_cons, List.map_nil, List.length_cons, List.length_nil, Nat.reduceAdd, Nat.reduceSub, List.replicate, List.cons_append, List.nil_append, List.append_nil, List.getElem?_cons_zero, List.getElem?_cons_succ, Option.some.injEq, exists_and_left, exists_eq_left', exists_eq_left, exists_eq, ix_tup, at0, at1, at2, op_add', op_sub', op_mul', op_fdiv', op_mod', op_pow', op_addT, cm_lt, cm_le, cm_gt, cm_ge, cm_eq, cm_ne, cm_eqS, cm_neS, onb, oni, yn_gd, yn_cls, Nat.reduceLT, if_true, if_false, true_and, and_true, List.set_cons_zero, List.set_cons_succ, set_nm, set_tup, set_nil, set_cons, ifb, b1_abs, b1_int, b1_intB, b1_lenT, b1_lenL, b1_tupL, b1_tupT, b2_min, b2_max, seq_tup, seq_lst, seq_sq, gd_sq, ix_sq, len_sq, new_t, new_f, gd_tup, gd_lst, ix_lst, ty_int, ty_tup, ty_str, isi_ii, isi_ib, isi_tt, isi_ss, reduceIte, Bool.true_eq_false, Bool.false_eq_true, Bool.not_true, Bool.not_false,  List.zip_cons_cons, List.zip_nil_right, List.foldl_cons, List.foldl_nil, ne_eq, not_false_eq_true, not_true_eq_false, Bool.not_eq_true', decide_eq_false_iff_not, decide_eq_true_eq, reduceCtorEq, List.cons.injEq, and_self, D.ref.injEq, Cell.obj.injEq, D.int.injEq]
    refine ⟨_, rfl, ?_⟩
    try simp only [body, exs, ex, ev, evs, evB, evO, evT, evI, startD, List.map_cons, List.map_nil, List.length_cons, List.length_nil, Nat.reduceAdd, Nat.reduceSub, List.replicate, List.cons_append, List.nil_append, List.append_nil, List.getElem?_cons_zero, List.getElem?_cons_succ, Option.some.injEq, exists_and_left, exists_eq_left', exists_eq_left, exists_eq, ix_tup, at0, at1, at2, op_add', op_sub', op_mul', op_fdiv', op_mod', op_pow', op_addT, cm_lt, cm_le, cm_gt, cm_ge, cm_eq, cm_ne, cm_eqS, cm_neS, onb, oni, yn_gd, yn_cls, Nat.reduceLT, if_true, if_false, true_and, and_true, List.set_cons_zero, List.set_cons_succ, set_nm, set_tup, set_nil, set_cons, ifb, b1_abs, b1_int, b1_intB, b1_lenT, b1_lenL, b1_tupL, b1_tupT, b2_min, b2_max, seq_tup, seq_lst, seq_sq, gd_sq, ix_sq, len_sq, new_t, new_f, gd_tup, gd_lst, ix_lst, ty_int, ty_tup, ty_str, isi_ii, isi_ib, isi_tt, isi_ss, reduceIte, Bool.true_eq_false, Bool.false_eq_true, Bool.not_true, Bool.not_false,  List.zip_cons_cons, List.zip_nil_right, List.foldl_cons, List.foldl_nil, ne_eq, not_false_eq_true, not_true_eq_false, Bool.not_eq_true', decide_eq_false_iff_not, decide_eq_true_eq, reduceCtorEq, List.cons.injEq, and_self, D.ref.injEq, Cell.obj.injEq, D.int.injEq]
    refine ⟨by omega, ?_⟩
    exact kK _ M1 (by split <;> decide) (Ux.refl p1 u1.no) p1
  rw [if_neg w2]
  by_cases w3 : (w : Int) < 6
  · rw [if_pos w3]
    refine grid (k := 0) (P := fun x => x.natAbs ≤ 81) hp hu.no (fun a ha M1 K h => ⟨_, rfl, _, rfl, h⟩) (fun a b' ha hb M1 K L' u1 p1 hl kK => ⟨_, rfl, _, rfl, _, rfl, ?_⟩) fun t M1 hg u1 p1 => k' t M1 hg u1 (by simpa using p1)
    try simp only [body, exs, ex, ev, evs, evB, evO, evT, evI, startD, List.map_cons, List.map_nil, List.length_cons, List.length_nil, Nat.reduceAdd, Nat.reduceSub, List.replicate, List.cons_append, List.nil_append, List.append_nil, List.getElem?_cons_zero, List.getElem?_cons_succ, Option.some.injEq, exists_and_left, exists_eq_left', exists_eq_left, exists_eq, ix_tup, at0, at1, at2, op_add', op_sub', op_mul', op_fdiv', op_mod', op_pow', op_addT, cm_lt, cm_le, cm_gt, cm_ge, cm_eq, cm_ne, cm_eqS, cm_neS, onb, oni, yn_gd, yn_cls, Nat.reduceLT, if_true, if_false, true_and, and_true, List.set_cons_zero, List.set_cons_succ, set_nm, set_tup, set_nil, set_cons, ifb, b1_abs, b1_int, b1_intB, b1_lenT, b1_lenL, b1_tupL, b1_tupT, b2_min, b2_max, seq_tup, seq_lst, seq_sq, gd_sq, ix_sq, len_sq, new_t, new_f, gd_tup, gd_lst, ix_lst, ty_int, ty_tup, ty_str, isi_ii, isi_ib, isi_tt, isi_ss, reduceIte, Bool.true_eq_false, Bool.false_eq_true, Bool.not_true, Bool.not_false,  List.zip_cons_cons, List.zip_nil_right, List.foldl_cons, List.foldl_nil, ne_eq, not_false_eq_true, not_true_eq_false, Bool.not_eq_true', decide_eq_false_iff_not, decide_eq_true_eq, reduceCtorEq, List.cons.injEq, and_self, D.ref.injEq, Cell.obj.injEq, D.int.injEq]
    obtain ⟨r, x, e1, e2, hx⟩ := grid_at ht (a := min a b') (b := max a b') (by omega) (by omega)
    rw [show min (a : Int) (b' : Int) = ((min a b' : Nat) : Int) from by omega, ix_gridD]
    refine ⟨_, gridD_row e1, _, rfl, _, rfl, ?_⟩
    try simp only [body, exs, ex, ev, evs, evB, evO, evT, evI, startD, List.map_cons, List.map_nil, List.length_cons, List.length_nil, Nat.reduceAdd, Nat.reduceSub, List.replicate, List.cons_append, List.nil_append, List.append_nil, List.getElem?_cons_zero, List.getElem?_cons_succ, Option.some.injEq, exists_and_left, exists_eq_left', exists_eq_left, exists_eq, ix_tup, at0, at1, at2, op_add', op_sub', op_mul', op_fdiv', op_mod', op_pow', op_addT, cm_lt, cm_le, cm_gt, cm_ge, cm_eq, cm_ne, cm_eqS, cm_neS, onb, oni, yn_gd, yn_cls, Nat.reduceLT, if_true, if_false, true_and, and_true, List.set_cons_zero, List.set_cons_succ, set_nm, set_tup, set_nil, set_cons, ifb, b1_abs, b1_int, b1_intB, b1_lenT, b1_lenL, b1_tupL, b1_tupT, b2_min, b2_max, seq_tup, seq_lst, seq_sq, gd_sq, ix_sq, len_sq, new_t, new_f, gd_tup, gd_lst, ix_lst, ty_int, ty_tup, ty_str, isi_ii, isi_ib, isi_tt, isi_ss, reduceIte, Bool.true_eq_false, Bool.false_eq_true, Bool.not_true, Bool.not_false,  List.zip_cons_cons, List.zip_nil_right, List.foldl_cons, List.foldl_nil, ne_eq, not_false_eq_true, not_true_eq_false, Bool.not_eq_true', decide_eq_false_iff_not, decide_eq_true_eq, reduceCtorEq, List.cons.injEq, and_self, D.ref.injEq, Cell.obj.injEq, D.int.injEq]
    rw [show max (a : Int) (b' : Int) = ((max a b' : Nat) : Int) from by omega]
    refine ⟨_, row_at e2, kK _ M1 (by omega) (Ux.refl p1 u1.no) p1⟩
  rw [if_neg w3]
  by_cases w4 : (w : Int) = 6
  · rw [if_pos w4]
    refine grid (k := 0) (P := fun x => x.natAbs ≤ 81) hp hu.no (fun a ha M1 K h => ⟨_, rfl, _, rfl, h⟩) (fun a b' ha hb M1 K L' u1 p1 hl kK => ⟨_, rfl, ?_⟩) fun t M1 hg u1 p1 => k' t M1 hg u1 (by simpa using p1)
    try simp only [body, exs, ex, ev, evs, evB, evO, evT, evI, startD, List.map_cons, List.map_nil, List.length_cons, List.length_nil, Nat.reduceAdd, Nat.reduceSub, List.replicate, List.cons_append, List.nil_append, List.append_nil, List.getElem?_cons_zero, List.getElem?_cons_succ, Option.some.injEq, exists_and_left, exists_eq_left', exists_eq_left, exists_eq, ix_tup, at0, at1, at2, op_add', op_sub', op_mul', op_fdiv', op_mod', op_pow', op_addT, cm_lt, cm_le, cm_gt, cm_ge, cm_eq, cm_ne, cm_eqS, cm_neS, onb, oni, yn_gd, yn_cls, Nat.reduceLT, if_true, if_false, true_and, and_true, List.set_cons_zero, List.set_cons_succ, set_nm, set_tup, set_nil, set_cons, ifb, b1_abs, b1_int, b1_intB, b1_lenT, b1_lenL, b1_tupL, b1_tupT, b2_min, b2_max, seq_tup, seq_lst, seq_sq, gd_sq, ix_sq, len_sq, new_t, new_f, gd_tup, gd_lst, ix_lst, ty_int, ty_tup, ty_str, isi_ii, isi_ib, isi_tt, isi_ss, reduceIte, Bool.true_eq_false, Bool.false_eq_true, Bool.not_true, Bool.not_false,  List.zip_cons_cons, List.zip_nil_right, List.foldl_cons, List.foldl_nil, ne_eq, not_false_eq_true, not_true_eq_false, Bool.not_eq_true', decide_eq_false_iff_not, decide_eq_true_eq, reduceCtorEq, List.cons.injEq, and_self, D.ref.injEq, Cell.obj.injEq, D.int.injEq]
    obtain ⟨r, x, e1, e2, hx⟩ := grid_at ht (a := 0) (b := a) (by omega) ha
    obtain ⟨r', x', e1', e2', hx'⟩ := grid_at ht (a := n - 1) (b := b') (by omega) hb
    rw [show (0 : Int) = ((0 : Nat) : Int) from rfl, ix_gridD]
    refine ⟨_, gridD_row e1, _, rfl, ?_⟩
    try simp only [body, exs, ex, ev, evs, evB, evO, evT, evI, startD, List.map_cons, List.map_nil, List.length_cons, List.length_nil, Nat.reduceAdd, Nat.reduceSub, List.replicate, List.cons_append, List.nil_append, List.append_nil, List.getElem?_cons_zero, List.getElem?_cons_succ, Option.some.injEq, exists_and_left, exists_eq_left', exists_eq_left, exists_eq, ix_tup, at0, at1, at2, op_add', op_sub', op_mul', op_fdiv', op_mod', op_pow', op_addT, cm_lt, cm_le, cm_gt, cm_ge, cm_eq, cm_ne, cm_eqS, cm_neS, onb, oni, yn_gd, yn_cls, Nat.reduceLT, if_true, if_false, true_and, and_true, List.set_cons_zero, List.set_cons_succ, set_nm, set_tup, set_nil, set_cons, ifb, b1_abs, b1_int, b1_intB, b1_lenT, b1_lenL, b1_tupL, b1_tupT, b2_min, b2_max, seq_tup, seq_lst, seq_sq, gd_sq, ix_sq, len_sq, new_t, new_f, gd_tup, gd_lst, ix_lst, ty_int, ty_tup, ty_str, isi_ii, isi_ib, isi_tt, isi_ss, reduceIte, Bool.true_eq_false, Bool.false_eq_true, Bool.not_true, Bool.not_false,  List.zip_cons_cons, List.zip_nil_right, List.foldl_cons, List.foldl_nil, ne_eq, not_false_eq_true, not_true_eq_false, Bool.not_eq_true', decide_eq_false_iff_not, decide_eq_true_eq, reduceCtorEq, List.cons.injEq, and_self, D.ref.injEq, Cell.obj.injEq, D.int.injEq]
    refine ⟨_, row_at e2, _, rfl, ?_⟩
    try simp only [body, exs, ex, ev, evs, evB, evO, evT, evI, startD, List.map_cons, List.map_nil, List.length_cons, List.length_nil, Nat.reduceAdd, Nat.reduceSub, List.replicate, List.cons_append, List.nil_append, List.append_nil, List.getElem?_cons_zero, List.getElem?_cons_succ, Option.some.injEq, exists_and_left, exists_eq_left', exists_eq_left, exists_eq, ix_tup, at0, at1, at2, op_add', op_sub', op_mul', op_fdiv', op_mod', op_pow', op_addT, cm_lt, cm_le, cm_gt, cm_ge, cm_eq, cm_ne, cm_eqS, cm_neS, onb, oni, yn_gd, yn_cls, Nat.reduceLT, if_true, if_false, true_and, and_true, List.set_cons_zero, List.set_cons_succ, set_nm, set_tup, set_nil, set_cons, ifb, b1_abs, b1_int, b1_intB, b1_lenT, b1_lenL, b1_tupL, b1_tupT, b2_min, b2_max, seq_tup, seq_lst, seq_sq, gd_sq, ix_sq, len_sq, new_t, new_f, gd_tup, gd_lst, ix_lst, ty_int, ty_tup, ty_str, isi_ii, isi_ib, isi_tt, isi_ss, reduceIte, Bool.true_eq_false, Bool.false_eq_true, Bool.not_true, Bool.not_false,  List.zip_cons_cons, List.zip_nil_right, List.foldl_cons, List.foldl_nil, ne_eq, not_false_eq_true, not_true_eq_false, Bool.not_eq_true', decide_eq_false_iff_not, decide_eq_true_eq, reduceCtorEq, List.cons.injEq, and_self, D.ref.injEq, Cell.obj.injEq, D.int.injEq]
    rw [ix_gridD]
    have e3' : L2.atI (t.map fun r => D.lst (r.map D.int)) (-1) = some (.lst (r'.map D.int)) := by
      rw [atI_last (by rw [List.length_map, ht.1]; exact hn1), List.length_map, ht.1, List.getElem?_map, e1']; rfl
    refine ⟨_, e3', _, rfl, ?_⟩
    try simp only [body, exs, ex, ev, evs, evB, evO, evT, evI, startD, List.map_cons, List.map_nil, List.length_cons, List.length_nil, Nat.reduceAdd, Nat.reduceSub, List.replicate, List.cons_append, List.nil_append, List.append_nil, List.getElem?_cons_zero, List.getElem?_cons_succ, Option.some.injEq, exists_and_left, exists_eq_left', exists_eq_left, exists_eq, ix_tup, at0, at1, at2, op_add', op_sub', op_mul', op_fdiv', op_mod', op_pow', op_addT, cm_lt, cm_le, cm_gt, cm_ge, cm_eq, cm_ne, cm_eqS, cm_neS, onb, oni, yn_gd, yn_cls, Nat.reduceLT, if_true, if_false, true_and, and_true, List.set_cons_zero, List.set_cons_succ, set_nm, set_tup, set_nil, set_cons, ifb, b1_abs, b1_int, b1_intB, b1_lenT, b1_lenL, b1_tupL, b1_tupT, b2_min, b2_max, seq_tup, seq_lst, seq_sq, gd_sq, ix_sq, len_sq, new_t, new_f, gd_tup, gd_lst, ix_lst, ty_int, ty_tup, ty_str, isi_ii, isi_ib, isi_tt, isi_ss, reduceIte, Bool.true_eq_false, Bool.false_eq_true, Bool.not_true, Bool.not_false,  List.zip_cons_cons, List.zip_nil_right, List.foldl_cons, List.foldl_nil, ne_eq, not_false_eq_true, not_true_eq_false, Bool.not_eq_true', decide_eq_false_iff_not, decide_eq_true_eq, reduceCtorEq, List.cons.injEq, and_self, D.ref.injEq, Cell.obj.injEq, D.int.injEq]
    refine ⟨_, row_at e2', ?_⟩
    try simp only [body, exs, ex, ev, evs, evB, evO, evT, evI, startD, List.map_cons, List.map_nil, List.length_cons, List.length_nil, Nat.reduceAdd, Nat.reduceSub, List.replicate, List.cons_append, List.nil_append, List.append_nil, List.getElem?_cons_zero, List.getElem?_cons_succ, Option.some.injEq, exists_and_left, exists_eq_left', exists_eq_left, exists_eq, ix_tup, at0, at1, at2, op_add', op_sub', op_mul', op_fdiv', op_mod', op_pow', op_addT, cm_lt, cm_le, cm_gt, cm_ge, cm_eq, cm_ne, cm_eqS, cm_neS, onb, oni, yn_gd, yn_cls, Nat.reduceLT, if_true, if_false, true_and, and_true, List.set_cons_zero, List.set_cons_succ, set_nm, set_tup, set_nil, set_cons, ifb, b1_abs, b1_int, b1_intB, b1_lenT, b1_lenL, b1_tupL, b1_tupT, b2_min, b2_max, seq_tup, seq_lst, seq_sq, gd_sq, ix_sq, len_sq, new_t, new_f, gd_tup, gd_lst, ix_lst, ty_int, ty_tup, ty_str, isi_ii, isi_ib, isi_tt, isi_ss, reduceIte, Bool.true_eq_false, Bool.false_eq_true, Bool.not_true, Bool.not_false,  List.zip_cons_cons, List.zip_nil_right, List.foldl_cons, List.foldl_nil, ne_eq, not_false_eq_true, not_true_eq_false, Bool.not_eq_true', decide_eq_false_iff_not, decide_eq_true_eq, reduceCtorEq, List.cons.injEq, and_self, D.ref.injEq, Cell.obj.injEq, D.int.injEq]
    exact ⟨mulOk_small (by have := mul12 hx hx'; omega), kK _ M1 (mul12 hx hx') (Ux.refl p1 u1.no) p1⟩
  rw [if_neg w4]
  by_cases w5 : (w : Int) = 7
  · rw [if_pos w5]
    refine grid (k := 1) (P := fun x => x.natAbs ≤ 10 ^ 12) hp hu.no (fun a ha M1 K h => ⟨_, rfl, _, rfl, h⟩) (fun a b' ha hb M1 K L' u1 p1 hl kK => ⟨_, rfl, by decide, by decide, by decide, by decide, by decide, by decide, by decide, draw_int (l := [10 ^ 12, -10 ^ 12, 0, 1, 10 ^ 6]) p1 ?_ (by decide) (by decide) fun x m2 hx c2 p2 => kK x m2 ?_ ((Ux.refl p1 u1.no).chg c2) p2⟩) fun t M1 hg u1 p1 => k t M1 hg (hu.trans u1) (p1.mono ?_)
    · have : n * n ≤ 4 * 4 := Nat.mul_le_mul hn hn
      omega
    · simp only [List.mem_cons, List.not_mem_nil, or_false] at hx
      omega
    · have : n * n ≤ 4 * 4 := Nat.mul_le_mul hn hn
      omega
  rw [if_neg w5]
  by_cases w6 : (w : Int) = 8
  · rw [if_pos w6]
    refine grid (k := 0) (P := fun x => x.natAbs ≤ 81) hp hu.no (fun a ha M1 K h => ⟨_, rfl, _, rfl, h⟩) (fun a b' ha hb M1 K L' u1 p1 hl kK => ?_) fun t M1 hg u1 p1 => k' t M1 hg u1 (by simpa using p1)
    exact kK _ M1 (by decide) (Ux.refl p1 u1.no) p1
  rw [if_neg w6]
  exact k' t M ⟨ht.1, fun r hr => ⟨(ht.2 r hr).1, fun x hx => by have := (ht.2 r hr).2 x hx; omega⟩⟩ (Ux.refl hp hu.no) hp
theorem law_table {X : Ctx} (ht : X.fn 0 = s_take) (ho : X.fn 1 = s_of) (ds : List D) (m : Mem) (Q : KD) (h : s_table ds m Q) : body X 12 c6 ds m Q := by
  obtain ⟨p, L, n, b, rfl, hb, hn1, hn, hp, hL, no, q⟩ := h
  refine body_cut 3 ?_
  generalize hR : c6.drop 3 = R
  simp only [c6, List.take, ht, ho, body, exs, ex, ev, evs, evB, evO, evT, evI, startD, List.map_cons, List.map_nil, List.length_cons, List.length_nil, Nat.reduceAdd, Nat.reduceSub, List.replicate, List.cons_append, List.nil_append, List.append_nil, List.getElem?_cons_zero, List.getElem?_cons_succ, Option.some.injEq, exists_and_left, exists_eq_left', exists_eq_left, exists_eq, ix_tup, at0, at1, at2, op_add', op_sub', op_mul', op_fdiv', op_mod', op_pow', op_addT, cm_lt, cm_le, cm_gt, cm_ge, cm_eq, cm_ne, cm_eqS, cm_neS, onb, oni, yn_gd, yn_cls, Nat.reduceLT, if_true, if_false, true_and, and_true, List.set_cons_zero, List.set_cons_succ, set_nm, set_tup, set_nil, set_cons, ifb, b1_abs, b1_int, b1_intB, b1_lenT, b1_lenL, b1_tupL, b1_tupT, b2_min, b2_max, seq_tup, seq_lst, seq_sq, gd_sq, ix_sq, len_sq, new_t, new_f, gd_tup, gd_lst, ix_lst, ty_int, ty_tup, ty_str, isi_ii, isi_ib, isi_tt, isi_ss, reduceIte, Bool.true_eq_false, Bool.false_eq_true, Bool.not_true, Bool.not_false,  List.zip_cons_cons, List.zip_nil_right, List.foldl_cons, List.foldl_nil, ne_eq, not_false_eq_true, not_true_eq_false, Bool.not_eq_true', decide_eq_false_iff_not, decide_eq_true_eq, reduceCtorEq, List.cons.injEq, and_self, D.ref.injEq, Cell.obj.injEq, D.int.injEq]
  refine ⟨p, 10, L, rfl, by decide, by decide, hp, by omega, fun w m1 hw c1 p1 => ?_⟩
  have u1 := (Ux.refl hp no).chg c1
  try simp only [body, exs, ex, ev, evs, evB, evO, evT, evI, startD, List.map_cons, List.map_nil, List.length_cons, List.length_nil, Nat.reduceAdd, Nat.reduceSub, List.replicate, List.cons_append, List.nil_append, List.append_nil, List.getElem?_cons_zero, List.getElem?_cons_succ, Option.some.injEq, exists_and_left, exists_eq_left', exists_eq_left, exists_eq, ix_tup, at0, at1, at2, op_add', op_sub', op_mul', op_fdiv', op_mod', op_pow', op_addT, cm_lt, cm_le, cm_gt, cm_ge, cm_eq, cm_ne, cm_eqS, cm_neS, onb, oni, yn_gd, yn_cls, Nat.reduceLT, if_true, if_false, true_and, and_true, List.set_cons_zero, List.set_cons_succ, set_nm, set_tup, set_nil, set_cons, ifb, b1_abs, b1_int, b1_intB, b1_lenT, b1_lenL, b1_tupL, b1_tupT, b2_min, b2_max, seq_tup, seq_lst, seq_sq, gd_sq, ix_sq, len_sq, new_t, new_f, gd_tup, gd_lst, ix_lst, ty_int, ty_tup, ty_str, isi_ii, isi_ib, isi_tt, isi_ss, reduceIte, Bool.true_eq_false, Bool.false_eq_true, Bool.not_true, Bool.not_false,  List.zip_cons_cons, List.zip_nil_right, List.foldl_cons, List.foldl_nil, ne_eq, not_false_eq_true, not_true_eq_false, Bool.not_eq_true', decide_eq_false_iff_not, decide_eq_true_eq, reduceCtorEq, List.cons.injEq, and_self, D.ref.injEq, Cell.obj.injEq, D.int.injEq]
  rw [show rgD 0 (n : Int) = nsD n from rgD_nat]
  refine ⟨⟨by decide, by decide⟩, ⟨by omega, by omega⟩, by omega, by decide, by decide, by decide, by decide, by decide, by decide, by decide, p, L + 1, _, _, rfl, p1, by omega, by decide, by decide, fun _ _ => rfl, fun d m2 hd c2 p2 => ?_⟩
  have u2 := u1.chg c2
  have hd' : ∃ lo hi : Int, d = .tup [.int lo, .int hi] ∧ -9 ≤ lo ∧ hi ≤ 9 ∧ lo ≤ hi := by
    simp only [List.mem_cons, List.not_mem_nil, or_false] at hd
    rcases hd with rfl | rfl | rfl | rfl | rfl <;> exact ⟨_, _, rfl, by decide, by decide, by decide⟩
  obtain ⟨lo, hi, rfl, h1, h2, h3⟩ := hd'
  try simp only [body, exs, ex, ev, evs, evB, evO, evT, evI, startD, List.map_cons, List.map_nil, List.length_cons, List.length_nil, Nat.reduceAdd, Nat.reduceSub, List.replicate, List.cons_append, List.nil_append, List.append_nil, List.getElem?_cons_zero, List.getElem?_cons_succ, Option.some.injEq, exists_and_left, exists_eq_left', exists_eq_left, exists_eq, ix_tup, at0, at1, at2, op_add', op_sub', op_mul', op_fdiv', op_mod', op_pow', op_addT, cm_lt, cm_le, cm_gt, cm_ge, cm_eq, cm_ne, cm_eqS, cm_neS, onb, oni, yn_gd, yn_cls, Nat.reduceLT, if_true, if_false, true_and, and_true, List.set_cons_zero, List.set_cons_succ, set_nm, set_tup, set_nil, set_cons, ifb, b1_abs, b1_int, b1_intB, b1_lenT, b1_lenL, b1_tupL, b1_tupT, b2_min, b2_max, seq_tup, seq_lst, seq_sq, gd_sq, ix_sq, len_sq, new_t, new_f, gd_tup, gd_lst, ix_lst, ty_int, ty_tup, ty_str, isi_ii, isi_ib, isi_tt, isi_ss, reduceIte, Bool.true_eq_false, Bool.false_eq_true, Bool.not_true, Bool.not_false,  List.zip_cons_cons, List.zip_nil_right, List.foldl_cons, List.foldl_nil, ne_eq, not_false_eq_true, not_true_eq_false, Bool.not_eq_true', decide_eq_false_iff_not, decide_eq_true_eq, reduceCtorEq, List.cons.injEq, and_self, D.ref.injEq, Cell.obj.injEq, D.int.injEq]
  refine grid (k := 1) (P := fun x => x.natAbs ≤ 9) p2 u2.no (fun a ha M1 K h => ⟨_, rfl, _, rfl, h⟩) (fun a b' ha hb M1 K L' u3 p3 hl kK => ⟨_, rfl, _, rfl, _, rfl, _, rfl, ?_⟩) fun t M1 hg u3 p3 => ?_
  · try simp only [body, exs, ex, ev, evs, evB, evO, evT, evI, startD, List.map_cons, List.map_nil, List.length_cons, List.length_nil, Nat.reduceAdd, Nat.reduceSub, List.replicate, List.cons_append, List.nil_append, List.append_nil, List.getElem?_cons_zero, List.getElem?_cons_succ, Option.some.injEq, exists_and_left, exists_eq_left', exists_eq_left, exists_eq, ix_tup, at0, at1, at2, op_add', op_sub', op_mul', op_fdiv', op_mod', op_pow', op_addT, cm_lt, cm_le, cm_gt, cm_ge, cm_eq, cm_ne, cm_eqS, cm_neS, onb, oni, yn_gd, yn_cls, Nat.reduceLT, if_true, if_false, true_and, and_true, List.set_cons_zero, List.set_cons_succ, set_nm, set_tup, set_nil, set_cons, ifb, b1_abs, b1_int, b1_intB, b1_lenT, b1_lenL, b1_tupL, b1_tupT, b2_min, b2_max, seq_tup, seq_lst, seq_sq, gd_sq, ix_sq, len_sq, new_t, new_f, gd_tup, gd_lst, ix_lst, ty_int, ty_tup, ty_str, isi_ii, isi_ib, isi_tt, isi_ss, reduceIte, Bool.true_eq_false, Bool.false_eq_true, Bool.not_true, Bool.not_false,  List.zip_cons_cons, List.zip_nil_right, List.foldl_cons, List.foldl_nil, ne_eq, not_false_eq_true, not_true_eq_false, Bool.not_eq_true', decide_eq_false_iff_not, decide_eq_true_eq, reduceCtorEq, List.cons.injEq, and_self, D.ref.injEq, Cell.obj.injEq, D.int.injEq]
    have : n * n ≤ 4 * 4 := Nat.mul_le_mul hn hn
    refine ⟨p, (hi - lo + 1).toNat, L', by rw [show (((hi - lo + 1).toNat : Nat) : Int) = hi - lo + 1 from by omega], by omega, by omega, p3, by omega, fun i m3 hi' c3 p4 => ?_⟩
    exact kK _ m3 (by omega) ((Ux.refl p3 u3.no).chg c3) p4
  · have : n * n ≤ 4 * 4 := Nat.mul_le_mul hn hn
    rw [← hR]
    exact tab_mid ho hn1 hn hL t M1 hg (u2.trans u3) (p3.mono (by omega)) fun t M hg' u4 p4 => tab_last hb q t M hg' u4 p4
end Og.Lk00
end
section
set_option maxHeartbeats 4000000
set_option autoImplicit false
/-! Og: tables of books read, picked, laid. -/
namespace Og
open PySem TL L2
section
variable {m : Mem} {Q : KD}
theorem ix_tabs {kinds : List Str} {tabs : List (List (List Int))} {kd : Str} {t : List (List Int)} {i : Nat} (hn : kinds.Nodup) (h1 : kinds[i]? = some kd) (h2 : tabs[i]? = some t) : ixD m (tabsD kinds tabs) (.str kd) Q = Q (tabD t) m := by
  have hn' : (kinds.map (Sum.inr : Str → Key)).Nodup := List.Pairwise.map _ (fun a b h e => h (Sum.inr.inj e)) hn
  rw [ixs (ks := kinds.map Sum.inr) (ds := tabs.map tabD) rfl, look_at (k := (Sum.inr kd : Key)) (i := i) tabD hn' (by rw [List.getElem?_map, h1]; rfl) h2]
  simp
theorem ix_tabD {t : List (List Int)} {r : List Int} {a : Nat} (h : t[a]? = some r) : ixD m (tabD t) (.int (a : Int)) Q = Q (intsD r) m := by
  show ixD m (.tup (t.map intsD)) (.int (a : Int)) (fun d m' => Q d m') = _
  rw [ix_tup, atI_nat, List.getElem?_map, h]
  simp
theorem ix_ints {r : List Int} {x : Int} {a : Nat} (h : r[a]? = some x) : ixD m (intsD r) (.int (a : Int)) Q = Q (.int x) m := by
  show ixD m (.tup (r.map D.int)) (.int (a : Int)) (fun d m' => Q d m') = _
  rw [ix_tup, atI_nat, List.getElem?_map, h]
  simp
theorem ix_strs {r : List Str} {x : Str} {a : Nat} (h : r[a]? = some x) : ixD m (strsD r) (.int (a : Int)) Q = Q (.str x) m := by
  show ixD m (.tup (r.map D.str)) (.int (a : Int)) (fun d m' => Q d m') = _
  rw [ix_tup, atI_nat, List.getElem?_map, h]
  simp
end
theorem put_newK {κ : Type} [DecidableEq κ] {ks : List κ} {k : κ} (h : k ∉ ks) : putKs ks k = ks ++ [k] := by unfold putKs; rw [if_neg h]
theorem put_newD {κ α : Type} [DecidableEq κ] {ks : List κ} {ds : List α} {k : κ} {d : α} (h : k ∉ ks) : putDs ks ds k d = ds ++ [d] := by unfold putDs; rw [if_neg h]
/-- rows and columns of these places -/
def pick (t : List (List Int)) (pl : List Nat) : List (List Int) := pl.map fun a => pl.map fun b => (t.getD a []).getD b 0
theorem okT_at {b : Int} {n : Nat} {t : List (List Int)} (h : OkT b n t) {i j : Nat} (hi : i < n) (hj : j < n) : t[i]? = some (t.getD i []) ∧ (t.getD i [])[j]? = some ((t.getD i []).getD j 0) ∧ OkE b ((t.getD i []).getD j 0) := by
  have h1 : i < t.length := by rw [h.1]; exact hi
  have e1 : t[i]? = some t[i] := List.getElem?_eq_getElem h1
  have g1 : t.getD i [] = t[i] := by rw [List.getD_eq_getElem?_getD, e1]; rfl
  have h2 := h.2 t[i] (List.getElem_mem h1)
  have h3 : j < t[i].length := by rw [h2.1]; exact hj
  have e2 : t[i][j]? = some t[i][j] := List.getElem?_eq_getElem h3
  have g2 : t[i].getD j 0 = t[i][j] := by rw [List.getD_eq_getElem?_getD, e2]; rfl
  rw [g1, g2]
  exact ⟨e1, e2, h2.2 _ (List.getElem_mem h3)⟩
theorem pick_ok {b : Int} {n : Nat} {t : List (List Int)} {pl : List Nat} (h : OkT b n t) (hp : ∀ i ∈ pl, i < n) : OkT b pl.length (pick t pl) := by
  refine ⟨by simp [pick], fun r hr => ?_⟩
  obtain ⟨a, ha, rfl⟩ := List.mem_map.mp hr
  refine ⟨by simp, fun x hx => ?_⟩
  obtain ⟨c, hc, rfl⟩ := List.mem_map.mp hx
  exact (okT_at h (hp a ha) (hp c hc)).2.2
def plD (pl : List Nat) : List D := pl.map fun i => D.int ((i : Nat) : Int)
theorem plD_range {n : Nat} : nsD n = plD (List.range n) := rfl
theorem nodup_take_next {α : Type} {l : List α} {i : Nat} (hn : l.Nodup) (hi : i < l.length) : l[i] ∉ l.take i := by
  intro h
  have e := List.take_append_drop i l
  rw [List.drop_eq_getElem_cons hi] at e
  rw [← e] at hn
  exact (List.nodup_append.mp hn).2.2 _ h _ List.mem_cons_self rfl
theorem inr_nodup {l : List Str} (h : l.Nodup) : (l.map (Sum.inr : Str → Key)).Nodup := List.Pairwise.map _ (fun a b h e => h (Sum.inr.inj e)) h
/-- the table of a kind, rows and columns of these places, told by a comprehension in a comprehension -/
theorem pick_lc {T : D → Mem → (Option D → Mem → Prop) → Prop} {U : Nat → D → Mem → (Option D → Mem → Prop) → Prop} {m : Mem} {Q : KD} {t : List (List Int)} {pl : List Nat} {b : Int} {n : Nat} (ho : OkT b n t) (hp : ∀ i ∈ pl, i < n) (no : NoObj m)
    (hT : ∀ a ∈ pl, ∀ (M : Mem) (K : Option D → Mem → Prop), (∀ s, M s = none → lcL (fun _ => True) (U a) s (plD pl) [] (put M s (.lst [])) (lcEnd false s fun x m4 => b1D .tuple x m4 fun e m5 => K (some e) m5)) → T (.int ((a : Nat) : Int)) M K)
    (hU : ∀ a ∈ pl, ∀ c ∈ pl, ∀ (M : Mem) (K : Option D → Mem → Prop), Kx m M → K (some (.int ((t.getD a []).getD c 0))) M → U a (.int ((c : Nat) : Int)) M K)
    (q : ∀ M, Kx m M → Q (.lst ((pick t pl).map intsD)) M) : ∀ s, m s = none → lcL (fun _ => True) T s (plD pl) [] (put m s (.lst [])) (lcEnd false s Q) := by
  refine lc_keep pl (fun i => D.int ((i : Nat) : Int)) (fun a d => d = intsD (pl.map fun c => (t.getD a []).getD c 0)) no (fun i hi M K u kK => ?_) fun es M hes u => ?_
  · refine hT _ (List.getElem_mem hi) M K (lc_keep pl (fun i => D.int ((i : Nat) : Int)) (fun c d => d = .int ((t.getD pl[i] []).getD c 0)) u.no (fun j hj M2 K2 u2 kK2 => ?_) fun es2 M2 hes2 u2 => ?_)
    · exact hU _ (List.getElem_mem hi) _ (List.getElem_mem hj) M2 K2 (u.trans u2) (kK2 _ M2 (Kx.refl u2.no) rfl)
    · have e : es2 = (pl.map fun c => (t.getD pl[i] []).getD c 0).map D.int := by
        clear kK
        generalize pl[i] = a at hes2
        generalize pl = l at hes2
        induction hes2 with
        | nil => rfl
        | cons h t ih => rw [h, ih]; rfl
      rw [e]
      show b1D .tuple (.lst (List.map D.int _)) M2 _
      rw [b1_tupL]
      exact kK _ M2 u2 rfl
  · have e : es = (pick t pl).map intsD := by
      unfold pick
      rw [List.map_map]
      generalize hf : (intsD ∘ fun a => List.map (fun b => (t.getD a []).getD b 0) pl) = f
      have hes' : Paired (fun a d => d = f a) pl es := hes.mono fun a d h => by rw [h, ← hf]; rfl
      clear hes hf hT hU q hp
      induction hes' with
      | nil => rfl
      | cons h t ih => rw [h, ih]; rfl
    rw [e]
    exact q M u
end Og
end
section
set_option maxHeartbeats 4000000
set_option autoImplicit false
namespace Og.Lk00
open PySem Og TL L2
/-- a list that stays, whatever is laid beside -/
def Stay (m : Mem) (v : D) (l : List D) : Prop := ∀ M, Kx m M → seqOf M v = some l
theorem stay_tup {m : Mem} {l : List D} : Stay m (.tup l) l := fun _ _ => rfl
theorem stay_lst {m : Mem} {l : List D} : Stay m (.lst l) l := fun _ _ => rfl
theorem stay_ref {m : Mem} {p : Addr} {l : List D} (h : m p = some (.lst l)) : Stay m (.ref p) l := fun M k => seq_ref (k.keep _ _ h)
def OwnS (m : Mem) (d : D) (b : Bk) : Prop := ∀ M, Kx m M → IsOwn M d b
theorem ownS_data {m : Mem} {b : Bk} : OwnS m (ownD b) b := fun _ _ => rfl
theorem ownS_ref {m : Mem} {b : Bk} {p : Addr} (h : m p = some (ownC b)) : OwnS m (.ref p) b := fun M k => isOwn_ref (k.keep _ _ h)
def picked (b : Bk) (pl : List Nat) (ns : List Str) (ws : List Int) : Bk := ⟨b.by_, ns, ws, b.kinds, b.tabs.map fun t => pick t pl⟩
def s_picked : Spec := fun ds m Q => ∃ (d nm wt : D) (b : Bk) (n k : Nat) (pl : List Nat) (ns : List Str) (ws : List Int), ds = [d, .lst (plD pl), nm, wt] ∧ BkOk b n k ∧ (∀ i ∈ pl, i < n) ∧ NoObj m ∧ OwnS m d b ∧ Stay m nm (ns.map D.str) ∧ Stay m wt (ws.map D.int) ∧ ∀ M, Kx m M → Q (ownD (picked b pl ns ws)) M
theorem tup_seq {m : Mem} {v : D} {l : List D} {Q : KD} (h : seqOf m v = some l) (q : Q (.tup l) m) : b1D .tuple v m Q := ⟨l, h, q⟩
/-- a dict's cell filled kind by kind -/
theorem put_kind {kinds : List Str} {tabs : List (List (List Int))} {f : List (List Int) → D} {i : Nat} (hn : kinds.Nodup) (hi : i < kinds.length) (hl : tabs.length = kinds.length) : putKs ((kinds.take i).map (Sum.inr : Str → Key)) (.inr kinds[i]) = (kinds.take (i + 1)).map Sum.inr ∧
    putDs ((kinds.take i).map (Sum.inr : Str → Key)) ((tabs.take i).map f) (.inr kinds[i]) (f tabs[i]) = (tabs.take (i + 1)).map f := by
  have nh : (Sum.inr kinds[i] : Key) ∉ (kinds.take i).map Sum.inr := fun h => by
    obtain ⟨y, hy, e⟩ := List.mem_map.mp h
    exact nodup_take_next hn hi (Sum.inr.inj e ▸ hy)
  rw [put_newK nh, put_newD nh, List.take_succ_eq_append_getElem hi, List.take_succ_eq_append_getElem (by omega : i < tabs.length), List.map_append, List.map_append]
  exact ⟨rfl, rfl⟩
theorem law_picked {X : Ctx} (ds : List D) (m : Mem) (Q : KD) (h : s_picked ds m Q) : body X 8 c20 ds m Q := by
  obtain ⟨d, nm, wt, b, n, k, pl, ns, ws, rfl, hb, hpl, no, ho, hnm, hwt, q⟩ := h
  simp only [c20, body, exs, ex, ev, evs, evB, evO, evT, evI, startD, List.map_cons, List.map_nil, List.length_cons, List.length_nil, Nat.reduceAdd, Nat.reduceSub, List.replicate, List.cons_append, List.nil_append, List.append_nil, List.getElem?_cons_zero, List.getElem?_cons_succ, Option.some.injEq, exists_and_left, exists_eq_left', exists_eq_left, exists_eq, ix_tup, at0, at1, at2, op_add', op_sub', op_mul', op_fdiv', op_mod', op_pow', op_addT, cm_lt, cm_le, cm_gt, cm_ge, cm_eq, cm_ne, cm_eqS, cm_neS, onb, oni, yn_gd, yn_cls, Nat.reduceLT, if_true, if_false, true_and, and_true, List.set_cons_zero, List.set_cons_succ, set_nm, set_tup, set_nil, set_cons, ifb, b1_abs, b1_int, b1_intB, b1_lenT, b1_lenL, b1_tupL, b1_tupT, b2_min, b2_max, seq_tup, seq_lst, seq_sq, gd_sq, ix_sq, len_sq, new_t, new_f, gd_tup, gd_lst, ix_lst, ty_int, ty_tup, ty_str, isi_ii, isi_ib, isi_tt, isi_ss, reduceIte, Bool.true_eq_false, Bool.false_eq_true, Bool.not_true, Bool.not_false,  List.zip_cons_cons, List.zip_nil_right, List.foldl_cons, List.foldl_nil, ne_eq, not_false_eq_true, not_true_eq_false, Bool.not_eq_true', decide_eq_false_iff_not, decide_eq_true_eq, reduceCtorEq, List.cons.injEq, and_self, D.ref.injEq, Cell.obj.injEq, D.int.injEq]
  intro t ht
  refine ⟨by decide, List.nodup_nil, put_same, ?_⟩
  simp only [endDK, put_put, body, exs, ex, ev, evs, evB, evO, evT, evI, startD, List.map_cons, List.map_nil, List.length_cons, List.length_nil, Nat.reduceAdd, Nat.reduceSub, List.replicate, List.cons_append, List.nil_append, List.append_nil, List.getElem?_cons_zero, List.getElem?_cons_succ, Option.some.injEq, exists_and_left, exists_eq_left', exists_eq_left, exists_eq, ix_tup, at0, at1, at2, op_add', op_sub', op_mul', op_fdiv', op_mod', op_pow', op_addT, cm_lt, cm_le, cm_gt, cm_ge, cm_eq, cm_ne, cm_eqS, cm_neS, onb, oni, yn_gd, yn_cls, Nat.reduceLT, if_true, if_false, true_and, and_true, List.set_cons_zero, List.set_cons_succ, set_nm, set_tup, set_nil, set_cons, ifb, b1_abs, b1_int, b1_intB, b1_lenT, b1_lenL, b1_tupL, b1_tupT, b2_min, b2_max, seq_tup, seq_lst, seq_sq, gd_sq, ix_sq, len_sq, new_t, new_f, gd_tup, gd_lst, ix_lst, ty_int, ty_tup, ty_str, isi_ii, isi_ib, isi_tt, isi_ss, reduceIte, Bool.true_eq_false, Bool.false_eq_true, Bool.not_true, Bool.not_false,  List.zip_cons_cons, List.zip_nil_right, List.foldl_cons, List.foldl_nil, ne_eq, not_false_eq_true, not_true_eq_false, Bool.not_eq_true', decide_eq_false_iff_not, decide_eq_true_eq, reduceCtorEq, List.cons.injEq, and_self, D.ref.injEq, Cell.obj.injEq, D.int.injEq]
  have k0 := (Kx.refl no).new (c := .dK [] []) ht oK
  have htl : b.tabs.length = b.kinds.length := by rw [hb.tl, hb.kn.len]
  rw [own_kinds (ho _ k0)]
  refine ⟨_, rfl, for_inv D.str (fun i r M => ∃ o5 : Option D, r = [some d, some (.lst (plD pl)), some nm, some wt, some (.ref t), o5, none, none] ∧ M t = some (.dK ((b.kinds.take i).map Sum.inr) ((b.tabs.take i).map fun z => tabD (pick z pl))) ∧ Kx m M) b.kinds 0 _ _ ⟨none, rfl, put_same, k0⟩ ?_ ?_⟩
  · rintro i hi r M N ⟨o5, rfl, hMt, hk⟩ kN
    simp only [Nat.zero_add] at hMt kN
    have hi' : i < b.tabs.length := by omega
    have hot := hb.tab b.tabs[i] (List.getElem_mem hi')
    refine ⟨trivial, ?_⟩
    simp only [set_nm, List.set_cons_zero, List.set_cons_succ]
    refine ⟨_, rfl, _, rfl, pick_lc hot hpl hk.no (fun a ha M1 K h => ⟨_, rfl, _, rfl, h⟩) (fun a ha c hc M1 K u kK => ?_) fun M1 u1 => ?_⟩
    · obtain ⟨e1, e2, _⟩ := okT_at hot (hpl a ha) (hpl c hc)
      refine ⟨_, rfl, ?_⟩
      rw [own_tables (ho _ (hk.trans u))]
      refine ⟨_, rfl, ?_⟩
      rw [ix_tabs hb.kn.nd (List.getElem?_eq_getElem hi) (List.getElem?_eq_getElem hi')]
      refine ⟨_, rfl, ?_⟩
      rw [ix_tabD e1]
      refine ⟨_, rfl, ?_⟩
      rw [ix_ints e2]
      exact kK
    · rw [b1_tupL]
      obtain ⟨p1, p2⟩ := put_kind (f := fun z => tabD (pick z pl)) hb.kn.nd hi htl
      refine ⟨_, rfl, _, rfl, t, rfl, _, _, .inr b.kinds[i], rfl, u1.keep _ _ hMt, ?_, kN _ _ ⟨_, rfl, ?_, (hk.trans u1).set ht oK⟩⟩
      · rw [List.length_map, List.length_take]
        have := hb.k3
        have := hb.kn.len
        omega
      rw [put_same]
      exact congrArg some (by rw [p1]; exact congrArg _ p2)
  · rintro r M ⟨o5, rfl, hMt, hk⟩
    rw [Nat.zero_add, List.take_length, ← htl, List.take_length] at hMt
    refine ⟨trivial, ?_⟩
    try simp only [body, exs, ex, ev, evs, evB, evO, evT, evI, startD, List.map_cons, List.map_nil, List.length_cons, List.length_nil, Nat.reduceAdd, Nat.reduceSub, List.replicate, List.cons_append, List.nil_append, List.append_nil, List.getElem?_cons_zero, List.getElem?_cons_succ, Option.some.injEq, exists_and_left, exists_eq_left', exists_eq_left, exists_eq, ix_tup, at0, at1, at2, op_add', op_sub', op_mul', op_fdiv', op_mod', op_pow', op_addT, cm_lt, cm_le, cm_gt, cm_ge, cm_eq, cm_ne, cm_eqS, cm_neS, onb, oni, yn_gd, yn_cls, Nat.reduceLT, if_true, if_false, true_and, and_true, List.set_cons_zero, List.set_cons_succ, set_nm, set_tup, set_nil, set_cons, ifb, b1_abs, b1_int, b1_intB, b1_lenT, b1_lenL, b1_tupL, b1_tupT, b2_min, b2_max, seq_tup, seq_lst, seq_sq, gd_sq, ix_sq, len_sq, new_t, new_f, gd_tup, gd_lst, ix_lst, ty_int, ty_tup, ty_str, isi_ii, isi_ib, isi_tt, isi_ss, reduceIte, Bool.true_eq_false, Bool.false_eq_true, Bool.not_true, Bool.not_false,  List.zip_cons_cons, List.zip_nil_right, List.foldl_cons, List.foldl_nil, ne_eq, not_false_eq_true, not_true_eq_false, Bool.not_eq_true', decide_eq_false_iff_not, decide_eq_true_eq, reduceCtorEq, List.cons.injEq, and_self, D.ref.injEq, Cell.obj.injEq, D.int.injEq]
    intro s hs
    have ne : t ≠ s := fun z => by rw [z, hs] at hMt; cases hMt
    have k1 := hk.new (c := .dK [] []) hs oK
    rw [own_by (ho _ k1)]
    refine tup_seq (hnm _ k1) (tup_seq (hwt _ k1) ?_)
    rw [own_kinds (ho _ k1)]
    refine ⟨_, by rw [put_ne ne]; exact hMt, _, rfl, by decide, by decide, by rw [del_ne ne.symm, put_same], _, SubO.refl, ?_⟩
    have e : D.dK (b.kinds.map Sum.inr) (b.tabs.map fun z => tabD (pick z pl)) = tabsD (picked b pl ns ws).kinds (picked b pl ns ws).tabs := by
      unfold tabsD picked
      rw [List.map_map]; rfl
    rw [e]
    exact q _ ((k1.del ht).del (hk.none hs))
end Og.Lk00
end
section
set_option maxHeartbeats 4000000
set_option autoImplicit false
namespace Og.Lk00
open PySem Og TL L2
def twPl (n one other : Nat) : List Nat := (List.range n).map fun at_ => if at_ = other then one else at_
def s_twinned : Spec := fun ds m Q => ∃ (d : D) (b : Bk) (n k one other : Nat), ds = [d, .int (one : Int), .int (other : Int)] ∧ BkOk b n k ∧ one < n ∧ NoObj m ∧ OwnS m d b ∧ ∀ M s, Kx m M → m s = none → M s = some (ownC (picked b (twPl n one other) b.marks b.wts)) → Q (.ref s) M
theorem len_strs {l : List Str} {m : Mem} {Q : KD} : b1D .len (strsD l) m Q = Q (.int (l.length : Nat)) m := by
  show b1D .len (.tup (l.map D.str)) m Q = _
  rw [b1_lenT, List.length_map]
theorem law_twinned {X : Ctx} (ds : List D) (m : Mem) (Q : KD) (h : s_twinned ds m Q) : body X 9 c5 ds m Q := by
  obtain ⟨d, b, n, k, one, other, rfl, hb, h1, no, ho, q⟩ := h
  simp only [c5, body, exs, ex, ev, evs, evB, evO, evT, evI, startD, List.map_cons, List.map_nil, List.length_cons, List.length_nil, Nat.reduceAdd, Nat.reduceSub, List.replicate, List.cons_append, List.nil_append, List.append_nil, List.getElem?_cons_zero, List.getElem?_cons_succ, Option.some.injEq, exists_and_left, exists_eq_left', exists_eq_left, exists_eq, ix_tup, at0, at1, at2, op_add', op_sub', op_mul', op_fdiv', op_mod', op_pow', op_addT, cm_lt, cm_le, cm_gt, cm_ge, cm_eq, cm_ne, cm_eqS, cm_neS, onb, oni, yn_gd, yn_cls, Nat.reduceLT, if_true, if_false, true_and, and_true, List.set_cons_zero, List.set_cons_succ, set_nm, set_tup, set_nil, set_cons, ifb, b1_abs, b1_int, b1_intB, b1_lenT, b1_lenL, b1_tupL, b1_tupT, b2_min, b2_max, seq_tup, seq_lst, seq_sq, gd_sq, ix_sq, len_sq, new_t, new_f, gd_tup, gd_lst, ix_lst, ty_int, ty_tup, ty_str, isi_ii, isi_ib, isi_tt, isi_ss, reduceIte, Bool.true_eq_false, Bool.false_eq_true, Bool.not_true, Bool.not_false,  List.zip_cons_cons, List.zip_nil_right, List.foldl_cons, List.foldl_nil, ne_eq, not_false_eq_true, not_true_eq_false, Bool.not_eq_true', decide_eq_false_iff_not, decide_eq_true_eq, reduceCtorEq, List.cons.injEq, and_self, D.ref.injEq, Cell.obj.injEq, D.int.injEq]
  intro t ht
  refine ⟨by decide, List.nodup_nil, put_same, ?_⟩
  simp only [endDK, put_put, body, exs, ex, ev, evs, evB, evO, evT, evI, startD, List.map_cons, List.map_nil, List.length_cons, List.length_nil, Nat.reduceAdd, Nat.reduceSub, List.replicate, List.cons_append, List.nil_append, List.append_nil, List.getElem?_cons_zero, List.getElem?_cons_succ, Option.some.injEq, exists_and_left, exists_eq_left', exists_eq_left, exists_eq, ix_tup, at0, at1, at2, op_add', op_sub', op_mul', op_fdiv', op_mod', op_pow', op_addT, cm_lt, cm_le, cm_gt, cm_ge, cm_eq, cm_ne, cm_eqS, cm_neS, onb, oni, yn_gd, yn_cls, Nat.reduceLT, if_true, if_false, true_and, and_true, List.set_cons_zero, List.set_cons_succ, set_nm, set_tup, set_nil, set_cons, ifb, b1_abs, b1_int, b1_intB, b1_lenT, b1_lenL, b1_tupL, b1_tupT, b2_min, b2_max, seq_tup, seq_lst, seq_sq, gd_sq, ix_sq, len_sq, new_t, new_f, gd_tup, gd_lst, ix_lst, ty_int, ty_tup, ty_str, isi_ii, isi_ib, isi_tt, isi_ss, reduceIte, Bool.true_eq_false, Bool.false_eq_true, Bool.not_true, Bool.not_false,  List.zip_cons_cons, List.zip_nil_right, List.foldl_cons, List.foldl_nil, ne_eq, not_false_eq_true, not_true_eq_false, Bool.not_eq_true', decide_eq_false_iff_not, decide_eq_true_eq, reduceCtorEq, List.cons.injEq, and_self, D.ref.injEq, Cell.obj.injEq, D.int.injEq]
  have k0 := (Kx.refl no).new (c := .dK [] []) ht oK
  have htl : b.tabs.length = b.kinds.length := by rw [hb.tl, hb.kn.len]
  rw [own_marks (ho _ k0), len_strs, hb.m.len]
  try simp only [body, exs, ex, ev, evs, evB, evO, evT, evI, startD, List.map_cons, List.map_nil, List.length_cons, List.length_nil, Nat.reduceAdd, Nat.reduceSub, List.replicate, List.cons_append, List.nil_append, List.append_nil, List.getElem?_cons_zero, List.getElem?_cons_succ, Option.some.injEq, exists_and_left, exists_eq_left', exists_eq_left, exists_eq, ix_tup, at0, at1, at2, op_add', op_sub', op_mul', op_fdiv', op_mod', op_pow', op_addT, cm_lt, cm_le, cm_gt, cm_ge, cm_eq, cm_ne, cm_eqS, cm_neS, onb, oni, yn_gd, yn_cls, Nat.reduceLT, if_true, if_false, true_and, and_true, List.set_cons_zero, List.set_cons_succ, set_nm, set_tup, set_nil, set_cons, ifb, b1_abs, b1_int, b1_intB, b1_lenT, b1_lenL, b1_tupL, b1_tupT, b2_min, b2_max, seq_tup, seq_lst, seq_sq, gd_sq, ix_sq, len_sq, new_t, new_f, gd_tup, gd_lst, ix_lst, ty_int, ty_tup, ty_str, isi_ii, isi_ib, isi_tt, isi_ss, reduceIte, Bool.true_eq_false, Bool.false_eq_true, Bool.not_true, Bool.not_false,  List.zip_cons_cons, List.zip_nil_right, List.foldl_cons, List.foldl_nil, ne_eq, not_false_eq_true, not_true_eq_false, Bool.not_eq_true', decide_eq_false_iff_not, decide_eq_true_eq, reduceCtorEq, List.cons.injEq, and_self, D.ref.injEq, Cell.obj.injEq, D.int.injEq]
  rw [rgD_nat]
  have hn4 := hb.n4
  have hpl : ∀ i ∈ twPl n one other, i < n := fun i hi => by
    obtain ⟨a, ha, rfl⟩ := List.mem_map.mp hi
    have : a < n := by simpa using ha
    split <;> omega
  refine ⟨by omega, by omega, lc_pureW (List.range n) _ (fun i => D.int (((if i = other then one else i : Nat)) : Int)) (fun _ _ _ => trivial) (fun i hi p' acc K _ kK => ?_) ?_⟩
  · refine ⟨_, rfl, _, rfl, ?_⟩
    try simp only [body, exs, ex, ev, evs, evB, evO, evT, evI, startD, List.map_cons, List.map_nil, List.length_cons, List.length_nil, Nat.reduceAdd, Nat.reduceSub, List.replicate, List.cons_append, List.nil_append, List.append_nil, List.getElem?_cons_zero, List.getElem?_cons_succ, Option.some.injEq, exists_and_left, exists_eq_left', exists_eq_left, exists_eq, ix_tup, at0, at1, at2, op_add', op_sub', op_mul', op_fdiv', op_mod', op_pow', op_addT, cm_lt, cm_le, cm_gt, cm_ge, cm_eq, cm_ne, cm_eqS, cm_neS, onb, oni, yn_gd, yn_cls, Nat.reduceLT, if_true, if_false, true_and, and_true, List.set_cons_zero, List.set_cons_succ, set_nm, set_tup, set_nil, set_cons, ifb, b1_abs, b1_int, b1_intB, b1_lenT, b1_lenL, b1_tupL, b1_tupT, b2_min, b2_max, seq_tup, seq_lst, seq_sq, gd_sq, ix_sq, len_sq, new_t, new_f, gd_tup, gd_lst, ix_lst, ty_int, ty_tup, ty_str, isi_ii, isi_ib, isi_tt, isi_ss, reduceIte, Bool.true_eq_false, Bool.false_eq_true, Bool.not_true, Bool.not_false,  List.zip_cons_cons, List.zip_nil_right, List.foldl_cons, List.foldl_nil, ne_eq, not_false_eq_true, not_true_eq_false, Bool.not_eq_true', decide_eq_false_iff_not, decide_eq_true_eq, reduceCtorEq, List.cons.injEq, and_self, D.ref.injEq, Cell.obj.injEq, D.int.injEq]
    by_cases e : i = other
    · subst e
      rw [if_pos rfl]
      rw [if_pos rfl] at kK
      exact ⟨_, rfl, kK⟩
    · rw [if_neg (by omega)]
      rw [if_neg e] at kK
      exact ⟨_, rfl, kK⟩
  have epl : ((List.range n).map fun i => D.int (((if i = other then one else i : Nat)) : Int)) = plD (twPl n one other) := by
    unfold plD twPl
    rw [List.map_map]; rfl
  rw [epl]
  refine ⟨by decide, ?_⟩
  try simp only [body, exs, ex, ev, evs, evB, evO, evT, evI, startD, List.map_cons, List.map_nil, List.length_cons, List.length_nil, Nat.reduceAdd, Nat.reduceSub, List.replicate, List.cons_append, List.nil_append, List.append_nil, List.getElem?_cons_zero, List.getElem?_cons_succ, Option.some.injEq, exists_and_left, exists_eq_left', exists_eq_left, exists_eq, ix_tup, at0, at1, at2, op_add', op_sub', op_mul', op_fdiv', op_mod', op_pow', op_addT, cm_lt, cm_le, cm_gt, cm_ge, cm_eq, cm_ne, cm_eqS, cm_neS, onb, oni, yn_gd, yn_cls, Nat.reduceLT, if_true, if_false, true_and, and_true, List.set_cons_zero, List.set_cons_succ, set_nm, set_tup, set_nil, set_cons, ifb, b1_abs, b1_int, b1_intB, b1_lenT, b1_lenL, b1_tupL, b1_tupT, b2_min, b2_max, seq_tup, seq_lst, seq_sq, gd_sq, ix_sq, len_sq, new_t, new_f, gd_tup, gd_lst, ix_lst, ty_int, ty_tup, ty_str, isi_ii, isi_ib, isi_tt, isi_ss, reduceIte, Bool.true_eq_false, Bool.false_eq_true, Bool.not_true, Bool.not_false,  List.zip_cons_cons, List.zip_nil_right, List.foldl_cons, List.foldl_nil, ne_eq, not_false_eq_true, not_true_eq_false, Bool.not_eq_true', decide_eq_false_iff_not, decide_eq_true_eq, reduceCtorEq, List.cons.injEq, and_self, D.ref.injEq, Cell.obj.injEq, D.int.injEq]
  rw [own_kinds (ho _ k0)]
  refine ⟨_, rfl, for_inv D.str (fun i r M => ∃ o5 : Option D, r = [some d, some (.int (one : Int)), some (.int (other : Int)), some (.ref t), some (.lst (plD (twPl n one other))), o5, none, none, none] ∧ M t = some (.dK ((b.kinds.take i).map Sum.inr) ((b.tabs.take i).map fun z => tabD (pick z (twPl n one other)))) ∧ Kx m M) b.kinds 0 _ _ ⟨none, rfl, put_same, k0⟩ ?_ ?_⟩
  · rintro i hi r M N ⟨o5, rfl, hMt, hk⟩ kN
    simp only [Nat.zero_add] at hMt kN
    have hi' : i < b.tabs.length := by omega
    have hot := hb.tab b.tabs[i] (List.getElem_mem hi')
    refine ⟨trivial, ?_⟩
    simp only [set_nm, List.set_cons_zero, List.set_cons_succ]
    refine ⟨_, rfl, _, rfl, pick_lc hot hpl hk.no (fun a ha M1 K h => ⟨_, rfl, _, rfl, h⟩) (fun a ha c hc M1 K u kK => ?_) fun M1 u1 => ?_⟩
    · obtain ⟨e1, e2, _⟩ := okT_at hot (hpl a ha) (hpl c hc)
      refine ⟨_, rfl, ?_⟩
      rw [own_tables (ho _ (hk.trans u))]
      refine ⟨_, rfl, ?_⟩
      rw [ix_tabs hb.kn.nd (List.getElem?_eq_getElem hi) (List.getElem?_eq_getElem hi')]
      refine ⟨_, rfl, ?_⟩
      rw [ix_tabD e1]
      refine ⟨_, rfl, ?_⟩
      rw [ix_ints e2]
      exact kK
    · rw [b1_tupL]
      obtain ⟨p1, p2⟩ := put_kind (f := fun z => tabD (pick z (twPl n one other))) hb.kn.nd hi htl
      refine ⟨_, rfl, _, rfl, t, rfl, _, _, .inr b.kinds[i], rfl, u1.keep _ _ hMt, ?_, kN _ _ ⟨_, rfl, ?_, (hk.trans u1).set ht oK⟩⟩
      · rw [List.length_map, List.length_take]
        have := hb.k3
        have := hb.kn.len
        omega
      rw [put_same]
      exact congrArg some (by rw [p1]; exact congrArg _ p2)
  · rintro r M ⟨o5, rfl, hMt, hk⟩
    rw [Nat.zero_add, List.take_length, ← htl, List.take_length] at hMt
    refine ⟨trivial, ?_⟩
    try simp only [body, exs, ex, ev, evs, evB, evO, evT, evI, startD, List.map_cons, List.map_nil, List.length_cons, List.length_nil, Nat.reduceAdd, Nat.reduceSub, List.replicate, List.cons_append, List.nil_append, List.append_nil, List.getElem?_cons_zero, List.getElem?_cons_succ, Option.some.injEq, exists_and_left, exists_eq_left', exists_eq_left, exists_eq, ix_tup, at0, at1, at2, op_add', op_sub', op_mul', op_fdiv', op_mod', op_pow', op_addT, cm_lt, cm_le, cm_gt, cm_ge, cm_eq, cm_ne, cm_eqS, cm_neS, onb, oni, yn_gd, yn_cls, Nat.reduceLT, if_true, if_false, true_and, and_true, List.set_cons_zero, List.set_cons_succ, set_nm, set_tup, set_nil, set_cons, ifb, b1_abs, b1_int, b1_intB, b1_lenT, b1_lenL, b1_tupL, b1_tupT, b2_min, b2_max, seq_tup, seq_lst, seq_sq, gd_sq, ix_sq, len_sq, new_t, new_f, gd_tup, gd_lst, ix_lst, ty_int, ty_tup, ty_str, isi_ii, isi_ib, isi_tt, isi_ss, reduceIte, Bool.true_eq_false, Bool.false_eq_true, Bool.not_true, Bool.not_false,  List.zip_cons_cons, List.zip_nil_right, List.foldl_cons, List.foldl_nil, ne_eq, not_false_eq_true, not_true_eq_false, Bool.not_eq_true', decide_eq_false_iff_not, decide_eq_true_eq, reduceCtorEq, List.cons.injEq, and_self, D.ref.injEq, Cell.obj.injEq, D.int.injEq]
    intro s hs
    have ne : t ≠ s := fun z => by rw [z, hs] at hMt; cases hMt
    have k1 := hk.new (c := .dK [] []) hs oK
    rw [own_by (ho _ k1), own_marks (ho _ k1), own_weights (ho _ k1), own_kinds (ho _ k1)]
    refine ⟨_, by rw [put_ne ne]; exact hMt, _, rfl, by decide, by decide, by rw [del_ne ne.symm, put_same], _, SubO.refl, ?_⟩
    have hs0 := hk.none hs
    refine q _ s ((k1.del ht).set hs0 oK) hs0 ?_
    rw [put_same]
    unfold ownC ownV picked tabsD
    rw [List.map_map]; rfl
end Og.Lk00
end
section
set_option maxHeartbeats 4000000
set_option autoImplicit false
namespace Og.Lk00
open PySem Og TL L2
theorem picked_ok {b : Bk} {n k n' : Nat} {pl : List Nat} {ns : List Str} {ws : List Int} (h : BkOk b n k) (h1 : 1 ≤ n') (h4 : n' ≤ 4) (hl : pl.length = n') (hp : ∀ i ∈ pl, i < n) (hns : NmsOk ns n') (hw : ws.length = n') (hw' : ∀ x ∈ ws, OkW b.by_ x) : BkOk (picked b pl ns ws) n' k :=
  ⟨h.by_ok, h1, h4, h.k1, h.k3, hns, hw, hw', h.kn, by unfold picked; simp [h.tl], fun t ht => by
    obtain ⟨t0, h0, rfl⟩ := List.mem_map.mp ht
    have := pick_ok (h.tab t0 h0) hp
    rw [hl] at this
    exact this⟩
theorem twPl_len {n one other : Nat} : (twPl n one other).length = n := by simp [twPl]
def s_bookof : Spec := fun ds m Q => ∃ (p : Addr) (L n k : Nat) (by_ : Int) (kn : List Str) (ia : Bool), ds = [.ref p, .int by_, .int (n : Int), strsD kn, .bl ia] ∧ OkBy by_ ∧ 1 ≤ n ∧ n ≤ 4 ∧ 1 ≤ k ∧ k ≤ 3 ∧ NmsOk kn k ∧ Pot L m p ∧ L ≤ 800000 ∧ NoObj m ∧
  ∀ (b : Bk) (M : Mem) (s : Addr), BkOk b n k → b.kinds = kn → b.by_ = by_ → Ux m M p → Pot (L + 400) M p → m s = none → M s = some (ownC b) → Q (.ref s) M
def kt (z : Str × List (List Int)) : D := .tup [.str z.1, tabD z.2]
theorem pairs_kt : ∀ cs : List (Str × List (List Int)), cs.map kt = pairsD ((cs.map (·.1)).map Sum.inr) ((cs.map (·.2)).map tabD)
  | [] => rfl
  | z :: cs => by simp only [List.map_cons, pairsD, pairs_kt cs]; rfl
theorem nk3 : (.inr "kinds" : Key) ∉ ([.inr "by", .inr "marks", .inr "weights"] : List Key) := by
  simp only [List.mem_cons, List.not_mem_nil, or_false, Sum.inr.injEq, not_or]
  exact ⟨by decide, by decide, by decide⟩
theorem nk4 : (.inr "tables" : Key) ∉ ([.inr "by", .inr "marks", .inr "weights", .inr "kinds"] : List Key) := by
  simp only [List.mem_cons, List.not_mem_nil, or_false, Sum.inr.injEq, not_or]
  exact ⟨by decide, by decide, by decide, by decide⟩
theorem ks3 : putKs ([.inr "by", .inr "marks", .inr "weights"] : List Key) (.inr "kinds") = [.inr "by", .inr "marks", .inr "weights", .inr "kinds"] := put_newK nk3
theorem ds3 {a b c d : D} : putDs ([.inr "by", .inr "marks", .inr "weights"] : List Key) [a, b, c] (.inr "kinds") d = [a, b, c, d] := put_newD nk3
theorem ks4 : putKs ([.inr "by", .inr "marks", .inr "weights", .inr "kinds"] : List Key) (.inr "tables") = ownK := put_newK nk4
theorem ds4 {a b c d e : D} : putDs ([.inr "by", .inr "marks", .inr "weights", .inr "kinds"] : List Key) [a, b, c, d] (.inr "tables") e = [a, b, c, d, e] := put_newD nk4
theorem snd_all {P : List (List Int) → Prop} {kn : List Str} {cs : List (Str × List (List Int))} (h : Paired (fun (kd : Str) (z : Str × List (List Int)) => z.1 = kd ∧ P z.2) kn cs) : ∀ t ∈ cs.map (·.2), P t := by
  induction h with
  | nil => intro t ht; cases ht
  | cons h t ih =>
    intro t ht
    rcases List.mem_cons.mp ht with rfl | z
    · exact h.2
    · exact ih t z
theorem fst_eq {by_ : Int} {n : Nat} {kn : List Str} {cs : List (Str × List (List Int))} (h : Paired (fun (kd : Str) (z : Str × List (List Int)) => z.1 = kd ∧ OkT by_ n z.2) kn cs) : cs.map (·.1) = kn := by
  induction h with
  | nil => rfl
  | cons h t ih => rw [List.map_cons, ih, h.1]
theorem law_bookof {X : Ctx} (ht : X.fn 0 = s_take) (hsm : X.fn 2 = s_some) (hnm : X.fn 3 = s_names) (hw : X.fn 4 = s_weights) (htb : X.fn 6 = s_table) (htw : X.fn 5 = s_twinned) (ds : List D) (m : Mem) (Q : KD) (h : s_bookof ds m Q) : body X 9 c7 ds m Q := by
  obtain ⟨p, L, n, k, by_, kn, ia, rfl, hb, hn1, hn4, hk1, hk3, hkn, hp, hL, no, q⟩ := h
  simp only [c7, ht, hnm, hw, htb, htw, hsm, body, exs, ex, ev, evs, evB, evO, evT, evI, startD, List.map_cons, List.map_nil, List.length_cons, List.length_nil, Nat.reduceAdd, Nat.reduceSub, List.replicate, List.cons_append, List.nil_append, List.append_nil, List.getElem?_cons_zero, List.getElem?_cons_succ, Option.some.injEq, exists_and_left, exists_eq_left', exists_eq_left, exists_eq, ix_tup, at0, at1, at2, op_add', op_sub', op_mul', op_fdiv', op_mod', op_pow', op_addT, cm_lt, cm_le, cm_gt, cm_ge, cm_eq, cm_ne, cm_eqS, cm_neS, onb, oni, yn_gd, yn_cls, Nat.reduceLT, if_true, if_false, true_and, and_true, List.set_cons_zero, List.set_cons_succ, set_nm, set_tup, set_nil, set_cons, ifb, b1_abs, b1_int, b1_intB, b1_lenT, b1_lenL, b1_tupL, b1_tupT, b2_min, b2_max, seq_tup, seq_lst, seq_sq, gd_sq, ix_sq, len_sq, new_t, new_f, gd_tup, gd_lst, ix_lst, ty_int, ty_tup, ty_str, isi_ii, isi_ib, isi_tt, isi_ss, reduceIte, Bool.true_eq_false, Bool.false_eq_true, Bool.not_true, Bool.not_false,  List.zip_cons_cons, List.zip_nil_right, List.foldl_cons, List.foldl_nil, ne_eq, not_false_eq_true, not_true_eq_false, Bool.not_eq_true', decide_eq_false_iff_not, decide_eq_true_eq, reduceCtorEq, List.cons.injEq, and_self, D.ref.injEq, Cell.obj.injEq, D.int.injEq]
  intro s hs
  have np := hp.ne hs
  have p0 := hp.put (c := .dK [] []) np
  refine ⟨p, L, n, rfl, hn4, p0, by omega, no.put oK, fun ns M1 hns u1 p1 => ?_⟩
  try simp only [body, exs, ex, ev, evs, evB, evO, evT, evI, startD, List.map_cons, List.map_nil, List.length_cons, List.length_nil, Nat.reduceAdd, Nat.reduceSub, List.replicate, List.cons_append, List.nil_append, List.append_nil, List.getElem?_cons_zero, List.getElem?_cons_succ, Option.some.injEq, exists_and_left, exists_eq_left', exists_eq_left, exists_eq, ix_tup, at0, at1, at2, op_add', op_sub', op_mul', op_fdiv', op_mod', op_pow', op_addT, cm_lt, cm_le, cm_gt, cm_ge, cm_eq, cm_ne, cm_eqS, cm_neS, onb, oni, yn_gd, yn_cls, Nat.reduceLT, if_true, if_false, true_and, and_true, List.set_cons_zero, List.set_cons_succ, set_nm, set_tup, set_nil, set_cons, ifb, b1_abs, b1_int, b1_intB, b1_lenT, b1_lenL, b1_tupL, b1_tupT, b2_min, b2_max, seq_tup, seq_lst, seq_sq, gd_sq, ix_sq, len_sq, new_t, new_f, gd_tup, gd_lst, ix_lst, ty_int, ty_tup, ty_str, isi_ii, isi_ib, isi_tt, isi_ss, reduceIte, Bool.true_eq_false, Bool.false_eq_true, Bool.not_true, Bool.not_false,  List.zip_cons_cons, List.zip_nil_right, List.foldl_cons, List.foldl_nil, ne_eq, not_false_eq_true, not_true_eq_false, Bool.not_eq_true', decide_eq_false_iff_not, decide_eq_true_eq, reduceCtorEq, List.cons.injEq, and_self, D.ref.injEq, Cell.obj.injEq, D.int.injEq]
  refine ⟨p, L + 100, n, by_, ia, rfl, hb, hn4, p1, by omega, u1.no, fun ws M2 hwl hws u2 p2 => ?_⟩
  have u0 : Ux m M2 p := ((Ux.refl hp no).new hs oK).trans (u1.trans u2)
  have e2 : M2 s = some (.dK [] []) := (u1.trans u2).at_ put_same np.symm
  try simp only [body, exs, ex, ev, evs, evB, evO, evT, evI, startD, List.map_cons, List.map_nil, List.length_cons, List.length_nil, Nat.reduceAdd, Nat.reduceSub, List.replicate, List.cons_append, List.nil_append, List.append_nil, List.getElem?_cons_zero, List.getElem?_cons_succ, Option.some.injEq, exists_and_left, exists_eq_left', exists_eq_left, exists_eq, ix_tup, at0, at1, at2, op_add', op_sub', op_mul', op_fdiv', op_mod', op_pow', op_addT, cm_lt, cm_le, cm_gt, cm_ge, cm_eq, cm_ne, cm_eqS, cm_neS, onb, oni, yn_gd, yn_cls, Nat.reduceLT, if_true, if_false, true_and, and_true, List.set_cons_zero, List.set_cons_succ, set_nm, set_tup, set_nil, set_cons, ifb, b1_abs, b1_int, b1_intB, b1_lenT, b1_lenL, b1_tupL, b1_tupT, b2_min, b2_max, seq_tup, seq_lst, seq_sq, gd_sq, ix_sq, len_sq, new_t, new_f, gd_tup, gd_lst, ix_lst, ty_int, ty_tup, ty_str, isi_ii, isi_ib, isi_tt, isi_ss, reduceIte, Bool.true_eq_false, Bool.false_eq_true, Bool.not_true, Bool.not_false,  List.zip_cons_cons, List.zip_nil_right, List.foldl_cons, List.foldl_nil, ne_eq, not_false_eq_true, not_true_eq_false, Bool.not_eq_true', decide_eq_false_iff_not, decide_eq_true_eq, reduceCtorEq, List.cons.injEq, and_self, D.ref.injEq, Cell.obj.injEq, D.int.injEq]
  refine ⟨by decide, by decide, e2, ?_⟩
  simp only [endDK, body, exs, ex, ev, evs, evB, evO, evT, evI, startD, List.map_cons, List.map_nil, List.length_cons, List.length_nil, Nat.reduceAdd, Nat.reduceSub, List.replicate, List.cons_append, List.nil_append, List.append_nil, List.getElem?_cons_zero, List.getElem?_cons_succ, Option.some.injEq, exists_and_left, exists_eq_left', exists_eq_left, exists_eq, ix_tup, at0, at1, at2, op_add', op_sub', op_mul', op_fdiv', op_mod', op_pow', op_addT, cm_lt, cm_le, cm_gt, cm_ge, cm_eq, cm_ne, cm_eqS, cm_neS, onb, oni, yn_gd, yn_cls, Nat.reduceLT, if_true, if_false, true_and, and_true, List.set_cons_zero, List.set_cons_succ, set_nm, set_tup, set_nil, set_cons, ifb, b1_abs, b1_int, b1_intB, b1_lenT, b1_lenL, b1_tupL, b1_tupT, b2_min, b2_max, seq_tup, seq_lst, seq_sq, gd_sq, ix_sq, len_sq, new_t, new_f, gd_tup, gd_lst, ix_lst, ty_int, ty_tup, ty_str, isi_ii, isi_ib, isi_tt, isi_ss, reduceIte, Bool.true_eq_false, Bool.false_eq_true, Bool.not_true, Bool.not_false,  List.zip_cons_cons, List.zip_nil_right, List.foldl_cons, List.foldl_nil, ne_eq, not_false_eq_true, not_true_eq_false, Bool.not_eq_true', decide_eq_false_iff_not, decide_eq_true_eq, reduceCtorEq, List.cons.injEq, and_self, D.ref.injEq, Cell.obj.injEq, D.int.injEq]
  refine tup_seq (l := kn.map D.str) rfl ?_
  try simp only [body, exs, ex, ev, evs, evB, evO, evT, evI, startD, List.map_cons, List.map_nil, List.length_cons, List.length_nil, Nat.reduceAdd, Nat.reduceSub, List.replicate, List.cons_append, List.nil_append, List.append_nil, List.getElem?_cons_zero, List.getElem?_cons_succ, Option.some.injEq, exists_and_left, exists_eq_left', exists_eq_left, exists_eq, ix_tup, at0, at1, at2, op_add', op_sub', op_mul', op_fdiv', op_mod', op_pow', op_addT, cm_lt, cm_le, cm_gt, cm_ge, cm_eq, cm_ne, cm_eqS, cm_neS, onb, oni, yn_gd, yn_cls, Nat.reduceLT, if_true, if_false, true_and, and_true, List.set_cons_zero, List.set_cons_succ, set_nm, set_tup, set_nil, set_cons, ifb, b1_abs, b1_int, b1_intB, b1_lenT, b1_lenL, b1_tupL, b1_tupT, b2_min, b2_max, seq_tup, seq_lst, seq_sq, gd_sq, ix_sq, len_sq, new_t, new_f, gd_tup, gd_lst, ix_lst, ty_int, ty_tup, ty_str, isi_ii, isi_ib, isi_tt, isi_ss, reduceIte, Bool.true_eq_false, Bool.false_eq_true, Bool.not_true, Bool.not_false,  List.zip_cons_cons, List.zip_nil_right, List.foldl_cons, List.foldl_nil, ne_eq, not_false_eq_true, not_true_eq_false, Bool.not_eq_true', decide_eq_false_iff_not, decide_eq_true_eq, reduceCtorEq, List.cons.injEq, and_self, D.ref.injEq, Cell.obj.injEq, D.int.injEq]
  refine ⟨_, _, .inr "kinds", rfl, put_same, by decide, kn.map D.str, rfl, ?_⟩
  rw [put_put, ks3, ds3]
  have u3 : Ux m (put M2 s (.dK [.inr "by", .inr "marks", .inr "weights", .inr "kinds"] [.int by_, strsD ns, intsD ws, .tup (kn.map D.str)])) p := u0.set hs oK
  have p3 := p2.put (c := .dK [.inr "by", .inr "marks", .inr "weights", .inr "kinds"] [.int by_, strsD ns, intsD ws, .tup (kn.map D.str)]) np
  have e3 : put M2 s (.dK [.inr "by", .inr "marks", .inr "weights", .inr "kinds"] [.int by_, strsD ns, intsD ws, .tup (kn.map D.str)]) s = some (.dK [.inr "by", .inr "marks", .inr "weights", .inr "kinds"] [.int by_, strsD ns, intsD ws, .tup (kn.map D.str)]) := put_same
  generalize put M2 s (.dK [.inr "by", .inr "marks", .inr "weights", .inr "kinds"] [.int by_, strsD ns, intsD ws, .tup (kn.map D.str)]) = M3 at u3 p3 e3
  have hkl : kn.length = k := hkn.len
  refine draw_list 50 (l := kn) (f := D.str) (P := fun kd (z : Str × List (List Int)) => z.1 = kd ∧ OkT by_ n z.2) (g := kt) p3 u3.no (fun i hi M K u pp kK => ?_) fun cs M4 hcs u4 p4 => ?_
  · refine ⟨_, rfl, _, rfl, _, rfl, _, rfl, p, _, n, by_, rfl, hb, hn1, hn4, pp, by omega, u.no, fun t M' ht' u' p' => ?_⟩
    exact ⟨by decide, kK (kn[i], t) M' ⟨rfl, ht'⟩ u' p'⟩
  · have hfst := fst_eq hcs
    have hl2 := paired_len hcs
    refine ⟨(cs.map (·.1)).map Sum.inr, (cs.map (·.2)).map tabD, by rw [pairs_kt]; rfl, by simp, by rw [hfst]; exact inr_nodup hkn.nd, ?_⟩
    show ∃ d_1, _
    have e4 : M4 s = some (.dK [.inr "by", .inr "marks", .inr "weights", .inr "kinds"] [.int by_, strsD ns, intsD ws, .tup (kn.map D.str)]) := u4.at_ e3 np.symm
    refine ⟨_, _, .inr "tables", rfl, e4, by decide, ?_⟩
    rw [ks4, ds4]
    have hbk : BkOk ⟨by_, ns, ws, kn, cs.map (·.2)⟩ n k := ⟨hb, hn1, hn4, hk1, hk3, hns, hwl, hws, hkn, by rw [List.length_map]; omega, snd_all hcs⟩
    have ec : Cell.dK ownK [.int by_, strsD ns, intsD ws, .tup (kn.map D.str), .dK ((cs.map (·.1)).map Sum.inr) ((cs.map (·.2)).map tabD)] = ownC ⟨by_, ns, ws, kn, cs.map (·.2)⟩ := by rw [hfst]; rfl
    rw [ec]
    have hb1 : (Bk.mk by_ ns ws kn (cs.map (·.2))).kinds = kn := rfl
    have hb2 : (Bk.mk by_ ns ws kn (cs.map (·.2))).by_ = by_ := rfl
    generalize Bk.mk by_ ns ws kn (cs.map (·.2)) = b at hbk hb1 hb2
    have u5 : Ux m (put M4 s (ownC b)) p := (u3.trans u4).set hs oK
    have p5 : Pot (L + 100 + 20 + 50 * kn.length) (put M4 s (ownC b)) p := p4.put np
    have e5 : put M4 s (ownC b) s = some (ownC b) := put_same
    generalize put M4 s (ownC b) = M5 at u5 p5 e5
    by_cases h2 : (1 : Int) < n
    · rw [if_pos h2]
      refine ⟨p, 4, _, rfl, by decide, by decide, p5, by omega, fun i M6 hi c6 p6 => ?_⟩
      have u6 := u5.chg c6
      have e6 := (Ux.chg (Ux.refl p5 u5.no) c6).at_ e5 np.symm
      try simp only [body, exs, ex, ev, evs, evB, evO, evT, evI, startD, List.map_cons, List.map_nil, List.length_cons, List.length_nil, Nat.reduceAdd, Nat.reduceSub, List.replicate, List.cons_append, List.nil_append, List.append_nil, List.getElem?_cons_zero, List.getElem?_cons_succ, Option.some.injEq, exists_and_left, exists_eq_left', exists_eq_left, exists_eq, ix_tup, at0, at1, at2, op_add', op_sub', op_mul', op_fdiv', op_mod', op_pow', op_addT, cm_lt, cm_le, cm_gt, cm_ge, cm_eq, cm_ne, cm_eqS, cm_neS, onb, oni, yn_gd, yn_cls, Nat.reduceLT, if_true, if_false, true_and, and_true, List.set_cons_zero, List.set_cons_succ, set_nm, set_tup, set_nil, set_cons, ifb, b1_abs, b1_int, b1_intB, b1_lenT, b1_lenL, b1_tupL, b1_tupT, b2_min, b2_max, seq_tup, seq_lst, seq_sq, gd_sq, ix_sq, len_sq, new_t, new_f, gd_tup, gd_lst, ix_lst, ty_int, ty_tup, ty_str, isi_ii, isi_ib, isi_tt, isi_ss, reduceIte, Bool.true_eq_false, Bool.false_eq_true, Bool.not_true, Bool.not_false,  List.zip_cons_cons, List.zip_nil_right, List.foldl_cons, List.foldl_nil, ne_eq, not_false_eq_true, not_true_eq_false, Bool.not_eq_true', decide_eq_false_iff_not, decide_eq_true_eq, reduceCtorEq, List.cons.injEq, and_self, D.ref.injEq, Cell.obj.injEq, D.int.injEq]
      by_cases h0 : (i : Int) = 0
      · rw [if_pos (by simpa using h0)]
        rw [rgD_nat]
        refine ⟨by unfold small62; omega, by unfold small62; omega, by omega, p, _, 2, (List.range n).map fun i => D.int ((i : Nat) : Int), _, rfl, rfl, by rw [List.length_map, List.length_range]; omega, by rw [List.length_map, List.length_range]; omega, p6, by omega, u6.no, fun f M7 ⟨rest, hf⟩ fl u7 p7 => ?_⟩
        obtain ⟨ts, rfl, hnd, hin⟩ := some_out hf List.nodup_range
        rw [List.length_map] at fl
        match ts, fl with
        | [one, other], _ =>
        have h1n : one < n := by simpa using hin one (by simp)
        have h2n : other < n := by simpa using hin other (by simp)
        refine ⟨_, rfl, _, _, rfl, ?_⟩
        have e7 := u7.at_ e6 np.symm
        try simp only [body, exs, ex, ev, evs, evB, evO, evT, evI, startD, List.map_cons, List.map_nil, List.length_cons, List.length_nil, Nat.reduceAdd, Nat.reduceSub, List.replicate, List.cons_append, List.nil_append, List.append_nil, List.getElem?_cons_zero, List.getElem?_cons_succ, Option.some.injEq, exists_and_left, exists_eq_left', exists_eq_left, exists_eq, ix_tup, at0, at1, at2, op_add', op_sub', op_mul', op_fdiv', op_mod', op_pow', op_addT, cm_lt, cm_le, cm_gt, cm_ge, cm_eq, cm_ne, cm_eqS, cm_neS, onb, oni, yn_gd, yn_cls, Nat.reduceLT, if_true, if_false, true_and, and_true, List.set_cons_zero, List.set_cons_succ, set_nm, set_tup, set_nil, set_cons, ifb, b1_abs, b1_int, b1_intB, b1_lenT, b1_lenL, b1_tupL, b1_tupT, b2_min, b2_max, seq_tup, seq_lst, seq_sq, gd_sq, ix_sq, len_sq, new_t, new_f, gd_tup, gd_lst, ix_lst, ty_int, ty_tup, ty_str, isi_ii, isi_ib, isi_tt, isi_ss, reduceIte, Bool.true_eq_false, Bool.false_eq_true, Bool.not_true, Bool.not_false,  List.zip_cons_cons, List.zip_nil_right, List.foldl_cons, List.foldl_nil, ne_eq, not_false_eq_true, not_true_eq_false, Bool.not_eq_true', decide_eq_false_iff_not, decide_eq_true_eq, reduceCtorEq, List.cons.injEq, and_self, D.ref.injEq, Cell.obj.injEq, D.int.injEq]
        refine ⟨_, b, n, k, one, other, rfl, hbk, h1n, u7.no, fun M hk => isOwn_ref (hk.keep _ _ e7), fun M8 t k8 ht e8 => ?_⟩
        have hlt : (twPl n one other).length = n := twPl_len
        have hb8 : BkOk (picked b (twPl n one other) b.marks b.wts) n k := picked_ok hbk hn1 hn4 hlt (fun i hi => by
          obtain ⟨a, ha, rfl⟩ := List.mem_map.mp hi
          have : a < n := by simpa using ha
          split <;> omega) hbk.m hbk.wl hbk.w
        have u8 := (u6.trans u7).kx k8
        exact ⟨_, SubO.refl, q _ M8 t hb8 hb1 hb2 u8 ((p7.kx k8).mono (by omega)) ((u6.trans u7).none ht (p7.ne ht).symm) e8⟩
      · rw [if_neg (by simpa using h0)]
        exact ⟨_, SubO.refl, q b M6 s hbk hb1 hb2 u6 (p6.mono (by omega)) hs e6⟩
    · rw [if_neg h2]
      exact ⟨_, SubO.refl, q b M5 s hbk hb1 hb2 u5 (p5.mono (by omega)) hs e5⟩
end Og.Lk00
end
section
set_option maxHeartbeats 4000000
set_option autoImplicit false
/-! Og: zips told by places; parts of names. -/
namespace Og
open PySem TL L2
theorem zipD_range {α β : Type} {f : α → D} {g : β → D} {a0 : α} {b0 : β} : ∀ {as : List α} {bs : List β}, bs.length ≤ as.length → zipD (as.map f) (bs.map g) = (List.range bs.length).map fun i => .tup [f (as.getD i a0), g (bs.getD i b0)]
  | as, [], _ => by cases as <;> rfl
  | [], _ :: _, h => by simp at h
  | a :: as, b :: bs, h => by
    rw [List.length_cons, List.range_succ_eq_map, List.map_cons (f := fun i : Nat => D.tup _), List.map_map]
    simp only [List.map_cons, zipD]
    rw [zipD_range (a0 := a0) (b0 := b0) (by simpa using h)]
    simp [Function.comp_def]
theorem pairs_range {β : Type} {g : β → D} {b0 : β} : ∀ {as : List Str} {bs : List β}, bs.length ≤ as.length → pairsD ((as.take bs.length).map Sum.inr) (bs.map g) = (List.range bs.length).map fun i => .tup [.str (as.getD i (Str.ofString "")), g (bs.getD i b0)]
  | as, [], _ => by cases as <;> rfl
  | [], _ :: _, h => by simp at h
  | a :: as, b :: bs, h => by
    rw [List.length_cons, List.range_succ_eq_map, List.map_cons (f := fun i : Nat => D.tup _), List.map_map]
    simp only [List.take_succ_cons, List.map_cons, pairsD]
    rw [pairs_range (b0 := b0) (by simpa using h)]
    simp [Function.comp_def, keyD]
theorem NmsOk.take {l : List Str} {n k : Nat} (h : NmsOk l n) (hk : k ≤ n) : NmsOk (l.take k) k := ⟨by rw [List.length_take, h.len]; omega, h.nd.sublist (List.take_sublist _ _), fun x hx => h.nm x (List.mem_of_mem_take hx)⟩
def nd (n : Nat) : D := .int (n : Int)
theorem in_kinds : (.inr "kinds" : Key) ∈ ownK := by unfold ownK; simp
theorem in_tables : (.inr "tables" : Key) ∈ ownK := by unfold ownK; simp
theorem put_oldK {κ : Type} [DecidableEq κ] {ks : List κ} {k : κ} (h : k ∈ ks) : putKs ks k = ks := by unfold putKs; rw [if_pos h]
theorem put_kinds {a b c d e f : D} : putDs ownK [a, b, c, d, e] (.inr "kinds") f = [a, b, c, f, e] := by
  unfold putDs
  rw [if_pos in_kinds]
  rfl
theorem put_tables {a b c d e f : D} : putDs ownK [a, b, c, d, e] (.inr "tables") f = [a, b, c, d, f] := by
  unfold putDs
  rw [if_pos in_tables]
  rfl
theorem cut_strs {l : List Str} {n i : Nat} (h : l.length = n) (hi : i ≤ n) : cutD (l.map D.str) none (some (i : Int)) = (l.take i).map D.str := by
  rw [cut_to (by rw [List.length_map]; omega), List.map_take]
/-! the text of a book -/
def sp : Str := Str.ofString " "
def markL (z : Str × Int) : Str := Str.ofString "mark " ++ z.1 ++ sp ++ numS z.2
def rowS (r : List Int) : Str := Txt.join sp (r.map numS)
def kindL (z : Str × List (List Int)) : Str := Str.ofString "kind " ++ z.1 ++ sp ++ Txt.join sp (z.2.map rowS)
def linesB (b : Bk) : List Str := (Str.ofString "book " ++ numS b.by_) :: ((b.marks.zip b.wts).map markL ++ (b.kinds.zip b.tabs).map kindL)
def textB (b : Bk) : Str := Txt.join (Str.ofString "\n") (linesB b)
end Og
end
section
set_option maxHeartbeats 4000000
set_option autoImplicit false
namespace Og.Lk00
open PySem Og TL L2
def s_drawn : Spec := fun ds m Q => ∃ (p : Addr) (L K : Nat) (bs : List Int) (ms : List Nat) (ia : Bool), ds = [.ref p, .lst (bs.map D.int), .lst (ms.map nd), .int (K : Int), .bl ia] ∧ (∀ x ∈ bs, OkBy x) ∧ (∀ n ∈ ms, 1 ≤ n ∧ n ≤ 4) ∧ 1 ≤ bs.length ∧ 1 ≤ ms.length ∧ bs.length ≤ 100 ∧ ms.length ≤ 100 ∧ 1 ≤ K ∧ K ≤ 3 ∧ Pot L m p ∧ L ≤ 700000 ∧ NoObj m ∧
  ∀ (b : Bk) (n k : Nat) (M : Mem), BkOk b n k → b.by_ ∈ bs → n ∈ ms → k ≤ K → Ux m M p → Pot (L + 700) M p → Q (ownD b) M
theorem law_drawn {X : Ctx} (ht : X.fn 0 = s_take) (hof : X.fn 1 = s_of) (hnm : X.fn 3 = s_names) (hbo : X.fn 7 = s_bookof) (ds : List D) (m : Mem) (Q : KD) (h : s_drawn ds m Q) : body X 12 c8 ds m Q := by
  obtain ⟨p, L, K, bs, ms, ia, rfl, hbs, hms, hb1, hm1, hbl, hml, hK1, hK3, hp, hL, no, q⟩ := h
  simp only [c8, ht, hof, hnm, hbo, body, exs, ex, ev, evs, evB, evO, evT, evI, startD, List.map_cons, List.map_nil, List.length_cons, List.length_nil, Nat.reduceAdd, Nat.reduceSub, List.replicate, List.cons_append, List.nil_append, List.append_nil, List.getElem?_cons_zero, List.getElem?_cons_succ, Option.some.injEq, exists_and_left, exists_eq_left', exists_eq_left, exists_eq, ix_tup, at0, at1, at2, op_add', op_sub', op_mul', op_fdiv', op_mod', op_pow', op_addT, cm_lt, cm_le, cm_gt, cm_ge, cm_eq, cm_ne, cm_eqS, cm_neS, onb, oni, yn_gd, yn_cls, Nat.reduceLT, if_true, if_false, true_and, and_true, List.set_cons_zero, List.set_cons_succ, set_nm, set_tup, set_nil, set_cons, ifb, b1_abs, b1_int, b1_intB, b1_lenT, b1_lenL, b1_tupL, b1_tupT, b2_min, b2_max, seq_tup, seq_lst, seq_sq, gd_sq, ix_sq, len_sq, new_t, new_f, gd_tup, gd_lst, ix_lst, ty_int, ty_tup, ty_str, isi_ii, isi_ib, isi_tt, isi_ss, reduceIte, Bool.true_eq_false, Bool.false_eq_true, Bool.not_true, Bool.not_false,  List.zip_cons_cons, List.zip_nil_right, List.foldl_cons, List.foldl_nil, ne_eq, not_false_eq_true, not_true_eq_false, Bool.not_eq_true', decide_eq_false_iff_not, decide_eq_true_eq, reduceCtorEq, List.cons.injEq, and_self, D.ref.injEq, Cell.obj.injEq, D.int.injEq]
  refine ⟨p, L, _, bs.map D.int, rfl, hp, by omega, by rw [List.length_map]; omega, by rw [List.length_map]; omega, fun _ _ => rfl, fun d1 M1 hd1 c1 p1 => ?_⟩
  obtain ⟨by_, hby, rfl⟩ := List.mem_map.mp hd1
  have u1 := (Ux.refl hp no).chg c1
  try simp only [body, exs, ex, ev, evs, evB, evO, evT, evI, startD, List.map_cons, List.map_nil, List.length_cons, List.length_nil, Nat.reduceAdd, Nat.reduceSub, List.replicate, List.cons_append, List.nil_append, List.append_nil, List.getElem?_cons_zero, List.getElem?_cons_succ, Option.some.injEq, exists_and_left, exists_eq_left', exists_eq_left, exists_eq, ix_tup, at0, at1, at2, op_add', op_sub', op_mul', op_fdiv', op_mod', op_pow', op_addT, cm_lt, cm_le, cm_gt, cm_ge, cm_eq, cm_ne, cm_eqS, cm_neS, onb, oni, yn_gd, yn_cls, Nat.reduceLT, if_true, if_false, true_and, and_true, List.set_cons_zero, List.set_cons_succ, set_nm, set_tup, set_nil, set_cons, ifb, b1_abs, b1_int, b1_intB, b1_lenT, b1_lenL, b1_tupL, b1_tupT, b2_min, b2_max, seq_tup, seq_lst, seq_sq, gd_sq, ix_sq, len_sq, new_t, new_f, gd_tup, gd_lst, ix_lst, ty_int, ty_tup, ty_str, isi_ii, isi_ib, isi_tt, isi_ss, reduceIte, Bool.true_eq_false, Bool.false_eq_true, Bool.not_true, Bool.not_false,  List.zip_cons_cons, List.zip_nil_right, List.foldl_cons, List.foldl_nil, ne_eq, not_false_eq_true, not_true_eq_false, Bool.not_eq_true', decide_eq_false_iff_not, decide_eq_true_eq, reduceCtorEq, List.cons.injEq, and_self, D.ref.injEq, Cell.obj.injEq, D.int.injEq]
  refine ⟨p, _, _, ms.map nd, rfl, p1, by omega, by rw [List.length_map]; omega, by rw [List.length_map]; omega, fun _ _ => rfl, fun d2 M2 hd2 c2 p2 => ?_⟩
  obtain ⟨n, hn, rfl⟩ := List.mem_map.mp hd2
  have u2 := u1.chg c2
  try simp only [body, exs, ex, ev, evs, evB, evO, evT, evI, startD, List.map_cons, List.map_nil, List.length_cons, List.length_nil, Nat.reduceAdd, Nat.reduceSub, List.replicate, List.cons_append, List.nil_append, List.append_nil, List.getElem?_cons_zero, List.getElem?_cons_succ, Option.some.injEq, exists_and_left, exists_eq_left', exists_eq_left, exists_eq, ix_tup, at0, at1, at2, op_add', op_sub', op_mul', op_fdiv', op_mod', op_pow', op_addT, cm_lt, cm_le, cm_gt, cm_ge, cm_eq, cm_ne, cm_eqS, cm_neS, onb, oni, yn_gd, yn_cls, Nat.reduceLT, if_true, if_false, true_and, and_true, List.set_cons_zero, List.set_cons_succ, set_nm, set_tup, set_nil, set_cons, ifb, b1_abs, b1_int, b1_intB, b1_lenT, b1_lenL, b1_tupL, b1_tupT, b2_min, b2_max, seq_tup, seq_lst, seq_sq, gd_sq, ix_sq, len_sq, new_t, new_f, gd_tup, gd_lst, ix_lst, ty_int, ty_tup, ty_str, isi_ii, isi_ib, isi_tt, isi_ss, reduceIte, Bool.true_eq_false, Bool.false_eq_true, Bool.not_true, Bool.not_false,  List.zip_cons_cons, List.zip_nil_right, List.foldl_cons, List.foldl_nil, ne_eq, not_false_eq_true, not_true_eq_false, Bool.not_eq_true', decide_eq_false_iff_not, decide_eq_true_eq, reduceCtorEq, List.cons.injEq, and_self, D.ref.injEq, Cell.obj.injEq, D.int.injEq]
  refine ⟨p, K, _, rfl, hK1, by omega, p2, by omega, fun i M3 hi c3 p3 => ?_⟩
  have u3 := u2.chg c3
  dsimp only
  rw [show opD BOp.add (D.int 1) (D.int (i : Int)) M3 = fun Q => Q (D.int ((i + 1 : Nat) : Int)) M3 from by funext Q; show Q (.int (1 + (i : Int))) M3 = _; congr 2; omega]
  obtain ⟨hn1, hn4⟩ := hms n hn
  refine ⟨p, _, i + 1, rfl, by omega, p3, by omega, u3.no, fun ns M4 hns u4 p4 => ?_⟩
  refine ⟨p, _, n, i + 1, by_, ns, ia, rfl, hbs _ hby, hn1, hn4, by omega, by omega, hns, p4, by omega, u4.no, fun b M5 s hb hbk hbb u5 p5 hs5 e5 => ?_⟩
  have hs3 := ((u3.trans u4).none hs5 (p4.ne hs5).symm)
  have u35 := (u3.trans u4).trans u5
  have np := p4.ne hs5
  dsimp only
  rw [len_strs, hns.len]
  unfold nd
  try simp only [body, exs, ex, ev, evs, evB, evO, evT, evI, startD, List.map_cons, List.map_nil, List.length_cons, List.length_nil, Nat.reduceAdd, Nat.reduceSub, List.replicate, List.cons_append, List.nil_append, List.append_nil, List.getElem?_cons_zero, List.getElem?_cons_succ, Option.some.injEq, exists_and_left, exists_eq_left', exists_eq_left, exists_eq, ix_tup, at0, at1, at2, op_add', op_sub', op_mul', op_fdiv', op_mod', op_pow', op_addT, cm_lt, cm_le, cm_gt, cm_ge, cm_eq, cm_ne, cm_eqS, cm_neS, onb, oni, yn_gd, yn_cls, Nat.reduceLT, if_true, if_false, true_and, and_true, List.set_cons_zero, List.set_cons_succ, set_nm, set_tup, set_nil, set_cons, ifb, b1_abs, b1_int, b1_intB, b1_lenT, b1_lenL, b1_tupL, b1_tupT, b2_min, b2_max, seq_tup, seq_lst, seq_sq, gd_sq, ix_sq, len_sq, new_t, new_f, gd_tup, gd_lst, ix_lst, ty_int, ty_tup, ty_str, isi_ii, isi_ib, isi_tt, isi_ss, reduceIte, Bool.true_eq_false, Bool.false_eq_true, Bool.not_true, Bool.not_false,  List.zip_cons_cons, List.zip_nil_right, List.foldl_cons, List.foldl_nil, ne_eq, not_false_eq_true, not_true_eq_false, Bool.not_eq_true', decide_eq_false_iff_not, decide_eq_true_eq, reduceCtorEq, List.cons.injEq, and_self, D.ref.injEq, Cell.obj.injEq, D.int.injEq]
  by_cases hk : ((i + 1 : Nat) : Int) ≤ (n : Int)
  · rw [if_pos (by simpa using hk)]
    refine ⟨p, 6, _, rfl, by decide, by decide, p5, by omega, fun j M6 hj c6 p6 => ?_⟩
    have u6 := u35.chg c6
    have e6 := (Ux.chg (Ux.refl p5 u5.no) c6).at_ e5 np.symm
    try simp only [body, exs, ex, ev, evs, evB, evO, evT, evI, startD, List.map_cons, List.map_nil, List.length_cons, List.length_nil, Nat.reduceAdd, Nat.reduceSub, List.replicate, List.cons_append, List.nil_append, List.append_nil, List.getElem?_cons_zero, List.getElem?_cons_succ, Option.some.injEq, exists_and_left, exists_eq_left', exists_eq_left, exists_eq, ix_tup, at0, at1, at2, op_add', op_sub', op_mul', op_fdiv', op_mod', op_pow', op_addT, cm_lt, cm_le, cm_gt, cm_ge, cm_eq, cm_ne, cm_eqS, cm_neS, onb, oni, yn_gd, yn_cls, Nat.reduceLT, if_true, if_false, true_and, and_true, List.set_cons_zero, List.set_cons_succ, set_nm, set_tup, set_nil, set_cons, ifb, b1_abs, b1_int, b1_intB, b1_lenT, b1_lenL, b1_tupL, b1_tupT, b2_min, b2_max, seq_tup, seq_lst, seq_sq, gd_sq, ix_sq, len_sq, new_t, new_f, gd_tup, gd_lst, ix_lst, ty_int, ty_tup, ty_str, isi_ii, isi_ib, isi_tt, isi_ss, reduceIte, Bool.true_eq_false, Bool.false_eq_true, Bool.not_true, Bool.not_false,  List.zip_cons_cons, List.zip_nil_right, List.foldl_cons, List.foldl_nil, ne_eq, not_false_eq_true, not_true_eq_false, Bool.not_eq_true', decide_eq_false_iff_not, decide_eq_true_eq, reduceCtorEq, List.cons.injEq, and_self, D.ref.injEq, Cell.obj.injEq, D.int.injEq]
    by_cases h0 : (j : Int) = 0
    · rw [if_pos (by simpa using h0), own_marks (isOwn_ref e6)]
      have hml : b.marks.length = n := hb.m.len
      have htl : b.tabs.length = i + 1 := hb.tl
      have hik : i + 1 ≤ n := by omega
      refine ⟨_, rfl, _, rfl, ?_⟩
      rw [zipD_range (a0 := Str.ofString "") (b0 := Str.ofString "") (by rw [hml, hns.len]; exact hik), hns.len]
      refine lc_pureW (List.range (i + 1)) _ (fun j => D.tup [.str (b.marks.getD j (Str.ofString "")), tabD (b.tabs.getD j [])]) (fun _ _ _ => ⟨trivial, trivial⟩) (fun j hj p' acc K hp' kK => ?_) ?_
      · have hj' : j < i + 1 := by simpa using hj
        have et : b.tabs[j]? = some (b.tabs.getD j []) := by
          rw [List.getD_eq_getElem?_getD, List.getElem?_eq_getElem (show j < b.tabs.length by omega)]; rfl
        have ek : b.kinds[j]? = some (ns.getD j (Str.ofString "")) := by
          rw [hbk, List.getD_eq_getElem?_getD, List.getElem?_eq_getElem (show j < ns.length by rw [hns.len]; omega)]; rfl
        have e7 : put M6 p' (.lst acc) s = some (ownC b) := by
          rw [put_ne (fun z => by rw [z, hp'] at e6; cases e6)]; exact e6
        refine ⟨_, rfl, _, _, rfl, ?_⟩
        refine ⟨_, _, rfl, rfl, _, rfl, _, rfl, ?_⟩
        rw [own_tables (isOwn_ref e7)]
        refine ⟨_, rfl, ?_⟩
        rw [ix_tabs hb.kn.nd ek et]
        exact ⟨by decide, kK⟩
      · rw [← htl, ← pairs_range (by omega), htl]
        refine ⟨_, _, rfl, ?_, ?_, ?_⟩
        · rw [List.length_map, List.length_map, List.length_take]; omega
        · exact inr_nodup (hb.m.take hik).nd
        unfold newDK
        dsimp only
        rw [own_marks (isOwn_ref e6), len_strs, hns.len]
        try simp only [body, exs, ex, ev, evs, evB, evO, evT, evI, startD, List.map_cons, List.map_nil, List.length_cons, List.length_nil, Nat.reduceAdd, Nat.reduceSub, List.replicate, List.cons_append, List.nil_append, List.append_nil, List.getElem?_cons_zero, List.getElem?_cons_succ, Option.some.injEq, exists_and_left, exists_eq_left', exists_eq_left, exists_eq, ix_tup, at0, at1, at2, op_add', op_sub', op_mul', op_fdiv', op_mod', op_pow', op_addT, cm_lt, cm_le, cm_gt, cm_ge, cm_eq, cm_ne, cm_eqS, cm_neS, onb, oni, yn_gd, yn_cls, Nat.reduceLT, if_true, if_false, true_and, and_true, List.set_cons_zero, List.set_cons_succ, set_nm, set_tup, set_nil, set_cons, ifb, b1_abs, b1_int, b1_intB, b1_lenT, b1_lenL, b1_tupL, b1_tupT, b2_min, b2_max, seq_tup, seq_lst, seq_sq, gd_sq, ix_sq, len_sq, new_t, new_f, gd_tup, gd_lst, ix_lst, ty_int, ty_tup, ty_str, isi_ii, isi_ib, isi_tt, isi_ss, reduceIte, Bool.true_eq_false, Bool.false_eq_true, Bool.not_true, Bool.not_false,  List.zip_cons_cons, List.zip_nil_right, List.foldl_cons, List.foldl_nil, ne_eq, not_false_eq_true, not_true_eq_false, Bool.not_eq_true', decide_eq_false_iff_not, decide_eq_true_eq, reduceCtorEq, List.cons.injEq, and_self, D.ref.injEq, Cell.obj.injEq, D.int.injEq]
        rw [show strsD b.marks = .tup (b.marks.map D.str) from rfl, sl_tupF, cut_strs hml hik]
        refine ⟨by decide, _, _, rfl, s, ownK, ownV b, rfl, e6, by decide, s, ownK, _, rfl, put_same, ?_, ?_⟩
        · decide
        rw [put_put, put_oldK in_tables, ownV, put_kinds, put_tables]
        refine ⟨_, put_same, _, rfl, _, SubO.refl, ?_⟩
        have hb' : BkOk { b with kinds := b.marks.take (i + 1) } n (i + 1) := ⟨hb.by_ok, hb.n1, hb.n4, hb.k1, hb.k3, hb.m, hb.wl, hb.w, hb.m.take hik, hb.tl, hb.tab⟩
        exact q _ n (i + 1) _ hb' (by rw [hbb]; exact hby) hn (by omega) ((u6.set hs3 oK).del hs3) (Pot.del ((p6.mono (by omega)).put np) np)
    · rw [if_neg (by simpa using h0)]
      refine ⟨_, e6, _, rfl, _, SubO.refl, ?_⟩
      exact q b n (i + 1) _ hb (by rw [hbb]; exact hby) hn (by omega) (u6.del hs3) (Pot.del (p6.mono (by omega)) np)
  · rw [if_neg (by simpa using hk)]
    refine ⟨_, e5, _, rfl, _, SubO.refl, ?_⟩
    exact q b n (i + 1) _ hb (by rw [hbb]; exact hby) hn (by omega) (u35.del hs3) (Pot.del (p5.mono (by omega)) np)
end Og.Lk00
end
section
set_option maxHeartbeats 4000000
set_option autoImplicit false
/-! Og: texts of books: lengths. -/
namespace Og
open PySem TL L2
theorem len_add (a b : Str) : (a ++ b).length = a.length + b.length := by
  rw [len_tl, len_tl, len_tl, tl_append, List.length_append]
theorem sum_le {c : Nat} : ∀ {zs : List Str}, (∀ z ∈ zs, z.length ≤ c) → (zs.map (·.length)).sum ≤ zs.length * c
  | [], _ => by simp
  | z :: zs, h => by
    have h1 := h z (by simp)
    have h2 := sum_le (zs := zs) fun x hx => h x (by simp [hx])
    simp only [List.map_cons, List.sum_cons, List.length_cons]
    rw [Nat.add_mul]
    omega
theorem joinL_le {w : List Nat} {c : Nat} : ∀ {zs : List (List Nat)}, (∀ z ∈ zs, z.length ≤ c) → (joinL w zs).length ≤ zs.length * (c + w.length)
  | [], _ => by simp [joinL]
  | [z], h => by
    have h1 := h z (by simp)
    simp only [joinL, List.length_cons, List.length_nil]
    omega
  | z :: y :: zs, h => by
    have h1 := h z (by simp)
    have h2 := joinL_le (w := w) (zs := y :: zs) fun x hx => h x (List.mem_cons_of_mem _ hx)
    show (z ++ (w ++ joinL w (y :: zs))).length ≤ _
    rw [List.length_append, List.length_append, List.length_cons, Nat.add_mul]
    omega
theorem join_le {w : Str} {c : Nat} {zs : List Str} (h : ∀ z ∈ zs, z.length ≤ c) : (Txt.join w zs).length ≤ zs.length * (c + w.length) := by
  have := joinL_le (w := tl w) (c := c) (zs := zs.map tl) fun z hz => by
    obtain ⟨y, hy, rfl⟩ := List.mem_map.mp hz
    rw [← len_tl]; exact h y hy
  rw [len_tl, join_eq, tl_join]
  rw [List.length_map, ← len_tl] at this
  exact this
theorem log_small {i : Int} (h : i.natAbs ≤ 10 ^ 12) : i.natAbs.log2 < 1920 := by
  by_cases h0 : i.natAbs = 0
  · rw [h0]; decide
  · exact (Nat.log2_lt h0).mpr (Nat.lt_of_le_of_lt h (Nat.lt_of_lt_of_le (by decide : 10 ^ 12 < 2 ^ 41) (Nat.pow_le_pow_right (by decide) (by decide))))
theorem b1_strS {i : Int} {m : Mem} {Q : KD} (h : i.natAbs ≤ 10 ^ 12) : b1D .str (.int i) m Q = Q (.str (numS i)) m := by
  show (i.natAbs.log2 < 1920 ∧ Q (.str (numS i)) m) = _
  simp [log_small h]
theorem sp_len : sp.length = 1 := by decide
theorem rowS_len {b : Int} {r : List Int} (hb : OkBy b) (hl : r.length ≤ 4) (h : ∀ x ∈ r, OkE b x) : (rowS r).length ≤ 60 := by
  have := join_le (w := sp) (c := 14) (zs := r.map numS) fun z hz => by
    obtain ⟨x, hx, rfl⟩ := List.mem_map.mp hz
    exact numS_len ((h x hx).le hb)
  rw [List.length_map, sp_len] at this
  unfold rowS
  omega
theorem rows_len {b : Int} {n : Nat} {t : List (List Int)} (hb : OkBy b) (hn : n ≤ 4) (h : OkT b n t) : (Txt.join sp (t.map rowS)).length ≤ 244 := by
  have := join_le (w := sp) (c := 60) (zs := t.map rowS) fun z hz => by
    obtain ⟨r, hr, rfl⟩ := List.mem_map.mp hz
    exact rowS_len hb (by rw [(h.2 r hr).1]; exact hn) (h.2 r hr).2
  rw [List.length_map, sp_len, h.1] at this
  omega
theorem OkBy.small {b : Int} (h : OkBy b) : b.natAbs ≤ 10 ^ 12 := by rcases h.lt with z | z <;> omega
theorem markL_len {b : Int} {x : Str} {w : Int} (hb : OkBy b) (h : Nm x) (hw : OkW b w) : (markL (x, w)).length ≤ 24 := by
  unfold markL
  have := numS_len (hw.2.le hb)
  have := h.l4
  simp only [len_add, sp_len, show (Str.ofString "mark ").length = 5 from by decide]
  omega
theorem kindL_len {b : Int} {n : Nat} {x : Str} {t : List (List Int)} (hb : OkBy b) (hn : n ≤ 4) (h : Nm x) (ht : OkT b n t) : (kindL (x, t)).length ≤ 254 := by
  unfold kindL
  have := rows_len hb hn ht
  have := h.l4
  simp only [len_add, sp_len, show (Str.ofString "kind ").length = 5 from by decide]
  omega
theorem zipD_zip {α β : Type} {f : α → D} {g : β → D} : ∀ {as : List α} {bs : List β}, zipD (as.map f) (bs.map g) = (as.zip bs).map fun z => .tup [f z.1, g z.2]
  | [], _ => rfl
  | _ :: _, [] => rfl
  | a :: as, b :: bs => by
    simp only [List.map_cons, zipD, List.zip_cons_cons]
    rw [zipD_zip]
theorem take_map_next {α : Type} {f : α → D} {h : D} {l : List α} {i : Nat} (hi : i < l.length) : h :: (l.take i).map f ++ [f l[i]] = h :: (l.take (i + 1)).map f := by
  rw [List.take_succ_eq_append_getElem hi, List.map_append]; rfl
theorem ixN_nat {n i : Nat} (h : i < n) : L2.ixN n (i : Int) = some i := by
  unfold L2.ixN
  rw [if_pos (by omega), if_pos (by omega)]
  simp
theorem op_addRR {a b : Addr} {xs ys : List D} {m : Mem} {Q : KD} (h1 : m a = some (.lst xs)) (h2 : m b = some (.lst ys)) (hl : xs.length + ys.length ≤ 1000000) (q : ∀ p, m p = none → Q (.ref p) (put m p (.lst (xs ++ ys)))) : opD .add (.ref a) (.ref b) m Q := ⟨xs, ys, h1, h2, hl, q⟩
theorem fmod_okE {b x : Int} (h : 2 ≤ b) : 0 ≤ x.fmod b ∧ x.fmod b < b := by
  rw [Int.fmod_eq_emod_of_nonneg _ (by omega)]
  exact ⟨Int.emod_nonneg _ (by omega), Int.emod_lt_of_pos _ (by omega)⟩
end Og
end
section
set_option maxHeartbeats 4000000
set_option autoImplicit false
namespace Og.Lk00
open PySem Og TL L2
theorem lst_ref {m : Mem} {p : Addr} {ds : List D} (h : m p = some (.lst ds)) : lstOf m (.ref p) = some ds := by simp [lstOf, h]
theorem seq_ref {m : Mem} {p : Addr} {ds : List D} (h : m p = some (.lst ds)) : seqOf m (.ref p) = some ds := by simp [seqOf, h]
def s_text : Spec := fun ds m Q => ∃ (d : D) (b : Bk) (n k : Nat), ds = [d] ∧ BkOk b n k ∧ NoObj m ∧ OwnS m d b ∧ ∀ M, Kx m M → Q (.str (textB b)) M
theorem law_text {X : Ctx} (ds : List D) (m : Mem) (Q : KD) (h : s_text ds m Q) : body X 8 c9 ds m Q := by
  obtain ⟨d, b, n, k, rfl, hb, no, ho, q⟩ := h
  simp only [c9, body, exs, ex, ev, evs, evB, evO, evT, evI, startD, List.map_cons, List.map_nil, List.length_cons, List.length_nil, Nat.reduceAdd, Nat.reduceSub, List.replicate, List.cons_append, List.nil_append, List.append_nil, List.getElem?_cons_zero, List.getElem?_cons_succ, Option.some.injEq, exists_and_left, exists_eq_left', exists_eq_left, exists_eq, ix_tup, at0, at1, at2, op_add', op_sub', op_mul', op_fdiv', op_mod', op_pow', op_addT, cm_lt, cm_le, cm_gt, cm_ge, cm_eq, cm_ne, cm_eqS, cm_neS, onb, oni, yn_gd, yn_cls, Nat.reduceLT, if_true, if_false, true_and, and_true, List.set_cons_zero, List.set_cons_succ, set_nm, set_tup, set_nil, set_cons, ifb, b1_abs, b1_int, b1_intB, b1_lenT, b1_lenL, b1_tupL, b1_tupT, b2_min, b2_max, seq_tup, seq_lst, seq_sq, gd_sq, ix_sq, len_sq, new_t, new_f, gd_tup, gd_lst, ix_lst, ty_int, ty_tup, ty_str, isi_ii, isi_ib, isi_tt, isi_ss, reduceIte, Bool.true_eq_false, Bool.false_eq_true, Bool.not_true, Bool.not_false,  List.zip_cons_cons, List.zip_nil_right, List.foldl_cons, List.foldl_nil, ne_eq, not_false_eq_true, not_true_eq_false, Bool.not_eq_true', decide_eq_false_iff_not, decide_eq_true_eq, reduceCtorEq, List.cons.injEq, and_self, D.ref.injEq, Cell.obj.injEq, D.int.injEq]
  have hbs := hb.by_ok.small
  rw [own_by (ho _ (Kx.refl no))]
  try simp only [body, exs, ex, ev, evs, evB, evO, evT, evI, startD, List.map_cons, List.map_nil, List.length_cons, List.length_nil, Nat.reduceAdd, Nat.reduceSub, List.replicate, List.cons_append, List.nil_append, List.append_nil, List.getElem?_cons_zero, List.getElem?_cons_succ, Option.some.injEq, exists_and_left, exists_eq_left', exists_eq_left, exists_eq, ix_tup, at0, at1, at2, op_add', op_sub', op_mul', op_fdiv', op_mod', op_pow', op_addT, cm_lt, cm_le, cm_gt, cm_ge, cm_eq, cm_ne, cm_eqS, cm_neS, onb, oni, yn_gd, yn_cls, Nat.reduceLT, if_true, if_false, true_and, and_true, List.set_cons_zero, List.set_cons_succ, set_nm, set_tup, set_nil, set_cons, ifb, b1_abs, b1_int, b1_intB, b1_lenT, b1_lenL, b1_tupL, b1_tupT, b2_min, b2_max, seq_tup, seq_lst, seq_sq, gd_sq, ix_sq, len_sq, new_t, new_f, gd_tup, gd_lst, ix_lst, ty_int, ty_tup, ty_str, isi_ii, isi_ib, isi_tt, isi_ss, reduceIte, Bool.true_eq_false, Bool.false_eq_true, Bool.not_true, Bool.not_false,  List.zip_cons_cons, List.zip_nil_right, List.foldl_cons, List.foldl_nil, ne_eq, not_false_eq_true, not_true_eq_false, Bool.not_eq_true', decide_eq_false_iff_not, decide_eq_true_eq, reduceCtorEq, List.cons.injEq, and_self, D.ref.injEq, Cell.obj.injEq, D.int.injEq]
  rw [b1_strS hbs, op_addS]
  refine ⟨by have := numS_len hbs; rw [show (Str.ofString "book ").length = 5 from by decide]; omega, by decide, fun a ha => ?_⟩
  have k0 := (Kx.refl no).new (c := .lst [.str (Str.ofString "book " ++ numS b.by_)]) ha oL
  rw [own_marks (ho _ k0), own_weights (ho _ k0)]
  refine ⟨_, rfl, _, rfl, ?_⟩
  rw [zipD_zip]
  have hzl : (b.marks.zip b.wts).length = n := by rw [List.length_zip, hb.m.len, hb.wl]; omega
  have hkl : (b.kinds.zip b.tabs).length = k := by rw [List.length_zip, hb.kn.len, hb.tl]; omega
  refine for_inv _ (fun i r M => ∃ o2 o3, r = [some d, some (.ref a), o2, o3, none, none, none, none] ∧ M a = some (.lst (.str (Str.ofString "book " ++ numS b.by_) :: ((b.marks.zip b.wts).take i).map fun z => D.str (markL z))) ∧ Kx m M) (b.marks.zip b.wts) 0 _ _ ⟨none, none, rfl, put_same, k0⟩ ?_ ?_
  · rintro i hi r M N ⟨o2, o3, rfl, hM, hk⟩ kN
    simp only [Nat.zero_add] at hM kN
    refine ⟨⟨trivial, trivial⟩, ?_⟩
    have hz : ((b.marks.zip b.wts)[i]).1 ∈ b.marks ∧ ((b.marks.zip b.wts)[i]).2 ∈ b.wts := by
      have := List.getElem_mem hi
      exact List.of_mem_zip this
    have hnx : (.str (Str.ofString "book " ++ numS b.by_) :: ((b.marks.zip b.wts).take i).map fun z => D.str (markL z)) ++ [D.str (markL (b.marks.zip b.wts)[i])] = .str (Str.ofString "book " ++ numS b.by_) :: ((b.marks.zip b.wts).take (i + 1)).map fun z => D.str (markL z) := take_map_next hi
    generalize (b.marks.zip b.wts)[i] = z at hz hnx
    have hw := hb.w _ hz.2
    have hw12 := hw.2.le hb.by_ok
    have hml := markL_len hb.by_ok (hb.m.nm _ hz.1) hw
    simp only [markL, len_add, sp] at hml
    try simp only [body, exs, ex, ev, evs, evB, evO, evT, evI, startD, List.map_cons, List.map_nil, List.length_cons, List.length_nil, Nat.reduceAdd, Nat.reduceSub, List.replicate, List.cons_append, List.nil_append, List.append_nil, List.getElem?_cons_zero, List.getElem?_cons_succ, Option.some.injEq, exists_and_left, exists_eq_left', exists_eq_left, exists_eq, ix_tup, at0, at1, at2, op_add', op_sub', op_mul', op_fdiv', op_mod', op_pow', op_addT, cm_lt, cm_le, cm_gt, cm_ge, cm_eq, cm_ne, cm_eqS, cm_neS, onb, oni, yn_gd, yn_cls, Nat.reduceLT, if_true, if_false, true_and, and_true, List.set_cons_zero, List.set_cons_succ, set_nm, set_tup, set_nil, set_cons, ifb, b1_abs, b1_int, b1_intB, b1_lenT, b1_lenL, b1_tupL, b1_tupT, b2_min, b2_max, seq_tup, seq_lst, seq_sq, gd_sq, ix_sq, len_sq, new_t, new_f, gd_tup, gd_lst, ix_lst, ty_int, ty_tup, ty_str, isi_ii, isi_ib, isi_tt, isi_ss, reduceIte, Bool.true_eq_false, Bool.false_eq_true, Bool.not_true, Bool.not_false,  List.zip_cons_cons, List.zip_nil_right, List.foldl_cons, List.foldl_nil, ne_eq, not_false_eq_true, not_true_eq_false, Bool.not_eq_true', decide_eq_false_iff_not, decide_eq_true_eq, reduceCtorEq, List.cons.injEq, and_self, D.ref.injEq, Cell.obj.injEq, D.int.injEq]
    refine ⟨⟨_, lst_ref hM⟩, ?_⟩
    rw [op_addS]
    refine ⟨by rw [← len_add] at hml; rw [← len_add]; omega, ?_⟩
    rw [op_addS]
    refine ⟨by simp only [len_add]; omega, ?_⟩
    rw [b1_strS hw12, op_addS]
    refine ⟨by simp only [len_add]; omega, _, hM, by simp only [List.length_cons, List.length_map, List.length_take]; have := hb.n4; omega, kN _ _ ⟨_, _, rfl, ?_, hk.set ha oL⟩⟩
    rw [put_same]
    exact congrArg (fun x => some (Cell.lst x)) hnx
  · rintro r M ⟨o2, o3, rfl, hM, hk⟩
    refine ⟨⟨trivial, trivial⟩, ?_⟩
    try simp only [body, exs, ex, ev, evs, evB, evO, evT, evI, startD, List.map_cons, List.map_nil, List.length_cons, List.length_nil, Nat.reduceAdd, Nat.reduceSub, List.replicate, List.cons_append, List.nil_append, List.append_nil, List.getElem?_cons_zero, List.getElem?_cons_succ, Option.some.injEq, exists_and_left, exists_eq_left', exists_eq_left, exists_eq, ix_tup, at0, at1, at2, op_add', op_sub', op_mul', op_fdiv', op_mod', op_pow', op_addT, cm_lt, cm_le, cm_gt, cm_ge, cm_eq, cm_ne, cm_eqS, cm_neS, onb, oni, yn_gd, yn_cls, Nat.reduceLT, if_true, if_false, true_and, and_true, List.set_cons_zero, List.set_cons_succ, set_nm, set_tup, set_nil, set_cons, ifb, b1_abs, b1_int, b1_intB, b1_lenT, b1_lenL, b1_tupL, b1_tupT, b2_min, b2_max, seq_tup, seq_lst, seq_sq, gd_sq, ix_sq, len_sq, new_t, new_f, gd_tup, gd_lst, ix_lst, ty_int, ty_tup, ty_str, isi_ii, isi_ib, isi_tt, isi_ss, reduceIte, Bool.true_eq_false, Bool.false_eq_true, Bool.not_true, Bool.not_false,  List.zip_cons_cons, List.zip_nil_right, List.foldl_cons, List.foldl_nil, ne_eq, not_false_eq_true, not_true_eq_false, Bool.not_eq_true', decide_eq_false_iff_not, decide_eq_true_eq, reduceCtorEq, List.cons.injEq, and_self, D.ref.injEq, Cell.obj.injEq, D.int.injEq]
    rw [Nat.zero_add, List.take_length] at hM
    rw [own_kinds (ho _ hk)]
    refine ⟨_, rfl, ?_⟩
    refine for_inv D.str (fun i r M => ∃ o2 o3 o4 o5 o6 o7, r = [some d, some (.ref a), o2, o3, o4, o5, o6, o7] ∧ M a = some (.lst ((.str (Str.ofString "book " ++ numS b.by_) :: (b.marks.zip b.wts).map fun z => D.str (markL z)) ++ ((b.kinds.zip b.tabs).take i).map fun z => D.str (kindL z))) ∧ Kx m M) b.kinds 0 _ _ ⟨_, _, _, _, _, _, rfl, by simpa using hM, hk⟩ ?_ ?_
    · rintro i hi r M N ⟨o2, o3, o4, o5, o6, o7, rfl, hM, hk⟩ kN
      simp only [Nat.zero_add] at hM kN
      refine ⟨trivial, ?_⟩
      have hi' : i < b.tabs.length := by rw [hb.tl, ← hb.kn.len]; exact hi
      have hiz : i < (b.kinds.zip b.tabs).length := by rw [hkl, ← hb.kn.len]; exact hi
      have ez : (b.kinds.zip b.tabs)[i] = (b.kinds[i], b.tabs[i]) := List.getElem_zip
      have hot := hb.tab b.tabs[i] (List.getElem_mem hi')
      have hll := kindL_len hb.by_ok hb.n4 (hb.kn.nm _ (List.getElem_mem hi)) hot
      have e1 := List.getElem?_eq_getElem hi
      have e2 := List.getElem?_eq_getElem hi'
      have hnx : ((.str (Str.ofString "book " ++ numS b.by_) :: (b.marks.zip b.wts).map fun z => D.str (markL z)) ++ ((b.kinds.zip b.tabs).take i).map fun z => D.str (kindL z)) ++ [D.str (kindL (b.kinds[i], b.tabs[i]))] = (.str (Str.ofString "book " ++ numS b.by_) :: (b.marks.zip b.wts).map fun z => D.str (markL z)) ++ ((b.kinds.zip b.tabs).take (i + 1)).map fun z => D.str (kindL z) := by
        rw [List.append_assoc, List.take_succ_eq_append_getElem hiz, List.map_append, ez]; rfl
      generalize b.kinds[i] = kd at hll e1 hnx
      generalize b.tabs[i] = t at hot hll e2 hnx
      simp only [kindL, len_add, sp] at hll
      try simp only [body, exs, ex, ev, evs, evB, evO, evT, evI, startD, List.map_cons, List.map_nil, List.length_cons, List.length_nil, Nat.reduceAdd, Nat.reduceSub, List.replicate, List.cons_append, List.nil_append, List.append_nil, List.getElem?_cons_zero, List.getElem?_cons_succ, Option.some.injEq, exists_and_left, exists_eq_left', exists_eq_left, exists_eq, ix_tup, at0, at1, at2, op_add', op_sub', op_mul', op_fdiv', op_mod', op_pow', op_addT, cm_lt, cm_le, cm_gt, cm_ge, cm_eq, cm_ne, cm_eqS, cm_neS, onb, oni, yn_gd, yn_cls, Nat.reduceLT, if_true, if_false, true_and, and_true, List.set_cons_zero, List.set_cons_succ, set_nm, set_tup, set_nil, set_cons, ifb, b1_abs, b1_int, b1_intB, b1_lenT, b1_lenL, b1_tupL, b1_tupT, b2_min, b2_max, seq_tup, seq_lst, seq_sq, gd_sq, ix_sq, len_sq, new_t, new_f, gd_tup, gd_lst, ix_lst, ty_int, ty_tup, ty_str, isi_ii, isi_ib, isi_tt, isi_ss, reduceIte, Bool.true_eq_false, Bool.false_eq_true, Bool.not_true, Bool.not_false,  List.zip_cons_cons, List.zip_nil_right, List.foldl_cons, List.foldl_nil, ne_eq, not_false_eq_true, not_true_eq_false, Bool.not_eq_true', decide_eq_false_iff_not, decide_eq_true_eq, reduceCtorEq, List.cons.injEq, and_self, D.ref.injEq, Cell.obj.injEq, D.int.injEq]
      rw [own_tables (ho _ hk)]
      rw [ix_tabs hb.kn.nd e1 e2]
      refine ⟨_, rfl, ?_⟩
      refine lc_pureW t intsD (fun r => D.str (rowS r)) (fun _ _ _ => trivial) (fun r hr p' acc K hp' kK => ?_) ?_
      · refine ⟨⟨_, rfl⟩, _, rfl, _, rfl, ?_⟩
        refine lc_pureW r D.int (fun x => D.str (numS x)) (fun _ _ _ => trivial) (fun x hx p'' acc' K' hp'' kK' => ?_) ?_
        · refine ⟨_, rfl, ?_⟩
          have hx12 : x.natAbs ≤ 10 ^ 12 := ((hot.2 r hr).2 x hx).le hb.by_ok
          rw [b1_int, b1_strS hx12]
          exact kK'
        · refine ⟨sp, rfl, r.map numS, by show some _ = _; rw [List.map_map]; rfl, ?_, kK⟩
          have h1 := sum_le (c := 14) (zs := r.map numS) fun z hz => by
            obtain ⟨x, hx, rfl⟩ := List.mem_map.mp hz
            exact numS_len (((hot.2 r hr).2 x hx).le hb.by_ok)
          have h2 := (hot.2 r hr).1
          have h3 := hb.n4
          rw [List.length_map, h2] at h1
          rw [List.length_map, h2, sp_len]
          omega
      · refine ⟨⟨_, lst_ref hM⟩, ?_⟩
        rw [op_addS]
        refine ⟨by omega, ?_⟩
        rw [op_addS]
        refine ⟨by simp only [len_add]; omega, ⟨_, rfl⟩, sp, rfl, t.map rowS, by show some _ = _; rw [List.map_map]; rfl, ?_, ?_⟩
        · have h1 := sum_le (c := 60) (zs := t.map rowS) fun z hz => by
            obtain ⟨r, hr, rfl⟩ := List.mem_map.mp hz
            exact rowS_len hb.by_ok (by rw [(hot.2 r hr).1]; exact hb.n4) (hot.2 r hr).2
          have h2 := hot.1
          have h3 := hb.n4
          rw [List.length_map, h2] at h1
          rw [List.length_map, h2, sp_len]
          omega
        rw [op_addS]
        refine ⟨by simp only [len_add]; unfold sp at *; omega, _, hM, ?_, kN _ _ ⟨_, _, _, _, _, _, rfl, ?_, hk.set ha oL⟩⟩
        · simp only [List.length_append, List.length_cons, List.length_map, List.length_take]
          have := hb.n4
          have := hb.k3
          omega
        rw [put_same]
        exact congrArg (fun x => some (Cell.lst x)) hnx
    · rintro r M ⟨o2, o3, o4, o5, o6, o7, rfl, hM, hk⟩
      refine ⟨trivial, ?_⟩
      try simp only [body, exs, ex, ev, evs, evB, evO, evT, evI, startD, List.map_cons, List.map_nil, List.length_cons, List.length_nil, Nat.reduceAdd, Nat.reduceSub, List.replicate, List.cons_append, List.nil_append, List.append_nil, List.getElem?_cons_zero, List.getElem?_cons_succ, Option.some.injEq, exists_and_left, exists_eq_left', exists_eq_left, exists_eq, ix_tup, at0, at1, at2, op_add', op_sub', op_mul', op_fdiv', op_mod', op_pow', op_addT, cm_lt, cm_le, cm_gt, cm_ge, cm_eq, cm_ne, cm_eqS, cm_neS, onb, oni, yn_gd, yn_cls, Nat.reduceLT, if_true, if_false, true_and, and_true, List.set_cons_zero, List.set_cons_succ, set_nm, set_tup, set_nil, set_cons, ifb, b1_abs, b1_int, b1_intB, b1_lenT, b1_lenL, b1_tupL, b1_tupT, b2_min, b2_max, seq_tup, seq_lst, seq_sq, gd_sq, ix_sq, len_sq, new_t, new_f, gd_tup, gd_lst, ix_lst, ty_int, ty_tup, ty_str, isi_ii, isi_ib, isi_tt, isi_ss, reduceIte, Bool.true_eq_false, Bool.false_eq_true, Bool.not_true, Bool.not_false,  List.zip_cons_cons, List.zip_nil_right, List.foldl_cons, List.foldl_nil, ne_eq, not_false_eq_true, not_true_eq_false, Bool.not_eq_true', decide_eq_false_iff_not, decide_eq_true_eq, reduceCtorEq, List.cons.injEq, and_self, D.ref.injEq, Cell.obj.injEq, D.int.injEq]
      refine ⟨⟨_, rfl⟩, Str.ofString "\n", rfl, linesB b, ?_, ?_, _, SubO.refl, q M hk⟩
      · rw [seq_ref hM]
        rw [Nat.zero_add, List.take_of_length_le (by rw [hkl, hb.kn.len]; exact Nat.le_refl _)]
        simp [linesB, Function.comp_def]
      · have h1 := sum_le (c := 254) (zs := linesB b) fun z hz => by
          rcases List.mem_cons.mp hz with rfl | hz
          · rw [len_add]
            have := numS_len hbs
            rw [show (Str.ofString "book ").length = 5 from by decide]
            omega
          rcases List.mem_append.mp hz with hz | hz
          · obtain ⟨⟨x, w⟩, hy, rfl⟩ := List.mem_map.mp hz
            have hz' := List.of_mem_zip hy
            have := markL_len hb.by_ok (hb.m.nm _ hz'.1) (hb.w _ hz'.2)
            omega
          · obtain ⟨⟨x, t⟩, hy, rfl⟩ := List.mem_map.mp hz
            have hz' := List.of_mem_zip hy
            exact kindL_len hb.by_ok hb.n4 (hb.kn.nm _ hz'.1) (hb.tab _ hz'.2)
        have h2 : (linesB b).length = 1 + n + k := by
          unfold linesB
          rw [List.length_cons, List.length_append, List.length_map, List.length_map, hzl, hkl]; omega
        have h3 := hb.n4
        have h4 := hb.k3
        rw [h2] at h1
        rw [h2, show (Str.ofString "\n").length = 1 from by decide]
        omega
end Og.Lk00
end
section
set_option maxHeartbeats 4000000
set_option autoImplicit false
namespace Og.Lk00
open PySem Og TL L2
def s_renamed : Spec := fun ds m Q => ∃ (p : Addr) (L n k : Nat) (b : Bk), ds = [.ref p, ownD b] ∧ BkOk b n k ∧ Pot L m p ∧ L ≤ 800000 ∧ NoObj m ∧ ∀ (b' : Bk) (M : Mem), BkOk b' n k → b'.by_ = b.by_ → Ux m M p → Pot (L + 200) M p → Q (ownD b') M
theorem stay_data {m : Mem} {l : List D} : Stay m (.tup l) l := fun _ _ => rfl
theorem law_renamed {X : Ctx} (hsm : X.fn 2 = s_some) (hnm : X.fn 3 = s_names) (hpk : X.fn 20 = s_picked) (ds : List D) (m : Mem) (Q : KD) (h : s_renamed ds m Q) : body X 4 c21 ds m Q := by
  obtain ⟨p, L, n, k, b, rfl, hb, hp, hL, no, q⟩ := h
  have hn4 := hb.n4
  simp only [c21, hsm, hnm, hpk, body, exs, ex, ev, evs, evB, evO, evT, evI, startD, List.map_cons, List.map_nil, List.length_cons, List.length_nil, Nat.reduceAdd, Nat.reduceSub, List.replicate, List.cons_append, List.nil_append, List.append_nil, List.getElem?_cons_zero, List.getElem?_cons_succ, Option.some.injEq, exists_and_left, exists_eq_left', exists_eq_left, exists_eq, ix_tup, at0, at1, at2, op_add', op_sub', op_mul', op_fdiv', op_mod', op_pow', op_addT, cm_lt, cm_le, cm_gt, cm_ge, cm_eq, cm_ne, cm_eqS, cm_neS, onb, oni, yn_gd, yn_cls, Nat.reduceLT, if_true, if_false, true_and, and_true, List.set_cons_zero, List.set_cons_succ, set_nm, set_tup, set_nil, set_cons, ifb, b1_abs, b1_int, b1_intB, b1_lenT, b1_lenL, b1_tupL, b1_tupT, b2_min, b2_max, seq_tup, seq_lst, seq_sq, gd_sq, ix_sq, len_sq, new_t, new_f, gd_tup, gd_lst, ix_lst, ty_int, ty_tup, ty_str, isi_ii, isi_ib, isi_tt, isi_ss, reduceIte, Bool.true_eq_false, Bool.false_eq_true, Bool.not_true, Bool.not_false,  List.zip_cons_cons, List.zip_nil_right, List.foldl_cons, List.foldl_nil, ne_eq, not_false_eq_true, not_true_eq_false, Bool.not_eq_true', decide_eq_false_iff_not, decide_eq_true_eq, reduceCtorEq, List.cons.injEq, and_self, D.ref.injEq, Cell.obj.injEq, D.int.injEq]
  simp only [own_marks isOwn_data, len_strs, hb.m.len, body, exs, ex, ev, evs, evB, evO, evT, evI, startD, List.map_cons, List.map_nil, List.length_cons, List.length_nil, Nat.reduceAdd, Nat.reduceSub, List.replicate, List.cons_append, List.nil_append, List.append_nil, List.getElem?_cons_zero, List.getElem?_cons_succ, Option.some.injEq, exists_and_left, exists_eq_left', exists_eq_left, exists_eq, ix_tup, at0, at1, at2, op_add', op_sub', op_mul', op_fdiv', op_mod', op_pow', op_addT, cm_lt, cm_le, cm_gt, cm_ge, cm_eq, cm_ne, cm_eqS, cm_neS, onb, oni, yn_gd, yn_cls, Nat.reduceLT, if_true, if_false, true_and, and_true, List.set_cons_zero, List.set_cons_succ, set_nm, set_tup, set_nil, set_cons, ifb, b1_abs, b1_int, b1_intB, b1_lenT, b1_lenL, b1_tupL, b1_tupT, b2_min, b2_max, seq_tup, seq_lst, seq_sq, gd_sq, ix_sq, len_sq, new_t, new_f, gd_tup, gd_lst, ix_lst, ty_int, ty_tup, ty_str, isi_ii, isi_ib, isi_tt, isi_ss, reduceIte, Bool.true_eq_false, Bool.false_eq_true, Bool.not_true, Bool.not_false,  List.zip_cons_cons, List.zip_nil_right, List.foldl_cons, List.foldl_nil, ne_eq, not_false_eq_true, not_true_eq_false, Bool.not_eq_true', decide_eq_false_iff_not, decide_eq_true_eq, reduceCtorEq, List.cons.injEq, and_self, D.ref.injEq, Cell.obj.injEq, D.int.injEq]
  refine ⟨by unfold small62; omega, by unfold small62; omega, by omega, ?_⟩
  rw [rgD_nat]
  refine ⟨p, L, n, (List.range n).map fun i => D.int ((i : Nat) : Int), _, rfl, rfl, by rw [List.length_map, List.length_range]; omega, by rw [List.length_map, List.length_range]; omega, hp, by omega, no, fun f M1 ⟨rest, hf⟩ fl u1 p1 => ?_⟩
  obtain ⟨ts, rfl, hnd, hin⟩ := some_out hf List.nodup_range
  rw [List.length_map] at fl
  have hin' : ∀ i ∈ ts, i < n := fun i hi => by simpa using hin i hi
  try simp only [body, exs, ex, ev, evs, evB, evO, evT, evI, startD, List.map_cons, List.map_nil, List.length_cons, List.length_nil, Nat.reduceAdd, Nat.reduceSub, List.replicate, List.cons_append, List.nil_append, List.append_nil, List.getElem?_cons_zero, List.getElem?_cons_succ, Option.some.injEq, exists_and_left, exists_eq_left', exists_eq_left, exists_eq, ix_tup, at0, at1, at2, op_add', op_sub', op_mul', op_fdiv', op_mod', op_pow', op_addT, cm_lt, cm_le, cm_gt, cm_ge, cm_eq, cm_ne, cm_eqS, cm_neS, onb, oni, yn_gd, yn_cls, Nat.reduceLT, if_true, if_false, true_and, and_true, List.set_cons_zero, List.set_cons_succ, set_nm, set_tup, set_nil, set_cons, ifb, b1_abs, b1_int, b1_intB, b1_lenT, b1_lenL, b1_tupL, b1_tupT, b2_min, b2_max, seq_tup, seq_lst, seq_sq, gd_sq, ix_sq, len_sq, new_t, new_f, gd_tup, gd_lst, ix_lst, ty_int, ty_tup, ty_str, isi_ii, isi_ib, isi_tt, isi_ss, reduceIte, Bool.true_eq_false, Bool.false_eq_true, Bool.not_true, Bool.not_false,  List.zip_cons_cons, List.zip_nil_right, List.foldl_cons, List.foldl_nil, ne_eq, not_false_eq_true, not_true_eq_false, Bool.not_eq_true', decide_eq_false_iff_not, decide_eq_true_eq, reduceCtorEq, List.cons.injEq, and_self, D.ref.injEq, Cell.obj.injEq, D.int.injEq]
  rw [List.length_map, fl]
  refine ⟨p, _, n, rfl, hn4, p1, by omega, u1.no, fun ns M2 hns u2 p2 => ?_⟩
  refine lc_pureW ts (fun i => D.int ((i : Nat) : Int)) (fun i => D.int (b.wts.getD i 0)) (fun _ _ _ => trivial) (fun i hi p' acc K hp' kK => ?_) ?_
  · refine ⟨_, rfl, ?_⟩
    rw [own_weights isOwn_data]
    refine ⟨_, rfl, ?_⟩
    rw [ix_ints (x := b.wts.getD i 0) (by rw [List.getD_eq_getElem?_getD, List.getElem?_eq_getElem (show i < b.wts.length by rw [hb.wl]; exact hin' i hi)]; rfl)]
    exact kK
  have hw : ∀ x ∈ ts.map fun i => b.wts.getD i 0, OkW b.by_ x := fun x hx => by
    obtain ⟨i, hi, rfl⟩ := List.mem_map.mp hx
    have hl : i < b.wts.length := by rw [hb.wl]; exact hin' i hi
    rw [List.getD_eq_getElem?_getD, List.getElem?_eq_getElem hl]
    exact hb.w _ (List.getElem_mem hl)
  have ew : (ts.map fun i => D.int (b.wts.getD i 0)) = (ts.map fun i => b.wts.getD i 0).map D.int := by rw [List.map_map]; rfl
  rw [ew]
  refine ⟨_, _, _, b, n, k, ts, ns, ts.map fun i => b.wts.getD i 0, rfl, hb, hin', u2.no, ownS_data, stay_data, stay_lst, fun M3 k3 => ⟨_, SubO.refl, ?_⟩⟩
  exact q _ M3 (picked_ok hb hb.n1 hn4 fl hin' hns (by rw [List.length_map, fl]) hw) rfl ((u1.trans u2).kx k3) ((p2.kx k3).mono (by omega))
end Og.Lk00
end
section
set_option maxHeartbeats 4000000
set_option autoImplicit false
namespace Og.Lk00
open PySem Og TL L2
def s_split : Spec := fun ds m Q => ∃ (p : Addr) (L n k : Nat) (b : Bk) (ia : Bool), ds = [.ref p, ownD b, .bl ia] ∧ BkOk b n k ∧ Pot L m p ∧ L ≤ 800000 ∧ NoObj m ∧ ∀ (b' : Bk) (n' : Nat) (M : Mem), BkOk b' n' k → b'.by_ = b.by_ → Ux m M p → Pot (L + 200) M p → Q (ownD b') M
abbrev splR (p : Addr) (b : Bk) (ia : Bool) (n at_ : Nat) (part rest : Int) : Rho := [some (.ref p), some (ownD b), some (.bl ia), some (.int (n : Int)), some (.int b.by_), some (.int (at_ : Int)), some (.int part), some (.int rest), none]
theorem split_last {X : Ctx} (hnm : X.fn 3 = s_names) (hpk : X.fn 20 = s_picked) {Q : KD} {p : Addr} {L n k at_ : Nat} {b : Bk} {ia : Bool} {part rest : Int} {m : Mem} (hb : BkOk b n k) (hL : L ≤ 800010) (hat : at_ < n) (hn3 : n + 1 ≤ 4) (hp1 : OkW b.by_ part) (hr1 : OkW b.by_ rest)
    (q : ∀ (b' : Bk) (n' : Nat) (M : Mem), BkOk b' n' k → b'.by_ = b.by_ → Ux m M p → Pot (L + 150) M p → Q (ownD b') M) (hp : Pot L m p) (no : NoObj m) : exs X (c22.drop 5) (splR p b ia n at_ part rest) m (endK Q) := by
  simp only [c22, List.drop, splR, hnm, hpk, body, exs, ex, ev, evs, evB, evO, evT, evI, startD, List.map_cons, List.map_nil, List.length_cons, List.length_nil, Nat.reduceAdd, Nat.reduceSub, List.replicate, List.cons_append, List.nil_append, List.append_nil, List.getElem?_cons_zero, List.getElem?_cons_succ, Option.some.injEq, exists_and_left, exists_eq_left', exists_eq_left, exists_eq, ix_tup, at0, at1, at2, op_add', op_sub', op_mul', op_fdiv', op_mod', op_pow', op_addT, cm_lt, cm_le, cm_gt, cm_ge, cm_eq, cm_ne, cm_eqS, cm_neS, onb, oni, yn_gd, yn_cls, Nat.reduceLT, if_true, if_false, true_and, and_true, List.set_cons_zero, List.set_cons_succ, set_nm, set_tup, set_nil, set_cons, ifb, b1_abs, b1_int, b1_intB, b1_lenT, b1_lenL, b1_tupL, b1_tupT, b2_min, b2_max, seq_tup, seq_lst, seq_sq, gd_sq, ix_sq, len_sq, new_t, new_f, gd_tup, gd_lst, ix_lst, ty_int, ty_tup, ty_str, isi_ii, isi_ib, isi_tt, isi_ss, reduceIte, Bool.true_eq_false, Bool.false_eq_true, Bool.not_true, Bool.not_false,  List.zip_cons_cons, List.zip_nil_right, List.foldl_cons, List.foldl_nil, ne_eq, not_false_eq_true, not_true_eq_false, Bool.not_eq_true', decide_eq_false_iff_not, decide_eq_true_eq, reduceCtorEq, List.cons.injEq, and_self, D.ref.injEq, Cell.obj.injEq, D.int.injEq]
  rw [own_weights isOwn_data]
  refine b1_listT (l := b.wts.map D.int) rfl fun r1 hr1' => ⟨by decide, fun r2 hr2 => ?_⟩
  have n12 : r1 ≠ r2 := fun z => by rw [← z, put_same] at hr2; cases hr2
  have hr2' : m r2 = none := by rw [put_ne n12.symm] at hr2; exact hr2
  refine op_addRR (xs := b.wts.map D.int) (ys := [.int part]) (by rw [put_ne n12, put_same]) put_same (by rw [List.length_map, hb.wl, List.length_singleton]; omega) fun r3 hr3 => ?_
  have k3 : Kx m (put (put (put m r1 (.lst (b.wts.map D.int))) r2 (.lst [.int part])) r3 (.lst (b.wts.map D.int ++ [D.int part]))) := (((Kx.refl no).new hr1' oL).new hr2 oL).new hr3 oL
  have h3 := (((Kx.refl no).new hr1' oL).new hr2 oL).none hr3
  have e3 : put (put (put m r1 (.lst (b.wts.map D.int))) r2 (.lst [.int part])) r3 (.lst (b.wts.map D.int ++ [D.int part])) r3 = some (.lst (b.wts.map D.int ++ [D.int part])) := put_same
  generalize put (put (put m r1 (.lst (b.wts.map D.int))) r2 (.lst [.int part])) r3 (.lst (b.wts.map D.int ++ [D.int part])) = M3 at k3 e3
  have ll : (b.wts.map D.int ++ [D.int part]).length = n + 1 := by rw [List.length_append, List.length_map, hb.wl]; rfl
  refine ⟨r3, rfl, _, e3, at_, by rw [ll]; exact ixN_nat (by omega), by unfold small62; omega, by unfold small62; omega, by omega, by decide, ?_⟩
  rw [rgD_nat, op_addLL]
  refine ⟨by rw [List.length_map, List.length_range, List.length_singleton]; omega, ?_⟩
  have k4 := k3.set (c := .lst ((b.wts.map D.int ++ [D.int part]).set at_ (D.int rest))) h3 oL
  have e4 : put M3 r3 (.lst ((b.wts.map D.int ++ [D.int part]).set at_ (D.int rest))) r3 = some (.lst ((b.wts.map D.int ++ [D.int part]).set at_ (D.int rest))) := put_same
  generalize put M3 r3 (.lst ((b.wts.map D.int ++ [D.int part]).set at_ (D.int rest))) = M4 at k4 e4
  have np := hp.ne h3
  have p4 := hp.kx k4
  refine ⟨p, L, n + 1, rfl, by omega, p4, by omega, k4.no, fun ns M5 hns u5 p5 => ?_⟩
  have e5 := u5.at_ e4 np.symm
  have epl : (List.range n).map (fun i => D.int ((i : Nat) : Int)) ++ [D.int (at_ : Int)] = plD (List.range n ++ [at_]) := by unfold plD; rw [List.map_append]; rfl
  have ews : (b.wts.map D.int ++ [D.int part]).set at_ (D.int rest) = ((b.wts ++ [part]).set at_ rest).map D.int := by rw [List.map_set, List.map_append]; rfl
  rw [epl]
  rw [ews] at e5
  have hin : ∀ i ∈ List.range n ++ [at_], i < n := fun i hi => by
    rcases List.mem_append.mp hi with z | z
    · simpa using z
    · rw [List.mem_singleton.mp z]; exact hat
  have hlen : (List.range n ++ [at_]).length = n + 1 := by simp
  have hw : ∀ x ∈ (b.wts ++ [part]).set at_ rest, OkW b.by_ x := fun x hx => by
    rcases List.mem_or_eq_of_mem_set hx with z | rfl
    · rcases List.mem_append.mp z with z | z
      · exact hb.w _ z
      · rw [List.mem_singleton.mp z]; exact hp1
    · exact hr1
  refine ⟨_, _, _, b, n, k, _, ns, (b.wts ++ [part]).set at_ rest, rfl, hb, hin, u5.no, ownS_data, stay_tup, stay_ref e5, fun M6 k6 => ⟨_, SubO.refl, ?_⟩⟩
  exact q _ (n + 1) M6 (picked_ok hb (by omega) hn3 hlen hin hns (by rw [List.length_set, List.length_append, hb.wl]; rfl) hw) rfl (((Ux.refl hp no).kx k4).trans u5 |>.kx k6) ((p5.kx k6).mono (by omega))
theorem split_test {X : Ctx} (hnm : X.fn 3 = s_names) (hpk : X.fn 20 = s_picked) {Q : KD} {p : Addr} {L n k at_ : Nat} {b : Bk} {ia : Bool} {part rest : Int} {m : Mem} (hb : BkOk b n k) (hL : L ≤ 800010) (hat : at_ < n) (hp1 : OkW b.by_ part) (hr : 0 < b.by_ → 0 ≤ rest ∧ rest < b.by_)
    (q : ∀ (b' : Bk) (n' : Nat) (M : Mem), BkOk b' n' k → b'.by_ = b.by_ → Ux m M p → Pot (L + 150) M p → Q (ownD b') M) (hp : Pot L m p) (no : NoObj m) : exs X (c22.drop 4) (splR p b ia n at_ part rest) m (endK Q) := by
  generalize hR : c22.drop 5 = R
  have e4 : c22.drop 4 = (c22.drop 4).take 1 ++ R := by rw [← hR]; rfl
  rw [e4, exs_app]
  simp only [c22, List.drop, List.take, splR, body, exs, ex, ev, evs, evB, evO, evT, evI, startD, List.map_cons, List.map_nil, List.length_cons, List.length_nil, Nat.reduceAdd, Nat.reduceSub, List.replicate, List.cons_append, List.nil_append, List.append_nil, List.getElem?_cons_zero, List.getElem?_cons_succ, Option.some.injEq, exists_and_left, exists_eq_left', exists_eq_left, exists_eq, ix_tup, at0, at1, at2, op_add', op_sub', op_mul', op_fdiv', op_mod', op_pow', op_addT, cm_lt, cm_le, cm_gt, cm_ge, cm_eq, cm_ne, cm_eqS, cm_neS, onb, oni, yn_gd, yn_cls, Nat.reduceLT, if_true, if_false, true_and, and_true, List.set_cons_zero, List.set_cons_succ, set_nm, set_tup, set_nil, set_cons, ifb, b1_abs, b1_int, b1_intB, b1_lenT, b1_lenL, b1_tupL, b1_tupT, b2_min, b2_max, seq_tup, seq_lst, seq_sq, gd_sq, ix_sq, len_sq, new_t, new_f, gd_tup, gd_lst, ix_lst, ty_int, ty_tup, ty_str, isi_ii, isi_ib, isi_tt, isi_ss, reduceIte, Bool.true_eq_false, Bool.false_eq_true, Bool.not_true, Bool.not_false,  List.zip_cons_cons, List.zip_nil_right, List.foldl_cons, List.foldl_nil, ne_eq, not_false_eq_true, not_true_eq_false, Bool.not_eq_true', decide_eq_false_iff_not, decide_eq_true_eq, reduceCtorEq, List.cons.injEq, and_self, D.ref.injEq, Cell.obj.injEq, D.int.injEq]
  have q0 : ∃ m2, SubO m2 m ∧ Q (ownD b) m2 := ⟨m, SubO.refl, q b n m hb rfl (Ux.refl hp no) (hp.mono (by omega))⟩
  by_cases h4 : (n : Int) = 4
  · rw [if_pos h4]; exact q0
  rw [if_neg h4]
  by_cases h0 : rest = 0
  · rw [if_pos h0]; exact q0
  rw [if_neg h0]
  have hlast : exs X R (splR p b ia n at_ part rest) m (endK Q) ∨ ¬ rest.natAbs ≤ 10 ^ 12 := by
    by_cases hr12 : rest.natAbs ≤ 10 ^ 12
    · left
      rw [← hR]
      have hn4 := hb.n4
      refine split_last hnm hpk hb hL hat (by omega) hp1 ⟨h0, ?_⟩ q hp no
      unfold OkE
      rcases hb.by_ok.lt with z | z
      · rw [if_pos z]; exact hr12
      · rw [if_neg (by omega)]; exact hr (by omega)
    · exact .inr hr12
  have fin : (0 : Int) ≤ 12 ∧ ((Builtin.Int.intBits 10 : Nat) : Int) * 12 ≤ 2 ^ 27 ∧ if (10 : Int) ^ Int.toNat 12 < (rest.natAbs : Int) then ∃ m2, SubO m2 m ∧ Q (ownD b) m2 else exs X R (splR p b ia n at_ part rest) m (endK Q) := by
    refine ⟨by decide, by decide, ?_⟩
    by_cases hh : (10 : Int) ^ Int.toNat 12 < (rest.natAbs : Int)
    · rw [if_pos hh]; exact q0
    · rw [if_neg hh]
      rcases hlast with z | z
      · exact z
      · exact absurd (by have e : (10 : Int) ^ Int.toNat 12 = 1000000000000 := by decide
                         rw [e] at hh; omega) z
  cases ia
  · rw [if_neg (by decide)]; exact fin
  · rw [if_pos rfl]
    by_cases h1 : rest < 0
    · rw [if_pos h1]; exact q0
    · rw [if_neg h1]; exact fin
theorem law_split {X : Ctx} (ht : X.fn 0 = s_take) (hnm : X.fn 3 = s_names) (hpk : X.fn 20 = s_picked) (ds : List D) (m : Mem) (Q : KD) (h : s_split ds m Q) : body X 9 c22 ds m Q := by
  obtain ⟨p, L, n, k, b, ia, rfl, hb, hp, hL, no, q⟩ := h
  have hn4 := hb.n4
  have hn1 := hb.n1
  refine body_cut 4 ?_
  generalize hR : c22.drop 4 = R
  simp only [c22, List.take, ht, hnm, hpk, body, exs, ex, ev, evs, evB, evO, evT, evI, startD, List.map_cons, List.map_nil, List.length_cons, List.length_nil, Nat.reduceAdd, Nat.reduceSub, List.replicate, List.cons_append, List.nil_append, List.append_nil, List.getElem?_cons_zero, List.getElem?_cons_succ, Option.some.injEq, exists_and_left, exists_eq_left', exists_eq_left, exists_eq, ix_tup, at0, at1, at2, op_add', op_sub', op_mul', op_fdiv', op_mod', op_pow', op_addT, cm_lt, cm_le, cm_gt, cm_ge, cm_eq, cm_ne, cm_eqS, cm_neS, onb, oni, yn_gd, yn_cls, Nat.reduceLT, if_true, if_false, true_and, and_true, List.set_cons_zero, List.set_cons_succ, set_nm, set_tup, set_nil, set_cons, ifb, b1_abs, b1_int, b1_intB, b1_lenT, b1_lenL, b1_tupL, b1_tupT, b2_min, b2_max, seq_tup, seq_lst, seq_sq, gd_sq, ix_sq, len_sq, new_t, new_f, gd_tup, gd_lst, ix_lst, ty_int, ty_tup, ty_str, isi_ii, isi_ib, isi_tt, isi_ss, reduceIte, Bool.true_eq_false, Bool.false_eq_true, Bool.not_true, Bool.not_false,  List.zip_cons_cons, List.zip_nil_right, List.foldl_cons, List.foldl_nil, ne_eq, not_false_eq_true, not_true_eq_false, Bool.not_eq_true', decide_eq_false_iff_not, decide_eq_true_eq, reduceCtorEq, List.cons.injEq, and_self, D.ref.injEq, Cell.obj.injEq, D.int.injEq]
  simp only [own_marks isOwn_data, own_by isOwn_data, len_strs, hb.m.len, body, exs, ex, ev, evs, evB, evO, evT, evI, startD, List.map_cons, List.map_nil, List.length_cons, List.length_nil, Nat.reduceAdd, Nat.reduceSub, List.replicate, List.cons_append, List.nil_append, List.append_nil, List.getElem?_cons_zero, List.getElem?_cons_succ, Option.some.injEq, exists_and_left, exists_eq_left', exists_eq_left, exists_eq, ix_tup, at0, at1, at2, op_add', op_sub', op_mul', op_fdiv', op_mod', op_pow', op_addT, cm_lt, cm_le, cm_gt, cm_ge, cm_eq, cm_ne, cm_eqS, cm_neS, onb, oni, yn_gd, yn_cls, Nat.reduceLT, if_true, if_false, true_and, and_true, List.set_cons_zero, List.set_cons_succ, set_nm, set_tup, set_nil, set_cons, ifb, b1_abs, b1_int, b1_intB, b1_lenT, b1_lenL, b1_tupL, b1_tupT, b2_min, b2_max, seq_tup, seq_lst, seq_sq, gd_sq, ix_sq, len_sq, new_t, new_f, gd_tup, gd_lst, ix_lst, ty_int, ty_tup, ty_str, isi_ii, isi_ib, isi_tt, isi_ss, reduceIte, Bool.true_eq_false, Bool.false_eq_true, Bool.not_true, Bool.not_false,  List.zip_cons_cons, List.zip_nil_right, List.foldl_cons, List.foldl_nil, ne_eq, not_false_eq_true, not_true_eq_false, Bool.not_eq_true', decide_eq_false_iff_not, decide_eq_true_eq, reduceCtorEq, List.cons.injEq, and_self, D.ref.injEq, Cell.obj.injEq, D.int.injEq]
  refine ⟨p, n, L, rfl, hn1, by omega, hp, by omega, fun at_ M1 hat c1 p1 => ?_⟩
  have u1 := (Ux.refl hp no).chg c1
  try simp only [body, exs, ex, ev, evs, evB, evO, evT, evI, startD, List.map_cons, List.map_nil, List.length_cons, List.length_nil, Nat.reduceAdd, Nat.reduceSub, List.replicate, List.cons_append, List.nil_append, List.append_nil, List.getElem?_cons_zero, List.getElem?_cons_succ, Option.some.injEq, exists_and_left, exists_eq_left', exists_eq_left, exists_eq, ix_tup, at0, at1, at2, op_add', op_sub', op_mul', op_fdiv', op_mod', op_pow', op_addT, cm_lt, cm_le, cm_gt, cm_ge, cm_eq, cm_ne, cm_eqS, cm_neS, onb, oni, yn_gd, yn_cls, Nat.reduceLT, if_true, if_false, true_and, and_true, List.set_cons_zero, List.set_cons_succ, set_nm, set_tup, set_nil, set_cons, ifb, b1_abs, b1_int, b1_intB, b1_lenT, b1_lenL, b1_tupL, b1_tupT, b2_min, b2_max, seq_tup, seq_lst, seq_sq, gd_sq, ix_sq, len_sq, new_t, new_f, gd_tup, gd_lst, ix_lst, ty_int, ty_tup, ty_str, isi_ii, isi_ib, isi_tt, isi_ss, reduceIte, Bool.true_eq_false, Bool.false_eq_true, Bool.not_true, Bool.not_false,  List.zip_cons_cons, List.zip_nil_right, List.foldl_cons, List.foldl_nil, ne_eq, not_false_eq_true, not_true_eq_false, Bool.not_eq_true', decide_eq_false_iff_not, decide_eq_true_eq, reduceCtorEq, List.cons.injEq, and_self, D.ref.injEq, Cell.obj.injEq, D.int.injEq]
  have ew : b.wts[at_]? = some (b.wts.getD at_ 0) := by rw [List.getD_eq_getElem?_getD, List.getElem?_eq_getElem (show at_ < b.wts.length by rw [hb.wl]; exact hat)]; rfl
  rw [← hR]
  rcases hb.by_ok.lt with z | z
  · have hz : ¬ (0 < b.by_) := by omega
    simp only [if_neg hz, body, exs, ex, ev, evs, evB, evO, evT, evI, startD, List.map_cons, List.map_nil, List.length_cons, List.length_nil, Nat.reduceAdd, Nat.reduceSub, List.replicate, List.cons_append, List.nil_append, List.append_nil, List.getElem?_cons_zero, List.getElem?_cons_succ, Option.some.injEq, exists_and_left, exists_eq_left', exists_eq_left, exists_eq, ix_tup, at0, at1, at2, op_add', op_sub', op_mul', op_fdiv', op_mod', op_pow', op_addT, cm_lt, cm_le, cm_gt, cm_ge, cm_eq, cm_ne, cm_eqS, cm_neS, onb, oni, yn_gd, yn_cls, Nat.reduceLT, if_true, if_false, true_and, and_true, List.set_cons_zero, List.set_cons_succ, set_nm, set_tup, set_nil, set_cons, ifb, b1_abs, b1_int, b1_intB, b1_lenT, b1_lenL, b1_tupL, b1_tupT, b2_min, b2_max, seq_tup, seq_lst, seq_sq, gd_sq, ix_sq, len_sq, new_t, new_f, gd_tup, gd_lst, ix_lst, ty_int, ty_tup, ty_str, isi_ii, isi_ib, isi_tt, isi_ss, reduceIte, Bool.true_eq_false, Bool.false_eq_true, Bool.not_true, Bool.not_false,  List.zip_cons_cons, List.zip_nil_right, List.foldl_cons, List.foldl_nil, ne_eq, not_false_eq_true, not_true_eq_false, Bool.not_eq_true', decide_eq_false_iff_not, decide_eq_true_eq, reduceCtorEq, List.cons.injEq, and_self, D.ref.injEq, Cell.obj.injEq, D.int.injEq]
    refine ⟨p, 3, _, rfl, by decide, by decide, p1, by omega, fun j M2 hj c2 p2 => ?_⟩
    have u2 := u1.chg c2
    try simp only [body, exs, ex, ev, evs, evB, evO, evT, evI, startD, List.map_cons, List.map_nil, List.length_cons, List.length_nil, Nat.reduceAdd, Nat.reduceSub, List.replicate, List.cons_append, List.nil_append, List.append_nil, List.getElem?_cons_zero, List.getElem?_cons_succ, Option.some.injEq, exists_and_left, exists_eq_left', exists_eq_left, exists_eq, ix_tup, at0, at1, at2, op_add', op_sub', op_mul', op_fdiv', op_mod', op_pow', op_addT, cm_lt, cm_le, cm_gt, cm_ge, cm_eq, cm_ne, cm_eqS, cm_neS, onb, oni, yn_gd, yn_cls, Nat.reduceLT, if_true, if_false, true_and, and_true, List.set_cons_zero, List.set_cons_succ, set_nm, set_tup, set_nil, set_cons, ifb, b1_abs, b1_int, b1_intB, b1_lenT, b1_lenL, b1_tupL, b1_tupT, b2_min, b2_max, seq_tup, seq_lst, seq_sq, gd_sq, ix_sq, len_sq, new_t, new_f, gd_tup, gd_lst, ix_lst, ty_int, ty_tup, ty_str, isi_ii, isi_ib, isi_tt, isi_ss, reduceIte, Bool.true_eq_false, Bool.false_eq_true, Bool.not_true, Bool.not_false,  List.zip_cons_cons, List.zip_nil_right, List.foldl_cons, List.foldl_nil, ne_eq, not_false_eq_true, not_true_eq_false, Bool.not_eq_true', decide_eq_false_iff_not, decide_eq_true_eq, reduceCtorEq, List.cons.injEq, and_self, D.ref.injEq, Cell.obj.injEq, D.int.injEq]
    rw [own_weights isOwn_data, ix_ints ew]
    refine split_test hnm hpk hb (L := L + 1 + 1) (by omega) hat ?_ (fun h => absurd h hz) (fun b' n' M h1 h2 h3 h4 => q b' n' M h1 h2 (u2.trans h3) (h4.mono (by omega))) p2 u2.no
    refine ⟨by omega, ?_⟩
    unfold OkE
    rw [if_pos z]
    omega
  · have hz : 0 < b.by_ := by omega
    simp only [if_pos hz, body, exs, ex, ev, evs, evB, evO, evT, evI, startD, List.map_cons, List.map_nil, List.length_cons, List.length_nil, Nat.reduceAdd, Nat.reduceSub, List.replicate, List.cons_append, List.nil_append, List.append_nil, List.getElem?_cons_zero, List.getElem?_cons_succ, Option.some.injEq, exists_and_left, exists_eq_left', exists_eq_left, exists_eq, ix_tup, at0, at1, at2, op_add', op_sub', op_mul', op_fdiv', op_mod', op_pow', op_addT, cm_lt, cm_le, cm_gt, cm_ge, cm_eq, cm_ne, cm_eqS, cm_neS, onb, oni, yn_gd, yn_cls, Nat.reduceLT, if_true, if_false, true_and, and_true, List.set_cons_zero, List.set_cons_succ, set_nm, set_tup, set_nil, set_cons, ifb, b1_abs, b1_int, b1_intB, b1_lenT, b1_lenL, b1_tupL, b1_tupT, b2_min, b2_max, seq_tup, seq_lst, seq_sq, gd_sq, ix_sq, len_sq, new_t, new_f, gd_tup, gd_lst, ix_lst, ty_int, ty_tup, ty_str, isi_ii, isi_ib, isi_tt, isi_ss, reduceIte, Bool.true_eq_false, Bool.false_eq_true, Bool.not_true, Bool.not_false,  List.zip_cons_cons, List.zip_nil_right, List.foldl_cons, List.foldl_nil, ne_eq, not_false_eq_true, not_true_eq_false, Bool.not_eq_true', decide_eq_false_iff_not, decide_eq_true_eq, reduceCtorEq, List.cons.injEq, and_self, D.ref.injEq, Cell.obj.injEq, D.int.injEq]
    refine ⟨p, (b.by_ - 1).toNat, _, by rw [show (((b.by_ - 1).toNat : Nat) : Int) = b.by_ - 1 from by omega], by omega, by omega, p1, by omega, fun j M2 hj c2 p2 => ?_⟩
    have u2 := u1.chg c2
    try simp only [body, exs, ex, ev, evs, evB, evO, evT, evI, startD, List.map_cons, List.map_nil, List.length_cons, List.length_nil, Nat.reduceAdd, Nat.reduceSub, List.replicate, List.cons_append, List.nil_append, List.append_nil, List.getElem?_cons_zero, List.getElem?_cons_succ, Option.some.injEq, exists_and_left, exists_eq_left', exists_eq_left, exists_eq, ix_tup, at0, at1, at2, op_add', op_sub', op_mul', op_fdiv', op_mod', op_pow', op_addT, cm_lt, cm_le, cm_gt, cm_ge, cm_eq, cm_ne, cm_eqS, cm_neS, onb, oni, yn_gd, yn_cls, Nat.reduceLT, if_true, if_false, true_and, and_true, List.set_cons_zero, List.set_cons_succ, set_nm, set_tup, set_nil, set_cons, ifb, b1_abs, b1_int, b1_intB, b1_lenT, b1_lenL, b1_tupL, b1_tupT, b2_min, b2_max, seq_tup, seq_lst, seq_sq, gd_sq, ix_sq, len_sq, new_t, new_f, gd_tup, gd_lst, ix_lst, ty_int, ty_tup, ty_str, isi_ii, isi_ib, isi_tt, isi_ss, reduceIte, Bool.true_eq_false, Bool.false_eq_true, Bool.not_true, Bool.not_false,  List.zip_cons_cons, List.zip_nil_right, List.foldl_cons, List.foldl_nil, ne_eq, not_false_eq_true, not_true_eq_false, Bool.not_eq_true', decide_eq_false_iff_not, decide_eq_true_eq, reduceCtorEq, List.cons.injEq, and_self, D.ref.injEq, Cell.obj.injEq, D.int.injEq]
    rw [own_weights isOwn_data, ix_ints ew]
    try simp only [body, exs, ex, ev, evs, evB, evO, evT, evI, startD, List.map_cons, List.map_nil, List.length_cons, List.length_nil, Nat.reduceAdd, Nat.reduceSub, List.replicate, List.cons_append, List.nil_append, List.append_nil, List.getElem?_cons_zero, List.getElem?_cons_succ, Option.some.injEq, exists_and_left, exists_eq_left', exists_eq_left, exists_eq, ix_tup, at0, at1, at2, op_add', op_sub', op_mul', op_fdiv', op_mod', op_pow', op_addT, cm_lt, cm_le, cm_gt, cm_ge, cm_eq, cm_ne, cm_eqS, cm_neS, onb, oni, yn_gd, yn_cls, Nat.reduceLT, if_true, if_false, true_and, and_true, List.set_cons_zero, List.set_cons_succ, set_nm, set_tup, set_nil, set_cons, ifb, b1_abs, b1_int, b1_intB, b1_lenT, b1_lenL, b1_tupL, b1_tupT, b2_min, b2_max, seq_tup, seq_lst, seq_sq, gd_sq, ix_sq, len_sq, new_t, new_f, gd_tup, gd_lst, ix_lst, ty_int, ty_tup, ty_str, isi_ii, isi_ib, isi_tt, isi_ss, reduceIte, Bool.true_eq_false, Bool.false_eq_true, Bool.not_true, Bool.not_false,  List.zip_cons_cons, List.zip_nil_right, List.foldl_cons, List.foldl_nil, ne_eq, not_false_eq_true, not_true_eq_false, Bool.not_eq_true', decide_eq_false_iff_not, decide_eq_true_eq, reduceCtorEq, List.cons.injEq, and_self, D.ref.injEq, Cell.obj.injEq, D.int.injEq]
    refine ⟨by omega, ?_⟩
    refine split_test hnm hpk hb (L := L + 1 + 1) (by omega) hat ?_ (fun _ => fmod_okE z.1) (fun b' n' M h1 h2 h3 h4 => q b' n' M h1 h2 (u2.trans h3) (h4.mono (by omega))) p2 u2.no
    refine ⟨by omega, ?_⟩
    unfold OkE
    rw [if_neg (by omega)]
    omega
end Og.Lk00
end
section
set_option maxHeartbeats 4000000
set_option autoImplicit false
/-! Og: comprehensions that lay cells; rows of tables changed. -/
namespace Og
open PySem TL L2
/-- these cells are new and hold what P says -/
def Cells (m0 M : Mem) (P : List D → Prop) (as : List Addr) : Prop := ∀ a ∈ as, m0 a = none ∧ ∃ c, P c ∧ M a = some (.lst c)
theorem Cells.kx {m0 M M' : Mem} {P : List D → Prop} {as : List Addr} (h : Cells m0 M P as) (k : Kx M M') : Cells m0 M' P as := fun a ha => by
  obtain ⟨h0, c, pc, e⟩ := h a ha
  exact ⟨h0, c, pc, k.keep _ _ e⟩
theorem Cells.ux {m0 M M' : Mem} {p : Addr} {P : List D → Prop} {as : List Addr} (h : Cells m0 M P as) (k : Ux M M' p) (hp : ∃ c, m0 p = some c) : Cells m0 M' P as := fun a ha => by
  obtain ⟨h0, c, pc, e⟩ := h a ha
  exact ⟨h0, c, pc, k.keep _ _ (fun z => by obtain ⟨c, hc⟩ := hp; rw [z, hc] at h0; cases h0) e⟩
theorem Cells.put {m0 M : Mem} {P : List D → Prop} {as : List Addr} {a : Addr} {c : List D} (h : Cells m0 M P as) (pc : P c) : Cells m0 (put M a (.lst c)) P as := fun x hx => by
  obtain ⟨h0, c', pc', e⟩ := h x hx
  by_cases z : x = a
  · exact ⟨h0, c, pc, by rw [z, put_same]⟩
  · exact ⟨h0, c', pc', by rw [put_ne z]; exact e⟩
theorem Cells.puts {m0 M : Mem} {P : List D → Prop} {as : List Addr} {a : Addr} {c : Cell} (h : Cells m0 M P as) (ha : a ∉ as) : Cells m0 (Og.put M a c) P as := fun x hx => by
  obtain ⟨h0, c', pc', e⟩ := h x hx
  have hne : x ≠ a := fun z => ha (z ▸ hx)
  exact ⟨h0, c', pc', by rw [put_ne hne]; exact e⟩
theorem Cells.del {m0 M : Mem} {P : List D → Prop} {as : List Addr} {a : Addr} (h : Cells m0 M P as) (ha : a ∉ as) : Cells m0 (del M a) P as := fun x hx => by
  obtain ⟨h0, c', pc', e⟩ := h x hx
  have hne : x ≠ a := fun z => ha (z ▸ hx)
  exact ⟨h0, c', pc', by rw [del_ne hne]; exact e⟩
theorem lc_cells {ι : Type} {T : D → Mem → (Option D → Mem → Prop) → Prop} {m0 : Mem} {Q : KD} (l : List ι) (g : ι → D) (P : List D → Prop) (no : NoObj m0)
    (ht : ∀ i (hi : i < l.length) (M : Mem) (K : Option D → Mem → Prop), Kx m0 M → (∀ (r : Addr) (c : List D), M r = none → P c → K (some (.ref r)) (put M r (.lst c))) → T (g l[i]) M K)
    (hQ : ∀ (as : List Addr) (M : Mem), as.length = l.length → Cells m0 M P as → Kx m0 M → Q (.lst (as.map D.ref)) M) : ∀ s, m0 s = none → lcL (fun _ => True) T s (l.map g) [] (put m0 s (.lst [])) (lcEnd false s Q) := by
  intro s hs
  refine lc_inv (Q := lcEnd false s Q) g (fun i acc M => ∃ as : List Addr, acc = as.map D.ref ∧ as.length = i ∧ s ∉ as ∧ Cells m0 M P as ∧ Kx m0 M ∧ M s = some (.lst acc)) l 0 [] _ ⟨[], rfl, rfl, by simp, fun a ha => by simp at ha, (Kx.refl no).new hs (fun z => z), put_same⟩ ?_ ?_
  · rintro i hi acc M K ⟨as, rfl, hl, hsn, hc, h2, h4⟩ hK
    simp only [Nat.zero_add] at hl hK ⊢
    refine ⟨trivial, ht i hi M K h2 fun r c hr pc => ?_⟩
    have ne : s ≠ r := fun z => by rw [z, hr] at h4; cases h4
    have k1 : Kx M (Og.put M r (.lst c)) := (Kx.refl h2.no).new hr (fun z => z)
    have e4 : Og.put M r (.lst c) s = some (.lst (as.map D.ref)) := k1.keep s _ h4
    refine hK _ _ e4 ⟨as ++ [r], by rw [List.map_append]; rfl, by rw [List.length_append, hl]; rfl, fun z => ?_, ?_, (h2.trans k1).set hs (fun z => z), put_same⟩
    · rcases List.mem_append.mp z with z | z
      · exact hsn z
      · exact ne (List.mem_singleton.mp z)
    · intro a ha
      rcases List.mem_append.mp ha with z | z
      · have hne : a ≠ s := fun y => hsn (y ▸ z)
        obtain ⟨h0, c', pc', e⟩ := hc a z
        exact ⟨h0, c', pc', by rw [put_ne hne]; exact k1.keep _ _ e⟩
      · rw [List.mem_singleton.mp z]
        exact ⟨h2.none hr, c, pc, by rw [put_ne ne.symm, put_same]⟩
  · rintro acc M ⟨as, rfl, hl, hsn, hc, h2, h4⟩
    simp only [Nat.zero_add] at hl
    exact ⟨trivial, h4, hQ as (Og.del M s) hl (hc.del hsn) (h2.del hs)⟩
theorem zip_none {κ α : Type} [DecidableEq κ] {k : κ} {d : α} : ∀ {ks : List κ} {ds : List α}, ks.length = ds.length → k ∉ ks → (ks.zip ds).map (fun kv => if kv.1 = k then d else kv.2) = ds
  | [], [], _, _ => rfl
  | k0 :: ks, d0 :: ds, hl, h => by
    have h1 : k0 ≠ k := fun z => h (by rw [z]; exact List.mem_cons_self)
    simp only [List.zip_cons_cons, List.map_cons]
    rw [if_neg h1, zip_none (by simpa using hl) fun z => h (List.mem_cons_of_mem _ z)]
theorem zip_at {κ α : Type} [DecidableEq κ] {k : κ} {d : α} : ∀ {ks : List κ} {ds : List α} {i : Nat}, ks.length = ds.length → ks.Nodup → ks[i]? = some k → (ks.zip ds).map (fun kv => if kv.1 = k then d else kv.2) = ds.set i d
  | [], _, _, _, _, h => by simp at h
  | k0 :: ks, d0 :: ds, 0, hl, hn, h => by
    simp at h; subst h
    simp only [List.zip_cons_cons, List.map_cons]
    rw [if_pos trivial, zip_none (by simpa using hl) (List.nodup_cons.mp hn).1]
    rfl
  | k0 :: ks, d0 :: ds, i + 1, hl, hn, h => by
    have hn' := List.nodup_cons.mp hn
    have hk : k ∈ ks := List.mem_of_getElem? (by simpa using h)
    have h1 : k0 ≠ k := fun z => hn'.1 (by rw [z]; exact hk)
    simp only [List.zip_cons_cons, List.map_cons]
    rw [if_neg h1, zip_at (i := i) (by simpa using hl) hn'.2 (by simpa using h)]
    rfl
  | _ :: _, [], _, hl, _, _ => by simp at hl
theorem putDs_at {κ α : Type} [DecidableEq κ] {ks : List κ} {ds : List α} {k : κ} {d : α} {i : Nat} (hl : ks.length = ds.length) (hn : ks.Nodup) (h : ks[i]? = some k) : putDs ks ds k d = ds.set i d := by
  unfold putDs
  rw [if_pos (List.mem_of_getElem? h), zip_at hl hn h]
/-- cells that hold rows told as tuples -/
theorem rows_lc {T : D → Mem → (Option D → Mem → Prop) → Prop} {Q : KD} {m0 M : Mem} {as : List Addr} {b : Int} {n : Nat} (hT : ∀ a M K, (b1D .tuple (.ref a) M fun e m => K (some e) m) → T (.ref a) M K) (hl : as.length = n) (no : NoObj M)
    (hc : Cells m0 M (fun c => ∃ r : List Int, c = r.map D.int ∧ r.length = n ∧ ∀ x ∈ r, OkE b x) as) (q : ∀ t M', OkT b n t → Kx M M' → Q (.lst (t.map intsD)) M') : ∀ s, M s = none → lcL (fun _ => True) T s (as.map D.ref) [] (put M s (.lst [])) (lcEnd false s Q) := by
  refine lc_keep as D.ref (fun _ d => ∃ r : List Int, (r.length = n ∧ ∀ x ∈ r, OkE b x) ∧ d = intsD r) no (fun i hi M1 K k1 kK => ?_) fun es M1 hes k1 => ?_
  · obtain ⟨_, c, ⟨r, rfl, hr1, hr2⟩, e⟩ := hc _ (List.getElem_mem hi)
    exact hT _ _ _ ⟨r.map D.int, by simp [seqOf, k1.keep _ _ e], kK _ M1 (Kx.refl k1.no) ⟨r, ⟨hr1, hr2⟩, rfl⟩⟩
  · obtain ⟨cs, rfl, hcl, hok⟩ := paired_out hes
    exact q cs M1 ⟨by rw [hcl]; exact hl, hok⟩ k1
end Og
end
section
set_option maxHeartbeats 4000000
set_option autoImplicit false
namespace Og.Lk00
open PySem Og TL L2
def s_changed : Spec := fun ds m Q => ∃ (p : Addr) (L n k : Nat) (b : Bk), ds = [.ref p, ownD b] ∧ BkOk b n k ∧ Pot L m p ∧ L ≤ 800000 ∧ NoObj m ∧ ∀ (b' : Bk) (M : Mem), BkOk b' n k → b'.by_ = b.by_ → Ux m M p → Pot (L + 200) M p → Q (ownD b') M
abbrev chgR (p w t : Addr) (b : Bk) (n : Nat) (o6 o7 o8 o9 o10 o11 o12 o13 : Option D) : Rho := [some (.ref p), some (ownD b), some (.int (n : Int)), some (.int b.by_), some (.ref w), some (.ref t), o6, o7, o8, o9, o10, o11, o12, o13]
theorem chg_last {X : Ctx} {Q : KD} {p w t : Addr} {L n k : Nat} {b : Bk} {o6 o7 o8 o9 o10 o11 o12 o13 : Option D} {m M : Mem} {ws : List Int} {tabs : List (List (List Int))} (hb : BkOk b n k) (hwl : ws.length = n) (hw : ∀ x ∈ ws, OkW b.by_ x) (htl : tabs.length = k) (ht : ∀ x ∈ tabs, OkT b.by_ n x)
    (hu : Ux m M p) (hp : Pot L M p) (hmw : M w = some (.lst (ws.map D.int))) (hmt : M t = some (.dK (b.kinds.map Sum.inr) (tabs.map tabD))) (h0 : m t = none) (q : ∀ (b' : Bk) (M' : Mem), BkOk b' n k → b'.by_ = b.by_ → Ux m M' p → Pot L M' p → Q (ownD b') M') :
    exs X (c23.drop 3) (chgR p w t b n o6 o7 o8 o9 o10 o11 o12 o13) M (endK Q) := by
  simp only [c23, List.drop, chgR, body, exs, ex, ev, evs, evB, evO, evT, evI, startD, List.map_cons, List.map_nil, List.length_cons, List.length_nil, Nat.reduceAdd, Nat.reduceSub, List.replicate, List.cons_append, List.nil_append, List.append_nil, List.getElem?_cons_zero, List.getElem?_cons_succ, Option.some.injEq, exists_and_left, exists_eq_left', exists_eq_left, exists_eq, ix_tup, at0, at1, at2, op_add', op_sub', op_mul', op_fdiv', op_mod', op_pow', op_addT, cm_lt, cm_le, cm_gt, cm_ge, cm_eq, cm_ne, cm_eqS, cm_neS, onb, oni, yn_gd, yn_cls, Nat.reduceLT, if_true, if_false, true_and, and_true, List.set_cons_zero, List.set_cons_succ, set_nm, set_tup, set_nil, set_cons, ifb, b1_abs, b1_int, b1_intB, b1_lenT, b1_lenL, b1_tupL, b1_tupT, b2_min, b2_max, seq_tup, seq_lst, seq_sq, gd_sq, ix_sq, len_sq, new_t, new_f, gd_tup, gd_lst, ix_lst, ty_int, ty_tup, ty_str, isi_ii, isi_ib, isi_tt, isi_ss, reduceIte, Bool.true_eq_false, Bool.false_eq_true, Bool.not_true, Bool.not_false,  List.zip_cons_cons, List.zip_nil_right, List.foldl_cons, List.foldl_nil, ne_eq, not_false_eq_true, not_true_eq_false, Bool.not_eq_true', decide_eq_false_iff_not, decide_eq_true_eq, reduceCtorEq, List.cons.injEq, and_self, D.ref.injEq, Cell.obj.injEq, D.int.injEq]
  intro a ha
  have np := hp.ne ha
  have npt : p ≠ t := fun z => by obtain ⟨l, e⟩ := hp.at_; rw [z, hmt] at e; cases e
  have na : t ≠ a := fun z => by rw [z, ha] at hmt; cases hmt
  have nw : w ≠ a := fun z => by rw [z, ha] at hmw; cases hmw
  rw [own_marks isOwn_data]
  refine tup_seq (l := ws.map D.int) (seq_ref (by rw [put_ne nw]; exact hmw)) ?_
  rw [own_kinds isOwn_data]
  refine ⟨_, by rw [put_ne na]; exact hmt, _, rfl, by decide, by decide, by rw [del_ne na.symm, put_same], ?_⟩
  simp only [endDK]
  refine ⟨_, SubO.refl, ?_⟩
  exact q { b with wts := ws, tabs := tabs } _ ⟨hb.by_ok, hb.n1, hb.n4, hb.k1, hb.k3, hb.m, hwl, hw, hb.kn, htl, ht⟩ rfl (((hu.new ha oK).del h0).del (hu.none ha np.symm)) (Pot.del (Pot.del (hp.put np) npt) np)
theorem law_changed {X : Ctx} (ht : X.fn 0 = s_take) (hof : X.fn 1 = s_of) (ds : List D) (m : Mem) (Q : KD) (h : s_changed ds m Q) : body X 14 c23 ds m Q := by
  obtain ⟨p, L, n, k, b, rfl, hb, hp, hL, no, q⟩ := h
  have hn4 := hb.n4
  have hn1 := hb.n1
  refine body_cut 2 ?_
  generalize hR : c23.drop 2 = R
  simp only [c23, List.take, ht, hof, body, exs, ex, ev, evs, evB, evO, evT, evI, startD, List.map_cons, List.map_nil, List.length_cons, List.length_nil, Nat.reduceAdd, Nat.reduceSub, List.replicate, List.cons_append, List.nil_append, List.append_nil, List.getElem?_cons_zero, List.getElem?_cons_succ, Option.some.injEq, exists_and_left, exists_eq_left', exists_eq_left, exists_eq, ix_tup, at0, at1, at2, op_add', op_sub', op_mul', op_fdiv', op_mod', op_pow', op_addT, cm_lt, cm_le, cm_gt, cm_ge, cm_eq, cm_ne, cm_eqS, cm_neS, onb, oni, yn_gd, yn_cls, Nat.reduceLT, if_true, if_false, true_and, and_true, List.set_cons_zero, List.set_cons_succ, set_nm, set_tup, set_nil, set_cons, ifb, b1_abs, b1_int, b1_intB, b1_lenT, b1_lenL, b1_tupL, b1_tupT, b2_min, b2_max, seq_tup, seq_lst, seq_sq, gd_sq, ix_sq, len_sq, new_t, new_f, gd_tup, gd_lst, ix_lst, ty_int, ty_tup, ty_str, isi_ii, isi_ib, isi_tt, isi_ss, reduceIte, Bool.true_eq_false, Bool.false_eq_true, Bool.not_true, Bool.not_false,  List.zip_cons_cons, List.zip_nil_right, List.foldl_cons, List.foldl_nil, ne_eq, not_false_eq_true, not_true_eq_false, Bool.not_eq_true', decide_eq_false_iff_not, decide_eq_true_eq, reduceCtorEq, List.cons.injEq, and_self, D.ref.injEq, Cell.obj.injEq, D.int.injEq]
  simp only [own_marks isOwn_data, own_by isOwn_data, own_weights isOwn_data, own_tables isOwn_data, len_strs, hb.m.len, body, exs, ex, ev, evs, evB, evO, evT, evI, startD, List.map_cons, List.map_nil, List.length_cons, List.length_nil, Nat.reduceAdd, Nat.reduceSub, List.replicate, List.cons_append, List.nil_append, List.append_nil, List.getElem?_cons_zero, List.getElem?_cons_succ, Option.some.injEq, exists_and_left, exists_eq_left', exists_eq_left, exists_eq, ix_tup, at0, at1, at2, op_add', op_sub', op_mul', op_fdiv', op_mod', op_pow', op_addT, cm_lt, cm_le, cm_gt, cm_ge, cm_eq, cm_ne, cm_eqS, cm_neS, onb, oni, yn_gd, yn_cls, Nat.reduceLT, if_true, if_false, true_and, and_true, List.set_cons_zero, List.set_cons_succ, set_nm, set_tup, set_nil, set_cons, ifb, b1_abs, b1_int, b1_intB, b1_lenT, b1_lenL, b1_tupL, b1_tupT, b2_min, b2_max, seq_tup, seq_lst, seq_sq, gd_sq, ix_sq, len_sq, new_t, new_f, gd_tup, gd_lst, ix_lst, ty_int, ty_tup, ty_str, isi_ii, isi_ib, isi_tt, isi_ss, reduceIte, Bool.true_eq_false, Bool.false_eq_true, Bool.not_true, Bool.not_false,  List.zip_cons_cons, List.zip_nil_right, List.foldl_cons, List.foldl_nil, ne_eq, not_false_eq_true, not_true_eq_false, Bool.not_eq_true', decide_eq_false_iff_not, decide_eq_true_eq, reduceCtorEq, List.cons.injEq, and_self, D.ref.injEq, Cell.obj.injEq, D.int.injEq]
  refine b1_listT (l := b.wts.map D.int) rfl fun w hw0 => ?_
  have hkt : b.kinds.length = b.tabs.length := by rw [hb.kn.len, hb.tl]
  refine ⟨b.kinds.map Sum.inr, b.tabs.map tabD, rfl, by rw [List.length_map, List.length_map, hkt], by rw [List.length_map, hb.kn.len]; have := hb.k3; omega, b.kinds.map Sum.inr, b.tabs.map tabD, rfl, by rw [List.length_map, List.length_map, hkt], inr_nodup hb.kn.nd, ?_⟩
  intro t ht0
  have nw := hp.ne hw0
  have nwt : w ≠ t := fun z => by rw [← z, put_same] at ht0; cases ht0
  have k2 := ((Kx.refl no).new (c := .lst (b.wts.map D.int)) hw0 oL)
  have ht1 := k2.none ht0
  have npt := hp.ne ht1
  have k3 := k2.new (c := .dK (b.kinds.map Sum.inr) (b.tabs.map tabD)) ht0 oK
  have u3 := (Ux.refl hp no).kx k3
  have p3 := hp.kx k3
  have ew : put (put m w (.lst (b.wts.map D.int))) t (.dK (b.kinds.map Sum.inr) (b.tabs.map tabD)) w = some (.lst (b.wts.map D.int)) := by rw [put_ne nwt, put_same]
  have et : put (put m w (.lst (b.wts.map D.int))) t (.dK (b.kinds.map Sum.inr) (b.tabs.map tabD)) t = some (.dK (b.kinds.map Sum.inr) (b.tabs.map tabD)) := put_same
  generalize put (put m w (.lst (b.wts.map D.int))) t (.dK (b.kinds.map Sum.inr) (b.tabs.map tabD)) = M3 at u3 p3 ew et
  refine ⟨by decide, p, L, _, _, rfl, p3, by omega, by decide, by decide, fun _ _ => rfl, fun d M4 hd c4 p4 => ?_⟩
  have hst : ∃ st : Int, d = .int st ∧ st.natAbs ≤ 2 := by
    simp only [List.mem_cons, List.not_mem_nil, or_false] at hd
    rcases hd with rfl | rfl | rfl <;> exact ⟨_, rfl, by decide⟩
  obtain ⟨st, rfl, hst⟩ := hst
  have u4 := u3.chg c4
  have u34 := (Ux.chg (Ux.refl p3 u3.no) c4)
  have ew4 := u34.at_ ew nw.symm
  have et4 := u34.at_ et npt.symm
  rw [← hR]
  generalize hR' : c23.drop 3 = R'
  have e4 : c23.drop 2 = (c23.drop 2).take 1 ++ R' := by rw [← hR']; rfl
  rw [e4]
  dsimp only
  rw [exs_app]
  simp only [c23, List.drop, List.take, ht, hof, body, exs, ex, ev, evs, evB, evO, evT, evI, startD, List.map_cons, List.map_nil, List.length_cons, List.length_nil, Nat.reduceAdd, Nat.reduceSub, List.replicate, List.cons_append, List.nil_append, List.append_nil, List.getElem?_cons_zero, List.getElem?_cons_succ, Option.some.injEq, exists_and_left, exists_eq_left', exists_eq_left, exists_eq, ix_tup, at0, at1, at2, op_add', op_sub', op_mul', op_fdiv', op_mod', op_pow', op_addT, cm_lt, cm_le, cm_gt, cm_ge, cm_eq, cm_ne, cm_eqS, cm_neS, onb, oni, yn_gd, yn_cls, Nat.reduceLT, if_true, if_false, true_and, and_true, List.set_cons_zero, List.set_cons_succ, set_nm, set_tup, set_nil, set_cons, ifb, b1_abs, b1_int, b1_intB, b1_lenT, b1_lenL, b1_tupL, b1_tupT, b2_min, b2_max, seq_tup, seq_lst, seq_sq, gd_sq, ix_sq, len_sq, new_t, new_f, gd_tup, gd_lst, ix_lst, ty_int, ty_tup, ty_str, isi_ii, isi_ib, isi_tt, isi_ss, reduceIte, Bool.true_eq_false, Bool.false_eq_true, Bool.not_true, Bool.not_false,  List.zip_cons_cons, List.zip_nil_right, List.foldl_cons, List.foldl_nil, ne_eq, not_false_eq_true, not_true_eq_false, Bool.not_eq_true', decide_eq_false_iff_not, decide_eq_true_eq, reduceCtorEq, List.cons.injEq, and_self, D.ref.injEq, Cell.obj.injEq, D.int.injEq]
  refine ⟨p, 3, _, rfl, by decide, by decide, p4, by omega, fun i M5 hi c5 p5 => ?_⟩
  have u5 := u4.chg c5
  have u45 := (Ux.chg (Ux.refl p4 u4.no) c5)
  have ew5 := u45.at_ ew4 nw.symm
  have et5 := u45.at_ et4 npt.symm
  try simp only [body, exs, ex, ev, evs, evB, evO, evT, evI, startD, List.map_cons, List.map_nil, List.length_cons, List.length_nil, Nat.reduceAdd, Nat.reduceSub, List.replicate, List.cons_append, List.nil_append, List.append_nil, List.getElem?_cons_zero, List.getElem?_cons_succ, Option.some.injEq, exists_and_left, exists_eq_left', exists_eq_left, exists_eq, ix_tup, at0, at1, at2, op_add', op_sub', op_mul', op_fdiv', op_mod', op_pow', op_addT, cm_lt, cm_le, cm_gt, cm_ge, cm_eq, cm_ne, cm_eqS, cm_neS, onb, oni, yn_gd, yn_cls, Nat.reduceLT, if_true, if_false, true_and, and_true, List.set_cons_zero, List.set_cons_succ, set_nm, set_tup, set_nil, set_cons, ifb, b1_abs, b1_int, b1_intB, b1_lenT, b1_lenL, b1_tupL, b1_tupT, b2_min, b2_max, seq_tup, seq_lst, seq_sq, gd_sq, ix_sq, len_sq, new_t, new_f, gd_tup, gd_lst, ix_lst, ty_int, ty_tup, ty_str, isi_ii, isi_ib, isi_tt, isi_ss, reduceIte, Bool.true_eq_false, Bool.false_eq_true, Bool.not_true, Bool.not_false,  List.zip_cons_cons, List.zip_nil_right, List.foldl_cons, List.foldl_nil, ne_eq, not_false_eq_true, not_true_eq_false, Bool.not_eq_true', decide_eq_false_iff_not, decide_eq_true_eq, reduceCtorEq, List.cons.injEq, and_self, D.ref.injEq, Cell.obj.injEq, D.int.injEq]
  by_cases h0 : (i : Int) = 0
  · rw [if_pos h0]
    refine ⟨p, n, _, rfl, hn1, by omega, p5, by omega, fun at_ M6 hat c6 p6 => ?_⟩
    have u6 := u5.chg c6
    have u56 := (Ux.chg (Ux.refl p5 u5.no) c6)
    have ew6 := u56.at_ ew5 nw.symm
    have et6 := u56.at_ et5 npt.symm
    try simp only [body, exs, ex, ev, evs, evB, evO, evT, evI, startD, List.map_cons, List.map_nil, List.length_cons, List.length_nil, Nat.reduceAdd, Nat.reduceSub, List.replicate, List.cons_append, List.nil_append, List.append_nil, List.getElem?_cons_zero, List.getElem?_cons_succ, Option.some.injEq, exists_and_left, exists_eq_left', exists_eq_left, exists_eq, ix_tup, at0, at1, at2, op_add', op_sub', op_mul', op_fdiv', op_mod', op_pow', op_addT, cm_lt, cm_le, cm_gt, cm_ge, cm_eq, cm_ne, cm_eqS, cm_neS, onb, oni, yn_gd, yn_cls, Nat.reduceLT, if_true, if_false, true_and, and_true, List.set_cons_zero, List.set_cons_succ, set_nm, set_tup, set_nil, set_cons, ifb, b1_abs, b1_int, b1_intB, b1_lenT, b1_lenL, b1_tupL, b1_tupT, b2_min, b2_max, seq_tup, seq_lst, seq_sq, gd_sq, ix_sq, len_sq, new_t, new_f, gd_tup, gd_lst, ix_lst, ty_int, ty_tup, ty_str, isi_ii, isi_ib, isi_tt, isi_ss, reduceIte, Bool.true_eq_false, Bool.false_eq_true, Bool.not_true, Bool.not_false,  List.zip_cons_cons, List.zip_nil_right, List.foldl_cons, List.foldl_nil, ne_eq, not_false_eq_true, not_true_eq_false, Bool.not_eq_true', decide_eq_false_iff_not, decide_eq_true_eq, reduceCtorEq, List.cons.injEq, and_self, D.ref.injEq, Cell.obj.injEq, D.int.injEq]
    have hwt := hb.wl
    have ewt : b.wts[at_]? = some (b.wts.getD at_ 0) := by rw [List.getD_eq_getElem?_getD, List.getElem?_eq_getElem (show at_ < b.wts.length by omega)]; rfl
    have hwok : OkW b.by_ (b.wts.getD at_ 0) := hb.w _ (List.mem_of_getElem? ewt)
    have hix : ∀ Q, ixD M6 (.ref w) (.int (at_ : Int)) Q = Q (.int (b.wts.getD at_ 0)) M6 := fun Q => by
      rw [ix_ref ew6, atI_nat, List.getElem?_map, ewt]; simp
    have fin : ∀ (y v : Int), OkW b.by_ y → exs X R' (chgR p w t b n (some (.int st)) (some (.int (at_ : Int))) (some (.int v)) none none none none none) (put M6 w (.lst ((b.wts.map D.int).set at_ (.int y)))) (endK Q) := fun y v hy => by
      rw [← hR', ← List.map_set]
      refine chg_last hb (tabs := b.tabs) (by rw [List.length_set]; exact hwt) (fun x hx => ?_) hb.tl hb.tab (u6.set hw0 oL) (p6.put nw) put_same (by rw [put_ne nwt.symm]; exact et6) ht1 fun b' M' h1 h2 h3 h4 => q b' M' h1 h2 h3 (h4.mono (by omega))
      rcases List.mem_or_eq_of_mem_set hx with z | rfl
      · exact hb.w _ z
      · exact hy
    have fin' : ∀ (y v : Int), OkW b.by_ y → ∃ x4, M6 w = some (Cell.lst x4) ∧ ∃ x5, L2.ixN x4.length (at_ : Int) = some x5 ∧ exs X R' (chgR p w t b n (some (.int st)) (some (.int (at_ : Int))) (some (.int v)) none none none none none) (put M6 w (.lst (x4.set x5 (.int y)))) (endK Q) := fun y v hy =>
      ⟨_, ew6, at_, by rw [List.length_map]; exact ixN_nat (by omega), fin y v hy⟩
    have hnew : ∀ v : Int, (0 < b.by_ → 0 ≤ v ∧ v < b.by_) → v ≠ 0 → ((v.natAbs : Nat) : Int) ≤ 10 ^ Int.toNat 12 → OkW b.by_ v := fun v h1 h2 h3 => by
      refine ⟨h2, ?_⟩
      have e : (10 : Int) ^ Int.toNat 12 = 1000000000000 := by decide
      rw [e] at h3
      unfold OkE
      rcases hb.by_ok.lt with z | z
      · rw [if_pos z]; omega
      · rw [if_neg (by omega)]; exact h1 (by omega)
    have tail : ∀ v : Int, (0 < b.by_ → 0 ≤ v ∧ v < b.by_) → if ¬v = 0 then (0 : Int) ≤ 12 ∧ ((Builtin.Int.intBits 10 : Nat) : Int) * 12 ≤ 2 ^ 27 ∧ if ((v.natAbs : Nat) : Int) ≤ 10 ^ Int.toNat 12 then ∃ x4, M6 w = some (Cell.lst x4) ∧ ∃ x5, L2.ixN x4.length (at_ : Int) = some x5 ∧ exs X R' (chgR p w t b n (some (.int st)) (some (.int (at_ : Int))) (some (.int v)) none none none none none) (put M6 w (.lst (x4.set x5 (.int v)))) (endK Q)
        else ∃ x4, M6 w = some (Cell.lst x4) ∧ ∃ x5, L2.ixN x4.length (at_ : Int) = some x5 ∧ exs X R' (chgR p w t b n (some (.int st)) (some (.int (at_ : Int))) (some (.int v)) none none none none none) (put M6 w (.lst (x4.set x5 (.int (b.wts.getD at_ 0))))) (endK Q)
        else ∃ x4, M6 w = some (Cell.lst x4) ∧ ∃ x5, L2.ixN x4.length (at_ : Int) = some x5 ∧ exs X R' (chgR p w t b n (some (.int st)) (some (.int (at_ : Int))) (some (.int v)) none none none none none) (put M6 w (.lst (x4.set x5 (.int (b.wts.getD at_ 0))))) (endK Q) := fun v hv => by
      by_cases v0 : v = 0
      · rw [if_neg (fun z => z v0)]; exact fin' _ _ hwok
      · rw [if_pos v0]
        refine ⟨by decide, by decide, ?_⟩
        by_cases v1 : ((v.natAbs : Nat) : Int) ≤ 10 ^ Int.toNat 12
        · rw [if_pos v1]; exact fin' _ _ (hnew v hv v0 v1)
        · rw [if_neg v1]; exact fin' _ _ hwok
    rcases hb.by_ok.lt with z | z
    · have hz : ¬ (0 < b.by_) := by omega
      simp only [if_neg hz, hix, body, exs, ex, ev, evs, evB, evO, evT, evI, startD, List.map_cons, List.map_nil, List.length_cons, List.length_nil, Nat.reduceAdd, Nat.reduceSub, List.replicate, List.cons_append, List.nil_append, List.append_nil, List.getElem?_cons_zero, List.getElem?_cons_succ, Option.some.injEq, exists_and_left, exists_eq_left', exists_eq_left, exists_eq, ix_tup, at0, at1, at2, op_add', op_sub', op_mul', op_fdiv', op_mod', op_pow', op_addT, cm_lt, cm_le, cm_gt, cm_ge, cm_eq, cm_ne, cm_eqS, cm_neS, onb, oni, yn_gd, yn_cls, Nat.reduceLT, if_true, if_false, true_and, and_true, List.set_cons_zero, List.set_cons_succ, set_nm, set_tup, set_nil, set_cons, ifb, b1_abs, b1_int, b1_intB, b1_lenT, b1_lenL, b1_tupL, b1_tupT, b2_min, b2_max, seq_tup, seq_lst, seq_sq, gd_sq, ix_sq, len_sq, new_t, new_f, gd_tup, gd_lst, ix_lst, ty_int, ty_tup, ty_str, isi_ii, isi_ib, isi_tt, isi_ss, reduceIte, Bool.true_eq_false, Bool.false_eq_true, Bool.not_true, Bool.not_false,  List.zip_cons_cons, List.zip_nil_right, List.foldl_cons, List.foldl_nil, ne_eq, not_false_eq_true, not_true_eq_false, Bool.not_eq_true', decide_eq_false_iff_not, decide_eq_true_eq, reduceCtorEq, List.cons.injEq, and_self, D.ref.injEq, Cell.obj.injEq, D.int.injEq]
      exact tail _ fun h => absurd h hz
    · have hz : 0 < b.by_ := by omega
      simp only [if_pos hz, hix, body, exs, ex, ev, evs, evB, evO, evT, evI, startD, List.map_cons, List.map_nil, List.length_cons, List.length_nil, Nat.reduceAdd, Nat.reduceSub, List.replicate, List.cons_append, List.nil_append, List.append_nil, List.getElem?_cons_zero, List.getElem?_cons_succ, Option.some.injEq, exists_and_left, exists_eq_left', exists_eq_left, exists_eq, ix_tup, at0, at1, at2, op_add', op_sub', op_mul', op_fdiv', op_mod', op_pow', op_addT, cm_lt, cm_le, cm_gt, cm_ge, cm_eq, cm_ne, cm_eqS, cm_neS, onb, oni, yn_gd, yn_cls, Nat.reduceLT, if_true, if_false, true_and, and_true, List.set_cons_zero, List.set_cons_succ, set_nm, set_tup, set_nil, set_cons, ifb, b1_abs, b1_int, b1_intB, b1_lenT, b1_lenL, b1_tupL, b1_tupT, b2_min, b2_max, seq_tup, seq_lst, seq_sq, gd_sq, ix_sq, len_sq, new_t, new_f, gd_tup, gd_lst, ix_lst, ty_int, ty_tup, ty_str, isi_ii, isi_ib, isi_tt, isi_ss, reduceIte, Bool.true_eq_false, Bool.false_eq_true, Bool.not_true, Bool.not_false,  List.zip_cons_cons, List.zip_nil_right, List.foldl_cons, List.foldl_nil, ne_eq, not_false_eq_true, not_true_eq_false, Bool.not_eq_true', decide_eq_false_iff_not, decide_eq_true_eq, reduceCtorEq, List.cons.injEq, and_self, D.ref.injEq, Cell.obj.injEq, D.int.injEq]
      exact ⟨by omega, tail _ fun _ => fmod_okE z.1⟩
  · rw [if_neg h0]
    have hk1 := hb.k1
    have hk3 := hb.k3
    have hkl := hb.kn.len
    rw [own_kinds isOwn_data]
    refine ⟨b.kinds.map D.str, rfl, ?_⟩
    refine ⟨p, _, _, b.kinds.map D.str, rfl, p5, by omega, by rw [List.length_map]; omega, by rw [List.length_map]; omega, fun _ _ => rfl, fun d M6 hd c6 p6 => ?_⟩
    obtain ⟨kd, hkd, rfl⟩ := List.mem_map.mp hd
    obtain ⟨ki, hki, rfl⟩ := List.mem_iff_getElem.mp hkd
    refine ⟨p, n, _, rfl, hn1, by omega, p6, by omega, fun a_ M7 ha c7 p7 => ?_⟩
    refine ⟨p, n, _, rfl, hn1, by omega, p7, by omega, fun b_ M8 hb_ c8 p8 => ?_⟩
    have u8 := ((u5.chg c6).chg c7).chg c8
    have u58 := (((Ux.refl p5 u5.no).chg c6).chg c7).chg c8
    have ew8 := u58.at_ ew5 nw.symm
    have et8 := u58.at_ et5 npt.symm
    have hki' : ki < b.tabs.length := by omega
    have e2 := List.getElem?_eq_getElem hki'
    have hot := hb.tab _ (List.getElem_mem hki')
    have hixt : ∀ Q, ixD M8 (.ref t) (.str b.kinds[ki]) Q = Q (tabD b.tabs[ki]) M8 := fun Q => by
      rw [ixs (ks := b.kinds.map Sum.inr) (ds := b.tabs.map tabD) (by unfold dKOf; simp only [et8]), look_at (k := (Sum.inr b.kinds[ki] : Key)) (i := ki) tabD (inr_nodup hb.kn.nd) (by rw [List.getElem?_map, List.getElem?_eq_getElem hki]; rfl) e2]
      simp
    dsimp only
    rw [hixt]
    generalize b.tabs[ki] = tb at e2 hot
    refine ⟨_, rfl, ?_⟩
    refine lc_cells (Q := _) tb intsD (fun c => ∃ r : List Int, c = r.map D.int ∧ r.length = n ∧ ∀ x ∈ r, OkE b.by_ x) u8.no (fun i hi M K hk kK => ?_) fun as M9 hal hc k9 => ?_
    · refine ⟨_, rfl, ?_⟩
      have hr := hot.2 _ (List.getElem_mem hi)
      exact b1_listT (l := tb[i].map D.int) rfl fun r hr0 => kK r _ hr0 ⟨tb[i], rfl, hr.1, hr.2⟩
    · obtain ⟨al, hal2⟩ : ∃ al, as[a_]? = some al := ⟨as[a_]'(by rw [hal, hot.1]; exact ha), List.getElem?_eq_getElem _⟩
      have hcl := hc al (List.mem_of_getElem? hal2)
      obtain ⟨h80, c, ⟨r, rfl, hrl, hro⟩, her⟩ := hcl
      have er : r[b_]? = some (r.getD b_ 0) := by rw [List.getD_eq_getElem?_getD, List.getElem?_eq_getElem (show b_ < r.length by omega)]; rfl
      have hro' := hro _ (List.mem_of_getElem? er)
      have hixa : ∀ Q, ixD M9 (.lst (as.map D.ref)) (.int (a_ : Int)) Q = Q (.ref al) M9 := fun Q => by
        show ixD M9 (.lst (as.map D.ref)) (.int (a_ : Int)) (fun d m' => Q d m') = _
        rw [ix_lst, atI_nat, List.getElem?_map, hal2]; simp
      have hixb : ∀ Q, ixD M9 (.ref al) (.int (b_ : Int)) Q = Q (.int (r.getD b_ 0)) M9 := fun Q => by
        show ixD M9 (.ref al) (.int (b_ : Int)) (fun d m' => Q d m') = _
        rw [ix_ref her, atI_nat, List.getElem?_map, er]; simp
      simp only [hixa, hixb, body, exs, ex, ev, evs, evB, evO, evT, evI, startD, List.map_cons, List.map_nil, List.length_cons, List.length_nil, Nat.reduceAdd, Nat.reduceSub, List.replicate, List.cons_append, List.nil_append, List.append_nil, List.getElem?_cons_zero, List.getElem?_cons_succ, Option.some.injEq, exists_and_left, exists_eq_left', exists_eq_left, exists_eq, ix_tup, at0, at1, at2, op_add', op_sub', op_mul', op_fdiv', op_mod', op_pow', op_addT, cm_lt, cm_le, cm_gt, cm_ge, cm_eq, cm_ne, cm_eqS, cm_neS, onb, oni, yn_gd, yn_cls, Nat.reduceLT, if_true, if_false, true_and, and_true, List.set_cons_zero, List.set_cons_succ, set_nm, set_tup, set_nil, set_cons, ifb, b1_abs, b1_int, b1_intB, b1_lenT, b1_lenL, b1_tupL, b1_tupT, b2_min, b2_max, seq_tup, seq_lst, seq_sq, gd_sq, ix_sq, len_sq, new_t, new_f, gd_tup, gd_lst, ix_lst, ty_int, ty_tup, ty_str, isi_ii, isi_ib, isi_tt, isi_ss, reduceIte, Bool.true_eq_false, Bool.false_eq_true, Bool.not_true, Bool.not_false,  List.zip_cons_cons, List.zip_nil_right, List.foldl_cons, List.foldl_nil, ne_eq, not_false_eq_true, not_true_eq_false, Bool.not_eq_true', decide_eq_false_iff_not, decide_eq_true_eq, reduceCtorEq, List.cons.injEq, and_self, D.ref.injEq, Cell.obj.injEq, D.int.injEq]
      have hma : m al = none := u8.none h80 (p8.ne h80).symm
      have u9 := u8.kx k9
      have p9 := p8.kx k9
      have npa := p8.ne h80
      have nta : t ≠ al := fun z => by rw [z, h80] at et8; cases et8
      have nwa : w ≠ al := fun z => by rw [z, h80] at ew8; cases ew8
      have hnd := inr_nodup hb.kn.nd
      have hkd : (b.kinds.map (Sum.inr : Str → Key))[ki]? = some (.inr b.kinds[ki]) := by rw [List.getElem?_map, List.getElem?_eq_getElem hki]; rfl
      have hat : L2.atI (as.map D.ref) (a_ : Int) = some (.ref al) := by rw [atI_nat, List.getElem?_map, hal2]; rfl
      have hN : L2.ixN (r.map D.int).length (b_ : Int) = some b_ := by rw [List.length_map]; exact ixN_nat (by omega)
      have fin : ∀ (y : Int) (o8 : Option D) (M10 : Mem) (t' : List (List Int)), OkT b.by_ n t' → Kx (put M9 al (.lst ((r.map D.int).set b_ (.int y)))) M10 → ∃ x x2 x3, D.str b.kinds[ki] = keyD x3 ∧ M10 t = some (Cell.dK x x2) ∧ x.length ≤ 1000000 ∧
          exs X R' (chgR p w t b n (some (.int st)) none o8 (some (.str b.kinds[ki])) (some (.int (a_ : Int))) (some (.int (b_ : Int))) (some (.lst (as.map D.ref))) none) (put M10 t (.dK (putKs x x3) (putDs x x2 x3 (.tup (t'.map intsD))))) (endK Q) := fun y o8 M10 t' ht' k10 => by
        have et10 : M10 t = some (.dK (b.kinds.map Sum.inr) (b.tabs.map tabD)) := k10.keep _ _ (by rw [put_ne nta]; exact k9.keep _ _ et8)
        have ew10 : M10 w = some (.lst (b.wts.map D.int)) := k10.keep _ _ (by rw [put_ne nwa]; exact k9.keep _ _ ew8)
        refine ⟨_, _, .inr b.kinds[ki], rfl, et10, by rw [List.length_map]; omega, ?_⟩
        rw [put_oldK (List.mem_of_getElem? hkd), putDs_at (by rw [List.length_map, List.length_map, hkt]) hnd hkd, ← hR', show D.tup (t'.map intsD) = tabD t' from rfl, ← List.map_set]
        refine chg_last hb (ws := b.wts) hb.wl hb.w (by rw [List.length_set]; exact hb.tl) (fun x hx => ?_) ((((u9.set hma oL).kx k10)).set ht1 oK) (((p9.put npa).kx k10).put npt) (by rw [put_ne nwt]; exact ew10) put_same ht1 fun b' M' h1 h2 h3 h4 => q b' M' h1 h2 h3 (h4.mono (by omega))
        rcases List.mem_or_eq_of_mem_set hx with z | rfl
        · exact hb.tab _ z
        · exact ht'
      have hcs : ∀ y : Int, OkE b.by_ y → Cells M8 (put M9 al (.lst ((r.map D.int).set b_ (.int y)))) (fun c => ∃ r : List Int, c = r.map D.int ∧ r.length = n ∧ ∀ x ∈ r, OkE b.by_ x) as := fun y hy => by
        refine hc.put ⟨r.set b_ y, by rw [List.map_set], by rw [List.length_set]; exact hrl, fun x hx => ?_⟩
        rcases List.mem_or_eq_of_mem_set hx with z | rfl
        · exact hro _ z
        · exact hy
      have hno : ∀ c : List D, NoObj (put M9 al (.lst c)) := fun c => k9.no.put oL
      have hnew : ∀ v : Int, (0 < b.by_ → 0 ≤ v ∧ v < b.by_) → ((v.natAbs : Nat) : Int) ≤ 10 ^ Int.toNat 12 → OkE b.by_ v := fun v h1 h3 => by
        have e : (10 : Int) ^ Int.toNat 12 = 1000000000000 := by decide
        rw [e] at h3
        unfold OkE
        rcases hb.by_ok.lt with z | z
        · rw [if_pos z]; omega
        · rw [if_neg (by omega)]; exact h1 (by omega)
      have hasl : as.length = n := by rw [hal, hot.1]
      rcases hb.by_ok.lt with z | z
      · have hz : ¬ (0 < b.by_) := by omega
        simp only [if_neg hz, hixa, hixb, body, exs, ex, ev, evs, evB, evO, evT, evI, startD, List.map_cons, List.map_nil, List.length_cons, List.length_nil, Nat.reduceAdd, Nat.reduceSub, List.replicate, List.cons_append, List.nil_append, List.append_nil, List.getElem?_cons_zero, List.getElem?_cons_succ, Option.some.injEq, exists_and_left, exists_eq_left', exists_eq_left, exists_eq, ix_tup, at0, at1, at2, op_add', op_sub', op_mul', op_fdiv', op_mod', op_pow', op_addT, cm_lt, cm_le, cm_gt, cm_ge, cm_eq, cm_ne, cm_eqS, cm_neS, onb, oni, yn_gd, yn_cls, Nat.reduceLT, if_true, if_false, true_and, and_true, List.set_cons_zero, List.set_cons_succ, set_nm, set_tup, set_nil, set_cons, ifb, b1_abs, b1_int, b1_intB, b1_lenT, b1_lenL, b1_tupL, b1_tupT, b2_min, b2_max, seq_tup, seq_lst, seq_sq, gd_sq, ix_sq, len_sq, new_t, new_f, gd_tup, gd_lst, ix_lst, ty_int, ty_tup, ty_str, isi_ii, isi_ib, isi_tt, isi_ss, reduceIte, Bool.true_eq_false, Bool.false_eq_true, Bool.not_true, Bool.not_false,  List.zip_cons_cons, List.zip_nil_right, List.foldl_cons, List.foldl_nil, ne_eq, not_false_eq_true, not_true_eq_false, Bool.not_eq_true', decide_eq_false_iff_not, decide_eq_true_eq, reduceCtorEq, List.cons.injEq, and_self, D.ref.injEq, Cell.obj.injEq, D.int.injEq]
        have hv : 0 < b.by_ → 0 ≤ r.getD b_ 0 + st ∧ r.getD b_ 0 + st < b.by_ := fun h => absurd h hz
        generalize r.getD b_ 0 + st = v at hv
        refine ⟨by decide, by decide, ?_⟩
        by_cases v1 : ((v.natAbs : Nat) : Int) ≤ 10 ^ Int.toNat 12
        · rw [if_pos v1]
          refine ⟨_, hat, al, rfl, _, her, b_, hN, rows_lc (fun a M K h => ⟨_, rfl, h⟩) hasl (hno _) (hcs v (hnew v hv v1)) fun t' M10 ht' k10 => ?_⟩
          exact ⟨_, rfl, fin _ _ M10 t' ht' k10⟩
        · rw [if_neg v1]
          refine ⟨_, hat, ?_⟩
          rw [hixb]
          refine ⟨_, hat, al, rfl, _, her, b_, hN, rows_lc (fun a M K h => ⟨_, rfl, h⟩) hasl (hno _) (hcs _ hro') fun t' M10 ht' k10 => ?_⟩
          exact ⟨_, rfl, fin _ _ M10 t' ht' k10⟩
      · have hz : 0 < b.by_ := by omega
        simp only [if_pos hz, hixa, hixb, body, exs, ex, ev, evs, evB, evO, evT, evI, startD, List.map_cons, List.map_nil, List.length_cons, List.length_nil, Nat.reduceAdd, Nat.reduceSub, List.replicate, List.cons_append, List.nil_append, List.append_nil, List.getElem?_cons_zero, List.getElem?_cons_succ, Option.some.injEq, exists_and_left, exists_eq_left', exists_eq_left, exists_eq, ix_tup, at0, at1, at2, op_add', op_sub', op_mul', op_fdiv', op_mod', op_pow', op_addT, cm_lt, cm_le, cm_gt, cm_ge, cm_eq, cm_ne, cm_eqS, cm_neS, onb, oni, yn_gd, yn_cls, Nat.reduceLT, if_true, if_false, true_and, and_true, List.set_cons_zero, List.set_cons_succ, set_nm, set_tup, set_nil, set_cons, ifb, b1_abs, b1_int, b1_intB, b1_lenT, b1_lenL, b1_tupL, b1_tupT, b2_min, b2_max, seq_tup, seq_lst, seq_sq, gd_sq, ix_sq, len_sq, new_t, new_f, gd_tup, gd_lst, ix_lst, ty_int, ty_tup, ty_str, isi_ii, isi_ib, isi_tt, isi_ss, reduceIte, Bool.true_eq_false, Bool.false_eq_true, Bool.not_true, Bool.not_false,  List.zip_cons_cons, List.zip_nil_right, List.foldl_cons, List.foldl_nil, ne_eq, not_false_eq_true, not_true_eq_false, Bool.not_eq_true', decide_eq_false_iff_not, decide_eq_true_eq, reduceCtorEq, List.cons.injEq, and_self, D.ref.injEq, Cell.obj.injEq, D.int.injEq]
        have hv : 0 < b.by_ → 0 ≤ (r.getD b_ 0 + st).fmod b.by_ ∧ (r.getD b_ 0 + st).fmod b.by_ < b.by_ := fun _ => fmod_okE z.1
        generalize (r.getD b_ 0 + st).fmod b.by_ = v at hv
        refine ⟨by omega, by decide, by decide, ?_⟩
        by_cases v1 : ((v.natAbs : Nat) : Int) ≤ 10 ^ Int.toNat 12
        · rw [if_pos v1]
          refine ⟨_, hat, al, rfl, _, her, b_, hN, rows_lc (fun a M K h => ⟨_, rfl, h⟩) hasl (hno _) (hcs v (hnew v hv v1)) fun t' M10 ht' k10 => ?_⟩
          exact ⟨_, rfl, fin _ _ M10 t' ht' k10⟩
        · rw [if_neg v1]
          refine ⟨_, hat, ?_⟩
          rw [hixb]
          refine ⟨_, hat, al, rfl, _, her, b_, hN, rows_lc (fun a M K h => ⟨_, rfl, h⟩) hasl (hno _) (hcs _ hro') fun t' M10 ht' k10 => ?_⟩
          exact ⟨_, rfl, fin _ _ M10 t' ht' k10⟩
end Og.Lk00
end
section
set_option maxHeartbeats 4000000
set_option autoImplicit false
namespace Og.Lk00
open PySem Og TL L2
def s_other : Spec := fun ds m Q => ∃ (p : Addr) (L n k : Nat) (ms : List Nat) (b : Bk) (ia : Bool), ds = [.ref p, ownD b, .lst (ms.map nd), .bl ia] ∧ BkOk b n k ∧ (∀ n ∈ ms, 1 ≤ n ∧ n ≤ 4) ∧ 1 ≤ ms.length ∧ ms.length ≤ 100 ∧ Pot L m p ∧ L ≤ 700000 ∧ NoObj m ∧ ∀ (b' : Bk) (n' : Nat) (M : Mem), BkOk b' n' k → b'.by_ = b.by_ → Ux m M p → Pot (L + 700) M p → Q (ownD b') M
theorem law_other {X : Ctx} (ht : X.fn 0 = s_take) (hof : X.fn 1 = s_of) (hbo : X.fn 7 = s_bookof) (hre : X.fn 21 = s_renamed) (hsp : X.fn 22 = s_split) (hch : X.fn 23 = s_changed) (ds : List D) (m : Mem) (Q : KD) (h : s_other ds m Q) : body X 5 c24 ds m Q := by
  obtain ⟨p, L, n, k, ms, b, ia, rfl, hb, hms, hm1, hml, hp, hL, no, q⟩ := h
  simp only [c24, ht, hof, hbo, hre, hsp, hch, body, exs, ex, ev, evs, evB, evO, evT, evI, startD, List.map_cons, List.map_nil, List.length_cons, List.length_nil, Nat.reduceAdd, Nat.reduceSub, List.replicate, List.cons_append, List.nil_append, List.append_nil, List.getElem?_cons_zero, List.getElem?_cons_succ, Option.some.injEq, exists_and_left, exists_eq_left', exists_eq_left, exists_eq, ix_tup, at0, at1, at2, op_add', op_sub', op_mul', op_fdiv', op_mod', op_pow', op_addT, cm_lt, cm_le, cm_gt, cm_ge, cm_eq, cm_ne, cm_eqS, cm_neS, onb, oni, yn_gd, yn_cls, Nat.reduceLT, if_true, if_false, true_and, and_true, List.set_cons_zero, List.set_cons_succ, set_nm, set_tup, set_nil, set_cons, ifb, b1_abs, b1_int, b1_intB, b1_lenT, b1_lenL, b1_tupL, b1_tupT, b2_min, b2_max, seq_tup, seq_lst, seq_sq, gd_sq, ix_sq, len_sq, new_t, new_f, gd_tup, gd_lst, ix_lst, ty_int, ty_tup, ty_str, isi_ii, isi_ib, isi_tt, isi_ss, reduceIte, Bool.true_eq_false, Bool.false_eq_true, Bool.not_true, Bool.not_false,  List.zip_cons_cons, List.zip_nil_right, List.foldl_cons, List.foldl_nil, ne_eq, not_false_eq_true, not_true_eq_false, Bool.not_eq_true', decide_eq_false_iff_not, decide_eq_true_eq, reduceCtorEq, List.cons.injEq, and_self, D.ref.injEq, Cell.obj.injEq, D.int.injEq]
  refine ⟨p, 7, _, rfl, by decide, by decide, hp, by omega, fun i M1 hi c1 p1 => ?_⟩
  have u1 := (Ux.refl hp no).chg c1
  try simp only [body, exs, ex, ev, evs, evB, evO, evT, evI, startD, List.map_cons, List.map_nil, List.length_cons, List.length_nil, Nat.reduceAdd, Nat.reduceSub, List.replicate, List.cons_append, List.nil_append, List.append_nil, List.getElem?_cons_zero, List.getElem?_cons_succ, Option.some.injEq, exists_and_left, exists_eq_left', exists_eq_left, exists_eq, ix_tup, at0, at1, at2, op_add', op_sub', op_mul', op_fdiv', op_mod', op_pow', op_addT, cm_lt, cm_le, cm_gt, cm_ge, cm_eq, cm_ne, cm_eqS, cm_neS, onb, oni, yn_gd, yn_cls, Nat.reduceLT, if_true, if_false, true_and, and_true, List.set_cons_zero, List.set_cons_succ, set_nm, set_tup, set_nil, set_cons, ifb, b1_abs, b1_int, b1_intB, b1_lenT, b1_lenL, b1_tupL, b1_tupT, b2_min, b2_max, seq_tup, seq_lst, seq_sq, gd_sq, ix_sq, len_sq, new_t, new_f, gd_tup, gd_lst, ix_lst, ty_int, ty_tup, ty_str, isi_ii, isi_ib, isi_tt, isi_ss, reduceIte, Bool.true_eq_false, Bool.false_eq_true, Bool.not_true, Bool.not_false,  List.zip_cons_cons, List.zip_nil_right, List.foldl_cons, List.foldl_nil, ne_eq, not_false_eq_true, not_true_eq_false, Bool.not_eq_true', decide_eq_false_iff_not, decide_eq_true_eq, reduceCtorEq, List.cons.injEq, and_self, D.ref.injEq, Cell.obj.injEq, D.int.injEq]
  by_cases h0 : (i : Int) < 2
  · rw [if_pos h0]
    exact ⟨p, _, n, k, b, rfl, hb, p1, by omega, u1.no, fun b' M2 hb' e u2 p2 => ⟨_, SubO.refl, q b' n M2 hb' e (u1.trans u2) (p2.mono (by omega))⟩⟩
  rw [if_neg h0]
  by_cases h1 : (i : Int) = 2
  · rw [if_pos h1]
    exact ⟨p, _, n, k, b, ia, rfl, hb, p1, by omega, u1.no, fun b' n' M2 hb' e u2 p2 => ⟨_, SubO.refl, q b' n' M2 hb' e (u1.trans u2) (p2.mono (by omega))⟩⟩
  rw [if_neg h1]
  by_cases h2 : (i : Int) = 3
  · rw [if_pos h2]
    exact ⟨p, _, n, k, b, ia, rfl, hb, p1, by omega, u1.no, fun b' n' M2 hb' e u2 p2 => ⟨p, _, n', k, b', rfl, hb', p2, by omega, u2.no, fun b3 M3 hb3 e3 u3 p3 => ⟨_, SubO.refl, q b3 n' M3 hb3 (e3.trans e) ((u1.trans u2).trans u3) (p3.mono (by omega))⟩⟩⟩
  rw [if_neg h2]
  by_cases h3 : (i : Int) = 4
  · rw [if_pos h3]
    exact ⟨p, _, n, k, b, rfl, hb, p1, by omega, u1.no, fun b' M2 hb' e u2 p2 => ⟨p, _, n, k, b', rfl, hb', p2, by omega, u2.no, fun b3 M3 hb3 e3 u3 p3 => ⟨_, SubO.refl, q b3 n M3 hb3 (e3.trans e) ((u1.trans u2).trans u3) (p3.mono (by omega))⟩⟩⟩
  rw [if_neg h3]
  by_cases h4 : (i : Int) = 5
  · rw [if_pos h4, own_by isOwn_data]
    refine ⟨p, _, _, ms.map nd, rfl, p1, by omega, by rw [List.length_map]; omega, by rw [List.length_map]; omega, fun _ _ => rfl, fun d2 M2 hd2 c2 p2 => ?_⟩
    obtain ⟨n', hn', rfl⟩ := List.mem_map.mp hd2
    have u2 := u1.chg c2
    rw [own_kinds isOwn_data]
    obtain ⟨hn1, hn4⟩ := hms n' hn'
    refine ⟨p, _, n', k, b.by_, b.kinds, ia, rfl, hb.by_ok, hn1, hn4, hb.k1, hb.k3, hb.kn, p2, by omega, u2.no, fun b' M3 s hb' hk he u3 p3 hs3 e3 => ?_⟩
    refine ⟨s, rfl, _, e3, _, rfl, _, SubO.refl, ?_⟩
    exact q b' n' _ hb' he ((u2.trans u3).del (u2.none hs3 (p2.ne hs3).symm)) (Pot.del (p3.mono (by omega)) (p2.ne hs3))
  · rw [if_neg h4]
    exact ⟨_, SubO.refl, q b n M1 hb rfl u1 (p1.mono (by omega))⟩
end Og.Lk00
end
section
set_option maxHeartbeats 4000000
set_option autoImplicit false
/-! Og: texts of books read back. -/
namespace Og
open PySem TL L2
def wMark : Str := Str.ofString "mark"
def wKind : Str := Str.ofString "kind"
def wBook : Str := Str.ofString "book"
def markW (z : Str × Int) : List Str := [wMark, z.1, numS z.2]
def kindW (z : Str × List (List Int)) : List Str := wKind :: z.1 :: z.2.flatten.map numS
def wordsB (b : Bk) : List (List Str) := [wBook, numS b.by_] :: ((b.marks.zip b.wts).map markW ++ (b.kinds.zip b.tabs).map kindW)
theorem joinL_cons {S : List Nat} {p : List Nat} {r : List (List Nat)} (h : r ≠ []) : joinL S (p :: r) = p ++ (S ++ joinL S r) := by
  cases r with
  | nil => exact absurd rfl h
  | cons q r => rfl
theorem joinL_append {S : List Nat} {ys : List (List Nat)} (hy : ys ≠ []) : ∀ {xs : List (List Nat)}, xs ≠ [] → joinL S (xs ++ ys) = joinL S xs ++ (S ++ joinL S ys)
  | [], h => absurd rfl h
  | [x], _ => by rw [List.singleton_append, joinL_cons hy]; rfl
  | x :: x' :: xs, _ => by
    rw [List.cons_append, joinL_cons (by simp), joinL_append hy (xs := x' :: xs) (by simp), joinL_cons (p := x) (by simp)]
    simp [List.append_assoc]
theorem joinL_join {S : List Nat} : ∀ {rows : List (List (List Nat))}, (∀ r ∈ rows, r ≠ []) → joinL S (rows.map (joinL S)) = joinL S rows.flatten
  | [], _ => rfl
  | [r], _ => by simp [joinL]
  | r :: r' :: rows, h => by
    have h1 := h r (by simp)
    have h2 := h r' (by simp)
    rw [List.map_cons, joinL_cons (by simp), joinL_join fun x hx => h x (List.mem_cons_of_mem _ hx), List.flatten_cons (l := r), joinL_append (by simp [h2]) h1]
theorem mem_joinL {S : List Nat} {x : Nat} : ∀ {l : List (List Nat)}, x ∈ joinL S l → x ∈ S ∨ ∃ p ∈ l, x ∈ p
  | [], h => by simp [joinL] at h
  | [p], h => .inr ⟨p, by simp, h⟩
  | p :: q :: r, h => by
    rw [joinL_cons (by simp)] at h
    rcases List.mem_append.mp h with h | h
    · exact .inr ⟨p, by simp, h⟩
    rcases List.mem_append.mp h with h | h
    · exact .inl h
    rcases mem_joinL h with h | ⟨y, hy, hx⟩
    · exact .inl h
    · exact .inr ⟨y, List.mem_cons_of_mem _ hy, hx⟩
theorem tl_sp : tl sp = [32] := by decide
theorem tl_joinS {w : Str} {l : List Str} : tl (Txt.join w l) = joinL (tl w) (l.map tl) := by rw [join_eq, tl_join]
theorem markL_join (z : Str × Int) : markL z = Txt.join sp (markW z) := by
  refine ext_tl ?_
  rw [tl_joinS]
  simp only [markL, markW, tl_append, List.map_cons, List.map_nil, joinL]
  rw [show tl (Str.ofString "mark ") = tl wMark ++ tl sp from by decide]
  simp [List.append_assoc]
theorem kindL_join {z : Str × List (List Int)} (h : ∀ r ∈ z.2, r ≠ []) (h0 : z.2 ≠ []) : kindL z = Txt.join sp (kindW z) := by
  refine ext_tl ?_
  rw [tl_joinS]
  have hf : (z.2.flatten.map numS).map tl ≠ [] := by
    cases hz : z.2 with
    | nil => exact absurd hz h0
    | cons r rs =>
      have := h r (by rw [hz]; simp)
      simp [this]
  have e : joinL (tl sp) ((z.2.map rowS).map tl) = joinL (tl sp) ((z.2.flatten.map numS).map tl) := by
    have e1 : (z.2.map rowS).map tl = (z.2.map fun r => (r.map numS).map tl).map (joinL (tl sp)) := by
      rw [List.map_map, List.map_map]
      refine List.map_congr_left fun r _ => ?_
      show tl (rowS r) = joinL (tl sp) ((r.map numS).map tl)
      unfold rowS
      rw [tl_joinS]
    rw [e1, joinL_join]
    · congr 1
      rw [List.map_flatten, List.map_flatten, List.map_map]
      rfl
    · intro r hr
      obtain ⟨y, hy, rfl⟩ := List.mem_map.mp hr
      simpa using h y hy
  simp only [kindL, kindW, tl_append, List.map_cons]
  rw [joinL_cons (by simp), joinL_cons hf, tl_joinS, e, show tl (Str.ofString "kind ") = tl wKind ++ tl sp from by decide]
  simp [List.append_assoc]
theorem headL_join (i : Int) : Str.ofString "book " ++ numS i = Txt.join sp [wBook, numS i] := by
  refine ext_tl ?_
  rw [tl_joinS, tl_append]
  simp only [List.map_cons, List.map_nil, joinL]
  rw [show tl (Str.ofString "book ") = tl wBook ++ tl sp from by decide]
  simp [List.append_assoc]
/-- a word that neither a blank nor a line's end stands in -/
def Word (x : Str) : Prop := 32 ∉ tl x ∧ 10 ∉ tl x
theorem word_num (i : Int) : Word (numS i) := by
  unfold Word
  rw [tl_numS]
  exact ⟨numT_free (by omega), numT_free (by omega)⟩
theorem Nm.word {x : Str} (h : Nm x) : Word x := ⟨fun z => by have := h.let_ _ z; omega, fun z => by have := h.let_ _ z; omega⟩
theorem word_wBook : Word wBook := ⟨by decide, by decide⟩
theorem word_wMark : Word wMark := ⟨by decide, by decide⟩
theorem word_wKind : Word wKind := ⟨by decide, by decide⟩
theorem tabs_ne {b : Bk} {n k : Nat} (hb : BkOk b n k) {t : List (List Int)} (ht : t ∈ b.tabs) : t ≠ [] ∧ ∀ r ∈ t, r ≠ [] := by
  have h := hb.tab t ht
  have h1 := hb.n1
  refine ⟨fun z => ?_, fun r hr z => ?_⟩
  · have := h.1; rw [z] at this; simp at this; omega
  · have := (h.2 r hr).1; rw [z] at this; simp at this; omega
theorem words_word {b : Bk} {n k : Nat} (hb : BkOk b n k) : ∀ ws ∈ wordsB b, ∀ w ∈ ws, Word w := by
  intro ws hws w hw
  rcases List.mem_cons.mp hws with rfl | h
  · simp only [List.mem_cons, List.not_mem_nil, or_false] at hw
    rcases hw with rfl | rfl
    · exact word_wBook
    · exact word_num _
  rcases List.mem_append.mp h with h | h
  · obtain ⟨⟨x, i⟩, hz, rfl⟩ := List.mem_map.mp h
    simp only [markW, List.mem_cons, List.not_mem_nil, or_false] at hw
    rcases hw with rfl | rfl | rfl
    · exact word_wMark
    · exact (hb.m.nm _ (List.of_mem_zip hz).1).word
    · exact word_num _
  · obtain ⟨⟨x, t⟩, hz, rfl⟩ := List.mem_map.mp h
    simp only [kindW, List.mem_cons] at hw
    rcases hw with rfl | rfl | hw
    · exact word_wKind
    · exact (hb.kn.nm _ (List.of_mem_zip hz).1).word
    · obtain ⟨i, _, rfl⟩ := List.mem_map.mp hw
      exact word_num _
theorem lines_words {b : Bk} {n k : Nat} (hb : BkOk b n k) : linesB b = (wordsB b).map (Txt.join sp) := by
  unfold linesB wordsB
  rw [List.map_cons, List.map_append, List.map_map, List.map_map, headL_join]
  congr 1
  refine congr (congrArg _ (List.map_congr_left fun z _ => markL_join z)) ?_
  · refine List.map_congr_left fun z hz => ?_
    have := tabs_ne hb (List.of_mem_zip (show (z.1, z.2) ∈ _ from hz)).2
    exact kindL_join this.2 this.1
theorem words_ne {b : Bk} : ∀ ws ∈ wordsB b, ws ≠ [] := by
  intro ws hws
  rcases List.mem_cons.mp hws with rfl | h
  · simp
  rcases List.mem_append.mp h with h | h
  · obtain ⟨z, _, rfl⟩ := List.mem_map.mp h; simp [markW]
  · obtain ⟨z, _, rfl⟩ := List.mem_map.mp h; simp [kindW]
theorem text_lines {b : Bk} {n k : Nat} (hb : BkOk b n k) : Txt.split (textB b) (Str.ofString "\n") = linesB b := by
  unfold textB
  refine split_join (s := 10) (S := []) (by decide) (by decide +kernel) (by simp [linesB]) fun p hp hx => ?_
  rw [lines_words hb] at hp
  obtain ⟨ws, hws, rfl⟩ := List.mem_map.mp hp
  rw [tl_joinS] at hx
  rcases mem_joinL hx with h | ⟨y, hy, hx⟩
  · rw [tl_sp] at h; simp at h
  · obtain ⟨w, hw, rfl⟩ := List.mem_map.mp hy
    exact (words_word hb ws hws w hw).2 hx
theorem line_words {b : Bk} {n k : Nat} (hb : BkOk b n k) : ∀ ws ∈ wordsB b, Txt.split (Txt.join sp ws) sp = ws := fun ws hws =>
  split_join (s := 32) (S := []) (by decide) (by decide +kernel) (words_ne ws hws) fun p hp => (words_word hb ws hws p hp).1
theorem tl_cut1 (z : Str) : tl (cutS z none (some 1)) = (tl z).take 1 := by
  show (z.cps.toList.drop 0).take (min (1 : Int).toNat z.length - 0) = z.cps.toList.take 1
  have l : z.cps.toList.length = z.length := Array.length_toList
  rw [List.drop_zero, Nat.sub_zero]
  rcases Nat.eq_zero_or_pos z.length with h | h
  · rw [h]
    have : z.cps.toList = [] := List.length_eq_zero_iff.mp (by omega)
    rw [this]; rfl
  · rw [show min (1 : Int).toNat z.length = 1 from by omega]
theorem tl_cutF (z : Str) : tl (cutS z (some 1) none) = (tl z).drop 1 := by
  show (z.cps.toList.drop (min (1 : Int).toNat z.length)).take (z.length - min (1 : Int).toNat z.length) = z.cps.toList.drop 1
  have l : z.cps.toList.length = z.length := Array.length_toList
  rcases Nat.eq_zero_or_pos z.length with h | h
  · rw [h]
    have : z.cps.toList = [] := List.length_eq_zero_iff.mp (by omega)
    rw [this]; rfl
  · rw [show min (1 : Int).toNat z.length = 1 from by omega]
    refine List.take_of_length_le ?_
    rw [List.length_drop]; omega
/-- the figures of a number's text -/
def figs (i : Int) : Str := if i < 0 then cutS (numS i) (some 1) none else numS i
theorem tl_figs (i : Int) : tl (figs i) = numL i.natAbs := by
  unfold figs
  have h := tl_numS i
  unfold numT at h
  by_cases hi : i < 0
  · rw [if_pos hi] at h ⊢
    rw [tl_cutF, h]; rfl
  · rw [if_neg hi] at h ⊢
    exact h
theorem minus_at (i : Int) : (cutS (numS i) none (some 1) = Str.ofString "-") ↔ i < 0 := by
  have h := tl_numS i
  unfold numT at h
  by_cases hi : i < 0
  · rw [if_pos hi] at h
    refine ⟨fun _ => hi, fun _ => ext_tl ?_⟩
    rw [tl_cut1, h]; rfl
  · rw [if_neg hi] at h
    refine ⟨fun e => ?_, fun z => absurd z hi⟩
    exfalso
    have e1 : tl (cutS (numS i) none (some 1)) = [45] := by rw [e]; decide
    rw [tl_cut1, h] at e1
    cases hn : numL i.natAbs with
    | nil => exact numL_ne _ hn
    | cons c r =>
      rw [hn] at e1
      have ec : c = 45 := by simpa using e1
      exact numL_free (s := 45) (n := i.natAbs) (by omega) (by rw [hn, ec]; simp)
theorem in_ints {m : Mem} {i : Int} {l : List Int} {Q : KD} : cmpD .in_ (.int i) (.tup (l.map D.int)) m Q = Q (.bl (decide (i ∈ l))) m := by
  have e : inV (.int i) (l.map V.int) = decide (i ∈ l) := by
    unfold inV
    rw [List.any_map]
    induction l with
    | nil => rfl
    | cons a l ih =>
      rw [List.any_cons, ih]
      show (decide (a = i) || decide (i ∈ l)) = _
      rw [← Bool.decide_or]
      exact decide_eq_decide.mpr (by simp [eq_comm])
  show (∃ ys, seqOf m (.tup (l.map D.int)) = some ys ∧ inD (.int i) ys fun b => Q (.bl b) m) = _
  apply propext
  constructor
  · rintro ⟨ys, h, v, vs, h1, h2, h3⟩
    cases h; cases h1
    rw [List.map_map] at h2
    have : vs = l.map V.int := by
      have e2 : (l.map V.int).map some = vs.map some := by rw [← h2, List.map_map]; rfl
      exact ((List.map_inj_right (fun _ _ h => Option.some.inj h)).mp e2).symm
    rw [this, e] at h3
    exact h3
  · intro q
    refine ⟨_, rfl, _, l.map V.int, rfl, by rw [List.map_map, List.map_map]; rfl, ?_⟩
    rw [e]; exact q
theorem in_strs {m : Mem} {x : Str} {v : D} {l : List Str} {Q : KD} (hv : seqOf m v = some (l.map D.str)) (hn : ∀ y, v ≠ .str y) : cmpD .in_ (.str x) v m Q = Q (.bl (decide (x ∈ l))) m := by
  have e : inV (.str x) (l.map V.str) = decide (x ∈ l) := by
    unfold inV
    rw [List.any_map]
    clear hv
    induction l with
    | nil => rfl
    | cons a l ih =>
      rw [List.any_cons, ih]
      show (decide (a = x) || decide (x ∈ l)) = _
      rw [← Bool.decide_or]
      exact decide_eq_decide.mpr (by simp [eq_comm])
  have e0 : cmpD .in_ (.str x) v m Q = ∃ ys, seqOf m v = some ys ∧ inD (.str x) ys fun b => Q (.bl b) m := by
    cases v <;> first | rfl | exact absurd rfl (hn _)
  rw [e0]
  apply propext
  constructor
  · rintro ⟨ys, h, v, vs, h1, h2, h3⟩
    rw [hv] at h
    cases h; cases h1
    rw [List.map_map] at h2
    have : vs = l.map V.str := by
      have e2 : (l.map V.str).map some = vs.map some := by rw [← h2, List.map_map]; rfl
      exact ((List.map_inj_right (fun _ _ h => Option.some.inj h)).mp e2).symm
    rw [this, e] at h3
    exact h3
  · intro q
    refine ⟨_, hv, _, l.map V.str, rfl, by rw [List.map_map, List.map_map]; rfl, ?_⟩
    rw [e]; exact q
def markD (z : Str × Int) : D := .tup [.str z.1, .int z.2]
def kindD (z : Str × List (List Int)) : D := .tup [.str z.1, intsD z.2.flatten]
end Og
end
section
set_option maxHeartbeats 4000000
set_option autoImplicit false
namespace Og.Lk00
open PySem Og TL L2
theorem text_len {b : Bk} {n k : Nat} (hb : BkOk b n k) : (textB b).length ≤ 3000 := by
  have hzl : (b.marks.zip b.wts).length = n := by rw [List.length_zip, hb.m.len, hb.wl]; omega
  have hkl : (b.kinds.zip b.tabs).length = k := by rw [List.length_zip, hb.kn.len, hb.tl]; omega
  have h1 := join_le (w := Str.ofString "\n") (c := 254) (zs := linesB b) fun z hz => by
    rcases List.mem_cons.mp hz with rfl | hz
    · rw [len_add]
      have := numS_len hb.by_ok.small
      rw [show (Str.ofString "book ").length = 5 from by decide]
      omega
    rcases List.mem_append.mp hz with hz | hz
    · obtain ⟨⟨x, w⟩, hy, rfl⟩ := List.mem_map.mp hz
      have hz' := List.of_mem_zip hy
      have := markL_len hb.by_ok (hb.m.nm _ hz'.1) (hb.w _ hz'.2)
      omega
    · obtain ⟨⟨x, t⟩, hy, rfl⟩ := List.mem_map.mp hz
      have hz' := List.of_mem_zip hy
      exact kindL_len hb.by_ok hb.n4 (hb.kn.nm _ hz'.1) (hb.tab _ hz'.2)
  have h2 : (linesB b).length = 1 + n + k := by
    unfold linesB
    rw [List.length_cons, List.length_append, List.length_map, List.length_map, hzl, hkl]; omega
  have h3 := hb.n4
  have h4 := hb.k3
  rw [h2, show (Str.ofString "\n").length = 1 from by decide] at h1
  unfold textB
  omega
theorem line_len {b : Bk} {n k : Nat} (hb : BkOk b n k) : ∀ ws ∈ wordsB b, (Txt.join sp ws).length ≤ 1000000 := fun ws hws => by
  have : Txt.join sp ws ∈ linesB b := by rw [lines_words hb]; exact List.mem_map_of_mem hws
  rcases List.mem_cons.mp this with h | hz
  · rw [h, len_add]
    have := numS_len hb.by_ok.small
    rw [show (Str.ofString "book ").length = 5 from by decide]
    omega
  rcases List.mem_append.mp hz with hz | hz
  · obtain ⟨⟨x, w⟩, hy, e⟩ := List.mem_map.mp hz
    have hz' := List.of_mem_zip hy
    have := markL_len hb.by_ok (hb.m.nm _ hz'.1) (hb.w _ hz'.2)
    rw [← e]
    omega
  · obtain ⟨⟨x, t⟩, hy, e⟩ := List.mem_map.mp hz
    have hz' := List.of_mem_zip hy
    have := kindL_len hb.by_ok hb.n4 (hb.kn.nm _ hz'.1) (hb.tab _ hz'.2)
    rw [← e]
    omega
theorem g0 : gd[0]? = some (.str "\n") := rfl
theorem g1 : gd[1]? = some (.str " ") := rfl
theorem g2 : gd[2]? = some (.str "0123456789") := rfl
theorem g3 : gd[3]? = some (.str "abcdefghijklmnopqrstuvwxyz") := rfl
theorem g4 : gd[4]? = some (.str "-") := rfl
theorem g5 : gd[5]? = some (.str "0") := rfl
theorem g6 : gd[6]? = some (.int 4000) := rfl
theorem g7 : gd[7]? = some (.str "book") := rfl
theorem g8 : gd[8]? = some (.str "mark") := rfl
theorem g9 : gd[9]? = some (.str "kind") := rfl
theorem g10 : gd[10]? = some (.int 4) := rfl
theorem g11 : gd[11]? = some (.int 4) := rfl
theorem g12 : gd[12]? = some (.int 3) := rfl
theorem g13 : gd[13]? = some (.int 1000000000000) := rfl
theorem g14 : gd[14]? = some (.int 2) := rfl
theorem g15 : gd[15]? = some (.tup (primes.map D.int)) := rfl
theorem g16 : gd[16]? = some (.int 3) := rfl
def lineD (ws : List Str) : D := .lst (ws.map D.str)
def s_lines : Spec := fun ds m Q => ∃ (b : Bk) (n k : Nat), ds = [.str (textB b)] ∧ BkOk b n k ∧ Q (.lst ((wordsB b).map lineD)) m
theorem law_lines {X : Ctx} (hg : X.gd = gd) (ds : List D) (m : Mem) (Q : KD) (h : s_lines ds m Q) : body X 2 c10 ds m Q := by
  obtain ⟨b, n, k, rfl, hb, q⟩ := h
  simp only [c10, hg, g0, g1, g2, g3, g4, g5, g6, body, exs, ex, ev, evs, evB, evO, evT, evI, startD, List.map_cons, List.map_nil, List.length_cons, List.length_nil, Nat.reduceAdd, Nat.reduceSub, List.replicate, List.cons_append, List.nil_append, List.append_nil, List.getElem?_cons_zero, List.getElem?_cons_succ, Option.some.injEq, exists_and_left, exists_eq_left', exists_eq_left, exists_eq, ix_tup, at0, at1, at2, op_add', op_sub', op_mul', op_fdiv', op_mod', op_pow', op_addT, cm_lt, cm_le, cm_gt, cm_ge, cm_eq, cm_ne, cm_eqS, cm_neS, onb, oni, yn_gd, yn_cls, Nat.reduceLT, if_true, if_false, true_and, and_true, List.set_cons_zero, List.set_cons_succ, set_nm, set_tup, set_nil, set_cons, ifb, b1_abs, b1_int, b1_intB, b1_lenT, b1_lenL, b1_tupL, b1_tupT, b2_min, b2_max, seq_tup, seq_lst, seq_sq, gd_sq, ix_sq, len_sq, new_t, new_f, gd_tup, gd_lst, ix_lst, ty_int, ty_tup, ty_str, isi_ii, isi_ib, isi_tt, isi_ss, reduceIte, Bool.true_eq_false, Bool.false_eq_true, Bool.not_true, Bool.not_false,  List.zip_cons_cons, List.zip_nil_right, List.foldl_cons, List.foldl_nil, ne_eq, not_false_eq_true, not_true_eq_false, Bool.not_eq_true', decide_eq_false_iff_not, decide_eq_true_eq, reduceCtorEq, List.cons.injEq, and_self, D.ref.injEq, Cell.obj.injEq, D.int.injEq]
  refine ⟨⟨_, rfl⟩, _, rfl, Str.ofString "\n", rfl, by decide, by have := text_len hb; omega, ?_⟩
  rw [text_lines hb, lines_words hb, List.map_map]
  refine lc_pureW (wordsB b) (D.str ∘ Txt.join sp) lineD (fun _ _ _ => trivial) (fun ws hws p' acc K hp' kK => ?_) ⟨_, SubO.refl, q⟩
  refine ⟨_, rfl, ⟨_, rfl⟩, _, rfl, sp, rfl, by decide, line_len hb ws hws, ?_⟩
  rw [line_words hb ws hws]
  exact kK
def s_integer : Spec := fun ds m Q => ∃ (i : Int), ds = [.str (numS i)] ∧ i.natAbs ≤ 10 ^ 12 ∧ Q (.int i) m
theorem int_tail {X : Ctx} (hg : X.gd = gd) {m : Mem} {Q : KD} {i : Int} (hi : i.natAbs ≤ 10 ^ 12) (q : Q (.int i) m) : exs X (c11.drop 1) [some (.str (numS i)), some (.str (figs i)), none] m (endK Q) := by
  simp only [c11, List.drop, hg, g0, g1, g2, g3, g4, g5, g6, body, exs, ex, ev, evs, evB, evO, evT, evI, startD, List.map_cons, List.map_nil, List.length_cons, List.length_nil, Nat.reduceAdd, Nat.reduceSub, List.replicate, List.cons_append, List.nil_append, List.append_nil, List.getElem?_cons_zero, List.getElem?_cons_succ, Option.some.injEq, exists_and_left, exists_eq_left', exists_eq_left, exists_eq, ix_tup, at0, at1, at2, op_add', op_sub', op_mul', op_fdiv', op_mod', op_pow', op_addT, cm_lt, cm_le, cm_gt, cm_ge, cm_eq, cm_ne, cm_eqS, cm_neS, onb, oni, yn_gd, yn_cls, Nat.reduceLT, if_true, if_false, true_and, and_true, List.set_cons_zero, List.set_cons_succ, set_nm, set_tup, set_nil, set_cons, ifb, b1_abs, b1_int, b1_intB, b1_lenT, b1_lenL, b1_tupL, b1_tupT, b2_min, b2_max, seq_tup, seq_lst, seq_sq, gd_sq, ix_sq, len_sq, new_t, new_f, gd_tup, gd_lst, ix_lst, ty_int, ty_tup, ty_str, isi_ii, isi_ib, isi_tt, isi_ss, reduceIte, Bool.true_eq_false, Bool.false_eq_true, Bool.not_true, Bool.not_false,  List.zip_cons_cons, List.zip_nil_right, List.foldl_cons, List.foldl_nil, ne_eq, not_false_eq_true, not_true_eq_false, Bool.not_eq_true', decide_eq_false_iff_not, decide_eq_true_eq, reduceCtorEq, List.cons.injEq, and_self, D.ref.injEq, Cell.obj.injEq, D.int.injEq]
  have hfl : (figs i).length = (numL i.natAbs).length := by rw [len_tl, tl_figs]
  have h13 : (numL i.natAbs).length ≤ 13 := numL_len (by decide) (by omega)
  have h1 : 1 ≤ (numL i.natAbs).length := List.length_pos_iff.mpr (numL_ne _)
  refine ⟨by omega, ?_⟩
  try simp only [body, exs, ex, ev, evs, evB, evO, evT, evI, startD, List.map_cons, List.map_nil, List.length_cons, List.length_nil, Nat.reduceAdd, Nat.reduceSub, List.replicate, List.cons_append, List.nil_append, List.append_nil, List.getElem?_cons_zero, List.getElem?_cons_succ, Option.some.injEq, exists_and_left, exists_eq_left', exists_eq_left, exists_eq, ix_tup, at0, at1, at2, op_add', op_sub', op_mul', op_fdiv', op_mod', op_pow', op_addT, cm_lt, cm_le, cm_gt, cm_ge, cm_eq, cm_ne, cm_eqS, cm_neS, onb, oni, yn_gd, yn_cls, Nat.reduceLT, if_true, if_false, true_and, and_true, List.set_cons_zero, List.set_cons_succ, set_nm, set_tup, set_nil, set_cons, ifb, b1_abs, b1_int, b1_intB, b1_lenT, b1_lenL, b1_tupL, b1_tupT, b2_min, b2_max, seq_tup, seq_lst, seq_sq, gd_sq, ix_sq, len_sq, new_t, new_f, gd_tup, gd_lst, ix_lst, ty_int, ty_tup, ty_str, isi_ii, isi_ib, isi_tt, isi_ss, reduceIte, Bool.true_eq_false, Bool.false_eq_true, Bool.not_true, Bool.not_false,  List.zip_cons_cons, List.zip_nil_right, List.foldl_cons, List.foldl_nil, ne_eq, not_false_eq_true, not_true_eq_false, Bool.not_eq_true', decide_eq_false_iff_not, decide_eq_true_eq, reduceCtorEq, List.cons.injEq, and_self, D.ref.injEq, Cell.obj.injEq, D.int.injEq]
  rw [if_pos (by omega)]
  rw [if_neg (fun z => z (by omega))]
  have last : b1D B1.int (D.str (numS i)) m (fun d m1 => ∃ m2, SubO m2 m1 ∧ Q d m2) := ⟨i, numS_int hi, by have := numS_len hi; omega, _, SubO.refl, q⟩
  have et : (figs i).cps.toList = numL i.natAbs := tl_figs i
  refine ⟨_, rfl, by omega, ?_⟩
  refine lc_pureW (figs i).cps.toList (fun c => D.str ⟨#[c]⟩) (fun _ => D.bl true) (fun _ _ _ => trivial) (fun c hc p' acc K hp' kK => ?_) ?_
  · refine ⟨_, rfl, ?_⟩
    rw [et] at hc
    have hd := numL_digits _ c hc
    have := fig_in (c := c) (by omega) (by omega)
    unfold inT at this
    show K (some (.bl (!(Builtin.Str.occurrences (Str.ofString "0123456789") ⟨#[c]⟩ 0 (Str.ofString "0123456789").length 1).isEmpty))) _
    rw [this]
    exact kK
  · refine ⟨(figs i).cps.toList.map fun _ => true, by show some _ = some _; rw [List.map_map]; rfl, ?_⟩
    rw [show ((figs i).cps.toList.map fun _ => true).all id = true from by simp]
    try simp only [body, exs, ex, ev, evs, evB, evO, evT, evI, startD, List.map_cons, List.map_nil, List.length_cons, List.length_nil, Nat.reduceAdd, Nat.reduceSub, List.replicate, List.cons_append, List.nil_append, List.append_nil, List.getElem?_cons_zero, List.getElem?_cons_succ, Option.some.injEq, exists_and_left, exists_eq_left', exists_eq_left, exists_eq, ix_tup, at0, at1, at2, op_add', op_sub', op_mul', op_fdiv', op_mod', op_pow', op_addT, cm_lt, cm_le, cm_gt, cm_ge, cm_eq, cm_ne, cm_eqS, cm_neS, onb, oni, yn_gd, yn_cls, Nat.reduceLT, if_true, if_false, true_and, and_true, List.set_cons_zero, List.set_cons_succ, set_nm, set_tup, set_nil, set_cons, ifb, b1_abs, b1_int, b1_intB, b1_lenT, b1_lenL, b1_tupL, b1_tupT, b2_min, b2_max, seq_tup, seq_lst, seq_sq, gd_sq, ix_sq, len_sq, new_t, new_f, gd_tup, gd_lst, ix_lst, ty_int, ty_tup, ty_str, isi_ii, isi_ib, isi_tt, isi_ss, reduceIte, Bool.true_eq_false, Bool.false_eq_true, Bool.not_true, Bool.not_false,  List.zip_cons_cons, List.zip_nil_right, List.foldl_cons, List.foldl_nil, ne_eq, not_false_eq_true, not_true_eq_false, Bool.not_eq_true', decide_eq_false_iff_not, decide_eq_true_eq, reduceCtorEq, List.cons.injEq, and_self, D.ref.injEq, Cell.obj.injEq, D.int.injEq]
    cases hn : numL i.natAbs with
    | nil => exact absurd hn (numL_ne _)
    | cons c r =>
      refine ⟨c, by omega, by rw [et, hn]; exact (show L2.atI (c :: r) ((0 : Nat) : Int) = some c from by rw [atI_nat]; rfl), ?_⟩
      try simp only [body, exs, ex, ev, evs, evB, evO, evT, evI, startD, List.map_cons, List.map_nil, List.length_cons, List.length_nil, Nat.reduceAdd, Nat.reduceSub, List.replicate, List.cons_append, List.nil_append, List.append_nil, List.getElem?_cons_zero, List.getElem?_cons_succ, Option.some.injEq, exists_and_left, exists_eq_left', exists_eq_left, exists_eq, ix_tup, at0, at1, at2, op_add', op_sub', op_mul', op_fdiv', op_mod', op_pow', op_addT, cm_lt, cm_le, cm_gt, cm_ge, cm_eq, cm_ne, cm_eqS, cm_neS, onb, oni, yn_gd, yn_cls, Nat.reduceLT, if_true, if_false, true_and, and_true, List.set_cons_zero, List.set_cons_succ, set_nm, set_tup, set_nil, set_cons, ifb, b1_abs, b1_int, b1_intB, b1_lenT, b1_lenL, b1_tupL, b1_tupT, b2_min, b2_max, seq_tup, seq_lst, seq_sq, gd_sq, ix_sq, len_sq, new_t, new_f, gd_tup, gd_lst, ix_lst, ty_int, ty_tup, ty_str, isi_ii, isi_ib, isi_tt, isi_ss, reduceIte, Bool.true_eq_false, Bool.false_eq_true, Bool.not_true, Bool.not_false,  List.zip_cons_cons, List.zip_nil_right, List.foldl_cons, List.foldl_nil, ne_eq, not_false_eq_true, not_true_eq_false, Bool.not_eq_true', decide_eq_false_iff_not, decide_eq_true_eq, reduceCtorEq, List.cons.injEq, and_self, D.ref.injEq, Cell.obj.injEq, D.int.injEq]
      by_cases hc : (⟨#[c]⟩ : Str) = Str.ofString "0"
      · rw [if_pos hc]
        have hc' : c = 48 := by
          have := congrArg tl hc
          rw [show tl (Str.ofString "0") = [48] from by decide] at this
          simpa [tl] using this
        have h0 : i.natAbs = 0 := by
          rcases Nat.eq_zero_or_pos i.natAbs with h | h
          · exact h
          · obtain ⟨c', r', e, h2, h3⟩ := numL_head h
            rw [hn] at e
            have := (List.cons.inj e).1
            omega
        have hi0 : i = 0 := by omega
        rw [if_neg (fun z => z (by rw [hi0]; decide))]
        exact last
      · rw [if_neg hc]
        exact last
theorem law_integer {X : Ctx} (hg : X.gd = gd) (ds : List D) (m : Mem) (Q : KD) (h : s_integer ds m Q) : body X 3 c11 ds m Q := by
  obtain ⟨i, rfl, hi, q⟩ := h
  refine body_cut 1 ?_
  have ht := int_tail hg hi q
  generalize c11.drop 1 = R at ht
  simp only [c11, List.take, hg, g0, g1, g2, g3, g4, g5, g6, body, exs, ex, ev, evs, evB, evO, evT, evI, startD, List.map_cons, List.map_nil, List.length_cons, List.length_nil, Nat.reduceAdd, Nat.reduceSub, List.replicate, List.cons_append, List.nil_append, List.append_nil, List.getElem?_cons_zero, List.getElem?_cons_succ, Option.some.injEq, exists_and_left, exists_eq_left', exists_eq_left, exists_eq, ix_tup, at0, at1, at2, op_add', op_sub', op_mul', op_fdiv', op_mod', op_pow', op_addT, cm_lt, cm_le, cm_gt, cm_ge, cm_eq, cm_ne, cm_eqS, cm_neS, onb, oni, yn_gd, yn_cls, Nat.reduceLT, if_true, if_false, true_and, and_true, List.set_cons_zero, List.set_cons_succ, set_nm, set_tup, set_nil, set_cons, ifb, b1_abs, b1_int, b1_intB, b1_lenT, b1_lenL, b1_tupL, b1_tupT, b2_min, b2_max, seq_tup, seq_lst, seq_sq, gd_sq, ix_sq, len_sq, new_t, new_f, gd_tup, gd_lst, ix_lst, ty_int, ty_tup, ty_str, isi_ii, isi_ib, isi_tt, isi_ss, reduceIte, Bool.true_eq_false, Bool.false_eq_true, Bool.not_true, Bool.not_false,  List.zip_cons_cons, List.zip_nil_right, List.foldl_cons, List.foldl_nil, ne_eq, not_false_eq_true, not_true_eq_false, Bool.not_eq_true', decide_eq_false_iff_not, decide_eq_true_eq, reduceCtorEq, List.cons.injEq, and_self, D.ref.injEq, Cell.obj.injEq, D.int.injEq]
  have hl := numS_len hi
  refine ⟨by omega, ?_⟩
  dsimp only
  simp only [body, exs, ex, ev, evs, evB, evO, evT, evI, startD, List.map_cons, List.map_nil, List.length_cons, List.length_nil, Nat.reduceAdd, Nat.reduceSub, List.replicate, List.cons_append, List.nil_append, List.append_nil, List.getElem?_cons_zero, List.getElem?_cons_succ, Option.some.injEq, exists_and_left, exists_eq_left', exists_eq_left, exists_eq, ix_tup, at0, at1, at2, op_add', op_sub', op_mul', op_fdiv', op_mod', op_pow', op_addT, cm_lt, cm_le, cm_gt, cm_ge, cm_eq, cm_ne, cm_eqS, cm_neS, onb, oni, yn_gd, yn_cls, Nat.reduceLT, if_true, if_false, true_and, and_true, List.set_cons_zero, List.set_cons_succ, set_nm, set_tup, set_nil, set_cons, ifb, b1_abs, b1_int, b1_intB, b1_lenT, b1_lenL, b1_tupL, b1_tupT, b2_min, b2_max, seq_tup, seq_lst, seq_sq, gd_sq, ix_sq, len_sq, new_t, new_f, gd_tup, gd_lst, ix_lst, ty_int, ty_tup, ty_str, isi_ii, isi_ib, isi_tt, isi_ss, reduceIte, Bool.true_eq_false, Bool.false_eq_true, Bool.not_true, Bool.not_false,  List.zip_cons_cons, List.zip_nil_right, List.foldl_cons, List.foldl_nil, ne_eq, not_false_eq_true, not_true_eq_false, Bool.not_eq_true', decide_eq_false_iff_not, decide_eq_true_eq, reduceCtorEq, List.cons.injEq, and_self, D.ref.injEq, Cell.obj.injEq, D.int.injEq, minus_at]
  by_cases h0 : i < 0
  · rw [if_pos h0]
    refine ⟨by omega, ?_⟩
    have e : cutS (numS i) (some 1) none = figs i := by unfold figs; rw [if_pos h0]
    dsimp only
    rw [e]
    exact ht
  · rw [if_neg h0]
    have e : numS i = figs i := by unfold figs; rw [if_neg h0]
    have ht' := ht
    rw [← e] at ht'
    exact ht'
end Og.Lk00
end
section
set_option maxHeartbeats 4000000
set_option autoImplicit false
namespace Og.Lk00
open PySem Og TL L2
def s_by : Spec := fun ds m Q => ∃ (b : Int), ds = [lineD [wBook, numS b]] ∧ OkBy b ∧ Q (.int b) m
theorem law_by {X : Ctx} (hi : X.fn 11 = s_integer) (hg : X.gd = gd) (ds : List D) (m : Mem) (Q : KD) (h : s_by ds m Q) : body X 2 c12 ds m Q := by
  obtain ⟨b, rfl, hb, q⟩ := h
  simp only [c12, lineD, hi, hg, g7, g14, g15, body, exs, ex, ev, evs, evB, evO, evT, evI, startD, List.map_cons, List.map_nil, List.length_cons, List.length_nil, Nat.reduceAdd, Nat.reduceSub, List.replicate, List.cons_append, List.nil_append, List.append_nil, List.getElem?_cons_zero, List.getElem?_cons_succ, Option.some.injEq, exists_and_left, exists_eq_left', exists_eq_left, exists_eq, ix_tup, at0, at1, at2, op_add', op_sub', op_mul', op_fdiv', op_mod', op_pow', op_addT, cm_lt, cm_le, cm_gt, cm_ge, cm_eq, cm_ne, cm_eqS, cm_neS, onb, oni, yn_gd, yn_cls, Nat.reduceLT, if_true, if_false, true_and, and_true, List.set_cons_zero, List.set_cons_succ, set_nm, set_tup, set_nil, set_cons, ifb, b1_abs, b1_int, b1_intB, b1_lenT, b1_lenL, b1_tupL, b1_tupT, b2_min, b2_max, seq_tup, seq_lst, seq_sq, gd_sq, ix_sq, len_sq, new_t, new_f, gd_tup, gd_lst, ix_lst, ty_int, ty_tup, ty_str, isi_ii, isi_ib, isi_tt, isi_ss, reduceIte, Bool.true_eq_false, Bool.false_eq_true, Bool.not_true, Bool.not_false,  List.zip_cons_cons, List.zip_nil_right, List.foldl_cons, List.foldl_nil, ne_eq, not_false_eq_true, not_true_eq_false, Bool.not_eq_true', decide_eq_false_iff_not, decide_eq_true_eq, reduceCtorEq, List.cons.injEq, and_self, D.ref.injEq, Cell.obj.injEq, D.int.injEq]
  rw [if_pos (show ((2 : Nat) : Int) = 2 from rfl), if_pos (show wBook = Str.ofString "book" from rfl)]
  refine ⟨b, rfl, hb.small, ?_⟩
  try simp only [body, exs, ex, ev, evs, evB, evO, evT, evI, startD, List.map_cons, List.map_nil, List.length_cons, List.length_nil, Nat.reduceAdd, Nat.reduceSub, List.replicate, List.cons_append, List.nil_append, List.append_nil, List.getElem?_cons_zero, List.getElem?_cons_succ, Option.some.injEq, exists_and_left, exists_eq_left', exists_eq_left, exists_eq, ix_tup, at0, at1, at2, op_add', op_sub', op_mul', op_fdiv', op_mod', op_pow', op_addT, cm_lt, cm_le, cm_gt, cm_ge, cm_eq, cm_ne, cm_eqS, cm_neS, onb, oni, yn_gd, yn_cls, Nat.reduceLT, if_true, if_false, true_and, and_true, List.set_cons_zero, List.set_cons_succ, set_nm, set_tup, set_nil, set_cons, ifb, b1_abs, b1_int, b1_intB, b1_lenT, b1_lenL, b1_tupL, b1_tupT, b2_min, b2_max, seq_tup, seq_lst, seq_sq, gd_sq, ix_sq, len_sq, new_t, new_f, gd_tup, gd_lst, ix_lst, ty_int, ty_tup, ty_str, isi_ii, isi_ib, isi_tt, isi_ss, reduceIte, Bool.true_eq_false, Bool.false_eq_true, Bool.not_true, Bool.not_false,  List.zip_cons_cons, List.zip_nil_right, List.foldl_cons, List.foldl_nil, ne_eq, not_false_eq_true, not_true_eq_false, Bool.not_eq_true', decide_eq_false_iff_not, decide_eq_true_eq, reduceCtorEq, List.cons.injEq, and_self, D.ref.injEq, Cell.obj.injEq, D.int.injEq]
  by_cases h0 : b = 0
  · rw [if_pos h0]; exact ⟨_, SubO.refl, q⟩
  · rw [if_neg h0, in_ints]
    have : b ∈ primes := hb.resolve_left h0
    simp only [this, decide_true, body, exs, ex, ev, evs, evB, evO, evT, evI, startD, List.map_cons, List.map_nil, List.length_cons, List.length_nil, Nat.reduceAdd, Nat.reduceSub, List.replicate, List.cons_append, List.nil_append, List.append_nil, List.getElem?_cons_zero, List.getElem?_cons_succ, Option.some.injEq, exists_and_left, exists_eq_left', exists_eq_left, exists_eq, ix_tup, at0, at1, at2, op_add', op_sub', op_mul', op_fdiv', op_mod', op_pow', op_addT, cm_lt, cm_le, cm_gt, cm_ge, cm_eq, cm_ne, cm_eqS, cm_neS, onb, oni, yn_gd, yn_cls, Nat.reduceLT, if_true, if_false, true_and, and_true, List.set_cons_zero, List.set_cons_succ, set_nm, set_tup, set_nil, set_cons, ifb, b1_abs, b1_int, b1_intB, b1_lenT, b1_lenL, b1_tupL, b1_tupT, b2_min, b2_max, seq_tup, seq_lst, seq_sq, gd_sq, ix_sq, len_sq, new_t, new_f, gd_tup, gd_lst, ix_lst, ty_int, ty_tup, ty_str, isi_ii, isi_ib, isi_tt, isi_ss, reduceIte, Bool.true_eq_false, Bool.false_eq_true, Bool.not_true, Bool.not_false,  List.zip_cons_cons, List.zip_nil_right, List.foldl_cons, List.foldl_nil, ne_eq, not_false_eq_true, not_true_eq_false, Bool.not_eq_true', decide_eq_false_iff_not, decide_eq_true_eq, reduceCtorEq, List.cons.injEq, and_self, D.ref.injEq, Cell.obj.injEq, D.int.injEq]
    exact ⟨_, SubO.refl, q⟩
def s_isname : Spec := fun ds m Q => ∃ (x : Str), ds = [.str x] ∧ Nm x ∧ Q (.bl true) m
theorem law_isname {X : Ctx} (hg : X.gd = gd) (ds : List D) (m : Mem) (Q : KD) (h : s_isname ds m Q) : body X 2 c13 ds m Q := by
  obtain ⟨x, rfl, hx, q⟩ := h
  simp only [c13, hg, g3, g10, body, exs, ex, ev, evs, evB, evO, evT, evI, startD, List.map_cons, List.map_nil, List.length_cons, List.length_nil, Nat.reduceAdd, Nat.reduceSub, List.replicate, List.cons_append, List.nil_append, List.append_nil, List.getElem?_cons_zero, List.getElem?_cons_succ, Option.some.injEq, exists_and_left, exists_eq_left', exists_eq_left, exists_eq, ix_tup, at0, at1, at2, op_add', op_sub', op_mul', op_fdiv', op_mod', op_pow', op_addT, cm_lt, cm_le, cm_gt, cm_ge, cm_eq, cm_ne, cm_eqS, cm_neS, onb, oni, yn_gd, yn_cls, Nat.reduceLT, if_true, if_false, true_and, and_true, List.set_cons_zero, List.set_cons_succ, set_nm, set_tup, set_nil, set_cons, ifb, b1_abs, b1_int, b1_intB, b1_lenT, b1_lenL, b1_tupL, b1_tupT, b2_min, b2_max, seq_tup, seq_lst, seq_sq, gd_sq, ix_sq, len_sq, new_t, new_f, gd_tup, gd_lst, ix_lst, ty_int, ty_tup, ty_str, isi_ii, isi_ib, isi_tt, isi_ss, reduceIte, Bool.true_eq_false, Bool.false_eq_true, Bool.not_true, Bool.not_false,  List.zip_cons_cons, List.zip_nil_right, List.foldl_cons, List.foldl_nil, ne_eq, not_false_eq_true, not_true_eq_false, Bool.not_eq_true', decide_eq_false_iff_not, decide_eq_true_eq, reduceCtorEq, List.cons.injEq, and_self, D.ref.injEq, Cell.obj.injEq, D.int.injEq]
  have h1 := hx.l1
  have h4 := hx.l4
  refine ⟨by omega, ?_⟩
  try simp only [body, exs, ex, ev, evs, evB, evO, evT, evI, startD, List.map_cons, List.map_nil, List.length_cons, List.length_nil, Nat.reduceAdd, Nat.reduceSub, List.replicate, List.cons_append, List.nil_append, List.append_nil, List.getElem?_cons_zero, List.getElem?_cons_succ, Option.some.injEq, exists_and_left, exists_eq_left', exists_eq_left, exists_eq, ix_tup, at0, at1, at2, op_add', op_sub', op_mul', op_fdiv', op_mod', op_pow', op_addT, cm_lt, cm_le, cm_gt, cm_ge, cm_eq, cm_ne, cm_eqS, cm_neS, onb, oni, yn_gd, yn_cls, Nat.reduceLT, if_true, if_false, true_and, and_true, List.set_cons_zero, List.set_cons_succ, set_nm, set_tup, set_nil, set_cons, ifb, b1_abs, b1_int, b1_intB, b1_lenT, b1_lenL, b1_tupL, b1_tupT, b2_min, b2_max, seq_tup, seq_lst, seq_sq, gd_sq, ix_sq, len_sq, new_t, new_f, gd_tup, gd_lst, ix_lst, ty_int, ty_tup, ty_str, isi_ii, isi_ib, isi_tt, isi_ss, reduceIte, Bool.true_eq_false, Bool.false_eq_true, Bool.not_true, Bool.not_false,  List.zip_cons_cons, List.zip_nil_right, List.foldl_cons, List.foldl_nil, ne_eq, not_false_eq_true, not_true_eq_false, Bool.not_eq_true', decide_eq_false_iff_not, decide_eq_true_eq, reduceCtorEq, List.cons.injEq, and_self, D.ref.injEq, Cell.obj.injEq, D.int.injEq]
  rw [if_pos (by omega), if_pos (by omega)]
  refine ⟨_, rfl, by omega, ?_⟩
  refine lc_pureW x.cps.toList (fun c => D.str ⟨#[c]⟩) (fun _ => D.bl true) (fun _ _ _ => trivial) (fun c hc p' acc K hp' kK => ?_) ?_
  · refine ⟨_, rfl, ?_⟩
    have hd := hx.let_ c hc
    have := let_in (c := c) (by omega) (by omega)
    unfold inT at this
    show K (some (.bl (!(Builtin.Str.occurrences (Str.ofString "abcdefghijklmnopqrstuvwxyz") ⟨#[c]⟩ 0 (Str.ofString "abcdefghijklmnopqrstuvwxyz").length 1).isEmpty))) _
    rw [this]
    exact kK
  · refine ⟨x.cps.toList.map fun _ => true, by show some _ = some _; rw [List.map_map]; rfl, ?_⟩
    rw [show (x.cps.toList.map fun _ => true).all id = true from by simp]
    exact ⟨_, SubO.refl, q⟩
theorem is_nonI {i : Int} {m : Mem} {Q : KD} : cmpD .is_ (.int i) .non m Q = Q (.bl false) m := rfl
def s_isworth : Spec := fun ds m Q => ∃ (b i : Int), ds = [.int b, .int i] ∧ OkBy b ∧ OkE b i ∧ Q (.bl true) m
theorem law_isworth {X : Ctx} (hg : X.gd = gd) (ds : List D) (m : Mem) (Q : KD) (h : s_isworth ds m Q) : body X 2 c14 ds m Q := by
  obtain ⟨b, i, rfl, hb, hi, q⟩ := h
  simp only [c14, hg, g13, body, exs, ex, ev, evs, evB, evO, evT, evI, startD, List.map_cons, List.map_nil, List.length_cons, List.length_nil, Nat.reduceAdd, Nat.reduceSub, List.replicate, List.cons_append, List.nil_append, List.append_nil, List.getElem?_cons_zero, List.getElem?_cons_succ, Option.some.injEq, exists_and_left, exists_eq_left', exists_eq_left, exists_eq, ix_tup, at0, at1, at2, op_add', op_sub', op_mul', op_fdiv', op_mod', op_pow', op_addT, cm_lt, cm_le, cm_gt, cm_ge, cm_eq, cm_ne, cm_eqS, cm_neS, onb, oni, yn_gd, yn_cls, Nat.reduceLT, if_true, if_false, true_and, and_true, List.set_cons_zero, List.set_cons_succ, set_nm, set_tup, set_nil, set_cons, ifb, b1_abs, b1_int, b1_intB, b1_lenT, b1_lenL, b1_tupL, b1_tupT, b2_min, b2_max, seq_tup, seq_lst, seq_sq, gd_sq, ix_sq, len_sq, new_t, new_f, gd_tup, gd_lst, ix_lst, ty_int, ty_tup, ty_str, isi_ii, isi_ib, isi_tt, isi_ss, reduceIte, Bool.true_eq_false, Bool.false_eq_true, Bool.not_true, Bool.not_false,  List.zip_cons_cons, List.zip_nil_right, List.foldl_cons, List.foldl_nil, ne_eq, not_false_eq_true, not_true_eq_false, Bool.not_eq_true', decide_eq_false_iff_not, decide_eq_true_eq, reduceCtorEq, List.cons.injEq, and_self, D.ref.injEq, Cell.obj.injEq, D.int.injEq]
  rw [is_nonI, onB_bl, if_neg (by decide)]
  by_cases h0 : b = 0
  · rw [if_pos h0]
    have := hi.le hb
    rw [if_pos (by omega), show decide (i ≤ 1000000000000) = true from decide_eq_true (by omega)]
    exact ⟨_, SubO.refl, q⟩
  · rw [if_neg h0]
    unfold OkE at hi
    rw [if_neg h0] at hi
    rw [if_pos hi.1, show decide (i < b) = true from decide_eq_true hi.2]
    exact ⟨_, SubO.refl, q⟩
end Og.Lk00
end
section
set_option maxHeartbeats 4000000
set_option autoImplicit false
namespace Og.Lk00
open PySem Og TL L2
theorem b1_lenR {p : Addr} {ds : List D} {m : Mem} {Q : KD} (h : m p = some (.lst ds)) (q : Q (.int (ds.length : Nat)) m) : b1D .len (.ref p) m Q := ⟨ds, seq_ref h, q⟩
theorem guard_ref {p : Addr} {ds : List D} {m : Mem} (h : m p = some (.lst ds)) : ∀ s c, m s = none → guard m (.ref p) (put m s c) := fun s c hs => by
  show put m s c p = m p
  rw [put_ne (fun z => by rw [z, hs] at h; cases h)]
theorem ix_tup0 {x y : D} {m : Mem} {Q : KD} : ixD m (.tup [x, y]) (.int 0) Q = Q x m := by
  show ixD m (.tup [x, y]) (.int ((0 : Nat) : Int)) (fun d m' => Q d m') = _
  rw [ix_tup, atI_nat]; simp
def s_takemark : Spec := fun ds m Q => ∃ (b : Int) (a : Addr) (l : List (Str × Int)) (x : Str) (w : Int), ds = [.int b, .ref a, .lst ((markW (x, w)).map D.str)] ∧ m a = some (.lst (l.map markD)) ∧ l.length ≤ 3 ∧ OkBy b ∧ Nm x ∧ OkW b w ∧ x ∉ l.map (·.1) ∧ Q (.bl true) (put m a (.lst ((l ++ [(x, w)]).map markD)))
theorem law_takemark {X : Ctx} (hi : X.fn 11 = s_integer) (hn : X.fn 13 = s_isname) (hw : X.fn 14 = s_isworth) (hg : X.gd = gd) (ds : List D) (m : Mem) (Q : KD) (h : s_takemark ds m Q) : body X 6 c16 ds m Q := by
  obtain ⟨b, a, l, x, w, rfl, hm, hl, hb, hx, hww, hxl, q⟩ := h
  simp only [c16, markW, hi, hn, hw, hg, g11, g16, body, exs, ex, ev, evs, evB, evO, evT, evI, startD, List.map_cons, List.map_nil, List.length_cons, List.length_nil, Nat.reduceAdd, Nat.reduceSub, List.replicate, List.cons_append, List.nil_append, List.append_nil, List.getElem?_cons_zero, List.getElem?_cons_succ, Option.some.injEq, exists_and_left, exists_eq_left', exists_eq_left, exists_eq, ix_tup, at0, at1, at2, op_add', op_sub', op_mul', op_fdiv', op_mod', op_pow', op_addT, cm_lt, cm_le, cm_gt, cm_ge, cm_eq, cm_ne, cm_eqS, cm_neS, onb, oni, yn_gd, yn_cls, Nat.reduceLT, if_true, if_false, true_and, and_true, List.set_cons_zero, List.set_cons_succ, set_nm, set_tup, set_nil, set_cons, ifb, b1_abs, b1_int, b1_intB, b1_lenT, b1_lenL, b1_tupL, b1_tupT, b2_min, b2_max, seq_tup, seq_lst, seq_sq, gd_sq, ix_sq, len_sq, new_t, new_f, gd_tup, gd_lst, ix_lst, ty_int, ty_tup, ty_str, isi_ii, isi_ib, isi_tt, isi_ss, reduceIte, Bool.true_eq_false, Bool.false_eq_true, Bool.not_true, Bool.not_false,  List.zip_cons_cons, List.zip_nil_right, List.foldl_cons, List.foldl_nil, ne_eq, not_false_eq_true, not_true_eq_false, Bool.not_eq_true', decide_eq_false_iff_not, decide_eq_true_eq, reduceCtorEq, List.cons.injEq, and_self, D.ref.injEq, Cell.obj.injEq, D.int.injEq]
  rw [if_neg (fun z => z rfl)]
  refine b1_lenR hm ?_
  rw [List.length_map]
  try simp only [body, exs, ex, ev, evs, evB, evO, evT, evI, startD, List.map_cons, List.map_nil, List.length_cons, List.length_nil, Nat.reduceAdd, Nat.reduceSub, List.replicate, List.cons_append, List.nil_append, List.append_nil, List.getElem?_cons_zero, List.getElem?_cons_succ, Option.some.injEq, exists_and_left, exists_eq_left', exists_eq_left, exists_eq, ix_tup, at0, at1, at2, op_add', op_sub', op_mul', op_fdiv', op_mod', op_pow', op_addT, cm_lt, cm_le, cm_gt, cm_ge, cm_eq, cm_ne, cm_eqS, cm_neS, onb, oni, yn_gd, yn_cls, Nat.reduceLT, if_true, if_false, true_and, and_true, List.set_cons_zero, List.set_cons_succ, set_nm, set_tup, set_nil, set_cons, ifb, b1_abs, b1_int, b1_intB, b1_lenT, b1_lenL, b1_tupL, b1_tupT, b2_min, b2_max, seq_tup, seq_lst, seq_sq, gd_sq, ix_sq, len_sq, new_t, new_f, gd_tup, gd_lst, ix_lst, ty_int, ty_tup, ty_str, isi_ii, isi_ib, isi_tt, isi_ss, reduceIte, Bool.true_eq_false, Bool.false_eq_true, Bool.not_true, Bool.not_false,  List.zip_cons_cons, List.zip_nil_right, List.foldl_cons, List.foldl_nil, ne_eq, not_false_eq_true, not_true_eq_false, Bool.not_eq_true', decide_eq_false_iff_not, decide_eq_true_eq, reduceCtorEq, List.cons.injEq, and_self, D.ref.injEq, Cell.obj.injEq, D.int.injEq]
  rw [if_neg (by omega)]
  refine ⟨w, rfl, hww.2.le hb, x, rfl, hx, ?_⟩
  dsimp only
  rw [onB_bl, if_neg (by decide)]
  refine ⟨_, seq_ref hm, ?_⟩
  refine lc_pureW l markD (fun z => D.str z.1) (guard_ref hm) (fun z hz p' acc K hp' kK => ?_) ?_
  · refine ⟨_, rfl, ?_⟩
    rw [markD, ix_tup0]
    exact kK
  rw [in_strs (l := l.map (·.1)) (by show some _ = some _; rw [List.map_map]; rfl) (fun y z => by cases z), decide_eq_false hxl, onB_bl, if_neg (by decide)]
  refine ⟨b, w, rfl, hb, hww.2, ?_⟩
  dsimp only
  rw [onB_bl, if_neg (by decide)]
  try simp only [body, exs, ex, ev, evs, evB, evO, evT, evI, startD, List.map_cons, List.map_nil, List.length_cons, List.length_nil, Nat.reduceAdd, Nat.reduceSub, List.replicate, List.cons_append, List.nil_append, List.append_nil, List.getElem?_cons_zero, List.getElem?_cons_succ, Option.some.injEq, exists_and_left, exists_eq_left', exists_eq_left, exists_eq, ix_tup, at0, at1, at2, op_add', op_sub', op_mul', op_fdiv', op_mod', op_pow', op_addT, cm_lt, cm_le, cm_gt, cm_ge, cm_eq, cm_ne, cm_eqS, cm_neS, onb, oni, yn_gd, yn_cls, Nat.reduceLT, if_true, if_false, true_and, and_true, List.set_cons_zero, List.set_cons_succ, set_nm, set_tup, set_nil, set_cons, ifb, b1_abs, b1_int, b1_intB, b1_lenT, b1_lenL, b1_tupL, b1_tupT, b2_min, b2_max, seq_tup, seq_lst, seq_sq, gd_sq, ix_sq, len_sq, new_t, new_f, gd_tup, gd_lst, ix_lst, ty_int, ty_tup, ty_str, isi_ii, isi_ib, isi_tt, isi_ss, reduceIte, Bool.true_eq_false, Bool.false_eq_true, Bool.not_true, Bool.not_false,  List.zip_cons_cons, List.zip_nil_right, List.foldl_cons, List.foldl_nil, ne_eq, not_false_eq_true, not_true_eq_false, Bool.not_eq_true', decide_eq_false_iff_not, decide_eq_true_eq, reduceCtorEq, List.cons.injEq, and_self, D.ref.injEq, Cell.obj.injEq, D.int.injEq]
  rw [if_neg hww.1]
  refine ⟨⟨_, lst_ref hm⟩, by decide, _, hm, by rw [List.length_map]; omega, _, SubO.refl, ?_⟩
  rw [List.map_append] at q
  exact q
def s_takekind : Spec := fun ds m Q => ∃ (b : Int) (n : Nat) (a : Addr) (l : List (Str × List (List Int))) (x : Str) (t : List (List Int)), ds = [.int b, .int (n : Int), .ref a, .lst ((kindW (x, t)).map D.str)] ∧ m a = some (.lst (l.map kindD)) ∧ l.length ≤ 2 ∧ OkBy b ∧ n ≤ 4 ∧ Nm x ∧ OkT b n t ∧ x ∉ l.map (·.1) ∧ Q (.bl true) (put m a (.lst ((l ++ [(x, t)]).map kindD)))
theorem law_takekind {X : Ctx} (hi : X.fn 11 = s_integer) (hn : X.fn 13 = s_isname) (hw : X.fn 14 = s_isworth) (hg : X.gd = gd) (ds : List D) (m : Mem) (Q : KD) (h : s_takekind ds m Q) : body X 9 c15 ds m Q := by
  obtain ⟨b, n, a, l, x, t, rfl, hm, hl, hb, hn4, hx, ht, hxl, q⟩ := h
  simp only [c15, kindW, hi, hn, hw, hg, g12, g14, body, exs, ex, ev, evs, evB, evO, evT, evI, startD, List.map_cons, List.map_nil, List.length_cons, List.length_nil, Nat.reduceAdd, Nat.reduceSub, List.replicate, List.cons_append, List.nil_append, List.append_nil, List.getElem?_cons_zero, List.getElem?_cons_succ, Option.some.injEq, exists_and_left, exists_eq_left', exists_eq_left, exists_eq, ix_tup, at0, at1, at2, op_add', op_sub', op_mul', op_fdiv', op_mod', op_pow', op_addT, cm_lt, cm_le, cm_gt, cm_ge, cm_eq, cm_ne, cm_eqS, cm_neS, onb, oni, yn_gd, yn_cls, Nat.reduceLT, if_true, if_false, true_and, and_true, List.set_cons_zero, List.set_cons_succ, set_nm, set_tup, set_nil, set_cons, ifb, b1_abs, b1_int, b1_intB, b1_lenT, b1_lenL, b1_tupL, b1_tupT, b2_min, b2_max, seq_tup, seq_lst, seq_sq, gd_sq, ix_sq, len_sq, new_t, new_f, gd_tup, gd_lst, ix_lst, ty_int, ty_tup, ty_str, isi_ii, isi_ib, isi_tt, isi_ss, reduceIte, Bool.true_eq_false, Bool.false_eq_true, Bool.not_true, Bool.not_false,  List.zip_cons_cons, List.zip_nil_right, List.foldl_cons, List.foldl_nil, ne_eq, not_false_eq_true, not_true_eq_false, Bool.not_eq_true', decide_eq_false_iff_not, decide_eq_true_eq, reduceCtorEq, List.cons.injEq, and_self, D.ref.injEq, Cell.obj.injEq, D.int.injEq]
  have hfl : t.flatten.length = n * n := by
    have : ∀ (t : List (List Int)), (∀ r ∈ t, r.length = n) → t.flatten.length = t.length * n := fun t => by
      induction t with
      | nil => intro _; simp
      | cons r t ih =>
        intro h
        rw [List.flatten_cons, List.length_append, ih fun r hr => h r (List.mem_cons_of_mem _ hr), h r (by simp), List.length_cons, Nat.add_mul]; omega
    rw [this t fun r hr => (ht.2 r hr).1, ht.1]
  have hnn : n * n ≤ 4 * 4 := Nat.mul_le_mul hn4 hn4
  refine ⟨mulOk_small (by omega), ?_⟩
  rw [if_neg (fun z => z (by rw [List.length_map, List.length_map, hfl]; push_cast; omega))]
  refine b1_lenR hm ?_
  rw [List.length_map]
  try simp only [body, exs, ex, ev, evs, evB, evO, evT, evI, startD, List.map_cons, List.map_nil, List.length_cons, List.length_nil, Nat.reduceAdd, Nat.reduceSub, List.replicate, List.cons_append, List.nil_append, List.append_nil, List.getElem?_cons_zero, List.getElem?_cons_succ, Option.some.injEq, exists_and_left, exists_eq_left', exists_eq_left, exists_eq, ix_tup, at0, at1, at2, op_add', op_sub', op_mul', op_fdiv', op_mod', op_pow', op_addT, cm_lt, cm_le, cm_gt, cm_ge, cm_eq, cm_ne, cm_eqS, cm_neS, onb, oni, yn_gd, yn_cls, Nat.reduceLT, if_true, if_false, true_and, and_true, List.set_cons_zero, List.set_cons_succ, set_nm, set_tup, set_nil, set_cons, ifb, b1_abs, b1_int, b1_intB, b1_lenT, b1_lenL, b1_tupL, b1_tupT, b2_min, b2_max, seq_tup, seq_lst, seq_sq, gd_sq, ix_sq, len_sq, new_t, new_f, gd_tup, gd_lst, ix_lst, ty_int, ty_tup, ty_str, isi_ii, isi_ib, isi_tt, isi_ss, reduceIte, Bool.true_eq_false, Bool.false_eq_true, Bool.not_true, Bool.not_false,  List.zip_cons_cons, List.zip_nil_right, List.foldl_cons, List.foldl_nil, ne_eq, not_false_eq_true, not_true_eq_false, Bool.not_eq_true', decide_eq_false_iff_not, decide_eq_true_eq, reduceCtorEq, List.cons.injEq, and_self, D.ref.injEq, Cell.obj.injEq, D.int.injEq]
  rw [if_neg (by omega)]
  show slD false m (.lst _) (some ((2 : Nat) : Int)) none _
  rw [sl_lstF, cut_from (by simp)]
  refine ⟨_, rfl, ?_⟩
  rw [show (D.str wKind :: D.str x :: List.map D.str (List.map numS t.flatten)).drop 2 = t.flatten.map (fun i => D.str (numS i)) from by rw [List.map_map]; rfl]
  have hok : ∀ i ∈ t.flatten, OkE b i := fun i hi => by
    obtain ⟨r, hr, hir⟩ := List.mem_flatten.mp hi
    exact (ht.2 r hr).2 i hir
  refine lc_pureW t.flatten (fun i => D.str (numS i)) D.int (fun _ _ _ => trivial) (fun i hi p' acc K hp' kK => ?_) ?_
  · exact ⟨_, rfl, i, rfl, (hok i hi).le hb, kK⟩
  refine ⟨x, rfl, hx, ?_⟩
  dsimp only
  rw [onB_bl, if_neg (by decide)]
  refine ⟨_, seq_ref hm, ?_⟩
  refine lc_pureW l kindD (fun z => D.str z.1) (guard_ref hm) (fun z hz p' acc K hp' kK => ?_) ?_
  · refine ⟨_, rfl, ?_⟩
    rw [kindD, ix_tup0]
    exact kK
  rw [in_strs (l := l.map (·.1)) (by show some _ = some _; rw [List.map_map]; rfl) (fun y z => by cases z), decide_eq_false hxl, onB_bl, if_neg (by decide)]
  refine ⟨_, rfl, ?_⟩
  refine lc_pureW t.flatten D.int (fun _ => D.bl true) (fun _ _ _ => trivial) (fun i hi p' acc K hp' kK => ?_) ?_
  · exact ⟨_, rfl, _, rfl, b, i, rfl, hb, hok i hi, kK⟩
  refine ⟨t.flatten.map fun _ => true, by show some _ = some _; rw [List.map_map]; rfl, ?_⟩
  rw [show (t.flatten.map fun _ => true).all id = true from by simp]
  dsimp only
  rw [onB_bl, if_neg (by decide)]
  refine ⟨⟨_, lst_ref hm⟩, _, rfl, by decide, _, hm, by rw [List.length_map]; omega, _, SubO.refl, ?_⟩
  rw [List.map_append] at q
  exact q
end Og.Lk00
end
section
set_option maxHeartbeats 4000000
set_option autoImplicit false
namespace Og.Lk00
open PySem Og TL L2
theorem nm_ok {x : Str} (h : Nm x) : PyData.strOk x = true := by
  unfold PyData.strOk
  rw [Array.all_eq_true_iff_forall_mem]
  intro c hc
  have := h.let_ c (Array.mem_toList_iff.mpr hc)
  exact decide_eq_true (by omega)
theorem flats_map {α : Type} {g : α → D} {n : Nat} : ∀ {l : List α}, (∀ x ∈ l, (g x).flat n = true) → flats n (l.map g) = true
  | [], _ => rfl
  | a :: l, h => by
    show ((g a).flat n && flats n (l.map g)) = true
    rw [h a (by simp), flats_map fun x hx => h x (List.mem_cons_of_mem _ hx)]; rfl
theorem eq_nil {m : Mem} {p : Addr} {l : List D} {Q : Bool → Prop} (h : m p = some (.lst l)) (hf : flats 39 l = true) (q : Q (l.isEmpty)) : eqD m (.ref p) (.lst []) Q := by
  refine ⟨?_, rfl, ?_⟩
  · unfold dat; simp only [h]; exact hf
  · unfold dat; simp only [h]
    cases l with
    | nil => exact q
    | cons a l => exact q
theorem eq_nilC {m : Mem} {p : Addr} {l : List D} {Q : KD} (h : m p = some (.lst l)) (hf : flats 39 l = true) (q : Q (.bl l.isEmpty) m) : cmpD .eq (.ref p) (.lst []) m Q := eq_nil (Q := fun b => Q (.bl b) m) h hf q
theorem ne_nilC {m : Mem} {p : Addr} {l : List D} {Q : KD} (h : m p = some (.lst l)) (hf : flats 39 l = true) (q : Q (.bl (!l.isEmpty)) m) : cmpD .ne (.ref p) (.lst []) m Q := eq_nil (Q := fun b => Q (.bl (!b)) m) h hf q
theorem flat_mark {l : List (Str × Int)} (h : ∀ z ∈ l, Nm z.1) : flats 39 (l.map markD) = true := flats_map fun z hz => by
  show (PyData.strOk z.1 && (true && true)) = true
  rw [nm_ok (h z hz)]; rfl
theorem flat_kind {l : List (Str × List (List Int))} (h : ∀ z ∈ l, Nm z.1) : flats 39 (l.map kindD) = true := flats_map fun z hz => by
  have e : flats 37 (z.2.flatten.map D.int) = true := flats_map fun _ _ => rfl
  show (PyData.strOk z.1 && (flats 37 (z.2.flatten.map D.int) && true)) = true
  rw [nm_ok (h z hz), e]; rfl
def s_istaken : Spec := fun ds m Q => ∃ (b : Int) (a c : Addr), OkBy b ∧ a ≠ c ∧
  ((∃ (l : List (Str × Int)) (x : Str) (w : Int), ds = [.int b, .ref a, .ref c, .lst ((markW (x, w)).map D.str)] ∧ m a = some (.lst (l.map markD)) ∧ m c = some (.lst []) ∧ l.length ≤ 3 ∧ Nm x ∧ OkW b w ∧ x ∉ l.map (·.1) ∧ Q (.bl true) (put m a (.lst ((l ++ [(x, w)]).map markD))))
  ∨ (∃ (k : List (Str × Int)) (l : List (Str × List (List Int))) (x : Str) (t : List (List Int)), ds = [.int b, .ref a, .ref c, .lst ((kindW (x, t)).map D.str)] ∧ m a = some (.lst (k.map markD)) ∧ (∀ z ∈ k, Nm z.1) ∧ 1 ≤ k.length ∧ k.length ≤ 4 ∧ m c = some (.lst (l.map kindD)) ∧ l.length ≤ 2 ∧ Nm x ∧ OkT b k.length t ∧ x ∉ l.map (·.1) ∧ Q (.bl true) (put m c (.lst ((l ++ [(x, t)]).map kindD)))))
theorem law_istaken {X : Ctx} (hm : X.fn 16 = s_takemark) (hk : X.fn 15 = s_takekind) (hg : X.gd = gd) (ds : List D) (m : Mem) (Q : KD) (h : s_istaken ds m Q) : body X 4 c17 ds m Q := by
  obtain ⟨b, a, c, hb, hac, ⟨l, x, w, rfl, ha, hc, hl, hx, hw, hxl, q⟩ | ⟨k, l, x, t, rfl, ha, hkn, hk1, hk4, hc, hl, hx, ht, hxl, q⟩⟩ := h
  · simp only [c17, markW, hm, hk, hg, g8, g9, body, exs, ex, ev, evs, evB, evO, evT, evI, startD, List.map_cons, List.map_nil, List.length_cons, List.length_nil, Nat.reduceAdd, Nat.reduceSub, List.replicate, List.cons_append, List.nil_append, List.append_nil, List.getElem?_cons_zero, List.getElem?_cons_succ, Option.some.injEq, exists_and_left, exists_eq_left', exists_eq_left, exists_eq, ix_tup, at0, at1, at2, op_add', op_sub', op_mul', op_fdiv', op_mod', op_pow', op_addT, cm_lt, cm_le, cm_gt, cm_ge, cm_eq, cm_ne, cm_eqS, cm_neS, onb, oni, yn_gd, yn_cls, Nat.reduceLT, if_true, if_false, true_and, and_true, List.set_cons_zero, List.set_cons_succ, set_nm, set_tup, set_nil, set_cons, ifb, b1_abs, b1_int, b1_intB, b1_lenT, b1_lenL, b1_tupL, b1_tupT, b2_min, b2_max, seq_tup, seq_lst, seq_sq, gd_sq, ix_sq, len_sq, new_t, new_f, gd_tup, gd_lst, ix_lst, ty_int, ty_tup, ty_str, isi_ii, isi_ib, isi_tt, isi_ss, reduceIte, Bool.true_eq_false, Bool.false_eq_true, Bool.not_true, Bool.not_false,  List.zip_cons_cons, List.zip_nil_right, List.foldl_cons, List.foldl_nil, ne_eq, not_false_eq_true, not_true_eq_false, Bool.not_eq_true', decide_eq_false_iff_not, decide_eq_true_eq, reduceCtorEq, List.cons.injEq, and_self, D.ref.injEq, Cell.obj.injEq, D.int.injEq]
    rw [if_pos (show wMark = Str.ofString "mark" from rfl)]
    refine ⟨by decide, eq_nilC hc rfl ?_⟩
    rw [show ([] : List D).isEmpty = true from rfl, onB_bl, if_pos rfl]
    exact ⟨b, a, l, x, w, rfl, ha, hl, hb, hx, hw, hxl, _, SubO.refl, q⟩
  · simp only [c17, kindW, hm, hk, hg, g8, g9, body, exs, ex, ev, evs, evB, evO, evT, evI, startD, List.map_cons, List.map_nil, List.length_cons, List.length_nil, Nat.reduceAdd, Nat.reduceSub, List.replicate, List.cons_append, List.nil_append, List.append_nil, List.getElem?_cons_zero, List.getElem?_cons_succ, Option.some.injEq, exists_and_left, exists_eq_left', exists_eq_left, exists_eq, ix_tup, at0, at1, at2, op_add', op_sub', op_mul', op_fdiv', op_mod', op_pow', op_addT, cm_lt, cm_le, cm_gt, cm_ge, cm_eq, cm_ne, cm_eqS, cm_neS, onb, oni, yn_gd, yn_cls, Nat.reduceLT, if_true, if_false, true_and, and_true, List.set_cons_zero, List.set_cons_succ, set_nm, set_tup, set_nil, set_cons, ifb, b1_abs, b1_int, b1_intB, b1_lenT, b1_lenL, b1_tupL, b1_tupT, b2_min, b2_max, seq_tup, seq_lst, seq_sq, gd_sq, ix_sq, len_sq, new_t, new_f, gd_tup, gd_lst, ix_lst, ty_int, ty_tup, ty_str, isi_ii, isi_ib, isi_tt, isi_ss, reduceIte, Bool.true_eq_false, Bool.false_eq_true, Bool.not_true, Bool.not_false,  List.zip_cons_cons, List.zip_nil_right, List.foldl_cons, List.foldl_nil, ne_eq, not_false_eq_true, not_true_eq_false, Bool.not_eq_true', decide_eq_false_iff_not, decide_eq_true_eq, reduceCtorEq, List.cons.injEq, and_self, D.ref.injEq, Cell.obj.injEq, D.int.injEq]
    rw [if_neg (show ¬ (wKind = Str.ofString "mark") from by decide), if_pos (show wKind = Str.ofString "kind" from rfl)]
    refine ⟨by decide, ne_nilC ha (flat_mark hkn) ?_⟩
    have e : (k.map markD).isEmpty = false := by cases k with
      | nil => simp at hk1
      | cons a l => rfl
    rw [e]
    rw [onB_bl, if_pos (show (!false) = true from rfl)]
    refine b1_lenR ha ?_
    rw [List.length_map]
    exact ⟨b, k.length, c, l, x, t, rfl, hc, hl, hb, hk4, hx, ht, hxl, _, SubO.refl, q⟩
end Og.Lk00
end
section
set_option maxHeartbeats 4000000
set_option autoImplicit false
namespace Og.Lk00
open PySem Og TL L2
theorem enum_zip {α : Type} {f : α → D} : ∀ {l : List α} {k : Nat}, enumD k (l.map f) = (l.zipIdx k).map fun z => D.tup [.int ((z.2 : Nat) : Int), f z.1]
  | [], _ => rfl
  | a :: l, k => by
    simp only [List.map_cons, enumD, List.zipIdx_cons, enum_zip]
theorem zip_next {α β : Type} {as : List α} {bs : List β} {i : Nat} (hl : bs.length = as.length) (hn : as.Nodup) (hi : i < (as.zip bs).length) : (as.zip bs)[i].1 ∉ ((as.zip bs).take i).map (·.1) := by
  have e : (as.zip bs).map (·.1) = as := List.map_fst_zip (by omega)
  have hi' : i < as.length := by rw [List.length_zip] at hi; omega
  have e1 : (as.zip bs)[i].1 = as[i] := by rw [List.getElem_zip]
  have e2 : ((as.zip bs).take i).map (·.1) = as.take i := by rw [List.map_take, e]
  rw [e1, e2]
  exact nodup_take_next hn hi'
def marksP (b : Bk) : List (Str × Int) := b.marks.zip b.wts
def kindsP (b : Bk) : List (Str × List (List Int)) := b.kinds.zip b.tabs
def s_read : Spec := fun ds m Q => ∃ (b : Bk) (n k : Nat), ds = [.str (textB b)] ∧ BkOk b n k ∧ NoObj m ∧ ∀ M, Kx m M → Q (.tup [.int b.by_, .lst ((marksP b).map markD), .lst ((kindsP b).map kindD)]) M
theorem law_read {X : Ctx} (hl : X.fn 10 = s_lines) (hb : X.fn 12 = s_by) (ht : X.fn 17 = s_istaken) (ds : List D) (m : Mem) (Q : KD) (h : s_read ds m Q) : body X 7 c18 ds m Q := by
  obtain ⟨b, n, k, rfl, hok, no, q⟩ := h
  simp only [c18, hl, hb, ht, body, exs, ex, ev, evs, evB, evO, evT, evI, startD, List.map_cons, List.map_nil, List.length_cons, List.length_nil, Nat.reduceAdd, Nat.reduceSub, List.replicate, List.cons_append, List.nil_append, List.append_nil, List.getElem?_cons_zero, List.getElem?_cons_succ, Option.some.injEq, exists_and_left, exists_eq_left', exists_eq_left, exists_eq, ix_tup, at0, at1, at2, op_add', op_sub', op_mul', op_fdiv', op_mod', op_pow', op_addT, cm_lt, cm_le, cm_gt, cm_ge, cm_eq, cm_ne, cm_eqS, cm_neS, onb, oni, yn_gd, yn_cls, Nat.reduceLT, if_true, if_false, true_and, and_true, List.set_cons_zero, List.set_cons_succ, set_nm, set_tup, set_nil, set_cons, ifb, b1_abs, b1_int, b1_intB, b1_lenT, b1_lenL, b1_tupL, b1_tupT, b2_min, b2_max, seq_tup, seq_lst, seq_sq, gd_sq, ix_sq, len_sq, new_t, new_f, gd_tup, gd_lst, ix_lst, ty_int, ty_tup, ty_str, isi_ii, isi_ib, isi_tt, isi_ss, reduceIte, Bool.true_eq_false, Bool.false_eq_true, Bool.not_true, Bool.not_false,  List.zip_cons_cons, List.zip_nil_right, List.foldl_cons, List.foldl_nil, ne_eq, not_false_eq_true, not_true_eq_false, Bool.not_eq_true', decide_eq_false_iff_not, decide_eq_true_eq, reduceCtorEq, List.cons.injEq, and_self, D.ref.injEq, Cell.obj.injEq, D.int.injEq]
  refine ⟨b, n, k, rfl, hok, ?_⟩
  try simp only [body, exs, ex, ev, evs, evB, evO, evT, evI, startD, List.map_cons, List.map_nil, List.length_cons, List.length_nil, Nat.reduceAdd, Nat.reduceSub, List.replicate, List.cons_append, List.nil_append, List.append_nil, List.getElem?_cons_zero, List.getElem?_cons_succ, Option.some.injEq, exists_and_left, exists_eq_left', exists_eq_left, exists_eq, ix_tup, at0, at1, at2, op_add', op_sub', op_mul', op_fdiv', op_mod', op_pow', op_addT, cm_lt, cm_le, cm_gt, cm_ge, cm_eq, cm_ne, cm_eqS, cm_neS, onb, oni, yn_gd, yn_cls, Nat.reduceLT, if_true, if_false, true_and, and_true, List.set_cons_zero, List.set_cons_succ, set_nm, set_tup, set_nil, set_cons, ifb, b1_abs, b1_int, b1_intB, b1_lenT, b1_lenL, b1_tupL, b1_tupT, b2_min, b2_max, seq_tup, seq_lst, seq_sq, gd_sq, ix_sq, len_sq, new_t, new_f, gd_tup, gd_lst, ix_lst, ty_int, ty_tup, ty_str, isi_ii, isi_ib, isi_tt, isi_ss, reduceIte, Bool.true_eq_false, Bool.false_eq_true, Bool.not_true, Bool.not_false,  List.zip_cons_cons, List.zip_nil_right, List.foldl_cons, List.foldl_nil, ne_eq, not_false_eq_true, not_true_eq_false, Bool.not_eq_true', decide_eq_false_iff_not, decide_eq_true_eq, reduceCtorEq, List.cons.injEq, and_self, D.ref.injEq, Cell.obj.injEq, D.int.injEq]
  have hml : (marksP b).length = n := by unfold marksP; rw [List.length_zip, hok.m.len, hok.wl]; omega
  have hkl : (kindsP b).length = k := by unfold kindsP; rw [List.length_zip, hok.kn.len, hok.tl]; omega
  have hn1 := hok.n1
  have hn4 := hok.n4
  have hk1 := hok.k1
  have hk3 := hok.k3
  have hmn : ∀ z ∈ marksP b, Nm z.1 := fun z hz => hok.m.nm _ (List.of_mem_zip (show (z.1, z.2) ∈ _ from hz)).1
  have hkn : ∀ z ∈ kindsP b, Nm z.1 := fun z hz => hok.kn.nm _ (List.of_mem_zip (show (z.1, z.2) ∈ _ from hz)).1
  refine ⟨_, (show L2.atI (List.map lineD (wordsB b)) ((0 : Nat) : Int) = some _ from by rw [atI_nat]; rfl), b.by_, rfl, hok.by_ok, by decide, fun a ha => ⟨by decide, fun c hc => ?_⟩⟩
  rw [is_nonI, onB_bl, if_neg (by decide)]
  have k0 := (Kx.refl no).new (c := .lst []) ha oL
  have k1 := k0.new (c := .lst []) hc oL
  have hac : a ≠ c := fun z => by rw [← z, put_same] at hc; cases hc
  have hc0 : m c = none := k0.none hc
  have ea : put (put m a (.lst [])) c (.lst []) a = some (.lst []) := by rw [put_ne hac, put_same]
  have ec : put (put m a (.lst [])) c (.lst []) c = some (.lst []) := put_same
  generalize put (put m a (.lst [])) c (.lst []) = M0 at k1 ea ec
  show slD false M0 (.lst _) (some ((1 : Nat) : Int)) none _
  rw [sl_lstF, cut_from (by rw [List.length_map]; simp [wordsB])]
  refine ⟨_, rfl, ?_⟩
  rw [← List.map_drop, show (wordsB b).drop 1 = (marksP b).map markW ++ (kindsP b).map kindW from rfl, enum_zip]
  refine for_inv _ (fun i r M => ∃ o5 o6, r = [some (.str (textB b)), some (.lst ((wordsB b).map lineD)), some (.int b.by_), some (.ref a), some (.ref c), o5, o6] ∧ M a = some (.lst (((marksP b).take i).map markD)) ∧ M c = some (.lst (((kindsP b).take (i - n)).map kindD)) ∧ Kx m M) (((marksP b).map markW ++ (kindsP b).map kindW).zipIdx 0) 0 _ _ ⟨none, none, rfl, by simpa using ea, by simpa using ec, k1⟩ ?_ ?_
  · rintro i hi r M N ⟨o5, o6, rfl, hMa, hMc, hk⟩ kN
    simp only [Nat.zero_add] at hMa hMc kN
    refine ⟨trivial, ?_⟩
    simp only [List.length_zipIdx, List.length_append, List.length_map, hml, hkl] at hi
    simp only [body, exs, ex, ev, evs, evB, evO, evT, evI, startD, List.map_cons, List.map_nil, List.length_cons, List.length_nil, Nat.reduceAdd, Nat.reduceSub, List.replicate, List.cons_append, List.nil_append, List.append_nil, List.getElem?_cons_zero, List.getElem?_cons_succ, Option.some.injEq, exists_and_left, exists_eq_left', exists_eq_left, exists_eq, ix_tup, at0, at1, at2, op_add', op_sub', op_mul', op_fdiv', op_mod', op_pow', op_addT, cm_lt, cm_le, cm_gt, cm_ge, cm_eq, cm_ne, cm_eqS, cm_neS, onb, oni, yn_gd, yn_cls, Nat.reduceLT, if_true, if_false, true_and, and_true, List.set_cons_zero, List.set_cons_succ, set_nm, set_tup, set_nil, set_cons, ifb, b1_abs, b1_int, b1_intB, b1_lenT, b1_lenL, b1_tupL, b1_tupT, b2_min, b2_max, seq_tup, seq_lst, seq_sq, gd_sq, ix_sq, len_sq, new_t, new_f, gd_tup, gd_lst, ix_lst, ty_int, ty_tup, ty_str, isi_ii, isi_ib, isi_tt, isi_ss, reduceIte, Bool.true_eq_false, Bool.false_eq_true, Bool.not_true, Bool.not_false,  List.zip_cons_cons, List.zip_nil_right, List.foldl_cons, List.foldl_nil, ne_eq, not_false_eq_true, not_true_eq_false, Bool.not_eq_true', decide_eq_false_iff_not, decide_eq_true_eq, reduceCtorEq, List.cons.injEq, and_self, D.ref.injEq, Cell.obj.injEq, D.int.injEq, List.getElem_zipIdx]
    by_cases hin : i < n
    · have hi' : i < (marksP b).length := by omega
      have e : ((marksP b).map markW ++ (kindsP b).map kindW)[i]'(by simp; omega) = markW (marksP b)[i] := by
        rw [List.getElem_append_left (by simpa using hi'), List.getElem_map]
      have hzi := List.getElem_mem hi'
      have hz2 := List.of_mem_zip (show ((marksP b)[i].1, (marksP b)[i].2) ∈ _ from hzi)
      refine ⟨b.by_, a, c, hok.by_ok, hac, .inl ⟨(marksP b).take i, (marksP b)[i].1, (marksP b)[i].2, by rw [e]; rfl, hMa, ?_, by rw [List.length_take]; omega, hmn _ hzi, hok.w _ hz2.2, zip_next (by rw [hok.wl, hok.m.len]) hok.m.nd hi', ?_⟩⟩
      · rw [hMc, show i - n = 0 from by omega]; rfl
      dsimp only
      rw [onB_bl, if_neg (by decide)]
      refine kN _ _ ⟨_, _, rfl, ?_, ?_, hk.set ha oL⟩
      · rw [put_same, List.take_succ_eq_append_getElem hi']
      · rw [put_ne hac.symm, hMc, show i - n = 0 from by omega, show i + 1 - n = 0 from by omega]
    · have hj : i - n < (kindsP b).length := by omega
      have e : ((marksP b).map markW ++ (kindsP b).map kindW)[i]'(by simp; omega) = kindW (kindsP b)[i - n] := by
        rw [List.getElem_append_right (by simp; omega), List.getElem_map]
        simp only [List.length_map, hml]
      have hzi := List.getElem_mem hj
      have hz2 := List.of_mem_zip (show ((kindsP b)[i - n].1, (kindsP b)[i - n].2) ∈ _ from hzi)
      have hta : (marksP b).take i = marksP b := List.take_of_length_le (by omega)
      rw [hta] at hMa
      refine ⟨b.by_, a, c, hok.by_ok, hac, .inr ⟨marksP b, (kindsP b).take (i - n), (kindsP b)[i - n].1, (kindsP b)[i - n].2, by rw [e]; rfl, hMa, hmn, by omega, by omega, hMc, by rw [List.length_take]; omega, hkn _ hzi, by rw [hml]; exact hok.tab _ hz2.2, zip_next (by rw [hok.tl, hok.kn.len]) hok.kn.nd hj, ?_⟩⟩
      dsimp only
      rw [onB_bl, if_neg (by decide)]
      refine kN _ _ ⟨_, _, rfl, ?_, ?_, hk.set hc0 oL⟩
      · rw [put_ne hac, hMa, List.take_of_length_le (by omega)]
      · rw [put_same, show i + 1 - n = (i - n) + 1 from by omega, List.take_succ_eq_append_getElem hj]
  · rintro r M ⟨o5, o6, rfl, hMa, hMc, hk⟩
    refine ⟨trivial, ?_⟩
    rw [List.length_zipIdx, List.length_append, List.length_map, List.length_map, hml, hkl] at hMa hMc
    rw [List.take_of_length_le (by omega)] at hMa hMc
    try simp only [body, exs, ex, ev, evs, evB, evO, evT, evI, startD, List.map_cons, List.map_nil, List.length_cons, List.length_nil, Nat.reduceAdd, Nat.reduceSub, List.replicate, List.cons_append, List.nil_append, List.append_nil, List.getElem?_cons_zero, List.getElem?_cons_succ, Option.some.injEq, exists_and_left, exists_eq_left', exists_eq_left, exists_eq, ix_tup, at0, at1, at2, op_add', op_sub', op_mul', op_fdiv', op_mod', op_pow', op_addT, cm_lt, cm_le, cm_gt, cm_ge, cm_eq, cm_ne, cm_eqS, cm_neS, onb, oni, yn_gd, yn_cls, Nat.reduceLT, if_true, if_false, true_and, and_true, List.set_cons_zero, List.set_cons_succ, set_nm, set_tup, set_nil, set_cons, ifb, b1_abs, b1_int, b1_intB, b1_lenT, b1_lenL, b1_tupL, b1_tupT, b2_min, b2_max, seq_tup, seq_lst, seq_sq, gd_sq, ix_sq, len_sq, new_t, new_f, gd_tup, gd_lst, ix_lst, ty_int, ty_tup, ty_str, isi_ii, isi_ib, isi_tt, isi_ss, reduceIte, Bool.true_eq_false, Bool.false_eq_true, Bool.not_true, Bool.not_false,  List.zip_cons_cons, List.zip_nil_right, List.foldl_cons, List.foldl_nil, ne_eq, not_false_eq_true, not_true_eq_false, Bool.not_eq_true', decide_eq_false_iff_not, decide_eq_true_eq, reduceCtorEq, List.cons.injEq, and_self, D.ref.injEq, Cell.obj.injEq, D.int.injEq]
    refine ⟨by decide, eq_nilC hMc (flat_kind hkn) ?_⟩
    have ek : ((kindsP b).map kindD).isEmpty = false := by
      cases hh : kindsP b with
      | nil => rw [hh] at hkl; simp at hkl; omega
      | cons x l => rfl
    rw [ek, onB_bl, if_neg (by decide)]
    refine ⟨_, hMa, _, rfl, _, by rw [del_ne hac.symm]; exact hMc, _, rfl, by decide, _, SubO.refl, ?_⟩
    exact q _ ((hk.del ha).del hc0)
end Og.Lk00
end
section
set_option maxHeartbeats 4000000
set_option autoImplicit false
/-! Og: books as objects. -/
namespace Og
open PySem TL L2
theorem fk0 : putKs ([] : List Str) (Str.ofString "own_text") = [(Str.ofString "own_text")] := put_newK (by decide)
theorem fd0 {d : D} : putDs ([] : List Str) ([] : List D) (Str.ofString "own_text") d = [d] := put_newD (by decide)
theorem fk1 : putKs ([(Str.ofString "own_text")] : List Str) (Str.ofString "own_by") = [(Str.ofString "own_text"), (Str.ofString "own_by")] := put_newK (by decide)
theorem fd1 {v0 : D} {d : D} : putDs ([(Str.ofString "own_text")] : List Str) ([v0] : List D) (Str.ofString "own_by") d = [v0, d] := put_newD (by decide)
theorem fk2 : putKs ([(Str.ofString "own_text"), (Str.ofString "own_by")] : List Str) (Str.ofString "own_marks") = [(Str.ofString "own_text"), (Str.ofString "own_by"), (Str.ofString "own_marks")] := put_newK (by decide)
theorem fd2 {v0 v1 : D} {d : D} : putDs ([(Str.ofString "own_text"), (Str.ofString "own_by")] : List Str) ([v0, v1] : List D) (Str.ofString "own_marks") d = [v0, v1, d] := put_newD (by decide)
theorem fk3 : putKs ([(Str.ofString "own_text"), (Str.ofString "own_by"), (Str.ofString "own_marks")] : List Str) (Str.ofString "own_kinds") = [(Str.ofString "own_text"), (Str.ofString "own_by"), (Str.ofString "own_marks"), (Str.ofString "own_kinds")] := put_newK (by decide)
theorem fd3 {v0 v1 v2 : D} {d : D} : putDs ([(Str.ofString "own_text"), (Str.ofString "own_by"), (Str.ofString "own_marks")] : List Str) ([v0, v1, v2] : List D) (Str.ofString "own_kinds") d = [v0, v1, v2, d] := put_newD (by decide)
theorem fk4 : putKs ([(Str.ofString "own_text"), (Str.ofString "own_by"), (Str.ofString "own_marks"), (Str.ofString "own_kinds")] : List Str) (Str.ofString "own_weights") = [(Str.ofString "own_text"), (Str.ofString "own_by"), (Str.ofString "own_marks"), (Str.ofString "own_kinds"), (Str.ofString "own_weights")] := put_newK (by decide)
theorem fd4 {v0 v1 v2 v3 : D} {d : D} : putDs ([(Str.ofString "own_text"), (Str.ofString "own_by"), (Str.ofString "own_marks"), (Str.ofString "own_kinds")] : List Str) ([v0, v1, v2, v3] : List D) (Str.ofString "own_weights") d = [v0, v1, v2, v3, d] := put_newD (by decide)
theorem fk5 : putKs ([(Str.ofString "own_text"), (Str.ofString "own_by"), (Str.ofString "own_marks"), (Str.ofString "own_kinds"), (Str.ofString "own_weights")] : List Str) (Str.ofString "own_tables") = [(Str.ofString "own_text"), (Str.ofString "own_by"), (Str.ofString "own_marks"), (Str.ofString "own_kinds"), (Str.ofString "own_weights"), (Str.ofString "own_tables")] := put_newK (by decide)
theorem fd5 {v0 v1 v2 v3 v4 : D} {d : D} : putDs ([(Str.ofString "own_text"), (Str.ofString "own_by"), (Str.ofString "own_marks"), (Str.ofString "own_kinds"), (Str.ofString "own_weights")] : List Str) ([v0, v1, v2, v3, v4] : List D) (Str.ofString "own_tables") d = [v0, v1, v2, v3, v4, d] := put_newD (by decide)
def obN : List Str := [(Str.ofString "own_text"), (Str.ofString "own_by"), (Str.ofString "own_marks"), (Str.ofString "own_kinds"), (Str.ofString "own_weights"), (Str.ofString "own_tables")]
/-- all cells stay but the one at p -/
structure Ix (m M : Mem) (p : Addr) : Prop where
  keep : ∀ a c, a ≠ p → m a = some c → M a = some c
  no : NoObj M
theorem Ix.put {m M : Mem} {p : Addr} {c : Cell} (h : Ix m M p) (hc : ¬c.isObj) : Ix m (put M p c) p := ⟨fun a c' ne e => by rw [put_ne ne]; exact h.keep a c' ne e, h.no.put hc⟩
theorem Ix.kx {m M M' : Mem} {p : Addr} (h : Ix m M p) (k : Kx M M') : Ix m M' p := ⟨fun a c' ne e => k.keep _ _ (h.keep a c' ne e), k.no⟩
theorem Ix.set {m M : Mem} {p s : Addr} {c : Cell} (h : Ix m M p) (hs : m s = none) (hc : ¬c.isObj) : Ix m (Og.put M s c) p := ⟨fun a c' ne e => by
  have : a ≠ s := fun z => by rw [z, hs] at e; cases e
  rw [put_ne this]; exact h.keep a c' ne e, h.no.put hc⟩
theorem Ix.none {m M : Mem} {p s : Addr} (h : Ix m M p) (hs : M s = none) (hn : s ≠ p) : m s = none := by
  cases e : m s with
  | none => rfl
  | some c => rw [h.keep s c hn e] at hs; cases hs
theorem lci_pure {ι : Type} {G : Mem → Prop} {T : D → Mem → (Option D → Mem → Prop) → Prop} {m0 : Mem} {p : Addr} {K : List D → Mem → Prop} (g h : ι → D) (hG : ∀ c, G (put m0 p c)) : ∀ (l : List ι) (acc : List D), acc.length + l.length ≤ 1000000 →
    (∀ i ∈ l, ∀ acc K, K (some (h i)) (put m0 p (.lst acc)) → T (g i) (put m0 p (.lst acc)) K) → K (acc ++ l.map h) (put m0 p (.lst (acc ++ l.map h))) → lcI G T p (l.map g) acc (put m0 p (.lst acc)) K
  | [], acc, _, _, q => ⟨hG _, put_same, by simpa using q⟩
  | a :: l, acc, hl, ht, q => by
    simp only [List.map_cons, lcI]
    refine ⟨hG _, ht a (by simp) acc _ ⟨put_same, ?_⟩⟩
    simp only [List.length_cons] at hl
    refine ⟨by omega, ?_⟩
    rw [put_put]
    refine lci_pure g h hG l (acc ++ [h a]) (by simp; omega) (fun i hi => ht i (List.mem_cons_of_mem _ hi)) ?_
    simpa using q
theorem lco_pure {ι : Type} {G : Mem → Prop} {T : Addr → D → List D → Mem → (List D → Mem → Prop) → Prop} {m0 : Mem} {Q : KD} (l : List ι) (g : ι → D) (h : ι → List D) (hG : ∀ p c, m0 p = none → G (put m0 p c))
    (ht : ∀ i ∈ l, ∀ p acc K, m0 p = none → acc.length ≤ ((l.map h).flatten).length → K (acc ++ h i) (put m0 p (.lst (acc ++ h i))) → T p (g i) acc (put m0 p (.lst acc)) K) (hQ : Q (.lst (l.map h).flatten) m0) : ∀ p, m0 p = none → lcO G (T p) p (l.map g) [] (put m0 p (.lst [])) (lcEnd false p Q) := by
  intro p hp
  have go : ∀ (r : List ι) (acc : List D), (∀ i ∈ r, i ∈ l) → acc ++ (r.map h).flatten = (l.map h).flatten → lcO G (T p) p (r.map g) acc (put m0 p (.lst acc)) (lcEnd false p Q) := by
    intro r
    induction r with
    | nil =>
      intro acc _ e
      simp only [List.map_nil, List.flatten_nil, List.append_nil] at e
      refine ⟨hG p _ hp, put_same, ?_⟩
      show Q (.lst acc) (del (put m0 p (.lst acc)) p)
      rw [del_put hp, e]
      exact hQ
    | cons a r ih =>
      intro acc hm e
      refine ⟨hG p _ hp, ht a (hm a (by simp)) p acc _ hp ?_ ?_⟩
      · rw [← e]; simp
      · exact ih (acc ++ h a) (fun i hi => hm i (List.mem_cons_of_mem _ hi)) (by rw [← e]; simp)
  exact go l [] (fun _ h => h) (by simp)
def pairsK (l : List Str) : List (List Key) := (l.map fun x => l.map fun y => [(.inr x : Key), .inr y]).flatten
theorem pairsK_nd {l : List Str} (h : l.Nodup) : (pairsK l).Nodup := by
  unfold pairsK List.Nodup
  rw [List.pairwise_flatten]
  refine ⟨fun a ha => ?_, ?_⟩
  · obtain ⟨x, _, rfl⟩ := List.mem_map.mp ha
    exact List.Pairwise.map _ (fun a b hab e => hab (by simpa using e)) h
  · refine List.Pairwise.map _ (fun a b hab x hx y hy e => ?_) h
    obtain ⟨u, _, rfl⟩ := List.mem_map.mp hx
    obtain ⟨v, _, rfl⟩ := List.mem_map.mp hy
    simp at e
    exact hab e.1
theorem flat_len {α : Type} {n : Nat} : ∀ {t : List (List α)}, (∀ r ∈ t, r.length = n) → t.flatten.length = t.length * n
  | [], _ => by simp
  | r :: t, h => by
    rw [List.flatten_cons, List.length_append, flat_len fun r hr => h r (List.mem_cons_of_mem _ hr), h r (by simp), List.length_cons, Nat.add_mul]; omega
theorem pairsK_len {l : List Str} : (pairsK l).length = l.length * l.length := by
  unfold pairsK
  rw [flat_len (n := l.length) fun r hr => by obtain ⟨x, _, rfl⟩ := List.mem_map.mp hr; simp, List.length_map]
theorem pairsK_lv {l : List Str} : (l.map fun x => l.map fun y => D.lv [.str x, .str y]).flatten = (pairsK l).map fun k => D.lv (k.map keyD) := by
  unfold pairsK
  rw [List.map_flatten, List.map_map]
  congr 1
  refine List.map_congr_left fun x _ => ?_
  show _ = List.map _ (List.map _ _)
  rw [List.map_map]; rfl
def ptD (l : List Str) (t : List (List Int)) : D := .dT (pairsK l) (t.flatten.map D.int)
theorem flat_at {α : Type} {n : Nat} : ∀ {t : List (List α)} {i j : Nat} {r : List α} {x : α}, (∀ r ∈ t, r.length = n) → t[i]? = some r → r[j]? = some x → t.flatten[i * n + j]? = some x
  | [], _, _, _, _, _, h, _ => by simp at h
  | a :: t, 0, j, r, x, hl, h, hx => by
    simp at h; subst h
    have hj : j < a.length := by
      by_cases z : j < a.length
      · exact z
      · rw [List.getElem?_eq_none (by omega)] at hx; cases hx
    rw [List.flatten_cons, Nat.zero_mul, Nat.zero_add, List.getElem?_append_left hj, hx]
  | a :: t, i + 1, j, r, x, hl, h, hx => by
    have ha := hl a (by simp)
    have e : (i + 1) * n + j = a.length + (i * n + j) := by rw [Nat.add_mul, ha]; omega
    rw [List.flatten_cons, e, List.getElem?_append_right (by omega), Nat.add_sub_cancel_left]
    exact flat_at (fun r hr => hl r (List.mem_cons_of_mem _ hr)) (by simpa using h) hx
theorem pairsK_at {l : List Str} {i j : Nat} {x y : Str} (hi : l[i]? = some x) (hj : l[j]? = some y) : (pairsK l)[i * l.length + j]? = some [.inr x, .inr y] := by
  unfold pairsK
  refine flat_at (r := l.map fun y => [.inr x, .inr y]) (fun r hr => by obtain ⟨x, _, rfl⟩ := List.mem_map.mp hr; simp) ?_ ?_
  · rw [List.getElem?_map, hi]; rfl
  · rw [List.getElem?_map, hj]; rfl
end Og
end
section
set_option maxHeartbeats 4000000
set_option autoImplicit false
namespace Og.Lk00
open PySem Og TL L2
def v6 (b : Bk) (t : Addr) : List D := [.str (textB b), .int b.by_, strsD b.marks, strsD b.kinds, .dK (b.marks.map Sum.inr) (b.wts.map D.int), .ref t]
def s_init (C : Addr) : Spec := fun ds m Q => ∃ (b : Bk) (n k : Nat) (p : Addr), ds = [.ref p, .str (textB b)] ∧ BkOk b n k ∧ NoObj m ∧ m p = some (.ins C [] []) ∧ ∀ (t : Addr) (M : Mem), p ≠ t → m t = none → Ix m M p → M p = some (.ins C obN (v6 b t)) → M t = some (.dK (b.kinds.map Sum.inr) (b.tabs.map (ptD b.marks))) → Q .non M
theorem marks_fst {b : Bk} {n k : Nat} (h : BkOk b n k) : (marksP b).map (fun z => D.str z.1) = b.marks.map D.str := by
  have e : (b.marks.zip b.wts).map (·.1) = b.marks := List.map_fst_zip (by rw [h.m.len, h.wl]; exact Nat.le_refl _)
  have : ((b.marks.zip b.wts).map (·.1)).map D.str = b.marks.map D.str := by rw [e]
  rw [List.map_map] at this
  exact this
theorem kinds_fst {b : Bk} {n k : Nat} (h : BkOk b n k) : (kindsP b).map (fun z => D.str z.1) = b.kinds.map D.str := by
  have e : (b.kinds.zip b.tabs).map (·.1) = b.kinds := List.map_fst_zip (by rw [h.kn.len, h.tl]; exact Nat.le_refl _)
  have : ((b.kinds.zip b.tabs).map (·.1)).map D.str = b.kinds.map D.str := by rw [e]
  rw [List.map_map] at this
  exact this
theorem pairs_zip {as : List Str} : ∀ {bs : List Int}, as.length = bs.length → (as.zip bs).map markD = pairsD (as.map Sum.inr) (bs.map D.int) := by
  induction as with
  | nil => intro bs h; cases bs with
    | nil => rfl
    | cons b bs => simp at h
  | cons a as ih => intro bs h; cases bs with
    | nil => simp at h
    | cons b bs =>
      simp only [List.zip_cons_cons, List.map_cons, pairsD]
      rw [ih (by simpa using h)]; rfl
theorem pairs_marks {b : Bk} {n k : Nat} (h : BkOk b n k) : (marksP b).map markD = pairsD (b.marks.map Sum.inr) (b.wts.map D.int) := pairs_zip (by rw [h.m.len, h.wl])
def n5 : List Str := [Str.ofString "own_text", Str.ofString "own_by", Str.ofString "own_marks", Str.ofString "own_kinds", Str.ofString "own_weights"]
def v5 (b : Bk) : List D := [.str (textB b), .int b.by_, strsD b.marks, strsD b.kinds, .dK (b.marks.map Sum.inr) (b.wts.map D.int)]
abbrev initR (p : Addr) (b : Bk) (o5 o6 o7 o8 o9 o10 : Option D) : Rho := [some (.ref p), some (.str (textB b)), some (.int b.by_), some (.lst ((marksP b).map markD)), some (.lst ((kindsP b).map kindD)), o5, o6, o7, o8, o9, o10]
theorem init_rest {X : Ctx} {b : Bk} {n k : Nat} {p t : Addr} {m M : Mem} {Q : KD} (hok : BkOk b n k) (hx : Ix m M p) (h0 : m t = none) (hpt : p ≠ t) (hp : M p = some (.ins (X.cls 0) obN (v6 b t))) (ht : M t = some (.dK [] [])) (q : ∀ (M : Mem), Ix m M p → M p = some (.ins (X.cls 0) obN (v6 b t)) → M t = some (.dK (b.kinds.map Sum.inr) (b.tabs.map (ptD b.marks))) → Q .non M) : exs X (c19.drop 7) (initR p b none none none none none none) M (endK Q) := by
  simp only [c19, List.drop, body, exs, ex, ev, evs, evB, evO, evT, evI, startD, List.map_cons, List.map_nil, List.length_cons, List.length_nil, Nat.reduceAdd, Nat.reduceSub, List.replicate, List.cons_append, List.nil_append, List.append_nil, List.getElem?_cons_zero, List.getElem?_cons_succ, Option.some.injEq, exists_and_left, exists_eq_left', exists_eq_left, exists_eq, ix_tup, at0, at1, at2, op_add', op_sub', op_mul', op_fdiv', op_mod', op_pow', op_addT, cm_lt, cm_le, cm_gt, cm_ge, cm_eq, cm_ne, cm_eqS, cm_neS, onb, oni, yn_gd, yn_cls, Nat.reduceLT, if_true, if_false, true_and, and_true, List.set_cons_zero, List.set_cons_succ, set_nm, set_tup, set_nil, set_cons, ifb, b1_abs, b1_int, b1_intB, b1_lenT, b1_lenL, b1_tupL, b1_tupT, b2_min, b2_max, seq_tup, seq_lst, seq_sq, gd_sq, ix_sq, len_sq, new_t, new_f, gd_tup, gd_lst, ix_lst, ty_int, ty_tup, ty_str, isi_ii, isi_ib, isi_tt, isi_ss, reduceIte, Bool.true_eq_false, Bool.false_eq_true, Bool.not_true, Bool.not_false,  List.zip_cons_cons, List.zip_nil_right, List.foldl_cons, List.foldl_nil, ne_eq, not_false_eq_true, not_true_eq_false, Bool.not_eq_true', decide_eq_false_iff_not, decide_eq_true_eq, reduceCtorEq, List.cons.injEq, and_self, D.ref.injEq, Cell.obj.injEq, D.int.injEq]
  have hn4 := hok.n4
  have hml := hok.m.len
  refine ⟨obN, v6 b t, .inl hp, strsD b.marks, by rfl, b.marks.map D.str, rfl, ?_⟩
  refine lco_pure (G := guard M (strsD b.marks)) b.marks D.str (fun x => b.marks.map fun y => D.lv [.str x, .str y]) (fun _ _ _ => trivial) (fun x hxm p' acc K hp' hacc kK => ?_) ?_
  · have e : put M p' (.lst acc) p = some (.ins (X.cls 0) obN (v6 b t)) := by rw [put_ne (fun z => by rw [z, hp'] at hp; cases hp)]; exact hp
    refine ⟨_, rfl, obN, v6 b t, .inl ⟨p, rfl, e⟩, strsD b.marks, by rfl, b.marks.map D.str, rfl, ?_⟩
    rw [pairsK_lv, List.length_map, pairsK_len, hml] at hacc
    have : n * n ≤ 4 * 4 := Nat.mul_le_mul hn4 hn4
    refine lci_pure (G := guard (put M p' (.lst acc)) (strsD b.marks)) D.str (fun y => D.lv [.str x, .str y]) (fun _ => trivial) b.marks acc (by omega) (fun y hy acc' K' kK' => ?_) kK
    exact ⟨_, rfl, _, rfl, by decide, kK'⟩
  rw [pairsK_lv]
  have hkl : (kindsP b).length = k := by unfold kindsP; rw [List.length_zip, hok.kn.len, hok.tl]; omega
  have htl : b.tabs.length = b.kinds.length := by rw [hok.tl, hok.kn.len]
  refine for_inv kindD (fun i r M' => ∃ o6 o7, r = initR p b (some (.lst ((pairsK b.marks).map fun k => D.lv (k.map keyD)))) o6 o7 none none none ∧ M' t = some (.dK ((b.kinds.take i).map Sum.inr) ((b.tabs.take i).map (ptD b.marks))) ∧ M' p = some (.ins (X.cls 0) obN (v6 b t)) ∧ Ix m M' p) (kindsP b) 0 _ _ ⟨none, none, rfl, ht, hp, hx⟩ ?_ ?_
  · rintro i hi r M' N ⟨o6, o7, rfl, hMt, hMp, hk⟩ kN
    simp only [Nat.zero_add] at hMt kN
    refine ⟨trivial, ?_⟩
    have hik : i < b.kinds.length := by rw [hok.kn.len]; omega
    have hit : i < b.tabs.length := by omega
    have ez : (kindsP b)[i] = (b.kinds[i], b.tabs[i]) := List.getElem_zip
    have hot := hok.tab _ (List.getElem_mem hit)
    obtain ⟨p1, p2⟩ := put_kind (f := ptD b.marks) hok.kn.nd hik htl
    rw [ez]
    have hfl : (b.tabs[i].flatten).length = n * n := by rw [flat_len fun r hr => (hot.2 r hr).1, hot.1]
    have hnn : n * n ≤ 4 * 4 := Nat.mul_le_mul hn4 hn4
    refine ⟨_, rfl, _, _, rfl, _, _, rfl, rfl, _, rfl, _, rfl, pairsK b.marks, rfl, b.tabs[i].flatten.map D.int, rfl, by rw [List.length_map, hfl, pairsK_len, hml], pairsK_nd hok.m.nd, by rw [pairsK_len, hml]; omega, ?_⟩
    refine ⟨_, rfl, obN, v6 b t, .inl ⟨p, rfl, hMp⟩, .ref t, by rfl, _, rfl, t, rfl, _, _, .inr b.kinds[i], rfl, hMt, ?_, kN _ _ ⟨_, _, rfl, ?_, ?_, hk.set h0 oK⟩⟩
    · rw [List.length_map, List.length_take]; have := hok.k3; have := hok.kn.len; omega
    · rw [put_same]
      exact congrArg some (by rw [p1]; exact congrArg _ p2)
    · rw [put_ne hpt]; exact hMp
  · rintro r M' ⟨o6, o7, rfl, hMt, hMp, hk⟩
    refine ⟨trivial, _, SubO.refl, q M' hk hMp ?_⟩
    rw [hMt, Nat.zero_add, List.take_of_length_le (by rw [hkl, hok.kn.len]; exact Nat.le_refl _), List.take_of_length_le (by rw [hkl, hok.tl]; exact Nat.le_refl _)]
theorem init_tail {X : Ctx} {b : Bk} {n k : Nat} {p : Addr} {m M : Mem} {Q : KD} (hok : BkOk b n k) (hx : Ix m M p) (hp : M p = some (.ins (X.cls 0) n5 (v5 b))) (q : ∀ (t : Addr) (M : Mem), p ≠ t → m t = none → Ix m M p → M p = some (.ins (X.cls 0) obN (v6 b t)) → M t = some (.dK (b.kinds.map Sum.inr) (b.tabs.map (ptD b.marks))) → Q .non M) : exs X (c19.drop 6) (initR p b none none none none none none) M (endK Q) := by
  generalize hR : c19.drop 7 = R
  have e6 : c19.drop 6 = (c19.drop 6).take 1 ++ R := by rw [← hR]; rfl
  rw [e6, exs_app]
  simp only [c19, List.drop, List.take, body, exs, ex, ev, evs, evB, evO, evT, evI, startD, List.map_cons, List.map_nil, List.length_cons, List.length_nil, Nat.reduceAdd, Nat.reduceSub, List.replicate, List.cons_append, List.nil_append, List.append_nil, List.getElem?_cons_zero, List.getElem?_cons_succ, Option.some.injEq, exists_and_left, exists_eq_left', exists_eq_left, exists_eq, ix_tup, at0, at1, at2, op_add', op_sub', op_mul', op_fdiv', op_mod', op_pow', op_addT, cm_lt, cm_le, cm_gt, cm_ge, cm_eq, cm_ne, cm_eqS, cm_neS, onb, oni, yn_gd, yn_cls, Nat.reduceLT, if_true, if_false, true_and, and_true, List.set_cons_zero, List.set_cons_succ, set_nm, set_tup, set_nil, set_cons, ifb, b1_abs, b1_int, b1_intB, b1_lenT, b1_lenL, b1_tupL, b1_tupT, b2_min, b2_max, seq_tup, seq_lst, seq_sq, gd_sq, ix_sq, len_sq, new_t, new_f, gd_tup, gd_lst, ix_lst, ty_int, ty_tup, ty_str, isi_ii, isi_ib, isi_tt, isi_ss, reduceIte, Bool.true_eq_false, Bool.false_eq_true, Bool.not_true, Bool.not_false,  List.zip_cons_cons, List.zip_nil_right, List.foldl_cons, List.foldl_nil, ne_eq, not_false_eq_true, not_true_eq_false, Bool.not_eq_true', decide_eq_false_iff_not, decide_eq_true_eq, reduceCtorEq, List.cons.injEq, and_self, D.ref.injEq, Cell.obj.injEq, D.int.injEq]
  intro t ht
  have npt : p ≠ t := fun z => by rw [← z, hp] at ht; cases ht
  refine ⟨by decide, List.nodup_nil, put_same, ?_⟩
  simp only [endDK, put_put]
  refine ⟨_, _, by rw [put_ne npt]; exact hp, by decide, by decide, ?_⟩
  rw [n5, v5, fk5, fd5, ← hR]
  exact init_rest (m := m) (t := t) hok ((hx.set (hx.none ht npt.symm) oK).put oI) (hx.none ht npt.symm) npt put_same (by rw [put_ne npt.symm, put_same]) fun M' => q t M' npt (hx.none ht npt.symm)
theorem law_init {X : Ctx} (hr : X.fn 18 = s_read) (ds : List D) (m : Mem) (Q : KD) (h : s_init (X.cls 0) ds m Q) : body X 11 c19 ds m Q := by
  obtain ⟨b, n, k, p, rfl, hok, no, hp, q⟩ := h
  refine body_cut 6 ?_
  generalize hR : c19.drop 6 = R
  simp only [c19, List.take, hr, body, exs, ex, ev, evs, evB, evO, evT, evI, startD, List.map_cons, List.map_nil, List.length_cons, List.length_nil, Nat.reduceAdd, Nat.reduceSub, List.replicate, List.cons_append, List.nil_append, List.append_nil, List.getElem?_cons_zero, List.getElem?_cons_succ, Option.some.injEq, exists_and_left, exists_eq_left', exists_eq_left, exists_eq, ix_tup, at0, at1, at2, op_add', op_sub', op_mul', op_fdiv', op_mod', op_pow', op_addT, cm_lt, cm_le, cm_gt, cm_ge, cm_eq, cm_ne, cm_eqS, cm_neS, onb, oni, yn_gd, yn_cls, Nat.reduceLT, if_true, if_false, true_and, and_true, List.set_cons_zero, List.set_cons_succ, set_nm, set_tup, set_nil, set_cons, ifb, b1_abs, b1_int, b1_intB, b1_lenT, b1_lenL, b1_tupL, b1_tupT, b2_min, b2_max, seq_tup, seq_lst, seq_sq, gd_sq, ix_sq, len_sq, new_t, new_f, gd_tup, gd_lst, ix_lst, ty_int, ty_tup, ty_str, isi_ii, isi_ib, isi_tt, isi_ss, reduceIte, Bool.true_eq_false, Bool.false_eq_true, Bool.not_true, Bool.not_false,  List.zip_cons_cons, List.zip_nil_right, List.foldl_cons, List.foldl_nil, ne_eq, not_false_eq_true, not_true_eq_false, Bool.not_eq_true', decide_eq_false_iff_not, decide_eq_true_eq, reduceCtorEq, List.cons.injEq, and_self, D.ref.injEq, Cell.obj.injEq, D.int.injEq]
  refine ⟨b, n, k, rfl, hok, no, fun M hk => ?_⟩
  have hMp := hk.keep _ _ hp
  have x0 : Ix m M p := ⟨fun a c _ e => hk.keep a c e, hk.no⟩
  try simp only [body, exs, ex, ev, evs, evB, evO, evT, evI, startD, List.map_cons, List.map_nil, List.length_cons, List.length_nil, Nat.reduceAdd, Nat.reduceSub, List.replicate, List.cons_append, List.nil_append, List.append_nil, List.getElem?_cons_zero, List.getElem?_cons_succ, Option.some.injEq, exists_and_left, exists_eq_left', exists_eq_left, exists_eq, ix_tup, at0, at1, at2, op_add', op_sub', op_mul', op_fdiv', op_mod', op_pow', op_addT, cm_lt, cm_le, cm_gt, cm_ge, cm_eq, cm_ne, cm_eqS, cm_neS, onb, oni, yn_gd, yn_cls, Nat.reduceLT, if_true, if_false, true_and, and_true, List.set_cons_zero, List.set_cons_succ, set_nm, set_tup, set_nil, set_cons, ifb, b1_abs, b1_int, b1_intB, b1_lenT, b1_lenL, b1_tupL, b1_tupT, b2_min, b2_max, seq_tup, seq_lst, seq_sq, gd_sq, ix_sq, len_sq, new_t, new_f, gd_tup, gd_lst, ix_lst, ty_int, ty_tup, ty_str, isi_ii, isi_ib, isi_tt, isi_ss, reduceIte, Bool.true_eq_false, Bool.false_eq_true, Bool.not_true, Bool.not_false,  List.zip_cons_cons, List.zip_nil_right, List.foldl_cons, List.foldl_nil, ne_eq, not_false_eq_true, not_true_eq_false, Bool.not_eq_true', decide_eq_false_iff_not, decide_eq_true_eq, reduceCtorEq, List.cons.injEq, and_self, D.ref.injEq, Cell.obj.injEq, D.int.injEq]
  refine ⟨[], [], hMp, by decide, List.nodup_nil, ?_⟩
  rw [fk0, fd0]
  refine ⟨_, _, put_same, by decide, by decide, ?_⟩
  rw [fk1, fd1, put_put]
  have x1 := x0.put (c := .ins (X.cls 0) [Str.ofString "own_text", Str.ofString "own_by"] [.str (textB b), .int b.by_]) oI
  have e1 : put M p (.ins (X.cls 0) [Str.ofString "own_text", Str.ofString "own_by"] [.str (textB b), .int b.by_]) p = some (.ins (X.cls 0) [Str.ofString "own_text", Str.ofString "own_by"] [.str (textB b), .int b.by_]) := put_same
  generalize put M p (.ins (X.cls 0) [Str.ofString "own_text", Str.ofString "own_by"] [.str (textB b), .int b.by_]) = M1 at x1 e1
  refine lc_pureW (marksP b) markD (fun z => D.str z.1) (fun _ _ _ => trivial) (fun z hz p' acc K hp' kK => ?_) ?_
  · refine ⟨_, rfl, _, _, rfl, _, _, rfl, rfl, _, rfl, kK⟩
  refine tup_seq (l := (marksP b).map fun z => D.str z.1) rfl ?_
  refine ⟨_, _, e1, by decide, by decide, ?_⟩
  rw [fk2, fd2]
  have hmm : (marksP b).map (fun z => D.str z.1) = b.marks.map D.str := marks_fst hok
  have hkk : (kindsP b).map (fun z => D.str z.1) = b.kinds.map D.str := kinds_fst hok
  rw [hmm, show D.tup (b.marks.map D.str) = strsD b.marks from rfl]
  have x2 := x1.put (c := .ins (X.cls 0) [Str.ofString "own_text", Str.ofString "own_by", Str.ofString "own_marks"] [.str (textB b), .int b.by_, strsD b.marks]) oI
  have e2 : put M1 p (.ins (X.cls 0) [Str.ofString "own_text", Str.ofString "own_by", Str.ofString "own_marks"] [.str (textB b), .int b.by_, strsD b.marks]) p = some (.ins (X.cls 0) [Str.ofString "own_text", Str.ofString "own_by", Str.ofString "own_marks"] [.str (textB b), .int b.by_, strsD b.marks]) := put_same
  generalize put M1 p (.ins (X.cls 0) [Str.ofString "own_text", Str.ofString "own_by", Str.ofString "own_marks"] [.str (textB b), .int b.by_, strsD b.marks]) = M2 at x2 e2
  refine lc_pureW (kindsP b) kindD (fun z => D.str z.1) (fun _ _ _ => trivial) (fun z hz p' acc K hp' kK => ?_) ?_
  · refine ⟨_, rfl, _, _, rfl, _, _, rfl, rfl, _, rfl, kK⟩
  refine tup_seq (l := (kindsP b).map fun z => D.str z.1) rfl ?_
  rw [hkk]
  refine ⟨_, _, e2, by decide, by decide, ?_⟩
  rw [fk3, fd3]
  have hwl : b.marks.length = b.wts.length := by rw [hok.m.len, hok.wl]
  refine ⟨b.marks.map Sum.inr, b.wts.map D.int, ?_, by rw [List.length_map, List.length_map, hwl], inr_nodup hok.m.nd, ?_⟩
  · show some _ = some _
    rw [pairs_marks hok]
  unfold newDK
  dsimp only
  refine ⟨_, _, put_same, by decide, by decide, ?_⟩
  rw [fk4, fd4, put_put]
  rw [← hR, show D.tup (b.kinds.map D.str) = strsD b.kinds from rfl]
  exact init_tail (m := m) hok (x2.put oI) put_same q
end Og.Lk00
end
section
set_option maxHeartbeats 4000000
set_option autoImplicit false
namespace Og.Lk00
open PySem Og TL L2
def obV (b : Bk) : List D := [.str (textB b), .int b.by_, strsD b.marks, strsD b.kinds, .dK (b.marks.map Sum.inr) (b.wts.map D.int), .dK (b.kinds.map Sum.inr) (b.tabs.map (ptD b.marks))]
def obD (C : Addr) (b : Bk) : D := .ob C obN (obV b)
theorem ob0 {b : Bk} : lookK obN (obV b) (Str.ofString "own_text") = some (.str (textB b)) := by rfl
theorem ob1 {b : Bk} : lookK obN (obV b) (Str.ofString "own_by") = some (.int b.by_) := by rfl
theorem ob2 {b : Bk} : lookK obN (obV b) (Str.ofString "own_marks") = some (strsD b.marks) := by rfl
theorem ob3 {b : Bk} : lookK obN (obV b) (Str.ofString "own_kinds") = some (strsD b.kinds) := by rfl
theorem ob4 {b : Bk} : lookK obN (obV b) (Str.ofString "own_weights") = some (.dK (b.marks.map Sum.inr) (b.wts.map D.int)) := by rfl
theorem ob5 {b : Bk} : lookK obN (obV b) (Str.ofString "own_tables") = some (.dK (b.kinds.map Sum.inr) (b.tabs.map (ptD b.marks))) := by rfl
def s_pby (C : Addr) : Spec := fun ds m Q => ∃ b : Bk, ds = [obD C b] ∧ Q (.int b.by_) m
theorem law_pby {X : Ctx} (ds : List D) (m : Mem) (Q : KD) (h : s_pby (X.cls 0) ds m Q) : body X 1 c25 ds m Q := by
  obtain ⟨b, rfl, q⟩ := h
  simp only [c25, body, exs, ex, ev, evs, evB, evO, evT, evI, startD, List.map_cons, List.map_nil, List.length_cons, List.length_nil, Nat.reduceAdd, Nat.reduceSub, List.replicate, List.cons_append, List.nil_append, List.append_nil, List.getElem?_cons_zero, List.getElem?_cons_succ, Option.some.injEq, exists_and_left, exists_eq_left', exists_eq_left, exists_eq, ix_tup, at0, at1, at2, op_add', op_sub', op_mul', op_fdiv', op_mod', op_pow', op_addT, cm_lt, cm_le, cm_gt, cm_ge, cm_eq, cm_ne, cm_eqS, cm_neS, onb, oni, yn_gd, yn_cls, Nat.reduceLT, if_true, if_false, true_and, and_true, List.set_cons_zero, List.set_cons_succ, set_nm, set_tup, set_nil, set_cons, ifb, b1_abs, b1_int, b1_intB, b1_lenT, b1_lenL, b1_tupL, b1_tupT, b2_min, b2_max, seq_tup, seq_lst, seq_sq, gd_sq, ix_sq, len_sq, new_t, new_f, gd_tup, gd_lst, ix_lst, ty_int, ty_tup, ty_str, isi_ii, isi_ib, isi_tt, isi_ss, reduceIte, Bool.true_eq_false, Bool.false_eq_true, Bool.not_true, Bool.not_false,  List.zip_cons_cons, List.zip_nil_right, List.foldl_cons, List.foldl_nil, ne_eq, not_false_eq_true, not_true_eq_false, Bool.not_eq_true', decide_eq_false_iff_not, decide_eq_true_eq, reduceCtorEq, List.cons.injEq, and_self, D.ref.injEq, Cell.obj.injEq, D.int.injEq]
  exact ⟨_, _, .inr rfl, _, ob1, _, SubO.refl, q⟩
def s_pmarks (C : Addr) : Spec := fun ds m Q => ∃ b : Bk, ds = [obD C b] ∧ Q (strsD b.marks) m
theorem law_pmarks {X : Ctx} (ds : List D) (m : Mem) (Q : KD) (h : s_pmarks (X.cls 0) ds m Q) : body X 1 c26 ds m Q := by
  obtain ⟨b, rfl, q⟩ := h
  simp only [c26, body, exs, ex, ev, evs, evB, evO, evT, evI, startD, List.map_cons, List.map_nil, List.length_cons, List.length_nil, Nat.reduceAdd, Nat.reduceSub, List.replicate, List.cons_append, List.nil_append, List.append_nil, List.getElem?_cons_zero, List.getElem?_cons_succ, Option.some.injEq, exists_and_left, exists_eq_left', exists_eq_left, exists_eq, ix_tup, at0, at1, at2, op_add', op_sub', op_mul', op_fdiv', op_mod', op_pow', op_addT, cm_lt, cm_le, cm_gt, cm_ge, cm_eq, cm_ne, cm_eqS, cm_neS, onb, oni, yn_gd, yn_cls, Nat.reduceLT, if_true, if_false, true_and, and_true, List.set_cons_zero, List.set_cons_succ, set_nm, set_tup, set_nil, set_cons, ifb, b1_abs, b1_int, b1_intB, b1_lenT, b1_lenL, b1_tupL, b1_tupT, b2_min, b2_max, seq_tup, seq_lst, seq_sq, gd_sq, ix_sq, len_sq, new_t, new_f, gd_tup, gd_lst, ix_lst, ty_int, ty_tup, ty_str, isi_ii, isi_ib, isi_tt, isi_ss, reduceIte, Bool.true_eq_false, Bool.false_eq_true, Bool.not_true, Bool.not_false,  List.zip_cons_cons, List.zip_nil_right, List.foldl_cons, List.foldl_nil, ne_eq, not_false_eq_true, not_true_eq_false, Bool.not_eq_true', decide_eq_false_iff_not, decide_eq_true_eq, reduceCtorEq, List.cons.injEq, and_self, D.ref.injEq, Cell.obj.injEq, D.int.injEq]
  exact ⟨_, _, .inr rfl, _, ob2, _, SubO.refl, q⟩
def s_pkinds (C : Addr) : Spec := fun ds m Q => ∃ b : Bk, ds = [obD C b] ∧ Q (strsD b.kinds) m
theorem law_pkinds {X : Ctx} (ds : List D) (m : Mem) (Q : KD) (h : s_pkinds (X.cls 0) ds m Q) : body X 1 c27 ds m Q := by
  obtain ⟨b, rfl, q⟩ := h
  simp only [c27, body, exs, ex, ev, evs, evB, evO, evT, evI, startD, List.map_cons, List.map_nil, List.length_cons, List.length_nil, Nat.reduceAdd, Nat.reduceSub, List.replicate, List.cons_append, List.nil_append, List.append_nil, List.getElem?_cons_zero, List.getElem?_cons_succ, Option.some.injEq, exists_and_left, exists_eq_left', exists_eq_left, exists_eq, ix_tup, at0, at1, at2, op_add', op_sub', op_mul', op_fdiv', op_mod', op_pow', op_addT, cm_lt, cm_le, cm_gt, cm_ge, cm_eq, cm_ne, cm_eqS, cm_neS, onb, oni, yn_gd, yn_cls, Nat.reduceLT, if_true, if_false, true_and, and_true, List.set_cons_zero, List.set_cons_succ, set_nm, set_tup, set_nil, set_cons, ifb, b1_abs, b1_int, b1_intB, b1_lenT, b1_lenL, b1_tupL, b1_tupT, b2_min, b2_max, seq_tup, seq_lst, seq_sq, gd_sq, ix_sq, len_sq, new_t, new_f, gd_tup, gd_lst, ix_lst, ty_int, ty_tup, ty_str, isi_ii, isi_ib, isi_tt, isi_ss, reduceIte, Bool.true_eq_false, Bool.false_eq_true, Bool.not_true, Bool.not_false,  List.zip_cons_cons, List.zip_nil_right, List.foldl_cons, List.foldl_nil, ne_eq, not_false_eq_true, not_true_eq_false, Bool.not_eq_true', decide_eq_false_iff_not, decide_eq_true_eq, reduceCtorEq, List.cons.injEq, and_self, D.ref.injEq, Cell.obj.injEq, D.int.injEq]
  exact ⟨_, _, .inr rfl, _, ob3, _, SubO.refl, q⟩
def s_ptext (C : Addr) : Spec := fun ds m Q => ∃ b : Bk, ds = [obD C b] ∧ Q (.str (textB b)) m
theorem law_ptext {X : Ctx} (ds : List D) (m : Mem) (Q : KD) (h : s_ptext (X.cls 0) ds m Q) : body X 1 c34 ds m Q := by
  obtain ⟨b, rfl, q⟩ := h
  simp only [c34, body, exs, ex, ev, evs, evB, evO, evT, evI, startD, List.map_cons, List.map_nil, List.length_cons, List.length_nil, Nat.reduceAdd, Nat.reduceSub, List.replicate, List.cons_append, List.nil_append, List.append_nil, List.getElem?_cons_zero, List.getElem?_cons_succ, Option.some.injEq, exists_and_left, exists_eq_left', exists_eq_left, exists_eq, ix_tup, at0, at1, at2, op_add', op_sub', op_mul', op_fdiv', op_mod', op_pow', op_addT, cm_lt, cm_le, cm_gt, cm_ge, cm_eq, cm_ne, cm_eqS, cm_neS, onb, oni, yn_gd, yn_cls, Nat.reduceLT, if_true, if_false, true_and, and_true, List.set_cons_zero, List.set_cons_succ, set_nm, set_tup, set_nil, set_cons, ifb, b1_abs, b1_int, b1_intB, b1_lenT, b1_lenL, b1_tupL, b1_tupT, b2_min, b2_max, seq_tup, seq_lst, seq_sq, gd_sq, ix_sq, len_sq, new_t, new_f, gd_tup, gd_lst, ix_lst, ty_int, ty_tup, ty_str, isi_ii, isi_ib, isi_tt, isi_ss, reduceIte, Bool.true_eq_false, Bool.false_eq_true, Bool.not_true, Bool.not_false,  List.zip_cons_cons, List.zip_nil_right, List.foldl_cons, List.foldl_nil, ne_eq, not_false_eq_true, not_true_eq_false, Bool.not_eq_true', decide_eq_false_iff_not, decide_eq_true_eq, reduceCtorEq, List.cons.injEq, and_self, D.ref.injEq, Cell.obj.injEq, D.int.injEq]
  exact ⟨_, _, .inr rfl, _, ob0, _, SubO.refl, q⟩
def s_len (C : Addr) : Spec := fun ds m Q => ∃ b : Bk, ds = [obD C b] ∧ Q (.int (b.marks.length : Nat)) m
theorem law_len {X : Ctx} (ds : List D) (m : Mem) (Q : KD) (h : s_len (X.cls 0) ds m Q) : body X 1 c28 ds m Q := by
  obtain ⟨b, rfl, q⟩ := h
  simp only [c28, body, exs, ex, ev, evs, evB, evO, evT, evI, startD, List.map_cons, List.map_nil, List.length_cons, List.length_nil, Nat.reduceAdd, Nat.reduceSub, List.replicate, List.cons_append, List.nil_append, List.append_nil, List.getElem?_cons_zero, List.getElem?_cons_succ, Option.some.injEq, exists_and_left, exists_eq_left', exists_eq_left, exists_eq, ix_tup, at0, at1, at2, op_add', op_sub', op_mul', op_fdiv', op_mod', op_pow', op_addT, cm_lt, cm_le, cm_gt, cm_ge, cm_eq, cm_ne, cm_eqS, cm_neS, onb, oni, yn_gd, yn_cls, Nat.reduceLT, if_true, if_false, true_and, and_true, List.set_cons_zero, List.set_cons_succ, set_nm, set_tup, set_nil, set_cons, ifb, b1_abs, b1_int, b1_intB, b1_lenT, b1_lenL, b1_tupL, b1_tupT, b2_min, b2_max, seq_tup, seq_lst, seq_sq, gd_sq, ix_sq, len_sq, new_t, new_f, gd_tup, gd_lst, ix_lst, ty_int, ty_tup, ty_str, isi_ii, isi_ib, isi_tt, isi_ss, reduceIte, Bool.true_eq_false, Bool.false_eq_true, Bool.not_true, Bool.not_false,  List.zip_cons_cons, List.zip_nil_right, List.foldl_cons, List.foldl_nil, ne_eq, not_false_eq_true, not_true_eq_false, Bool.not_eq_true', decide_eq_false_iff_not, decide_eq_true_eq, reduceCtorEq, List.cons.injEq, and_self, D.ref.injEq, Cell.obj.injEq, D.int.injEq]
  refine ⟨_, _, .inr rfl, _, ob2, ?_⟩
  rw [len_strs]
  exact ⟨_, SubO.refl, q⟩
end Og.Lk00
end
section
set_option maxHeartbeats 4000000
set_option autoImplicit false
namespace Og.Lk00
open PySem Og TL L2
theorem notin_strs {m : Mem} {x : Str} {l : List Str} {Q : KD} (h : x ∈ l) (q : Q (.bl false) m) : cmpD .notin (.str x) (strsD l) m Q := by
  have e : cmpD .in_ (.str x) (strsD l) m (fun d m' => match d with | .bl b => Q (.bl (!b)) m' | _ => False) := by
    rw [in_strs (l := l) rfl (fun y z => by cases z), decide_eq_true h]
    exact q
  exact e
def s_contains (C : Addr) : Spec := fun ds m Q => ∃ (b : Bk) (v : D), ds = [obD C b, v] ∧ ((∃ x, v = .str x ∧ Q (.bl (decide (x ∈ b.marks))) m) ∨ (∃ t, tyD m v = some t ∧ isiB t "str" = false ∧ Q (.bl false) m))
theorem law_contains {X : Ctx} (ds : List D) (m : Mem) (Q : KD) (h : s_contains (X.cls 0) ds m Q) : body X 2 c29 ds m Q := by
  obtain ⟨b, v, rfl, ⟨x, rfl, q⟩ | ⟨t, ht, hs, q⟩⟩ := h
  · simp only [c29, body, exs, ex, ev, evs, evB, evO, evT, evI, startD, List.map_cons, List.map_nil, List.length_cons, List.length_nil, Nat.reduceAdd, Nat.reduceSub, List.replicate, List.cons_append, List.nil_append, List.append_nil, List.getElem?_cons_zero, List.getElem?_cons_succ, Option.some.injEq, exists_and_left, exists_eq_left', exists_eq_left, exists_eq, ix_tup, at0, at1, at2, op_add', op_sub', op_mul', op_fdiv', op_mod', op_pow', op_addT, cm_lt, cm_le, cm_gt, cm_ge, cm_eq, cm_ne, cm_eqS, cm_neS, onb, oni, yn_gd, yn_cls, Nat.reduceLT, if_true, if_false, true_and, and_true, List.set_cons_zero, List.set_cons_succ, set_nm, set_tup, set_nil, set_cons, ifb, b1_abs, b1_int, b1_intB, b1_lenT, b1_lenL, b1_tupL, b1_tupT, b2_min, b2_max, seq_tup, seq_lst, seq_sq, gd_sq, ix_sq, len_sq, new_t, new_f, gd_tup, gd_lst, ix_lst, ty_int, ty_tup, ty_str, isi_ii, isi_ib, isi_tt, isi_ss, reduceIte, Bool.true_eq_false, Bool.false_eq_true, Bool.not_true, Bool.not_false,  List.zip_cons_cons, List.zip_nil_right, List.foldl_cons, List.foldl_nil, ne_eq, not_false_eq_true, not_true_eq_false, Bool.not_eq_true', decide_eq_false_iff_not, decide_eq_true_eq, reduceCtorEq, List.cons.injEq, and_self, D.ref.injEq, Cell.obj.injEq, D.int.injEq]
    refine ⟨_, _, .inr rfl, _, ob2, ?_⟩
    rw [in_strs (l := b.marks) rfl (fun y z => by cases z)]
    exact ⟨_, SubO.refl, q⟩
  · simp only [c29, ht, hs, body, exs, ex, ev, evs, evB, evO, evT, evI, startD, List.map_cons, List.map_nil, List.length_cons, List.length_nil, Nat.reduceAdd, Nat.reduceSub, List.replicate, List.cons_append, List.nil_append, List.append_nil, List.getElem?_cons_zero, List.getElem?_cons_succ, Option.some.injEq, exists_and_left, exists_eq_left', exists_eq_left, exists_eq, ix_tup, at0, at1, at2, op_add', op_sub', op_mul', op_fdiv', op_mod', op_pow', op_addT, cm_lt, cm_le, cm_gt, cm_ge, cm_eq, cm_ne, cm_eqS, cm_neS, onb, oni, yn_gd, yn_cls, Nat.reduceLT, if_true, if_false, true_and, and_true, List.set_cons_zero, List.set_cons_succ, set_nm, set_tup, set_nil, set_cons, ifb, b1_abs, b1_int, b1_intB, b1_lenT, b1_lenL, b1_tupL, b1_tupT, b2_min, b2_max, seq_tup, seq_lst, seq_sq, gd_sq, ix_sq, len_sq, new_t, new_f, gd_tup, gd_lst, ix_lst, ty_int, ty_tup, ty_str, isi_ii, isi_ib, isi_tt, isi_ss, reduceIte, Bool.true_eq_false, Bool.false_eq_true, Bool.not_true, Bool.not_false,  List.zip_cons_cons, List.zip_nil_right, List.foldl_cons, List.foldl_nil, ne_eq, not_false_eq_true, not_true_eq_false, Bool.not_eq_true', decide_eq_false_iff_not, decide_eq_true_eq, reduceCtorEq, List.cons.injEq, and_self, D.ref.injEq, Cell.obj.injEq, D.int.injEq]
    exact ⟨_, SubO.refl, q⟩
def s_check (C : Addr) : Spec := fun ds m Q => ∃ (b : Bk) (x : Str), ds = [obD C b, .str x] ∧ x ∈ b.marks ∧ Q .non m
theorem law_check {X : Ctx} (hc : X.fn 29 = s_contains (X.cls 0)) (ds : List D) (m : Mem) (Q : KD) (h : s_check (X.cls 0) ds m Q) : body X 2 c30 ds m Q := by
  obtain ⟨b, x, rfl, hx, q⟩ := h
  simp only [c30, hc, body, exs, ex, ev, evs, evB, evO, evT, evI, startD, List.map_cons, List.map_nil, List.length_cons, List.length_nil, Nat.reduceAdd, Nat.reduceSub, List.replicate, List.cons_append, List.nil_append, List.append_nil, List.getElem?_cons_zero, List.getElem?_cons_succ, Option.some.injEq, exists_and_left, exists_eq_left', exists_eq_left, exists_eq, ix_tup, at0, at1, at2, op_add', op_sub', op_mul', op_fdiv', op_mod', op_pow', op_addT, cm_lt, cm_le, cm_gt, cm_ge, cm_eq, cm_ne, cm_eqS, cm_neS, onb, oni, yn_gd, yn_cls, Nat.reduceLT, if_true, if_false, true_and, and_true, List.set_cons_zero, List.set_cons_succ, set_nm, set_tup, set_nil, set_cons, ifb, b1_abs, b1_int, b1_intB, b1_lenT, b1_lenL, b1_tupL, b1_tupT, b2_min, b2_max, seq_tup, seq_lst, seq_sq, gd_sq, ix_sq, len_sq, new_t, new_f, gd_tup, gd_lst, ix_lst, ty_int, ty_tup, ty_str, isi_ii, isi_ib, isi_tt, isi_ss, reduceIte, Bool.true_eq_false, Bool.false_eq_true, Bool.not_true, Bool.not_false,  List.zip_cons_cons, List.zip_nil_right, List.foldl_cons, List.foldl_nil, ne_eq, not_false_eq_true, not_true_eq_false, Bool.not_eq_true', decide_eq_false_iff_not, decide_eq_true_eq, reduceCtorEq, List.cons.injEq, and_self, D.ref.injEq, Cell.obj.injEq, D.int.injEq]
  refine ⟨_, _, rfl, b, .str x, rfl, .inl ⟨x, rfl, ?_⟩⟩
  dsimp only
  rw [onB_bl, decide_eq_true hx, if_neg (by decide)]
  exact ⟨_, SubO.refl, q⟩
def s_weight (C : Addr) : Spec := fun ds m Q => ∃ (b : Bk) (i : Nat) (x : Str) (w : Int), ds = [obD C b, .str x] ∧ b.marks.Nodup ∧ b.marks[i]? = some x ∧ b.wts[i]? = some w ∧ Q (.int w) m
theorem law_weight {X : Ctx} (hc : X.fn 30 = s_check (X.cls 0)) (ds : List D) (m : Mem) (Q : KD) (h : s_weight (X.cls 0) ds m Q) : body X 2 c31 ds m Q := by
  obtain ⟨b, i, x, w, rfl, hn, hx, hw, q⟩ := h
  simp only [c31, hc, body, exs, ex, ev, evs, evB, evO, evT, evI, startD, List.map_cons, List.map_nil, List.length_cons, List.length_nil, Nat.reduceAdd, Nat.reduceSub, List.replicate, List.cons_append, List.nil_append, List.append_nil, List.getElem?_cons_zero, List.getElem?_cons_succ, Option.some.injEq, exists_and_left, exists_eq_left', exists_eq_left, exists_eq, ix_tup, at0, at1, at2, op_add', op_sub', op_mul', op_fdiv', op_mod', op_pow', op_addT, cm_lt, cm_le, cm_gt, cm_ge, cm_eq, cm_ne, cm_eqS, cm_neS, onb, oni, yn_gd, yn_cls, Nat.reduceLT, if_true, if_false, true_and, and_true, List.set_cons_zero, List.set_cons_succ, set_nm, set_tup, set_nil, set_cons, ifb, b1_abs, b1_int, b1_intB, b1_lenT, b1_lenL, b1_tupL, b1_tupT, b2_min, b2_max, seq_tup, seq_lst, seq_sq, gd_sq, ix_sq, len_sq, new_t, new_f, gd_tup, gd_lst, ix_lst, ty_int, ty_tup, ty_str, isi_ii, isi_ib, isi_tt, isi_ss, reduceIte, Bool.true_eq_false, Bool.false_eq_true, Bool.not_true, Bool.not_false,  List.zip_cons_cons, List.zip_nil_right, List.foldl_cons, List.foldl_nil, ne_eq, not_false_eq_true, not_true_eq_false, Bool.not_eq_true', decide_eq_false_iff_not, decide_eq_true_eq, reduceCtorEq, List.cons.injEq, and_self, D.ref.injEq, Cell.obj.injEq, D.int.injEq]
  refine ⟨_, _, rfl, by decide, b, x, rfl, List.mem_of_getElem? hx, ?_⟩
  refine ⟨_, _, .inr rfl, _, ob4, ?_⟩
  rw [ixs (ks := b.marks.map Sum.inr) (ds := b.wts.map D.int) rfl, look_at (k := (Sum.inr x : Key)) (i := i) D.int (inr_nodup hn) (by rw [List.getElem?_map, hx]; rfl) hw]
  exact ⟨_, rfl, _, SubO.refl, q⟩
def s_worth (C : Addr) : Spec := fun ds m Q => ∃ (b : Bk) (n k c i j : Nat) (kd x y : Str) (t : List (List Int)) (r : List Int) (w : Int), ds = [obD C b, .str kd, .str x, .str y] ∧ BkOk b n k ∧ b.kinds[c]? = some kd ∧ b.tabs[c]? = some t ∧ b.marks[i]? = some x ∧ b.marks[j]? = some y ∧ t[i]? = some r ∧ r[j]? = some w ∧ Q (.int w) m
theorem law_worth {X : Ctx} (hc : X.fn 30 = s_check (X.cls 0)) (ds : List D) (m : Mem) (Q : KD) (h : s_worth (X.cls 0) ds m Q) : body X 4 c32 ds m Q := by
  obtain ⟨b, n, k, c, i, j, kd, x, y, t, r, w, rfl, hb, hc1, hc2, hi, hj, hr, hw, q⟩ := h
  simp only [c32, hc, body, exs, ex, ev, evs, evB, evO, evT, evI, startD, List.map_cons, List.map_nil, List.length_cons, List.length_nil, Nat.reduceAdd, Nat.reduceSub, List.replicate, List.cons_append, List.nil_append, List.append_nil, List.getElem?_cons_zero, List.getElem?_cons_succ, Option.some.injEq, exists_and_left, exists_eq_left', exists_eq_left, exists_eq, ix_tup, at0, at1, at2, op_add', op_sub', op_mul', op_fdiv', op_mod', op_pow', op_addT, cm_lt, cm_le, cm_gt, cm_ge, cm_eq, cm_ne, cm_eqS, cm_neS, onb, oni, yn_gd, yn_cls, Nat.reduceLT, if_true, if_false, true_and, and_true, List.set_cons_zero, List.set_cons_succ, set_nm, set_tup, set_nil, set_cons, ifb, b1_abs, b1_int, b1_intB, b1_lenT, b1_lenL, b1_tupL, b1_tupT, b2_min, b2_max, seq_tup, seq_lst, seq_sq, gd_sq, ix_sq, len_sq, new_t, new_f, gd_tup, gd_lst, ix_lst, ty_int, ty_tup, ty_str, isi_ii, isi_ib, isi_tt, isi_ss, reduceIte, Bool.true_eq_false, Bool.false_eq_true, Bool.not_true, Bool.not_false,  List.zip_cons_cons, List.zip_nil_right, List.foldl_cons, List.foldl_nil, ne_eq, not_false_eq_true, not_true_eq_false, Bool.not_eq_true', decide_eq_false_iff_not, decide_eq_true_eq, reduceCtorEq, List.cons.injEq, and_self, D.ref.injEq, Cell.obj.injEq, D.int.injEq]
  have hkl : b.kinds.length = b.tabs.length := by rw [hb.kn.len, hb.tl]
  refine ⟨_, _, .inr rfl, _, ob3, notin_strs (List.mem_of_getElem? hc1) ?_⟩
  rw [onB_bl, if_neg (by decide)]
  refine ⟨_, _, rfl, by decide, b, x, rfl, List.mem_of_getElem? hi, ?_⟩
  refine ⟨_, _, rfl, by decide, b, y, rfl, List.mem_of_getElem? hj, ?_⟩
  refine ⟨_, _, .inr rfl, _, ob5, ?_⟩
  rw [ixs (ks := b.kinds.map Sum.inr) (ds := b.tabs.map (ptD b.marks)) rfl, look_at (k := (Sum.inr kd : Key)) (i := c) (ptD b.marks) (inr_nodup hb.kn.nd) (by rw [List.getElem?_map, hc1]; rfl) hc2]
  have hot := hb.tab _ (List.mem_of_getElem? hc2)
  refine ⟨_, rfl, by decide, pairsK b.marks, t.flatten.map D.int, [.inr x, .inr y], .int w, rfl, rfl, ?_, _, SubO.refl, q⟩
  refine look_at (i := i * n + j) D.int (pairsK_nd hb.m.nd) ?_ (flat_at (fun r hr => (hot.2 r hr).1) hr hw)
  rw [← hb.m.len]
  exact pairsK_at hi hj
def s_eq (C : Addr) : Spec := fun ds m Q => ∃ (b : Bk) (v : D), ds = [obD C b, v] ∧ ((∃ b', v = obD C b' ∧ Q (.bl (decide (textB b = textB b'))) m) ∨ (∃ x, v = .str x ∧ Q (.bl false) m))
theorem law_eq {X : Ctx} (ds : List D) (m : Mem) (Q : KD) (h : s_eq (X.cls 0) ds m Q) : body X 2 c37 ds m Q := by
  obtain ⟨b, v, rfl, ⟨b', rfl, q⟩ | ⟨x, rfl, q⟩⟩ := h
  · simp only [c37, body, exs, ex, ev, evs, evB, evO, evT, evI, startD, List.map_cons, List.map_nil, List.length_cons, List.length_nil, Nat.reduceAdd, Nat.reduceSub, List.replicate, List.cons_append, List.nil_append, List.append_nil, List.getElem?_cons_zero, List.getElem?_cons_succ, Option.some.injEq, exists_and_left, exists_eq_left', exists_eq_left, exists_eq, ix_tup, at0, at1, at2, op_add', op_sub', op_mul', op_fdiv', op_mod', op_pow', op_addT, cm_lt, cm_le, cm_gt, cm_ge, cm_eq, cm_ne, cm_eqS, cm_neS, onb, oni, yn_gd, yn_cls, Nat.reduceLT, if_true, if_false, true_and, and_true, List.set_cons_zero, List.set_cons_succ, set_nm, set_tup, set_nil, set_cons, ifb, b1_abs, b1_int, b1_intB, b1_lenT, b1_lenL, b1_tupL, b1_tupT, b2_min, b2_max, seq_tup, seq_lst, seq_sq, gd_sq, ix_sq, len_sq, new_t, new_f, gd_tup, gd_lst, ix_lst, ty_int, ty_tup, ty_str, isi_ii, isi_ib, isi_tt, isi_ss, reduceIte, Bool.true_eq_false, Bool.false_eq_true, Bool.not_true, Bool.not_false,  List.zip_cons_cons, List.zip_nil_right, List.foldl_cons, List.foldl_nil, ne_eq, not_false_eq_true, not_true_eq_false, Bool.not_eq_true', decide_eq_false_iff_not, decide_eq_true_eq, reduceCtorEq, List.cons.injEq, and_self, D.ref.injEq, Cell.obj.injEq, D.int.injEq]
    refine .inl ⟨_, _, rfl, _, _, .inr rfl, _, ob0, _, _, .inr rfl, _, ob0, ?_⟩
    try simp only [body, exs, ex, ev, evs, evB, evO, evT, evI, startD, List.map_cons, List.map_nil, List.length_cons, List.length_nil, Nat.reduceAdd, Nat.reduceSub, List.replicate, List.cons_append, List.nil_append, List.append_nil, List.getElem?_cons_zero, List.getElem?_cons_succ, Option.some.injEq, exists_and_left, exists_eq_left', exists_eq_left, exists_eq, ix_tup, at0, at1, at2, op_add', op_sub', op_mul', op_fdiv', op_mod', op_pow', op_addT, cm_lt, cm_le, cm_gt, cm_ge, cm_eq, cm_ne, cm_eqS, cm_neS, onb, oni, yn_gd, yn_cls, Nat.reduceLT, if_true, if_false, true_and, and_true, List.set_cons_zero, List.set_cons_succ, set_nm, set_tup, set_nil, set_cons, ifb, b1_abs, b1_int, b1_intB, b1_lenT, b1_lenL, b1_tupL, b1_tupT, b2_min, b2_max, seq_tup, seq_lst, seq_sq, gd_sq, ix_sq, len_sq, new_t, new_f, gd_tup, gd_lst, ix_lst, ty_int, ty_tup, ty_str, isi_ii, isi_ib, isi_tt, isi_ss, reduceIte, Bool.true_eq_false, Bool.false_eq_true, Bool.not_true, Bool.not_false,  List.zip_cons_cons, List.zip_nil_right, List.foldl_cons, List.foldl_nil, ne_eq, not_false_eq_true, not_true_eq_false, Bool.not_eq_true', decide_eq_false_iff_not, decide_eq_true_eq, reduceCtorEq, List.cons.injEq, and_self, D.ref.injEq, Cell.obj.injEq, D.int.injEq]
    exact ⟨_, SubO.refl, q⟩
  · simp only [c37, body, exs, ex, ev, evs, evB, evO, evT, evI, startD, List.map_cons, List.map_nil, List.length_cons, List.length_nil, Nat.reduceAdd, Nat.reduceSub, List.replicate, List.cons_append, List.nil_append, List.append_nil, List.getElem?_cons_zero, List.getElem?_cons_succ, Option.some.injEq, exists_and_left, exists_eq_left', exists_eq_left, exists_eq, ix_tup, at0, at1, at2, op_add', op_sub', op_mul', op_fdiv', op_mod', op_pow', op_addT, cm_lt, cm_le, cm_gt, cm_ge, cm_eq, cm_ne, cm_eqS, cm_neS, onb, oni, yn_gd, yn_cls, Nat.reduceLT, if_true, if_false, true_and, and_true, List.set_cons_zero, List.set_cons_succ, set_nm, set_tup, set_nil, set_cons, ifb, b1_abs, b1_int, b1_intB, b1_lenT, b1_lenL, b1_tupL, b1_tupT, b2_min, b2_max, seq_tup, seq_lst, seq_sq, gd_sq, ix_sq, len_sq, new_t, new_f, gd_tup, gd_lst, ix_lst, ty_int, ty_tup, ty_str, isi_ii, isi_ib, isi_tt, isi_ss, reduceIte, Bool.true_eq_false, Bool.false_eq_true, Bool.not_true, Bool.not_false,  List.zip_cons_cons, List.zip_nil_right, List.foldl_cons, List.foldl_nil, ne_eq, not_false_eq_true, not_true_eq_false, Bool.not_eq_true', decide_eq_false_iff_not, decide_eq_true_eq, reduceCtorEq, List.cons.injEq, and_self, D.ref.injEq, Cell.obj.injEq, D.int.injEq]
    exact .inr ⟨⟨_, rfl⟩, _, SubO.refl, q⟩
end Og.Lk00
end
section
set_option maxHeartbeats 4000000
set_option autoImplicit false
/-! Og: what repr shows, and how long it is. -/
namespace Og
open PySem TL L2
theorem textFrom_le : ∀ (ts : List Str) (k : Nat) (acc : Str), (textFrom k acc ts).length ≤ acc.length + piled ts
  | [], k, acc => by show acc.length ≤ _; omega
  | t :: r, k, acc => by
    have ih := textFrom_le r (k + 1) (acc ++ (if k > 0 then ", " else "" : String) ++ t)
    show (textFrom (k + 1) _ r).length ≤ _
    have e : ∀ b : Bool, ((if b = true then ", " else "" : String) : Str).length ≤ 2 := fun b => by cases b <;> decide
    have e2 := e (decide (k > 0))
    simp only [decide_eq_true_eq] at e2
    rw [strLen_append, strLen_append] at ih
    rw [piled_cons]
    omega
theorem listText_le (ts : List Str) : (listText ts).length ≤ piled ts + 2 := by
  unfold listText
  rw [strLen_append]
  have e := textFrom_le ts 0 "["
  have e1 : (("[" : String) : Str).length = 1 := rfl
  have e2 : (("]" : String) : Str).length = 1 := rfl
  omega
theorem tupleText_le (ts : List Str) : (tupleText ts).length ≤ piled ts + 3 := by
  unfold tupleText
  rw [strLen_append, strLen_append]
  have e1 : ((("(" : String) : Str)).length = 1 := rfl
  have e : ∀ b : Bool, ((if b = true then ",)" else ")" : String) : Str).length ≤ 2 := fun b => by cases b <;> decide
  have e3 := e (ts.length == 1)
  by_cases h : ts = []
  · subst h
    have : (Str.join ", " []).length = 0 := rfl
    omega
  · have := join_length_add ts h
    omega
mutual
def D.sz : D → Nat
  | .str x => 10 * x.length + 2
  | .tup ds => szs ds + 3
  | .lst ds => szs ds + 3
  | .int _ => 2000
  | _ => 5
def szs : List D → Nat
  | [] => 0
  | d :: ds => d.sz + 2 + szs ds
end
theorem int_shown {i : Int} (h : i.natAbs.log2 < 1920) : (Str.ofString (toString i)).length ≤ 2000 := by
  have e2 := int_text_length_le (k := 1920) (by decide) h
  rw [ofString_length]; omega
mutual
theorem D.shown_le : ∀ (n : Nat) (d : D), d.flat n = true → d.toP.showable = true → d.toP.shown.length ≤ d.sz
  | _, .non, _, _ => by simp only [D.toP, PyData.shown, D.sz]; decide
  | _, .bl b, _, _ => by simp only [D.toP, PyData.shown, D.sz]; cases b <;> decide
  | _, .int i, _, h => by
    simp only [D.toP, PyData.showable, decide_eq_true_eq] at h
    simp only [D.toP, PyData.shown, D.sz]
    exact int_shown h
  | _, .str x, h, _ => by
    simp only [D.flat, PyData.strOk] at h
    simp only [D.toP, PyData.shown, D.sz]
    refine PySem.StrLaws.reprText_len x fun c hc => ?_
    have := Array.all_eq_true_iff_forall_mem.mp h c (Array.mem_def.mpr hc)
    have h2 : c < 0x110000 := by simpa using this
    omega
  | n + 1, .tup ds, h, hs => by
    simp only [D.flat] at h
    simp only [D.toP, PyData.showable] at hs
    simp only [D.toP, PyData.shown, D.sz]
    have := shown_les n ds h hs
    have := tupleText_le (PyData.shownAll (toPs ds))
    omega
  | n + 1, .lst ds, h, hs => by
    simp only [D.flat] at h
    simp only [D.toP, PyData.showable] at hs
    simp only [D.toP, PyData.shown, D.sz]
    have := shown_les n ds h hs
    have := listText_le (PyData.shownAll (toPs ds))
    omega
theorem shown_les : ∀ (n : Nat) (ds : List D), flats n ds = true → PyData.showableAll (toPs ds) = true → piled (PyData.shownAll (toPs ds)) ≤ szs ds
  | _, [], _, _ => by simp only [toPs, PyData.shownAll, piled_nil, szs]; omega
  | n, d :: ds, h, hs => by
    simp only [flats, Bool.and_eq_true] at h
    simp only [toPs, PyData.showableAll, Bool.and_eq_true] at hs
    have h1 := D.shown_le n d h.1 hs.1
    have h2 := shown_les n ds h.2 hs.2
    simp only [toPs, PyData.shownAll, piled_cons, szs]
    omega
end
/-- repr of what is data -/
structure Shw (n : Nat) (d : D) : Prop where
  f : d.flat n = true
  s : d.toP.showable = true
theorem repr_go {x : D} {m : Mem} {Q : KD} (h : Shw 40 x) (hd : dat m x = x) (hl : x.sz ≤ 1000000) (q : Q (.str x.toP.shown) m) : b1D .repr x m Q := by
  show D.flat 40 (dat m x) = true ∧ (dat m x).toP.showable = true ∧ (dat m x).toP.shown.length ≤ 1000000 ∧ Q (.str (dat m x).toP.shown) m
  rw [hd]
  exact ⟨h.f, h.s, Nat.le_trans (D.shown_le 40 x h.f h.s) hl, q⟩
structure Shws (n : Nat) (ds : List D) : Prop where
  f : flats n ds = true
  s : PyData.showableAll (toPs ds) = true
theorem Shws.nil {n : Nat} : Shws n [] := ⟨rfl, rfl⟩
theorem Shws.cons {n : Nat} {d : D} {ds : List D} (h : Shw n d) (h' : Shws n ds) : Shws n (d :: ds) := ⟨by simp only [flats, h.f, h'.f, Bool.and_self], by simp only [toPs, PyData.showableAll, h.s, h'.s, Bool.and_self]⟩
theorem Shws.tup {n : Nat} {ds : List D} (h : Shws n ds) : Shw (n + 1) (.tup ds) := ⟨by simpa only [D.flat] using h.f, by simpa only [D.toP, PyData.showable] using h.s⟩
theorem Shws.lst {n : Nat} {ds : List D} (h : Shws n ds) : Shw (n + 1) (.lst ds) := ⟨by simpa only [D.flat] using h.f, by simpa only [D.toP, PyData.showable] using h.s⟩
theorem shw_int {n : Nat} {i : Int} (h : i.natAbs ≤ 10 ^ 12) : Shw n (.int i) := ⟨by cases n <;> rfl, by simp only [D.toP, PyData.showable, decide_eq_true_eq]; exact log_small h⟩
theorem shw_nat {n : Nat} {i : Nat} (h : i ≤ 10 ^ 12) : Shw n (.int (i : Int)) := shw_int (by omega)
theorem shw_bl {n : Nat} {b : Bool} : Shw n (.bl b) := ⟨by cases n <;> rfl, rfl⟩
theorem shw_nm {n : Nat} {x : Str} (h : Nm x) : Shw n (.str x) := ⟨by
  have e : PyData.strOk x = true := Array.all_eq_true_iff_forall_mem.mpr fun c hc => by
    have := h.let_ c (Array.mem_def.mp hc)
    simp; omega
  cases n <;> simpa only [D.flat] using e, rfl⟩
theorem shws_map {α : Type} {n : Nat} {f : α → D} : ∀ {l : List α}, (∀ x ∈ l, Shw n (f x)) → Shws n (l.map f)
  | [], _ => .nil
  | a :: l, h => .cons (h a (List.mem_cons_self ..)) (shws_map fun x hx => h x (List.mem_cons_of_mem _ hx))
theorem szs_map {α : Type} {c : Nat} {f : α → D} : ∀ {l : List α}, (∀ x ∈ l, (f x).sz ≤ c) → szs (l.map f) ≤ l.length * (c + 2)
  | [], _ => by simp [szs]
  | a :: l, h => by
    have h1 := h a (List.mem_cons_self ..)
    have h2 := szs_map (c := c) (l := l) fun x hx => h x (List.mem_cons_of_mem _ hx)
    simp only [List.map_cons, szs, List.length_cons, Nat.succ_mul]
    omega
theorem shw_strs {n k : Nat} {l : List Str} (h : NmsOk l k) : Shw (n + 1) (strsD l) := (shws_map fun x hx => shw_nm (h.nm x hx)).tup
theorem sz_strs {k : Nat} {l : List Str} (h : NmsOk l k) : (strsD l).sz ≤ k * 44 + 3 := by
  have := szs_map (c := 42) (f := D.str) (l := l) fun x hx => by
    have := (h.nm x hx).l4
    simp only [D.sz]; omega
  rw [h.len] at this
  simpa only [strsD, D.sz] using Nat.add_le_add_right this 3
theorem shw_ints {n : Nat} {l : List Int} (h : ∀ x ∈ l, x.natAbs ≤ 10 ^ 12) : Shw (n + 1) (.lst (l.map D.int)) := (shws_map fun x hx => shw_int (h x hx)).lst
theorem sz_ints {l : List Int} : (D.lst (l.map D.int)).sz ≤ l.length * 2002 + 3 := by
  have := szs_map (c := 2000) (f := D.int) (l := l) fun x hx => by simp only [D.sz]; omega
  simpa only [D.sz] using Nat.add_le_add_right this 3
end Og
end
section
set_option maxHeartbeats 4000000
set_option autoImplicit false
namespace Og.Lk00
open PySem Og TL L2
theorem wts_snd {b : Bk} {n k : Nat} (h : BkOk b n k) : (marksP b).map (fun z => D.int z.2) = b.wts.map D.int := by
  have e : (b.marks.zip b.wts).map (·.2) = b.wts := List.map_snd_zip (by rw [h.m.len, h.wl]; exact Nat.le_refl _)
  have : ((b.marks.zip b.wts).map (·.2)).map D.int = b.wts.map D.int := by rw [e]
  rw [List.map_map] at this
  exact this
theorem range_getD {n : Nat} {r : List Int} (h : r.length = n) : (List.range n).map (fun j => D.int (r.getD j 0)) = r.map D.int := by
  refine List.ext_getElem (by simp [h]) fun i h1 h2 => ?_
  simp only [List.length_map] at h2
  simp [List.getD_eq_getElem?_getD, List.getElem?_eq_getElem h2]
def s_told (C : Addr) : Spec := fun ds m Q => ∃ (b : Bk) (n k : Nat), ds = [ownD b, obD C b] ∧ BkOk b n k ∧ NoObj m ∧ Q (.bl true) m
theorem law_told {X : Ctx} (hby : X.fn 25 = s_pby (X.cls 0)) (hmk : X.fn 26 = s_pmarks (X.cls 0)) (hkd : X.fn 27 = s_pkinds (X.cls 0)) (hln : X.fn 28 = s_len (X.cls 0)) (hwt : X.fn 31 = s_weight (X.cls 0)) (hwo : X.fn 32 = s_worth (X.cls 0)) (ds : List D) (m : Mem) (Q : KD) (h : s_told (X.cls 0) ds m Q) : body X 10 c33 ds m Q := by
  obtain ⟨b, n, k, rfl, hb, no, q⟩ := h
  refine body_cut 1 ?_
  generalize hR : c33.drop 1 = R
  simp only [c33, List.take, hby, hmk, hkd, hln, hwt, hwo, body, exs, ex, ev, evs, evB, evO, evT, evI, startD, List.map_cons, List.map_nil, List.length_cons, List.length_nil, Nat.reduceAdd, Nat.reduceSub, List.replicate, List.cons_append, List.nil_append, List.append_nil, List.getElem?_cons_zero, List.getElem?_cons_succ, Option.some.injEq, exists_and_left, exists_eq_left', exists_eq_left, exists_eq, ix_tup, at0, at1, at2, op_add', op_sub', op_mul', op_fdiv', op_mod', op_pow', op_addT, cm_lt, cm_le, cm_gt, cm_ge, cm_eq, cm_ne, cm_eqS, cm_neS, onb, oni, yn_gd, yn_cls, Nat.reduceLT, if_true, if_false, true_and, and_true, List.set_cons_zero, List.set_cons_succ, set_nm, set_tup, set_nil, set_cons, ifb, b1_abs, b1_int, b1_intB, b1_lenT, b1_lenL, b1_tupL, b1_tupT, b2_min, b2_max, seq_tup, seq_lst, seq_sq, gd_sq, ix_sq, len_sq, new_t, new_f, gd_tup, gd_lst, ix_lst, ty_int, ty_tup, ty_str, isi_ii, isi_ib, isi_tt, isi_ss, reduceIte, Bool.true_eq_false, Bool.false_eq_true, Bool.not_true, Bool.not_false,  List.zip_cons_cons, List.zip_nil_right, List.foldl_cons, List.foldl_nil, ne_eq, not_false_eq_true, not_true_eq_false, Bool.not_eq_true', decide_eq_false_iff_not, decide_eq_true_eq, reduceCtorEq, List.cons.injEq, and_self, D.ref.injEq, Cell.obj.injEq, D.int.injEq]
  simp only [own_marks isOwn_data, own_kinds isOwn_data, len_strs, hb.m.len, body, exs, ex, ev, evs, evB, evO, evT, evI, startD, List.map_cons, List.map_nil, List.length_cons, List.length_nil, Nat.reduceAdd, Nat.reduceSub, List.replicate, List.cons_append, List.nil_append, List.append_nil, List.getElem?_cons_zero, List.getElem?_cons_succ, Option.some.injEq, exists_and_left, exists_eq_left', exists_eq_left, exists_eq, ix_tup, at0, at1, at2, op_add', op_sub', op_mul', op_fdiv', op_mod', op_pow', op_addT, cm_lt, cm_le, cm_gt, cm_ge, cm_eq, cm_ne, cm_eqS, cm_neS, onb, oni, yn_gd, yn_cls, Nat.reduceLT, if_true, if_false, true_and, and_true, List.set_cons_zero, List.set_cons_succ, set_nm, set_tup, set_nil, set_cons, ifb, b1_abs, b1_int, b1_intB, b1_lenT, b1_lenL, b1_tupL, b1_tupT, b2_min, b2_max, seq_tup, seq_lst, seq_sq, gd_sq, ix_sq, len_sq, new_t, new_f, gd_tup, gd_lst, ix_lst, ty_int, ty_tup, ty_str, isi_ii, isi_ib, isi_tt, isi_ss, reduceIte, Bool.true_eq_false, Bool.false_eq_true, Bool.not_true, Bool.not_false,  List.zip_cons_cons, List.zip_nil_right, List.foldl_cons, List.foldl_nil, ne_eq, not_false_eq_true, not_true_eq_false, Bool.not_eq_true', decide_eq_false_iff_not, decide_eq_true_eq, reduceCtorEq, List.cons.injEq, and_self, D.ref.injEq, Cell.obj.injEq, D.int.injEq]
  have hn4 := hb.n4
  refine ⟨by unfold small62; omega, by unfold small62; omega, by omega, by decide, ?_⟩
  rw [rgD_nat, ← hR]
  generalize hR' : c33.drop 3 = R'
  have e1 : c33.drop 1 = (c33.drop 1).take 2 ++ R' := by rw [← hR']; rfl
  rw [e1, exs_app]
  simp only [c33, List.drop, List.take, hby, hmk, hkd, hln, hwt, hwo, body, exs, ex, ev, evs, evB, evO, evT, evI, startD, List.map_cons, List.map_nil, List.length_cons, List.length_nil, Nat.reduceAdd, Nat.reduceSub, List.replicate, List.cons_append, List.nil_append, List.append_nil, List.getElem?_cons_zero, List.getElem?_cons_succ, Option.some.injEq, exists_and_left, exists_eq_left', exists_eq_left, exists_eq, ix_tup, at0, at1, at2, op_add', op_sub', op_mul', op_fdiv', op_mod', op_pow', op_addT, cm_lt, cm_le, cm_gt, cm_ge, cm_eq, cm_ne, cm_eqS, cm_neS, onb, oni, yn_gd, yn_cls, Nat.reduceLT, if_true, if_false, true_and, and_true, List.set_cons_zero, List.set_cons_succ, set_nm, set_tup, set_nil, set_cons, ifb, b1_abs, b1_int, b1_intB, b1_lenT, b1_lenL, b1_tupL, b1_tupT, b2_min, b2_max, seq_tup, seq_lst, seq_sq, gd_sq, ix_sq, len_sq, new_t, new_f, gd_tup, gd_lst, ix_lst, ty_int, ty_tup, ty_str, isi_ii, isi_ib, isi_tt, isi_ss, reduceIte, Bool.true_eq_false, Bool.false_eq_true, Bool.not_true, Bool.not_false,  List.zip_cons_cons, List.zip_nil_right, List.foldl_cons, List.foldl_nil, ne_eq, not_false_eq_true, not_true_eq_false, Bool.not_eq_true', decide_eq_false_iff_not, decide_eq_true_eq, reduceCtorEq, List.cons.injEq, and_self, D.ref.injEq, Cell.obj.injEq, D.int.injEq]
  have hml := hb.m.len
  have hkl := hb.kn.len
  have hk3 := hb.k3
  have hby1 := hb.by_ok.small
  refine ⟨_, _, rfl, b, rfl, _, _, rfl, b, rfl, _, _, rfl, b, rfl, _, _, rfl, b, rfl, _, rfl, by omega, by decide, ?_⟩
  have S1 : Shw 40 (.tup [.int b.by_, strsD b.marks, strsD b.kinds, .int (n : Int)]) := (Shws.cons (shw_int hby1) (Shws.cons (shw_strs hb.m) (Shws.cons (shw_strs hb.kn) (Shws.cons (shw_nat (by omega)) .nil)))).tup
  have Z1 : (D.tup [.int b.by_, strsD b.marks, strsD b.kinds, .int (n : Int)]).sz ≤ 1000000 := by
    have h1 := sz_strs hb.m
    have h2 := sz_strs hb.kn
    simp only [D.sz, szs]; omega
  rw [hml]
  refine repr_go S1 rfl Z1 ?_
  rw [own_by isOwn_data, len_strs, hml]
  refine ⟨by decide, repr_go S1 rfl Z1 ?_⟩
  rw [cm_neS, decide_eq_true rfl, onB_bl, if_neg (by decide)]
  refine ⟨(marksP b).map (fun z => D.str z.1), by rw [marks_fst hb]; rfl, ?_⟩
  refine lc_pureW (marksP b) (fun z => D.str z.1) (fun z => D.int z.2) (fun _ _ _ => trivial) (fun z hz p' acc K hp' kK => ?_) ?_
  · obtain ⟨i, hi, rfl⟩ := List.mem_iff_getElem.mp hz
    have hi1 : i < b.marks.length := by unfold marksP at hi; rw [List.length_zip] at hi; omega
    have hi2 : i < b.wts.length := by unfold marksP at hi; rw [List.length_zip] at hi; omega
    have ez : (marksP b)[i] = (b.marks[i], b.wts[i]) := List.getElem_zip
    refine ⟨_, rfl, _, _, rfl, by decide, _, rfl, b, i, _, _, rfl, hb.m.nd, ?_, ?_, kK⟩
    · rw [ez]; exact List.getElem?_eq_getElem hi1
    · rw [ez]; exact List.getElem?_eq_getElem hi2
  rw [wts_snd hb]
  have hw12 : ∀ x ∈ b.wts, x.natAbs ≤ 10 ^ 12 := fun x hx => (hb.w x hx).2.le hb.by_ok
  have Z2 : (D.lst (b.wts.map D.int)).sz ≤ 1000000 := by
    have := sz_ints (l := b.wts)
    rw [hb.wl] at this; omega
  refine repr_go (shw_ints hw12) rfl Z2 ?_
  rw [own_weights isOwn_data]
  refine ⟨_, rfl, ?_⟩
  rw [new_f]
  refine repr_go (shw_ints hw12) rfl Z2 ?_
  rw [cm_neS, decide_eq_true rfl, onB_bl, if_neg (by decide), ← hR']
  simp only [c33, List.drop, hby, hmk, hkd, hln, hwt, hwo, body, exs, ex, ev, evs, evB, evO, evT, evI, startD, List.map_cons, List.map_nil, List.length_cons, List.length_nil, Nat.reduceAdd, Nat.reduceSub, List.replicate, List.cons_append, List.nil_append, List.append_nil, List.getElem?_cons_zero, List.getElem?_cons_succ, Option.some.injEq, exists_and_left, exists_eq_left', exists_eq_left, exists_eq, ix_tup, at0, at1, at2, op_add', op_sub', op_mul', op_fdiv', op_mod', op_pow', op_addT, cm_lt, cm_le, cm_gt, cm_ge, cm_eq, cm_ne, cm_eqS, cm_neS, onb, oni, yn_gd, yn_cls, Nat.reduceLT, if_true, if_false, true_and, and_true, List.set_cons_zero, List.set_cons_succ, set_nm, set_tup, set_nil, set_cons, ifb, b1_abs, b1_int, b1_intB, b1_lenT, b1_lenL, b1_tupL, b1_tupT, b2_min, b2_max, seq_tup, seq_lst, seq_sq, gd_sq, ix_sq, len_sq, new_t, new_f, gd_tup, gd_lst, ix_lst, ty_int, ty_tup, ty_str, isi_ii, isi_ib, isi_tt, isi_ss, reduceIte, Bool.true_eq_false, Bool.false_eq_true, Bool.not_true, Bool.not_false,  List.zip_cons_cons, List.zip_nil_right, List.foldl_cons, List.foldl_nil, ne_eq, not_false_eq_true, not_true_eq_false, Bool.not_eq_true', decide_eq_false_iff_not, decide_eq_true_eq, reduceCtorEq, List.cons.injEq, and_self, D.ref.injEq, Cell.obj.injEq, D.int.injEq]
  refine ⟨(kindsP b).map (fun z => D.str z.1), by rw [kinds_fst hb]; rfl, ?_⟩
  refine for_inv (fun z => D.str z.1) (fun i r M => ∃ o5 o6 o7, r = [some (ownD b), some (obD (X.cls 0) b), some (strsD b.marks), some (strsD b.kinds), some (.lst (nsD n)), o5, o6, o7, none, none] ∧ m = M) (kindsP b) 0 _ _ ⟨none, none, none, rfl, rfl⟩ ?_ ?_
  · rintro c hc r M N ⟨o5, o6, o7, rfl, rfl⟩ kN
    have hc1 : c < b.kinds.length := by unfold kindsP at hc; rw [List.length_zip] at hc; omega
    have hc2 : c < b.tabs.length := by unfold kindsP at hc; rw [List.length_zip] at hc; omega
    have ec : (kindsP b)[c] = (b.kinds[c], b.tabs[c]) := List.getElem_zip
    have hot := hb.tab _ (List.getElem_mem hc2)
    have hkc := List.getElem?_eq_getElem hc1
    have htc := List.getElem?_eq_getElem hc2
    refine ⟨trivial, _, rfl, _, rfl, ?_⟩
    rw [ec]
    generalize b.kinds[c] = kd at hkc ⊢
    generalize b.tabs[c] = t at hot htc
    refine for_inv (fun i : Nat => D.int (i : Int)) (fun i r M => ∃ o6 o7, r = [some (ownD b), some (obD (X.cls 0) b), some (strsD b.marks), some (strsD b.kinds), some (.lst (nsD n)), some (.str kd), o6, o7, none, none] ∧ m = M) (List.range n) 0 _ _ ⟨o6, o7, rfl, rfl⟩ ?_ ?_
    · rintro a ha r M N' ⟨o6, o7, rfl, rfl⟩ kN'
      rw [List.length_range] at ha
      rw [List.getElem_range]
      obtain ⟨r, hr⟩ : ∃ r, t[a]? = some r := ⟨_, List.getElem?_eq_getElem (by rw [hot.1]; exact ha)⟩
      have hro := hot.2 r (List.mem_of_getElem? hr)
      obtain ⟨x, hx⟩ : ∃ x, b.marks[a]? = some x := ⟨_, List.getElem?_eq_getElem (by rw [hml]; exact ha)⟩
      refine ⟨trivial, _, rfl, ?_⟩
      refine ⟨_, rfl, ?_⟩
      refine lc_pureW (List.range n) (fun j : Nat => D.int (j : Int)) (fun j => D.int (r.getD j 0)) (fun _ _ _ => trivial) (fun j hj p' acc K hp' kK => ?_) ?_
      · have hj' : j < n := List.mem_range.mp hj
        obtain ⟨y, hy⟩ : ∃ y, b.marks[j]? = some y := ⟨_, List.getElem?_eq_getElem (by rw [hml]; exact hj')⟩
        have hrj : r[j]? = some (r.getD j 0) := by rw [List.getD_eq_getElem?_getD, List.getElem?_eq_getElem (show j < r.length by omega)]; rfl
        try simp only [body, exs, ex, ev, evs, evB, evO, evT, evI, startD, List.map_cons, List.map_nil, List.length_cons, List.length_nil, Nat.reduceAdd, Nat.reduceSub, List.replicate, List.cons_append, List.nil_append, List.append_nil, List.getElem?_cons_zero, List.getElem?_cons_succ, Option.some.injEq, exists_and_left, exists_eq_left', exists_eq_left, exists_eq, ix_tup, at0, at1, at2, op_add', op_sub', op_mul', op_fdiv', op_mod', op_pow', op_addT, cm_lt, cm_le, cm_gt, cm_ge, cm_eq, cm_ne, cm_eqS, cm_neS, onb, oni, yn_gd, yn_cls, Nat.reduceLT, if_true, if_false, true_and, and_true, List.set_cons_zero, List.set_cons_succ, set_nm, set_tup, set_nil, set_cons, ifb, b1_abs, b1_int, b1_intB, b1_lenT, b1_lenL, b1_tupL, b1_tupT, b2_min, b2_max, seq_tup, seq_lst, seq_sq, gd_sq, ix_sq, len_sq, new_t, new_f, gd_tup, gd_lst, ix_lst, ty_int, ty_tup, ty_str, isi_ii, isi_ib, isi_tt, isi_ss, reduceIte, Bool.true_eq_false, Bool.false_eq_true, Bool.not_true, Bool.not_false,  List.zip_cons_cons, List.zip_nil_right, List.foldl_cons, List.foldl_nil, ne_eq, not_false_eq_true, not_true_eq_false, Bool.not_eq_true', decide_eq_false_iff_not, decide_eq_true_eq, reduceCtorEq, List.cons.injEq, and_self, D.ref.injEq, Cell.obj.injEq, D.int.injEq]
        refine ⟨_, rfl, _, _, rfl, by decide, _, rfl, _, rfl, _, rfl, ?_⟩
        rw [ix_strs hx]
        refine ⟨_, rfl, _, rfl, ?_⟩
        rw [ix_strs hy]
        exact ⟨b, n, k, c, a, j, kd, x, y, t, r, _, rfl, hb, hkc, htc, hx, hy, hr, hrj, kK⟩
      rw [range_getD hro.1]
      have Z3 : (D.lst (r.map D.int)).sz ≤ 1000000 := by
        have := sz_ints (l := r)
        rw [hro.1] at this; omega
      have hr12 : ∀ x ∈ r, x.natAbs ≤ 10 ^ 12 := fun x hx => (hro.2 x hx).le hb.by_ok
      refine ⟨_, rfl, repr_go (shw_ints hr12) rfl Z3 ?_⟩
      refine ⟨_, rfl, ?_⟩
      rw [own_tables isOwn_data]
      refine ⟨_, rfl, ?_⟩
      rw [ix_tabs hb.kn.nd hkc htc]
      refine ⟨_, rfl, ?_⟩
      rw [ix_tabD hr]
      refine ⟨_, rfl, ?_⟩
      rw [new_f]
      refine repr_go (shw_ints hr12) rfl Z3 ?_
      rw [cm_neS, decide_eq_true rfl, onB_bl, if_neg (by decide)]
      exact kN' _ _ ⟨_, _, rfl, rfl⟩
    · rintro r M ⟨o6, o7, rfl, rfl⟩
      exact ⟨trivial, kN _ _ ⟨_, _, _, rfl, rfl⟩⟩
  · rintro r M ⟨o5, o6, o7, rfl, rfl⟩
    exact ⟨trivial, _, SubO.refl, q⟩
end Og.Lk00
end
section
set_option maxHeartbeats 4000000
set_option autoImplicit false
set_option pp.deepTerms true
set_option pp.maxSteps 100000
namespace Og.Lk00
open PySem Og TL L2
theorem is_non {x : D} {m : Mem} {Q : KD} (h : ∀ z, x ≠ .bl z) (h' : x ≠ .non) : cmpD .is_ x .non m Q = Q (.bl false) m := by
  cases x <;> first | exact absurd rfl h' | rfl
theorem repr_bl {b : Bool} {m : Mem} {Q : KD} (q : Q (.str (D.bl b).toP.shown) m) : b1D .repr (.bl b) m Q := repr_go shw_bl rfl (by simp only [D.sz]; decide) q
theorem repr_bls (l : List Bool) {m : Mem} {Q : KD} (hl : l.length ≤ 4) (q : Q (.str (D.lst (l.map D.bl)).toP.shown) m) : b1D .repr (.lst (l.map D.bl)) m Q := by
  refine repr_go (shws_map fun _ _ => shw_bl).lst rfl ?_ q
  have := szs_map (c := 5) (f := D.bl) (l := l) fun x hx => by simp only [D.sz]; omega
  simp only [D.sz]; omega
theorem frz_book {b : Bk} {t : Addr} {M : Mem} (h : M t = some (.dK (b.kinds.map Sum.inr) (b.tabs.map (ptD b.marks)))) : frzs M (v6 b t) (obV b) (del M t) :=
  ⟨_, _, rfl, .inl ⟨rfl, _, _, rfl, .inl ⟨rfl, _, _, rfl, .inl ⟨rfl, _, _, rfl, .inl ⟨rfl, _, _, rfl, .inl ⟨rfl, _, _, rfl, .inr ⟨t, _, rfl, h, rfl, rfl, rfl⟩⟩⟩⟩⟩⟩⟩
theorem mk_book {C : Addr} {b : Bk} {n k : Nat} {m : Mem} {G : List Str → List D → Mem → Prop} (hb : BkOk b n k) (no : NoObj m) (q : ∀ M, Kx m M → G obN (obV b) M) : ∀ p, m p = none →
    s_init C [.ref p, .str (textB b)] (put m p (.ins C [] [])) fun d m2 => d = .non ∧ ∃ ns vs, m2 p = some (.ins C ns vs) ∧ ∃ vs' m3, frzs (del m2 p) vs vs' m3 ∧ G ns vs' m3 := by
  intro p hp
  refine ⟨b, n, k, p, rfl, hb, no.put oI, put_same, fun t M hpt ht hx hMp hMt => ⟨rfl, obN, v6 b t, hMp, obV b, del (del M p) t, frz_book (by rw [del_ne hpt.symm]; exact hMt), q _ ⟨fun a c e => ?_, hx.no.del.del⟩⟩⟩
  have nt : m t = none := by rw [put_ne hpt.symm] at ht; exact ht
  have hap : a ≠ p := ne_of_mem e hp
  rw [del_ne (ne_of_mem e nt), del_ne hap]
  exact hx.keep a c hap (by rw [put_ne hap]; exact e)
def s_right : Spec := fun ds m Q => ∃ (p : Addr), ds = [.ref p] ∧ Pot 0 m p ∧ NoObj m ∧ ∀ M, Ux m M p → Q (.bl true) M
theorem right_rest {X : Ctx} (hpt : X.fn 34 = s_ptext (X.cls 0)) (hod : X.fn 36 = s_odd) (hco : X.fn 29 = s_contains (X.cls 0)) (heq : X.fn 37 = s_eq (X.cls 0)) (hto : X.fn 33 = s_told (X.cls 0)) (htx : X.fn 9 = s_text) (hin : X.fn 19 = s_init (X.cls 0))
    {b b' : Bk} {n k n' k' L : Nat} {x1 : D} {p : Addr} {m : Mem} {Q : KD} (hb : BkOk b n k) (hb' : BkOk b' n' k') (hp : Pot L m p) (hL : L ≤ 10000) (no : NoObj m) (q : ∀ M, Ux m M p → Q (.bl true) M) :
    exs X (c38.drop 4) [some (.ref p), some x1, some (ownD b), some (.str (textB b)), some (obD (X.cls 0) b), some (ownD b'), none, none, none, none, none] m (endK Q) := by
  generalize hR : c38.drop 5 = R
  have e4 : c38.drop 4 = (c38.drop 4).take 1 ++ R := by rw [← hR]; rfl
  rw [e4, exs_app]
  simp only [c38, List.drop, List.take, hpt, hod, hco, heq, hto, htx, hin, body, exs, ex, ev, evs, evB, evO, evT, evI, startD, List.map_cons, List.map_nil, List.length_cons, List.length_nil, Nat.reduceAdd, Nat.reduceSub, List.replicate, List.cons_append, List.nil_append, List.append_nil, List.getElem?_cons_zero, List.getElem?_cons_succ, Option.some.injEq, exists_and_left, exists_eq_left', exists_eq_left, exists_eq, ix_tup, at0, at1, at2, op_add', op_sub', op_mul', op_fdiv', op_mod', op_pow', op_addT, cm_lt, cm_le, cm_gt, cm_ge, cm_eq, cm_ne, cm_eqS, cm_neS, onb, oni, yn_gd, yn_cls, Nat.reduceLT, if_true, if_false, true_and, and_true, List.set_cons_zero, List.set_cons_succ, set_nm, set_tup, set_nil, set_cons, ifb, b1_abs, b1_int, b1_intB, b1_lenT, b1_lenL, b1_tupL, b1_tupT, b2_min, b2_max, seq_tup, seq_lst, seq_sq, gd_sq, ix_sq, len_sq, new_t, new_f, gd_tup, gd_lst, ix_lst, ty_int, ty_tup, ty_str, isi_ii, isi_ib, isi_tt, isi_ss, reduceIte, Bool.true_eq_false, Bool.false_eq_true, Bool.not_true, Bool.not_false,  List.zip_cons_cons, List.zip_nil_right, List.foldl_cons, List.foldl_nil, ne_eq, not_false_eq_true, not_true_eq_false, Bool.not_eq_true', decide_eq_false_iff_not, decide_eq_true_eq, reduceCtorEq, List.cons.injEq, and_self, D.ref.injEq, Cell.obj.injEq, D.int.injEq]
  refine ⟨b, n, k, rfl, hb, no, ?_⟩
  dsimp only
  rw [onB_bl, if_neg (by decide)]
  refine ⟨_, _, rfl, b, rfl, ?_⟩
  dsimp only
  rw [cm_neS, decide_eq_true rfl, onB_bl, if_neg (by decide), ← hR]
  generalize hR2 : c38.drop 6 = R2
  have e5 : c38.drop 5 = (c38.drop 5).take 1 ++ R2 := by rw [← hR2]; rfl
  rw [e5, exs_app]
  simp only [c38, List.drop, List.take, hpt, hod, hco, heq, hto, htx, hin, body, exs, ex, ev, evs, evB, evO, evT, evI, startD, List.map_cons, List.map_nil, List.length_cons, List.length_nil, Nat.reduceAdd, Nat.reduceSub, List.replicate, List.cons_append, List.nil_append, List.append_nil, List.getElem?_cons_zero, List.getElem?_cons_succ, Option.some.injEq, exists_and_left, exists_eq_left', exists_eq_left, exists_eq, ix_tup, at0, at1, at2, op_add', op_sub', op_mul', op_fdiv', op_mod', op_pow', op_addT, cm_lt, cm_le, cm_gt, cm_ge, cm_eq, cm_ne, cm_eqS, cm_neS, onb, oni, yn_gd, yn_cls, Nat.reduceLT, if_true, if_false, true_and, and_true, List.set_cons_zero, List.set_cons_succ, set_nm, set_tup, set_nil, set_cons, ifb, b1_abs, b1_int, b1_intB, b1_lenT, b1_lenL, b1_tupL, b1_tupT, b2_min, b2_max, seq_tup, seq_lst, seq_sq, gd_sq, ix_sq, len_sq, new_t, new_f, gd_tup, gd_lst, ix_lst, ty_int, ty_tup, ty_str, isi_ii, isi_ib, isi_tt, isi_ss, reduceIte, Bool.true_eq_false, Bool.false_eq_true, Bool.not_true, Bool.not_false,  List.zip_cons_cons, List.zip_nil_right, List.foldl_cons, List.foldl_nil, ne_eq, not_false_eq_true, not_true_eq_false, Bool.not_eq_true', decide_eq_false_iff_not, decide_eq_true_eq, reduceCtorEq, List.cons.injEq, and_self, D.ref.injEq, Cell.obj.injEq, D.int.injEq]
  rw [own_marks isOwn_data]
  have hml := hb.m.len
  have hkl := hb.kn.len
  have hn4 := hb.n4
  have hk3 := hb.k3
  refine ⟨_, rfl, ?_⟩
  rw [new_f, own_kinds isOwn_data]
  refine ⟨_, rfl, ?_⟩
  rw [new_f, op_addLL]
  refine ⟨by rw [List.length_map, List.length_map]; omega, by decide, by decide, ?_⟩
  rw [show rgD 0 4 = (List.range 4).map (fun i : Nat => D.int (i : Int)) from rfl]
  refine lc_draw (k := 1) (List.range 4) (fun i : Nat => D.int (i : Int)) (fun _ d => OddD d) hp no (fun i hi M K u p' kK => ?_) (fun es M hes u1 p1 => ?_)
  · rw [List.length_range] at hi
    exact ⟨_, rfl, p, _, rfl, p', by omega, fun d m' hd c' pq => kK d m' ((Ux.refl p' u.no).chg c') pq hd⟩
  have hel : es.length = 4 := by rw [← hes.length]; rfl
  rw [op_addLL]
  refine ⟨by simp only [List.length_append, List.length_map]; omega, ?_⟩
  rw [own_marks isOwn_data]
  refine ⟨_, rfl, ?_⟩
  rw [new_f, op_addLL]
  refine ⟨by decide, by simp only [List.length_append, List.length_map, List.length_cons, List.length_nil]; omega, _, rfl, ?_⟩
  have hodd : ∀ d ∈ List.map D.str b.marks ++ List.map D.str b.kinds ++ es ++ [D.lst (List.map D.str b.marks)], OddD d := fun d hd => by
    simp only [List.mem_append, List.mem_map, List.mem_cons, List.not_mem_nil, or_false] at hd
    rcases hd with ((⟨x, _, rfl⟩ | ⟨x, _, rfl⟩) | hd) | rfl
    · exact .inl ⟨_, rfl⟩
    · exact .inl ⟨_, rfl⟩
    · exact (paired_all hes) d hd
    · exact .inr ⟨"list", fun _ => rfl, by decide⟩
  generalize List.map D.str b.marks ++ List.map D.str b.kinds ++ es ++ [D.lst (List.map D.str b.marks)] = vs at hodd
  rw [show vs = vs.map id from (List.map_id vs).symm]
  refine for_inv id (fun i r M' => ∃ o6 o7, r = [some (.ref p), some x1, some (ownD b), some (.str (textB b)), some (obD (X.cls 0) b), some (ownD b'), o6, o7, none, none, none] ∧ M' = M) vs 0 _ _ ⟨none, none, rfl, rfl⟩ ?_ ?_
  · rintro i hi r M' N ⟨o6, o7, rfl, rfl⟩ kN
    refine ⟨trivial, ?_⟩
    have hd := hodd _ (List.getElem_mem hi)
    generalize vs[i] = d at hd
    rcases hd with ⟨z, rfl⟩ | ⟨t, ht, hs⟩
    · simp only [id, body, exs, ex, ev, evs, evB, evO, evT, evI, startD, List.map_cons, List.map_nil, List.length_cons, List.length_nil, Nat.reduceAdd, Nat.reduceSub, List.replicate, List.cons_append, List.nil_append, List.append_nil, List.getElem?_cons_zero, List.getElem?_cons_succ, Option.some.injEq, exists_and_left, exists_eq_left', exists_eq_left, exists_eq, ix_tup, at0, at1, at2, op_add', op_sub', op_mul', op_fdiv', op_mod', op_pow', op_addT, cm_lt, cm_le, cm_gt, cm_ge, cm_eq, cm_ne, cm_eqS, cm_neS, onb, oni, yn_gd, yn_cls, Nat.reduceLT, if_true, if_false, true_and, and_true, List.set_cons_zero, List.set_cons_succ, set_nm, set_tup, set_nil, set_cons, ifb, b1_abs, b1_int, b1_intB, b1_lenT, b1_lenL, b1_tupL, b1_tupT, b2_min, b2_max, seq_tup, seq_lst, seq_sq, gd_sq, ix_sq, len_sq, new_t, new_f, gd_tup, gd_lst, ix_lst, ty_int, ty_tup, ty_str, isi_ii, isi_ib, isi_tt, isi_ss, reduceIte, Bool.true_eq_false, Bool.false_eq_true, Bool.not_true, Bool.not_false,  List.zip_cons_cons, List.zip_nil_right, List.foldl_cons, List.foldl_nil, ne_eq, not_false_eq_true, not_true_eq_false, Bool.not_eq_true', decide_eq_false_iff_not, decide_eq_true_eq, reduceCtorEq, List.cons.injEq, and_self, D.ref.injEq, Cell.obj.injEq, D.int.injEq]
      rw [own_marks isOwn_data, in_strs (l := b.marks) rfl (fun y z => by cases z)]
      refine ⟨_, _, rfl, b, _, rfl, .inl ⟨z, rfl, ?_⟩⟩
      dsimp only
      rw [onB_bl, Bool.bne_false]
      refine repr_bl (repr_bl ?_)
      rw [cm_neS, decide_eq_true rfl, onB_bl, if_neg (by decide)]
      exact kN _ _ ⟨_, _, rfl, rfl⟩
    · simp only [id, ht, hs, body, exs, ex, ev, evs, evB, evO, evT, evI, startD, List.map_cons, List.map_nil, List.length_cons, List.length_nil, Nat.reduceAdd, Nat.reduceSub, List.replicate, List.cons_append, List.nil_append, List.append_nil, List.getElem?_cons_zero, List.getElem?_cons_succ, Option.some.injEq, exists_and_left, exists_eq_left', exists_eq_left, exists_eq, ix_tup, at0, at1, at2, op_add', op_sub', op_mul', op_fdiv', op_mod', op_pow', op_addT, cm_lt, cm_le, cm_gt, cm_ge, cm_eq, cm_ne, cm_eqS, cm_neS, onb, oni, yn_gd, yn_cls, Nat.reduceLT, if_true, if_false, true_and, and_true, List.set_cons_zero, List.set_cons_succ, set_nm, set_tup, set_nil, set_cons, ifb, b1_abs, b1_int, b1_intB, b1_lenT, b1_lenL, b1_tupL, b1_tupT, b2_min, b2_max, seq_tup, seq_lst, seq_sq, gd_sq, ix_sq, len_sq, new_t, new_f, gd_tup, gd_lst, ix_lst, ty_int, ty_tup, ty_str, isi_ii, isi_ib, isi_tt, isi_ss, reduceIte, Bool.true_eq_false, Bool.false_eq_true, Bool.not_true, Bool.not_false,  List.zip_cons_cons, List.zip_nil_right, List.foldl_cons, List.foldl_nil, ne_eq, not_false_eq_true, not_true_eq_false, Bool.not_eq_true', decide_eq_false_iff_not, decide_eq_true_eq, reduceCtorEq, List.cons.injEq, and_self, D.ref.injEq, Cell.obj.injEq, D.int.injEq]
      refine ⟨_, _, rfl, b, _, rfl, .inr ⟨t, ht _, hs, ?_⟩⟩
      dsimp only
      rw [onB_bl, Bool.bne_false]
      refine repr_bl (repr_bl ?_)
      rw [cm_neS, decide_eq_true rfl, onB_bl, if_neg (by decide)]
      exact kN _ _ ⟨_, _, rfl, rfl⟩
  · rintro r M' ⟨o6, o7, rfl, rfl⟩
    refine ⟨trivial, ?_⟩
    rw [← hR2]
    simp only [c38, List.drop, List.take, hpt, hod, hco, heq, hto, htx, hin, body, exs, ex, ev, evs, evB, evO, evT, evI, startD, List.map_cons, List.map_nil, List.length_cons, List.length_nil, Nat.reduceAdd, Nat.reduceSub, List.replicate, List.cons_append, List.nil_append, List.append_nil, List.getElem?_cons_zero, List.getElem?_cons_succ, Option.some.injEq, exists_and_left, exists_eq_left', exists_eq_left, exists_eq, ix_tup, at0, at1, at2, op_add', op_sub', op_mul', op_fdiv', op_mod', op_pow', op_addT, cm_lt, cm_le, cm_gt, cm_ge, cm_eq, cm_ne, cm_eqS, cm_neS, onb, oni, yn_gd, yn_cls, Nat.reduceLT, if_true, if_false, true_and, and_true, List.set_cons_zero, List.set_cons_succ, set_nm, set_tup, set_nil, set_cons, ifb, b1_abs, b1_int, b1_intB, b1_lenT, b1_lenL, b1_tupL, b1_tupT, b2_min, b2_max, seq_tup, seq_lst, seq_sq, gd_sq, ix_sq, len_sq, new_t, new_f, gd_tup, gd_lst, ix_lst, ty_int, ty_tup, ty_str, isi_ii, isi_ib, isi_tt, isi_ss, reduceIte, Bool.true_eq_false, Bool.false_eq_true, Bool.not_true, Bool.not_false,  List.zip_cons_cons, List.zip_nil_right, List.foldl_cons, List.foldl_nil, ne_eq, not_false_eq_true, not_true_eq_false, Bool.not_eq_true', decide_eq_false_iff_not, decide_eq_true_eq, reduceCtorEq, List.cons.injEq, and_self, D.ref.injEq, Cell.obj.injEq, D.int.injEq]
    refine ⟨ownD b', b', n', k', rfl, hb', u1.no, ownS_data, fun M2 k2 => ?_⟩
    refine ⟨_, _, rfl, b, rfl, ?_⟩
    dsimp only
    refine mk_book hb k2.no fun M3 k3 => ?_
    refine ⟨_, _, rfl, .inr ⟨_, _, rfl⟩, b, _, rfl, .inl ⟨b, rfl, ?_⟩⟩
    dsimp only
    rw [decide_eq_true rfl, onB_bl]
    refine ⟨_, _, rfl, .inr ⟨_, _, rfl⟩, b, _, rfl, .inl ⟨b, rfl, ?_⟩⟩
    dsimp only
    rw [decide_eq_true rfl, onB_bl]
    refine ⟨_, _, rfl, .inl ⟨_, rfl⟩, b, _, rfl, .inr ⟨_, rfl, ?_⟩⟩
    dsimp only
    rw [onB_bl]
    rw [is_non (show ∀ z, obD (X.cls 0) b ≠ .bl z from fun z e => by cases e) (fun e => by cases e)]
    refine ⟨by decide, repr_bls [true, false, false, false] (by decide) ⟨by decide, repr_bls [true, false, false, false] (by decide) ?_⟩⟩
    rw [cm_neS, decide_eq_true rfl, onB_bl, if_neg (by decide)]
    refine mk_book hb' k3.no fun M4 k4 => ?_
    refine ⟨_, _, rfl, .inr ⟨_, _, rfl⟩, b', _, rfl, .inl ⟨b, rfl, ?_⟩⟩
    dsimp only
    rw [onB_bl]
    refine mk_book hb' k4.no fun M5 k5 => ?_
    refine ⟨_, _, rfl, .inr ⟨_, _, rfl⟩, b, _, rfl, .inl ⟨b', rfl, ?_⟩⟩
    dsimp only
    rw [onB_bl]
    simp only [cm_eqS]
    simp only [cm_neS (s := textB b') (t := textB b)]
    have e1 : decide (textB b = textB b') = decide (textB b' = textB b) := decide_eq_decide.mpr ⟨Eq.symm, Eq.symm⟩
    rw [e1, Bool.bne_false, Bool.bne_true]
    generalize decide (textB b' = textB b) = c
    refine ⟨by decide, repr_bls [c, !c] (by simp) ⟨by decide, repr_bls [c, !c] (by simp) ?_⟩⟩
    rw [cm_neS, decide_eq_true rfl, onB_bl, if_neg (by decide)]
    refine mk_book hb' k5.no fun M6 k6 => ?_
    refine ⟨b', n', k', rfl, hb', k6.no, ?_⟩
    dsimp only
    rw [onB_bl, if_pos rfl]
    refine ⟨b, n, k, rfl, hb, k6.no, _, SubO.refl, q _ ?_⟩
    exact ((((u1.kx k2).kx k3).kx k4).kx k5).kx k6
theorem law_right {X : Ctx} (hof : X.fn 1 = s_of) (hpr : X.fn 35 = s_primes) (hdr : X.fn 8 = s_drawn) (htx : X.fn 9 = s_text) (hot : X.fn 24 = s_other) (hin : X.fn 19 = s_init (X.cls 0)) (hto : X.fn 33 = s_told (X.cls 0)) (hpt : X.fn 34 = s_ptext (X.cls 0)) (hod : X.fn 36 = s_odd) (hco : X.fn 29 = s_contains (X.cls 0)) (heq : X.fn 37 = s_eq (X.cls 0)) (ds : List D) (m : Mem) (Q : KD) (h : s_right ds m Q) : body X 11 c38 ds m Q := by
  obtain ⟨p, rfl, hp, no, q⟩ := h
  refine body_cut 4 ?_
  generalize hR : c38.drop 4 = R
  simp only [c38, List.take, hof, hpr, hdr, htx, hot, hin, body, exs, ex, ev, evs, evB, evO, evT, evI, startD, List.map_cons, List.map_nil, List.length_cons, List.length_nil, Nat.reduceAdd, Nat.reduceSub, List.replicate, List.cons_append, List.nil_append, List.append_nil, List.getElem?_cons_zero, List.getElem?_cons_succ, Option.some.injEq, exists_and_left, exists_eq_left', exists_eq_left, exists_eq, ix_tup, at0, at1, at2, op_add', op_sub', op_mul', op_fdiv', op_mod', op_pow', op_addT, cm_lt, cm_le, cm_gt, cm_ge, cm_eq, cm_ne, cm_eqS, cm_neS, onb, oni, yn_gd, yn_cls, Nat.reduceLT, if_true, if_false, true_and, and_true, List.set_cons_zero, List.set_cons_succ, set_nm, set_tup, set_nil, set_cons, ifb, b1_abs, b1_int, b1_intB, b1_lenT, b1_lenL, b1_tupL, b1_tupT, b2_min, b2_max, seq_tup, seq_lst, seq_sq, gd_sq, ix_sq, len_sq, new_t, new_f, gd_tup, gd_lst, ix_lst, ty_int, ty_tup, ty_str, isi_ii, isi_ib, isi_tt, isi_ss, reduceIte, Bool.true_eq_false, Bool.false_eq_true, Bool.not_true, Bool.not_false,  List.zip_cons_cons, List.zip_nil_right, List.foldl_cons, List.foldl_nil, ne_eq, not_false_eq_true, not_true_eq_false, Bool.not_eq_true', decide_eq_false_iff_not, decide_eq_true_eq, reduceCtorEq, List.cons.injEq, and_self, D.ref.injEq, Cell.obj.injEq, D.int.injEq]
  refine ⟨rfl, p, 0, _, _, rfl, hp, by decide, by decide, by decide, fun _ _ => rfl, fun pr m1 hpr1 c1 p1 => ?_⟩
  obtain ⟨x1, hx1, rfl⟩ := List.mem_map.mp hpr1
  have u1 := (Ux.refl hp no).chg c1
  refine ⟨by decide, p, _, _, _, rfl, p1, by decide, by simp, by simp, fun _ _ => rfl, fun bd m2 hbd c2 p2 => ?_⟩
  have u2 := u1.chg c2
  obtain ⟨by_, rfl, hby⟩ : ∃ y : Int, bd = .int y ∧ OkBy y := by
    simp only [List.mem_cons, List.not_mem_nil, or_false] at hbd
    rcases hbd with rfl | rfl | rfl | rfl | rfl | rfl | rfl | rfl
    · exact ⟨_, rfl, .inl rfl⟩
    · exact ⟨_, rfl, .inl rfl⟩
    · exact ⟨_, rfl, .inl rfl⟩
    · exact ⟨_, rfl, .inr (by decide)⟩
    · exact ⟨_, rfl, .inr (by decide)⟩
    · exact ⟨_, rfl, .inr (by decide)⟩
    · exact ⟨_, rfl, .inr (by decide)⟩
    · exact ⟨_, rfl, .inr hx1⟩
  refine ⟨by decide, by decide, p, _, 3, [by_], [1, 2, 3, 4, 2], false, rfl, by simpa using hby, by decide, by simp, by decide, by simp, by decide, by decide, by decide, p2, by decide, u2.no, fun b n k M3 hb _ _ _ u3 p3 => ?_⟩
  refine ⟨ownD b, b, n, k, rfl, hb, u3.no, ownS_data, fun M4 k4 => ?_⟩
  refine mk_book hb k4.no fun M5 k5 => ?_
  refine ⟨by decide, p, _, n, k, [1, 2, 3, 4], b, false, rfl, hb, by decide, by decide, by decide, (p3.kx k4).kx k5, by decide, k5.no, fun b' n' M6 hb' _ u6 p6 => ?_⟩
  rw [← hR]
  exact right_rest hpt hod hco heq hto htx hin hb hb' p6 (by decide) u6.no fun M u => q M ((((((u2.trans u3).kx k4).kx k5).trans u6)).trans u)
end Og.Lk00
end
section
set_option maxHeartbeats 4000000
set_option autoImplicit false
set_option pp.deepTerms true
set_option pp.maxSteps 100000
namespace Og.Lk00
open PySem Og TL L2
theorem law_law {X : Ctx} (hce : X.fn 40 = s_cells) (hpo : X.fn 39 = s_pot) (hri : X.fn 38 = s_right) (ds : List D) (m : Mem) (Q : KD) (h : spLaw ds m Q) : body X 2 c41 ds m Q := by
  obtain ⟨ns, rfl, hl, no, q⟩ := h
  have no : NoObj m := fun a c e => by rw [no a] at e; cases e
  simp only [c41, hce, hpo, hri, body, exs, ex, ev, evs, evB, evO, evT, evI, startD, List.map_cons, List.map_nil, List.length_cons, List.length_nil, Nat.reduceAdd, Nat.reduceSub, List.replicate, List.cons_append, List.nil_append, List.append_nil, List.getElem?_cons_zero, List.getElem?_cons_succ, Option.some.injEq, exists_and_left, exists_eq_left', exists_eq_left, exists_eq, ix_tup, at0, at1, at2, op_add', op_sub', op_mul', op_fdiv', op_mod', op_pow', op_addT, cm_lt, cm_le, cm_gt, cm_ge, cm_eq, cm_ne, cm_eqS, cm_neS, onb, oni, yn_gd, yn_cls, Nat.reduceLT, if_true, if_false, true_and, and_true, List.set_cons_zero, List.set_cons_succ, set_nm, set_tup, set_nil, set_cons, ifb, b1_abs, b1_int, b1_intB, b1_lenT, b1_lenL, b1_tupL, b1_tupT, b2_min, b2_max, seq_tup, seq_lst, seq_sq, gd_sq, ix_sq, len_sq, new_t, new_f, gd_tup, gd_lst, ix_lst, ty_int, ty_tup, ty_str, isi_ii, isi_ib, isi_tt, isi_ss, reduceIte, Bool.true_eq_false, Bool.false_eq_true, Bool.not_true, Bool.not_false,  List.zip_cons_cons, List.zip_nil_right, List.foldl_cons, List.foldl_nil, ne_eq, not_false_eq_true, not_true_eq_false, Bool.not_eq_true', decide_eq_false_iff_not, decide_eq_true_eq, reduceCtorEq, List.cons.injEq, and_self, D.ref.injEq, Cell.obj.injEq, D.int.injEq]
  refine ⟨ns, rfl, hl, fun n hn => ?_⟩
  try simp only [body, exs, ex, ev, evs, evB, evO, evT, evI, startD, List.map_cons, List.map_nil, List.length_cons, List.length_nil, Nat.reduceAdd, Nat.reduceSub, List.replicate, List.cons_append, List.nil_append, List.append_nil, List.getElem?_cons_zero, List.getElem?_cons_succ, Option.some.injEq, exists_and_left, exists_eq_left', exists_eq_left, exists_eq, ix_tup, at0, at1, at2, op_add', op_sub', op_mul', op_fdiv', op_mod', op_pow', op_addT, cm_lt, cm_le, cm_gt, cm_ge, cm_eq, cm_ne, cm_eqS, cm_neS, onb, oni, yn_gd, yn_cls, Nat.reduceLT, if_true, if_false, true_and, and_true, List.set_cons_zero, List.set_cons_succ, set_nm, set_tup, set_nil, set_cons, ifb, b1_abs, b1_int, b1_intB, b1_lenT, b1_lenL, b1_tupL, b1_tupT, b2_min, b2_max, seq_tup, seq_lst, seq_sq, gd_sq, ix_sq, len_sq, new_t, new_f, gd_tup, gd_lst, ix_lst, ty_int, ty_tup, ty_str, isi_ii, isi_ib, isi_tt, isi_ss, reduceIte, Bool.true_eq_false, Bool.false_eq_true, Bool.not_true, Bool.not_false,  List.zip_cons_cons, List.zip_nil_right, List.foldl_cons, List.foldl_nil, ne_eq, not_false_eq_true, not_true_eq_false, Bool.not_eq_true', decide_eq_false_iff_not, decide_eq_true_eq, reduceCtorEq, List.cons.injEq, and_self, D.ref.injEq, Cell.obj.injEq, D.int.injEq]
  refine lc_keep (List.range n) (fun i : Nat => D.int (i : Int)) (fun _ d => d = .bl true) no (fun i hi M K u kK => ?_) (fun es M hes u => ?_)
  · rw [List.length_range] at hi
    rw [List.getElem_range]
    refine ⟨_, rfl, _, rfl, ns, i, rfl, by omega, fun p m' hm' hp0 hp => ?_⟩
    obtain ⟨l, rfl⟩ := hm'
    refine ⟨p, rfl, hp, u.no.put oL, fun M2 u2 => kK _ _ ⟨fun a c e => ?_, u2.no⟩ rfl⟩
    exact u2.keep a c (ne_of_mem e hp0) (by rw [put_ne (ne_of_mem e hp0)]; exact e)
  · refine ⟨List.replicate es.length true, ?_, ?_⟩
    · show some es = _
      congr 1
      have : ∀ x ∈ es, x = D.bl true := paired_all hes
      exact (List.eq_replicate_iff.mpr ⟨rfl, this⟩).trans (by rw [List.map_replicate])
    · have e : (List.replicate es.length true).all id = true := by simp
      rw [e]
      exact ⟨m, u.no.subO fun a c e => u.keep a c e, q⟩
end Og.Lk00
end
section
set_option maxHeartbeats 4000000
set_option autoImplicit false
namespace Og.Lk00
open PySem Og
def specs (cls : Nat → Addr) : List Spec := [s_take, s_of, s_some, s_names, s_weights, s_twinned, s_table, s_bookof, s_drawn, s_text, s_lines, s_integer, s_by, s_isname, s_isworth, s_takekind, s_takemark, s_istaken, s_read, s_init (cls 0), s_picked, s_renamed, s_split, s_changed, s_other, s_pby (cls 0), s_pmarks (cls 0), s_pkinds (cls 0), s_len (cls 0), s_contains (cls 0), s_check (cls 0), s_weight (cls 0), s_worth (cls 0), s_told (cls 0), s_ptext (cls 0), s_primes, s_odd, s_eq (cls 0), s_right, s_pot, s_cells, spLaw]
def spec (cls : Nat → Addr) (i : Nat) : Spec := (specs cls).getD i fun _ _ _ => False
theorem law_all (cls : Nat → Addr) : ∀ (i : Nat) (r : Row), rows[i]? = some r → ∀ ds m Q, ds.length = r.n → spec cls i ds m Q → body (Yn gd cls (spec cls) i) r.N.length r.b ds m Q
  | 0, r, h, ds, m, Q, hl, hs => by cases h; exact law_take ds m Q hs
  | 1, r, h, ds, m, Q, hl, hs => by cases h; exact law_of rfl ds m Q hs
  | 2, r, h, ds, m, Q, hl, hs => by cases h; exact law_some rfl ds m Q hs
  | 3, r, h, ds, m, Q, hl, hs => by cases h; exact law_names rfl rfl rfl ds m Q hs
  | 4, r, h, ds, m, Q, hl, hs => by cases h; exact law_weights rfl rfl ds m Q hs
  | 5, r, h, ds, m, Q, hl, hs => by cases h; exact law_twinned ds m Q hs
  | 6, r, h, ds, m, Q, hl, hs => by cases h; exact law_table rfl rfl ds m Q hs
  | 7, r, h, ds, m, Q, hl, hs => by cases h; exact law_bookof rfl rfl rfl rfl rfl rfl ds m Q hs
  | 8, r, h, ds, m, Q, hl, hs => by cases h; exact law_drawn rfl rfl rfl rfl ds m Q hs
  | 9, r, h, ds, m, Q, hl, hs => by cases h; exact law_text ds m Q hs
  | 10, r, h, ds, m, Q, hl, hs => by cases h; exact law_lines rfl ds m Q hs
  | 11, r, h, ds, m, Q, hl, hs => by cases h; exact law_integer rfl ds m Q hs
  | 12, r, h, ds, m, Q, hl, hs => by cases h; exact law_by rfl rfl ds m Q hs
  | 13, r, h, ds, m, Q, hl, hs => by cases h; exact law_isname rfl ds m Q hs
  | 14, r, h, ds, m, Q, hl, hs => by cases h; exact law_isworth rfl ds m Q hs
  | 15, r, h, ds, m, Q, hl, hs => by cases h; exact law_takekind rfl rfl rfl rfl ds m Q hs
  | 16, r, h, ds, m, Q, hl, hs => by cases h; exact law_takemark rfl rfl rfl rfl ds m Q hs
  | 17, r, h, ds, m, Q, hl, hs => by cases h; exact law_istaken rfl rfl rfl ds m Q hs
  | 18, r, h, ds, m, Q, hl, hs => by cases h; exact law_read rfl rfl rfl ds m Q hs
  | 19, r, h, ds, m, Q, hl, hs => by cases h; exact law_init rfl ds m Q hs
  | 20, r, h, ds, m, Q, hl, hs => by cases h; exact law_picked ds m Q hs
  | 21, r, h, ds, m, Q, hl, hs => by cases h; exact law_renamed rfl rfl rfl ds m Q hs
  | 22, r, h, ds, m, Q, hl, hs => by cases h; exact law_split rfl rfl rfl ds m Q hs
  | 23, r, h, ds, m, Q, hl, hs => by cases h; exact law_changed rfl rfl ds m Q hs
  | 24, r, h, ds, m, Q, hl, hs => by cases h; exact law_other rfl rfl rfl rfl rfl rfl ds m Q hs
  | 25, r, h, ds, m, Q, hl, hs => by cases h; exact law_pby ds m Q hs
  | 26, r, h, ds, m, Q, hl, hs => by cases h; exact law_pmarks ds m Q hs
  | 27, r, h, ds, m, Q, hl, hs => by cases h; exact law_pkinds ds m Q hs
  | 28, r, h, ds, m, Q, hl, hs => by cases h; exact law_len ds m Q hs
  | 29, r, h, ds, m, Q, hl, hs => by cases h; exact law_contains ds m Q hs
  | 30, r, h, ds, m, Q, hl, hs => by cases h; exact law_check rfl ds m Q hs
  | 31, r, h, ds, m, Q, hl, hs => by cases h; exact law_weight rfl ds m Q hs
  | 32, r, h, ds, m, Q, hl, hs => by cases h; exact law_worth rfl ds m Q hs
  | 33, r, h, ds, m, Q, hl, hs => by cases h; exact law_told rfl rfl rfl rfl rfl rfl ds m Q hs
  | 34, r, h, ds, m, Q, hl, hs => by cases h; exact law_ptext ds m Q hs
  | 35, r, h, ds, m, Q, hl, hs => by cases h; exact law_primes ds m Q hs
  | 36, r, h, ds, m, Q, hl, hs => by cases h; exact law_odd rfl ds m Q hs
  | 37, r, h, ds, m, Q, hl, hs => by cases h; exact law_eq ds m Q hs
  | 38, r, h, ds, m, Q, hl, hs => by cases h; exact law_right rfl rfl rfl rfl rfl rfl rfl rfl rfl rfl rfl ds m Q hs
  | 39, r, h, ds, m, Q, hl, hs => by cases h; exact law_pot ds m Q hs
  | 40, r, h, ds, m, Q, hl, hs => by cases h; exact law_cells ds m Q hs
  | 41, r, h, ds, m, Q, hl, hs => by cases h; exact law_law rfl rfl rfl ds m Q hs
  | _ + 42, r, h, ds, m, Q, hl, hs => by cases h
end Og.Lk00
end
section
set_option autoImplicit true
set_option maxHeartbeats 0
namespace Og.Lk00
open PySem PySem.Spec PyProof.Rows L2 Og
theorem tree : (PySem.Challenge.rw_opengates_k00_whole_books_and_their_text).prog.given.tree = none := by rfl
end Og.Lk00
open PySem PySem.W PySem.Calls PyProof.Rows
theorem PySem.Challenge.cw_opengates_k00_whole_books_and_their_text_holds : PySem.Challenge.rw_opengates_k00_whole_books_and_their_text.Holds := by
  w_on; o_law
  refine HandSHeadRun.head_any (r := OpenLaw.row PySem.Challenge.rw_opengates_k00_whole_books_and_their_text) (q := view (OpenLaw.row PySem.Challenge.rw_opengates_k00_whole_books_and_their_text).prog [57]) (H := Og.Lk00.hk) (ob := Og.Lk00.ob) (M := 4000) (loose := Og.Lk00.loose) (d := HandSHeadRun.topDef (OpenLaw.row PySem.Challenge.rw_opengates_k00_whole_books_and_their_text).prog 57) (kwd := []) Og.Lk00.ob_eq
    (by kernel_rfl) (fun s => by kernel_rfl) Og.Lk00.run (by kernel_rfl) (by kernel_rfl) (by kernel_rfl) (by rfl) (by first | assumption | decide +kernel) (by decide +kernel) ⟨rfl, rfl, rfl, rfl, rfl, by decide +kernel⟩ ?hw ?hc
  case hw => w_witness2
  case hc =>
    refine Og.walk_top (l := PySem.Challenge.rw_opengates_k00_whole_books_and_their_text) (n := 63) (k := 124) (x := "script") rfl (by decide) (by kernel_rfl) ⟨rfl, by decide, by decide⟩ ?F
    intro w mg fa h Y G hmg0
    obtain ⟨K, KX, c, e0, e1⟩ := Y
    rw [Bool.and_eq_true] at e0
    have e := e0.1
    have cp : Og.SaysP (Og.fpOf Og.Lk00.rows) K := ⟨e0.2, e1⟩
    have hmg : mg ("law" : PySem.Str) = some (.ref fa) := by
      have e : (HandSHeadRun.topDef (OpenLaw.row PySem.Challenge.rw_opengates_k00_whole_books_and_their_text).prog 57).name = ("law" : PySem.Str) := by kernel_rfl
      rw [← e]
      exact hmg0
    obtain ⟨fd, hb, hF⟩ := Og.law_end (P := (PySem.Challenge.rw_opengates_k00_whole_books_and_their_text).prog) (w := w) (spec := Og.Lk00.spec) KX G c cp e Og.Lk00.tf Og.Lk00.rows_ok Og.Lk00.binds Og.Lk00.kws Og.Lk00.tree Og.Lk00.law_all (j := 41) (r := Og.Lk00.r41) rfl rfl rfl rfl hmg
    exact ⟨K, fd, _, KX, hb, fun H a ns hl _ hS => Og.law_sp hl hS (fun _ _ _ z => by show Og.Lk00.spec _ 41 _ _ _; exact z), hF⟩
end
