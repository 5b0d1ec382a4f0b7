import PyProof.Rows.All
import Wide.All
import OpenK.AllK
import Wide.FinOn
import HandS.ForMost
import HandS.Walk
import HandS.Zip
import HandS.Defaults
import HandS.Conv
import HandS.Wide
import HandS.IsInst
import HandS.TupAny
import HandS.TupMul
import HandS.SlotsVar
import HandS.Slots
import HandS.Star
import HandS.Style
import HandS.More
import KE.GoesMore
import KE.GoesEnum
import KE.GoesZip
import HandS.HeadWalk
import HandS.Codes
import HandS.HeadHook4
import PySem.Challenge.RW_opengates_k44_whole_determinants
import KE.KStateDown
import HandS.Head0
import HandS.Head1
import HandS.Head2
import HandS.HeadEnd
import PyProof.P3Eq
import PyProof.FitsInt
set_option Elab.async false
set_option linter.all false
set_option maxRecDepth 100000
section
set_option autoImplicit true
set_option maxHeartbeats 200000
/-! Og: data over the hand layer. D a value with all that hangs on it; Mem the cells that may still change. -/
namespace Og
open PySem PySem.Spec PyProof.Rows L2

inductive D where
  | non | bl (b : Bool) | int (i : Int) | str (x : Str) | ty (n : String) | ref (a : Addr)
  | tup (ds : List D) | lst (ds : List D)

inductive Cell where
  | lst (ds : List D)
  | obj (C dx : Addr) (fs : List (Option D))
  | hid (a : Addr)

abbrev Mem := Addr → Option Cell
def put (m : Mem) (a : Addr) (c : Cell) : Mem := fun b => if b = a then some c else m b
def del (m : Mem) (a : Addr) : Mem := fun b => if b = a then none else m b
@[simp] theorem put_same {m : Mem} {a : Addr} {c : Cell} : put m a c a = some c := by unfold put; rw [if_pos rfl]
theorem put_ne {m : Mem} {a b : Addr} {c : Cell} (h : b ≠ a) : put m a c b = m b := by unfold put; rw [if_neg h]
@[simp] theorem put_put {m : Mem} {a : Addr} {c c' : Cell} : put (put m a c) a c' = put m a c' := by
  funext b; unfold put; split <;> rfl
theorem put_self {m : Mem} {a : Addr} {c : Cell} (h : m a = some c) : put m a c = m := by
  funext b; unfold put; split
  · rename_i e; rw [e, h]
  · rfl
theorem del_put {m : Mem} {a : Addr} {c : Cell} (h : m a = none) : del (put m a c) a = m := by
  funext b; unfold del put; split
  · rename_i e; rw [e, h]
  · rfl
theorem ne_of_mem {m : Mem} {a b : Addr} {c : Cell} (h : m a = some c) (h' : m b = none) : a ≠ b := by
  intro e; rw [e, h'] at h; cases h

/-- a tuple, a list of the written part -/
def WT (K : PySem.W.Frag) (a : Addr) (xs : List V) : Prop :=
  ∃ (o : Obj) (its : Array Value) (n : Nat), K.lookup a = some o ∧ o.cls = .type "tuple" ∧ o.data = .seq its n ∧ its.size ≤ sizeLine ∧ Vals xs its.toList
def WL (K : PySem.W.Frag) (a : Addr) (xs : List V) : Prop :=
  ∃ (o : Obj) (its : Array Value) (n : Nat), K.lookup a = some o ∧ o.cls = .type "list" ∧ o.dict = none ∧ o.data = .seq its n ∧ its.size ≤ sizeLine ∧ Vals xs its.toList
def SqTm (K : PySem.W.Frag) (m : Mem) (H : Hp) (a : Addr) (xs : List V) : Prop := (m a = none ∧ Rd H a (.tup xs)) ∨ WT K a xs
def SqLm (K : PySem.W.Frag) (m : Mem) (H : Hp) (a : Addr) (xs : List V) : Prop := (m a = none ∧ Rd H a (.lst xs)) ∨ WL K a xs
theorem SqTm.sq {K : PySem.W.Frag} {m : Mem} {H : Hp} {a : Addr} {xs : List V} (h : SqTm K m H a xs) : SqT K H a xs := h.elim (fun z => .inl z.2) .inr
theorem SqLm.sq {K : PySem.W.Frag} {m : Mem} {H : Hp} {a : Addr} {xs : List V} (h : SqLm K m H a xs) : SqL K H a xs := h.elim (fun z => .inl z.2) .inr

mutual
def Rep (K : PySem.W.Frag) (m : Mem) (H : Hp) : V → D → Prop
  | v, .non => v = .non
  | v, .bl b => v = .bl b
  | v, .int i => v = .int i
  | v, .str x => v = .str x
  | v, .ty n => v = .ty n
  | v, .ref a => v = .ref a
  | v, .tup ds => ∃ a xs, v = .ref a ∧ SqTm K m H a xs ∧ Reps K m H xs ds
  | v, .lst ds => ∃ a xs, v = .ref a ∧ SqLm K m H a xs ∧ Reps K m H xs ds
def Reps (K : PySem.W.Frag) (m : Mem) (H : Hp) : List V → List D → Prop
  | vs, [] => vs = []
  | vs, d :: ds => ∃ v r, vs = v :: r ∧ Rep K m H v d ∧ Reps K m H r ds
end

/-- from one state to a later one: what is no cell stays -/
def Step (m : Mem) (H : Hp) (m' : Mem) (H' : Hp) : Prop := ∀ a u, m a = none → H a = some u → m' a = none ∧ H' a = some u
theorem Step.refl {m : Mem} {H : Hp} : Step m H m H := fun _ _ h1 h2 => ⟨h1, h2⟩
theorem Step.trans {m m1 m2 : Mem} {H H1 H2 : Hp} (a : Step m H m1 H1) (b : Step m1 H1 m2 H2) : Step m H m2 H2 := fun c u h1 h2 => by
  obtain ⟨k1, k2⟩ := a c u h1 h2
  exact b c u k1 k2
theorem Step.same {m : Mem} {H H' : Hp} (s : ∀ a u, H a = some u → H' a = some u) : Step m H m H' := fun a u h1 h2 => ⟨h1, s a u h2⟩
theorem Step.fresh {m : Mem} {H : Hp} {p : Addr} {o : HO} (h : H p = none) : Step m H m (L2.upd H p o) := Step.same fun a u e => by
  rw [upd_ne (ne_of_none e h)]; exact e
theorem rd_step {m m' : Mem} {H H' : Hp} {a : Addr} {u : HO} (s : Step m H m' H') (h0 : m a = none) (h : Rd H a u) : m' a = none ∧ Rd H' a u := by
  rcases h with h | ⟨o, h⟩
  · exact ⟨(s a _ h0 h).1, .inl (s a _ h0 h).2⟩
  · exact ⟨(s a _ h0 h).1, .inr ⟨o, (s a _ h0 h).2⟩⟩
mutual
theorem Rep.step {K : PySem.W.Frag} {m m' : Mem} {H H' : Hp} (s : Step m H m' H') : ∀ (d : D) (v : V), Rep K m H v d → Rep K m' H' v d
  | .non, _, h => by simpa [Rep] using h
  | .bl _, _, h => by simpa [Rep] using h
  | .int _, _, h => by simpa [Rep] using h
  | .str _, _, h => by simpa [Rep] using h
  | .ty _, _, h => by simpa [Rep] using h
  | .ref _, _, h => by simpa [Rep] using h
  | .tup ds, v, h => by
    obtain ⟨a, xs, e, q, r⟩ := (by simpa only [Rep] using h : ∃ a xs, v = .ref a ∧ SqTm K m H a xs ∧ Reps K m H xs ds)
    simp only [Rep]
    refine ⟨a, xs, e, ?_, Reps.step s ds xs r⟩
    rcases q with ⟨h0, q⟩ | q
    · exact .inl (rd_step s h0 q)
    · exact .inr q
  | .lst ds, v, h => by
    obtain ⟨a, xs, e, q, r⟩ := (by simpa only [Rep] using h : ∃ a xs, v = .ref a ∧ SqLm K m H a xs ∧ Reps K m H xs ds)
    simp only [Rep]
    refine ⟨a, xs, e, ?_, Reps.step s ds xs r⟩
    rcases q with ⟨h0, q⟩ | q
    · exact .inl (rd_step s h0 q)
    · exact .inr q
theorem Reps.step {K : PySem.W.Frag} {m m' : Mem} {H H' : Hp} (s : Step m H m' H') : ∀ (ds : List D) (vs : List V), Reps K m H vs ds → Reps K m' H' vs ds
  | [], _, h => by simpa [Reps] using h
  | d :: ds, vs, h => by
    obtain ⟨v, r, e, h1, h2⟩ := (by simpa only [Reps] using h : ∃ v r, vs = v :: r ∧ Rep K m H v d ∧ Reps K m H r ds)
    simp only [Reps]
    exact ⟨v, r, e, Rep.step s d v h1, Reps.step s ds r h2⟩
end
section
variable {K : PySem.W.Frag} {m : Mem} {H : Hp}
theorem Reps.length : ∀ {ds : List D} {vs : List V}, Reps K m H vs ds → vs.length = ds.length
  | [], _, h => by simp only [Reps] at h; rw [h] <;> rfl
  | d :: ds, _, h => by
    simp only [Reps] at h
    obtain ⟨v, r, rfl, _, h2⟩ := h
    simp [Reps.length h2]
theorem Reps.get : ∀ {ds : List D} {vs : List V} {i : Nat} {d : D}, Reps K m H vs ds → ds[i]? = some d → ∃ v, vs[i]? = some v ∧ Rep K m H v d
  | [], _, _, _, _, e => by simp at e
  | d :: ds, _, 0, _, h, e => by
    simp only [Reps] at h
    obtain ⟨v, r, rfl, h1, _⟩ := h
    simp at e; subst e
    exact ⟨v, rfl, h1⟩
  | d :: ds, _, i + 1, _, h, e => by
    simp only [Reps] at h
    obtain ⟨v, r, rfl, _, h2⟩ := h
    obtain ⟨w, q1, q2⟩ := Reps.get (i := i) h2 (by simpa using e)
    exact ⟨w, by simpa using q1, q2⟩
theorem Reps.get' : ∀ {ds : List D} {vs : List V} {i : Nat} {v : V}, Reps K m H vs ds → vs[i]? = some v → ∃ d, ds[i]? = some d ∧ Rep K m H v d := fun {ds vs i v} h e => by
  have hl := h.length
  have hi : i < ds.length := by rw [← hl]; exact (List.getElem?_eq_some_iff.mp e).1
  obtain ⟨w, q1, q2⟩ := h.get (i := i) (List.getElem?_eq_getElem hi)
  rw [e] at q1; cases q1
  exact ⟨_, List.getElem?_eq_getElem hi, q2⟩
theorem Reps.append : ∀ {ds es : List D} {vs ws : List V}, Reps K m H vs ds → Reps K m H ws es → Reps K m H (vs ++ ws) (ds ++ es)
  | [], _, _, _, h, h' => by simp only [Reps] at h; subst h; exact h'
  | d :: ds, es, _, ws, h, h' => by
    simp only [Reps] at h
    obtain ⟨v, r, rfl, h1, h2⟩ := h
    simp only [List.cons_append, Reps]
    exact ⟨v, _, rfl, h1, Reps.append h2 h'⟩
theorem Reps.set : ∀ {ds : List D} {vs : List V} {d : D} {v : V} (i : Nat), Reps K m H vs ds → Rep K m H v d → Reps K m H (vs.set i v) (ds.set i d)
  | [], _, _, _, _, h, _ => by simp only [Reps] at h; subst h; simp [Reps]
  | _ :: ds, _, d, v, 0, h, h' => by
    simp only [Reps] at h
    obtain ⟨w, r, rfl, _, h2⟩ := h
    simp only [List.set_cons_zero, Reps]
    exact ⟨v, r, rfl, h', h2⟩
  | _ :: ds, _, d, v, i + 1, h, h' => by
    simp only [Reps] at h
    obtain ⟨w, r, rfl, h1, h2⟩ := h
    simp only [List.set_cons_succ, Reps]
    exact ⟨w, _, rfl, h1, Reps.set i h2 h'⟩
theorem Reps.take : ∀ {ds : List D} {vs : List V} (n : Nat), Reps K m H vs ds → Reps K m H (vs.take n) (ds.take n)
  | _, _, 0, _ => by simp [Reps]
  | [], _, _ + 1, h => by simp only [Reps] at h; subst h; simp [Reps]
  | d :: ds, _, n + 1, h => by
    simp only [Reps] at h
    obtain ⟨w, r, rfl, h1, h2⟩ := h
    simp only [List.take_succ_cons, Reps]
    exact ⟨w, _, rfl, h1, Reps.take n h2⟩
theorem Reps.drop : ∀ {ds : List D} {vs : List V} (n : Nat), Reps K m H vs ds → Reps K m H (vs.drop n) (ds.drop n)
  | _, _, 0, h => h
  | [], _, _ + 1, h => by simp only [Reps] at h; subst h; simp [Reps]
  | d :: ds, _, n + 1, h => by
    simp only [Reps] at h
    obtain ⟨w, r, rfl, h1, h2⟩ := h
    simp only [List.drop_succ_cons]
    exact Reps.drop n h2
theorem Reps.ints : ∀ {ns : List Int} {vs : List V}, Reps K m H vs (ns.map D.int) → vs = ns.map V.int
  | [], _, h => by simpa [Reps] using h
  | n :: ns, _, h => by
    simp only [List.map_cons, Reps, Rep] at h
    obtain ⟨v, r, rfl, rfl, h2⟩ := h
    rw [Reps.ints h2] <;> rfl
theorem Reps.of_ints : ∀ {ns : List Int}, Reps K m H (ns.map V.int) (ns.map D.int)
  | [] => by simp [Reps]
  | n :: ns => by
    simp only [List.map_cons, Reps, Rep]
    exact ⟨_, _, rfl, rfl, Reps.of_ints⟩
theorem Reps.bls : ∀ {ns : List Bool} {vs : List V}, Reps K m H vs (ns.map D.bl) → vs = ns.map V.bl
  | [], _, h => by simpa [Reps] using h
  | n :: ns, _, h => by
    simp only [List.map_cons, Reps, Rep] at h
    obtain ⟨v, r, rfl, rfl, h2⟩ := h
    rw [Reps.bls h2] <;> rfl
end

/-! ### the cells -/
def RepO (K : PySem.W.Frag) (m : Mem) (H : Hp) : Option V → Option D → Prop
  | _, none => True
  | some v, some d => Rep K m H v d
  | none, some _ => False
def RepsO (K : PySem.W.Frag) (m : Mem) (H : Hp) : List (Option V) → List (Option D) → Prop
  | [], [] => True
  | v :: vs, d :: ds => RepO K m H v d ∧ RepsO K m H vs ds
  | _, _ => False
def CellOk (K : PySem.W.Frag) (m : Mem) (H : Hp) (a : Addr) : Cell → Prop
  | .lst ds => ∃ vs, H a = some (.lst vs) ∧ Reps K m H vs ds
  | .obj C dx fs => ∃ vs, SlX.Slt H a C dx vs ∧ dx ≠ a ∧ m dx = some (.hid a) ∧ RepsO K m H vs fs
  | .hid b => H a = some (.own b) ∨ H a = some (.xd [])
def MemOk (K : PySem.W.Frag) (m : Mem) (H : Hp) : Prop := ∀ a c, m a = some c → CellOk K m H a c
theorem CellOk.there {K : PySem.W.Frag} {m : Mem} {H : Hp} {a : Addr} {c : Cell} (h : CellOk K m H a c) : ∃ u, H a = some u ∧ (∀ xs, u ≠ .tup xs) ∧ ∀ o x, u ≠ .frz o x := by
  cases c with
  | lst ds =>
    obtain ⟨vs, e, _⟩ := h
    exact ⟨_, e, fun _ z => (nomatch z), fun _ _ z => (nomatch z)⟩
  | obj C dx fs =>
    obtain ⟨vs, e, _⟩ := h
    rcases e with ⟨e, _⟩ | ⟨e, _⟩
    · exact ⟨_, e, fun _ z => (nomatch z), fun _ _ z => (nomatch z)⟩
    · exact ⟨_, e, fun _ z => (nomatch z), fun _ _ z => (nomatch z)⟩
  | hid b =>
    rcases h with e | e
    · exact ⟨_, e, fun _ z => (nomatch z), fun _ _ z => (nomatch z)⟩
    · exact ⟨_, e, fun _ z => (nomatch z), fun _ _ z => (nomatch z)⟩
theorem MemOk.free {K : PySem.W.Frag} {m : Mem} {H : Hp} {a : Addr} (h : MemOk K m H) (e : H a = none) : m a = none := by
  cases q : m a with
  | none => rfl
  | some c =>
    obtain ⟨u, z, _⟩ := (h a c q).there
    rw [e] at z; cases z
theorem RepO.step {K : PySem.W.Frag} {m m' : Mem} {H H' : Hp} (s : Step m H m' H') : ∀ {v : Option V} {d : Option D}, RepO K m H v d → RepO K m' H' v d
  | _, none, _ => by unfold RepO; trivial
  | some v, some d, h => Rep.step s d v h
  | none, some _, h => h.elim
theorem RepsO.step {K : PySem.W.Frag} {m m' : Mem} {H H' : Hp} (s : Step m H m' H') : ∀ {vs : List (Option V)} {ds : List (Option D)}, RepsO K m H vs ds → RepsO K m' H' vs ds
  | [], [], h => h
  | _ :: _, _ :: _, h => ⟨h.1.step s, RepsO.step s h.2⟩
  | [], _ :: _, h => h.elim
  | _ :: _, [], h => h.elim
theorem Slt.same {H H' : Hp} {a C dx : Addr} {vs : List (Option V)} (h : SlX.Slt H a C dx vs) (e1 : H' a = H a) (e2 : H' dx = H dx) : SlX.Slt H' a C dx vs := by
  rcases h with ⟨h1, h2⟩ | ⟨h1, h2⟩
  · exact .inl ⟨e1.trans h1, h2⟩
  · exact .inr ⟨e1.trans h1, e2.trans h2⟩
/-- a cell that is left alone -/
theorem CellOk.step {K : PySem.W.Frag} {m m' : Mem} {H H' : Hp} {a : Addr} {c : Cell} (s : Step m H m' H') (e : H' a = H a) (ed : ∀ C dx fs, c = .obj C dx fs → H' dx = H dx ∧ m' dx = m dx) (h : CellOk K m H a c) : CellOk K m' H' a c := by
  cases c with
  | lst ds =>
    obtain ⟨vs, q, r⟩ := h
    exact ⟨vs, by rw [e]; exact q, Reps.step s _ _ r⟩
  | obj C dx fs =>
    obtain ⟨vs, q, ne, hd, r⟩ := h
    obtain ⟨k1, k2⟩ := ed C dx fs rfl
    exact ⟨vs, Slt.same q e k1, ne, k2.trans hd, r.step s⟩
  | hid b =>
    show H' a = some (.own b) ∨ H' a = some (.xd [])
    rw [e]; exact h
/-- a new object is laid beside -/
theorem MemOk.at {K : PySem.W.Frag} {m : Mem} {H : Hp} {a : Addr} {c : Cell} (h : MemOk K m H) (e : m a = some c) : ∃ u, H a = some u := let ⟨u, q, _⟩ := (h a c e).there; ⟨u, q⟩
theorem MemOk.dxAt {K : PySem.W.Frag} {m : Mem} {H : Hp} {a C dx : Addr} {fs : List (Option D)} (h : MemOk K m H) (e : m a = some (.obj C dx fs)) : m dx = some (.hid a) ∧ dx ≠ a := let ⟨_, _, ne, q, _⟩ := h a _ e; ⟨q, ne⟩
theorem MemOk.fresh {K : PySem.W.Frag} {m : Mem} {H : Hp} {p : Addr} {o : HO} (h : MemOk K m H) (hp : H p = none) : MemOk K m (L2.upd H p o) := fun a c e => by
  obtain ⟨u, q⟩ := h.at e
  refine (h a c e).step (Step.fresh hp) (by rw [upd_ne (ne_of_none q hp)]) fun C dx fs ec => ?_
  subst ec
  obtain ⟨w, qd⟩ := h.at (h.dxAt e).1
  exact ⟨by rw [upd_ne (ne_of_none qd hp)], rfl⟩
/-- it becomes a list's cell -/
theorem Step.newLst {m : Mem} {H : Hp} {p : Addr} {o : HO} {c : Cell} (hp : H p = none) : Step m H (put m p c) (L2.upd H p o) := fun a u h1 h2 => by
  have ne := ne_of_none h2 hp
  exact ⟨by rw [put_ne ne]; exact h1, by rw [upd_ne ne]; exact h2⟩
theorem MemOk.newLst {K : PySem.W.Frag} {m : Mem} {H : Hp} {p : Addr} {vs : List V} {ds : List D} (h : MemOk K m H) (hp : H p = none) (r : Reps K m H vs ds) : MemOk K (put m p (.lst ds)) (L2.upd H p (.lst vs)) := fun a c e => by
  have s : Step m H (put m p (.lst ds)) (L2.upd H p (.lst vs)) := Step.newLst hp
  by_cases ea : a = p
  · rw [ea, put_same] at e
    cases e
    rw [ea]
    exact ⟨vs, upd_same, Reps.step s _ _ r⟩
  · rw [put_ne ea] at e
    refine (h a c e).step s (by rw [upd_ne ea]) fun C dx fs ec => ?_
    subst ec
    obtain ⟨w, qd⟩ := h.at (h.dxAt e).1
    have nd := ne_of_none qd hp
    exact ⟨by rw [upd_ne nd], by rw [put_ne nd]⟩
/-- a list's cell is written -/
theorem Step.write {m : Mem} {H : Hp} {p : Addr} {o : HO} {c c' : Cell} (hp : m p = some c) : Step m H (put m p c') (L2.upd H p o) := fun a u h1 h2 => by
  have ne : a ≠ p := fun z => by rw [z, hp] at h1; cases h1
  exact ⟨by rw [put_ne ne]; exact h1, by rw [upd_ne ne]; exact h2⟩
theorem MemOk.writeLst {K : PySem.W.Frag} {m : Mem} {H : Hp} {p : Addr} {es : List D} {vs : List V} {ds : List D} (h : MemOk K m H) (hp : m p = some (.lst es)) (r : Reps K m H vs ds) : MemOk K (put m p (.lst ds)) (L2.upd H p (.lst vs)) := fun a c' e => by
  have s : Step m H (put m p (.lst ds)) (L2.upd H p (.lst vs)) := Step.write hp
  by_cases ea : a = p
  · rw [ea, put_same] at e
    cases e
    rw [ea]
    exact ⟨vs, upd_same, Reps.step s _ _ r⟩
  · rw [put_ne ea] at e
    refine (h a c' e).step s (by rw [upd_ne ea]) fun C dx fs ec => ?_
    subst ec
    have nd : dx ≠ p := fun z => by
      have q := (h.dxAt e).1
      rw [z, hp] at q
      cases q
    exact ⟨by rw [upd_ne nd], by rw [put_ne nd]⟩
/-- a new object without variables -/
theorem Step.newObj {m : Mem} {H : Hp} {p dx : Addr} {o o' : HO} {c c' : Cell} (hp : H p = none) (hd : H dx = none) : Step m H (put (put m dx c') p c) (L2.upd (L2.upd H dx o') p o) := (Step.newLst hd).trans (fun a u h1 h2 => by
  by_cases ea : a = p
  · subst ea
    by_cases e2 : a = dx
    · subst e2; rw [put_same] at h1; cases h1
    · rw [upd_ne e2, hp] at h2; cases h2
  · exact ⟨by rw [put_ne ea]; exact h1, by rw [upd_ne ea]; exact h2⟩)
theorem MemOk.newObj {K : PySem.W.Frag} {m : Mem} {H : Hp} {p dx C : Addr} (h : MemOk K m H) (hp : H p = none) (hd : H dx = none) (ne : dx ≠ p) :
    MemOk K (put (put m dx (.hid p)) p (.obj C dx [])) (L2.upd (L2.upd H dx (.own p)) p (.ins C dx [])) := fun a c e => by
  have s : Step m H (put (put m dx (.hid p)) p (.obj C dx [])) (L2.upd (L2.upd H dx (.own p)) p (.ins C dx [])) := Step.newObj hp hd
  by_cases ea : a = p
  · rw [ea, put_same] at e
    cases e
    rw [ea]
    exact ⟨[], .inl ⟨upd_same, rfl⟩, ne, by rw [put_ne ne, put_same], True.intro⟩
  · rw [put_ne ea] at e
    by_cases eb : a = dx
    · rw [eb, put_same] at e
      cases e
      rw [eb]
      exact .inl (by rw [upd_ne ne, upd_same])
    · rw [put_ne eb] at e
      refine (h a c e).step s (by rw [upd_ne ea, upd_ne eb]) fun C dy fs ec => ?_
      subst ec
      obtain ⟨w, qd⟩ := h.at (h.dxAt e).1
      have n1 := ne_of_none qd hp
      have n2 := ne_of_none qd hd
      exact ⟨by rw [upd_ne n1, upd_ne n2], by rw [put_ne n1, put_ne n2]⟩
theorem RepO.set : ∀ {K : PySem.W.Frag} {m : Mem} {H : Hp} {vs : List (Option V)} {ds : List (Option D)} {v : V} {d : D} (i : Nat), RepsO K m H vs ds → Rep K m H v d → RepsO K m H (vs.set i (some v)) (ds.set i (some d))
  | _, _, _, [], [], _, _, _, _, _ => True.intro
  | _, _, _, _ :: _, _ :: _, _, _, 0, h, r => ⟨r, h.2⟩
  | _, _, _, _ :: _, _ :: _, _, _, i + 1, h, r => ⟨h.1, RepO.set i h.2 r⟩
  | _, _, _, [], _ :: _, _, _, _, h, _ => h.elim
  | _, _, _, _ :: _, [], _, _, _, h, _ => h.elim
theorem RepsO.append : ∀ {K : PySem.W.Frag} {m : Mem} {H : Hp} {vs ws : List (Option V)} {ds es : List (Option D)}, RepsO K m H vs ds → RepsO K m H ws es → RepsO K m H (vs ++ ws) (ds ++ es)
  | _, _, _, [], _, [], _, _, h => h
  | _, _, _, _ :: _, _, _ :: _, _, h, h' => ⟨h.1, RepsO.append h.2 h'⟩
  | _, _, _, [], _, _ :: _, _, h, _ => h.elim
  | _, _, _, _ :: _, _, [], _, h, _ => h.elim
theorem RepsO.length : ∀ {K : PySem.W.Frag} {m : Mem} {H : Hp} {vs : List (Option V)} {ds : List (Option D)}, RepsO K m H vs ds → vs.length = ds.length
  | _, _, _, [], [], _ => rfl
  | _, _, _, _ :: _, _ :: _, h => congrArg Nat.succ (RepsO.length h.2)
  | _, _, _, [], _ :: _, h => h.elim
  | _, _, _, _ :: _, [], h => h.elim
theorem RepsO.nones : ∀ {K : PySem.W.Frag} {m : Mem} {H : Hp} (n : Nat), RepsO K m H (List.replicate n none) (List.replicate n none)
  | _, _, _, 0 => True.intro
  | _, _, _, n + 1 => ⟨(by unfold RepO; trivial), RepsO.nones n⟩
theorem RepsO.get : ∀ {K : PySem.W.Frag} {m : Mem} {H : Hp} {vs : List (Option V)} {ds : List (Option D)} {i : Nat} {d : D}, RepsO K m H vs ds → ds[i]? = some (some d) → ∃ v, vs[i]? = some (some v) ∧ Rep K m H v d
  | _, _, _, [], [], _, _, _, e => by simp at e
  | _, _, _, v :: _, d0 :: _, 0, d, h, e => by
    simp at e; subst e
    cases v with
    | none => exact h.1.elim
    | some v => exact ⟨v, rfl, h.1⟩
  | _, _, _, _ :: _, _ :: _, i + 1, d, h, e => by
    obtain ⟨v, q, r⟩ := RepsO.get (i := i) h.2 (by simpa using e)
    exact ⟨v, by simpa using q, r⟩
  | _, _, _, [], _ :: _, _, _, h, _ => h.elim
  | _, _, _, _ :: _, [], _, _, h, _ => h.elim
def putF (i : Nat) (d : D) (fs : List (Option D)) : List (Option D) := (fs ++ List.replicate (i + 1 - fs.length) none).set i (some d)
theorem RepsO.put {K : PySem.W.Frag} {m : Mem} {H : Hp} {vs : List (Option V)} {ds : List (Option D)} {v : V} {d : D} (i : Nat) (h : RepsO K m H vs ds) (r : Rep K m H v d) : RepsO K m H (SlX.putS i v vs) (putF i d ds) := by
  unfold SlX.putS putF
  rw [h.length]
  exact RepO.set i (h.append (RepsO.nones _)) r
/-- an object's variable is stored -/
theorem Step.writeObj {m : Mem} {H : Hp} {p dx C : Addr} {fs : List (Option D)} {vs : List (Option V)} {c' : Cell} (hp : m p = some (.obj C dx fs)) (hd : m dx = some (.hid p)) : Step m H (put m p c') (SlX.slH H p C dx vs) := fun a u h1 h2 => by
  have n1 : a ≠ p := fun z => by rw [z, hp] at h1; cases h1
  have n2 : a ≠ dx := fun z => by rw [z, hd] at h1; cases h1
  exact ⟨by rw [put_ne n1]; exact h1, by rw [SlX.slH_ne n1 n2]; exact h2⟩
theorem MemOk.writeObj {K : PySem.W.Frag} {m : Mem} {H : Hp} {p dx C : Addr} {fs gs : List (Option D)} {ws : List (Option V)} (h : MemOk K m H) (hp : m p = some (.obj C dx fs)) (r : RepsO K m H ws gs) :
    MemOk K (put m p (.obj C dx gs)) (SlX.slH H p C dx ws) := fun a c' e => by
  obtain ⟨hd, ne⟩ := h.dxAt hp
  have s : Step m H (put m p (.obj C dx gs)) (SlX.slH H p C dx ws) := Step.writeObj hp hd
  by_cases ea : a = p
  · rw [ea, put_same] at e
    cases e
    rw [ea]
    exact ⟨ws, SlX.slH_slt ne, ne, by rw [put_ne ne]; exact hd, r.step s⟩
  · rw [put_ne ea] at e
    by_cases eb : a = dx
    · rw [eb, hd] at e
      cases e
      rw [eb]
      refine .inr ?_
      unfold SlX.slH
      rw [upd_ne ne, upd_same]
    · refine (h a c' e).step s (SlX.slH_ne ea eb) fun C' dy fs' ec => ?_
      subst ec
      have qd := (h.dxAt e).1
      have n1 : dy ≠ p := fun z => by rw [z, hp] at qd; cases qd
      have n2 : dy ≠ dx := fun z => by
        rw [z, hd] at qd
        injection qd with q2
        injection q2 with q3
        exact ea q3.symm
      exact ⟨SlX.slH_ne n1 n2, by rw [put_ne n1]⟩
/-- cells forgotten -/
def Sub (m' m : Mem) : Prop := ∀ a c, m' a = some c → m a = some c
theorem Sub.refl {m : Mem} : Sub m m := fun _ _ h => h
theorem Sub.trans {m m1 m2 : Mem} (a : Sub m m1) (b : Sub m1 m2) : Sub m m2 := fun c u h => b c u (a c u h)
theorem Sub.no {m m' : Mem} (s : Sub m' m) {a : Addr} (h : m a = none) : m' a = none := by
  cases q : m' a with
  | none => rfl
  | some c => rw [s a c q] at h; cases h
theorem Sub.step {m m' : Mem} {H : Hp} (s : Sub m' m) : Step m H m' H := fun a u h1 h2 => ⟨s.no h1, h2⟩
theorem Sub.fresh {m : Mem} {p : Addr} {c : Cell} (h : m p = none) : Sub m (put m p c) := fun a u e => by
  rw [put_ne (ne_of_mem e h)]; exact e
/-- cells forgotten: an object with its dict -/
structure SubO (m' m : Mem) : Prop where
  sub : Sub m' m
  dx : ∀ a C dx fs, m' a = some (.obj C dx fs) → m' dx = m dx
/-- every object's dict is a cell -/
def WfM (m : Mem) : Prop := ∀ a C dx fs, m a = some (.obj C dx fs) → m dx = some (.hid a)
theorem MemOk.wf {K : PySem.W.Frag} {m : Mem} {H : Hp} (h : MemOk K m H) : WfM m := fun _ _ _ _ e => (h.dxAt e).1
theorem SubO.refl {m : Mem} : SubO m m := ⟨Sub.refl, fun _ _ _ _ _ => rfl⟩
theorem SubO.fresh {m : Mem} {p : Addr} {c : Cell} (w : WfM m) (h : m p = none) : SubO m (put m p c) := ⟨Sub.fresh h, fun a C dx fs e => by
  rw [put_ne (ne_of_mem (w a C dx fs e) h)]⟩
theorem SubO.trans {m m1 m2 : Mem} (a : SubO m m1) (b : SubO m1 m2) : SubO m m2 := ⟨a.sub.trans b.sub, fun p C dx fs e => (a.dx p C dx fs e).trans (b.dx p C dx fs (a.sub _ _ e))⟩
theorem MemOk.sub {K : PySem.W.Frag} {m m' : Mem} {H : Hp} (h : MemOk K m H) (s : SubO m' m) : MemOk K m' H := fun a c e => (h a c (s.sub a c e)).step s.sub.step rfl fun C dx fs ec => ⟨rfl, by subst ec; exact s.dx a C dx fs e⟩
theorem Sub.put {m m' : Mem} {p : Addr} {c : Cell} (s : Sub m' m) : Sub (put m' p c) (put m p c) := fun a u e => by
  by_cases ea : a = p
  · rw [ea, put_same] at e ⊢; exact e
  · rw [put_ne ea] at e ⊢; exact s a u e
/-- a list's cell taken for good -/
theorem Sub.del {m : Mem} {p : Addr} : Sub (del m p) m := fun a u e => by
  unfold Og.del at e
  split at e
  · cases e
  · exact e
end Og
end
section
set_option autoImplicit true
set_option maxHeartbeats 200000
/-! Og: the core language and what a term of it asks, by data. -/
namespace Og
open PySem PySem.Spec PyProof.Rows L2

inductive BOp | add | sub | mul | fdiv | mod | pow
  deriving DecidableEq
inductive COp | lt | le | gt | ge | eq | ne | is_ | isnt | in_ | notin
  deriving DecidableEq
/-- built-ins of one argument -/
inductive B1 | len | abs | int | sum | tuple | all | any | list (mu : Bool) | repr
  deriving DecidableEq
/-- built-ins of two ints -/
inductive B2 | min | max
  deriving DecidableEq
/-- methods of built-in types, one argument -/
inductive M1 | append | extend
  deriving DecidableEq

inductive Tg where
  | nm (i : Nat)
  | tup (ts : List Tg)

mutual
inductive E where
  | non | bl (b : Bool) | int (i : Int) | str (x : Str)
  | x (i : Nat)
  | g (j : Nat)
  | bop (o : BOp) (a b : E)
  | neg (a : E)
  | cmp (o : COp) (a b : E)
  | ch (o o' : COp) (a b c : E)
  | and (a b : E) | or (a b : E) | not (a : E)
  | ife (c a b : E)
  | tup (es : List E)
  | lst (mu : Bool) (es : List E)
  | star (a : E)
  | ix (a i : E)
  | sl (mu : Bool) (a : E) (lo hi : Option E)
  | call (j : Nat) (es : List E)
  | callk (j : Nat) (pm : List Nat) (es : List E)
  | b1 (f : B1) (a : E)
  | b2 (f : B2) (a b : E)
  | isi (a : E) (T : String)
  | m1 (f : M1) (a b : E)
  | lc (mu : Bool) (elt : E) (t : Tg) (it : Ita) (ifs : List E) (own : List Nat)
  | lrg (mu : Bool) (lo hi : E)
  | slot (a : E) (c i : Nat)
  | mk (c j : Nat) (es : List E)
  | meth (j : Nat) (c : Nat) (a : E) (es : List E)
  | frz (a : E)
inductive Ita where
  | sq (a : E)
  | rg1 (a : E)
  | rg2 (a b : E)
  | enum (a : E)
  | zip (a b : E)
end

inductive S where
  | ret (e : E) | retN
  | asg (t : Tg) (e : E)
  | par (is : List Nat) (es : List E)
  | asgC (i : Nat) (e : E)
  | setIx (a i e : E)
  | setAt (a : E) (c i : Nat) (e : E)
  | setIx2 (a i b j e : E)
  | ex (e : E)
  | ite (c : E) (a b : List S)
  | for_ (t : Tg) (it : Ita) (b : List S)
  | while_ (c : E) (b : List S)
  | never | brk | cnt | pass

/-! ### what values answer -/
def seqOf (m : Mem) : D → Option (List D)
  | .tup ds => some ds
  | .lst ds => some ds
  | .ref p => match m p with
    | some (.lst ds) => some ds
    | _ => none
  | _ => none
/-- a list (not a tuple) -/
def lstOf (m : Mem) : D → Option (List D)
  | .lst ds => some ds
  | .ref p => match m p with
    | some (.lst ds) => some ds
    | _ => none
  | _ => none

mutual
def D.toP : D → PyData
  | .non => .none | .bl b => .bool b | .int i => .int i | .str x => .str x | .ty _ => .none | .ref _ => .none
  | .tup ds => .tuple (toPs ds)
  | .lst ds => .list (toPs ds)
def toPs : List D → List PyData
  | [] => []
  | d :: ds => d.toP :: toPs ds
end
mutual
/-- data through and through, not deeper than n -/
def D.flat : Nat → D → Bool
  | _, .non => true | _, .bl _ => true | _, .int _ => true | _, .str x => PyData.strOk x | _, .ty _ => false | _, .ref _ => false
  | 0, .tup _ => false | 0, .lst _ => false
  | n + 1, .tup ds => flats n ds
  | n + 1, .lst ds => flats n ds
def flats : Nat → List D → Bool
  | _, [] => true
  | n, d :: ds => d.flat n && flats n ds
end
/-- a list in a cell, as data -/
def dat (m : Mem) : D → D
  | .ref p => match m p with
    | some (.lst ds) => .lst ds
    | _ => .ref p
  | d => d
abbrev KD := D → Mem → Prop
/-- a new list -/
def newL (mu : Bool) (ds : List D) (m : Mem) (Q : KD) : Prop := match mu with
  | true => ∀ p, m p = none → Q (.ref p) (put m p (.lst ds))
  | false => Q (.lst ds) m

def onB (x : D) (P : Bool → Prop) : Prop := match x with
  | .bl b => P b
  | _ => False
def onI (x : D) (P : Int → Prop) : Prop := match x with
  | .int i => P i
  | _ => False
@[simp] theorem onB_bl {b : Bool} {P : Bool → Prop} : onB (.bl b) P = P b := rfl
@[simp] theorem onI_int {i : Int} {P : Int → Prop} : onI (.int i) P = P i := rfl
theorem onB_out {x : D} {P : Bool → Prop} (h : onB x P) : ∃ b, x = .bl b ∧ P b := by
  cases x <;> first | exact h.elim | exact ⟨_, rfl, h⟩
theorem onI_out {x : D} {P : Int → Prop} (h : onI x P) : ∃ b, x = .int b ∧ P b := by
  cases x <;> first | exact h.elim | exact ⟨_, rfl, h⟩

def opD (o : BOp) (x y : D) (m : Mem) (Q : KD) : Prop := match o, x, y with
  | .add, .int i, .int j => Q (.int (i + j)) m
  | .add, .tup a, .tup b => a.length + b.length ≤ 1000000 ∧ Q (.tup (a ++ b)) m
  | .add, .ref a, .ref b => ∃ as bs, m a = some (.lst as) ∧ m b = some (.lst bs) ∧ as.length + bs.length ≤ 1000000 ∧ newL true (as ++ bs) m Q
  | .sub, .int i, .int j => Q (.int (i - j)) m
  | .mul, .int i, .int j => IntMulOk i j ∧ Q (.int (i * j)) m
  | .mul, .ref a, .int k => ∃ as, m a = some (.lst as) ∧ 0 ≤ k ∧ k ≤ 1000 ∧ as.length ≤ 1000 ∧ newL true (List.replicate k.toNat as).flatten m Q
  | .fdiv, .int i, .int j => j ≠ 0 ∧ Q (.int (i.fdiv j)) m
  | .mod, .int i, .int j => j ≠ 0 ∧ Q (.int (i.fmod j)) m
  | .pow, .int i, .int j => 0 ≤ j ∧ (Builtin.Int.intBits i : Int) * j ≤ 2 ^ 27 ∧ Q (.int (i ^ j.toNat)) m
  | _, _, _ => False
def scalV : D → Option V
  | .non => some .non | .bl b => some (.bl b) | .int i => some (.int i) | .str x => some (.str x) | _ => none
/-- == by data -/
def eqD (m : Mem) (x y : D) (R : Bool → Prop) : Prop := match x, y with
  | .int i, .int j => R (decide (i = j))
  | .str i, .str j => R (decide (i = j))
  | x, y => D.flat 40 (dat m x) = true ∧ D.flat 40 (dat m y) = true ∧ R (PyData.eqv (dat m x).toP (dat m y).toP)
def inD (x : D) (ys : List D) (R : Bool → Prop) : Prop := ∃ (v : V) (vs : List V), scalV x = some v ∧ ys.map scalV = vs.map some ∧ R (inV v vs)
def cmpD (o : COp) (x y : D) (m : Mem) (Q : KD) : Prop := match o with
  | .lt => (match x, y with | .int i, .int j => Q (.bl (decide (i < j))) m | _, _ => False)
  | .le => (match x, y with | .int i, .int j => Q (.bl (decide (i ≤ j))) m | _, _ => False)
  | .gt => (match x, y with | .int i, .int j => Q (.bl (decide (j < i))) m | _, _ => False)
  | .ge => (match x, y with | .int i, .int j => Q (.bl (decide (j ≤ i))) m | _, _ => False)
  | .eq => eqD m x y fun b => Q (.bl b) m
  | .ne => eqD m x y fun b => Q (.bl (!b)) m
  | .is_ => (match x, y with
    | .bl b, .bl c => Q (.bl (b == c)) m
    | .non, .non => Q (.bl true) m
    | _, .non => Q (.bl false) m
    | _, _ => False)
  | .isnt => (match x, y with
    | .non, .non => Q (.bl false) m
    | _, .non => Q (.bl true) m
    | _, _ => False)
  | .in_ => ∃ ys, seqOf m y = some ys ∧ inD x ys fun b => Q (.bl b) m
  | .notin => ∃ ys, seqOf m y = some ys ∧ inD x ys fun b => Q (.bl (!b)) m
def b1D (f : B1) (x : D) (m : Mem) (Q : KD) : Prop := match f with
  | .len => (match x with
    | .str z => z.length ≤ 1000000 ∧ Q (.int (z.length : Nat)) m
    | x => ∃ ds, seqOf m x = some ds ∧ Q (.int (ds.length : Nat)) m)
  | .abs => (match x with | .int i => Q (.int (if i < 0 then -i else i)) m | _ => False)
  | .int => (match x with | .int i => Q (.int i) m | .bl b => Q (.int (if b then 1 else 0)) m | _ => False)
  | .sum => ∃ ns : List Int, lstOf m x = some (ns.map D.int) ∧ Q (.int ns.sum) m
  | .tuple => ∃ ds, seqOf m x = some ds ∧ Q (.tup ds) m
  | .all => ∃ bs : List Bool, lstOf m x = some (bs.map D.bl) ∧ Q (.bl (bs.all id)) m
  | .any => ∃ bs : List Bool, lstOf m x = some (bs.map D.bl) ∧ Q (.bl (bs.any id)) m
  | .list mu => ∃ ds, seqOf m x = some ds ∧ newL mu ds m Q
  | .repr => D.flat 40 (dat m x) = true ∧ (dat m x).toP.showable = true ∧ (dat m x).toP.shown.length ≤ 1000000 ∧ Q (.str (dat m x).toP.shown) m
def b2D (f : B2) (x y : D) (m : Mem) (Q : KD) : Prop := match f, x, y with
  | .min, .int i, .int j => Q (.int (if j < i then j else i)) m
  | .max, .int i, .int j => Q (.int (if j > i then j else i)) m
  | _, _, _ => False
def tyD (m : Mem) : D → Option String
  | .non => some "NoneType" | .bl _ => some "bool" | .int _ => some "int" | .str _ => some "str" | .ty _ => none
  | .tup _ => some "tuple" | .lst _ => some "list"
  | .ref p => match m p with
    | some (.lst _) => some "list"
    | _ => none
def isiB (t T : String) : Bool := t == T || (t == "bool" && T == "int")
def ixD (m : Mem) (x y : D) (Q : KD) : Prop := match y with
  | .int i => (match x with
    | .str z => ∃ c, z.length ≤ 1000000 ∧ atI z.cps.toList i = some c ∧ Q (.str ⟨#[c]⟩) m
    | x => ∃ ds d, seqOf m x = some ds ∧ atI ds i = some d ∧ Q d m)
  | _ => False
def cutD (xs : List D) (lo hi : Option Int) : List D := (xs.drop (HT.sIx xs.length 0 lo)).take (HT.sIx xs.length xs.length hi - HT.sIx xs.length 0 lo)
def slD (mu : Bool) (m : Mem) (x : D) (lo hi : Option Int) (Q : KD) : Prop := match x with
  | .tup ds => Q (.tup (cutD ds lo hi)) m
  | x => ∃ ds, lstOf m x = some ds ∧ newL mu (cutD ds lo hi) m Q
def m1D (f : M1) (x y : D) (m : Mem) (Q : KD) : Prop := match f, x with
  | .append, .ref p => ∃ ds, m p = some (.lst ds) ∧ ds.length ≤ 1000000 ∧ Q .non (put m p (.lst (ds ++ [y])))
  | .extend, .ref p => ∃ ds es, m p = some (.lst ds) ∧ (match y with | .ref q => q ≠ p ∧ m q = some (.lst es) | _ => False) ∧ ds.length + es.length ≤ 1000000 ∧ Q .non (put m p (.lst (ds ++ es)))
  | _, _ => False

/-! ### what a term asks -/
abbrev Rho := List (Option D)
/-- a def's promise by data -/
abbrev Spec := List D → Mem → KD → Prop
structure Ctx where
  gd : List D
  fn : Nat → Spec
  cls : Nat → Addr
abbrev KR := Rho → Mem → Prop

mutual
def setT : Tg → D → Rho → (Rho → Prop) → Prop
  | .nm i, d, r, K => K (r.set i (some d))
  | .tup ts, d, r, K => ∃ ds, d = .tup ds ∧ setTs ts ds r K
def setTs : List Tg → List D → Rho → (Rho → Prop) → Prop
  | [], ds, r, K => ds = [] ∧ K r
  | t :: ts, ds, r, K => ∃ d e, ds = d :: e ∧ setT t d r fun r1 => setTs ts e r1 K
end
def wipeD (r : Rho) : List Nat → Rho
  | [] => r
  | v :: vs => (wipeD r vs).set v none

/-- one comprehension: the turns left, what is made (in the cell p) -/
def lcL (G : Mem → Prop) (turn : D → Mem → (Option D → Mem → Prop) → Prop) (p : Addr) : List D → List D → Mem → (List D → Mem → Prop) → Prop
  | [], acc, m, Q => G m ∧ m p = some (.lst acc) ∧ Q acc m
  | d :: ds, acc, m, Q => G m ∧ turn d m fun o m1 => m1 p = some (.lst acc) ∧ match o with
    | some e => lcL G turn p ds (acc ++ [e]) (put m1 p (.lst (acc ++ [e]))) Q
    | none => lcL G turn p ds acc m1 Q
def lcEnd (mu : Bool) (p : Addr) (Q : KD) (es : List D) (m2 : Mem) : Prop := match mu with
  | true => Q (.ref p) m2
  | false => Q (.lst es) (del m2 p)
/-- one loop -/
structure Kt where
  nx : KR
  rt : KD
  bk : KR
  ct : KR
def forL (G : Mem → Prop) (turn : D → Rho → Mem → Kt → Prop) : List D → Rho → Mem → Kt → Prop
  | [], r, m, K => G m ∧ K.nx r m
  | d :: ds, r, m, K => G m ∧ turn d r m { nx := fun r1 m1 => forL G turn ds r1 m1 K, ct := fun r1 m1 => forL G turn ds r1 m1 K, bk := K.nx, rt := K.rt }
def whL (test : Rho → Mem → (Bool → Mem → Prop) → Prop) (body : Rho → Mem → Kt → Prop) : Nat → Rho → Mem → Kt → Prop
  | 0, _, _, _ => False
  | n + 1, r, m, K => test r m fun b m1 => if b = true then body r m1 { nx := fun r2 m2 => whL test body n r2 m2 K, ct := fun r2 m2 => whL test body n r2 m2 K, bk := K.nx, rt := K.rt } else K.nx r m1

/-- a cell that a loop walks stays as it is -/
def guard (m : Mem) : D → Mem → Prop
  | .ref p => fun m' => m' p = m p
  | _ => fun _ => True
def rgD (lo hi : Int) : List D := (List.range (hi - lo).toNat).map fun i => D.int (lo + (i : Nat))
def enumD : Nat → List D → List D
  | _, [] => []
  | n, d :: ds => .tup [.int (n : Nat), d] :: enumD (n + 1) ds
def zipD : List D → List D → List D
  | x :: xs, y :: ys => .tup [x, y] :: zipD xs ys
  | _, _ => []
def small62 (i : Int) : Prop := -(2 ^ 62) ≤ i ∧ i < 2 ^ 62

section
variable (X : Ctx)
mutual
def ev : E → Rho → Mem → KD → Prop
  | .non, _, m, Q => Q .non m
  | .bl b, _, m, Q => Q (.bl b) m
  | .int i, _, m, Q => Q (.int i) m
  | .str x, _, m, Q => Q (.str x) m
  | .x i, r, m, Q => ∃ d, r[i]? = some (some d) ∧ Q d m
  | .g j, _, m, Q => ∃ d, X.gd[j]? = some d ∧ Q d m
  | .bop o a b, r, m, Q => ev a r m fun x m1 => ev b r m1 fun y m2 => opD o x y m2 Q
  | .neg a, r, m, Q => ev a r m fun x m1 => onI x fun i => Q (.int (-i)) m1
  | .cmp o a b, r, m, Q => ev a r m fun x m1 => ev b r m1 fun y m2 => cmpD o x y m2 Q
  | .ch o o' a b c, r, m, Q => ev a r m fun x m1 => ev b r m1 fun y m2 => cmpD o x y m2 fun z m3 => onB z fun k => if k = true then ev c r m3 fun w m4 => cmpD o' y w m4 Q else Q (.bl false) m3
  | .and a b, r, m, Q => ev a r m fun x m1 => onB x fun k => if k = true then ev b r m1 Q else Q (.bl false) m1
  | .or a b, r, m, Q => ev a r m fun x m1 => onB x fun k => if k = true then Q (.bl true) m1 else ev b r m1 Q
  | .not a, r, m, Q => ev a r m fun x m1 => onB x fun k => Q (.bl (!k)) m1
  | .ife c a b, r, m, Q => ev c r m fun x m1 => onB x fun k => if k = true then ev a r m1 Q else ev b r m1 Q
  | .tup es, r, m, Q => evs es r m fun ds m1 => ds.length ≤ 1000000 ∧ Q (.tup ds) m1
  | .lst mu es, r, m, Q => evs es r m fun ds m1 => ds.length ≤ 1000000 ∧ newL mu ds m1 Q
  | .star _, _, _, _ => False
  | .ix a i, r, m, Q => ev a r m fun x m1 => ev i r m1 fun y m2 => ixD m2 x y Q
  | .sl mu a lo hi, r, m, Q => ev a r m fun x m1 => evO lo r m1 fun l m2 => evO hi r m2 fun u m3 => slD mu m3 x l u Q
  | .call j es, r, m, Q => evs es r m fun ds m1 => ds.length = es.length ∧ X.fn j ds m1 Q
  | .callk j pm es, r, m, Q => evs es r m fun ds m1 => ds.length = es.length ∧ X.fn j (pm.map fun i => ds.getD i .non) m1 Q
  | .b1 f a, r, m, Q => ev a r m fun x m1 => b1D f x m1 Q
  | .b2 f a b, r, m, Q => ev a r m fun x m1 => ev b r m1 fun y m2 => b2D f x y m2 Q
  | .isi a T, r, m, Q => ev a r m fun x m1 => ∃ t, tyD m1 x = some t ∧ Q (.bl (isiB t T)) m1
  | .m1 f a b, r, m, Q => ev a r m fun x m1 => (∃ ds, lstOf m1 x = some ds) ∧ ev b r m1 fun y m2 => m1D f x y m2 Q
  | .lc mu elt t it ifs own, r, m, Q => evI it r m fun ds G m1 => ∀ p, m1 p = none →
      lcL G (fun d m2 K => setT t d (wipeD r own) fun r1 => evT ifs r1 m2 fun b m3 => if b = true then ev elt r1 m3 fun e m4 => K (some e) m4 else K none m3) p ds [] (put m1 p (.lst [])) (lcEnd mu p Q)
  | .lrg mu lo hi, r, m, Q => ev lo r m fun x m1 => ev hi r m1 fun y m2 => onI x fun i => onI y fun j => small62 i ∧ small62 j ∧ (j - i).toNat ≤ 1000000 ∧ newL mu (rgD i j) m2 Q
  | .slot a c i, r, m, Q => ev a r m fun x m1 => ∃ p dx fs d, x = .ref p ∧ m1 p = some (.obj (X.cls c) dx fs) ∧ fs[i]? = some (some d) ∧ Q d m1
  | .mk c j es, r, m, Q => evs es r m fun ds m1 => ds.length = es.length ∧ ∀ p dx, m1 p = none → m1 dx = none → dx ≠ p → X.fn j (.ref p :: ds) (put (put m1 dx (.hid p)) p (.obj (X.cls c) dx [])) fun d m2 => d = .non ∧ Q (.ref p) m2
  | .meth j c a es, r, m, Q => ev a r m fun x m1 => ∃ p dx fs, x = .ref p ∧ m1 p = some (.obj (X.cls c) dx fs) ∧ evs es r m1 fun ds m2 => ds.length = es.length ∧ X.fn j (x :: ds) m2 Q
  | .frz a, r, m, Q => ev a r m fun x m1 => ∃ p ds, x = .ref p ∧ m1 p = some (.lst ds) ∧ Q (.lst ds) (del m1 p)
def evs : List E → Rho → Mem → (List D → Mem → Prop) → Prop
  | [], _, m, Q => Q [] m
  | .star a :: es, r, m, Q => ev a r m fun x m1 => ∃ ds, seqOf m1 x = some ds ∧ evs es r m1 fun es' m2 => Q (ds ++ es') m2
  | e :: es, r, m, Q => ev e r m fun x m1 => evs es r m1 fun ds m2 => Q (x :: ds) m2
def evO : Option E → Rho → Mem → (Option Int → Mem → Prop) → Prop
  | none, _, m, Q => Q none m
  | some e, r, m, Q => ev e r m fun x m1 => onI x fun i => Q (some i) m1
def evT : List E → Rho → Mem → (Bool → Mem → Prop) → Prop
  | [], _, m, Q => Q true m
  | e :: es, r, m, Q => ev e r m fun x m1 => onB x fun k => if k = true then evT es r m1 Q else Q false m1
def evI : Ita → Rho → Mem → (List D → (Mem → Prop) → Mem → Prop) → Prop
  | .sq a, r, m, Q => ev a r m fun x m1 => ∃ ds, seqOf m1 x = some ds ∧ Q ds (guard m1 x) m1
  | .rg1 a, r, m, Q => ev a r m fun x m1 => onI x fun i => i ≤ 1000000 ∧ -1000000 ≤ i ∧ Q (rgD 0 i) (fun _ => True) m1
  | .rg2 a b, r, m, Q => ev a r m fun x m1 => ev b r m1 fun y m2 => onI x fun i => onI y fun j => small62 i ∧ small62 j ∧ (j - i).toNat ≤ 1000000 ∧ Q (rgD i j) (fun _ => True) m2
  | .enum a, r, m, Q => ev a r m fun x m1 => ∃ ds, seqOf m1 x = some ds ∧ Q (enumD 0 ds) (guard m1 x) m1
  | .zip a b, r, m, Q => ev a r m fun x m1 => ev b r m1 fun y m2 => ∃ ds es, seqOf m2 x = some ds ∧ seqOf m2 y = some es ∧ Q (zipD ds es) (fun m' => guard m2 x m' ∧ guard m2 y m') m2
end

def evB (e : E) (r : Rho) (m : Mem) (Q : Bool → Mem → Prop) : Prop := ev X e r m fun x m1 => onB x fun b => Q b m1
/-- x[z] = d, x a list in a cell -/
def stL (x z d : D) (m : Mem) (Q : Mem → Prop) : Prop := ∃ p ds k j, x = .ref p ∧ z = .int k ∧ m p = some (.lst ds) ∧ ixN ds.length k = some j ∧ Q (put m p (.lst (ds.set j d)))
mutual
def ex : S → Rho → Mem → Kt → Prop
  | .ret e, r, m, K => ev X e r m K.rt
  | .retN, _, m, K => K.rt .non m
  | .asg t e, r, m, K => ev X e r m fun x m1 => setT t x r fun r1 => K.nx r1 m1
  | .par is es, r, m, K => evs X es r m fun ds m1 => ds.length = is.length ∧ K.nx ((is.zip ds).foldl (fun r p => r.set p.1 (some p.2)) r) m1
  | .asgC i e, r, m, K => ev X e r m fun x m1 => K.nx (r.set i (some x)) m1
  | .setIx a i e, r, m, K => ev X e r m fun y m1 => ev X a r m1 fun x m2 => ev X i r m2 fun z m3 => ∃ p ds k j, x = .ref p ∧ z = .int k ∧ m3 p = some (.lst ds) ∧ ixN ds.length k = some j ∧ K.nx r (put m3 p (.lst (ds.set j y)))
  | .setAt a c i e, r, m, K => ev X e r m fun y m1 => ev X a r m1 fun x m2 => ∃ p dx fs, x = .ref p ∧ m2 p = some (.obj (X.cls c) dx fs) ∧ K.nx r (put m2 p (.obj (X.cls c) dx (putF i y fs)))
  | .setIx2 a i b j e, r, m, K => ev X e r m fun y m1 => ∃ d1 d2, y = .tup [d1, d2] ∧ ev X a r m1 fun x m2 => ev X i r m2 fun z m3 => stL x z d1 m3 fun m4 => ev X b r m4 fun x2 m5 => ev X j r m5 fun z2 m6 => stL x2 z2 d2 m6 fun m7 => K.nx r m7
  | .ex e, r, m, K => ev X e r m fun _ m1 => K.nx r m1
  | .ite c a b, r, m, K => evB X c r m fun k m1 => if k = true then exs a r m1 K else exs b r m1 K
  | .for_ t it b, r, m, K => evI X it r m fun ds G m1 => forL G (fun d r m K => setT t d r fun r1 => exs b r1 m K) ds r m1 K
  | .while_ c b, r, m, K => ∃ n, whL (fun r m Q => evB X c r m Q) (fun r m K => exs b r m K) n r m K
  | .never, _, _, _ => False
  | .brk, r, m, K => K.bk r m
  | .cnt, r, m, K => K.ct r m
  | .pass, r, m, K => K.nx r m
def exs : List S → Rho → Mem → Kt → Prop
  | [], r, m, K => K.nx r m
  | s :: ss, r, m, K => ex s r m { K with nx := fun r1 m1 => exs ss r1 m1 K }
end
end
/-- a def's body at its arguments: n names in all -/
def startD (n : Nat) (ds : List D) : Rho := ds.map some ++ List.replicate (n - ds.length) none
def body (X : Ctx) (n : Nat) (b : List S) (ds : List D) (m : Mem) (Q : KD) : Prop :=
  exs X b (startD n ds) m { nx := fun _ m1 => ∃ m2, SubO m2 m1 ∧ Q .non m2, rt := fun d m1 => ∃ m2, SubO m2 m1 ∧ Q d m2, bk := fun _ _ => False, ct := fun _ _ => False }
end Og
end
section
set_option maxHeartbeats 4000000
set_option autoImplicit false
/-! Og: the number systems: fractions, numbers modulo a small prime. -/
namespace Og
open PySem

abbrev bits (i : Int) : Nat := Builtin.Int.intBits i
theorem bits_le {i : Int} {n : Nat} (h : i.natAbs < 2 ^ n) : bits i ≤ n := by
  unfold bits Builtin.Int.intBits
  split
  · exact Nat.zero_le _
  · rename_i hz
    have hz' : i.natAbs ≠ 0 := by simpa using hz
    have := (Nat.log2_lt hz').mpr h
    omega
theorem lt_bits (i : Int) : i.natAbs < 2 ^ bits i := by
  unfold bits Builtin.Int.intBits
  split
  · rename_i hz
    have : i = 0 := by simpa using hz
    simp [this]
  · exact Nat.lt_log2_self
theorem mulOk_of {i j : Int} {n k : Nat} (h1 : bits i ≤ n) (h2 : bits j ≤ k) (h : n + k ≤ 2 ^ 27) : IntMulOk i j := by
  unfold IntMulOk
  intro z
  simp only [Bool.and_eq_true, decide_eq_true_eq, Builtin.Int.intTooBig] at z
  have h3 : bitsLine = 2 ^ 27 := rfl
  have h1' : Builtin.Int.intBits i ≤ n := h1
  have h2' : Builtin.Int.intBits j ≤ k := h2
  omega
theorem mulOk_small {i j : Int} (h : i.natAbs < 2 ^ 64) : IntMulOk i j := IntMulOk.of_left (bits_le h)

theorem mulOk_smallR {i j : Int} (h : j.natAbs < 2 ^ 64) : IntMulOk i j := by
  have hb : Builtin.Int.intBits j ≤ 64 := bits_le h
  unfold IntMulOk
  intro z
  simp only [Bool.and_eq_true, decide_eq_true_eq] at z
  have h3 : shortFactorBits = 64 := rfl
  omega
structure Sys where
  F : Type
  [ring : Lean.Grind.CommRing F]
  [dec : DecidableEq F]
  inv : F → F
  inv_mul : ∀ x : F, x ≠ 0 → inv x * x = 1
  one_ne : (1 : F) ≠ 0
  by_ : Int
  num : F → Int
  den : F → Int
  inj : ∀ x y : F, num x = num y → den x = den y → x = y
  num0 : num 0 = 0
  den0 : den 0 = 1
  num1 : num 1 = 1
  den1 : den 1 = 1
  ht : F → Nat
  num_ht : ∀ x, bits (num x) ≤ ht x
  den_ht : ∀ x, bits (den x) ≤ ht x
  I : Int → F
  I_add : ∀ i j, I (i + j) = I i + I j
  I_mul : ∀ i j, I (i * j) = I i * I j
  I_one : I 1 = 1
  num_den : ∀ x : F, x * I (den x) = I (num x)
  den_ne : ∀ x : F, I (den x) ≠ 0
  cd : Nat → Nat → F → Prop
  cd_I : ∀ {d : Nat} (i : Int), cd d (i.natAbs * d) (I i)
  cd_add : ∀ {d a b : Nat} {x y : F}, cd d a x → cd d b y → cd d (a + b) (x + y)
  cd_mul : ∀ {d e a b : Nat} {x y : F}, cd d a x → cd e b y → cd (d * e) (a * b) (x * y)
  cd_neg : ∀ {d a : Nat} {x : F}, cd d a x → cd d a (-x)
  cd_up : ∀ {d a : Nat} (e : Nat) {x : F}, cd d a x → cd (d * e) (a * e) x
  cd_le : ∀ {d a b : Nat} {x : F}, cd d a x → a ≤ b → cd d b x
  cd_zero : ∀ {d : Nat}, cd d 0 0
  cd_one : ∀ {d : Nat}, cd d d 1
  cd_div : ∀ {d b : Nat} {y : F}, 0 < d → cd d b y → y ≠ 0 → ∃ e : Nat, 0 < e ∧ e ≤ max b 1 ∧ ∀ (a : Nat) (x : F), cd d a x → cd e a (inv y * x)
  cd_ht : ∀ {d a n : Nat} {x : F}, cd d a x → 0 < d → d < 2 ^ n → a < 2 ^ n → 7 ≤ n → ht x ≤ n
instance (S : Sys) : Lean.Grind.CommRing S.F := S.ring
instance (S : Sys) : DecidableEq S.F := S.dec

/-! ### fractions -/
namespace Fr
def cd (d a : Nat) (x : Rat) : Prop := ∃ i : Int, i.natAbs ≤ a ∧ x * (d : Rat) = (i : Rat)
def ht (x : Rat) : Nat := max (bits x.num) (bits (x.den : Int))
theorem cd_add {d a b : Nat} {x y : Rat} (h : cd d a x) (h' : cd d b y) : cd d (a + b) (x + y) := by
  obtain ⟨i, h1, h2⟩ := h
  obtain ⟨j, h3, h4⟩ := h'
  refine ⟨i + j, by omega, ?_⟩
  rw [Rat.add_mul, h2, h4, Rat.intCast_add]
theorem cd_mul {d e a b : Nat} {x y : Rat} (h : cd d a x) (h' : cd e b y) : cd (d * e) (a * b) (x * y) := by
  obtain ⟨i, h1, h2⟩ := h
  obtain ⟨j, h3, h4⟩ := h'
  refine ⟨i * j, by rw [Int.natAbs_mul]; exact Nat.mul_le_mul h1 h3, ?_⟩
  rw [Rat.intCast_mul, ← h2, ← h4, Rat.natCast_mul]
  grind
theorem cd_neg {d a : Nat} {x : Rat} (h : cd d a x) : cd d a (-x) := by
  obtain ⟨i, h1, h2⟩ := h
  refine ⟨-i, by omega, ?_⟩
  rw [Rat.intCast_neg, ← h2]
  grind
theorem cd_up {d a : Nat} (e : Nat) {x : Rat} (h : cd d a x) : cd (d * e) (a * e) x := by
  obtain ⟨i, h1, h2⟩ := h
  refine ⟨i * (e : Int), by rw [Int.natAbs_mul]; exact Nat.mul_le_mul h1 (by simp), ?_⟩
  rw [Rat.intCast_mul, ← h2, Rat.natCast_mul, Rat.intCast_natCast]
  grind
theorem cd_le {d a b : Nat} {x : Rat} (h : cd d a x) (l : a ≤ b) : cd d b x := by
  obtain ⟨i, h1, h2⟩ := h
  exact ⟨i, by omega, h2⟩
theorem cd_zero {d : Nat} : cd d 0 0 := ⟨0, by simp, by simp⟩
theorem cd_one {d : Nat} : cd d d 1 := ⟨(d : Int), by simp, by rw [Rat.one_mul, Rat.intCast_natCast]⟩
theorem natAbs_cast (b : Int) : ((b.natAbs : Nat) : Rat) = (b : Rat) ∨ ((b.natAbs : Nat) : Rat) = -(b : Rat) := by
  rcases Int.natAbs_eq b with h | h
  · left
    rw [← Rat.intCast_natCast, ← h]
  · right
    rw [← Rat.intCast_natCast, ← Rat.intCast_neg]
    congr 1
    omega
theorem cd_div {d b : Nat} {y : Rat} (hd : 0 < d) (h : cd d b y) (hy : y ≠ 0) : ∃ e : Nat, 0 < e ∧ e ≤ max b 1 ∧ ∀ (a : Nat) (x : Rat), cd d a x → cd e a (y⁻¹ * x) := by
  obtain ⟨j, h1, h2⟩ := h
  have hd' : (d : Rat) ≠ 0 := by
    intro z
    have : d = 0 := by exact_mod_cast z
    omega
  have hj : j ≠ 0 := by
    intro z
    rw [z] at h2
    have h3 : y * (d : Rat) = 0 := by simpa using h2
    rcases Rat.mul_eq_zero.mp h3 with z | z
    · exact hy z
    · exact hd' z
  refine ⟨j.natAbs, by omega, by omega, fun a x ⟨i, h3, h4⟩ => ?_⟩
  have key : y⁻¹ * x * (j : Rat) = (i : Rat) := by
    rw [← h2, ← h4]
    grind
  rcases natAbs_cast j with z | z
  · exact ⟨i, h3, by rw [z, key]⟩
  · exact ⟨-i, by omega, by rw [z, Rat.intCast_neg, ← key]; grind⟩
theorem cd_ht {d a n : Nat} {x : Rat} (h : cd d a x) (h0 : 0 < d) (hd : d < 2 ^ n) (ha : a < 2 ^ n) (_ : 7 ≤ n) : ht x ≤ n := by
  obtain ⟨i, h1, h2⟩ := h
  have hd' : (d : Rat) ≠ 0 := by
    intro z
    have : d = 0 := by exact_mod_cast z
    omega
  have e : x = Rat.divInt i (d : Int) := by
    rw [Rat.divInt_eq_div, Rat.intCast_natCast, ← h2]
    grind
  unfold ht
  have e1 := Rat.num_divInt i (d : Int)
  have e2 := Rat.den_divInt i (d : Int)
  rw [← e] at e1 e2
  have b1 : x.num.natAbs ≤ a := by
    rw [e1, Int.sign_eq_one_of_pos (by omega), Int.one_mul]
    refine Nat.le_trans ?_ h1
    rw [Int.natAbs_ediv_of_dvd (by exact_mod_cast Int.gcd_dvd_right ..)]
    exact Nat.div_le_self _ _
  have b2 : x.den ≤ d := by
    rw [e2, if_neg (by omega)]
    exact Nat.le_trans (Nat.div_le_self _ _) (by simp)
  exact Nat.max_le.mpr ⟨bits_le (by omega), bits_le (by simp; omega)⟩
end Fr
def ratS : Sys where
  F := Rat
  inv := fun x => x⁻¹
  inv_mul := fun x h => Rat.inv_mul_cancel x h
  one_ne := by decide
  by_ := 0
  num := Rat.num
  den := fun x => (x.den : Int)
  inj := fun x y h1 h2 => Rat.ext h1 (by exact_mod_cast h2)
  num0 := rfl
  den0 := rfl
  num1 := rfl
  den1 := rfl
  ht := Fr.ht
  num_ht := fun x => Nat.le_max_left _ _
  den_ht := fun x => Nat.le_max_right _ _
  I := fun i => (i : Rat)
  I_add := fun i j => Rat.intCast_add i j
  I_mul := fun i j => Rat.intCast_mul i j
  I_one := rfl
  num_den := fun x => by
    show x * ((x.den : Int) : Rat) = (x.num : Rat)
    rw [Rat.intCast_natCast]
    have h := Rat.num_divInt_den x
    rw [Rat.divInt_eq_div, Rat.intCast_natCast] at h
    have hd : ((x.den : Nat) : Rat) ≠ 0 := by
      intro z
      have : x.den = 0 := by exact_mod_cast z
      exact x.den_nz this
    have e : (x.num : Rat) / (x.den : Rat) * (x.den : Rat) = (x.num : Rat) := Rat.div_mul_cancel hd
    rw [h] at e
    exact e
  den_ne := fun x => by
    show ((x.den : Int) : Rat) ≠ 0
    intro z
    have : (x.den : Int) = 0 := by exact_mod_cast z
    have := x.den_nz
    omega
  cd := Fr.cd
  cd_I := fun {d} i => ⟨i * (d : Int), by rw [Int.natAbs_mul]; simp, by rw [Rat.intCast_mul, Rat.intCast_natCast]⟩
  cd_add := Fr.cd_add
  cd_mul := Fr.cd_mul
  cd_neg := Fr.cd_neg
  cd_up := Fr.cd_up
  cd_le := Fr.cd_le
  cd_zero := Fr.cd_zero
  cd_one := Fr.cd_one
  cd_div := Fr.cd_div
  cd_ht := Fr.cd_ht

/-! ### modulo p -/
namespace Zp
variable (p : Nat) [NeZero p]
def inv (x : Fin p) : Fin p := ((List.finRange p).find? fun y => y * x == 1).getD 0
structure Pr : Prop where
  two : 2 ≤ p
  small : p < 128
  inv : ∀ x : Fin p, x ≠ 0 → inv p x * x = 1
end Zp
theorem zp_I (p : Nat) [NeZero p] (i : Int) : ((Fin.ofNat p (i % (p : Int)).toNat).val : Int) = i % (p : Int) := by
  have hp : (0 : Int) < p := by have := Nat.pos_of_ne_zero (NeZero.ne p); omega
  have h1 := Int.emod_nonneg i (Int.ne_of_gt hp)
  have h2 := Int.emod_lt_of_pos i hp
  show ((((i % (p : Int)).toNat % p : Nat)) : Int) = _
  rw [Nat.mod_eq_of_lt (by omega)]
  exact Int.toNat_of_nonneg h1
theorem fin_eq {p : Nat} {x y : Fin p} (h : (x.val : Int) = (y.val : Int)) : x = y := Fin.ext (by exact_mod_cast h)
def zpS (p : Nat) [NeZero p] (h : Zp.Pr p) : Sys where
  F := Fin p
  inv := Zp.inv p
  inv_mul := h.inv
  one_ne := by
    have := h.two
    intro z
    have z' := congrArg Fin.val z
    have z2 : 1 % p = 0 % p := z'
    rw [Nat.mod_eq_of_lt (by omega), Nat.zero_mod] at z2
    cases z2
  by_ := (p : Int)
  num := fun x => (x.val : Int)
  den := fun _ => 1
  inj := fun x y h1 _ => Fin.ext (by exact_mod_cast h1)
  num0 := by simp
  den0 := rfl
  num1 := by
    have := h.two
    show ((1 % p : Nat) : Int) = 1
    rw [Nat.mod_eq_of_lt (by omega)]
    rfl
  den1 := rfl
  ht := fun _ => 7
  num_ht := fun x => bits_le (by
    have := x.isLt
    have := h.small
    simp
    omega)
  den_ht := fun _ => by decide
  I := fun i => Fin.ofNat p (i % (p : Int)).toNat
  I_add := fun i j => fin_eq (by
    rw [zp_I, Fin.val_add, Int.natCast_emod, Int.natCast_add, zp_I, zp_I, ← Int.add_emod])
  I_mul := fun i j => fin_eq (by
    rw [zp_I, Fin.val_mul, Int.natCast_emod, Int.natCast_mul, zp_I, zp_I, ← Int.mul_emod])
  I_one := fin_eq (by
    have := h.two
    rw [zp_I]
    show 1 % (p : Int) = ((1 % p : Nat) : Int)
    rw [Int.natCast_emod]; rfl)
  num_den := fun x => fin_eq (by
    have h1 : ((Fin.ofNat p (1 % (p : Int)).toNat).val : Int) = 1 := by
      have := h.two
      rw [zp_I, Int.emod_eq_of_lt (by omega) (by omega)]
    rw [zp_I, Fin.val_mul, Int.natCast_emod, Int.natCast_mul, h1, Int.mul_one])
  den_ne := fun x z => by
    have h1 := congrArg (fun y : Fin p => (y.val : Int)) z
    have := h.two
    rw [zp_I, Int.emod_eq_of_lt (by omega) (by omega)] at h1
    have h2 : (1 : Int) = ((0 % p : Nat) : Int) := h1
    rw [Nat.zero_mod] at h2
    cases h2
  cd := fun _ _ _ => True
  cd_I := by intros; trivial
  cd_add := fun _ _ => trivial
  cd_mul := fun _ _ => trivial
  cd_neg := fun _ => trivial
  cd_up := by intros; trivial
  cd_le := fun _ _ => trivial
  cd_zero := trivial
  cd_one := trivial
  cd_div := fun _ _ _ => ⟨1, by omega, by omega, fun _ _ _ => trivial⟩
  cd_ht := fun _ _ _ _ h => h
theorem pr2 : Zp.Pr 2 := ⟨by decide, by decide, by decide +kernel⟩
theorem pr3 : Zp.Pr 3 := ⟨by decide, by decide, by decide +kernel⟩
theorem pr5 : Zp.Pr 5 := ⟨by decide, by decide, by decide +kernel⟩
theorem pr97 : Zp.Pr 97 := ⟨by decide, by decide, by decide +kernel⟩
inductive Ks | q | z2 | z3 | z5 | z97
def sys : Ks → Sys
  | .q => ratS | .z2 => zpS 2 pr2 | .z3 => zpS 3 pr3 | .z5 => zpS 5 pr5 | .z97 => zpS 97 pr97
/-- a fraction, or a number modulo p -/
theorem sys_cases {P : Sys → Prop} (h0 : P ratS) (h1 : ∀ (p : Nat) [NeZero p] (h : Zp.Pr p), P (zpS p h)) : ∀ k, P (sys k)
  | .q => h0 | .z2 => h1 2 pr2 | .z3 => h1 3 pr3 | .z5 => h1 5 pr5 | .z97 => h1 97 pr97
end Og
end
section
set_option maxHeartbeats 4000000
set_option autoImplicit false
/-! Og: how the systems' numbers are computed. -/
namespace Og
open PySem
def Sys.d (S : Sys) (x : S.F) : D := .tup [.int (S.num x), .int (S.den x)]
def Sys.quo (S : Sys) (t b : Int) (x : S.F) : Prop := S.I b ≠ 0 ∧ x * S.I b = S.I t
section
variable {S : Sys}
theorem quo_add (x y : S.F) : S.quo (S.num x * S.den y + S.num y * S.den x) (S.den x * S.den y) (x + y) := by
  have h1 := S.num_den x
  have h2 := S.num_den y
  have h3 := S.den_ne x
  have h4 := S.den_ne y
  have i3 := S.inv_mul _ h3
  have i4 := S.inv_mul _ h4
  have o := S.one_ne
  refine ⟨?_, ?_⟩
  · rw [S.I_mul]
    intro z
    apply o
    have : S.inv (S.I (S.den x)) * S.inv (S.I (S.den y)) * (S.I (S.den x) * S.I (S.den y)) = 1 := by grind
    rw [z] at this
    grind
  · rw [S.I_mul, S.I_add, S.I_mul, S.I_mul]
    grind
theorem quo_mul (x y : S.F) : S.quo (S.num x * S.num y) (S.den x * S.den y) (x * y) := by
  refine ⟨(quo_add x y).1, ?_⟩
  have h1 := S.num_den x
  have h2 := S.num_den y
  rw [S.I_mul, S.I_mul]
  grind
theorem I_neg (i : Int) : S.I (-i) = -S.I i := by
  have h := S.I_add i (-i)
  rw [Int.add_right_neg] at h
  have h0 := S.I_add 0 0
  rw [Int.add_zero] at h0
  grind
theorem I_zero : S.I 0 = 0 := by
  have h0 := S.I_add 0 0
  rw [Int.add_zero] at h0
  grind
theorem quo_neg (x : S.F) : S.quo (-S.num x) (S.den x) (-x) := by
  refine ⟨S.den_ne x, ?_⟩
  have h1 := S.num_den x
  rw [I_neg]
  grind
theorem num_zero {x : S.F} : S.num x = 0 ↔ x = 0 := by
  constructor
  · intro h
    have h1 := S.num_den x
    rw [h, I_zero] at h1
    have i3 := S.inv_mul _ (S.den_ne x)
    grind
  · rintro rfl; exact S.num0
theorem quo_inv {x : S.F} (hx : x ≠ 0) : S.quo (S.den x) (S.num x) (S.inv x) := by
  have h1 := S.num_den x
  have i := S.inv_mul x hx
  have i3 := S.inv_mul _ (S.den_ne x)
  refine ⟨?_, by rw [← h1]; grind⟩
  intro z
  apply hx
  rw [← h1] at z
  grind
theorem quo_int (i : Int) : S.quo i 1 (S.I i) := ⟨by rw [S.I_one]; exact S.one_ne, by rw [S.I_one]; grind⟩
theorem quo_self (x : S.F) : S.quo (S.num x) (S.den x) x := ⟨S.den_ne x, S.num_den x⟩
end
/-! ### fractions -/
def gsig (t b : Int) : Int := if 0 < b then (Int.gcd t b : Int) else -(Int.gcd t b : Int)
theorem rat_quo {t b : Int} {x : Rat} (h : ratS.quo t b x) : b ≠ 0 ∧ gsig t b ≠ 0 ∧ t.fdiv (gsig t b) = x.num ∧ b.fdiv (gsig t b) = (x.den : Int) := by
  obtain ⟨h1, h2⟩ := h
  have hb : b ≠ 0 := fun z => h1 (by rw [z]; rfl)
  have h1' : (b : Rat) ≠ 0 := h1
  have h2' : x * (b : Rat) = (t : Rat) := h2
  have e : x = Rat.divInt t b := by
    rw [Rat.divInt_eq_div, ← h2']
    grind
  have e1 := Rat.num_divInt t b
  have e2 := Rat.den_divInt t b
  rw [← e] at e1 e2
  rw [if_neg hb] at e2
  have hg : (Int.gcd b t : Int) ≠ 0 := by
    have : Int.gcd b t ≠ 0 := fun z => hb (Int.gcd_eq_zero_iff.mp z).1
    omega
  have gc : Int.gcd t b = Int.gcd b t := Int.gcd_comm t b
  have gt : (Int.gcd b t : Int) ∣ t := Int.gcd_dvd_right ..
  have gb : (Int.gcd b t : Int) ∣ b := Int.gcd_dvd_left ..
  obtain ⟨t', ht⟩ := gt
  obtain ⟨b', hb'⟩ := gb
  have dn : ((x.den : Nat) : Int) = (b'.natAbs : Int) := by
    rw [e2]
    have : b.natAbs = Int.gcd b t * b'.natAbs := by
      conv => lhs; rw [hb']
      rw [Int.natAbs_mul]; simp
    rw [this, Nat.mul_div_cancel_left _ (by omega)]
  have nm : x.num = b.sign * t' := by
    rw [e1]
    conv => lhs; lhs; rhs; rw [ht]
    rw [show b.sign * ((Int.gcd b t : Int) * t') = (Int.gcd b t : Int) * (b.sign * t') from by rw [← Int.mul_assoc, Int.mul_comm b.sign, Int.mul_assoc]]
    exact Int.mul_ediv_cancel_left _ hg
  have hg0 : gsig t b ≠ 0 := by unfold gsig; rw [gc]; split <;> omega
  refine ⟨hb, hg0, ?_, ?_⟩
  · have : t = x.num * gsig t b := by
      rw [nm]
      unfold gsig
      rw [gc]
      by_cases hp : 0 < b
      · rw [if_pos hp, Int.sign_eq_one_of_pos hp, Int.one_mul, Int.mul_comm]; exact ht
      · rw [if_neg hp, Int.sign_eq_neg_one_of_neg (by omega), Int.neg_mul, Int.one_mul, Int.neg_mul_neg, Int.mul_comm]; exact ht
    conv => lhs; lhs; rw [this]
    exact Int.mul_fdiv_cancel _ hg0
  · have : b = (x.den : Int) * gsig t b := by
      rw [dn]
      unfold gsig
      rw [gc]
      have gp : (0 : Int) < (Int.gcd b t : Int) := by omega
      by_cases hp : 0 < b
      · have hb2 : 0 ≤ b' := by
          rcases Int.lt_or_le b' 0 with z | z
          · exfalso
            have := Int.mul_neg_of_pos_of_neg gp z
            rw [← hb'] at this
            omega
          · exact z
        rw [if_pos hp, Int.natAbs_of_nonneg hb2, Int.mul_comm]; exact hb'
      · have hb2 : b' < 0 := by
          rcases Int.lt_or_le b' 0 with z | z
          · exact z
          · exfalso
            have := Int.mul_nonneg (Int.le_of_lt gp) z
            rw [← hb'] at this
            omega
        rw [if_neg hp, Int.ofNat_natAbs_of_nonpos (Int.le_of_lt hb2), Int.neg_mul_neg, Int.mul_comm]; exact hb'
    conv => lhs; lhs; rw [this]
    exact Int.mul_fdiv_cancel _ hg0

/-! ### modulo p -/
theorem zp_num (p : Nat) [NeZero p] (h : Zp.Pr p) (i : Int) : (zpS p h).num ((zpS p h).I i) = i % (p : Int) := zp_I p i
theorem zp_quo {p : Nat} [NeZero p] {h : Zp.Pr p} {t b : Int} {x : (zpS p h).F} (q : (zpS p h).quo t b x) {f : Int} (hf : (zpS p h).I f * (zpS p h).I b = 1) : (zpS p h).num x = (t * f) % (p : Int) := by
  obtain ⟨h1, h2⟩ := q
  rw [← zp_num p h, (zpS p h).I_mul, ← h2]
  congr 1
  grind
theorem zp_I_eq {p : Nat} [NeZero p] {h : Zp.Pr p} {i j : Int} : (zpS p h).I i = (zpS p h).I j ↔ i % (p : Int) = j % (p : Int) := by
  constructor
  · intro e
    rw [← zp_num p h, ← zp_num p h, e]
  · intro e
    refine (zpS p h).inj _ _ ?_ rfl
    rw [zp_num, zp_num, e]
theorem zp_I_mod {p : Nat} [NeZero p] {h : Zp.Pr p} {i : Int} : (zpS p h).I (i % (p : Int)) = (zpS p h).I i := zp_I_eq.mpr (Int.emod_emod_of_dvd _ (Int.dvd_refl _))
/-- a number's inverse among 1 .. p - 1 -/
theorem zp_back {p : Nat} [NeZero p] {h : Zp.Pr p} {b : Int} (hb : (zpS p h).I b ≠ 0) : ∃ f : Nat, 1 ≤ f ∧ f < p ∧ ((f : Int) * b) % (p : Int) = 1 := by
  have hi := (zpS p h).inv_mul _ hb
  have h2 := h.two
  let y : Fin p := (zpS p h).inv ((zpS p h).I b)
  have e : (zpS p h).I (y.val : Int) = (zpS p h).inv ((zpS p h).I b) := (zpS p h).inj _ _ (by
    rw [zp_num]
    have := y.isLt
    exact Int.emod_eq_of_lt (by omega) (by omega)) rfl
  have key : (((y.val : Nat) : Int) * b) % (p : Int) = 1 := by
    have : (zpS p h).I ((y.val : Int) * b) = (zpS p h).I 1 := by rw [(zpS p h).I_mul, e, hi, (zpS p h).I_one]
    rw [zp_I_eq] at this
    rw [this]
    exact Int.emod_eq_of_lt (by omega) (by omega)
  refine ⟨y.val, ?_, y.isLt, key⟩
  rcases Nat.eq_zero_or_pos y.val with z | z
  · rw [z] at key
    simp at key
  · exact z
theorem zp_one {p : Nat} [NeZero p] {h : Zp.Pr p} {f b : Int} (e : (f * b) % (p : Int) = 1) : (zpS p h).I f * (zpS p h).I b = 1 := by
  have h2 := h.two
  rw [← (zpS p h).I_mul, ← (zpS p h).I_one, zp_I_eq, e]
  exact (Int.emod_eq_of_lt (by omega) (by omega)).symm
theorem fmod_p {i : Int} {p : Nat} : i.fmod (p : Int) = i % (p : Int) := Int.fmod_eq_emod_of_nonneg _ (by omega)

theorem zp_num_I {p : Nat} [NeZero p] {h : Zp.Pr p} (x : (zpS p h).F) : (zpS p h).I ((zpS p h).num x) = x := by
  have h1 := (zpS p h).num_den x
  have h2 : (zpS p h).den x = 1 := rfl
  rw [h2, (zpS p h).I_one] at h1
  grind
theorem zp_add {p : Nat} [NeZero p] {h : Zp.Pr p} (x y : (zpS p h).F) : (zpS p h).num (x + y) = ((zpS p h).num x + (zpS p h).num y) % (p : Int) := by
  rw [← zp_num p h, (zpS p h).I_add, zp_num_I, zp_num_I]
theorem zp_mul {p : Nat} [NeZero p] {h : Zp.Pr p} (x y : (zpS p h).F) : (zpS p h).num (x * y) = ((zpS p h).num x * (zpS p h).num y) % (p : Int) := by
  rw [← zp_num p h, (zpS p h).I_mul, zp_num_I, zp_num_I]
theorem zp_range {p : Nat} [NeZero p] {h : Zp.Pr p} (x : (zpS p h).F) : 0 ≤ (zpS p h).num x ∧ (zpS p h).num x < p := by
  have : (zpS p h).num x = ((x : Fin p).val : Int) := rfl
  have := (x : Fin p).isLt
  omega
theorem den_pos (k : Ks) : ∀ x : (sys k).F, 1 ≤ (sys k).den x := sys_cases (P := fun S => ∀ x : S.F, 1 ≤ S.den x) (fun x => by
  have := Rat.den_pos (self := x)
  show (1 : Int) ≤ ((Rat.den x : Nat) : Int)
  omega) (fun p _ h x => by show (1 : Int) ≤ 1; omega) k
theorem rat_coprime (x : Rat) : Int.gcd x.num (x.den : Int) = 1 := x.reduced
end Og
end
section
set_option autoImplicit true
set_option maxHeartbeats 4000000
/-! Og: values: each operator's rule by data. -/
namespace Og
open PySem PySem.Spec PyProof.Rows L2

/-- where an answer may go on -/
def Fin (K : PySem.W.Frag) (m : Mem) (H : Hp) (Q : KD) (Q' : VK) : Prop := ∀ d m' v H', Q d m' → Rep K m' H' v d → MemOk K m' H' → Step m H m' H' → Q' v H'
def OpD (X : Cx) (f : Value → Value → Sem Value) (sem : D → D → Mem → KD → Prop) : Prop :=
  ∃ r, OpR X f r ∧ ∀ x y d e m H Q Q', MemOk X.K m H → Rep X.K m H x d → Rep X.K m H y e → sem d e m Q → Fin X.K m H Q Q' → r x y H Q'
theorem OpD.mono {X : Cx} {f : Value → Value → Sem Value} {s s' : D → D → Mem → KD → Prop} (h : OpD X f s) (w : ∀ d e m Q, s' d e m Q → s d e m Q) : OpD X f s' := by
  obtain ⟨r, hr, hh⟩ := h
  exact ⟨r, hr, fun x y d e m H Q Q' hm h1 h2 h3 h4 => hh x y d e m H Q Q' hm h1 h2 (w _ _ _ _ h3) h4⟩
theorem OpD.or {X : Cx} {f : Value → Value → Sem Value} {s s' : D → D → Mem → KD → Prop} (h : OpD X f s) (h' : OpD X f s') : OpD X f (fun d e m Q => s d e m Q ∨ s' d e m Q) := by
  obtain ⟨r, hr, hh⟩ := h
  obtain ⟨r', hr', hh'⟩ := h'
  refine ⟨_, hr.or hr', fun x y d e m H Q Q' hm h1 h2 h3 h4 => ?_⟩
  rcases h3 with h3 | h3
  · exact .inl (hh x y d e m H Q Q' hm h1 h2 h3 h4)
  · exact .inr (hh' x y d e m H Q Q' hm h1 h2 h3 h4)
section
variable {K : PySem.W.Frag} {m : Mem} {H : Hp} {Q : KD} {Q' : VK} {v : V} {d : D}
theorem Fin.here (f : Fin K m H Q Q') (hm : MemOk K m H) (r : Rep K m H v d) (q : Q d m) : Q' v H := f d m v H q r hm Step.refl
theorem rep_int {i : Int} : Rep K m H (.int i) (.int i) := by simp [Rep]
theorem rep_bl {b : Bool} : Rep K m H (.bl b) (.bl b) := by simp [Rep]
theorem rep_non : Rep K m H .non .non := by simp [Rep]
theorem rep_str {x : Str} : Rep K m H (.str x) (.str x) := by simp [Rep]
theorem rep_ref {a : Addr} : Rep K m H (.ref a) (.ref a) := by simp [Rep]
theorem Rep.int {i : Int} (h : Rep K m H v (.int i)) : v = .int i := by simpa [Rep] using h
theorem Rep.bl {b : Bool} (h : Rep K m H v (.bl b)) : v = .bl b := by simpa [Rep] using h
theorem Rep.non (h : Rep K m H v .non) : v = .non := by simpa [Rep] using h
theorem Rep.str {x : Str} (h : Rep K m H v (.str x)) : v = .str x := by simpa [Rep] using h
theorem Rep.ref {a : Addr} (h : Rep K m H v (.ref a)) : v = .ref a := by simpa [Rep] using h
theorem Rep.tup {ds : List D} (h : Rep K m H v (.tup ds)) : ∃ a xs, v = .ref a ∧ SqTm K m H a xs ∧ Reps K m H xs ds := by simpa only [Rep] using h
theorem Rep.lst {ds : List D} (h : Rep K m H v (.lst ds)) : ∃ a xs, v = .ref a ∧ SqLm K m H a xs ∧ Reps K m H xs ds := by simpa only [Rep] using h
/-- a new tuple -/
theorem Fin.tup {vs : List V} {ds : List D} (f : Fin K m H Q Q') (hm : MemOk K m H) (r : Reps K m H vs ds) (q : Q (.tup ds) m) : ∀ p, H p = none → Q' (.ref p) (L2.upd H p (.tup vs)) := fun p hp => by
  refine f _ m _ _ q ?_ (hm.fresh hp) (Step.fresh hp)
  simp only [Rep]
  exact ⟨p, vs, rfl, .inl ⟨hm.free hp, .inl upd_same⟩, Reps.step (Step.fresh hp) _ _ r⟩
theorem Fin.lst {mu : Bool} {vs : List V} {ds : List D} (f : Fin K m H Q Q') (hm : MemOk K m H) (r : Reps K m H vs ds) (q : newL mu ds m Q) : ∀ p, H p = none → Q' (.ref p) (L2.upd H p (.lst vs)) := fun p hp => by
  cases mu with
  | true =>
    refine f _ _ _ _ (q p (hm.free hp)) rep_ref (hm.newLst hp r) (Step.newLst hp)
  | false =>
    refine f _ m _ _ q ?_ (hm.fresh hp) (Step.fresh hp)
    simp only [Rep]
    exact ⟨p, vs, rfl, .inl ⟨hm.free hp, .inl upd_same⟩, Reps.step (Step.fresh hp) _ _ r⟩
/-- a list or tuple, as values -/
theorem seq_val {ds : List D} (hm : MemOk K m H) (r : Rep K m H v d) (h : seqOf m d = some ds) : ∃ a xs, v = .ref a ∧ Reps K m H xs ds ∧ (SqL K H a xs ∨ SqT K H a xs) := by
  cases d with
  | tup es =>
    cases h
    obtain ⟨a, xs, e, q, rs⟩ := r.tup
    exact ⟨a, xs, e, rs, .inr q.sq⟩
  | lst es =>
    cases h
    obtain ⟨a, xs, e, q, rs⟩ := r.lst
    exact ⟨a, xs, e, rs, .inl q.sq⟩
  | ref p =>
    have e := r.ref
    unfold seqOf at h
    simp only at h
    split at h
    · rename_i es q
      cases h
      obtain ⟨vs, hp, rs⟩ := hm p _ q
      exact ⟨p, vs, e, rs, .inl (SqL.of hp)⟩
    · cases h
  | _ => cases h
theorem lst_val {ds : List D} (hm : MemOk K m H) (r : Rep K m H v d) (h : lstOf m d = some ds) : ∃ a xs, v = .ref a ∧ Reps K m H xs ds ∧ SqL K H a xs := by
  cases d with
  | lst es =>
    cases h
    obtain ⟨a, xs, e, q, rs⟩ := r.lst
    exact ⟨a, xs, e, rs, q.sq⟩
  | ref p =>
    have e := r.ref
    unfold lstOf at h
    simp only at h
    split at h
    · rename_i es q
      cases h
      obtain ⟨vs, hp, rs⟩ := hm p _ q
      exact ⟨p, vs, e, rs, SqL.of hp⟩
    · cases h
  | _ => cases h
end
theorem line6 {n : Nat} (h : n ≤ 1000000) : n ≤ sizeLine := by rw [sizeLine_eq]; omega

section
variable {X : Cx}
/-! ### two ints -/
def semI (C : Int → Int → Prop) (g : Int → Int → D) : D → D → Mem → KD → Prop := fun d e m Q => ∃ i j, d = .int i ∧ e = .int j ∧ C i j ∧ Q (g i j) m
theorem opD_rI {f : Value → Value → Sem Value} {C : Int → Int → Prop} {g : Int → Int → Int} (h : OpR X f (rI C fun i j => .int (g i j))) : OpD X f (semI C fun i j => .int (g i j)) :=
  ⟨_, h, fun x y d e m H Q Q' hm h1 h2 ⟨i, j, ed, ee, hc, q⟩ fin => by
    subst ed ee
    exact ⟨i, j, h1.int, h2.int, hc, fin.here hm rep_int q⟩⟩
theorem opD_rI0 {f : Value → Value → Sem Value} {g : Int → Int → Int} (h : OpR X f (rI0 fun i j => .int (g i j))) : OpD X f (semI (fun _ _ => True) fun i j => .int (g i j)) :=
  ⟨_, h, fun x y d e m H Q Q' hm h1 h2 ⟨i, j, ed, ee, hc, q⟩ fin => by
    subst ed ee
    exact ⟨i, j, h1.int, h2.int, fin.here hm rep_int q⟩⟩
theorem opD_rB0 {f : Value → Value → Sem Value} {g : Int → Int → Bool} (h : OpR X f (rI0 fun i j => .bl (g i j))) : OpD X f (semI (fun _ _ => True) fun i j => .bl (g i j)) :=
  ⟨_, h, fun x y d e m H Q Q' hm h1 h2 ⟨i, j, ed, ee, hc, q⟩ fin => by
    subst ed ee
    exact ⟨i, j, h1.int, h2.int, fin.here hm rep_bl q⟩⟩
theorem op_mulA : OpR X (binaryOp .Mult) (rI IntMulOk fun i j => .int (i * j)) := opI fun _ _ _ _ _ _ _ hc q => mul_int q hc
theorem op_powA : OpR X (binaryOp .Pow) (rI (fun i j => 0 ≤ j ∧ (Builtin.Int.intBits i : Int) * j ≤ 2 ^ 27) fun i j => .int (i ^ j.toNat)) := opI fun _ _ _ _ _ _ _ hc q => pow_int hc.1 hc.2 q
theorem op_fdivA (py : ∀ s : Shared, X.Ok → (∀ b o, X.base.get? b = some o → s.heap.get? b = some o) → PylongRoom (model X.prog X.w) X.A s) : OpR X (binaryOp .FloorDiv) (rI (fun _ j => j ≠ 0) fun i j => .int (i.fdiv j)) := by
  intro pins s σ H x y v u Q I rx ry h
  obtain ⟨i, j, rfl, rfl, hc, q⟩ := h
  obtain ⟨t, rfl⟩ := rx
  obtain ⟨t', rfl⟩ := ry
  exact floordiv_int hc ⟨.int (i.fdiv j), H, I.tok _, ⟨_, rfl⟩, q⟩ (.inr (py s I.ok I.bk))
abbrev PyR (X : Cx) : Prop := ∀ s : Shared, X.Ok → (∀ b o, X.base.get? b = some o → s.heap.get? b = some o) → PylongRoom (model X.prog X.w) X.A s

theorem opD_add : OpD X (binaryOp .Add) (opD .add) := by
  have cat : OpD X (binaryOp .Add) (fun d e m Q => ∃ a b, d = .tup a ∧ e = .tup b ∧ a.length + b.length ≤ 1000000 ∧ Q (.tup (a ++ b)) m) := ⟨_, op_catA, fun x y d e m H Q Q' hm h1 h2 ⟨as, bs, ed, ee, hc, q⟩ fin => by
    subst ed ee
    obtain ⟨a, xs, ex, qx, rx⟩ := h1.tup
    obtain ⟨b, ys, ey, qy, ry⟩ := h2.tup
    refine ⟨a, b, xs, ys, ex, ey, qx.sq, qy.sq, by rw [rx.length, ry.length]; exact line6 hc, fun e0 => ?_, fun _ e0 => ?_, fun _ _ => ?_⟩
    · subst e0
      have e1 : as = [] := by have := rx.length; simpa using this.symm
      subst e1
      exact fin.here hm (d := .tup bs) (by rw [← ey]; exact h2) q
    · subst e0
      have e1 : bs = [] := by have := ry.length; simpa using this.symm
      subst e1
      exact fin.here hm (d := .tup as) (by rw [← ex]; exact h1) (by simpa using q)
    · exact fin.tup hm (rx.append ry) q⟩
  have lcat : OpD X (binaryOp .Add) (fun d e m Q => ∃ a b, d = .ref a ∧ e = .ref b ∧ ∃ as bs, m a = some (.lst as) ∧ m b = some (.lst bs) ∧ as.length + bs.length ≤ 1000000 ∧ newL true (as ++ bs) m Q) := ⟨_, op_cat, fun x y d e m H Q Q' hm h1 h2 ⟨a, b, ed, ee, as, bs, ha, hb, hc, q⟩ fin => by
    subst ed ee
    obtain ⟨xs, ha, rx⟩ := hm a _ ha
    obtain ⟨ys, hb, ry⟩ := hm b _ hb
    exact ⟨a, b, xs, ys, h1.ref, h2.ref, ha, hb, by rw [rx.length, ry.length]; exact line6 hc, fin.lst hm (rx.append ry) q⟩⟩
  refine ((opD_rI0 op_add).or (cat.or lcat)).mono fun d e m Q h => ?_
  cases d <;> cases e <;> first
    | exact h.elim
    | exact .inl ⟨_, _, rfl, rfl, True.intro, h⟩
    | exact .inr (.inl ⟨_, _, rfl, rfl, h⟩)
    | exact .inr (.inr ⟨_, _, rfl, rfl, h⟩)
theorem opD_sub : OpD X (binaryOp .Sub) (opD .sub) := (opD_rI0 op_sub).mono fun d e m Q h => by
  cases d <;> cases e <;> first
    | exact h.elim
    | exact ⟨_, _, rfl, rfl, True.intro, h⟩
theorem opD_mul : OpD X (binaryOp .Mult) (opD .mul) := by
  have rep : OpD X (binaryOp .Mult) (fun d e m Q => ∃ a k, d = .ref a ∧ e = .int k ∧ ∃ as, m a = some (.lst as) ∧ 0 ≤ k ∧ k ≤ 1000 ∧ as.length ≤ 1000 ∧ newL true (List.replicate k.toNat as).flatten m Q) := ⟨_, op_rep, fun x y d e m H Q Q' hm h1 h2 ⟨a, k, ed, ee, as, ha, k0, k1, hz, q⟩ fin => by
    subst ed ee
    obtain ⟨xs, ha, rx⟩ := hm a _ ha
    refine ⟨a, k, xs, h1.ref, h2.int, ha, by omega, by omega, ?_, ?_⟩
    · rw [rx.length, sizeLine_eq]
      have : as.length * k.toNat ≤ 1000 * 1000 := Nat.mul_le_mul hz (by omega)
      omega
    · have go : ∀ n : Nat, Reps X.K m H (List.replicate n xs).flatten (List.replicate n as).flatten := by
        intro n
        induction n with
        | zero => simp [Reps]
        | succ n ih =>
          rw [List.replicate_succ, List.replicate_succ, List.flatten_cons, List.flatten_cons]
          exact rx.append ih
      exact fin.lst hm (go _) q⟩
  refine ((opD_rI op_mulA).or rep).mono fun d e m Q h => ?_
  cases d <;> cases e <;> first
    | exact h.elim
    | exact .inl ⟨_, _, rfl, rfl, h.1, h.2⟩
    | exact .inr ⟨_, _, rfl, rfl, h⟩
theorem opD_fdiv (py : PyR X) : OpD X (binaryOp .FloorDiv) (opD .fdiv) := (opD_rI (op_fdivA py)).mono fun d e m Q h => by
  cases d <;> cases e <;> first
    | exact h.elim
    | exact ⟨_, _, rfl, rfl, h.1, h.2⟩
theorem opD_mod : OpD X (binaryOp .Mod) (opD .mod) := (opD_rI op_modN).mono fun d e m Q h => by
  cases d <;> cases e <;> first
    | exact h.elim
    | exact ⟨_, _, rfl, rfl, h.1, h.2⟩
theorem opD_pow : OpD X (binaryOp .Pow) (opD .pow) := (opD_rI op_powA).mono fun d e m Q h => by
  cases d <;> cases e <;> first
    | exact h.elim
    | exact ⟨_, _, rfl, rfl, ⟨h.1, h.2.1⟩, h.2.2⟩
def BOp.py : BOp → Operator
  | .add => .Add | .sub => .Sub | .mul => .Mult | .fdiv => .FloorDiv | .mod => .Mod | .pow => .Pow
theorem opD_ok (py : PyR X) : ∀ o : BOp, OpD X (binaryOp o.py) (opD o)
  | .add => opD_add | .sub => opD_sub | .mul => opD_mul | .fdiv => opD_fdiv py | .mod => opD_mod | .pow => opD_pow

/-! ### comparisons -/
theorem opD_cI {o : CmpOp} {g : Int → Int → Bool} (h : OpR X (compareOp o) (rI0 fun i j => .bl (g i j))) {sem : D → D → Mem → KD → Prop}
    (hs : ∀ d e m Q, sem d e m Q → ∃ i j, d = .int i ∧ e = .int j ∧ Q (.bl (g i j)) m) : OpD X (compareOp o) sem := (opD_rB0 h).mono fun d e m Q q => by
  obtain ⟨i, j, e1, e2, q⟩ := hs d e m Q q
  exact ⟨i, j, e1, e2, True.intro, q⟩
theorem ints_of {d e : D} {P : Int → Int → Prop} (h : match d, e with | .int i, .int j => P i j | _, _ => False) : ∃ i j, d = .int i ∧ e = .int j ∧ P i j := by
  cases d <;> cases e <;> first
    | exact h.elim
    | exact ⟨_, _, rfl, rfl, h⟩
mutual
theorem flat_dp {K : PySem.W.Frag} {m : Mem} {H : Hp} : ∀ (n : Nat) (d : D) (v : V), Rep K m H v d → d.flat n = true → Dp K H v d.toP
  | _, .non, _, h, _ => by rw [h.non]; simp only [D.toP]; exact .non
  | _, .bl _, _, h, _ => by rw [h.bl]; simp only [D.toP]; exact .bl _
  | _, .int _, _, h, _ => by rw [h.int]; simp only [D.toP]; exact .int _
  | _, .str _, _, h, _ => by rw [h.str]; simp only [D.toP]; exact .str _
  | _, .ty _, _, _, f => by simp [D.flat] at f
  | _, .ref _, _, _, f => by simp [D.flat] at f
  | 0, .tup _, _, _, f => by simp [D.flat] at f
  | 0, .lst _, _, _, f => by simp [D.flat] at f
  | n + 1, .tup ds, _, h, f => by
    obtain ⟨a, xs, e, q, r⟩ := h.tup
    rw [e]
    simp only [D.toP]
    exact .tup q.sq (flats_dp n ds xs r (by simpa [D.flat] using f))
  | n + 1, .lst ds, _, h, f => by
    obtain ⟨a, xs, e, q, r⟩ := h.lst
    rw [e]
    simp only [D.toP]
    exact .lst q.sq (flats_dp n ds xs r (by simpa [D.flat] using f))
theorem flats_dp {K : PySem.W.Frag} {m : Mem} {H : Hp} : ∀ (n : Nat) (ds : List D) (vs : List V), Reps K m H vs ds → flats n ds = true → DpAll K H vs (toPs ds)
  | _, [], _, h, _ => by simp only [Reps] at h; rw [h]; simp only [toPs]; exact .nil
  | n, d :: ds, _, h, f => by
    simp only [Reps] at h
    obtain ⟨v, r, rfl, h1, h2⟩ := h
    have f' : d.flat n = true ∧ flats n ds = true := by simpa [flats] using f
    simp only [toPs]
    exact .cons (flat_dp n d v h1 f'.1) (flats_dp n ds r h2 f'.2)
end
mutual
theorem flat_lay : ∀ (n : Nat) (d : D), d.flat n = true → d.toP.canLay0 = true ∧ d.toP.depth ≤ n
  | _, .non, _ => by simp [D.toP, PyData.canLay0, PyData.depth]
  | _, .bl _, _ => by simp [D.toP, PyData.canLay0, PyData.depth]
  | _, .int _, _ => by simp [D.toP, PyData.canLay0, PyData.depth]
  | _, .str _, f => by simpa [D.toP, D.flat, PyData.canLay0, PyData.depth] using f
  | _, .ty _, f => by simp [D.flat] at f
  | _, .ref _, f => by simp [D.flat] at f
  | 0, .tup _, f => by simp [D.flat] at f
  | 0, .lst _, f => by simp [D.flat] at f
  | n + 1, .tup ds, f => by
    obtain ⟨h1, h2⟩ := flats_lay n ds (by simpa [D.flat] using f)
    simp only [D.toP, PyData.canLay0, PyData.depth]
    exact ⟨h1, by omega⟩
  | n + 1, .lst ds, f => by
    obtain ⟨h1, h2⟩ := flats_lay n ds (by simpa [D.flat] using f)
    simp only [D.toP, PyData.canLay0, PyData.depth]
    exact ⟨h1, by omega⟩
theorem flats_lay : ∀ (n : Nat) (ds : List D), flats n ds = true → PyData.canLayAll0 (toPs ds) = true ∧ PyData.depthAll (toPs ds) ≤ n
  | _, [], _ => by simp [toPs, PyData.canLayAll0, PyData.depthAll]
  | n, d :: ds, f => by
    have f' : d.flat n = true ∧ flats n ds = true := by simpa [flats] using f
    obtain ⟨h1, h2⟩ := flat_lay n d f'.1
    obtain ⟨h3, h4⟩ := flats_lay n ds f'.2
    simp only [toPs, PyData.canLayAll0, PyData.depthAll, Bool.and_eq_true]
    exact ⟨⟨h1, h3⟩, by omega⟩
end
theorem flat_shaped {d : D} (f : d.flat 40 = true) : SeqAt.shaped d.toP = true := by
  obtain ⟨h1, h2⟩ := flat_lay 40 d f
  unfold SeqAt.shaped
  rw [h1, decide_eq_true (by omega)] <;> rfl
theorem dat_rep {K : PySem.W.Frag} {m : Mem} {H : Hp} {d : D} {v : V} (hm : MemOk K m H) (r : Rep K m H v d) (f : (dat m d).flat 40 = true) : Dp K H v (dat m d).toP := by
  cases d with
  | ref p =>
    unfold dat at f ⊢
    simp only at f ⊢
    split
    · rename_i ds q
      rw [q] at f
      obtain ⟨vs, hp, rs⟩ := hm p _ q
      rw [r.ref]
      simp only [D.toP]
      exact .lst (SqL.of hp) (flats_dp 39 ds vs rs (by simpa [D.flat] using f))
    · rename_i q
      split at f
      · rename_i ds q2
        exact absurd q2 (q ds)
      · simp [D.flat] at f
  | _ => exact flat_dp 40 _ v r f
def semSc (neg : Bool) : D → D → Mem → KD → Prop := fun d e m Q => (∃ i j, d = .int i ∧ e = .int j ∧ Q (.bl (if neg then !decide (i = j) else decide (i = j))) m) ∨ ∃ i j, d = .str i ∧ e = .str j ∧ Q (.bl (if neg then !decide (i = j) else decide (i = j))) m
def semDp (neg : Bool) : D → D → Mem → KD → Prop := fun d e m Q => D.flat 40 (dat m d) = true ∧ D.flat 40 (dat m e) = true ∧ Q (.bl (if neg then !PyData.eqv (dat m d).toP (dat m e).toP else PyData.eqv (dat m d).toP (dat m e).toP)) m
theorem eqD_out {m : Mem} {d e : D} {R : Bool → Prop} (h : eqD m d e R) : (∃ i j, d = .int i ∧ e = .int j ∧ R (decide (i = j))) ∨ (∃ i j, d = .str i ∧ e = .str j ∧ R (decide (i = j))) ∨ (D.flat 40 (dat m d) = true ∧ D.flat 40 (dat m e) = true ∧ R (PyData.eqv (dat m d).toP (dat m e).toP)) := by
  unfold eqD at h
  split at h
  · exact .inl ⟨_, _, rfl, rfl, h⟩
  · exact .inr (.inl ⟨_, _, rfl, rfl, h⟩)
  · exact .inr (.inr h)
theorem opD_eq (hu : X.A.units + 64 < cLine) : OpD X (compareOp .Eq) (cmpD .eq) := by
  have sc : OpD X (compareOp .Eq) (semSc false) := ⟨_, op_eq, fun x y d e m H Q Q' hm h1 h2 h fin => by
    rcases h with ⟨i, j, ed, ee, q⟩ | ⟨i, j, ed, ee, q⟩
    · subst ed ee
      rw [h1.int, h2.int]
      exact ⟨rfl, fin.here hm rep_bl (by rw [dec_int, Bool.beq_eq_decide_eq]; exact q)⟩
    · subst ed ee
      rw [h1.str, h2.str]
      exact ⟨rfl, fin.here hm rep_bl (by rw [dec_str, Bool.beq_eq_decide_eq]; exact q)⟩⟩
  have dp : OpD X (compareOp .Eq) (semDp false) := ⟨_, op_eqD hu, fun x y d e m H Q Q' hm h1 h2 ⟨f1, f2, q⟩ fin => ⟨_, _, dat_rep hm h1 f1, dat_rep hm h2 f2, flat_shaped f1, flat_shaped f2, fin.here hm rep_bl q⟩⟩
  refine OpD.mono (sc.or dp) fun d e m Q h => ?_
  rcases eqD_out (show eqD m d e fun b => Q (.bl b) m from h) with h | h | h
  · exact .inl (.inl h)
  · exact .inl (.inr h)
  · exact .inr h
theorem opD_ne (hu : X.A.units + 64 < cLine) : OpD X (compareOp .NotEq) (cmpD .ne) := by
  have sc : OpD X (compareOp .NotEq) (semSc true) := ⟨_, op_ne, fun x y d e m H Q Q' hm h1 h2 h fin => by
    rcases h with ⟨i, j, ed, ee, q⟩ | ⟨i, j, ed, ee, q⟩
    · subst ed ee
      rw [h1.int, h2.int]
      exact ⟨rfl, fin.here hm rep_bl (by rw [dec_int, Bool.beq_eq_decide_eq]; exact q)⟩
    · subst ed ee
      rw [h1.str, h2.str]
      exact ⟨rfl, fin.here hm rep_bl (by rw [dec_str, Bool.beq_eq_decide_eq]; exact q)⟩⟩
  have dp : OpD X (compareOp .NotEq) (semDp true) := ⟨_, op_neD hu, fun x y d e m H Q Q' hm h1 h2 ⟨f1, f2, q⟩ fin => ⟨_, _, dat_rep hm h1 f1, dat_rep hm h2 f2, flat_shaped f1, flat_shaped f2, fin.here hm rep_bl q⟩⟩
  refine OpD.mono (sc.or dp) fun d e m Q h => ?_
  rcases eqD_out (show eqD m d e fun b => Q (.bl (!b)) m from h) with h | h | h
  · exact .inl (.inl h)
  · exact .inl (.inr h)
  · exact .inr h
def isNon : D → Bool
  | .non => true
  | _ => false
theorem rep_nn {K : PySem.W.Frag} {m : Mem} {H : Hp} {d : D} {v : V} (r : Rep K m H v d) : decide (v = .non) = isNon d := by
  cases d with
  | non => rw [r.non]; simp [isNon]
  | bl b => rw [r.bl]; simp [isNon]
  | int b => rw [r.int]; simp [isNon]
  | str b => rw [r.str]; simp [isNon]
  | ty b =>
    have e : v = .ty b := by simpa [Rep] using r
    rw [e]; simp [isNon]
  | ref b => rw [r.ref]; simp [isNon]
  | tup b => obtain ⟨a, xs, e, _⟩ := r.tup; rw [e]; simp [isNon]
  | lst b => obtain ⟨a, xs, e, _⟩ := r.lst; rw [e]; simp [isNon]
theorem opD_isB : OpD X (compareOp .Is) (fun d e m Q => ∃ b c : Bool, d = D.bl b ∧ e = D.bl c ∧ Q (.bl (b == c)) m) := ⟨_, op_isBl, fun x y d e m H Q Q' hm h1 h2 ⟨b, c, ed, ee, q⟩ fin => by
  subst ed ee
  exact ⟨b, c, h1.bl, h2.bl, fin.here hm rep_bl (by rw [← Bool.beq_eq_decide_eq]; exact q)⟩⟩
theorem opD_isN : OpD X (compareOp .Is) (fun d e m Q => e = D.non ∧ Q (.bl (isNon d)) m) := ⟨_, op_isN, fun x y d e m H Q Q' hm h1 h2 ⟨ee, q⟩ fin => by
  subst ee
  exact ⟨h2.non, fin.here hm rep_bl (by rw [rep_nn h1]; exact q)⟩⟩
theorem opD_is : OpD X (compareOp .Is) (cmpD .is_) := OpD.mono (opD_isB.or opD_isN) fun d e m Q h => by
  unfold cmpD at h
  cases d <;> cases e <;> first
    | exact h.elim
    | exact .inl ⟨_, _, rfl, rfl, h⟩
    | exact .inr ⟨rfl, h⟩
theorem opD_isnN : OpD X (compareOp .IsNot) (fun d e m Q => e = D.non ∧ Q (.bl (!isNon d)) m) := ⟨_, op_notN, fun x y d e m H Q Q' hm h1 h2 ⟨ee, q⟩ fin => by
  subst ee
  exact ⟨h2.non, fin.here hm rep_bl (by rw [rep_nn h1]; exact q)⟩⟩
theorem opD_isnt : OpD X (compareOp .IsNot) (cmpD .isnt) := OpD.mono opD_isnN fun d e m Q h => by
  unfold cmpD at h
  cases d <;> cases e <;> first
    | exact h.elim
    | exact ⟨rfl, h⟩
theorem scalV_rep {K : PySem.W.Frag} {m : Mem} {H : Hp} {d : D} {v w : V} (r : Rep K m H v d) (h : scalV d = some w) : v = w ∧ flatV w = true := by
  cases d <;> simp only [scalV] at h <;> first
    | cases h; done
    | (cases h; exact ⟨r.non, rfl⟩)
    | (cases h; exact ⟨r.bl, rfl⟩)
    | (cases h; exact ⟨r.int, rfl⟩)
    | (cases h; exact ⟨r.str, rfl⟩)
theorem scalVs_rep {K : PySem.W.Frag} {m : Mem} {H : Hp} : ∀ {ds : List D} {vs ws : List V}, Reps K m H vs ds → ds.map scalV = ws.map some → vs = ws ∧ ws.all flatV = true
  | [], vs, ws, r, h => by
    simp only [Reps] at r
    cases ws with
    | nil => exact ⟨r, rfl⟩
    | cons _ _ => cases h
  | d :: ds, vs, ws, r, h => by
    simp only [Reps] at r
    obtain ⟨v, t, rfl, r1, r2⟩ := r
    cases ws with
    | nil => cases h
    | cons w ws =>
      rw [List.map_cons, List.map_cons] at h
      injection h with h1 h2
      obtain ⟨e1, f1⟩ := scalV_rep r1 h1
      obtain ⟨e2, f2⟩ := scalVs_rep r2 h2
      exact ⟨by rw [e1, e2], by simp [f1, f2]⟩
theorem opD_in : OpD X (compareOp .In) (cmpD .in_) := ⟨_, op_in_seq, fun x y d e m H Q Q' hm h1 h2 ⟨ys, hs, v, vs, e1, e2, q⟩ fin => by
  obtain ⟨a, xs, ey, rs, hq⟩ := seq_val hm h2 hs
  obtain ⟨ex, fx⟩ := scalV_rep h1 e1
  obtain ⟨es, fs⟩ := scalVs_rep rs e2
  subst ex es
  refine ⟨a, _, ey, hq, fx, fs, ?_⟩
  rw [if_neg Bool.false_ne_true]
  exact fin.here hm rep_bl q⟩
theorem opD_notin : OpD X (compareOp .NotIn) (cmpD .notin) := ⟨_, op_notIn_seq, fun x y d e m H Q Q' hm h1 h2 ⟨ys, hs, v, vs, e1, e2, q⟩ fin => by
  obtain ⟨a, xs, ey, rs, hq⟩ := seq_val hm h2 hs
  obtain ⟨ex, fx⟩ := scalV_rep h1 e1
  obtain ⟨es, fs⟩ := scalVs_rep rs e2
  subst ex es
  refine ⟨a, _, ey, hq, fx, fs, ?_⟩
  rw [if_pos rfl]
  exact fin.here hm rep_bl q⟩
def COp.py : COp → CmpOp
  | .lt => .Lt | .le => .LtE | .gt => .Gt | .ge => .GtE | .eq => .Eq | .ne => .NotEq | .is_ => .Is | .isnt => .IsNot | .in_ => .In | .notin => .NotIn
theorem cmpD_ok (hu : X.A.units + 64 < cLine) : ∀ o : COp, OpD X (compareOp o.py) (cmpD o)
  | .lt => opD_cI op_lt fun _ _ _ _ h => ints_of h
  | .le => opD_cI op_le fun _ _ _ _ h => ints_of h
  | .gt => opD_cI op_gt fun _ _ _ _ h => ints_of h
  | .ge => opD_cI op_ge fun _ _ _ _ h => ints_of h
  | .eq => opD_eq hu | .ne => opD_ne hu | .is_ => opD_is | .isnt => opD_isnt | .in_ => opD_in | .notin => opD_notin
end
end Og
end
section
set_option autoImplicit true
set_option maxHeartbeats 4000000
/-! Og: built-ins, items, slices by data. -/
namespace Og
open PySem PySem.Spec PyProof.Rows L2
section
variable {X : Cx}
def CallD (X : Cx) (f : Value) (sem : D → Mem → KD → Prop) : Prop :=
  ∃ r, CallR X f r ∧ ∀ x d m H Q Q', MemOk X.K m H → Rep X.K m H x d → sem d m Q → Fin X.K m H Q Q' → r [x] H Q'
def CallD2 (X : Cx) (f : Value) (sem : D → D → Mem → KD → Prop) : Prop :=
  ∃ r, CallR X f r ∧ ∀ x y d e m H Q Q', MemOk X.K m H → Rep X.K m H x d → Rep X.K m H y e → sem d e m Q → Fin X.K m H Q Q' → r [x, y] H Q'
theorem CallD.mono {f : Value} {s s' : D → Mem → KD → Prop} (h : CallD X f s) (w : ∀ d m Q, s' d m Q → s d m Q) : CallD X f s' := by
  obtain ⟨r, hr, hh⟩ := h
  exact ⟨r, hr, fun x d m H Q Q' hm h1 h3 h4 => hh x d m H Q Q' hm h1 (w _ _ _ h3) h4⟩
theorem CallD.or {f : Value} {s s' : D → Mem → KD → Prop} (h : CallD X f s) (h' : CallD X f s') : CallD X f (fun d m Q => s d m Q ∨ s' d m Q) := by
  obtain ⟨r, hr, hh⟩ := h
  obtain ⟨r', hr', hh'⟩ := h'
  refine ⟨_, hr.or hr', fun x d m H Q Q' hm h1 h3 h4 => ?_⟩
  rcases h3 with h3 | h3
  · exact .inl (hh x d m H Q Q' hm h1 h3 h4)
  · exact .inr (hh' x d m H Q Q' hm h1 h3 h4)
def B1.py : B1 → Str × Value
  | .len => ("len", .builtin "len") | .abs => ("abs", .builtin "abs") | .int => ("int", .type "int") | .sum => ("sum", .builtin "sum") | .tuple => ("tuple", .type "tuple")
  | .all => ("all", .builtin "all") | .any => ("any", .builtin "any") | .list _ => ("list", .type "list") | .repr => ("repr", .builtin "repr")
def B1.isTy : B1 → Bool
  | .int => true | .tuple => true | .list _ => true | _ => false
theorem cd_len : CallD X (.builtin "len") (b1D .len) := by
  have a : CallD X (.builtin "len") (fun d m Q => ∃ ds, seqOf m d = some ds ∧ Q (.int (ds.length : Nat)) m) := ⟨_, call_len_seq, fun x d m H Q Q' hm h1 ⟨ds, hs, q⟩ fin => by
    obtain ⟨a, xs, ex, rs, hq⟩ := seq_val hm h1 hs
    exact ⟨a, xs, by rw [ex], hq, fin.here hm rep_int (by rw [rs.length]; exact q)⟩⟩
  have b : CallD X (.builtin "len") (fun d m Q => ∃ z, d = .str z ∧ z.length ≤ 1000000 ∧ Q (.int (z.length : Nat)) m) := ⟨_, call_len_str, fun x d m H Q Q' hm h1 ⟨z, ed, hz, q⟩ fin => by
    subst ed
    exact ⟨z, by rw [h1.str], line6 hz, fin.here hm rep_int q⟩⟩
  refine CallD.mono (a.or b) fun d m Q h => ?_
  unfold b1D at h
  cases d <;> first
    | exact .inr ⟨_, rfl, h⟩
    | exact .inl h
theorem cd_abs : CallD X (.builtin "abs") (b1D .abs) := ⟨_, call_abs, fun x d m H Q Q' hm h1 h fin => by
  unfold b1D at h
  cases d <;> first
    | exact h.elim
    | exact ⟨_, by rw [h1.int], fin.here hm rep_int h⟩⟩
theorem cd_int : CallD X (.type "int") (b1D .int) := ⟨_, call_int1, fun x d m H Q Q' hm h1 h fin => by
  unfold b1D at h
  cases d <;> first
    | exact h.elim
    | exact .inl ⟨_, by rw [h1.int], fin.here hm rep_int h⟩
    | exact .inr ⟨_, by rw [h1.bl], fin.here hm rep_int h⟩⟩
theorem cd_sum (hc : X.calm = true) : CallD X (.builtin "sum") (b1D .sum) := ⟨_, cr_sum hc, fun x d m H Q Q' hm h1 ⟨ns, hs, q⟩ fin => by
  obtain ⟨a, xs, ex, rs, hq⟩ := lst_val hm h1 hs
  have e := rs.ints
  subst e
  exact ⟨a, ns, by rw [ex], hq, fin.here hm rep_int q⟩⟩
theorem cd_all (hc : X.calm = true) : CallD X (.builtin "all") (b1D .all) := ⟨_, cr_all hc, fun x d m H Q Q' hm h1 ⟨ns, hs, q⟩ fin => by
  obtain ⟨a, xs, ex, rs, hq⟩ := lst_val hm h1 hs
  have e := rs.bls
  subst e
  exact ⟨a, ns, by rw [ex], hq, fin.here hm rep_bl q⟩⟩
theorem cd_any (hc : X.calm = true) : CallD X (.builtin "any") (b1D .any) := ⟨_, cr_any hc, fun x d m H Q Q' hm h1 ⟨ns, hs, q⟩ fin => by
  obtain ⟨a, xs, ex, rs, hq⟩ := lst_val hm h1 hs
  have e := rs.bls
  subst e
  exact ⟨a, ns, by rw [ex], hq, fin.here hm rep_bl q⟩⟩
theorem cd_list {mu : Bool} : CallD X (.type "list") (b1D (.list mu)) := ⟨_, call_list_of, fun x d m H Q Q' hm h1 ⟨ds, hs, q⟩ fin => by
  obtain ⟨a, xs, ex, rs, hq⟩ := seq_val hm h1 hs
  exact ⟨a, xs, by rw [ex], hq, fin.lst hm rs q⟩⟩
theorem cd_tuple : CallD X (.type "tuple") (b1D .tuple) := ⟨_, call_tuple_of, fun x d m H Q Q' hm h1 ⟨ds, hs, q⟩ fin => by
  cases d with
  | tup es =>
    cases hs
    obtain ⟨a, xs, ex, q1, rs⟩ := h1.tup
    exact ⟨a, xs, by rw [ex], .inr ⟨q1.sq, fin.here hm (d := .tup _) (by rw [← ex]; exact h1) q⟩⟩
  | lst es =>
    obtain ⟨a, xs, ex, rs, hq⟩ := lst_val (d := .lst es) (ds := ds) hm h1 hs
    exact ⟨a, xs, by rw [ex], .inl ⟨hq, fin.tup hm rs q⟩⟩
  | ref p =>
    obtain ⟨a, xs, ex, rs, hq⟩ := lst_val (d := .ref p) (ds := ds) hm h1 hs
    exact ⟨a, xs, by rw [ex], .inl ⟨hq, fin.tup hm rs q⟩⟩
  | _ => cases hs⟩
mutual
theorem flat_nodict : ∀ (n : Nat) (d : D), d.flat n = true → d.toP.hasDict = false
  | _, .non, _ => rfl
  | _, .bl _, _ => rfl
  | _, .int _, _ => rfl
  | _, .str _, _ => rfl
  | _, .ty _, _ => rfl
  | _, .ref _, _ => rfl
  | 0, .tup _, f => by simp [D.flat] at f
  | 0, .lst _, f => by simp [D.flat] at f
  | n + 1, .tup ds, f => by
    simp only [D.toP, PyData.hasDict]
    exact flats_nodict n ds (by simpa [D.flat] using f)
  | n + 1, .lst ds, f => by
    simp only [D.toP, PyData.hasDict]
    exact flats_nodict n ds (by simpa [D.flat] using f)
theorem flats_nodict : ∀ (n : Nat) (ds : List D), flats n ds = true → PyData.hasDictAll (toPs ds) = false
  | _, [], _ => rfl
  | n, d :: ds, f => by
    have f' : d.flat n = true ∧ flats n ds = true := by simpa [flats] using f
    simp only [toPs, PyData.hasDictAll, flat_nodict n d f'.1, flats_nodict n ds f'.2, Bool.or_self]
end
/-- repr, where none is under way -/
theorem call_reprD (g : X.A.guards = some []) (hu : X.A.units + 64 < cLine) : CallR X (.builtin "repr") (fun xs H Q => ∃ v d, xs = [v] ∧ Dp X.K H v d ∧ d.hasDict = false ∧ d.showable = true ∧ d.depth ≤ 40 ∧ d.shown.length ≤ sizeLine ∧ Q (.str d.shown) H) := by
  intro pins s σ H xs us Q I r h
  obtain ⟨v, d, rfl, hd, h1, h2, h3, h4, q⟩ := h
  obtain ⟨u, rfl, rv⟩ := vals1 r
  obtain ⟨as, rd⟩ := Dp.reads I d v u hd rv
  have ref : ∀ a, u = .ref a → wpAny (model X.prog X.w) X.A (call (.builtin "repr") [u]) (EP X pins σ Q) X.xe s := fun a e => by
    subst e
    exact repr_of_reads' rd h2 (fun z => by rw [h1] at z; cases z) g (by omega) (fun _ _ z => z) (fun h' u tk k => ⟨.str _, H, I.kept k, ⟨_, rfl⟩, q⟩) h4
  cases hd with
  | non =>
    cases rv
    exact PySem.P.repr_of_none ⟨.str _, H, I.tok _, ⟨_, rfl⟩, q⟩
  | bl b =>
    cases rv
    exact PySem.P.repr_of_bool ⟨.str _, H, I.tok _, ⟨_, rfl⟩, q⟩
  | int i =>
    obtain ⟨t, rfl⟩ := rv
    have h2' : decide (i.natAbs.log2 < 1920) = true := h2
    exact PySem.P.repr_of_int (of_decide_eq_true h2') ⟨.str _, H, I.tok _, ⟨_, rfl⟩, q⟩
  | str x =>
    obtain ⟨t, rfl⟩ := rv
    exact PySem.P.repr_of_str ⟨.str _, H, I.tok _, ⟨_, rfl⟩, q⟩ h4
  | lst a b => exact ref _ rv
  | tup a b => exact ref _ rv
theorem cd_repr (g : X.A.guards = some []) (hu : X.A.units + 64 < cLine) : CallD X (.builtin "repr") (b1D .repr) := ⟨_, call_reprD g hu, fun x d m H Q Q' hm h1 ⟨hf, hs, hl, q⟩ fin =>
  ⟨x, _, rfl, dat_rep hm h1 hf, flat_nodict 40 _ hf, hs, (flat_lay 40 _ hf).2, line6 hl, fin.here hm rep_str q⟩⟩
theorem b1D_ok (hc : X.calm = true) (g : X.A.guards = some []) (hu : X.A.units + 64 < cLine) : ∀ f : B1, CallD X f.py.2 (b1D f)
  | .len => cd_len | .abs => cd_abs | .int => cd_int | .sum => cd_sum hc | .tuple => cd_tuple | .all => cd_all hc | .any => cd_any hc | .list _ => cd_list | .repr => cd_repr g hu
def B2.py : B2 → Str × Value
  | .min => ("min", .builtin "min") | .max => ("max", .builtin "max")
theorem b2D_ok (hc : X.calm = true) : ∀ f : B2, CallD2 X f.py.2 (b2D f)
  | .min => ⟨_, call_min2 hc, fun x y d e m H Q Q' hm h1 h2 h fin => by
    cases d <;> cases e <;> first
      | exact h.elim
      | exact ⟨_, _, by rw [h1.int, h2.int], fin.here hm rep_int h⟩⟩
  | .max => ⟨_, call_max2 hc, fun x y d e m H Q Q' hm h1 h2 h fin => by
    cases d <;> cases e <;> first
      | exact h.elim
      | exact ⟨_, _, by rw [h1.int, h2.int], fin.here hm rep_int h⟩⟩

/-! ### isinstance -/
def isiTys : List String := ["int", "bool", "tuple", "str", "list", "dict"]
def valTys : List String := ["NoneType", "bool", "int", "str", "tuple", "list"]
theorem isi_kit : (valTys.all fun t => isiTys.all fun T => decide (kitB t T = some (isiB t T))) = true := by decide +kernel
theorem tyD_val {m : Mem} {d : D} {t : String} (h : tyD m d = some t) : t ∈ valTys := by
  cases d <;> simp only [tyD] at h <;> first
    | (cases h; done)
    | (cases h; decide)
    | (split at h <;> first | (cases h; done) | (cases h; decide))
theorem tyD_rep {K : PySem.W.Frag} {m : Mem} {H : Hp} {d : D} {v : V} {t : String} (hm : MemOk K m H) (r : Rep K m H v d) (h : tyD m d = some t) : TyX K H v (.type t) := by
  cases d with
  | non => cases h; rw [r.non]; exact .base .non
  | bl b => cases h; rw [r.bl]; exact .base (.bl b)
  | int b => cases h; rw [r.int]; exact .base (.int b)
  | str b => cases h; rw [r.str]; exact .base (.str b)
  | ty b => cases h
  | tup ds =>
    cases h
    obtain ⟨a, xs, e, q, _⟩ := r.tup
    rw [e]
    rcases q with ⟨_, q | ⟨o, q⟩⟩ | ⟨o, its, n, q, hc, _⟩
    · exact .base (.tup q)
    · exact .fTuple q
    · exact .kTuple q hc
  | lst ds =>
    cases h
    obtain ⟨a, xs, e, q, _⟩ := r.lst
    rw [e]
    rcases q with ⟨_, q | ⟨o, q⟩⟩ | ⟨o, its, n, q, hc, _⟩
    · exact .base (.lst q)
    · exact .base (.frz q)
    · exact .kList q hc
  | ref p =>
    simp only [tyD] at h
    split at h
    · rename_i ds q
      cases h
      obtain ⟨vs, hp, _⟩ := hm p _ q
      rw [r.ref]
      exact .base (.lst hp)
    · cases h
theorem clsV_ty (T : String) : ClsV (.ty T) (.type T) := by
  first
    | rfl
    | exact .ty _
    | constructor
def semIsi (T : String) : D → Mem → KD → Prop := fun d m Q => ∃ t, tyD m d = some t ∧ Q (.bl (isiB t T)) m
theorem isi_ok {T : String} (hT : T ∈ isiTys) : ∃ r, CallR X (.builtin "isinstance") r ∧ ∀ x d m H Q Q', MemOk X.K m H → Rep X.K m H x d → semIsi T d m Q → Fin X.K m H Q Q' → r [x, .ty T] H Q' :=
  ⟨_, call_isi, fun x d m H Q Q' hm h1 ⟨t, ht, q⟩ fin => by
    have k := List.all_eq_true.mp (List.all_eq_true.mp isi_kit t (tyD_val ht)) T hT
    exact ⟨x, .ty T, .type t, .type T, isiB t T, rfl, clsV_ty T, tyD_rep hm h1 ht, kit_ty (of_decide_eq_true k), fin.here hm rep_bl q⟩⟩

/-! ### items, slices -/
theorem reps_at {K : PySem.W.Frag} {m : Mem} {H : Hp} {ds : List D} {vs : List V} {i : Int} {d : D} (r : Reps K m H vs ds) (h : atI ds i = some d) : ∃ v, atI vs i = some v ∧ Rep K m H v d := by
  unfold atI at h ⊢
  rw [r.length]
  cases e : ixN ds.length i with
  | none => rw [e] at h; cases h
  | some j =>
    rw [e] at h
    obtain ⟨v, h1, h2⟩ := r.get (i := j) h
    exact ⟨v, h1, h2⟩
theorem ix_ok : ∃ r, IxR X r ∧ ∀ x y d e m H Q Q', MemOk X.K m H → Rep X.K m H x d → Rep X.K m H y e → ixD m d e Q → Fin X.K m H Q Q' → r x y H Q' :=
  ⟨_, ix_seq, fun x y d e m H Q Q' hm h1 h2 h fin => by
    have key : (∃ i, e = .int i ∧ ∃ ds z, seqOf m d = some ds ∧ atI ds i = some z ∧ Q z m) ∨ ∃ i z c, e = .int i ∧ d = .str z ∧ z.length ≤ 1000000 ∧ atI z.cps.toList i = some c ∧ Q (.str ⟨#[c]⟩) m := by
      unfold ixD at h
      cases e <;> first
        | exact h.elim
        | (cases d <;> first
            | (obtain ⟨c, h⟩ := h; exact .inr ⟨_, _, c, rfl, rfl, h⟩)
            | exact .inl ⟨_, rfl, h⟩)
    rcases key with ⟨i, ee, ds, z, hs, ha, q⟩ | ⟨i, z, c, ee, ed, hz, ha, q⟩
    · subst ee
      obtain ⟨a, xs, ex, rs, hq⟩ := seq_val hm h1 hs
      obtain ⟨v, hv, rv⟩ := reps_at rs ha
      rcases hq with hq | hq
      · exact .inl ⟨a, xs, i, v, ex, h2.int, hq, hv, fin.here hm rv q⟩
      · exact .inr (.inl ⟨a, xs, i, v, ex, h2.int, hq, hv, fin.here hm rv q⟩)
    · subst ee ed
      exact .inr (.inr ⟨z, i, c, h1.str, h2.int, line6 hz, ha, fin.here hm rep_str q⟩)⟩
theorem reps_cut {K : PySem.W.Frag} {m : Mem} {H : Hp} {ds : List D} {vs : List V} (r : Reps K m H vs ds) (lo hi : Option Int) : Reps K m H (cutV vs lo hi) (cutD ds lo hi) := by
  unfold cutV cutD
  rw [r.length]
  exact (r.drop _).take _
theorem cut_whole {ds : List D} {lo hi : Option Int} (h : HT.sIx ds.length 0 lo = 0 ∧ HT.sIx ds.length ds.length hi = ds.length) : cutD ds lo hi = ds := by
  unfold cutD
  rw [h.1, h.2]
  simp
theorem sl_ok {mu : Bool} : ∃ r, SlR X r ∧ ∀ x d lo hi m H Q Q', MemOk X.K m H → Rep X.K m H x d → slD mu m d lo hi Q → Fin X.K m H Q Q' → r x lo hi H Q' :=
  ⟨_, sl_tupA.or sl_list, fun x d lo hi m H Q Q' hm h1 h fin => by
    have lst : ∀ ds, lstOf m d = some ds → newL mu (cutD ds lo hi) m Q → rSlL X.K x lo hi H Q' := fun ds hs q => by
      obtain ⟨a, xs, ex, rs, hq⟩ := lst_val hm h1 hs
      exact ⟨a, xs, ex, hq, fin.lst hm (reps_cut rs lo hi) q⟩
    unfold slD at h
    cases d with
    | tup ds =>
      obtain ⟨a, xs, ex, hq, rs⟩ := h1.tup
      refine .inl ⟨a, xs, ex, hq.sq, fun hw => ?_, fun _ => fin.tup hm (reps_cut rs lo hi) h⟩
      rw [rs.length] at hw
      have h' : Q (.tup ds) m := by
        have h0 : Q (.tup (cutD ds lo hi)) m := h
        rw [cut_whole hw] at h0
        exact h0
      exact fin.here hm (d := .tup ds) (by rw [← ex]; exact h1) h'
    | _ => obtain ⟨ds, hs, q⟩ := h; exact .inr (lst ds hs q)⟩

/-! ### methods of lists -/
def M1.py : M1 → Str × String
  | .append => ("append", "list.append") | .extend => ("extend", "list.extend")
end
end Og
end
section
set_option autoImplicit true
set_option maxHeartbeats 4000000
/-! Og: enumerate and zip over lists and tuples alike. -/
namespace Og
open PySem PySem.Spec PyProof.Rows L2
/-- a list (true) or a tuple, read -/
def SqK (K : PySem.W.Frag) (k : Bool) (H : Hp) (a : Addr) (xs : List V) : Prop := if k = true then SqL K H a xs else SqT K H a xs
/-- its iterator -/
def SqI (k : Bool) (h : Heap) (it a : Addr) (i : Nat) : Prop := if k = true then h.IsListIter it a i else h.IsTupleIter it a i
def SqO (k : Bool) (h : Heap) (a : Addr) (its : Array Value) : Prop := if k = true then h.IsList a its else h.IsTuple a its
theorem SqI.obj {k : Bool} {h : Heap} {it a : Addr} {i : Nat} (s : SqI k h it a i) : ∃ o, h.get? it = some o ∧ ∀ v, o.data ≠ .cell v := by
  cases k with
  | true =>
    obtain ⟨o, e, _, d⟩ := (show h.IsListIter it a i from s)
    exact ⟨o, e, fun v z => by rw [d] at z; cases z⟩
  | false =>
    obtain ⟨o, e, _, d⟩ := (show h.IsTupleIter it a i from s)
    exact ⟨o, e, fun v z => by rw [d] at z; cases z⟩
theorem SqI.at {k : Bool} {h h' : Heap} {it a : Addr} {i : Nat} (s : SqI k h it a i) (kp : ∀ o, h.get? it = some o → h'.get? it = some o) : SqI k h' it a i := by
  cases k with
  | true => exact Heap.IsListIter.at (show h.IsListIter it a i from s) kp
  | false => exact Heap.IsTupleIter.at (show h.IsTupleIter it a i from s) kp
theorem SqK.val {X : Cx} {pins : List (Addr × Obj)} {σ : L2.St} {H : Hp} {s : Shared} {k : Bool} {a : Addr} {xs : List V} (I : Inv X pins σ H s) (q : SqK X.K k H a xs) :
    ∃ its : List Value, Vals xs its ∧ SqO k s.heap a its.toArray ∧ a < s.heap.objs.size := by
  cases k with
  | true =>
    obtain ⟨its, r, p, _⟩ := I.list (show SqL X.K H a xs from q)
    exact ⟨its, r, p.isList, p.lt⟩
  | false =>
    obtain ⟨its, r, p, _⟩ := I.tuple (show SqT X.K H a xs from q)
    obtain ⟨o, ho, _⟩ := id p
    exact ⟨its, r, p, Heap.lt_size ho⟩
theorem SqK.inj {X : Cx} {pins : List (Addr × Obj)} {σ : L2.St} {H : Hp} {s : Shared} {k : Bool} {a : Addr} {xs ys : List V} (I : Inv X pins σ H s) (q : SqK X.K k H a xs) (q' : SqK X.K k H a ys) : xs = ys := by
  cases k with
  | true => exact I.list_inj (show SqL X.K H a xs from q) q'
  | false => exact I.tuple_inj (show SqT X.K H a xs from q) q'
theorem sq_draws {prog : Program} {w : World} {A : Around} (hh : A.handled = none) (k : Bool) (it a : Addr) (ne : a ≠ it) (its : Array Value) :
    Draws prog w A it [it, a] its.size (fun i v => its[i]? = some v) (fun i h => SqI k h it a i ∧ SqO k h a its) := by
  cases k with
  | true => exact Draws.list hh it a ne its
  | false => exact Draws.tuple hh it a ne its
/-- the new iterator's object -/
def sqIt (k : Bool) (a : Addr) : Obj := if k = true then { cls := .type "list_iterator", data := .fields #[.ref a, .int 0 0] } else { cls := .type "tuple_iterator", data := .fields #[.ref a, .int 0 0] }
theorem sq_begins (k : Bool) (a : Addr) (its : Array Value) : Begins (.ref a) (sqIt k a) fun h => SqO k h a its := by
  cases k with
  | true => exact begins_list a its
  | false => exact begins_tuple a its
theorem sqIt_new {k : Bool} {h : Heap} {it a : Addr} (e : h.get? it = some (sqIt k a)) : SqI k h it a 0 := by
  cases k with
  | true => exact (show h.IsListIter it a 0 from ⟨_, e, rfl, rfl⟩)
  | false => exact (show h.IsTupleIter it a 0 from ⟨_, e, rfl, rfl⟩)

/-! ### enumerate -/
def IteK (K : PySem.W.Frag) (k : Bool) (a : Addr) : L2.It :=
  ⟨fun i H => ∃ (xs : List V) (x : V), SqK K k H a xs ∧ xs[i]? = some x, fun i H v H' => ∃ T x, v = .ref T ∧ H T = none ∧ H' = L2.upd H T (.tup [.int (i : Nat), x]) ∧ ∀ xs, SqK K k H a xs → xs[i]? = some x, fun i H => ∃ xs : List V, SqK K k H a xs ∧ xs.length = i⟩
theorem turn_enumK {P : Program} {w : World} {K : PySem.W.Frag} {elts : List Expr} {kk : Nat} {tpos : Pos} (k : Bool) (a e it : Addr) :
    Turn P w K (.Tuple elts kk tpos) (IteK K k a) [e, it] e (fun i h => (∃ old, IsEnum h e it ((i : Nat) : Int) old) ∧ SqI k h it a i ∧ e ≠ it ∧ a ≠ it ∧ e ≠ a) where
  mem := by simp
  obj := fun i h st b hb => by
    obtain ⟨⟨old, he⟩, hi, _⟩ := st
    rcases (by simpa using hb : b = e ∨ b = it) with z | z
    · subst z; exact ⟨_, he, fun v q => nomatch q⟩
    · subst z; exact hi.obj
  keep := fun i h h' st kp => let ⟨⟨old, he⟩, hi, hne⟩ := st; ⟨⟨old, kp e (by simp) _ he⟩, hi.at fun o q => kp it (by simp) o q, hne⟩
  item := by
    intro X hP hw hK hc i pins s σ H E I hf st hg
    subst hP hw hK
    obtain ⟨⟨old, he⟩, hit, hne, hna, hea⟩ := st
    obtain ⟨xs, x, hq, hx⟩ := hg
    obtain ⟨its, rv, ho, hlt⟩ := hq.val I
    obtain ⟨u, hu, ru⟩ := rv.get hx
    have hel : e < s.heap.objs.size := Heap.lt_size he
    have hil : it < s.heap.objs.size := let ⟨_, q, _⟩ := hit.obj; Heap.lt_size q
    have hsz : i < its.toArray.size := by simpa using (List.getElem?_eq_some_iff.mp hu).1
    refine wpAny_pyNext_enum_itemD (sq_draws (A := X.A.in1) (I.ok.hd hc) k it a hna its.toArray) he ⟨hit, ho⟩ hsz hne (by simp [hne, hea]) fun x' h' tk hp he' st' hT hz hk => ?_
    obtain rfl : u = x' := by
      have e1 : its.toArray[i]? = some u := by simpa using hu
      exact Option.some.inj (e1.symm.trans hp)
    refine ⟨_, rfl, wpAny_letOwnedTupleGo_enum (s := { s with heap := h', toks := tk + 1 }) he' fun h'' he'' sb => ?_⟩
    have hT2 := (sb.2 s.heap.objs.size (Nat.ne_of_gt hel)).trans hT
    have new : ObjOk X.prog X.w (L2.upd H s.heap.objs.size (.tup [.int (i : Nat), x])) h'' s.heap.objs.size (.tup [.int (i : Nat), x]) :=
      ⟨(by show 2 ≤ sizeLine; decide), [.int i tk, u], .cons ⟨_, rfl⟩ (.cons ru .nil), ⟨_, hT2, rfl, _, rfl⟩⟩
    have I1 : Inv X pins σ (L2.upd H s.heap.objs.size (.tup [.int (i : Nat), x])) { s with heap := h'', toks := tk + 1 } :=
      I.turnedNew (ch := [e, it]) (fun b ob hb q => by
        have n1 : b ≠ e := fun z => hb (by simp [z])
        have n2 : b ≠ it := fun z => hb (by simp [z])
        exact (sb.2 b n1).trans (hk b ob n1 n2 q)) hf (Nat.le_refl _) new
    refine ⟨.ref s.heap.objs.size, _, I1, rfl, ⟨_, x, rfl, I.hok.fresh (Nat.le_refl _), rfl, fun ys hy => by rw [hy.inj I hq]; exact hx⟩, ⟨⟨u, ?_⟩, ?_, hne, hna, hea⟩, fun b hb => ?_⟩
    · have e1 : ((i + 1 : Nat) : Int) = (i : Int) + 1 := by omega
      rw [e1]; exact he''
    · exact st'.1.at fun o q => (sb.2 it (Ne.symm hne)).trans q
    · have hb' : b < s.heap.objs.size := by
        rcases (by simpa using hb : b = e ∨ b = it) with z | z
        · rw [z]; exact hel
        · rw [z]; exact hil
      rw [upd_ne (Nat.ne_of_lt hb')]
      exact (hf b hb).1
  done := by
    intro X hP hw hK hc i pins s σ H E I hf st hg
    subst hP hw hK
    obtain ⟨⟨old, he⟩, hit, hne, hna, hea⟩ := st
    obtain ⟨xs, hq, hx⟩ := hg
    obtain ⟨its, rv, ho, _⟩ := hq.val I
    obtain ⟨f0, f1, f2, f3, f4, f5⟩ := hf it (by simp)
    have hl : i = its.toArray.size := by have := rv.length; simp; omega
    rw [hl] at hit he
    exact wpAny_pyNext_enum_endD (sq_draws (A := X.A.in1) (I.ok.hd hc) k it a hna its.toArray) he ⟨hit, ho⟩ fun h' eb => ⟨rfl, I.turned (t' := s.toks) (fun b o hb q => eb b o hb q) f0 f1 f3 f4 f5⟩
  self := fun A i s Q E st h => let ⟨⟨_, he⟩, _⟩ := st; wpAny_pyIter_enum he h
set_option maxHeartbeats 1000000 in
theorem meets_enum1 {v : Value} {o : Obj} {Hb : Heap → Prop} (B : Begins v o Hb) :
    Meets (Builtin.«enumerate.__new__» ⟨[.type "enumerate", v], []⟩) (fun _ R s => Hb s.heap ∧ R (.ok (.ret (.ref (s.heap.push o).objs.size))) { s with heap := (s.heap.push o).push { cls := .type "enumerate", data := .fields #[.none, .bool false, .ref s.heap.objs.size, rawInt 0, .none, .none] } }) :=
  .of_wp fun prog w A R s h => by
    obtain ⟨hp, g, d, tk, os⟩ := s; obtain ⟨h1, h⟩ := h
    have hsub := sub_enumerate
    have q1 : ∀ {A' : Around} {E : Value → Shared → Prop} {Q : Value → Shared → Prop}, Q (.ref hp.objs.size) ⟨hp.push o, g, d, tk, os⟩ → wpAny (model prog w) A' (pyIter v) Q E ⟨hp, g, d, tk, os⟩ := fun q => B.iter prog w _ _ ⟨hp, g, d, tk, os⟩ _ h1 q
    wp_walk using q1
    refine wpAny_stack_any fun st => wpAny_pure ?_; split
    · rename_i c _ _ _ _ _; cases (c == Value.type "enumerate") <;> (wp_walk using q1; exact ⟨_, rfl, h⟩)
    · wp_walk using q1; exact ⟨_, rfl, h⟩
theorem enum_begins1 {prog : Program} {w : World} {A : Around} {E : Value → Shared → Prop} {s : Shared} {v : Value} {o : Obj} {Hb : Heap → Prop} {Q : Value → Shared → Prop} (B : Begins v o Hb) (h1 : Hb s.heap)
    (h : ∀ h', IsEnum h' (s.heap.objs.size + 1) s.heap.objs.size 0 .none → h'.get? s.heap.objs.size = some o → (∀ b o, s.heap.get? b = some o → h'.get? b = some o) → Q (.ref (s.heap.objs.size + 1)) { s with heap := h' }) :
    wpAny (model prog w) A (call (.type "enumerate") [v]) Q E s := by
  refine callType_new F.called_enumerate (by decide) (F.typeCall_enumerate_1 _) (F.newCall_enumerate_1 _) (fun obj => F.args_object_init_2 obj _) F.entry_enumerate_new (meets_enum1 B) ⟨h1, ?_⟩
  have hz : (s.heap.push o).objs.size = s.heap.objs.size + 1 := Heap.size_push ..
  show _ ∧ _
  rw [hz]
  have he : IsEnum ((s.heap.push o).push { cls := .type "enumerate", data := .fields #[.none, .bool false, .ref s.heap.objs.size, rawInt 0, .none, .none] }) (s.heap.objs.size + 1) s.heap.objs.size 0 .none := by
    have := Heap.get?_push_size (s.heap.push o) (o := { cls := .type "enumerate", data := .fields #[.none, .bool false, .ref s.heap.objs.size, rawInt 0, .none, .none] }) rfl
    rw [hz] at this
    exact this
  exact ⟨⟨_, he, rfl⟩, h _ he (Heap.get?_push_of_some _ (Heap.get?_push_size _ B.free)) fun b o x => Heap.get?_push_of_some _ (Heap.get?_push_of_some _ x)⟩
def iEnumK (K : PySem.W.Frag) (ta : TA) : TI := fun σ H R => ta σ H fun vs H1 => ∃ k a xs, vs = [.ref a] ∧ SqK K k H1 a xs ∧ R (IteK K k a) H1
theorem pi_enumK {X : Cx} {e : Expr} {ta : TA} {p pos tpos : Pos} {elts : List Expr} {kk : Nat} (hg : Gl X "enumerate") (hm : X.mg "enumerate" = none) (ha : PA X [e] ta) (hs : starEach [e] X.env = [(false, eval e X.env)]) :
    PI X (.Tuple elts kk tpos) (.Call (.Name "enumerate" p) [e] [] pos) (iEnumK X.K ta) := by
  refine ⟨fun pins s σ H R I h => Call_ (ld_blt I hg hm boot_enumerate (PyProof.Rows.callWith_type1 (thn (ha.run pos pins s σ H _ I h) fun us s1 ⟨vs, H1, I1, r1, k, a, xs, ex, hq, q⟩ => ?_) hs rfl))⟩
  subst ex
  cases r1 with
  | cons r rr =>
    cases rr
    cases r
    obtain ⟨its, rv, ho, hlt⟩ := hq.val I1
    refine enum_begins1 (sq_begins k a its.toArray) ho fun h' he hit hk => wpAny_pyIter_enum he ?_
    have I2 : Inv X pins σ H1 { s1 with heap := h' } := I1.kept (t' := s1.toks) hk
    refine ⟨s1.heap.objs.size + 1, [s1.heap.objs.size + 1, s1.heap.objs.size], _, _, H1, rfl, I2, turn_enumK k a (s1.heap.objs.size + 1) s1.heap.objs.size, ⟨⟨.none, he⟩, sqIt_new hit, Nat.succ_ne_self _, Nat.ne_of_lt hlt, Ne.symm (Nat.ne_of_lt (Nat.lt_succ_of_lt hlt))⟩, fun b hb => ?_, q⟩
    have hle : s1.heap.objs.size ≤ b := by
      rcases (by simpa using hb : b = s1.heap.objs.size + 1 ∨ b = s1.heap.objs.size) with z | z <;> rw [z] <;> first | exact Nat.le_add_right _ _ | exact Nat.le_refl _
    exact I1.fpOk hle (I1.hok.fresh hle)

/-! ### zip -/
def ItzK (K : PySem.W.Frag) (k l : Bool) (a b : Addr) : L2.It :=
  ⟨fun i H => ∃ (xs ys : List V) (x y : V), SqK K k H a xs ∧ SqK K l H b ys ∧ xs[i]? = some x ∧ ys[i]? = some y,
    fun i H v H' => ∃ T x y, v = .ref T ∧ H T = none ∧ H' = L2.upd H T (.tup [x, y]) ∧ (∀ xs, SqK K k H a xs → xs[i]? = some x) ∧ ∀ ys, SqK K l H b ys → ys[i]? = some y,
    fun i H => ∃ xs ys : List V, SqK K k H a xs ∧ SqK K l H b ys ∧ i ≤ xs.length ∧ i ≤ ys.length ∧ (i = xs.length ∨ i = ys.length)⟩
theorem turn_zipK {P : Program} {w : World} {K : PySem.W.Frag} {elts : List Expr} {kk : Nat} {tpos : Pos} (k l : Bool) {a b z TI TO i1 i2 : Addr} (S : ZipSep2 z TI TO i1 i2 [i1, a] [i2, b]) (n1 : a ≠ i1) (n2 : b ≠ i2) :
    Turn P w K (.Tuple elts kk tpos) (ItzK K k l a b) [z, TI, TO, i1, i2] z (fun i h => IsZip h z TI TO .none ∧ IsTupOf2 h TI (.ref i1) (.ref i2) ∧ (∃ x y, IsTupOf2 h TO x y) ∧ SqI k h i1 a i ∧ SqI l h i2 b i) where
  mem := by simp
  obj := fun i h st c hc => by
    obtain ⟨hz, hTI, ⟨x, y, hTO⟩, h1, h2⟩ := st
    rcases (by simpa using hc : c = z ∨ c = TI ∨ c = TO ∨ c = i1 ∨ c = i2) with q | q | q | q | q <;> subst q
    · exact ⟨_, hz, fun v q => nomatch q⟩
    · exact ⟨_, hTI, fun v q => nomatch q⟩
    · exact ⟨_, hTO, fun v q => nomatch q⟩
    · exact h1.obj
    · exact h2.obj
  keep := fun i h h' st kp => by
    obtain ⟨hz, hTI, ⟨x, y, hTO⟩, h1, h2⟩ := st
    exact ⟨kp z (by simp) _ hz, kp TI (by simp) _ hTI, ⟨x, y, kp TO (by simp) _ hTO⟩, h1.at fun o q => kp i1 (by simp) o q, h2.at fun o q => kp i2 (by simp) o q⟩
  item := by
    intro X hP hw hK hc i pins s σ H E I hf st hg
    subst hP hw hK
    obtain ⟨hz, hTI, ⟨x0, y0, hTO⟩, h1, h2⟩ := st
    obtain ⟨xs, ys, x, y, hqx, hqy, hx, hy⟩ := hg
    obtain ⟨its, rv, o1, _⟩ := hqx.val I
    obtain ⟨jts, rw', o2, _⟩ := hqy.val I
    obtain ⟨u, hu, ru⟩ := rv.get hx
    obtain ⟨u2, hu2, ru2⟩ := rw'.get hy
    have hzl : z < s.heap.objs.size := Heap.lt_size hz
    have z1 : i < its.toArray.size := by simpa using (List.getElem?_eq_some_iff.mp hu).1
    have z2 : i < jts.toArray.size := by simpa using (List.getElem?_eq_some_iff.mp hu2).1
    refine wpAny_pyNext_zipD2_item S (sq_draws (A := X.A.in1) (I.ok.hd hc) k i1 a n1 its.toArray) (sq_draws (A := X.A.in1) (I.ok.hd hc) l i2 b n2 jts.toArray) hz hTI hTO ⟨h1, o1⟩ ⟨h2, o2⟩ z1 z2 fun v1 v2 h' tk p1 p2 z' TO' t1 t2 hT hsz hk => ?_
    obtain rfl : u = v1 := Option.some.inj ((show its.toArray[i]? = some u by simpa using hu).symm.trans p1)
    obtain rfl : u2 = v2 := Option.some.inj ((show jts.toArray[i]? = some u2 by simpa using hu2).symm.trans p2)
    refine ⟨_, rfl, wpAny_letOwnedTupleGo_zip (s := { s with heap := h', toks := tk }) z' fun h'' z'' sb => ?_⟩
    have hT2 := (sb.2 s.heap.objs.size (Nat.ne_of_gt hzl)).trans hT
    have new : ObjOk X.prog X.w (L2.upd H s.heap.objs.size (.tup [x, y])) h'' s.heap.objs.size (.tup [x, y]) :=
      ⟨(by show 2 ≤ sizeLine; decide), [u, u2], .cons ru (.cons ru2 .nil), ⟨_, hT2, rfl, _, rfl⟩⟩
    have I1 : Inv X pins σ (L2.upd H s.heap.objs.size (.tup [x, y])) { s with heap := h'', toks := tk } :=
      I.turnedNew (t' := tk) (ch := [z, TI, TO, i1, i2]) (fun c o hb q => by
        have m1 : c ≠ z := fun q' => hb (by simp [q'])
        have m2 : c ≠ TO := fun q' => hb (by simp [q'])
        have m3 : c ≠ i1 := fun q' => hb (by simp [q'])
        have m4 : c ≠ i2 := fun q' => hb (by simp [q'])
        exact (sb.2 c m1).trans (hk c o m1 m2 m3 m4 q)) hf (Nat.le_refl _) new
    refine ⟨.ref s.heap.objs.size, _, I1, rfl, ⟨_, x, y, rfl, I.hok.fresh (Nat.le_refl _), rfl, fun q hl => by rw [hl.inj I hqx]; exact hx, fun q hl => by rw [hl.inj I hqy]; exact hy⟩, ⟨z'', ?_, ⟨u, u2, ?_⟩, ?_, ?_⟩, fun c hcm => ?_⟩
    · exact (sb.2 _ S.TIz).trans (hk _ _ S.TIz S.TITO S.TIi1 S.TIi2 hTI)
    · exact (sb.2 _ S.TOz).trans TO'
    · exact t1.1.at fun o q => (sb.2 _ (Ne.symm S.zi1)).trans q
    · exact t2.1.at fun o q => (sb.2 _ (Ne.symm S.zi2)).trans q
    · have hlt : c < s.heap.objs.size := by
        rcases (by simpa using hcm : c = z ∨ c = TI ∨ c = TO ∨ c = i1 ∨ c = i2) with q | q | q | q | q <;> subst q
        · exact hzl
        · exact Heap.lt_size hTI
        · exact Heap.lt_size hTO
        · obtain ⟨_, e1, _⟩ := h1.obj; exact Heap.lt_size e1
        · obtain ⟨_, e2, _⟩ := h2.obj; exact Heap.lt_size e2
      rw [upd_ne (Nat.ne_of_lt hlt)]
      exact (hf c hcm).1
  done := by
    intro X hP hw hK hc i pins s σ H E I hf st hg
    subst hP hw hK
    obtain ⟨hz, hTI, ⟨x0, y0, hTO⟩, h1, h2⟩ := st
    obtain ⟨xs, ys, hqx, hqy, le1, le2, hend⟩ := hg
    obtain ⟨its, rv, o1, _⟩ := hqx.val I
    obtain ⟨jts, rw', o2, _⟩ := hqy.val I
    have l1 := rv.length
    have l2 := rw'.length
    refine wpAny_pyNext_zipD2_end S (sq_draws (A := X.A.in1) (I.ok.hd hc) k i1 a n1 its.toArray) (sq_draws (A := X.A.in1) (I.ok.hd hc) l i2 b n2 jts.toArray) hz hTI hTO ⟨h1, o1⟩ ⟨h2, o2⟩ (by simp; omega) (by simp; omega) (by simp; omega) fun h' tk hk => ⟨rfl, ?_⟩
    exact I.turnedL (t' := tk) (ch := [z, TI, TO, i1, i2]) (fun c o hb q => hk c o (fun q' => hb (by simp [q'])) (fun q' => hb (by simp [q'])) (fun q' => hb (by simp [q'])) (fun q' => hb (by simp [q'])) q) hf
  self := fun A i s Q E st h => wpAny_pyIter_zip st.1 h
def iZipK (K : PySem.W.Frag) (ta : TA) : TI := fun σ H R => ta σ H fun vs H1 => ∃ k l a b xs ys, vs = [.ref a, .ref b] ∧ SqK K k H1 a xs ∧ SqK K l H1 b ys ∧ R (ItzK K k l a b) H1
theorem pi_zipK {X : Cx} {e e2 : Expr} {ta : TA} {p pos tpos : Pos} {elts : List Expr} {kk : Nat} (hg : Gl X "zip") (hm : X.mg "zip" = none) (ha : PA X [e, e2] ta)
    (hs : starEach [e, e2] X.env = (false, eval e X.env) :: starEach [e2] X.env) (hpl : (backTo pos (starEach [e2] X.env)).any (·.1) = false) :
    PI X (.Tuple elts kk tpos) (.Call (.Name "zip" p) [e, e2] [] pos) (iZipK X.K ta) := by
  refine ⟨fun pins s σ H R I h => Call_ (ld_blt I hg hm PyProof.Rows.boot_zip (PyProof.Rows.callWith_type1 (thn (ha.run pos pins s σ H _ I h) fun us s1 ⟨vs, H1, I1, r1, k, l, a, b, xs, ys, ex, hqx, hqy, q⟩ => ?_) hs hpl))⟩
  subst ex
  cases r1 with
  | cons r rr =>
    cases rr with
    | cons r' rr =>
      cases rr
      cases r
      cases r'
      obtain ⟨its, rv, o1, la⟩ := hqx.val I1
      obtain ⟨jts, rw', o2, lb⟩ := hqy.val I1
      refine zip_begins2 (sq_begins k a its.toArray) (sq_begins l b jts.toArray) o1 o2 fun h' hz hTI hTO h1 h2 hsz hk => wpAny_pyIter_zip hz ?_
      have I2 : Inv X pins σ H1 { s1 with heap := h' } := I1.kept (t' := s1.toks) hk
      have S : ZipSep2 (s1.heap.objs.size + 4) (s1.heap.objs.size + 2) (s1.heap.objs.size + 3) s1.heap.objs.size (s1.heap.objs.size + 1) [s1.heap.objs.size, a] [s1.heap.objs.size + 1, b] :=
        zip_sep2 (fp1 := [a]) (fp2 := [b]) (by simpa using la) (by simpa using lb)
      refine ⟨s1.heap.objs.size + 4, [s1.heap.objs.size + 4, s1.heap.objs.size + 2, s1.heap.objs.size + 3, s1.heap.objs.size, s1.heap.objs.size + 1], _, _, H1, rfl, I2, turn_zipK k l S (Nat.ne_of_lt la) (Nat.ne_of_lt (Nat.lt_succ_of_lt lb)), ⟨hz, hTI, ⟨_, _, hTO⟩, sqIt_new h1, sqIt_new h2⟩, fun c hcm => ?_, q⟩
      have hle : s1.heap.objs.size ≤ c := by
        rcases (by simpa using hcm : c = s1.heap.objs.size + 4 ∨ c = s1.heap.objs.size + 2 ∨ c = s1.heap.objs.size + 3 ∨ c = s1.heap.objs.size ∨ c = s1.heap.objs.size + 1) with z | z | z | z | z <;> rw [z] <;> first | exact Nat.le_add_right _ _ | exact Nat.le_refl _
      exact I1.fpOk hle (I1.hok.fresh hle)
end Og
end
section
set_option maxHeartbeats 4000000
set_option autoImplicit false
/-! Og: what is shown of each term: its readings by data; the rules for values. -/
namespace Og
open PySem PySem.Spec PyProof.Rows L2
/-- the slots hold what rho says -/
structure REnv (K : PySem.W.Frag) (r : Rho) (m : Mem) (σ : L2.St) (H : Hp) : Prop where
  len : σ.length = r.length
  at_ : ∀ (i : Nat) (d : D), r[i]? = some (some d) → ∃ v, σ[i]? = some (some v) ∧ Rep K m H v d
  mem : MemOk K m H
theorem REnv.step {K : PySem.W.Frag} {r : Rho} {m m' : Mem} {σ : L2.St} {H H' : Hp} (e : REnv K r m σ H) (s : Step m H m' H') (hm : MemOk K m' H') : REnv K r m' σ H' :=
  ⟨e.len, fun i d h => let ⟨v, q, z⟩ := e.at_ i d h; ⟨v, q, Rep.step s _ _ z⟩, hm⟩
theorem REnv.set {K : PySem.W.Frag} {r : Rho} {m : Mem} {σ : L2.St} {H : Hp} {v : V} {d : D} (e : REnv K r m σ H) (i : Nat) (z : Rep K m H v d) : REnv K (r.set i (some d)) m (σ.set i (some v)) H :=
  ⟨by simp [e.len], fun j c h => by
    by_cases hj : i = j
    · subst hj
      by_cases hl : i < r.length
      · rw [List.getElem?_set_self hl] at h
        cases h
        exact ⟨v, List.getElem?_set_self (by rw [e.len]; exact hl), z⟩
      · rw [List.getElem?_eq_none (by simpa using hl)] at h; cases h
    · rw [List.getElem?_set_ne hj] at h ⊢
      exact e.at_ j c h, e.mem⟩
theorem REnv.wipe {K : PySem.W.Frag} {r : Rho} {m : Mem} {σ : L2.St} {H : Hp} (e : REnv K r m σ H) : ∀ vs : List Nat, REnv K (wipeD r vs) m (L2.wipe σ vs) H
  | [] => e
  | v :: vs => by
    have ih := REnv.wipe e vs
    unfold wipeD L2.wipe
    refine ⟨by simp [ih.len], fun j c h => ?_, ih.mem⟩
    by_cases hj : v = j
    · subst hj
      by_cases hl : v < (wipeD r vs).length
      · rw [List.getElem?_set_self hl] at h; cases h
      · rw [List.getElem?_eq_none (by simpa using hl)] at h; cases h
    · rw [List.getElem?_set_ne hj] at h ⊢
      exact ih.at_ j c h

/-- the state is one of the machine's -/
def Good (X : Cx) (H : Hp) : Prop := ∃ pins σ s, Inv X pins σ H s
theorem Good.seq {X : Cx} {H : Hp} {a : Addr} {xs : List V} (g : Good X H) (h : SqL X.K H a xs ∨ SqT X.K H a xs) : xs.length ≤ sizeLine := by
  obtain ⟨_, _, _, I⟩ := g
  rcases h with h | h
  · obtain ⟨_, _, _, z⟩ := I.list h; exact z
  · obtain ⟨_, _, _, z⟩ := I.tuple h; exact z
theorem _root_.L2.PE.imp {X : Cx} {e : Expr} {t u : TE} (h : PE X e u) (i : ∀ σ H Q, Good X H → t σ H Q → u σ H Q) : PE X e t := ⟨fun pins s σ H Q I w => h.run pins s σ H Q I (i σ H Q ⟨_, _, _, I⟩ w)⟩
theorem _root_.L2.PT.imp {X : Cx} {e : Expr} {t u : TT} (h : PT X e u) (i : ∀ σ H Q, Good X H → t σ H Q → u σ H Q) : PT X e t := ⟨fun pins s σ H Q I w => h.run pins s σ H Q I (i σ H Q ⟨_, _, _, I⟩ w)⟩
theorem _root_.L2.PA.imp {X : Cx} {e : List Expr} {t u : TA} (h : PA X e u) (i : ∀ σ H Q, Good X H → t σ H Q → u σ H Q) : PA X e t := ⟨fun pos pins s σ H Q I w => h.run pos pins s σ H Q I (i σ H Q ⟨_, _, _, I⟩ w)⟩
theorem _root_.L2.PO.imp {X : Cx} {e : Option Expr} {t u : TO} (h : PO X e u) (i : ∀ σ H Q, Good X H → t σ H Q → u σ H Q) : PO X e t := ⟨fun pins s σ H Q I w => h.run pins s σ H Q I (i σ H Q ⟨_, _, _, I⟩ w)⟩
theorem _root_.L2.PTs.imp {X : Cx} {e : List Expr} {t u : TT} (h : PTs X e u) (i : ∀ σ H Q, Good X H → t σ H Q → u σ H Q) : PTs X e t := ⟨fun pins s σ H Q I w => h.run pins s σ H Q I (i σ H Q ⟨_, _, _, I⟩ w)⟩
theorem _root_.L2.PI.imp {X : Cx} {tg e : Expr} {t u : TI} (h : PI X tg e u) (i : ∀ σ H Q, Good X H → t σ H Q → u σ H Q) : PI X tg e t := ⟨fun pins s σ H Q I w => h.run pins s σ H Q I (i σ H Q ⟨_, _, _, I⟩ w)⟩
theorem _root_.L2.PS.imp {X : Cx} {e : Stmt} {t u : TS} (h : PS X e u) (i : ∀ D σ H, Good X H → t D σ H → u D σ H) : PS X e t := ⟨fun pins s σ H D I w => h.run pins s σ H D I (i D σ H ⟨_, _, _, I⟩ w)⟩
theorem _root_.L2.PSs.imp {X : Cx} {e : List Stmt} {t u : TS} (h : PSs X e u) (i : ∀ D σ H, Good X H → t D σ H → u D σ H) : PSs X e t := ⟨fun pins s σ H D I w => h.run pins s σ H D I (i D σ H ⟨_, _, _, I⟩ w)⟩
theorem _root_.L2.PG.imp {X : Cx} {e : Expr} {t u : TG} (h : PG X e u) (i : ∀ v σ H Q, t v σ H Q → u v σ H Q) : PG X e t := ⟨fun pins s σ H v z Q I r w => h.run pins s σ H v z Q I r (i v σ H Q w)⟩
theorem _root_.L2.PGs.imp {X : Cx} {e : List Expr} {t u : TGs} (h : PGs X e u) (i : ∀ v σ H Q, t v σ H Q → u v σ H Q) : PGs X e t := ⟨fun pins s σ H v z Q I r w => h.run pins s σ H v z Q I r (i v σ H Q w)⟩
/-- what an iterator gives is known to be of the machine too -/
theorem _root_.L2.PI.good {X : Cx} {tg e : Expr} {t : TI} (h : PI X tg e t) : PI X tg e (fun σ H R => t σ H fun J H1 => Good X H1 → R J H1) := ⟨fun pins s σ H R I w =>
  thn (h.run pins s σ H _ I w) fun v s1 q => thn q fun u s2 ⟨it, fp, tn, J, H', e1, I', T, t0, f, r⟩ => ⟨it, fp, tn, J, H', e1, I', T, t0, f, r ⟨_, _, _, I'⟩⟩⟩
theorem _root_.L2.PE.good {X : Cx} {e : Expr} {t : TE} (h : PE X e t) : PE X e (fun σ H Q => t σ H fun v H1 => Good X H1 → Q v H1) := ⟨fun pins s σ H Q I w =>
  thn (h.run pins s σ H _ I w) fun v s1 ⟨x, H1, I1, r1, q⟩ => ⟨x, H1, I1, r1, q ⟨_, _, _, I1⟩⟩⟩

/-! ### the readings -/
section
variable (K : PySem.W.Frag) (Y : Ctx)
def tE (c : E) : TE := fun σ H Q' => ∃ r m Q, REnv K r m σ H ∧ ev Y c r m Q ∧ Fin K m H Q Q'
def FinB (m : Mem) (H : Hp) (Q : Bool → Mem → Prop) (Q' : Bool → Hp → Prop) : Prop := ∀ b m' H', Q b m' → MemOk K m' H' → Step m H m' H' → Q' b H'
def tTst (c : E) : TT := fun σ H Q' => ∃ r m Q, REnv K r m σ H ∧ evB Y c r m Q ∧ FinB K m H Q Q'
def tTs (cs : List E) : TT := fun σ H Q' => ∃ r m Q, REnv K r m σ H ∧ evT Y cs r m Q ∧ FinB K m H Q Q'
def tAs (es : List E) : TA := fun σ H Q' => ∃ r m Q, REnv K r m σ H ∧ evs Y es r m Q ∧ ∀ ds m' vs H', Q ds m' → Reps K m' H' vs ds → MemOk K m' H' → Step m H m' H' → Q' vs H'
def tOs (o : Option E) : TO := fun σ H Q' => ∃ r m Q, REnv K r m σ H ∧ evO Y o r m Q ∧ ∀ i m' H', Q i m' → MemOk K m' H' → Step m H m' H' → Q' i H'
/-- an iterator that gives the data ds, while G stands of the cells -/
structure WalkD (J : L2.It) (ds : List D) (G : Mem → Prop) (m1 : Mem) (H1 : Hp) : Prop where
  go : ∀ i d m H, ds[i]? = some d → G m → MemOk K m H → Step m1 H1 m H → J.go i H
  yl : ∀ i d m H x H', ds[i]? = some d → G m → MemOk K m H → Step m1 H1 m H → J.yld i H x H' → MemOk K m H' ∧ Step m H m H' ∧ Rep K m H' x d
  st : ∀ m H, G m → MemOk K m H → Step m1 H1 m H → J.stop ds.length H
  len : ds.length ≤ sizeLine
def tIt (it : Ita) : TI := fun σ H R => ∃ r m Q, REnv K r m σ H ∧ evI Y it r m Q ∧ ∀ ds G m' J H', Q ds G m' → MemOk K m' H' → Step m H m' H' → WalkD K J ds G m' H' → R J H'
mutual
def Tg.slots : Tg → List Nat
  | .nm i => [i]
  | .tup ts => slotsAll ts
def slotsAll : List Tg → List Nat
  | [] => []
  | t :: ts => t.slots ++ slotsAll ts
end
/-- nothing but these slots changed -/
def Out (l : List Nat) (σ σ' : L2.St) : Prop := ∀ vs : List Nat, (∀ i ∈ l, i ∈ vs) → L2.wipe σ' vs = L2.wipe σ vs
def tTg (t : Tg) : TG := fun v σ H Q => ∃ r m d Kd, REnv K r m σ H ∧ Rep K m H v d ∧ setT t d r Kd ∧ ∀ r' σ', Kd r' → REnv K r' m σ' H → Out t.slots σ σ' → Q σ' H
def tTgs (ts : List Tg) : TGs := fun vs σ H Q => ∃ r m ds Kd, REnv K r m σ H ∧ Reps K m H vs ds ∧ setTs ts ds r Kd ∧ ∀ r' σ', Kd r' → REnv K r' m σ' H → Out (slotsAll ts) σ σ' → Q σ' H
structure KtOk (m : Mem) (H : Hp) (k : Kt) (D : Ends) : Prop where
  nx : ∀ r' m' σ' H', k.nx r' m' → REnv K r' m' σ' H' → Step m H m' H' → D.nx σ' H'
  bk : ∀ r' m' σ' H', k.bk r' m' → REnv K r' m' σ' H' → Step m H m' H' → D.bk σ' H'
  ct : ∀ r' m' σ' H', k.ct r' m' → REnv K r' m' σ' H' → Step m H m' H' → D.ct σ' H'
  rt : Fin K m H k.rt D.rt
def tS (s : S) : TS := fun D σ H => ∃ r m k, REnv K r m σ H ∧ ex Y s r m k ∧ KtOk K m H k D
def tSs (ss : List S) : TS := fun D σ H => ∃ r m k, REnv K r m σ H ∧ exs Y ss r m k ∧ KtOk K m H k D
end
section
variable {K : PySem.W.Frag} {Y : Ctx} {m m' : Mem} {H H' : Hp}
theorem Fin.mono {Q : KD} {Q' : VK} (f : Fin K m H Q Q') (s : Step m H m' H') : Fin K m' H' Q Q' := fun d m2 v H2 q r hm s2 => f d m2 v H2 q r hm (s.trans s2)
theorem FinB.mono {Q : Bool → Mem → Prop} {Q' : Bool → Hp → Prop} (f : FinB K m H Q Q') (s : Step m H m' H') : FinB K m' H' Q Q' := fun b m2 H2 q hm s2 => f b m2 H2 q hm (s.trans s2)
theorem KtOk.mono {k : Kt} {D : Ends} (f : KtOk K m H k D) (s : Step m H m' H') : KtOk K m' H' k D :=
  ⟨fun r2 m2 σ2 H2 q e s2 => f.nx r2 m2 σ2 H2 q e (s.trans s2), fun r2 m2 σ2 H2 q e s2 => f.bk r2 m2 σ2 H2 q e (s.trans s2), fun r2 m2 σ2 H2 q e s2 => f.ct r2 m2 σ2 H2 q e (s.trans s2), f.rt.mono s⟩
theorem wipe_set {i : Nat} {v : V} : ∀ {vs : List Nat} {σ : L2.St}, i ∈ vs → L2.wipe (σ.set i (some v)) vs = L2.wipe σ vs
  | [], _, h => by cases h
  | w :: vs, σ, h => by
    unfold L2.wipe
    by_cases hi : i ∈ vs
    · rw [wipe_set hi]
    · have e : i = w := by
        rcases List.mem_cons.mp h with z | z
        · exact z
        · exact absurd z hi
      subst e
      have go : ∀ (us : List Nat) (τ : L2.St), i ∉ us → L2.wipe (τ.set i (some v)) us = (L2.wipe τ us).set i (some v) := by
        intro us
        induction us with
        | nil => intro τ _; rfl
        | cons u us ih =>
          intro τ hu
          unfold L2.wipe
          rw [ih τ fun z => hu (List.mem_cons_of_mem _ z)]
          have ne : i ≠ u := fun z => hu (by rw [z]; exact List.mem_cons_self)
          exact List.set_comm _ _ ne
      rw [go vs σ hi, List.set_set]
theorem Out.nm {i : Nat} {σ : L2.St} {v : V} : Out [i] σ (σ.set i (some v)) := fun vs h => wipe_set (h i (by simp))
theorem Out.refl {l : List Nat} {σ : L2.St} : Out l σ σ := fun _ _ => rfl
theorem Out.trans {l l' : List Nat} {σ σ1 σ2 : L2.St} (a : Out l σ σ1) (b : Out l' σ1 σ2) : Out (l ++ l') σ σ2 := fun vs h => (b vs fun i hi => h i (by simp [hi])).trans (a vs fun i hi => h i (by simp [hi]))
end

/-! ### expressions, one by one -/
section
variable {X : Cx} {Y : Ctx} {e e2 e3 : Expr} {a b c : E} {pos : Pos}
theorem r_int {i : Int} {j : Nat} : PE X (.Constant (.int i) j pos) (tE X.K Y (.int i)) := pe_int.imp fun σ H Q _ ⟨r, m, Qd, he, q, f⟩ => f.here he.mem rep_int (by simpa only [ev] using q)
theorem r_bl {i : Bool} {j : Nat} : PE X (.Constant (.bool i) j pos) (tE X.K Y (.bl i)) := pe_bl.imp fun σ H Q _ ⟨r, m, Qd, he, q, f⟩ => f.here he.mem rep_bl (by simpa only [ev] using q)
theorem r_str {i : Str} {j : Nat} : PE X (.Constant (.str i) j pos) (tE X.K Y (.str i)) := pe_str.imp fun σ H Q _ ⟨r, m, Qd, he, q, f⟩ => f.here he.mem rep_str (by simpa only [ev] using q)
theorem r_non {j : Nat} : PE X (.Constant .none j pos) (tE X.K Y .non) := pe_non.imp fun σ H Q _ ⟨r, m, Qd, he, q, f⟩ => f.here he.mem rep_non (by simpa only [ev] using q)
theorem r_x {i : Nat} {x : Str} (hN : X.N[i]? = some x) (hv : Vis X.env.scope x) (hd : (x == ("__debug__" : Str)) = false) (hc : (x == ("__classdict__" : Str)) = false) : PE X (.Name x pos) (tE X.K Y (.x i)) :=
  (pe_var hN hv hd hc).imp fun σ H Q _ ⟨r, m, Qd, he, q, f⟩ => by
    simp only [ev] at q
    obtain ⟨d, h1, q⟩ := q
    obtain ⟨v, h2, rv⟩ := he.at_ i d h1
    exact ⟨v, h2, f.here he.mem rv q⟩
theorem r_g {j : Nat} {x : Str} {v : V} {u : Value} {d : D} (hg : Gl X x) (hm : X.mg x = some u) (rv : RelV v u) (hd : (x == ("__debug__" : Str)) = false) (hj : Y.gd[j]? = some d) (rd : ∀ m H, Rep X.K m H v d) : PE X (.Name x pos) (tE X.K Y (.g j)) :=
  (pe_glob hg hm rv hd).imp fun σ H Q _ ⟨r, m, Qd, he, q, f⟩ => by
    simp only [ev] at q
    obtain ⟨d', h1, q⟩ := q
    rw [hj] at h1
    cases h1
    exact f.here he.mem (rd m H) q
/-- two expressions in a row -/
theorem two {σ : L2.St} {H : Hp} {r : Rho} {m : Mem} {R : V → V → Hp → Prop} {Qd : D → D → Mem → Prop} (he : REnv X.K r m σ H) (q : ev Y a r m fun x m1 => ev Y b r m1 fun y m2 => Qd x y m2)
    (fin : ∀ x y d e m2 H2, Rep X.K m2 H2 x d → Rep X.K m2 H2 y e → MemOk X.K m2 H2 → Step m H m2 H2 → Qd d e m2 → R x y H2) : tE X.K Y a σ H fun x H1 => tE X.K Y b σ H1 fun y H2 => R x y H2 :=
  ⟨r, m, _, he, q, fun d m1 x H1 q1 rx hm s1 => ⟨r, m1, _, he.step s1 hm, q1, fun e m2 y H2 q2 ry hm2 s2 => fin x y d e m2 H2 (Rep.step s2 _ _ rx) ry hm2 (s1.trans s2) q2⟩⟩
theorem r_bop {o : BOp} (py : PyR X) (ha : PE X e (tE X.K Y a)) (hb : PE X e2 (tE X.K Y b)) : PE X (.BinOp e o.py e2 pos) (tE X.K Y (.bop o a b)) := by
  obtain ⟨r0, hr, hh⟩ := opD_ok (X := X) py o
  refine (pe_op hr ha hb).imp fun σ H Q _ ⟨r, m, Qd, he, q, f⟩ => ?_
  simp only [ev] at q
  exact two he q fun x y d e m2 H2 rx ry hm s q2 => hh x y d e m2 H2 Qd Q hm rx ry q2 (f.mono s)
theorem r_neg (ha : PE X e (tE X.K Y a)) : PE X (.UnaryOp .USub e pos) (tE X.K Y (.neg a)) := (pe_un un_neg ha).imp fun σ H Q _ ⟨r, m, Qd, he, q, f⟩ => by
  simp only [ev] at q
  refine ⟨r, m, _, he, q, fun d m1 v H1 q1 rv hm s => ?_⟩
  obtain ⟨i, rfl, q1⟩ := onI_out q1
  exact ⟨_, rv.int, (f.mono s).here hm rep_int q1⟩
theorem r_cmp {o : COp} (hu : X.A.units + 64 < cLine) (hn : behindInMarks o.py e2 = false) (ha : PE X e (tE X.K Y a)) (hb : PE X e2 (tE X.K Y b)) : PE X (.Compare e [o.py] [e2] pos) (tE X.K Y (.cmp o a b)) := by
  obtain ⟨r0, hr, hh⟩ := cmpD_ok (X := X) hu o
  refine (pe_cmpR hr ha hb hn).imp fun σ H Q _ ⟨r, m, Qd, he, q, f⟩ => ?_
  simp only [ev] at q
  exact two he q fun x y d e m2 H2 rx ry hm s q2 => hh x y d e m2 H2 Qd Q hm rx ry q2 (f.mono s)
theorem tst_of {c : E} {σ : L2.St} {H : Hp} {Q' : Bool → Hp → Prop} (h : tTst X.K Y c σ H Q') : tE X.K Y c σ H fun x H' => ∃ k, x = .bl k ∧ Q' k H' := by
  obtain ⟨r, m, Qd, he, q, f⟩ := h
  refine ⟨r, m, _, he, q, fun d m1 v H1 q1 rv hm s => ?_⟩
  obtain ⟨k, rfl, q1⟩ := onB_out q1
  exact ⟨_, rv.bl, f _ m1 H1 q1 hm s⟩
theorem t_cmp {o : COp} (hu : X.A.units + 64 < cLine) (hn : behindInMarks o.py e2 = false) (ha : PE X e (tE X.K Y a)) (hb : PE X e2 (tE X.K Y b)) : PT X (.Compare e [o.py] [e2] pos) (tTst X.K Y (.cmp o a b)) := by
  obtain ⟨r0, hr, hh⟩ := cmpD_ok (X := X) hu o
  refine (pt_cmpR hr ha hb hn).imp fun σ H Q _ h => ?_
  obtain ⟨r, m, Qd, he, q, f⟩ := tst_of h
  simp only [ev] at q
  exact two he q fun x y d e m2 H2 rx ry hm s q2 => hh x y d e m2 H2 Qd _ hm rx ry q2 (f.mono s)
/-- a chain -/
theorem chain_of {o o' : COp} {r0 r1 : R2} (hh : ∀ x y d e m H Q Q', MemOk X.K m H → Rep X.K m H x d → Rep X.K m H y e → cmpD o d e m Q → Fin X.K m H Q Q' → r0 x y H Q')
    (hh' : ∀ x y d e m H Q Q', MemOk X.K m H → Rep X.K m H x d → Rep X.K m H y e → cmpD o' d e m Q → Fin X.K m H Q Q' → r1 x y H Q') {σ : L2.St} {H : Hp} {Q : VK} (h : tE X.K Y (.ch o o' a b c) σ H Q) : tChain r0 r1 (tE X.K Y a) (tE X.K Y b) (tE X.K Y c) σ H Q := by
  obtain ⟨r, m, Qd, he, q, f⟩ := h
  simp only [ev] at q
  refine two he q fun x y d e m2 H2 rx ry hm s q2 => hh x y d e m2 H2 _ _ hm rx ry q2 fun z m3 v H3 q3 rz hm3 s3 => ?_
  obtain ⟨k, rfl, q3⟩ := onB_out q3
  refine ⟨k, rz.bl, ?_⟩
  cases k with
  | false => exact (f.mono (s.trans s3)).here hm3 rep_bl q3
  | true => exact ⟨r, m3, _, he.step (s.trans s3) hm3, q3, fun w m4 u H4 q4 rw' hm4 s4 => hh' _ _ _ _ m4 H4 Qd Q hm4 (Rep.step (s3.trans s4) _ _ ry) rw' q4 (f.mono ((s.trans s3).trans s4))⟩
theorem r_ch {o o' : COp} (hu : X.A.units + 64 < cLine) (hn : lastMarks [o.py, o'.py] [e2, e3] = false) (ha : PE X e (tE X.K Y a)) (hb : PE X e2 (tE X.K Y b)) (hc : PE X e3 (tE X.K Y c)) : PE X (.Compare e [o.py, o'.py] [e2, e3] pos) (tE X.K Y (.ch o o' a b c)) := by
  obtain ⟨r0, hr, hh⟩ := cmpD_ok (X := X) hu o
  obtain ⟨r1, hr', hh'⟩ := cmpD_ok (X := X) hu o'
  exact (pe_chain hr hr' ha hb hc hn).imp fun σ H Q _ h => chain_of hh hh' h
theorem t_ch {o o' : COp} (hu : X.A.units + 64 < cLine) (hn : lastMarks [o.py, o'.py] [e2, e3] = false) (ha : PE X e (tE X.K Y a)) (hb : PE X e2 (tE X.K Y b)) (hc : PE X e3 (tE X.K Y c)) : PT X (.Compare e [o.py, o'.py] [e2, e3] pos) (tTst X.K Y (.ch o o' a b c)) := by
  obtain ⟨r0, hr, hh⟩ := cmpD_ok (X := X) hu o
  obtain ⟨r1, hr', hh'⟩ := cmpD_ok (X := X) hu o'
  exact (pt_chain hr hr' ha hb hc hn).imp fun σ H Q _ h => chain_of hh hh' (tst_of h)
theorem r_and {rest : List Expr} (ha : PE X e (tE X.K Y a)) (hb : PE X (.BoolOp .And (e2 :: rest) pos) (tE X.K Y b)) : PE X (.BoolOp .And (e :: e2 :: rest) pos) (tE X.K Y (.and a b)) := (pe_and ha hb).imp fun σ H Q _ ⟨r, m, Qd, he, q, f⟩ => by
  simp only [ev] at q
  refine ⟨r, m, _, he, q, fun d m1 v H1 q1 rv hm s => ?_⟩
  obtain ⟨k, rfl, q1⟩ := onB_out q1
  refine ⟨k, rv.bl, ?_⟩
  cases k with
  | true => exact ⟨r, m1, Qd, he.step s hm, q1, f.mono s⟩
  | false => exact (f.mono s).here hm rep_bl q1
theorem r_or {rest : List Expr} (ha : PE X e (tE X.K Y a)) (hb : PE X (.BoolOp .Or (e2 :: rest) pos) (tE X.K Y b)) : PE X (.BoolOp .Or (e :: e2 :: rest) pos) (tE X.K Y (.or a b)) := (pe_or ha hb).imp fun σ H Q _ ⟨r, m, Qd, he, q, f⟩ => by
  simp only [ev] at q
  refine ⟨r, m, _, he, q, fun d m1 v H1 q1 rv hm s => ?_⟩
  obtain ⟨k, rfl, q1⟩ := onB_out q1
  refine ⟨k, rv.bl, ?_⟩
  cases k with
  | false => exact ⟨r, m1, Qd, he.step s hm, q1, f.mono s⟩
  | true => exact (f.mono s).here hm rep_bl q1
theorem r_not (ha : PE X e (tE X.K Y a)) : PE X (.UnaryOp .Not e pos) (tE X.K Y (.not a)) := (pe_not ha).imp fun σ H Q _ ⟨r, m, Qd, he, q, f⟩ => by
  simp only [ev] at q
  refine ⟨r, m, _, he, q, fun d m1 v H1 q1 rv hm s => ?_⟩
  obtain ⟨k, rfl, q1⟩ := onB_out q1
  exact ⟨_, rv.bl, (f.mono s).here hm rep_bl q1⟩
/-! as tests -/
theorem evB_split {r : Rho} {m : Mem} {Qd : Bool → Mem → Prop} {P : Bool → Mem → Prop} (h : ev Y a r m fun x m1 => onB x fun k => P k m1) : evB Y a r m P := h
theorem w_and {rest : List Expr} (ha : PT X e (tTst X.K Y a)) (hb : PW X (.BoolOp .And (e2 :: rest) pos) (tTst X.K Y b)) : PW X (.BoolOp .And (e :: e2 :: rest) pos) (tTst X.K Y (.and a b)) := ⟨fun wh pins s σ H Q I ⟨r, m, Qd, he, q, f⟩ =>
  (pw_and ha hb).run wh pins s σ H Q I (by
    unfold evB at q
    simp only [ev] at q
    refine ⟨r, m, fun k m1 => if k = true then evB Y b r m1 Qd else Qd false m1, he, q, fun k m1 H1 q1 hm s => ?_⟩
    · show if k = true then tTst X.K Y b σ H1 Q else Q false H1
      cases k with
      | true => exact ⟨r, m1, Qd, he.step s hm, q1, f.mono s⟩
      | false => exact f false m1 H1 q1 hm s)⟩
theorem w_or {rest : List Expr} (ha : PT X e (tTst X.K Y a)) (hb : PW X (.BoolOp .Or (e2 :: rest) pos) (tTst X.K Y b)) : PW X (.BoolOp .Or (e :: e2 :: rest) pos) (tTst X.K Y (.or a b)) := ⟨fun wh pins s σ H Q I ⟨r, m, Qd, he, q, f⟩ =>
  (pw_or ha hb).run wh pins s σ H Q I (by
    unfold evB at q
    simp only [ev] at q
    refine ⟨r, m, fun k m1 => if k = true then Qd true m1 else evB Y b r m1 Qd, he, q, fun k m1 H1 q1 hm s => ?_⟩
    · show if k = true then Q true H1 else tTst X.K Y b σ H1 Q
      cases k with
      | false => exact ⟨r, m1, Qd, he.step s hm, q1, f.mono s⟩
      | true => exact f true m1 H1 q1 hm s)⟩
theorem w_and1 (ha : PT X e (tTst X.K Y a)) : PW X (.BoolOp .And [e] pos) (tTst X.K Y a) := pw_and1 ha
theorem w_or1 (ha : PT X e (tTst X.K Y a)) : PW X (.BoolOp .Or [e] pos) (tTst X.K Y a) := pw_or1 ha
theorem t_not (ha : PT X e (tTst X.K Y a)) : PT X (.UnaryOp .Not e pos) (tTst X.K Y (.not a)) := (pt_not ha).imp fun σ H Q _ ⟨r, m, Qd, he, q, f⟩ => by
  unfold evB at q
  simp only [ev] at q
  refine ⟨r, m, fun k m1 => Qd (!k) m1, he, ?_, fun k m1 H1 q1 hm s => f _ m1 H1 q1 hm s⟩
  exact q
/-- any other expression as a test -/
theorem t_val (ha : PE X e (tE X.K Y a)) (hp : ∀ whole, isTrue e X.env whole = (do let v ← whole; standAt e.pos; holding [v] (truthy v))) : PT X e (tTst X.K Y a) := (pt_val ha hp).imp fun σ H Q _ h => tst_of h
theorem r_ife (hc : PT X e (tTst X.K Y c)) (ha : PE X e2 (tE X.K Y a)) (hb : PE X e3 (tE X.K Y b)) : PE X (.IfExp e e2 e3 pos) (tE X.K Y (.ife c a b)) := (pe_ifExp hc ha hb).imp fun σ H Q _ ⟨r, m, Qd, he, q, f⟩ => by
  simp only [ev] at q
  refine ⟨r, m, fun k m1 => if k = true then ev Y a r m1 Qd else ev Y b r m1 Qd, he, q, fun k m1 H1 q1 hm s => ?_⟩
  · show if k = true then tE X.K Y a σ H1 Q else tE X.K Y b σ H1 Q
    cases k with
    | true => exact ⟨r, m1, Qd, he.step s hm, q1, f.mono s⟩
    | false => exact ⟨r, m1, Qd, he.step s hm, q1, f.mono s⟩

/-! ### argument lists, displays -/
def notStar : Expr → Bool
  | .Starred _ _ => false
  | _ => true
theorem star_no {es : List Expr} {env : PySem.Env} (h : notStar e = true) : starEach (e :: es) env = (false, eval e env) :: starEach es env := by
  cases e <;> first
    | rfl
    | cases h
theorem a_nil : PA X [] (tAs X.K Y []) := pa_nil.imp fun σ H Q _ ⟨r, m, Qd, he, q, f⟩ => f [] m [] H (by simpa only [evs] using q) (by simp [Reps]) he.mem Step.refl
theorem evs_cons {c : E} {cs : List E} (hc : ∀ a, c ≠ .star a) {r : Rho} {m : Mem} {Q : List D → Mem → Prop} (h : evs Y (c :: cs) r m Q) : ev Y c r m fun x m1 => evs Y cs r m1 fun ds m2 => Q (x :: ds) m2 := by
  cases c <;> first
    | exact absurd rfl (hc _)
    | simpa only [evs] using h
theorem a_cons {es : List Expr} {c : E} {cs : List E} (hc : ∀ a, c ≠ .star a) (hn : notStar e = true) (ha : PE X e (tE X.K Y c)) (hr : PA X es (tAs X.K Y cs)) : PA X (e :: es) (tAs X.K Y (c :: cs)) := (pa_cons ha hr (star_no hn)).imp fun σ H Q _ ⟨r, m, Qd, he, q, f⟩ =>
  ⟨r, m, _, he, evs_cons hc q, fun d m1 v H1 q1 rv hm s => ⟨r, m1, _, he.step s hm, q1, fun ds m2 vs H2 q2 rs hm2 s2 => f (d :: ds) m2 (v :: vs) H2 q2 (by simp only [Reps]; exact ⟨v, vs, rfl, Rep.step s2 _ _ rv, rs⟩) hm2 (s.trans s2)⟩⟩
theorem a_star {es : List Expr} {c : E} {cs : List E} {p : Pos} (ha : PE X e (tE X.K Y c)) (hr : PA X es (tAs X.K Y cs)) : PA X (.Starred e p :: es) (tAs X.K Y (.star c :: cs)) := (StX.pa_star ha hr rfl).imp fun σ H Q _ ⟨r, m, Qd, he, q, f⟩ => by
  simp only [evs] at q
  refine ⟨r, m, _, he, q, fun d m1 v H1 ⟨ds, hs, q1⟩ rv hm s => ?_⟩
  obtain ⟨x, xs, ex, rs, hq⟩ := seq_val hm rv hs
  refine ⟨x, xs, ex, hq.symm, r, m1, _, he.step s hm, q1, fun es' m2 vs H2 q2 rs2 hm2 s2 => ?_⟩
  exact f (ds ++ es') m2 (xs ++ vs) H2 q2 ((Reps.step s2 _ _ rs).append rs2) hm2 (s.trans s2)
theorem r_tup {es : List Expr} {cs : List E} {k : Nat} (h : PA X es (tAs X.K Y cs)) : PE X (.Tuple es k pos) (tE X.K Y (.tup cs)) := (pe_tup h).imp fun σ H Q _ ⟨r, m, Qd, he, q, f⟩ => by
  simp only [ev] at q
  refine ⟨r, m, _, he, q, fun ds m1 vs H1 ⟨hl, q1⟩ rs hm s => ⟨by rw [rs.length]; exact line6 hl, (f.mono s).tup hm rs q1⟩⟩
theorem r_lst {mu : Bool} {es : List Expr} {cs : List E} (h : PA X es (tAs X.K Y cs)) : PE X (.List es pos) (tE X.K Y (.lst mu cs)) := (pe_lst h).imp fun σ H Q _ ⟨r, m, Qd, he, q, f⟩ => by
  simp only [ev] at q
  refine ⟨r, m, _, he, q, fun ds m1 vs H1 ⟨hl, q1⟩ rs hm s => ⟨by rw [rs.length]; exact line6 hl, (f.mono s).lst hm rs q1⟩⟩
def notSlice : Expr → Bool
  | .Slice _ _ _ _ => false
  | _ => true
theorem plainIx (h : notSlice e = true) : PlainIx e := by
  intro o i
  cases e <;> first
    | rfl
    | cases h
theorem r_ix (hn : notSlice e2 = true) (ha : PE X e (tE X.K Y a)) (hb : PE X e2 (tE X.K Y b)) : PE X (.Subscript e e2 pos) (tE X.K Y (.ix a b)) := by
  obtain ⟨r0, hr, hh⟩ := ix_ok (X := X)
  refine (pe_ix hr ha hb (plainIx hn)).imp fun σ H Q _ ⟨r, m, Qd, he, q, f⟩ => ?_
  simp only [ev] at q
  exact two he q fun x y d e m2 H2 rx ry hm s q2 => hh x y d e m2 H2 Qd Q hm rx ry q2 (f.mono s)
theorem o_none : PO X none (tOs X.K Y none) := po_none.imp fun σ H Q _ ⟨r, m, Qd, he, q, f⟩ => f none m H (by simpa only [evO] using q) he.mem Step.refl
theorem o_some (ha : PE X e (tE X.K Y a)) : PO X (some e) (tOs X.K Y (some a)) := (po_some ha).imp fun σ H Q _ ⟨r, m, Qd, he, q, f⟩ => by
  simp only [evO] at q
  refine ⟨r, m, _, he, q, fun d m1 v H1 q1 rv hm s => ?_⟩
  obtain ⟨i, rfl, q1⟩ := onI_out q1
  exact ⟨i, rv.int, f _ m1 H1 q1 hm s⟩
theorem r_sl {mu : Bool} {lo hi : Option Expr} {l h : Option E} {p2 : Pos} (ha : PE X e (tE X.K Y a)) (hl : PO X lo (tOs X.K Y l)) (hh : PO X hi (tOs X.K Y h)) : PE X (.Subscript e (.Slice lo hi none p2) pos) (tE X.K Y (.sl mu a l h)) := by
  obtain ⟨r0, hr, hs⟩ := sl_ok (X := X) (mu := mu)
  refine (pe_slice hr ha hl hh).imp fun σ H Q _ ⟨r, m, Qd, he, q, f⟩ => ?_
  simp only [ev] at q
  exact ⟨r, m, _, he, q, fun d m1 v H1 q1 rv hm s1 => ⟨r, m1, _, he.step s1 hm, q1, fun i m2 H2 q2 hm2 s2 => ⟨r, m2, _, he.step (s1.trans s2) hm2, q2, fun j m3 H3 q3 hm3 s3 =>
    hs v d i j m3 H3 Qd Q hm3 (Rep.step (s2.trans s3) _ _ rv) q3 (f.mono ((s1.trans s2).trans s3))⟩⟩⟩
theorem r_frz (ha : PE X e (tE X.K Y a)) : PE X e (tE X.K Y (.frz a)) := ha.imp fun σ H Q _ ⟨r, m, Qd, he, q, f⟩ => by
  simp only [ev] at q
  refine ⟨r, m, _, he, q, fun d m1 v H1 ⟨p, ds, ed, hp, q1⟩ rv hm s => ?_⟩
  subst ed
  obtain ⟨vs, hH, rs⟩ := hm p _ hp
  have sb : SubO (del m1 p) m1 := ⟨Sub.del, fun x C dx fs ex => by
    have ex1 := Sub.del x _ ex
    have q := (hm.dxAt ex1).1
    have ne : dx ≠ p := fun z => by rw [z, hp] at q; cases q
    unfold del; rw [if_neg ne]⟩
  have hm' := hm.sub sb
  refine f _ _ v H1 q1 ?_ hm' (s.trans sb.sub.step)
  simp only [Rep]
  exact ⟨p, vs, rv.ref, .inl ⟨by unfold del; rw [if_pos rfl], .inl hH⟩, Reps.step sb.sub.step _ _ rs⟩
end
end Og
end
section
set_option maxHeartbeats 4000000
set_option autoImplicit false
/-! Og: a def's promise wherever no repr is under way. -/
namespace Og
open PySem PySem.Spec PyProof.Rows L2

abbrev allE : XK := fun _ _ _ => True
/-- a def's promise: ends by a value, where no repr is under way -/
structure FnG (P : Program) (w : World) (K : PySem.W.Frag) (mg : Str → Option Value) (base : Heap) (k : Nat) (f : Addr) (fd : FuncData) (ps : List Str) (sp : Sp) : Prop where
  len : ∀ vs H Q, sp vs H Q allE → vs.length = ps.length
  run : ∀ (B : Around) (fr : List Env) (t : Shared) (H : Hp) (ar : Args) (us : List Value) (vs : List V) (Q : VK), B.guards = some [] → Room k B → Env0 P w K mg base B fr t H → BindsTo t fd ar (ps.zip us) → Vals vs us → sp vs H Q allE →
    codeAny (model P w) B (.call (.ref f) ar) (fun r t' => ∃ u, r = .ok (.ret u) ∧ CE fr P w H t Q u t') t
theorem FnG.mono {P : Program} {w : World} {K : PySem.W.Frag} {mg : Str → Option Value} {base : Heap} {j k : Nat} {f : Addr} {fd : FuncData} {ps : List Str} {sp : Sp} (F : FnG P w K mg base j f fd ps sp) (h : j ≤ k) : FnG P w K mg base k f fd ps sp :=
  ⟨F.len, fun B fr t H ar us vs Q g r => F.run B fr t H ar us vs Q g (r.mono h)⟩
section
variable {X : Cx} {k : Nat} {f C : Addr} {fd : FuncData} {ps : List Str} {sp : Sp} {pins : List (Addr × Obj)} {σ : L2.St} {H : Hp} {s : Shared} {Q : VK}
/-- its call, where it is bound -/
theorem FnG.at_ (F : FnG X.prog X.w X.K X.mg X.base k f fd ps sp) (g : X.A.guards = some []) (hr : Room k X.A) (I : Inv X pins σ H s) {ar : Args} {us : List Value} {vs : List V} (hb : BindsTo s fd ar (ps.zip us)) (r : Vals vs us) (h : sp vs H Q allE) :
    wpAny (model X.prog X.w) X.A (PySem.call (.ref f) ar.pos ar.kw) (EP X pins σ Q) X.xe s := by
  obtain ⟨pos, kw⟩ := ar
  refine wpAny_call (codeAny_mono (F.run _ _ s H _ us vs Q g hr I.env0 hb r h) ?_)
  rintro _ t' ⟨u, rfl, z⟩
  exact I.after z
theorem FnG.call (F : FnG X.prog X.w X.K X.mg X.base k f fd ps sp) (g : X.A.guards = some []) (hr : Room k X.A) (hb : Binds X.K fd ps []) (I : Inv X pins σ H s) {us : List Value} {vs : List V} (r : Vals vs us) (h : sp vs H Q allE) :
    wpAny (model X.prog X.w) X.A (PySem.call (.ref f) us) (EP X pins σ Q) X.xe s := by
  have b := hb s us I.kIn (by rw [List.append_nil, ← r.length]; exact F.len _ _ _ h)
  rw [List.append_nil] at b
  exact F.at_ g hr I b r h
theorem FnG.callK (F : FnG X.prog X.w X.K X.mg X.base k f fd ps sp) (g : X.A.guards = some []) (hr : Room k X.A) {ks : List Str} {G : List Value → List Value → List Value} {GV : List V → List V → List V} (hb : KBinds X.K fd ps ks G GV) (I : Inv X pins σ H s)
    {ws : List Value} {zs : List V} (r : Vals zs ws) (h : sp (GV [] zs) H Q allE) : wpAny (model X.prog X.w) X.A (PySem.call (.ref f) [] (ks.zip ws)) (EP X pins σ Q) X.xe s := by
  have r2 := hb.rel (vs := []) (us := []) .nil r
  exact F.at_ g hr I (hb.to s [] ws I.kIn (by rw [← r2.length]; exact F.len _ _ _ h)) r2 h
theorem guards_make {A : Around} {us : List Value} {kw : List (Str × Value)} (g : A.guards = some []) : (A.under (.builtin "type.__call__" ⟨us, kw⟩)).guards = some [] := by
  have n : ¬("type.__call__" ∈ guardIds) := by decide
  simp [Around.under, pushGuards, Code.guards, Code.isGuard, g, n]
/-- a new object, then its __init__ -/
theorem FnG.make (M : Mk X.K C f) (F : FnG X.prog X.w X.K X.mg X.base k f fd ps sp) (g : X.A.guards = some []) (hr : Room (k + 1) X.A) (hb : Binds X.K fd ps []) (I : Inv X pins σ H s) {us : List Value} {vs : List V} (r : Vals vs us)
    (h : ∀ x dx, H x = none → H dx = none → dx ≠ x → sp (.ref x :: vs) (upd (upd H dx (.own x)) x (.ins C dx [])) (fun v H2 => v = .non ∧ Q (.ref x) H2) allE) : wpAny (model X.prog X.w) X.A (PySem.call (.ref C) us) (EP X pins σ Q) X.xe s := by
  have q := h (s.heap.objs.size + 1) s.heap.objs.size (I.hok.fresh (Nat.le_succ _)) (I.hok.fresh (Nat.le_refl _)) (Nat.ne_of_lt (Nat.lt_succ_self _))
  have J := Inv.made (C := C) I
  have r2 : Vals (V.ref (s.heap.objs.size + 1) :: vs) (Value.ref (s.heap.objs.size + 1) :: us) := .cons rfl r
  have b := hb _ (Value.ref (s.heap.objs.size + 1) :: us) J.kIn (by rw [List.append_nil, ← r2.length]; exact F.len _ _ _ q)
  rw [List.append_nil] at b
  refine wpAny_call (make_map (f := f) I.kIn M.makes M.init (beq_iff_eq.mp M.fn) (codeAny_mono (F.run _ X.stack _ _ ⟨_, []⟩ _ _ _ (guards_make g) (hr.make C us []) (J.env0.make C us []) b r2 q) ?_))
  rintro _ t' ⟨u, rfl, z⟩
  obtain ⟨v, H', J2, rv, ev, z2⟩ := J.after z
  subst ev
  exact ⟨rv, V.ref (s.heap.objs.size + 1), H', J2, rfl, z2⟩
end
/-- THE RULE: a def whose body keeps it -/
theorem FnG.of {P : Program} {w : World} {K : PySem.W.Frag} {mg : Str → Option Value} {base : Heap} {x qual : Str} {params : Arguments} {bd : List Stmt} {sc : Scope} {dvs : List V} {kws : List (Str × V)} {f : Addr} {fd : FuncData} {N ps : List Str} {k : Nat} {sp : Sp}
    (F : FunD K x qual params bd sc dvs kws f fd) (S : FnScope N ps sc) (len : ∀ vs H Q, sp vs H Q allE → vs.length = ps.length)
    (hb : ∀ (cdv : Value) (B : Around) (fr : List Env) (t : Shared) (H : Hp) (vs : List V) (Q : VK), B.guards = some [] → Room k (B.deeper (envOfC qual sc t.heap.objs.size f cdv)) → sp vs H Q allE →
      ∃ T, PSs (cxOf CX0 P w K mg base N qual sc f cdv B fr t H allE) bd T ∧ T { nx := fun _ H' => Q .non H', rt := Q } (L2.start N vs) H) : FnG P w K mg base (k + 1) f fd ps sp := by
  obtain ⟨_, _, _, _, _, _, _, cdv, _, _, rfl, lk, hcd, _, _⟩ := F.ex
  refine ⟨len, fun B fr t H ar us vs Q g hr e0 bi r h => ?_⟩
  have KX : K.In t.heap := e0.mod.kin.keeps fun b o e => (e0.bs b o e).1
  have hps : ∀ y ∈ ps.zip us, sc.names.lookup y.1 = some .local ∨ (sc.names.lookup y.1 = some .cell ∧ ((cellsFrom (t.heap.objs.size + 1) sc.names []).lookup y.1).isSome = true) := by
    rintro ⟨n, v⟩ hy
    exact (S.par n (List.of_mem_zip hy).1).imp id fun z => ⟨z, PySem.W.cellsFrom_some _ _ _ (.inl z)⟩
  refine codeAny_call_function hr.depth (KX _ _ lk) rfl S.co S.gen rfl (PySem.W.codeRec_of KX hcd) (bi _ _ _ _ (wpAny_newFunctionEnv_cells S.kind hps fun env ee s1 ic => ?_))
  subst ee
  refine ⟨(e0.mod.nolimit.keeps fun b o e => (e0.bs b o e).1).keeps ic.toInCall.keep, codeAny_func ?_⟩
  obtain ⟨T, hT, hq⟩ := hb cdv B fr t H vs Q g (hr.deeper _) h
  have J : Inv (cxOf CX0 P w K mg base N qual sc f cdv B fr t H allE) [] (L2.start N vs) H s1 := inv_start S hr.hd e0 (len _ _ _ h) r ic
  have fin : ∀ {σ' : L2.St} {H' : Hp} {v : V} {u : Value} {t' : Shared}, Inv (cxOf CX0 P w K mg base N qual sc f cdv B fr t H allE) [] σ' H' t' → RelV v u → Q v H' → CE fr P w H t Q u t' := fun {σ' H' v u t'} J rv q => ⟨v, H', J.os, J.bare, J.base, J.hok, rv, q⟩
  refine wpAny_mono (hT.run [] s1 (L2.start N vs) H _ J hq) (fun fl t' hs => ?_) fun e t' hs => wpAny_mono hs (fun _ _ z => (z : False).elim) fun _ _ z => (z : False).elim
  match fl, hs with
  | .ret u, ⟨v, σ', H', J', rv, q⟩ => exact ⟨_, rfl, fin J' rv q⟩
  | .next, ⟨σ', H', J', q⟩ => exact ⟨_, rfl, fin (v := V.non) (u := Value.none) J' rfl q⟩
  | .brk, ⟨_, _, _, q⟩ => exact (q : False).elim
  | .cont, ⟨_, _, _, q⟩ => exact (q : False).elim
end Og
end
section
set_option maxHeartbeats 4000000
set_option autoImplicit false
/-! Og: calls, built-ins, objects by data. -/
namespace Og
open PySem PySem.Spec PyProof.Rows L2

/-- a def's promise, as the hand layer has it -/
def spK (K : PySem.W.Frag) (n : Nat) (sp : Spec) : Sp := fun vs H Q _ => vs.length = n ∧ ∃ ds m Qd, Reps K m H vs ds ∧ MemOk K m H ∧ sp ds m Qd ∧ Fin K m H Qd Q

/-! ### lists of arguments -/
theorem star_any {env : PySem.Env} : ∀ {es : List Expr}, es.all notStar = true → (starEach es env).any (·.1) = false
  | [], _ => rfl
  | e :: es, h => by
    have h' : notStar e = true ∧ es.all notStar = true := by simpa using h
    rw [star_no h'.1]
    simp only [List.any_cons, star_any h'.2]; rfl
theorem back_any {pos : Pos} {l : List (Bool × Sem Value)} : (backTo pos l).any (·.1) = l.any (·.1) := by
  unfold backTo
  rw [List.any_map]
  rfl
theorem plainArgs {env : PySem.Env} {pos : Pos} {es : List Expr} (h : es.all notStar = true) : (backTo pos (starEach es env)).any (·.1) = false := by
  rw [back_any]; exact star_any h
section
variable {X : Cx} {Y : Ctx} {pins : List (Addr × Obj)} {σ : L2.St} {H : Hp} {s : Shared} {pos : Pos} {es : List Expr} {cs : List E} {f : Value} {first : List Value} {Q : Value → Shared → Prop}
/-- the call's node, any number of arguments -/
theorem node_K (I : Inv X pins σ H s) (hk : PySem.W.keepIn X.K f = true) (ha : PA X es (tAs X.K Y cs)) (h0 : es = [] → cs = []) (hp : es.all notStar = true) {R : List V → Hp → Prop} (h : tAs X.K Y cs σ H R)
    (hr : ∀ us s1 vs H1, Inv X pins σ H1 s1 → Vals vs us → R vs H1 → wpAny (model X.prog X.w) X.A (call f (first ++ us)) Q X.xe s1) :
    wpAny (model X.prog X.w) X.A (callWith pos f first (backTo pos (starEach es X.env)) (backToKw pos (keywordEach [] X.env))) Q X.xe s := by
  cases es with
  | nil =>
    have e := h0 rfl
    subst e
    obtain ⟨r, m, Qd, he, q, g⟩ := h
    exact PySem.W.callWith_K0 I.kIn hk (hr [] s [] H I .nil (g [] m [] H (by simpa only [evs] using q) (by simp [Reps]) he.mem Step.refl))
  | cons e rest =>
    have hs : notStar e = true ∧ rest.all notStar = true := by simpa using hp
    exact PySem.W.callWith_K (h₀ := X.base) I.ok.mod.kin hk (thn (ha.run pos pins s σ H R I h) fun us s1 ⟨vs, H1, I1, r, q⟩ => ⟨I1.kIn, hr us s1 vs H1 I1 r q⟩) (star_no hs.1) (plainArgs hs.2)
end
section
variable {X : Cx} {Y : Ctx} {e e2 : Expr} {a b c : E} {p pos apos : Pos} {es : List Expr} {cs : List E} {x : Str}
/-- f(e, ..) -/
theorem r_call {k j : Nat} {f : Addr} {fd : FuncData} {ps : List Str} {n : Nat} (F : FnG X.prog X.w X.K X.mg X.base k f fd ps (spK X.K n (Y.fn j))) (hG : X.A.guards = some []) (hb : Binds X.K fd ps []) (hr : Room k X.A) (hk : PySem.W.keepIn X.K (.ref f) = true) (hn : cs.length = n)
    (hg : Gl X x) (hm : X.mg x = some (.ref f)) (hd : (x == ("__debug__" : Str)) = false) (ha : PA X es (tAs X.K Y cs)) (h0 : es = [] → cs = []) (hp : es.all notStar = true) : PE X (.Call (.Name x p) es [] pos) (tE X.K Y (.call j cs)) := by
  refine ⟨fun pins s σ H Q I ⟨r, m, Qd, he, q, fin⟩ => ?_⟩
  simp only [ev] at q
  refine wpAny_Call_Name_kw (ld_glob I hg hm ?_ hd)
  refine node_K I hk ha h0 hp (R := fun vs H1 => spK X.K n (Y.fn j) vs H1 Q fun _ _ _ => True) ⟨r, m, _, he, q, fun ds m1 vs H1 ⟨hl, q1⟩ rs hm1 s1 => ⟨by rw [rs.length, hl, hn], ds, m1, Qd, rs, hm1, q1, fin.mono s1⟩⟩ fun us s1 vs H1 I1 rv q1 => ?_
  exact F.call hG hr hb I1 rv q1
/-- .. by keywords alone -/
theorem pk_nil' : PK X [] (tAs X.K Y []) := ⟨fun pos pins s σ H Q I ⟨r, m, Qd, he, q, f⟩ => pk_nil.run pos pins s σ H Q I (f [] m [] H (by simpa only [evs] using q) (by simp [Reps]) he.mem Step.refl)⟩
theorem pk_cons' {nm : Option Str} {kpos : Pos} {kws : List Keyword} (hc : ∀ a, c ≠ .star a) (ha : PE X e (tE X.K Y c)) (hr : PK X kws (tAs X.K Y cs)) : PK X (⟨nm, e, kpos⟩ :: kws) (tAs X.K Y (c :: cs)) := ⟨fun pos pins s σ H Q I ⟨r, m, Qd, he, q, f⟩ => (pk_cons ha hr).run pos pins s σ H Q I
  ⟨r, m, _, he, evs_cons hc q, fun d m1 v H1 q1 rv hm s => ⟨r, m1, _, he.step s hm, q1, fun ds m2 vs H2 q2 rs hm2 s2 => f (d :: ds) m2 (v :: vs) H2 q2 (by simp only [Reps]; exact ⟨v, vs, rfl, Rep.step s2 _ _ rv, rs⟩) hm2 (s.trans s2)⟩⟩⟩
def kwNames : List Keyword → List Str
  | [] => []
  | ⟨some x, _, _⟩ :: r => x :: kwNames r
  | ⟨none, _, _⟩ :: r => kwNames r
def kwAll : List Keyword → Bool
  | [] => true
  | ⟨some _, _, _⟩ :: r => kwAll r
  | ⟨none, _, _⟩ :: _ => false
theorem kw_look {env : PySem.Env} {pos : Pos} : ∀ {kws : List Keyword}, kwAll kws = true → (backToKw pos (keywordEach kws env)).all (·.1.isSome) = true ∧ (backToKw pos (keywordEach kws env)).filterMap (·.1) = kwNames kws ∧ (backToKw pos (keywordEach kws env)).any (·.1.isNone) = false
  | [], _ => ⟨rfl, rfl, rfl⟩
  | ⟨some x, v, q⟩ :: r, h => by
    obtain ⟨h1, h2, h3⟩ := kw_look (env := env) (pos := pos) (kws := r) h
    unfold keywordEach backToKw
    unfold backToKw at h1 h2 h3
    simp only [List.map_cons, List.all_cons, List.filterMap_cons, List.any_cons, kwNames]
    exact ⟨by simpa using h1, by rw [h2], by simpa using h3⟩
  | ⟨none, _, _⟩ :: _, h => by cases h
theorem getD_rep {K : PySem.W.Frag} {m : Mem} {H : Hp} {ds : List D} {vs : List V} (r : Reps K m H vs ds) (i : Nat) : Rep K m H (vs.getD i .non) (ds.getD i .non) := by
  rw [List.getD_eq_getElem?_getD, List.getD_eq_getElem?_getD]
  cases e : ds[i]? with
  | none =>
    have h1 : vs[i]? = none := by
      rw [List.getElem?_eq_none_iff] at e ⊢
      rw [r.length]; exact e
    rw [h1]; exact rep_non
  | some d =>
    obtain ⟨v, h1, h2⟩ := r.get e
    rw [h1]; exact h2
theorem perm_rep {K : PySem.W.Frag} {m : Mem} {H : Hp} {ds : List D} {vs : List V} (r : Reps K m H vs ds) : ∀ pm : List Nat, Reps K m H (pm.map fun i => vs.getD i .non) (pm.map fun i => ds.getD i .non)
  | [] => by simp [Reps]
  | i :: pm => by
    simp only [List.map_cons, Reps]
    exact ⟨_, _, rfl, getD_rep r i, perm_rep r pm⟩
/-- the keywords' values in the parameters' order -/
def kwG {α : Type} (n : α) (pm : List Nat) (us ws : List α) : List α := if ws.length = pm.length then us ++ pm.map fun i => ws.getD i n else []
theorem r_callk {k j : Nat} {f : Addr} {fd : FuncData} {ps ks : List Str} {pm : List Nat} {n : Nat} {kws : List Keyword} (F : FnG X.prog X.w X.K X.mg X.base k f fd ps (spK X.K n (Y.fn j))) (hG : X.A.guards = some [])
    (hb : KBinds X.K fd ps ks (kwG .none pm) (kwG .non pm)) (hcp : cs.length = pm.length) (hr : Room k X.A) (hk : PySem.W.keepIn X.K (.ref f) = true) (hn : pm.length = n)
    (hg : Gl X x) (hm : X.mg x = some (.ref f)) (hd : (x == ("__debug__" : Str)) = false) (hks : kwNames kws = ks) (hall : kwAll kws = true) (ha : PK X kws (tAs X.K Y cs)) : PE X (.Call (.Name x p) [] kws pos) (tE X.K Y (.callk j pm cs)) := by
  refine ⟨fun pins s σ H Q I ⟨r, m, Qd, he, q, fin⟩ => ?_⟩
  simp only [ev] at q
  obtain ⟨k1, k2, k3⟩ := kw_look (env := X.env) (pos := pos) hall
  refine wpAny_Call_Name_kw (ld_glob I hg hm ?_ hd)
  refine PySem.W.callWith_KW0 (h₀ := X.base) I.ok.mod.kin hk k1 (thn (ha.run pos pins s σ H (fun vs H1 => vs.length = pm.length ∧ spK X.K n (Y.fn j) (pm.map fun i => vs.getD i .non) H1 Q fun _ _ _ => True) I ⟨r, m, _, he, q, fun ds m1 vs H1 ⟨hl, q1⟩ rs hm1 s1 =>
    ⟨by rw [rs.length, hl, hcp], by rw [List.length_map, hn], _, m1, Qd, perm_rep rs pm, hm1, q1, fin.mono s1⟩⟩) fun ws s2 ⟨zs, H2, I2, rz, hzl, q2⟩ => ⟨I2.kIn, ?_⟩) (by rw [k3]; rfl)
  rw [k2, hks]
  exact F.callK hG hr hb I2 rz (by unfold kwG; rw [if_pos hzl, List.nil_append]; exact q2)

/-! ### built-ins -/
theorem boot1 : ∀ f : B1, bootBuiltins f.py.1 = some f.py.2
  | .len => by decide +kernel | .abs => by decide +kernel | .int => by decide +kernel | .sum => by decide +kernel | .tuple => by decide +kernel | .all => by decide +kernel | .any => by decide +kernel | .repr => by decide +kernel | .list _ => by show bootBuiltins "list" = some (.type "list"); decide +kernel
theorem boot2 : ∀ f : B2, bootBuiltins f.py.1 = some f.py.2
  | .min => by decide +kernel | .max => by decide +kernel
theorem py1_ne : ∀ f : B1, f.py.1 ≠ "__name__" ∧ (f.py.1 == ("__debug__" : Str)) = false
  | .len => by decide +kernel | .abs => by decide +kernel | .int => by decide +kernel | .sum => by decide +kernel | .tuple => by decide +kernel | .all => by decide +kernel | .any => by decide +kernel | .repr => by decide +kernel | .list _ => by show ("list" : Str) ≠ "__name__" ∧ (("list" : Str) == ("__debug__" : Str)) = false; decide +kernel
theorem py2_ne : ∀ f : B2, f.py.1 ≠ "__name__" ∧ (f.py.1 == ("__debug__" : Str)) = false
  | .min => by decide +kernel | .max => by decide +kernel
theorem r_b1 {f : B1} (hc : X.calm = true) (hG : X.A.guards = some []) (hu : X.A.units + 64 < cLine) (hs : notStar e = true) (hg : Gl X f.py.1) (hm : X.mg f.py.1 = none) (ha : PE X e (tE X.K Y a)) : PE X (.Call (.Name f.py.1 p) [e] [] pos) (tE X.K Y (.b1 f a)) := by
  obtain ⟨r0, hr, hh⟩ := b1D_ok (X := X) hc hG hu f
  have key : PE X (.Call (.Name f.py.1 p) [e] [] pos) (tCB r0 (tCons (tE X.K Y a) tNil)) := by
    have hv := boot1 f
    obtain ⟨n1, n2⟩ := py1_ne f
    have hp : PA X [e] (tCons (tE X.K Y a) tNil) := pa_cons ha pa_nil (star_no hs)
    cases f <;> first
      | exact pe_callB hr hg hm hv hp n1 n2 (star_no hs) rfl
      | exact pe_callTy hr hg hm hv hp n1 n2 (star_no hs) rfl
  refine key.imp fun σ H Q _ ⟨r, m, Qd, he, q, f⟩ => ?_
  simp only [ev] at q
  exact ⟨r, m, _, he, q, fun d m1 v H1 q1 rv hm s => hh v d m1 H1 Qd Q hm rv q1 (f.mono s)⟩
theorem r_b2 {f : B2} (hc : X.calm = true) (hs : notStar e = true) (hs2 : notStar e2 = true) (hg : Gl X f.py.1) (hm : X.mg f.py.1 = none) (ha : PE X e (tE X.K Y a)) (hb : PE X e2 (tE X.K Y b)) : PE X (.Call (.Name f.py.1 p) [e, e2] [] pos) (tE X.K Y (.b2 f a b)) := by
  obtain ⟨r0, hr, hh⟩ := b2D_ok (X := X) hc f
  have key : PE X (.Call (.Name f.py.1 p) [e, e2] [] pos) (tCB r0 (tCons (tE X.K Y a) (tCons (tE X.K Y b) tNil))) := by
    have hv := boot2 f
    obtain ⟨n1, n2⟩ := py2_ne f
    have hp : PA X [e, e2] (tCons (tE X.K Y a) (tCons (tE X.K Y b) tNil)) := pa_cons ha (pa_cons hb pa_nil (star_no hs2)) (star_no hs)
    cases f <;> exact pe_callB hr hg hm hv hp n1 n2 (star_no hs) (plainArgs (by simpa using hs2))
  refine key.imp fun σ H Q _ ⟨r, m, Qd, he, q, f⟩ => ?_
  simp only [ev] at q
  exact two he q fun x y d e m2 H2 rx ry hm s q2 => hh x y d e m2 H2 Qd Q hm rx ry q2 (f.mono s)
theorem r_isi {T : String} {tp : Pos} {tx : Str} (hT : T ∈ isiTys) (hs : notStar e = true) (hg : Gl X "isinstance") (hm : X.mg "isinstance" = none) (hg2 : Gl X tx) (hm2 : X.mg tx = none) (hv2 : bootBuiltins tx = some (.type T)) (hn2 : tx ≠ "__name__") (hd2 : (tx == ("__debug__" : Str)) = false)
    (ha : PE X e (tE X.K Y a)) : PE X (.Call (.Name "isinstance" p) [e, .Name tx tp] [] pos) (tE X.K Y (.isi a T)) := by
  obtain ⟨r0, hr, hh⟩ := isi_ok (X := X) hT
  have hty : PE X (.Name tx tp) (tC (.ty T)) := pe_bltn hg2 hm2 hv2 rfl hn2 hd2
  have key : PE X (.Call (.Name "isinstance" p) [e, .Name tx tp] [] pos) (tCB r0 (tCons (tE X.K Y a) (tCons (tC (.ty T)) tNil))) :=
    pe_callB hr hg hm (by decide +kernel) (pa_cons ha (pa_cons hty pa_nil rfl) (star_no hs)) (by decide +kernel) (by decide +kernel) (star_no hs) rfl
  refine key.imp fun σ H Q _ ⟨r, m, Qd, he, q, f⟩ => ?_
  simp only [ev] at q
  exact ⟨r, m, _, he, q, fun d m1 v H1 q1 rv hm s => hh v d m1 H1 Qd Q hm rv q1 (f.mono s)⟩
def okBase : Expr → Bool
  | .Name .. => true | .Attribute .. => true | .Subscript .. => true
  | .Call _ (_ :: _) _ _ => true
  | _ => false
theorem base_of {o : Expr} {x : Str} {env : PySem.Env} (h : okBase o = true) : attributeBase o x env (eval o env) = eval o env := by
  cases o <;> first
    | cases h; done
    | rfl
    | skip
  rename_i f args kw pos
  cases args with
  | nil => cases h
  | cons a as => cases f <;> rfl
theorem r_m1 {f : M1} (hs : notStar e2 = true) (ho : okBase e = true) (hl : (apos.endLine == pos.line) = true) (ha : PE X e (tE X.K Y a)) (hb : PE X e2 (tE X.K Y b)) : PE X (.Call (.Attribute e f.py.1 apos) [e2] [] pos) (tE X.K Y (.m1 f a b)) := by
  have hp : PA X [e2] (tCons (tE X.K Y b) tNil) := pa_cons hb pa_nil (star_no hs)
  have few : ((backTo pos (starEach [e2] X.env)).all (fun x => !x.1) && (backToKw pos (keywordEach [] X.env)).all (fun x => x.1.isSome) && decide (([e2] : List Expr).length + ([] : List Keyword).length + (if ([] : List Keyword).isEmpty then 0 else 1) < 30)) = true := by
    rw [star_no hs]; rfl
  have rest : ∀ {σ H Q} (r0 : V → List V → Hp → VK → Prop), (∀ x y d e m H Q Q', MemOk X.K m H → Rep X.K m H x d → Rep X.K m H y e → m1D f d e m Q → Fin X.K m H Q Q' → r0 x [y] H Q') → tE X.K Y (.m1 f a b) σ H Q → tBM X.K "list" r0 (tE X.K Y a) (tCons (tE X.K Y b) tNil) σ H Q := fun {σ H Q} r0 hh ⟨r, m, Qd, he, q, fin⟩ => by
    simp only [ev] at q
    refine ⟨r, m, _, he, q, fun d m1 v H1 ⟨⟨ds, hds⟩, q1⟩ rv hm s => ?_⟩
    obtain ⟨x, xs, ex, rs, hq⟩ := lst_val hm rv hds
    refine ⟨?_, r, m1, _, he.step s hm, q1, fun e m2 y H2 q2 ry hm2 s2 => hh v y d e m2 H2 Qd Q hm2 (Rep.step s2 _ _ rv) ry q2 (fin.mono (s.trans s2))⟩
    subst ex
    exact .inl ⟨rfl, xs, hq⟩
  cases f with
  | append =>
    exact (pe_bm PySem.F.plainAttrs_list PySem.F.slot_list_append PySem.F.type_list_append mt_append ha hp (base_of ho) few hl (star_no hs) rfl).imp fun σ H Q _ h => rest rAppend (fun x y d e m H Q Q' hm rx ry h fin => by
      unfold m1D at h
      cases d <;> first
        | exact h.elim
        | (obtain ⟨ds, hp, hl, q⟩ := h
           obtain ⟨vs, hH, rs⟩ := hm _ _ hp
           refine ⟨_, vs, y, rx.ref, rfl, hH, ?_, fin _ _ _ _ q rep_non (hm.writeLst hp (rs.append (by simp only [Reps]; exact ⟨y, [], rfl, ry, rfl⟩))) (Step.write hp)⟩
           rw [rs.length, sizeLine_eq]; omega)) h
  | extend =>
    exact (pe_bm PySem.F.plainAttrs_list PySem.F.slot_list_extend PySem.F.type_list_extend mt_extend ha hp (base_of ho) few hl (star_no hs) rfl).imp fun σ H Q _ h => rest rExtend (fun x y d e m H Q Q' hm rx ry h fin => by
      unfold m1D at h
      cases d <;> first
        | exact h.elim
        | (obtain ⟨ds, es, hp, he, hl, q⟩ := h
           cases e <;> first
            | exact he.elim
            | (obtain ⟨ne, hq⟩ := he
               obtain ⟨vs, hH, rs⟩ := hm _ _ hp
               obtain ⟨ws, hG, rs2⟩ := hm _ _ hq
               refine ⟨_, _, vs, ws, rx.ref, by rw [ry.ref], hH, hG, ?_, fin _ _ _ _ q rep_non (hm.writeLst hp (rs.append rs2)) (Step.write hp)⟩
               rw [rs.length, rs2.length]; exact line6 hl))) h

/-! ### list(range(..)) -/
theorem rgV_eq (i j : Int) : rgV i j = (List.range (j - i).toNat).map fun (k : Nat) => V.int (i + (k : Int)) := by
  first
    | rfl
    | (unfold rgV; rfl)
theorem rg_reps {K : PySem.W.Frag} {m : Mem} {H : Hp} {i j : Int} : Reps K m H (rgV i j) (rgD i j) := by
  rw [rgV_eq]
  unfold rgD
  generalize List.range (j - i).toNat = l
  induction l with
  | nil => simp [Reps]
  | cons k l ih =>
    simp only [List.map_cons, Reps]
    exact ⟨_, _, rfl, rep_int, ih⟩
theorem r_lrg1 {mu : Bool} {q pos' : Pos} (hc : X.calm = true) (hs : notStar e = true) (hg : Gl X "list") (hm : X.mg "list" = none) (hg2 : Gl X "range") (hm2 : X.mg "range" = none) (ha : PE X e (tE X.K Y a)) : PE X (.Call (.Name "list" p) [.Call (.Name "range" q) [e] [] pos'] [] pos) (tE X.K Y (.lrg mu (.int 0) a)) :=
  (pe_listRg hc hg hm (prg_1 hg2 hm2 ha (star_no hs)) rfl).imp fun σ H Q _ ⟨r, m, Qd, he, q, fin⟩ => by
    simp only [ev] at q
    refine ⟨r, m, _, he, q, fun d m1 v H1 q1 rv hm s => ?_⟩
    obtain ⟨i, e1, q1⟩ := onI_out q1
    cases e1
    obtain ⟨j, rfl, k1, k2, k3, q1⟩ := onI_out q1
    exact ⟨j, rv.int, ⟨by decide, by decide, k2.1, k2.2, Nat.le_trans k3 (by decide)⟩, (fin.mono s).lst hm rg_reps q1⟩
theorem r_lrg2 {mu : Bool} {q pos' : Pos} (hc : X.calm = true) (hs : notStar e = true) (hs2 : notStar e2 = true) (hg : Gl X "list") (hm : X.mg "list" = none) (hg2 : Gl X "range") (hm2 : X.mg "range" = none) (ha : PE X e (tE X.K Y a)) (hb : PE X e2 (tE X.K Y b)) : PE X (.Call (.Name "list" p) [.Call (.Name "range" q) [e, e2] [] pos'] [] pos) (tE X.K Y (.lrg mu a b)) :=
  (pe_listRg hc hg hm (prg_2 hg2 hm2 ha hb (star_no hs) (star_no hs2) (plainArgs (by simpa using hs2))) rfl).imp fun σ H Q _ ⟨r, m, Qd, he, q, fin⟩ => by
    simp only [ev] at q
    refine two he q fun x y d e m2 H2 rx ry hm s q1 => ?_
    obtain ⟨i, e1, q2⟩ := onI_out q1
    obtain ⟨j, e2, k1, k2, k3, q3⟩ := onI_out q2
    subst e1 e2
    exact ⟨i, j, rx.int, ry.int, ⟨k1.1, k1.2, k2.1, k2.2, Nat.le_trans k3 (by decide)⟩, (fin.mono s).lst hm rg_reps q3⟩

/-! ### slotted objects -/
theorem obj_val {K : PySem.W.Frag} {m : Mem} {H : Hp} {a C dx : Addr} {fs : List (Option D)} (hm : MemOk K m H) (h : m a = some (.obj C dx fs)) : ∃ vs, SlX.Slt H a C dx vs ∧ RepsO K m H vs fs := by
  obtain ⟨vs, q, _, _, r⟩ := hm a _ h
  exact ⟨vs, q, r⟩
theorem r_slot {c i : Nat} {pd : Addr} (ho : okBase e = true) (k : SlX.SCls X.K (Y.cls c)) (t : SlX.Slot1 X.K (Y.cls c) x pd i) (ha : PE X e (tE X.K Y a)) : PE X (.Attribute e x pos) (tE X.K Y (.slot a c i)) :=
  (SlX.pe_sl ha (base_of ho)).imp fun σ H Q _ ⟨r, m, Qd, he, q, fin⟩ => by
    simp only [ev] at q
    refine ⟨r, m, _, he, q, fun d m1 v H1 ⟨p, dx, fs, d', ed, hp, hf, q1⟩ rv hm s => ?_⟩
    subst ed
    obtain ⟨vs, hs, rs⟩ := obj_val hm hp
    obtain ⟨w, hw, rw'⟩ := rs.get hf
    exact ⟨p, _, dx, pd, vs, i, w, rv.ref, hs, k, t, hw, (fin.mono s).here hm rw' q1⟩
/-- C(e, ..) -/
theorem r_mk {k c j : Nat} {f : Addr} {fd : FuncData} {ps : List Str} {n : Nat} (M : Mk X.K (Y.cls c) f) (F : FnG X.prog X.w X.K X.mg X.base k f fd ps (spK X.K n (Y.fn j))) (hG : X.A.guards = some []) (hb : Binds X.K fd ps []) (hr : Room (k + 1) X.A) (hn : cs.length + 1 = n)
    (hg : Gl X x) (hm : X.mg x = some (.ref (Y.cls c))) (hd : (x == ("__debug__" : Str)) = false) (ha : PA X es (tAs X.K Y cs)) (h0 : es = [] → cs = []) (hp : es.all notStar = true) : PE X (.Call (.Name x p) es [] pos) (tE X.K Y (.mk c j cs)) := by
  refine ⟨fun pins s σ H Q I ⟨r, m, Qd, he, q, fin⟩ => ?_⟩
  simp only [ev] at q
  refine wpAny_Call_Name_kw (ld_glob I hg hm ?_ hd)
  refine node_K I M.kp ha h0 hp (R := fun vs H1 => ∀ x dx, H1 x = none → H1 dx = none → dx ≠ x → spK X.K n (Y.fn j) (.ref x :: vs) (upd (upd H1 dx (.own x)) x (.ins (Y.cls c) dx [])) (fun v H2 => v = .non ∧ Q (.ref x) H2) fun _ _ _ => True)
    ⟨r, m, _, he, q, fun ds m1 vs H1 ⟨hl, q1⟩ rs hm1 s1 x dx hx hdx ne => ?_⟩ fun us s1 vs H1 I1 rv q1 => ?_
  · refine ⟨by rw [List.length_cons, rs.length, hl, hn], .ref x :: ds, _, _, ?_, hm1.newObj hx hdx ne, q1 x dx (hm1.free hx) (hm1.free hdx) ne, fun d m2 v H2 ⟨ed, q2⟩ rv hm2 s2 => ?_⟩
    · simp only [Reps]
      exact ⟨_, vs, rfl, rep_ref, Reps.step (Step.newObj hx hdx) _ _ rs⟩
    · subst ed
      exact ⟨rv.non, fin _ _ _ _ q2 rep_ref hm2 (s1.trans ((Step.newObj hx hdx).trans s2))⟩
  · exact FnG.make M F hG hr hb I1 rv q1
theorem back_all {pos : Pos} {l : List (Bool × Sem Value)} : (backTo pos l).all (fun x => !x.1) = !(l.any (·.1)) := by
  unfold backTo
  rw [List.all_map]
  induction l with
  | nil => rfl
  | cons x l ih =>
    rw [List.all_cons, List.any_cons, ih]
    obtain ⟨b, t⟩ := x
    cases b <;> rfl
theorem few_of {env : PySem.Env} (hp : es.all notStar = true) (hl : es.length < 30) : methodCallForm (es.length + ([] : List Keyword).length) (backTo pos (starEach es env)) (backToKw pos (keywordEach [] env)) = true := by
  unfold methodCallForm
  rw [back_all, star_any hp]
  simp [keywordEach, backToKw, hl]
theorem meth_eq {o : Expr} {env : PySem.Env} (ho : okBase o = true) (hp : es.all notStar = true) (hn : es.length < 30) (hl : (apos.endLine == pos.line) = true) :
    eval (.Call (.Attribute o x apos) es [] pos) env = (do
      let ov ← eval o env
      standAt apos.atName
      let (f, first) ← holding [ov] (getMethod ov x (plainOf o env))
      callWith pos f first (backTo pos (starEach es env)) (backToKw pos (keywordEach [] env))) := by
  show (do
      let ov ← attributeBase o x env (eval o env)
      standAt apos.atName
      methodCall o x apos pos env ov (es.length + ([] : List Keyword).length) (backTo pos (starEach es env)) (backToKw pos (keywordEach [] env))) = _
  rw [base_of ho]
  have e : ∀ ov, methodCall o x apos pos env ov (es.length + ([] : List Keyword).length) (backTo pos (starEach es env)) (backToKw pos (keywordEach [] env)) = (do
      let (f, first) ← holding [ov] (getMethod ov x (plainOf o env))
      callWith pos f first (backTo pos (starEach es env)) (backToKw pos (keywordEach [] env))) := fun ov => mcall_line (few_of hp hn) hl
  simp only [e]
/-- o.m(e, ..) of a slotted object -/
theorem r_meth {k c j : Nat} {f : Addr} {fd : FuncData} {ps : List Str} {n : Nat} {o : Expr} (hob : okBase o = true) (hl30 : es.length < 30) (hl : (apos.endLine == pos.line) = true) (kc : SlX.SCls X.K (Y.cls c)) (hm : Meth X.K (Y.cls c) x f) (F : FnG X.prog X.w X.K X.mg X.base k f fd ps (spK X.K n (Y.fn j))) (hG : X.A.guards = some []) (hb : Binds X.K fd ps []) (hr : Room k X.A) (hn : cs.length + 1 = n)
    (ho : PE X o (tE X.K Y a)) (ha : PA X es (tAs X.K Y cs)) (h0 : es = [] → cs = []) (hp : es.all notStar = true) : PE X (.Call (.Attribute o x apos) es [] pos) (tE X.K Y (.meth j c a cs)) := by
  refine ⟨fun pins s σ H Q I ⟨r, m, Qd, he, q, fin⟩ => ?_⟩
  simp only [ev] at q
  have hw := ho.run pins s σ H (fun v H1 => ∃ d m1, (∃ p dx fs, d = D.ref p ∧ m1 p = some (.obj (Y.cls c) dx fs) ∧ evs Y cs r m1 fun ds m2 => ds.length = cs.length ∧ Y.fn j (d :: ds) m2 Qd) ∧ Rep X.K m1 H1 v d ∧ MemOk X.K m1 H1 ∧ Step m H m1 H1) I
    ⟨r, m, _, he, q, fun d m1 v H1 q1 rv hm s => ⟨d, m1, q1, rv, hm, s⟩⟩
  refine PySem.W.methodCall_KW (thn hw fun u s1 ⟨x, H1, I1, rx, d, m1, ⟨p, dx, fs, ed, hp1, q1⟩, rv, hm1, st1⟩ => ?_) (meth_eq hob hp hl30 hl)
  subst ed
  obtain rfl := rv.ref
  obtain rfl : u = Value.ref p := rx
  obtain ⟨vs, hs, rs⟩ := obj_val hm1 hp1
  refine SlX.getmethsl_ok I1 hs kc hm ?_
  refine node_K I1 hm.kp ha h0 hp (first := [.ref p]) (R := fun ws H2 => spK X.K n (Y.fn j) (.ref p :: ws) H2 Q fun _ _ _ => True)
    ⟨r, m1, _, he.step st1 hm1, q1, fun ds m2 ws H2 ⟨hl, q2⟩ rs2 hm2 s2 => ⟨by rw [List.length_cons, rs2.length, hl, hn], .ref p :: ds, m2, Qd, by simp only [Reps]; exact ⟨_, ws, rfl, rep_ref, rs2⟩, hm2, q2, fin.mono (st1.trans s2)⟩⟩ fun us s2 ws H2 I2 r2 q2 => ?_
  exact F.call hG hr hb I2 (us := .ref p :: us) (vs := .ref p :: ws) (.cons rfl r2) q2
end
end Og
end
section
set_option maxHeartbeats 4000000
set_option autoImplicit false
/-! Og: targets, iteration, comprehensions by data. -/
namespace Og
open PySem PySem.Spec PyProof.Rows L2

theorem wipe_idem {σ : L2.St} (vs : List Nat) : L2.wipe (L2.wipe σ vs) vs = L2.wipe σ vs := by
  apply List.ext_getElem?
  intro i
  by_cases h : i ∈ vs
  · have none_at : ∀ τ : L2.St, (L2.wipe τ vs)[i]? = none ∨ (L2.wipe τ vs)[i]? = some none := fun τ => by
      cases e : (L2.wipe τ vs)[i]? with
      | none => exact .inl rfl
      | some o =>
        cases o with
        | none => exact .inr rfl
        | some v => exact absurd h (wipe_some e).2
    have l1 := wipe_length (L2.wipe σ vs) vs
    have l2 := wipe_length σ vs
    by_cases hl : i < σ.length
    · have b1 : i < (L2.wipe (L2.wipe σ vs) vs).length := by rw [l1, l2]; exact hl
      have b2 : i < (L2.wipe σ vs).length := by rw [l2]; exact hl
      have k1 := (none_at (L2.wipe σ vs)).resolve_left (by rw [List.getElem?_eq_getElem b1]; exact fun z => (nomatch z))
      have k2 := (none_at σ).resolve_left (by rw [List.getElem?_eq_getElem b2]; exact fun z => (nomatch z))
      rw [k1, k2]
    · rw [List.getElem?_eq_none (by rw [l1, l2]; omega), List.getElem?_eq_none (by rw [l2]; omega)]
  · exact wipe_out h

/-! ### targets -/
mutual
theorem setT_out : ∀ (t : Tg) {d : D} {r : Rho} {Kd : Rho → Prop}, setT t d r Kd → ∃ r1, Kd r1
  | .nm _, _, _, _, h => ⟨_, h⟩
  | .tup ts, _, _, _, h => by
    simp only [setT] at h
    obtain ⟨ds, _, h⟩ := h
    exact (setTs_out ts h).2
theorem setTs_out : ∀ (ts : List Tg) {ds : List D} {r : Rho} {Kd : Rho → Prop}, setTs ts ds r Kd → ds.length = ts.length ∧ ∃ r1, Kd r1
  | [], _, _, _, h => by
    simp only [setTs] at h
    exact ⟨by simp [h.1], _, h.2⟩
  | t :: ts, _, _, _, h => by
    simp only [setTs] at h
    obtain ⟨d, e, rfl, h⟩ := h
    obtain ⟨r1, h1⟩ := setT_out t h
    obtain ⟨h2, h3⟩ := setTs_out ts h1
    exact ⟨by simp [h2], h3⟩
end
def notStarT : Expr → Bool
  | .Starred _ _ => false
  | _ => true
theorem assign_no {e : Expr} {es : List Expr} {env : PySem.Env} (h : notStarT e = true) : assignEach (e :: es) env = (false, assign e env) :: assignEach es env := by
  cases e <;> first
    | rfl
    | cases h
theorem assign_all {env : PySem.Env} : ∀ {es : List Expr}, es.all notStarT = true → (assignEach es env).length = es.length ∧ (assignEach es env).findIdx? (·.1) = none
  | [], _ => ⟨rfl, rfl⟩
  | e :: es, h => by
    have h' : notStarT e = true ∧ es.all notStarT = true := by simpa using h
    obtain ⟨h1, h2⟩ := assign_all (env := env) h'.2
    rw [assign_no h'.1]
    refine ⟨by simp [h1], ?_⟩
    rw [List.findIdx?_cons, h2]
    rfl
section
variable {X : Cx} {Y : Ctx} {pos : Pos} {x : Str} {e : Expr} {es : List Expr} {t : Tg} {ts : List Tg}
theorem g_nm {i : Nat} (hN : X.N.Nodup) (hi : X.N[i]? = some x) (hx : Loc X.env.scope x) (hf : X.fn x = true ∨ X.env.scope.names.lookup x = some .local) : PG X (.Name x pos) (tTg X.K (.nm i)) := (pg_name hN hi hx hf).imp fun v σ H Q ⟨r, m, d, Kd, he, rv, q, f⟩ => by
  simp only [setT] at q
  exact f _ _ q (he.set i rv) Out.nm
theorem gs_nil : PGs X [] (tTgs X.K []) := pgs_nil.imp fun vs σ H Q ⟨r, m, ds, Kd, he, rs, q, f⟩ => by
  simp only [setTs] at q
  obtain ⟨rfl, q⟩ := q
  exact ⟨by simpa [Reps] using rs, f _ _ q he Out.refl⟩
theorem gs_cons (hs : notStarT e = true) (h1 : PG X e (tTg X.K t)) (h2 : PGs X es (tTgs X.K ts)) : PGs X (e :: es) (tTgs X.K (t :: ts)) := (pgs_cons h1 h2 (by rw [assign_no hs]; rfl)).imp fun vs σ H Q ⟨r, m, ds, Kd, he, rs, q, f⟩ => by
  simp only [setTs] at q
  obtain ⟨d, es', rfl, q⟩ := q
  simp only [Reps] at rs
  obtain ⟨v, vr, rfl, r1, r2⟩ := rs
  refine ⟨v, vr, rfl, r, m, d, _, he, r1, q, fun r' σ' q' he' o' => ⟨r', m, es', Kd, he', r2, q', fun r2 σ2 q2 he2 o2 => f r2 σ2 q2 he2 (o'.trans o2)⟩⟩
theorem g_tup {k : Nat} (hc : X.calm = true) (hs : es.all notStarT = true) (hl : es.length = ts.length) (h : PGs X es (tTgs X.K ts)) : PG X (.Tuple es k pos) (tTg X.K (.tup ts)) := by
  obtain ⟨a1, a2⟩ := assign_all (env := X.env) hs
  refine (pg_tup (n := ts.length) hc h (by rw [a1, hl]) a2).imp fun v σ H Q ⟨r, m, d, Kd, he, rv, q, f⟩ => ?_
  simp only [setT] at q
  obtain ⟨ds, rfl, q⟩ := q
  obtain ⟨a, xs, ex, hq, rs⟩ := rv.tup
  exact ⟨a, xs, ex, hq.sq, by rw [rs.length]; exact (setTs_out ts q).1, r, m, ds, Kd, he, rs, q, f⟩
end

/-! ### what is walked -/
theorem seqK {K : PySem.W.Frag} {m1 : Mem} {H1 : Hp} {d : D} {v : V} {ds : List D} (hm : MemOk K m1 H1) (r : Rep K m1 H1 v d) (h : seqOf m1 d = some ds) :
    ∃ k a, v = .ref a ∧ ∀ m H, guard m1 d m → MemOk K m H → Step m1 H1 m H → ∃ xs, SqK K k H a xs ∧ Reps K m H xs ds := by
  cases d with
  | tup es =>
    cases h
    obtain ⟨a, xs, e, q, rs⟩ := r.tup
    refine ⟨false, a, e, fun m H _ hm' st => ?_⟩
    have r' := Rep.step st _ _ r
    obtain ⟨a', xs', e', q', rs'⟩ := r'.tup
    rw [e] at e'; cases e'
    exact ⟨xs', q'.sq, rs'⟩
  | lst es =>
    cases h
    obtain ⟨a, xs, e, q, rs⟩ := r.lst
    refine ⟨true, a, e, fun m H _ hm' st => ?_⟩
    have r' := Rep.step st _ _ r
    obtain ⟨a', xs', e', q', rs'⟩ := r'.lst
    rw [e] at e'; cases e'
    exact ⟨xs', q'.sq, rs'⟩
  | ref p =>
    refine ⟨true, p, r.ref, fun m H g hm' st => ?_⟩
    unfold seqOf at h
    simp only at h
    split at h
    · rename_i es q
      cases h
      obtain ⟨vs, hp, rs⟩ := hm' p _ (Eq.trans (show m p = m1 p from g) q)
      exact ⟨vs, SqL.of hp, rs⟩
    · cases h
  | _ => cases h
theorem enumD_get : ∀ {ds : List D} {n i : Nat} {e : D}, (enumD n ds)[i]? = some e → ∃ d, ds[i]? = some d ∧ e = .tup [.int ((n + i : Nat) : Int), d]
  | [], _, _, _, h => by simp [enumD] at h
  | d :: ds, n, 0, e, h => by
    simp [enumD] at h
    exact ⟨d, rfl, h.symm⟩
  | d :: ds, n, i + 1, e, h => by
    simp only [enumD, List.getElem?_cons_succ] at h
    obtain ⟨d', h1, h2⟩ := enumD_get h
    refine ⟨d', by simpa using h1, ?_⟩
    rw [h2, show n + 1 + i = n + (i + 1) from by omega]
theorem enumD_length : ∀ {ds : List D} {n : Nat}, (enumD n ds).length = ds.length
  | [], _ => rfl
  | d :: ds, n => by simp [enumD, enumD_length]
theorem zipD_get : ∀ {ds es : List D} {i : Nat} {z : D}, (zipD ds es)[i]? = some z → ∃ x y, ds[i]? = some x ∧ es[i]? = some y ∧ z = .tup [x, y]
  | [], _, _, _, h => by simp [zipD] at h
  | _ :: _, [], _, _, h => by simp [zipD] at h
  | d :: ds, e :: es, 0, z, h => by
    simp [zipD] at h
    exact ⟨d, e, rfl, rfl, h.symm⟩
  | d :: ds, e :: es, i + 1, z, h => by
    simp only [zipD, List.getElem?_cons_succ] at h
    obtain ⟨x, y, h1, h2, h3⟩ := zipD_get h
    exact ⟨x, y, by simpa using h1, by simpa using h2, h3⟩
theorem zipD_length : ∀ {ds es : List D}, (zipD ds es).length = min ds.length es.length
  | [], _ => by simp [zipD]
  | _ :: _, [] => by simp [zipD]
  | d :: ds, e :: es => by simp [zipD, zipD_length, Nat.succ_min_succ]
theorem SqK.len {X : Cx} {k : Bool} {H : Hp} {a : Addr} {xs : List V} (g : Good X H) (q : SqK X.K k H a xs) : xs.length ≤ sizeLine := by
  unfold SqK at q
  cases k with
  | true => exact g.seq (.inl q)
  | false => exact g.seq (.inr q)

section
variable {X : Cx} {Y : Ctx} {pos p : Pos} {x : Str} {e e2 tg : Expr} {a b : E}
/-- a value has come, with all that is known of it -/
theorem PE.got {pins : List (Addr × Obj)} {σ : L2.St} {H : Hp} {s : Shared} {r : Rho} {m : Mem} {Qd : KD} (ha : PE X e (tE X.K Y a)) (I : Inv X pins σ H s) (he : REnv X.K r m σ H) (q : ev Y a r m Qd) :
    wpAny (model X.prog X.w) X.A (eval e X.env) (fun u s1 => ∃ v H1 d m1, Inv X pins σ H1 s1 ∧ RelV v u ∧ Qd d m1 ∧ Rep X.K m1 H1 v d ∧ MemOk X.K m1 H1 ∧ Step m H m1 H1) X.xe s :=
  thn (ha.run pins s σ H (fun v H1 => ∃ d m1, Qd d m1 ∧ Rep X.K m1 H1 v d ∧ MemOk X.K m1 H1 ∧ Step m H m1 H1) I ⟨r, m, Qd, he, q, fun d m1 v H1 q1 rv hm s => ⟨d, m1, q1, rv, hm, s⟩⟩)
    fun u s1 ⟨v, H1, I1, rx, d, m1, h⟩ => ⟨v, H1, d, m1, I1, rx, h⟩
theorem walk_seq {m1 : Mem} {H1 : Hp} {d : D} {ds : List D} {k : Bool} {ad : Addr} (hl : ds.length ≤ sizeLine) (h : ∀ m H, guard m1 d m → MemOk X.K m H → Step m1 H1 m H → ∃ xs, SqK X.K k H ad xs ∧ Reps X.K m H xs ds) :
    (k = true → WalkD X.K (Itl X.K ad) ds (guard m1 d) m1 H1) ∧ (k = false → WalkD X.K (Itt X.K ad) ds (guard m1 d) m1 H1) := by
  refine ⟨fun ek => ?_, fun ek => ?_⟩
  all_goals
    subst ek
    refine ⟨fun i d' m H hi g hm st => ?_, fun i d' m H v H' hi g hm st hy => ?_, fun m H g hm st => ?_, hl⟩
    · obtain ⟨xs, hq, rs⟩ := h m H g hm st
      obtain ⟨v, hv, _⟩ := rs.get hi
      exact ⟨xs, v, hq, hv⟩
    · obtain ⟨xs, hq, rs⟩ := h m H g hm st
      obtain ⟨v', hv, rv⟩ := rs.get hi
      obtain ⟨rfl, hy⟩ := hy
      have e := hy xs hq
      rw [hv] at e; cases e
      exact ⟨hm, Step.refl, rv⟩
    · obtain ⟨xs, hq, rs⟩ := h m H g hm st
      exact ⟨xs, hq, by rw [rs.length]; exact Nat.le_refl _⟩
theorem i_sq (ha : PE X e (tE X.K Y a)) : PI X tg e (tIt X.K Y (.sq a)) := ⟨fun pins s σ H R I ⟨r, m, Qd, he, q, fin⟩ => by
  simp only [evI] at q
  refine thn (PE.got ha I he q) fun u s1 ⟨v, H1, d, m1, I1, rx, ⟨ds, hs, q1⟩, rv, hm1, st1⟩ => ?_
  obtain ⟨k, ad, rfl, h⟩ := seqK hm1 rv hs
  cases rx
  obtain ⟨xs, hq, rs⟩ := h m1 H1 (by cases d <;> simp [guard]) hm1 Step.refl
  have hl : ds.length ≤ sizeLine := by rw [← rs.length]; exact hq.len ⟨_, _, _, I1⟩
  obtain ⟨w1, w2⟩ := walk_seq (X := X) hl h
  cases k with
  | true =>
    obtain ⟨its, rv', p', hz⟩ := I1.list hq
    refine wpAny_pyIter_list p'.isList ?_
    refine ⟨s1.heap.objs.size, [s1.heap.objs.size], _, _, H1, rfl, I1.kept (t' := s1.toks) fun b o e => Heap.get?_push_of_some _ e, turn_list ad _, ⟨_, Heap.get?_push_size _ rfl, rfl, rfl⟩, fun b hb => ?_, fin _ _ _ _ _ q1 hm1 st1 (w1 rfl)⟩
    have e : b = s1.heap.objs.size := by simpa using hb
    subst e
    exact I1.fpOk (Nat.le_refl _) (I1.hok.fresh (Nat.le_refl _))
  | false =>
    obtain ⟨its, rv', p', hz⟩ := I1.tuple hq
    refine wpAny_pyIter_tuple (show s1.heap.IsTuple ad its.toArray from p') ?_
    refine ⟨s1.heap.objs.size, [s1.heap.objs.size], _, _, H1, rfl, I1.kept (t' := s1.toks) fun b o e => Heap.get?_push_of_some _ e, turn_tuple ad _, ⟨_, Heap.get?_push_size _ rfl, rfl, rfl⟩, fun b hb => ?_, fin _ _ _ _ _ q1 hm1 st1 (w2 rfl)⟩
    have e : b = s1.heap.objs.size := by simpa using hb
    subst e
    exact I1.fpOk (Nat.le_refl _) (I1.hok.fresh (Nat.le_refl _))⟩
theorem rgD_get {lo hi : Int} {i : Nat} {d : D} (h : (rgD lo hi)[i]? = some d) : i < (hi - lo).toNat ∧ d = .int (lo + (i : Nat)) := by
  unfold rgD at h
  rw [List.getElem?_map] at h
  by_cases hi' : i < (hi - lo).toNat
  · rw [List.getElem?_range hi'] at h
    simp at h
    exact ⟨hi', h.symm⟩
  · rw [List.getElem?_eq_none (by simp; omega)] at h
    cases h
theorem rgD_length {lo hi : Int} : (rgD lo hi).length = (hi - lo).toNat := by unfold rgD; simp
theorem walk_rg {K : PySem.W.Frag} {lo hi : Int} {m1 : Mem} {H1 : Hp} (hl : (hi - lo).toNat ≤ 1000000) : WalkD K (Itr lo (hi - lo).toNat) (rgD lo hi) (fun _ => True) m1 H1 :=
  ⟨fun i d m H hi' _ _ _ => (rgD_get hi').1, fun i d m H x H' hi' _ hm _ hy => by
    obtain ⟨rfl, rfl⟩ := hy
    rw [(rgD_get hi').2]
    exact ⟨hm, Step.refl, rep_int⟩, fun m H _ _ _ => by rw [rgD_length]; exact Nat.le_refl _, by rw [rgD_length]; exact line6 hl⟩
theorem i_rg1 (hs : notStar e = true) (hg : Gl X "range") (hm : X.mg "range" = none) (ha : PE X e (tE X.K Y a)) : PI X tg (.Call (.Name "range" p) [e] [] pos) (tIt X.K Y (.rg1 a)) :=
  (pi_range1 hg hm (pa_cons ha pa_nil (star_no hs)) (star_no hs)).imp fun σ H R _ ⟨r, m, Qd, he, q, fin⟩ => by
    simp only [evI] at q
    refine ⟨r, m, _, he, q, fun d m1 v H1 q1 rv hm s => ?_⟩
    obtain ⟨i, rfl, k1, k2, q1⟩ := onI_out q1
    refine ⟨i, by rw [rv.int], by omega, by omega, ?_⟩
    have w := walk_rg (K := X.K) (lo := 0) (hi := i) (m1 := m1) (H1 := H1) (by omega)
    rw [show i - 0 = i from by omega] at w
    exact fin _ _ _ _ _ q1 hm s w
theorem i_rg2 (hs : notStar e = true) (hs2 : notStar e2 = true) (hg : Gl X "range") (hm : X.mg "range" = none) (ha : PE X e (tE X.K Y a)) (hb : PE X e2 (tE X.K Y b)) : PI X tg (.Call (.Name "range" p) [e, e2] [] pos) (tIt X.K Y (.rg2 a b)) :=
  (pi_range2 hg hm (pa_cons ha (pa_cons hb pa_nil (star_no hs2)) (star_no hs)) (by rw [star_no hs, star_no hs2]; rfl) (star_no hs2)).imp fun σ H R _ ⟨r, m, Qd, he, q, fin⟩ => by
    simp only [evI] at q
    refine two he q fun x y d e m2 H2 rx ry hm s q1 => ?_
    obtain ⟨i, e1, q2⟩ := onI_out q1
    obtain ⟨j, e2, k1, k2, k3, q3⟩ := onI_out q2
    subst e1 e2
    exact ⟨i, j, by rw [rx.int, ry.int], ⟨k1.1, k1.2, k2.1, k2.2⟩, fin _ _ _ _ _ q3 hm s (walk_rg k3)⟩
theorem i_enum {elts : List Expr} {kk : Nat} {tpos : Pos} (hs : notStar e = true) (hg : Gl X "enumerate") (hm : X.mg "enumerate" = none) (ha : PE X e (tE X.K Y a)) : PI X (.Tuple elts kk tpos) (.Call (.Name "enumerate" p) [e] [] pos) (tIt X.K Y (.enum a)) :=
  (PI.good (pi_enumK hg hm (pa_cons ha pa_nil (star_no hs)) (star_no hs))).imp fun σ H R _ ⟨r, m, Qd, he, q, fin⟩ => by
    simp only [evI] at q
    refine ⟨r, m, _, he, q, fun d m1 v H1 ⟨ds, hds, q1⟩ rv hm s => ?_⟩
    obtain ⟨k, ad, rfl, h⟩ := seqK hm rv hds
    obtain ⟨xs, hq, rs⟩ := h m1 H1 (by cases d <;> simp [guard]) hm Step.refl
    refine ⟨k, ad, xs, rfl, hq, fun g => fin _ _ _ _ _ q1 hm s ⟨fun i d' m H hi g hm st => ?_, fun i d' m H v H' hi g hm st hy => ?_, fun m H g hm st => ?_, by rw [enumD_length, ← rs.length]; exact hq.len g⟩⟩
    · obtain ⟨xs, hq, rs⟩ := h m H g hm st
      obtain ⟨d1, h1, rfl⟩ := enumD_get hi
      obtain ⟨v, hv, _⟩ := rs.get h1
      exact ⟨xs, v, hq, hv⟩
    · obtain ⟨xs, hq, rs⟩ := h m H g hm st
      obtain ⟨d1, h1, rfl⟩ := enumD_get hi
      obtain ⟨v', hv, rv⟩ := rs.get h1
      obtain ⟨T, x, rfl, hT, rfl, hy⟩ := hy
      have e := hy xs hq
      rw [hv] at e; cases e
      refine ⟨hm.fresh hT, Step.fresh hT, ?_⟩
      simp only [Rep]
      refine ⟨T, _, rfl, .inl ⟨hm.free hT, .inl upd_same⟩, ?_⟩
      simp only [Reps]
      exact ⟨_, _, rfl, by rw [Nat.zero_add]; exact rep_int, _, _, rfl, Rep.step (Step.fresh hT) _ _ rv, rfl⟩
    · obtain ⟨xs, hq, rs⟩ := h m H g hm st
      exact ⟨xs, hq, by rw [enumD_length, rs.length]⟩
theorem i_zip {elts : List Expr} {kk : Nat} {tpos : Pos} (hs : notStar e = true) (hs2 : notStar e2 = true) (hg : Gl X "zip") (hm : X.mg "zip" = none) (ha : PE X e (tE X.K Y a)) (hb : PE X e2 (tE X.K Y b)) : PI X (.Tuple elts kk tpos) (.Call (.Name "zip" p) [e, e2] [] pos) (tIt X.K Y (.zip a b)) :=
  (PI.good (pi_zipK hg hm (pa_cons ha (pa_cons hb pa_nil (star_no hs2)) (star_no hs)) (star_no hs) (plainArgs (by simpa using hs2)))).imp fun σ H R _ ⟨r, m, Qd, he, q, fin⟩ => by
    simp only [evI] at q
    refine two he q fun x y dx dy m2 H2 rx ry hm s ⟨ds, es, hds, hes, q1⟩ => ?_
    obtain ⟨k, ad, rfl, h⟩ := seqK hm rx hds
    obtain ⟨l, bd, rfl, h'⟩ := seqK hm ry hes
    obtain ⟨xs, hq, rs⟩ := h m2 H2 (by cases dx <;> simp [guard]) hm Step.refl
    obtain ⟨ys, hq', rs'⟩ := h' m2 H2 (by cases dy <;> simp [guard]) hm Step.refl
    refine ⟨k, l, ad, bd, xs, ys, rfl, hq, hq', fun g => fin _ _ _ _ _ q1 hm s ⟨fun i d' m H hi g hm st => ?_, fun i d' m H v H' hi g hm st hy => ?_, fun m H g hm st => ?_, ?_⟩⟩
    · obtain ⟨xs, hq, rs⟩ := h m H g.1 hm st
      obtain ⟨ys, hq', rs'⟩ := h' m H g.2 hm st
      obtain ⟨d1, d2, h1, h2, rfl⟩ := zipD_get hi
      obtain ⟨v, hv, _⟩ := rs.get h1
      obtain ⟨w, hw, _⟩ := rs'.get h2
      exact ⟨xs, ys, v, w, hq, hq', hv, hw⟩
    · obtain ⟨xs, hq, rs⟩ := h m H g.1 hm st
      obtain ⟨ys, hq', rs'⟩ := h' m H g.2 hm st
      obtain ⟨d1, d2, h1, h2, rfl⟩ := zipD_get hi
      obtain ⟨v1, hv, rv⟩ := rs.get h1
      obtain ⟨w1, hw, rw'⟩ := rs'.get h2
      obtain ⟨T, x, y, rfl, hT, rfl, hy1, hy2⟩ := hy
      have e1 := hy1 xs hq
      have e2 := hy2 ys hq'
      rw [hv] at e1; cases e1
      rw [hw] at e2; cases e2
      refine ⟨hm.fresh hT, Step.fresh hT, ?_⟩
      simp only [Rep]
      refine ⟨T, _, rfl, .inl ⟨hm.free hT, .inl upd_same⟩, ?_⟩
      simp only [Reps]
      exact ⟨_, _, rfl, Rep.step (Step.fresh hT) _ _ rv, _, _, rfl, Rep.step (Step.fresh hT) _ _ rw', rfl⟩
    · obtain ⟨xs, hq, rs⟩ := h m H g.1 hm st
      obtain ⟨ys, hq', rs'⟩ := h' m H g.2 hm st
      refine ⟨xs, ys, hq, hq', ?_⟩
      rw [zipD_length, rs.length, rs'.length]
      omega
    · have := hq.len g
      rw [zipD_length, ← rs.length, ← rs'.length]
      omega

/-! ### comprehensions -/
theorem freeze {K : PySem.W.Frag} {m : Mem} {H : Hp} {p : Addr} {ds : List D} (hm : MemOk K m H) (hp : m p = some (.lst ds)) : MemOk K (del m p) H ∧ Step m H (del m p) H ∧ Rep K (del m p) H (.ref p) (.lst ds) := by
  obtain ⟨vs, hH, rs⟩ := hm p _ hp
  have sb : SubO (del m p) m := ⟨Sub.del, fun x C dx fs ex => by
    have ex1 := Sub.del x _ ex
    have q := (hm.dxAt ex1).1
    have ne : dx ≠ p := fun z => by rw [z, hp] at q; cases q
    unfold del; rw [if_neg ne]⟩
  refine ⟨hm.sub sb, sb.sub.step, ?_⟩
  simp only [Rep]
  exact ⟨p, vs, rfl, .inl ⟨by unfold del; rw [if_pos rfl], .inl hH⟩, Reps.step sb.sub.step _ _ rs⟩
theorem lc_of {mu : Bool} {elt : E} {t : Tg} {it : Ita} {ifs : List E} {own : List Nat} (hsub : ∀ i ∈ t.slots, i ∈ own) {σ : L2.St} {H : Hp} {Q : VK} (h : tE X.K Y (.lc mu elt t it ifs own) σ H Q) :
    tLc (tIt X.K Y it) (tTg X.K t) (tTs X.K Y ifs) (tE X.K Y elt) own σ H Q := by
  obtain ⟨r, m, Qd, he, q, fin⟩ := h
  simp only [ev] at q
  refine ⟨r, m, _, he, q, fun ds G m1 J H1 q1 hm1 st1 wk p hD => ?_⟩
  have q2 := q1 p (hm1.free hD)
  generalize hT : (fun (d : D) (m2 : Mem) (K : Option D → Mem → Prop) => setT t d (wipeD r own) fun r1 => evT Y ifs r1 m2 fun b m3 => if b = true then ev Y elt r1 m3 fun e m4 => K (some e) m4 else K none m3) = T at q2
  generalize hF : lcEnd mu p Qd = F at q2
  refine ⟨fun i n H => ∃ m acc, lcL G T p (ds.drop i) acc m F ∧ MemOk X.K m H ∧ Step m1 H1 m H ∧ acc.length ≤ i ∧ i ≤ ds.length ∧ n = ds.length - i ∧ H p ≠ none, ⟨ds.length, put m1 p (.lst []), [], by simpa using q2, hm1.newLst hD (by simp [Reps]), Step.newLst hD, Nat.le_refl _, Nat.zero_le _, by omega, by rw [upd_same]; exact fun z => (nomatch z)⟩, fun i n H ⟨m, acc, ql, hm, st, ha, hi, hn, hpn⟩ => ?_⟩
  cases ed : ds.drop i with
  | nil =>
    have el : ds.length = i := by
      have := congrArg List.length ed
      simp at this
      omega
    rw [ed] at ql
    simp only [lcL] at ql
    obtain ⟨g, hp, qf⟩ := ql
    have hstop := wk.st m H g hm st
    rw [el] at hstop
    refine .inl ⟨hstop, ?_⟩
    rw [← hF] at qf
    cases mu with
    | true => exact fin _ _ _ _ qf rep_ref hm (st1.trans st)
    | false =>
      obtain ⟨f1, f2, f3⟩ := freeze hm hp
      exact fin _ _ _ _ qf f3 f1 (st1.trans (st.trans f2))
  | cons d ds' =>
    have hlt : i < ds.length := by
      have := congrArg List.length ed
      simp at this
      omega
    have hd : ds[i]? = some d := by
      have := List.drop_eq_getElem_cons hlt
      rw [ed] at this
      rw [List.getElem?_eq_getElem hlt]
      injection this with h1 h2
      rw [h1]
    have hds : ds' = ds.drop (i + 1) := by
      have := List.drop_eq_getElem_cons hlt
      rw [ed] at this
      injection this
    rw [ed] at ql
    simp only [lcL] at ql
    obtain ⟨g, qt⟩ := ql
    refine .inr ⟨wk.go i d m H hd g hm st, fun H' => ∃ m acc, lcL G T p ds' acc m F ∧ MemOk X.K m H' ∧ Step m1 H1 m H' ∧ acc.length ≤ i + 1 ∧ H' p ≠ none, fun H' ⟨m', acc', z1, z2, z3, z4, z5⟩ => ⟨ds.length - (i + 1), by omega, m', acc', by rw [← hds]; exact z1, z2, z3, z4, by omega, rfl, z5⟩, fun x H' hy => ?_⟩
    obtain ⟨hm', st', rx⟩ := wk.yl i d m H x H' hd g hm st hy
    rw [← hT] at qt
    refine ⟨wipeD r own, m, d, _, (he.step (st1.trans (st.trans st')) hm').wipe own, rx, qt, fun r' σ' qk he' ho => ⟨(ho own hsub).trans (wipe_idem own), r', m, _, he', qk, fun b m3 H3 q3 hm3 s3 => ?_⟩⟩
    cases b with
    | true =>
      rw [if_pos rfl] at q3 ⊢
      refine ⟨r', m3, _, he'.step s3 hm3, q3, fun e m4 y H4 ⟨hp, q4⟩ ry hm4 s4 => ?_⟩
      obtain ⟨vs, hH, rs⟩ := hm4 p _ hp
      have sw := Step.write (o := HO.lst (vs ++ [y])) (c' := .lst (acc ++ [e])) (H := H4) hp
      refine ⟨vs, hH, ?_, put m4 p (.lst (acc ++ [e])), acc ++ [e], by rw [← hT]; exact q4, hm4.writeLst hp (rs.append (by simp only [Reps]; exact ⟨y, [], rfl, ry, rfl⟩)), st.trans (st'.trans (s3.trans (s4.trans sw))), by simp; omega, by rw [upd_same]; exact fun z => (nomatch z)⟩
      rw [rs.length]
      have := wk.len
      omega
    | false =>
      rw [if_neg Bool.false_ne_true] at q3 ⊢
      obtain ⟨hp, q4⟩ := q3
      obtain ⟨vs, hH, rs⟩ := hm3 p _ hp
      exact ⟨m3, acc, by rw [← hT]; exact q4, hm3, st.trans (st'.trans s3), by omega, by rw [hH]; exact fun z => (nomatch z)⟩
theorem r_lc {mu : Bool} {elt : E} {t : Tg} {it : Ita} {ifs : List E} {own : List Nat} {oP : List (Str × Nat)} {elx tgx itx : Expr} {ifx : List Expr} {scope : Scope} (hc : X.calm = true) (hN : X.N.Nodup) (hi : PI X tgx itx (tIt X.K Y it)) (ok : BlkOk X.N X.env.scope scope oP) (ho : oP.map (·.2) = own) (hsub : ∀ i ∈ t.slots, i ∈ own)
    (hg : ∀ (s : Shared) (H : Hp) (C : Addr) (cl : List (Str × Addr)) (fp : List Addr), PG (X.blk s H scope (compEnvC scope cl C X.env) fp) tgx (tTg X.K t)) (ht : ∀ (s : Shared) (H : Hp) (C : Addr) (cl : List (Str × Addr)) (fp : List Addr), PTs (X.blk s H scope (compEnvC scope cl C X.env) fp) ifx (tTs X.K Y ifs))
    (he : ∀ (s : Shared) (H : Hp) (C : Addr) (cl : List (Str × Addr)) (fp : List Addr), PE (X.blk s H scope (compEnvC scope cl C X.env) fp) elx (tE X.K Y elt)) (hs : ∀ x, foldedSetIterable itx X.env x = pure x) :
    PE X (.ListComp elx [⟨tgx, itx, ifx, 0⟩] scope pos) (tE X.K Y (.lc mu elt t it ifs own)) :=
  (pe_lc hc hN hi ok hg ht he hs).imp fun σ H Q _ h => by rw [ho]; exact lc_of hsub h
def notSet : Expr → Bool
  | .Set .. => false
  | _ => true
theorem set_no {itx : Expr} {env : PySem.Env} (h : notSet itx = true) (x : Value) : foldedSetIterable itx env x = pure x := by
  cases itx <;> first
    | rfl
    | cases h
theorem ts_nil : PTs X [] (tTs X.K Y []) := pts_nil.imp fun σ H Q _ ⟨r, m, Qd, he, q, f⟩ => f true m H (by simpa only [evT] using q) he.mem Step.refl
theorem ts_one (h1 : PT X e (tTst X.K Y a)) : PTs X [e] (tTs X.K Y [a]) := (pts_one h1).imp fun σ H Q _ ⟨r, m, Qd, he, q, f⟩ => by
  simp only [evT] at q
  refine ⟨r, m, fun k m1 => if k = true then Qd true m1 else Qd false m1, he, q, fun k m1 H1 q1 hm s => ?_⟩
  cases k with
  | true => exact f true m1 H1 q1 hm s
  | false => exact f false m1 H1 q1 hm s
end
end Og
end
section
set_option maxHeartbeats 4000000
set_option autoImplicit false
/-! Og: statements by data. -/
namespace Og
open PySem PySem.Spec PyProof.Rows L2

def notComp : Expr → Bool
  | .ListComp .. => false | .SetComp .. => false | .DictComp .. => false
  | _ => true
theorem swap_no {e : Expr} {tg : Option Expr} {l : Nat} {env : PySem.Env} (h : notComp e = true) : swapsWith e tg l env = pure false := by
  cases e <;> first
    | rfl
    | cases h
def notName : Expr → Bool
  | .Name .. => false
  | _ => true
theorem swap_tg {e tg : Expr} {l : Nat} {env : PySem.Env} (h : notName tg = true) : swapsWith e (some tg) l env = pure false := by
  cases e <;> first
    | rfl
    | (cases tg <;> first
        | rfl
        | cases h)
/-- the store goes over -/
def swapB (sc : Scope) (scope : Scope) (t : Str) (l1 l2 : Nat) : Bool := decide (sc.kind = .function) && (sc.names.lookup t == some .local) && (l1 == l2) && !(scope.names.any fun (n, k) => n == t && (k == .local || k == .cell))
theorem blockFn {env : PySem.Env} (h : env.scope.kind = .function) : env.blockKind = .function := by
  unfold PySem.Env.blockKind
  rw [h]; rfl
theorem swap_lc {elt : Expr} {gens : List Comprehension} {scope : Scope} {pos tp : Pos} {t : Str} {l : Nat} {env : PySem.Env} (hk : env.scope.kind = .function) :
    swapsWith (.ListComp elt gens scope pos) (some (.Name t tp)) l env = pure (swapB env.scope scope t tp.line pos.line) := by
  unfold swapsWith swapB
  have h1 := blockFn hk
  simp only [h1, hk, decide_true, Bool.true_and]
  first | rfl | (show pure _ = pure _; congr 1)
/-- stores from the right: a pair, a triple of local names on one line -/
def parB (sc : Scope) (xs : List (Str × Pos)) (es : List Expr) : Bool :=
  decide (sc.kind = .function) && xs.all (fun x => sc.names.lookup x.1 == some .local) && (match xs with | x :: r => r.all fun y => y.2.line == x.2.line | [] => false) && decide (xs.map (·.1)).Nodup && es.all notStar && !(es.all (foldedForSure 8)) && !(es.all (constantsAlone 8))
theorem eraseDups_nodup : ∀ {l : List Str}, l.Nodup → l.eraseDups = l
  | [], _ => rfl
  | a :: l, h => by
    rw [List.eraseDups_cons]
    have h' := List.nodup_cons.mp h
    have e : l.filter (fun b => !b == a) = l := List.filter_eq_self.mpr fun b hb => by
      have : b ≠ a := fun z => h'.1 (z ▸ hb)
      simp [this]
    rw [e, eraseDups_nodup h'.2]
theorem any_plain {es : List Expr} (h : es.all notStar = true) (g : Expr → Bool) (hg : ∀ e, notStar e = true → g e = false) : es.any g = false := by
  rw [List.any_eq_false]
  intro e he
  rw [hg e (List.all_eq_true.mp h e he)]
  exact Bool.false_ne_true
theorem names_of {xs : List (Str × Pos)} (g : Expr → Option Str) (h : ∀ x ∈ xs, g (.Name x.1 x.2) = some x.1) : (xs.map fun x => Expr.Name x.1 x.2).filterMap g = xs.map (·.1) := by
  induction xs with
  | nil => rfl
  | cons y r ih =>
    simp only [List.map_cons, List.filterMap_cons]
    rw [h y List.mem_cons_self]
    simp only
    rw [ih fun x hx => h x (List.mem_cons_of_mem _ hx)]
theorem par_look {env : PySem.Env} {xs : List (Str × Pos)} {es : List Expr} {k k2 : Nat} {tp vp : Pos} (hl : xs.length = 2 ∨ xs.length = 3) (hn : es.length = xs.length) (h : parB env.scope xs es = true) :
    swappedStores [.Tuple (xs.map fun x => .Name x.1 x.2) k tp] (.Tuple es k2 vp) env = pure (some (xs.map (·.1))) := by
  unfold parB at h
  simp only [Bool.and_eq_true, decide_eq_true_eq, Bool.not_eq_true'] at h
  obtain ⟨⟨⟨⟨⟨⟨h1, h2⟩, h3⟩, h4⟩, h5⟩, h6⟩, h7⟩ := h
  have hb := blockFn h1
  have line : ∀ x ∈ xs, (x.2.line == (((xs.map fun x => Expr.Name x.1 x.2).head?.map (·.pos.line)).getD 0)) = true := by
    cases xs with
    | nil => intro x hx; cases hx
    | cons y r =>
      intro x hx
      show (x.2.line == y.2.line) = true
      rcases List.mem_cons.mp hx with z | z
      · rw [z]; exact beq_self_eq_true _
      · exact List.all_eq_true.mp h3 x z
  have loc : ∀ x ∈ xs, (env.kindOf x.1 == some .local) = true := fun x hx => List.all_eq_true.mp h2 x hx
  unfold swappedStores
  simp only [List.length_map]
  have c1 : (!(xs.length == 2 || xs.length == 3) || es.length != xs.length || env.blockKind != .function) = false := by
    rw [hb, hn]
    rcases hl with z | z <;> rw [z] <;> rfl
  rw [if_neg (by rw [c1]; exact Bool.false_ne_true), if_neg (by rw [any_plain h5 _ (fun e he => by cases e <;> first | rfl | cases he)]; exact Bool.false_ne_true)]
  rw [names_of _ (fun x hx => by
    show (if (env.kindOf x.1 == some .local && x.2.line == (((xs.map fun x => Expr.Name x.1 x.2).head?.map (·.pos.line)).getD 0)) = true then some x.1 else none) = some x.1
    rw [loc x hx, line x hx]; rfl)]
  rw [if_neg (by simp [eraseDups_nodup h4]), if_neg (by rw [h6]; exact Bool.false_ne_true), if_neg (by rw [h7]; exact Bool.false_ne_true)]

section
variable {X : Cx} {Y : Ctx} {pos : Pos} {e : Expr} {a : E} {st : Stmt} {rest : List Stmt} {s : S} {ss : List S}
theorem s_ret (h : PE X e (tE X.K Y a)) : PS X (.Return (some e) pos) (tS X.K Y (.ret a)) := (ps_ret h).imp fun D σ H _ ⟨r, m, k, he, q, f⟩ => by
  simp only [ex] at q
  exact ⟨r, m, k.rt, he, q, f.rt⟩
theorem s_retN : PS X (.Return none pos) (tS X.K Y .retN) := ps_retN.imp fun D σ H _ ⟨r, m, k, he, q, f⟩ => by
  simp only [ex] at q
  exact f.rt.here he.mem rep_non q
theorem s_asg {tg : Expr} {t : Tg} (h : PE X e (tE X.K Y a)) (hg : PG X tg (tTg X.K t)) (hst : notStarT tg = true) (hs : swapsWith e (some tg) pos.line X.env = pure false) (hw : swappedStores [tg] e X.env = pure none) : PS X (.Assign [tg] e pos) (tS X.K Y (.asg t a)) :=
  (ps_asg h hg hs hw (by rw [assign_no hst]; rfl)).imp fun D σ H _ ⟨r, m, k, he, q, f⟩ => by
    simp only [ex] at q
    exact ⟨r, m, _, he, q, fun d m1 v H1 q1 rv hm s => ⟨r, m1, d, _, he.step s hm, rv, q1, fun r' σ' q' he' _ => f.nx _ _ _ _ q' he' s⟩⟩
theorem s_asgC {i : Nat} {y : Str} {py : Pos} {mu : Bool} {elt : E} {t : Tg} {it : Ita} {ifs : List E} {own : List Nat} {oP : List (Str × Nat)} {elx tgx itx : Expr} {ifx : List Expr} {scope : Scope} {lpos : Pos} (hc : X.calm = true) (hN : X.N.Nodup) (hk : X.env.scope.kind = .function) (hy : X.N[i]? = some y) (hyl : X.env.scope.names.lookup y = some .local)
    (hsw : swapB X.env.scope scope y py.line lpos.line = true) (hi : PI X tgx itx (tIt X.K Y it)) (ok : BlkOk X.N X.env.scope scope oP) (ho : oP.map (·.2) = own) (hsub : ∀ i ∈ t.slots, i ∈ own)
    (hg : ∀ (s : Shared) (H : Hp) (C : Addr) (cl : List (Str × Addr)) (fp : List Addr), PG (X.blk s H scope (compEnvC scope cl C X.env) fp) tgx (tTg X.K t)) (ht : ∀ (s : Shared) (H : Hp) (C : Addr) (cl : List (Str × Addr)) (fp : List Addr), PTs (X.blk s H scope (compEnvC scope cl C X.env) fp) ifx (tTs X.K Y ifs))
    (he : ∀ (s : Shared) (H : Hp) (C : Addr) (cl : List (Str × Addr)) (fp : List Addr), PE (X.blk s H scope (compEnvC scope cl C X.env) fp) elx (tE X.K Y elt)) (hs : ∀ x, foldedSetIterable itx X.env x = pure x) :
    PS X (.Assign [.Name y py] (.ListComp elx [⟨tgx, itx, ifx, 0⟩] scope lpos) pos) (tS X.K Y (.asgC i (.lc mu elt t it ifs own))) :=
  (ps_setLc hc hN hy hyl (by rw [swap_lc hk, hsw]) hi ok hg ht he hs).imp fun D σ H _ ⟨r, m, k, he, q, f⟩ => by
    simp only [ex] at q
    rw [ho]
    exact lc_of hsub ⟨r, m, _, he, q, fun d m1 v H1 q1 rv hm s => f.nx _ _ _ _ q1 ((he.step s hm).set i rv) s⟩
theorem s_par2 {i j : Nat} {x y : Str} {b1 b2 : Expr} {cs : List E} {px py pt pt2 : Pos} {kt k2 : Nat} (hc : X.calm = true) (hN : X.N.Nodup) (hi : X.N[i]? = some x) (hj : X.N[j]? = some y) (hb : parB X.env.scope [(x, px), (y, py)] [b1, b2] = true) (ha : PA X [b1, b2] (tAs X.K Y cs)) :
    PS X (.Assign [.Tuple [.Name x px, .Name y py] kt pt] (.Tuple [b1, b2] k2 pt2) pos) (tS X.K Y (.par [i, j] cs)) := by
  have hw : swappedStores [.Tuple [.Name x px, .Name y py] kt pt] (.Tuple [b1, b2] k2 pt2) X.env = pure (some [x, y]) := par_look (xs := [(x, px), (y, py)]) (.inl rfl) rfl hb
  unfold parB at hb
  simp only [Bool.and_eq_true, decide_eq_true_eq, List.all_cons, List.all_nil, beq_iff_eq] at hb
  obtain ⟨⟨⟨⟨⟨⟨h1, h2⟩, h3⟩, h4⟩, h5⟩, h6⟩, h7⟩ := hb
  have ne : x ≠ y := by simpa using h4
  have hij : i ≠ j := fun z => ne (by rw [z, hj] at hi; exact (Option.some.inj hi).symm)
  refine (ps_par hc hN hi hj hij h2.1 h2.2.1 ha hw rfl).imp fun D σ H _ ⟨r, m, k, he, q, f⟩ => ?_
  simp only [ex] at q
  refine ⟨r, m, _, he, q, fun ds m1 vs H1 ⟨hl, q1⟩ rs hm s => ?_⟩
  match ds, hl, q1, rs with
  | [d1, d2], _, q1, rs =>
    simp only [Reps] at rs
    obtain ⟨v, r1, rfl, rv, w, r2, rfl, rw', rfl⟩ := rs
    exact ⟨v, w, rfl, f.nx _ _ _ _ q1 (((he.step s hm).set i rv).set j rw') s⟩
theorem s_par3 {i j l : Nat} {x y z : Str} {b1 b2 b3 : Expr} {cs : List E} {px py pz pt pt2 : Pos} {kt k2 : Nat} (hc : X.calm = true) (hN : X.N.Nodup) (hi : X.N[i]? = some x) (hj : X.N[j]? = some y) (hl : X.N[l]? = some z) (hb : parB X.env.scope [(x, px), (y, py), (z, pz)] [b1, b2, b3] = true) (ha : PA X [b1, b2, b3] (tAs X.K Y cs)) :
    PS X (.Assign [.Tuple [.Name x px, .Name y py, .Name z pz] kt pt] (.Tuple [b1, b2, b3] k2 pt2) pos) (tS X.K Y (.par [i, j, l] cs)) := by
  have hw : swappedStores [.Tuple [.Name x px, .Name y py, .Name z pz] kt pt] (.Tuple [b1, b2, b3] k2 pt2) X.env = pure (some [x, y, z]) := par_look (xs := [(x, px), (y, py), (z, pz)]) (.inr rfl) rfl hb
  unfold parB at hb
  simp only [Bool.and_eq_true, decide_eq_true_eq, List.all_cons, List.all_nil, beq_iff_eq] at hb
  obtain ⟨⟨⟨⟨⟨⟨h1, h2⟩, h3⟩, h4⟩, h5⟩, h6⟩, h7⟩ := hb
  have ne : (x ≠ y ∧ x ≠ z) ∧ y ≠ z := by simpa using h4
  have hij : i ≠ j := fun e => ne.1.1 (by rw [e, hj] at hi; exact (Option.some.inj hi).symm)
  have hil : i ≠ l := fun e => ne.1.2 (by rw [e, hl] at hi; exact (Option.some.inj hi).symm)
  have hjl : j ≠ l := fun e => ne.2 (by rw [e, hl] at hj; exact (Option.some.inj hj).symm)
  refine (ps_par3 hc hN hi hj hl hij hil hjl h2.1 h2.2.1 h2.2.2.1 ha hw rfl).imp fun D σ H _ ⟨r, m, k, he, q, f⟩ => ?_
  simp only [ex] at q
  refine ⟨r, m, _, he, q, fun ds m1 vs H1 ⟨hl, q1⟩ rs hm s => ?_⟩
  match ds, hl, q1, rs with
  | [d1, d2, d3], _, q1, rs =>
    simp only [Reps] at rs
    obtain ⟨v, r1, rfl, rv, w, r2, rfl, rw', u, r3, rfl, ru, rfl⟩ := rs
    exact ⟨v, w, u, rfl, f.nx _ _ _ _ q1 ((((he.step s hm).set i rv).set j rw').set l ru) s⟩
theorem s_setIx {o ix : Expr} {b c : E} {tp : Pos} (h : PE X e (tE X.K Y c)) (ho : PE X o (tE X.K Y a)) (hi : PE X ix (tE X.K Y b)) (hns : notSlice ix = true) : PS X (.Assign [.Subscript o ix tp] e pos) (tS X.K Y (.setIx a b c)) := by
  have hw : swappedStores [.Subscript o ix tp] e X.env = pure none := by cases e <;> rfl
  have hsw : swapsWith e (some (.Subscript o ix tp)) pos.line X.env = pure false := swap_tg rfl
  refine (ps_asg h (pg_sub ho hi set_list (by intro v; cases ix <;> first | rfl | cases hns)) hsw hw rfl).imp fun D σ H _ ⟨r, m, k, he, q, f⟩ => ?_
  simp only [ex] at q
  refine ⟨r, m, _, he, q, fun d m1 v H1 q1 rv hm s => ⟨r, m1, _, he.step s hm, q1, fun d2 m2 w H2 q2 rw' hm2 s2 => ⟨r, m2, _, he.step (s.trans s2) hm2, q2, fun d3 m3 u H3 ⟨p, ds, kk, j, e1, e2, hp, hix, q3⟩ ru hm3 s3 => ?_⟩⟩⟩
  subst e1 e2
  obtain ⟨vs, hH, rs⟩ := hm3 p _ hp
  have rw3 := (Rep.step s3 _ _ rw').ref
  refine ⟨p, vs, kk, j, rw3, ru.int, hH, by rw [rs.length]; exact hix, ?_⟩
  have sw := Step.write (o := HO.lst (vs.set j v)) (c' := .lst (ds.set j d)) (H := H3) hp
  have hm4 := hm3.writeLst hp (rs.set j (Rep.step (s2.trans s3) _ _ rv))
  exact f.nx _ _ _ _ q3 (he.step (s.trans (s2.trans (s3.trans sw))) hm4) (s.trans (s2.trans (s3.trans sw)))
theorem stL_ok {K : PySem.W.Frag} {m : Mem} {H : Hp} {x z d : D} {v w u : V} {Qm : Mem → Prop} (hm : MemOk K m H) (rx : Rep K m H w x) (rz : Rep K m H u z) (rd : Rep K m H v d) (h : stL x z d m Qm) :
    ∃ p vs kk j m', w = .ref p ∧ u = .int kk ∧ H p = some (.lst vs) ∧ ixN vs.length kk = some j ∧ Qm m' ∧ MemOk K m' (upd H p (.lst (vs.set j v))) ∧ Step m H m' (upd H p (.lst (vs.set j v))) := by
  obtain ⟨p, ds, kk, j, rfl, rfl, hp, hix, q⟩ := h
  obtain ⟨vs, hH, rs⟩ := hm p _ hp
  exact ⟨p, vs, kk, j, _, rx.ref, rz.int, hH, by rw [rs.length]; exact hix, q, hm.writeLst hp (rs.set j rd), Step.write hp⟩
/-- a[i], b[j] = e -/
theorem s_setIx2 {o1 i1 o2 i2 : Expr} {b c d e2 : E} {t1 t2 tp : Pos} {kt : Nat} (hc : X.calm = true) (h : PE X e (tE X.K Y e2)) (ho1 : PE X o1 (tE X.K Y a)) (hi1 : PE X i1 (tE X.K Y b)) (ho2 : PE X o2 (tE X.K Y c)) (hi2 : PE X i2 (tE X.K Y d)) (hs : notComp e = true) (n1 : notSlice i1 = true) (n2 : notSlice i2 = true)
    (hw : swappedStores [.Tuple [.Subscript o1 i1 t1, .Subscript o2 i2 t2] kt tp] e X.env = pure none) : PS X (.Assign [.Tuple [.Subscript o1 i1 t1, .Subscript o2 i2 t2] kt tp] e pos) (tS X.K Y (.setIx2 a b c d e2)) := by
  have g1 := pg_sub (pos := t1) ho1 hi1 set_list (by intro v; cases i1 <;> first | rfl | cases n1)
  have g2 := pg_sub (pos := t2) ho2 hi2 set_list (by intro v; cases i2 <;> first | rfl | cases n2)
  have hsw : swapsWith e (some (.Tuple [.Subscript o1 i1 t1, .Subscript o2 i2 t2] kt tp)) pos.line X.env = pure false := swap_no hs
  refine (ps_asg h (pg_tup (n := 2) hc (pgs_cons g1 (pgs_cons g2 pgs_nil rfl) rfl) rfl rfl) hsw hw rfl).imp fun Dk σ H _ ⟨r, m, k, he, q, f⟩ => ?_
  simp only [ex] at q
  refine ⟨r, m, _, he, q, fun y m1 v H1 ⟨d1, d2, ey, q1⟩ rv hm1 s1 => ?_⟩
  subst ey
  obtain ⟨ad, xs, ev, hq, rs⟩ := rv.tup
  simp only [Reps] at rs
  obtain ⟨v1, r1, rfl, p1, v2, r2, rfl, p2, rfl⟩ := rs
  refine ⟨ad, _, ev, hq.sq, rfl, v1, _, rfl, r, m1, _, he.step s1 hm1, q1, fun x m2 w H2 q2 rx hm2 s2 => ⟨r, m2, _, he.step (s1.trans s2) hm2, q2, fun z m3 u H3 q3 rz hm3 s3 => ?_⟩⟩
  obtain ⟨p, vs, kk, j, m4, e1, e2, hH, hix, q4, hm4, s4⟩ := stL_ok hm3 (Rep.step s3 _ _ rx) rz (Rep.step (s2.trans s3) _ _ p1) q3
  refine ⟨p, vs, kk, j, e1, e2, hH, hix, v2, _, rfl, r, m4, _, he.step (s1.trans (s2.trans (s3.trans s4))) hm4, q4, fun x2 m5 w5 H5 q5 rx5 hm5 s5 => ⟨r, m5, _, he.step (s1.trans (s2.trans (s3.trans (s4.trans s5)))) hm5, q5, fun z6 m6 u6 H6 q6 rz6 hm6 s6 => ?_⟩⟩
  obtain ⟨p7, vs7, kk7, j7, m7, e71, e72, hH7, hix7, q7, hm7, s7⟩ := stL_ok hm6 (Rep.step s6 _ _ rx5) rz6 (Rep.step (s2.trans (s3.trans (s4.trans (s5.trans s6)))) _ _ p2) q6
  have all := s1.trans (s2.trans (s3.trans (s4.trans (s5.trans (s6.trans s7)))))
  exact ⟨p7, vs7, kk7, j7, e71, e72, hH7, hix7, rfl, f.nx _ _ _ _ q7 (he.step all hm7) all⟩
theorem s_setAt {o : Expr} {c : E} {cl i : Nat} {x : Str} {pd : Addr} {tp : Pos} (kc : SlX.SCls X.K (Y.cls cl)) (kt : SlX.Slot1 X.K (Y.cls cl) x pd i) (h : PE X e (tE X.K Y c)) (ho : PE X o (tE X.K Y a)) : PS X (.Assign [.Attribute o x tp] e pos) (tS X.K Y (.setAt a cl i c)) := by
  refine (SlX.ps_sl ho h (swap_tg rfl)).imp fun D σ H _ ⟨r, m, k, he, q, f⟩ => ?_
  simp only [ex] at q
  refine ⟨r, m, _, he, q, fun d m1 v H1 q1 rv hm s => ⟨r, m1, _, he.step s hm, q1, fun d2 m2 w H2 ⟨p, dx, fs, e1, hp, q2⟩ rw' hm2 s2 => ?_⟩⟩
  subst e1
  obtain ⟨vs, hs, rs⟩ := obj_val hm2 hp
  have sw := Step.writeObj (vs := SlX.putS i v vs) (c' := .obj (Y.cls cl) dx (putF i d fs)) (H := H2) hp (hm2.dxAt hp).1
  have hm3 := hm2.writeObj hp (rs.put i (Rep.step s2 _ _ rv))
  exact ⟨p, _, dx, pd, vs, i, rw'.ref, hs, kc, kt, f.nx _ _ _ _ q2 (he.step (s.trans (s2.trans sw)) hm3) (s.trans (s2.trans sw))⟩
theorem s_ex (hs : notComp e = true) (h : PE X e (tE X.K Y a)) : PS X (.Expr e pos) (tS X.K Y (.ex a)) := (ps_expr h (swap_no hs)).imp fun D σ H _ ⟨r, m, k, he, q, f⟩ => by
  simp only [ex] at q
  exact ⟨r, m, _, he, q, fun d m1 v H1 q1 rv hm s => f.nx _ _ _ _ q1 (he.step s hm) s⟩
theorem s_pass : PS X (.Pass pos) (tS X.K Y .pass) := ps_pass.imp fun D σ H _ ⟨r, m, k, he, q, f⟩ => by
  simp only [ex] at q
  exact f.nx _ _ _ _ q he Step.refl
theorem s_brk : PS X (.Break pos) (tS X.K Y .brk) := ps_break.imp fun D σ H _ ⟨r, m, k, he, q, f⟩ => by
  simp only [ex] at q
  exact f.bk _ _ _ _ q he Step.refl
theorem s_cnt : PS X (.Continue pos) (tS X.K Y .cnt) := ps_continue.imp fun D σ H _ ⟨r, m, k, he, q, f⟩ => by
  simp only [ex] at q
  exact f.ct _ _ _ _ q he Step.refl
theorem s_never : PS X st (tS X.K Y .never) := ps_never.imp fun D σ H _ ⟨r, m, k, he, q, f⟩ => by
  simp only [ex] at q
theorem ss_nil : PSs X [] (tSs X.K Y []) := pss_nil.imp fun D σ H _ ⟨r, m, k, he, q, f⟩ => by
  simp only [exs] at q
  exact f.nx _ _ _ _ q he Step.refl
theorem ss_cons (h1 : PS X st (tS X.K Y s)) (h2 : PSs X rest (tSs X.K Y ss)) : PSs X (st :: rest) (tSs X.K Y (s :: ss)) := (pss_cons h1 h2).imp fun D σ H _ ⟨r, m, k, he, q, f⟩ => by
  simp only [exs] at q
  exact ⟨r, m, _, he, q, ⟨fun r' m' σ' H' q' he' s' => ⟨r', m', k, he', q', f.mono s'⟩, f.bk, f.ct, f.rt⟩⟩
theorem s_ite {c : Expr} {cc : E} {b1 b2 : List Stmt} {c1 c2 : List S} (hc : PT X c (tTst X.K Y cc)) (h1 : PSs X b1 (tSs X.K Y c1)) (h2 : PSs X b2 (tSs X.K Y c2)) : PS X (.If c b1 b2 pos) (tS X.K Y (.ite cc c1 c2)) := (ps_if hc h1 h2).imp fun D σ H _ ⟨r, m, k, he, q, f⟩ => by
  simp only [ex] at q
  refine ⟨r, m, _, he, q, fun b m1 H1 q1 hm s => ?_⟩
  cases b with
  | true => exact ⟨r, m1, k, he.step s hm, q1, f.mono s⟩
  | false => exact ⟨r, m1, k, he.step s hm, q1, f.mono s⟩
theorem s_while {c : Expr} {cc : E} {b1 : List Stmt} {c1 : List S} (hp : PassesOwn (model X.prog X.w) X.A X.env X.xe) (hc : PT X c (tTst X.K Y cc)) (h1 : PSs X b1 (tSs X.K Y c1)) : PS X (.While c b1 [] pos) (tS X.K Y (.while_ cc c1)) := (ps_while hp hc h1).imp fun D σ H _ ⟨r, m, k, he, q, f⟩ => by
  simp only [ex] at q
  obtain ⟨n, q⟩ := q
  refine ⟨fun n σ' H' => ∃ r' m', REnv X.K r' m' σ' H' ∧ whL (fun r m Q => evB Y cc r m Q) (fun r m K => exs Y c1 r m K) n r' m' k ∧ Step m H m' H', ⟨n, r, m, he, q, Step.refl⟩, fun n σ1 H1 ⟨r1, m1, he1, q1, st⟩ => ?_⟩
  cases n with
  | zero => exact q1.elim
  | succ n =>
    simp only [whL] at q1
    refine ⟨r1, m1, _, he1, q1, fun b m2 H2 q2 hm2 s2 => ?_⟩
    cases b with
    | true =>
      refine ⟨fun σ' H' => ∃ r' m', REnv X.K r' m' σ' H' ∧ whL (fun r m Q => evB Y cc r m Q) (fun r m K => exs Y c1 r m K) n r' m' k ∧ Step m H m' H', fun σ' H' z => ⟨n, Nat.lt_succ_self _, z⟩, r1, m2, _, he1.step s2 hm2, q2, ?_⟩
      have s3 := st.trans s2
      exact ⟨fun r' m' σ' H' q' he' s' => ⟨r', m', he', q', s3.trans s'⟩, fun r' m' σ' H' q' he' s' => f.nx _ _ _ _ q' he' (s3.trans s'), fun r' m' σ' H' q' he' s' => ⟨r', m', he', q', s3.trans s'⟩, f.rt.mono s3⟩
    | false => exact f.nx _ _ _ _ q2 (he1.step s2 hm2) (st.trans s2)
theorem s_for {tg it : Expr} {t : Tg} {ic : Ita} {b1 : List Stmt} {c1 : List S} (hp : PassesOwn (model X.prog X.w) X.A X.env X.xe) (hc : X.calm = true) (hi : PI X tg it (tIt X.K Y ic)) (hg : PG X tg (tTg X.K t)) (h1 : PSs X b1 (tSs X.K Y c1)) (hs : notSet it = true) : PS X (.For tg it b1 [] pos) (tS X.K Y (.for_ t ic c1)) :=
  (ps_for hp hc hi hg h1 (set_no hs)).imp fun Dk σ H _ ⟨r, m, k, he, q, f⟩ => by
    simp only [ex] at q
    refine ⟨r, m, _, he, q, fun ds G m1 J H1 q1 hm1 st1 wk => ?_⟩
    generalize hT : (fun (d : Og.D) (r : Rho) (m : Mem) (K : Kt) => setT t d r fun r1 => exs Y c1 r1 m K) = T at q1
    refine ⟨fun i n σ' H' => ∃ r' m', REnv X.K r' m' σ' H' ∧ forL G T (ds.drop i) r' m' k ∧ Step m1 H1 m' H' ∧ i ≤ ds.length ∧ n = ds.length - i, ⟨ds.length, r, m1, he.step st1 hm1, by simpa using q1, Step.refl, Nat.zero_le _, by omega⟩, fun i n σ' H' ⟨r', m', he', q', st', hi', hn⟩ => ?_⟩
    cases ed : ds.drop i with
    | nil =>
      have el : ds.length = i := by
        have := congrArg List.length ed
        simp at this
        omega
      rw [ed] at q'
      simp only [forL] at q'
      have hstop := wk.st m' H' q'.1 he'.mem st'
      rw [el] at hstop
      exact .inl ⟨hstop, f.nx _ _ _ _ q'.2 he' (st1.trans st')⟩
    | cons d ds' =>
      have hlt : i < ds.length := by
        have := congrArg List.length ed
        simp at this
        omega
      have hd : ds[i]? = some d := by
        have := List.drop_eq_getElem_cons hlt
        rw [ed] at this
        rw [List.getElem?_eq_getElem hlt]
        injection this with h1 h2
        rw [h1]
      have hds : ds' = ds.drop (i + 1) := by
        have := List.drop_eq_getElem_cons hlt
        rw [ed] at this
        injection this
      rw [ed] at q'
      simp only [forL] at q'
      obtain ⟨g, qt⟩ := q'
      refine .inr ⟨wk.go i d m' H' hd g he'.mem st', fun σ2 H2 => ∃ r2 m2, REnv X.K r2 m2 σ2 H2 ∧ forL G T ds' r2 m2 k ∧ Step m1 H1 m2 H2, fun σ2 H2 ⟨r2, m2, z1, z2, z3⟩ => ⟨ds.length - (i + 1), by omega, r2, m2, z1, by rw [← hds]; exact z2, z3, by omega, rfl⟩, fun x H2 hy => ?_⟩
      obtain ⟨hm2, st2, rx⟩ := wk.yl i d m' H' x H2 hd g he'.mem st' hy
      have s2 := st1.trans (st'.trans st2)
      rw [← hT] at qt
      refine ⟨r', m', d, _, he'.step st2 hm2, rx, qt, fun r3 σ3 q3 he3 _ => ⟨r3, m', _, he3, q3, ?_⟩⟩
      have go : ∀ r4 m4 σ4 H4, forL G (fun (d : Og.D) (r : Rho) (m : Mem) (K : Kt) => setT t d r fun r1 => exs Y c1 r1 m K) ds' r4 m4 k → REnv X.K r4 m4 σ4 H4 → Step m' H2 m4 H4 → ∃ r2 m2, REnv X.K r2 m2 σ4 H4 ∧ forL G T ds' r2 m2 k ∧ Step m1 H1 m2 H4 := fun r4 m4 σ4 H4 q4 he4 s4 => ⟨r4, m4, he4, by rw [← hT]; exact q4, st'.trans (st2.trans s4)⟩
      exact ⟨go, fun r4 m4 σ4 H4 q4 he4 s4 => f.nx _ _ _ _ q4 he4 (s2.trans s4), go, f.rt.mono s2⟩
end
end Og
end
section
set_option maxHeartbeats 4000000
set_option autoImplicit false
/-! Og: tables, the look at a def's syntax, and that it says what the core term says. -/
namespace Og
open PySem PySem.Spec PyProof.Rows L2

inductive FK where
  | top (x : Str) | meth (c : Nat) (m : Str) | init (c : Nat)
structure Tb where
  gs : List Str
  fs : List (FK × Nat)
  cs : List (Str × List Str)
  kw : List (Nat × List Str × List Nat)
  bl : List Str

def FkOk (K : PySem.W.Frag) (mg : Str → Option Value) (Y : Ctx) (f : Addr) : FK → Prop
  | .top x => mg x = some (.ref f) ∧ PySem.W.keepIn K (.ref f) = true
  | .meth c m => Meth K (Y.cls c) m f
  | .init c => Mk K (Y.cls c) f
/-- what a division of long numbers asks of the heap -/
structure Seer3 (h : Heap) : Prop where
  statics : ∃ mc, h.Ns cStatics mc ∧ mc "sys.audit-hooks" = none ∧ mc "sys.dict" = none
  mods : ∃ mm, h.Ns sysModules mm ∧ mm "_pylong" = none
  main : ∃ mg bm ob, h.Ns mainGlobals mg ∧ mg "__builtins__" = some (.ref bm) ∧ h.get? bm = some ob ∧ ob.cls = .type "module" ∧ ob.dict = some builtinsNs
/-- what is known of the module -/
structure Fx (P : Program) (w : World) (K : PySem.W.Frag) (mg : Str → Option Value) (base : Heap) (T : Tb) (Y : Ctx) (k : Nat) : Prop where
  gs : ∀ (j : Nat) (x : Str), T.gs[j]? = some x → ∃ v u d, mg x = some u ∧ RelV v u ∧ Y.gd[j]? = some d ∧ ∀ m H, Rep K m H v d
  fs : ∀ (j : Nat) (q : FK) (n : Nat), T.fs[j]? = some (q, n) → ∃ (f : Addr) (fd : FuncData) (ps : List Str), FnG P w K mg base k f fd ps (spK K n (Y.fn j)) ∧ Binds K fd ps [] ∧ FkOk K mg Y f q ∧
    ∀ ks pm, (j, ks, pm) ∈ T.kw → KBinds K fd ps ks (kwG .none pm) (kwG .non pm)
  cs : ∀ (c : Nat) (x : Str) (sl : List Str), T.cs[c]? = some (x, sl) → mg x = some (.ref (Y.cls c)) ∧ SlX.SCls K (Y.cls c) ∧ ∀ (i : Nat) (f : Str), sl[i]? = some f → ∃ p, SlX.Slot1 K (Y.cls c) f p i
  bl : ∀ x ∈ T.bl, mg x = none
  sr : Seer3 base
  tr : P.given.tree = none
  lv : 40 ≤ k

structure XOk (T : Tb) (Y : Ctx) (k : Nat) (N : List Str) (sc : Scope) (X : Cx) : Prop where
  fx : Fx X.prog X.w X.K X.mg X.base T Y k
  scE : X.env.scope = sc
  kind : sc.kind = .function
  nE : X.N = N
  nd : N.Nodup
  calm : X.calm = true
  room : Room (k + 1) X.A
  gd : X.A.guards = some []
  stk : ∃ e l, X.stack = e :: l ∧ e.scope.isGenerator = false ∧ e.scope.isCoroutine = false ∧ e.builtins = builtinsNs ∧ e.globals = mainGlobals
/-- a comprehension's scope, as it runs -/
def relS (scope sc : Scope) : Scope := { scope with names := scope.names.map fun (n, k) => if (k == NameKind.free && sc.kind == .function && sc.names.lookup n == some .cell) then (n, NameKind.cell) else (n, k) }
theorem relS_of {scope : Scope} {env : PySem.Env} : PySem.relabel scope env = relS scope env.scope := rfl
theorem XOk.blk {T : Tb} {Y : Ctx} {k : Nat} {N : List Str} {sc : Scope} {X : Cx} (x : XOk T Y k N sc X) {scope : Scope} (hk : scope.kind = .function) (s : Shared) (H : Hp) (C : Addr) (cl : List (Str × Addr)) (fp : List Addr) :
    XOk T Y k N (relS scope sc) (X.blk s H scope (compEnvC scope cl C X.env) fp) :=
  ⟨x.fx, by show PySem.relabel scope X.env = _; rw [relS_of, x.scE], hk, x.nE, x.nd, x.calm, x.room, x.gd, x.stk⟩

/-! ### the look -/
def visB (sc : Scope) (x : Str) : Bool := match sc.names.lookup x with
  | some .local => true | some .cell => true | some .free => true
  | _ => false
def locB (sc : Scope) (x : Str) : Bool := match sc.names.lookup x with
  | some .local => true | some .cell => true
  | _ => false
def lclB (sc : Scope) (x : Str) : Bool := match sc.names.lookup x with
  | some .local => true
  | _ => false
def celB (sc : Scope) (x : Str) : Bool := match sc.names.lookup x with
  | some .cell => true
  | _ => false
def glB (sc : Scope) (x : Str) : Bool := match sc.names.lookup x with
  | some .globalImplicit => true
  | _ => false
def dbgB (x : Str) : Bool := !(x == ("__debug__" : Str))
def bltB (T : Tb) (sc : Scope) (x : Str) : Bool := glB sc x && decide (x ∈ T.bl)
def bopB : BOp → Operator → Bool := fun o p => decide (p = o.py)
def copB : COp → CmpOp → Bool := fun o p => decide (p = o.py)
def isiNm : List (Str × String) := [("int", "int"), ("bool", "bool"), ("tuple", "tuple"), ("str", "str"), ("list", "list"), ("dict", "dict")]
structure Rec where
  e : Scope → Expr → E → Bool
  t : Scope → Expr → E → Bool
def chkAnd (f : Expr → E → Bool) : List Expr → E → Bool
  | [e], c => f e c
  | e :: e2 :: r, .and a b => f e a && chkAnd f (e2 :: r) b
  | _, _ => false
def chkOr (f : Expr → E → Bool) : List Expr → E → Bool
  | [e], c => f e c
  | e :: e2 :: r, .or a b => f e a && chkOr f (e2 :: r) b
  | _, _ => false
def notStarE : E → Bool
  | .star _ => false
  | _ => true
def chkAs (f : Expr → E → Bool) : List Expr → List E → Bool
  | [], [] => true
  | .Starred e _ :: es, .star a :: cs => f e a && chkAs f es cs
  | e :: es, c :: cs => notStar e && notStarE c && f e c && chkAs f es cs
  | _, _ => false
def chkK (f : Expr → E → Bool) : List Keyword → List E → Bool
  | [], [] => true
  | k :: ks, c :: cs => notStarE c && f k.value c && chkK f ks cs
  | _, _ => false
def chkO (f : Expr → E → Bool) : Option Expr → Option E → Bool
  | none, none => true
  | some e, some c => f e c
  | _, _ => false
mutual
def chkTg (N : List Str) (sc fsc : Scope) : Tg → Expr → Bool
  | .nm i, e => (match e with
    | .Name x _ => decide (N[i]? = some x) && locB sc x && (lclB sc x || celB fsc x)
    | _ => false)
  | .tup ts, e => (match e with
    | .Tuple es _ _ => es.all notStarT && chkTgs N sc fsc ts es
    | _ => false)
def chkTgs (N : List Str) (sc fsc : Scope) : List Tg → List Expr → Bool
  | [], [] => true
  | t :: ts, e :: es => notStarT e && chkTg N sc fsc t e && chkTgs N sc fsc ts es
  | _, _ => false
end
def isTup : Expr → Bool
  | .Tuple .. => true
  | _ => false
def fkTop (T : Tb) (j : Nat) (x : Str) (n : Nat) : Bool := match T.fs[j]? with
  | some (.top y, k) => decide (y = x) && (k == n)
  | _ => false
def fkInit (T : Tb) (j c : Nat) (n : Nat) : Bool := match T.fs[j]? with
  | some (.init d, k) => (d == c) && (k == n)
  | _ => false
def fkMeth (T : Tb) (j c : Nat) (m : Str) (n : Nat) : Bool := match T.fs[j]? with
  | some (.meth d y, k) => (d == c) && decide (y = m) && (k == n)
  | _ => false
def clsB (T : Tb) (c : Nat) (x : Str) : Bool := match T.cs[c]? with
  | some (y, _) => decide (y = x)
  | _ => false
def slotB (T : Tb) (c i : Nat) (f : Str) : Bool := match T.cs[c]? with
  | some (_, sl) => decide (sl[i]? = some f)
  | _ => false
def isZ : E → Bool
  | .int i => i == 0
  | _ => false
section
variable (T : Tb) (N : List Str) (R : Rec)
def stepI (sc : Scope) (tg e : Expr) : Ita → Bool
  | .sq a => R.e sc e a
  | .rg1 a => (match e with
    | .Call (.Name x _) [e1] [] _ => decide (x = "range") && bltB T sc x && notStar e1 && R.e sc e1 a
    | _ => false)
  | .rg2 a b => (match e with
    | .Call (.Name x _) [e1, e2] [] _ => decide (x = "range") && bltB T sc x && notStar e1 && notStar e2 && R.e sc e1 a && R.e sc e2 b
    | _ => false)
  | .enum a => (match e with
    | .Call (.Name x _) [e1] [] _ => decide (x = "enumerate") && bltB T sc x && isTup tg && notStar e1 && R.e sc e1 a
    | _ => false)
  | .zip a b => (match e with
    | .Call (.Name x _) [e1, e2] [] _ => decide (x = "zip") && bltB T sc x && isTup tg && notStar e1 && notStar e2 && R.e sc e1 a && R.e sc e2 b
    | _ => false)
def ownP (own : List Nat) : List (Str × Nat) := own.map fun i => (N.getD i Str.empty, i)
def chkLc (sc : Scope) (elx tgx itx : Expr) (ifx : List Expr) (scope : Scope) (elt : E) (t : Tg) (it : Ita) (ifs : List E) (own : List Nat) : Bool :=
  blkC N sc scope (ownP N own) && notSet itx && t.slots.all (fun i => decide (i ∈ own)) && stepI T R sc tgx itx it && chkTg N (relS scope sc) scope t tgx && R.e (relS scope sc) elx elt &&
    (match ifx, ifs with
    | [], [] => true
    | [e], [c] => R.t (relS scope sc) e c
    | _, _ => false)
def stepE (sc : Scope) (e : Expr) (c : E) : Bool := match c with
  | .non => (match e with | .Constant .none _ _ => true | _ => false)
  | .bl b => (match e with | .Constant (.bool b') _ _ => b == b' | _ => false)
  | .int i => (match e with | .Constant (.int j) _ _ => decide (i = j) | _ => false)
  | .str x => (match e with | .Constant (.str y) _ _ => decide (x = y) | _ => false)
  | .x i => (match e with | .Name y _ => decide (N[i]? = some y) && visB sc y && dbgB y && !(y == ("__classdict__" : Str)) | _ => false)
  | .g j => (match e with | .Name y _ => decide (T.gs[j]? = some y) && glB sc y && dbgB y | _ => false)
  | .bop o a b => (match e with | .BinOp l op r _ => bopB o op && R.e sc l a && R.e sc r b | _ => false)
  | .neg a => (match e with | .UnaryOp .USub x _ => R.e sc x a | _ => false)
  | .cmp o a b => (match e with | .Compare l [op] [r] _ => copB o op && !(behindInMarks op r) && R.e sc l a && R.e sc r b | _ => false)
  | .ch o o' a b d => (match e with | .Compare l [op, op'] [r, r'] _ => copB o op && copB o' op' && !(lastMarks [op, op'] [r, r']) && R.e sc l a && R.e sc r b && R.e sc r' d | _ => false)
  | .and a b => (match e with | .BoolOp .And es _ => chkAnd (R.e sc) es (.and a b) | _ => false)
  | .or a b => (match e with | .BoolOp .Or es _ => chkOr (R.e sc) es (.or a b) | _ => false)
  | .not a => (match e with | .UnaryOp .Not x _ => R.e sc x a | _ => false)
  | .ife d a b => (match e with | .IfExp t x y _ => R.t sc t d && R.e sc x a && R.e sc y b | _ => false)
  | .tup cs => (match e with | .Tuple es _ _ => chkAs (R.e sc) es cs | _ => false)
  | .lst _ cs => (match e with | .List es _ => chkAs (R.e sc) es cs | _ => false)
  | .star _ => false
  | .ix a i => (match e with | .Subscript o s _ => notSlice s && R.e sc o a && R.e sc s i | _ => false)
  | .sl _ a lo hi => (match e with | .Subscript o (.Slice l h none _) _ => R.e sc o a && chkO (R.e sc) l lo && chkO (R.e sc) h hi | _ => false)
  | .call j cs => (match e with
    | .Call (.Name x _) es [] _ => fkTop T j x cs.length && glB sc x && dbgB x && es.all notStar && chkAs (R.e sc) es cs
    | _ => false)
  | .callk j pm cs => (match e with
    | .Call (.Name x _) [] kws _ => fkTop T j x pm.length && glB sc x && dbgB x && kwAll kws && (cs.length == pm.length) && decide ((j, kwNames kws, pm) ∈ T.kw) && chkK (R.e sc) kws cs
    | _ => false)
  | .b1 f a => (match e with
    | .Call (.Name x _) [e1] [] _ => decide (x = f.py.1) && bltB T sc x && notStar e1 && R.e sc e1 a
    | _ => false)
  | .b2 f a b => (match e with
    | .Call (.Name x _) [e1, e2] [] _ => decide (x = f.py.1) && bltB T sc x && notStar e1 && notStar e2 && R.e sc e1 a && R.e sc e2 b
    | _ => false)
  | .isi a Tn => (match e with
    | .Call (.Name x _) [e1, .Name tx _] [] _ => decide (x = "isinstance") && bltB T sc x && bltB T sc tx && decide ((tx, Tn) ∈ isiNm) && notStar e1 && R.e sc e1 a
    | _ => false)
  | .m1 f a b => (match e with
    | .Call (.Attribute o m apos) [e1] [] pos => decide (m = f.py.1) && okBase o && notStar e1 && (apos.endLine == pos.line) && R.e sc o a && R.e sc e1 b
    | _ => false)
  | .lc _ elt t it ifs own => (match e with
    | .ListComp elx [⟨tgx, itx, ifx, 0⟩] scope _ => chkLc T N R sc elx tgx itx ifx scope elt t it ifs own
    | _ => false)
  | .lrg _ lo hi => (match e with
    | .Call (.Name x _) [.Call (.Name y _) [e1] [] _] [] _ => decide (x = "list") && decide (y = "range") && bltB T sc x && bltB T sc y && isZ lo && notStar e1 && R.e sc e1 hi
    | .Call (.Name x _) [.Call (.Name y _) [e1, e2] [] _] [] _ => decide (x = "list") && decide (y = "range") && bltB T sc x && bltB T sc y && notStar e1 && notStar e2 && R.e sc e1 lo && R.e sc e2 hi
    | _ => false)
  | .slot a c i => (match e with
    | .Attribute o f _ => okBase o && slotB T c i f && R.e sc o a
    | _ => false)
  | .mk c j cs => (match e with
    | .Call (.Name x _) es [] _ => clsB T c x && fkInit T j c (cs.length + 1) && glB sc x && dbgB x && es.all notStar && chkAs (R.e sc) es cs
    | _ => false)
  | .meth j c a cs => (match e with
    | .Call (.Attribute o m apos) es [] pos => fkMeth T j c m (cs.length + 1) && decide (T.cs[c]? ≠ none) && okBase o && decide (es.length < 30) && (apos.endLine == pos.line) && es.all notStar && R.e sc o a && chkAs (R.e sc) es cs
    | _ => false)
  | .frz a => R.e sc e a
def plainT : Expr → Bool
  | .UnaryOp .. => false | .BoolOp .. => false | .IfExp .. => false | .Compare .. => false
  | _ => true
def stepT (sc : Scope) (e : Expr) (c : E) : Bool := match e with
  | .Compare l [op] [r] _ => (match c with
    | .cmp o a b => copB o op && !(behindInMarks op r) && R.e sc l a && R.e sc r b
    | _ => false)
  | .Compare l [op, op'] [r, r'] _ => (match c with
    | .ch o o' a b d => copB o op && copB o' op' && !(lastMarks [op, op'] [r, r']) && R.e sc l a && R.e sc r b && R.e sc r' d
    | _ => false)
  | .UnaryOp .Not x _ => (match c with
    | .not a => R.t sc x a
    | _ => false)
  | .BoolOp .And es _ => chkAnd (R.t sc) es c
  | .BoolOp .Or es _ => chkOr (R.t sc) es c
  | e => plainT e && R.e sc e c
end
def recs (T : Tb) (N : List Str) : Nat → Rec
  | 0 => ⟨fun _ _ _ => false, fun _ _ _ => false⟩
  | n + 1 => ⟨stepE T N (recs T N n), stepT (recs T N n)⟩

/-! ### statements -/
def swOk (sc : Scope) (tg e : Expr) : Bool := notComp e || notName tg || (match tg, e with
  | .Name y tp, .ListComp _ _ scope lp => !(swapB sc scope y tp.line lp.line)
  | _, _ => false)
def nonLoc (sc : Scope) : Expr → Bool
  | .Name x _ => !(sc.names.lookup x == some .local)
  | _ => true
def swNone (sc : Scope) (tg e : Expr) : Bool := match tg, e with
  | .Tuple ts _ _, .Tuple vs _ _ => (!(ts.length == 2 || ts.length == 3) || vs.length != ts.length) || ts.any (nonLoc sc)
  | .Tuple .., _ => true
  | .Name .., _ => true
  | _, _ => false
/-- two values, none of them starred -/
def swNone2 : Expr → Bool
  | .Tuple [a, b] _ _ => notStar a && notStar b
  | _ => false
def chkSs (f : Stmt → S → Bool) : List Stmt → List S → Bool
  | [], [] => true
  | st :: r, s :: ss => f st s && chkSs f r ss
  | _, _ => false
section
variable (T : Tb) (N : List Str) (R : Rec) (f : Stmt → S → Bool) (sc : Scope)
def stepS (st : Stmt) (s : S) : Bool := match s with
  | .ret c => (match st with | .Return (some e) _ => R.e sc e c | _ => false)
  | .retN => (match st with | .Return none _ => true | _ => false)
  | .asg t c => (match st with | .Assign [tg] e _ => chkTg N sc sc t tg && notStarT tg && swOk sc tg e && swNone sc tg e && R.e sc e c | _ => false)
  | .par is cs => (match st, is with
    | .Assign [.Tuple [.Name x px, .Name y py] _ _] (.Tuple [b1, b2] _ _) _, [i, j] => decide (N[i]? = some x) && decide (N[j]? = some y) && parB sc [(x, px), (y, py)] [b1, b2] && chkAs (R.e sc) [b1, b2] cs
    | .Assign [.Tuple [.Name x px, .Name y py, .Name z pz] _ _] (.Tuple [b1, b2, b3] _ _) _, [i, j, l] => decide (N[i]? = some x) && decide (N[j]? = some y) && decide (N[l]? = some z) && parB sc [(x, px), (y, py), (z, pz)] [b1, b2, b3] && chkAs (R.e sc) [b1, b2, b3] cs
    | _, _ => false)
  | .asgC i c => (match st, c with
    | .Assign [.Name y py] (.ListComp elx [⟨tgx, itx, ifx, 0⟩] scope lp) _, .lc _ elt t it ifs own => decide (N[i]? = some y) && lclB sc y && swapB sc scope y py.line lp.line && chkLc T N R sc elx tgx itx ifx scope elt t it ifs own
    | _, _ => false)
  | .setIx a i c => (match st with | .Assign [.Subscript o ix _] e _ => notSlice ix && R.e sc e c && R.e sc o a && R.e sc ix i | _ => false)
  | .setAt a c i d => (match st with | .Assign [.Attribute o x _] e _ => slotB T c i x && R.e sc e d && R.e sc o a | _ => false)
  | .setIx2 a i b j c => (match st with | .Assign [.Tuple [.Subscript o1 i1 p1, .Subscript o2 i2 p2] kt tp] e _ => notComp e && notSlice i1 && notSlice i2 && swNone2 e && R.e sc e c && R.e sc o1 a && R.e sc i1 i && R.e sc o2 b && R.e sc i2 j | _ => false)
  | .ex c => (match st with | .Expr e _ => notComp e && R.e sc e c | _ => false)
  | .ite c a b => (match st with | .If t x y _ => R.t sc t c && chkSs f x a && chkSs f y b | _ => false)
  | .for_ t it b => (match st with | .For tg itx body [] _ => notSet itx && stepI T R sc tg itx it && chkTg N sc sc t tg && chkSs f body b | _ => false)
  | .while_ c b => (match st with | .While t body [] _ => R.t sc t c && chkSs f body b | _ => false)
  | .never => true
  | .brk => (match st with | .Break _ => true | _ => false)
  | .cnt => (match st with | .Continue _ => true | _ => false)
  | .pass => (match st with | .Pass _ => true | _ => false)
end
def chkS (T : Tb) (N : List Str) (sc : Scope) : Nat → Stmt → S → Bool
  | 0 => fun _ _ => false
  | n + 1 => stepS T N (recs T N 60) (chkS T N sc n) sc
end Og
end
section
set_option maxHeartbeats 4000000
set_option autoImplicit false
/-! Og: the look is sound. -/
namespace Og
open PySem PySem.Spec PyProof.Rows L2

section
variable {T : Tb} {Y : Ctx} {k : Nat} {N : List Str} {sc : Scope} {X : Cx}
theorem glB_ok (x : XOk T Y k N sc X) {y : Str} (h : glB sc y = true) : Gl X y := by
  unfold glB at h
  show X.env.scope.names.lookup y = some .globalImplicit
  rw [x.scE]
  split at h
  · assumption
  · cases h
theorem visB_ok {y : Str} (h : visB sc y = true) : Vis sc y := by
  unfold visB at h
  unfold Vis
  split at h
  · exact .inl (by assumption)
  · exact .inr (.inl (by assumption))
  · exact .inr (.inr (by assumption))
  · cases h
theorem locB_ok {y : Str} (h : locB sc y = true) : L2.Loc sc y := by
  unfold locB at h
  unfold L2.Loc
  split at h
  · exact .inl (by assumption)
  · exact .inr (by assumption)
  · cases h
theorem lclB_ok {y : Str} (h : lclB sc y = true) : sc.names.lookup y = some .local := by
  unfold lclB at h
  split at h
  · assumption
  · cases h
theorem celB_ok {y : Str} (h : celB sc y = true) : sc.names.lookup y = some .cell := by
  unfold celB at h
  split at h
  · assumption
  · cases h
theorem dbgB_ok {y : Str} (h : dbgB y = true) : (y == ("__debug__" : Str)) = false := by
  unfold dbgB at h
  simpa using h
theorem bltB_ok (x : XOk T Y k N sc X) {y : Str} (h : bltB T sc y = true) : Gl X y ∧ X.mg y = none := by
  unfold bltB at h
  simp only [Bool.and_eq_true, decide_eq_true_eq] at h
  exact ⟨glB_ok x h.1, x.fx.bl y h.2⟩
theorem isiNm_ok {tx : Str} {t : String} (h : (tx, t) ∈ isiNm) : t ∈ isiTys ∧ bootBuiltins tx = some (.type t) ∧ tx ≠ "__name__" ∧ (tx == ("__debug__" : Str)) = false := by
  unfold isiNm at h
  simp only [List.mem_cons, List.not_mem_nil, or_false, Prod.mk.injEq] at h
  rcases h with ⟨rfl, rfl⟩ | ⟨rfl, rfl⟩ | ⟨rfl, rfl⟩ | ⟨rfl, rfl⟩ | ⟨rfl, rfl⟩ | ⟨rfl, rfl⟩ <;> exact ⟨by decide, by decide +kernel, by decide +kernel, by decide +kernel⟩
theorem fkTop_ok {j n : Nat} {y : Str} (h : fkTop T j y n = true) : T.fs[j]? = some (.top y, n) := by
  unfold fkTop at h
  split at h
  · rename_i e
    simp only [Bool.and_eq_true, decide_eq_true_eq, beq_iff_eq] at h
    rw [e, h.1, h.2]
  · cases h
theorem fkInit_ok {j n c : Nat} (h : fkInit T j c n = true) : T.fs[j]? = some (.init c, n) := by
  unfold fkInit at h
  split at h
  · rename_i e
    simp only [Bool.and_eq_true, beq_iff_eq] at h
    rw [e, h.1, h.2]
  · cases h
theorem fkMeth_ok {j n c : Nat} {m : Str} (h : fkMeth T j c m n = true) : T.fs[j]? = some (.meth c m, n) := by
  unfold fkMeth at h
  split at h
  · rename_i e
    simp only [Bool.and_eq_true, beq_iff_eq, decide_eq_true_eq] at h
    rw [e, h.1.1, h.1.2, h.2]
  · cases h
theorem clsB_ok (x : XOk T Y k N sc X) {c : Nat} {y : Str} (h : clsB T c y = true) : X.mg y = some (.ref (Y.cls c)) := by
  unfold clsB at h
  split at h
  · rename_i e
    simp only [decide_eq_true_eq] at h
    rw [← h]
    exact (x.fx.cs _ _ _ e).1
  · cases h
theorem slotB_ok (x : XOk T Y k N sc X) {c i : Nat} {f : Str} (h : slotB T c i f = true) : SlX.SCls X.K (Y.cls c) ∧ ∃ p, SlX.Slot1 X.K (Y.cls c) f p i := by
  unfold slotB at h
  split at h
  · rename_i e
    simp only [decide_eq_true_eq] at h
    obtain ⟨_, h2, h3⟩ := x.fx.cs _ _ _ e
    exact ⟨h2, h3 _ _ h⟩
  · cases h
theorem py_ok (x : XOk T Y k N sc X) : PyR X := fun s ok h => by
  obtain ⟨e, l, h1, h2, h3, h4, h5⟩ := x.stk
  have n0 : X.base.NoSeer := ⟨x.fx.sr.statics, x.fx.sr.mods, ok.mod.blt, x.fx.sr.main⟩
  have hd : X.A.depth + Builtin.pylongFrames < recursionLimit := by
    have := x.room.dp
    have := x.fx.lv
    show X.A.depth + 100 < recursionLimit
    omega
  have hf : X.A.frames = some (e :: l) := by rw [ok.frames, h1]
  exact PylongRoom.of (ok.mod.nolimit.keeps h) hd (SeerAt.of (n0.keeps h) x.fx.tr hf h2 h3 h4 h5)
theorem XOk.room' (x : XOk T Y k N sc X) : Room k X.A := x.room.mono (Nat.le_succ _)

/-! ### targets -/
mutual
theorem tg_ok (x : XOk T Y k N sc X) {fsc : Scope} (hf : ∀ y, fsc.names.lookup y = some .cell → X.fn y = true) : ∀ (t : Tg) (e : Expr), chkTg N sc fsc t e = true → PG X e (tTg X.K t)
  | .nm i, e, h => by
    simp only [chkTg] at h
    split at h
    · simp only [Bool.and_eq_true, decide_eq_true_eq, Bool.or_eq_true] at h
      obtain ⟨⟨h1, h2⟩, h3⟩ := h
      refine g_nm (by rw [x.nE]; exact x.nd) (by rw [x.nE]; exact h1) (by rw [x.scE]; exact locB_ok h2) ?_
      rcases h3 with h3 | h3
      · exact .inr (by rw [x.scE]; exact lclB_ok h3)
      · exact .inl (hf _ (celB_ok h3))
    · cases h
  | .tup ts, e, h => by
    simp only [chkTg] at h
    split at h
    · simp only [Bool.and_eq_true] at h
      obtain ⟨h1, h2⟩ := h
      obtain ⟨q1, q2⟩ := tgs_ok x hf ts _ h2
      exact g_tup x.calm h1 q1 q2
    · cases h
theorem tgs_ok (x : XOk T Y k N sc X) {fsc : Scope} (hf : ∀ y, fsc.names.lookup y = some .cell → X.fn y = true) : ∀ (ts : List Tg) (es : List Expr), chkTgs N sc fsc ts es = true → es.length = ts.length ∧ PGs X es (tTgs X.K ts)
  | [], [], _ => ⟨rfl, gs_nil⟩
  | t :: ts, e :: es, h => by
    simp only [chkTgs, Bool.and_eq_true] at h
    obtain ⟨⟨h1, h2⟩, h3⟩ := h
    obtain ⟨q1, q2⟩ := tgs_ok x hf ts es h3
    exact ⟨by simp [q1], gs_cons h1 (tg_ok x hf t e h2) q2⟩
  | [], _ :: _, h => by simp [chkTgs] at h
  | _ :: _, [], h => by simp [chkTgs] at h
end
end

structure Snd (T : Tb) (Y : Ctx) (k : Nat) (N : List Str) (R : Rec) : Prop where
  e : ∀ {sc : Scope} {X : Cx} {e : Expr} {c : E}, XOk T Y k N sc X → R.e sc e c = true → PE X e (tE X.K Y c)
  t : ∀ {sc : Scope} {X : Cx} {e : Expr} {c : E}, XOk T Y k N sc X → R.t sc e c = true → PT X e (tTst X.K Y c)

section
variable {T : Tb} {Y : Ctx} {k : Nat} {N : List Str} {sc : Scope} {X : Cx} {R : Rec}
theorem notStarE_ne {c : E} (h : notStarE c = true) : ∀ a, c ≠ .star a := fun a z => by rw [z] at h; cases h
theorem as_ok (S : Snd T Y k N R) (x : XOk T Y k N sc X) : ∀ (es : List Expr) (cs : List E), chkAs (R.e sc) es cs = true → PA X es (tAs X.K Y cs) ∧ (es = [] → cs = [])
  | [], [], _ => ⟨a_nil, fun _ => rfl⟩
  | [], _ :: _, h => by simp [chkAs] at h
  | e :: es, [], h => by cases e <;> simp [chkAs] at h
  | e :: es, c :: cs, h => by
    refine ⟨?_, fun z => (nomatch z)⟩
    unfold chkAs at h
    split at h
    · rename_i z1 z2
      cases z1
    · rename_i z1 z2
      cases z1; cases z2
      simp only [Bool.and_eq_true] at h
      exact a_star (S.e x h.1) (as_ok S x _ _ h.2).1
    · rename_i z1 z2
      cases z1; cases z2
      simp only [Bool.and_eq_true] at h
      obtain ⟨⟨⟨h1, h2⟩, h3⟩, h4⟩ := h
      exact a_cons (notStarE_ne h2) h1 (S.e x h3) (as_ok S x _ _ h4).1
    · cases h
theorem ks_ok (S : Snd T Y k N R) (x : XOk T Y k N sc X) : ∀ (es : List Keyword) (cs : List E), chkK (R.e sc) es cs = true → PK X es (tAs X.K Y cs)
  | [], [], _ => pk_nil'
  | [], _ :: _, h => by simp [chkK] at h
  | e :: es, [], h => by simp [chkK] at h
  | ⟨nm, e, p⟩ :: es, c :: cs, h => by
    simp only [chkK, Bool.and_eq_true] at h
    obtain ⟨⟨h1, h2⟩, h3⟩ := h
    exact pk_cons' (notStarE_ne h1) (S.e x h2) (ks_ok S x es cs h3)
theorem o_ok (S : Snd T Y k N R) (x : XOk T Y k N sc X) : ∀ (o : Option Expr) (c : Option E), chkO (R.e sc) o c = true → PO X o (tOs X.K Y c)
  | none, none, _ => o_none
  | some e, some c, h => o_some (S.e x h)
  | none, some _, h => by cases h
  | some _, none, h => by cases h
theorem and_ok {pos : Pos} (S : Snd T Y k N R) (x : XOk T Y k N sc X) : ∀ (es : List Expr) (c : E), chkAnd (R.e sc) es c = true → PE X (.BoolOp .And es pos) (tE X.K Y c)
  | [], _, h => by simp [chkAnd] at h
  | [e], c, h => pe_one (S.e x (by simpa [chkAnd] using h))
  | e :: e2 :: r, c, h => by
    cases c <;> simp only [chkAnd, Bool.and_eq_true, Bool.false_eq_true] at h
    exact r_and (S.e x h.1) (and_ok S x _ _ h.2)
theorem or_ok {pos : Pos} (S : Snd T Y k N R) (x : XOk T Y k N sc X) : ∀ (es : List Expr) (c : E), chkOr (R.e sc) es c = true → PE X (.BoolOp .Or es pos) (tE X.K Y c)
  | [], _, h => by simp [chkOr] at h
  | [e], c, h => pe_one (S.e x (by simpa [chkOr] using h))
  | e :: e2 :: r, c, h => by
    cases c <;> simp only [chkOr, Bool.and_eq_true, Bool.false_eq_true] at h
    exact r_or (S.e x h.1) (or_ok S x _ _ h.2)
theorem andT_ok {pos : Pos} (S : Snd T Y k N R) (x : XOk T Y k N sc X) : ∀ (es : List Expr) (c : E), chkAnd (R.t sc) es c = true → PW X (.BoolOp .And es pos) (tTst X.K Y c)
  | [], _, h => by simp [chkAnd] at h
  | [e], c, h => w_and1 (S.t x (by simpa [chkAnd] using h))
  | e :: e2 :: r, c, h => by
    cases c <;> simp only [chkAnd, Bool.and_eq_true, Bool.false_eq_true] at h
    exact w_and (S.t x h.1) (andT_ok S x _ _ h.2)
theorem orT_ok {pos : Pos} (S : Snd T Y k N R) (x : XOk T Y k N sc X) : ∀ (es : List Expr) (c : E), chkOr (R.t sc) es c = true → PW X (.BoolOp .Or es pos) (tTst X.K Y c)
  | [], _, h => by simp [chkOr] at h
  | [e], c, h => w_or1 (S.t x (by simpa [chkOr] using h))
  | e :: e2 :: r, c, h => by
    cases c <;> simp only [chkOr, Bool.and_eq_true, Bool.false_eq_true] at h
    exact w_or (S.t x h.1) (orT_ok S x _ _ h.2)
theorem it_ok (S : Snd T Y k N R) (x : XOk T Y k N sc X) {tg e : Expr} : ∀ (it : Ita), stepI T R sc tg e it = true → PI X tg e (tIt X.K Y it)
  | .sq a, h => i_sq (S.e x h)
  | .rg1 a, h => by
    simp only [stepI] at h
    split at h
    · simp only [Bool.and_eq_true, decide_eq_true_eq] at h
      obtain ⟨⟨⟨rfl, h1⟩, h2⟩, h3⟩ := h
      obtain ⟨g, m⟩ := bltB_ok x h1
      exact i_rg1 h2 g m (S.e x h3)
    · cases h
  | .rg2 a b, h => by
    simp only [stepI] at h
    split at h
    · simp only [Bool.and_eq_true, decide_eq_true_eq] at h
      obtain ⟨⟨⟨⟨⟨rfl, h1⟩, h2⟩, h2'⟩, h3⟩, h4⟩ := h
      obtain ⟨g, m⟩ := bltB_ok x h1
      exact i_rg2 h2 h2' g m (S.e x h3) (S.e x h4)
    · cases h
  | .enum a, h => by
    simp only [stepI] at h
    split at h
    · simp only [Bool.and_eq_true, decide_eq_true_eq] at h
      obtain ⟨⟨⟨⟨rfl, h1⟩, ht⟩, h2⟩, h3⟩ := h
      obtain ⟨g, m⟩ := bltB_ok x h1
      cases tg <;> first
        | (cases ht; done)
        | exact i_enum h2 g m (S.e x h3)
    · cases h
  | .zip a b, h => by
    simp only [stepI] at h
    split at h
    · simp only [Bool.and_eq_true, decide_eq_true_eq] at h
      obtain ⟨⟨⟨⟨⟨⟨rfl, h1⟩, ht⟩, h2⟩, h2'⟩, h3⟩, h4⟩ := h
      obtain ⟨g, m⟩ := bltB_ok x h1
      cases tg <;> first
        | (cases ht; done)
        | exact i_zip h2 h2' g m (S.e x h3) (S.e x h4)
    · cases h
theorem ownP_map {own : List Nat} : (ownP N own).map (·.2) = own := by
  unfold ownP
  rw [List.map_map]
  exact List.map_id' own
theorem lc_ok (S : Snd T Y k N R) (x : XOk T Y k N sc X) {elx tgx itx : Expr} {ifx : List Expr} {scope : Scope} {elt : E} {t : Tg} {it : Ita} {ifs : List E} {own : List Nat} (h : chkLc T N R sc elx tgx itx ifx scope elt t it ifs own = true) :
    BlkOk X.N X.env.scope scope (ownP N own) ∧ (∀ i ∈ t.slots, i ∈ own) ∧ notSet itx = true ∧ PI X tgx itx (tIt X.K Y it) ∧
    (∀ (s : Shared) (H : Hp) (C : Addr) (cl : List (Str × Addr)) (fp : List Addr), PG (X.blk s H scope (compEnvC scope cl C X.env) fp) tgx (tTg X.K t)) ∧
    (∀ (s : Shared) (H : Hp) (C : Addr) (cl : List (Str × Addr)) (fp : List Addr), PTs (X.blk s H scope (compEnvC scope cl C X.env) fp) ifx (tTs X.K Y ifs)) ∧
    (∀ (s : Shared) (H : Hp) (C : Addr) (cl : List (Str × Addr)) (fp : List Addr), PE (X.blk s H scope (compEnvC scope cl C X.env) fp) elx (tE X.K Y elt)) := by
  unfold chkLc at h
  simp only [Bool.and_eq_true, List.all_eq_true, decide_eq_true_eq] at h
  obtain ⟨⟨⟨⟨⟨⟨h1, h2⟩, h3⟩, h4⟩, h5⟩, h6⟩, h7⟩ := h
  have ok := blkOk_by h1
  have hx := fun s H C cl fp => x.blk ok.kind s H C cl fp
  refine ⟨by rw [x.nE, x.scE]; exact ok, h3, h2, it_ok S x it h4, fun s H C cl fp => ?_, fun s H C cl fp => ?_, fun s H C cl fp => ?_⟩
  · exact tg_ok (hx s H C cl fp) (fun y hy => by show (scope.names.lookup y == some .cell) = true; rw [hy]; rfl) t tgx h5
  · split at h7
    · exact ts_nil
    · exact ts_one (S.t (hx s H C cl fp) h7)
    · cases h7
  · exact S.e (hx s H C cl fp) h6
theorem stepE_ok (S : Snd T Y k N R) (x : XOk T Y k N sc X) {e : Expr} {c : E} (h : stepE T N R sc e c = true) : PE X e (tE X.K Y c) := by
  have hu : X.A.units + 64 < cLine := x.room.units
  cases c with
  | non => simp only [stepE] at h; split at h; exact r_non; cases h
  | bl b =>
    simp only [stepE] at h; split at h
    · have e := eq_of_beq h
      subst e; exact r_bl
    · cases h
  | int i =>
    simp only [stepE] at h; split at h
    · have e := of_decide_eq_true h
      subst e; exact r_int
    · cases h
  | str y =>
    simp only [stepE] at h; split at h
    · have e := of_decide_eq_true h
      subst e; exact r_str
    · cases h
  | x i =>
    simp only [stepE] at h; split at h
    · simp only [Bool.and_eq_true, decide_eq_true_eq, Bool.not_eq_true'] at h
      obtain ⟨⟨⟨h1, h2⟩, h3⟩, h4⟩ := h
      exact r_x (by rw [x.nE]; exact h1) (by rw [x.scE]; exact visB_ok h2) (dbgB_ok h3) h4
    · cases h
  | g j =>
    simp only [stepE] at h; split at h
    · simp only [Bool.and_eq_true, decide_eq_true_eq] at h
      obtain ⟨⟨h1, h2⟩, h3⟩ := h
      obtain ⟨v, u, d, q1, q2, q3, q4⟩ := x.fx.gs j _ h1
      exact r_g (glB_ok x h2) q1 q2 (dbgB_ok h3) q3 q4
    · cases h
  | bop o a b =>
    simp only [stepE] at h; split at h
    · simp only [Bool.and_eq_true, bopB, decide_eq_true_eq] at h
      obtain ⟨⟨rfl, h2⟩, h3⟩ := h
      exact r_bop (py_ok x) (S.e x h2) (S.e x h3)
    · cases h
  | neg a =>
    simp only [stepE] at h; split at h
    · exact r_neg (S.e x h)
    · cases h
  | cmp o a b =>
    simp only [stepE] at h; split at h
    · simp only [Bool.and_eq_true, copB, decide_eq_true_eq, Bool.not_eq_true'] at h
      obtain ⟨⟨⟨rfl, h1⟩, h2⟩, h3⟩ := h
      exact r_cmp hu h1 (S.e x h2) (S.e x h3)
    · cases h
  | ch o o' a b d =>
    simp only [stepE] at h; split at h
    · simp only [Bool.and_eq_true, copB, decide_eq_true_eq, Bool.not_eq_true'] at h
      obtain ⟨⟨⟨⟨⟨rfl, rfl⟩, h1⟩, h2⟩, h3⟩, h4⟩ := h
      exact r_ch hu h1 (S.e x h2) (S.e x h3) (S.e x h4)
    · cases h
  | and a b =>
    simp only [stepE] at h; split at h
    · exact and_ok S x _ _ h
    · cases h
  | or a b =>
    simp only [stepE] at h; split at h
    · exact or_ok S x _ _ h
    · cases h
  | not a =>
    simp only [stepE] at h; split at h
    · exact r_not (S.e x h)
    · cases h
  | ife d a b =>
    simp only [stepE] at h; split at h
    · simp only [Bool.and_eq_true] at h
      exact r_ife (S.t x h.1.1) (S.e x h.1.2) (S.e x h.2)
    · cases h
  | tup cs =>
    simp only [stepE] at h; split at h
    · exact r_tup (as_ok S x _ _ h).1
    · cases h
  | lst mu cs =>
    simp only [stepE] at h; split at h
    · exact r_lst (as_ok S x _ _ h).1
    · cases h
  | star a => simp [stepE] at h
  | ix a i =>
    simp only [stepE] at h; split at h
    · simp only [Bool.and_eq_true] at h
      exact r_ix h.1.1 (S.e x h.1.2) (S.e x h.2)
    · cases h
  | sl mu a lo hi =>
    simp only [stepE] at h; split at h
    · simp only [Bool.and_eq_true] at h
      exact r_sl (S.e x h.1.1) (o_ok S x _ _ h.1.2) (o_ok S x _ _ h.2)
    · cases h
  | call j cs =>
    simp only [stepE] at h; split at h
    · simp only [Bool.and_eq_true] at h
      obtain ⟨⟨⟨⟨h1, h2⟩, h3⟩, h4⟩, h5⟩ := h
      obtain ⟨f, fd, ps, F, B, ⟨m1, m2⟩, _⟩ := x.fx.fs _ _ _ (fkTop_ok h1)
      obtain ⟨a1, a2⟩ := as_ok S x _ _ h5
      exact r_call F x.gd B x.room' m2 rfl (glB_ok x h2) m1 (dbgB_ok h3) a1 a2 h4
    · cases h
  | callk j pm cs =>
    simp only [stepE] at h; split at h
    · simp only [Bool.and_eq_true, decide_eq_true_eq, beq_iff_eq] at h
      obtain ⟨⟨⟨⟨⟨⟨h1, h2⟩, h3⟩, h4⟩, h4'⟩, h5⟩, h6⟩ := h
      obtain ⟨f, fd, ps, F, _, ⟨m1, m2⟩, B⟩ := x.fx.fs _ _ _ (fkTop_ok h1)
      exact r_callk F x.gd (B _ _ h5) h4' x.room' m2 rfl (glB_ok x h2) m1 (dbgB_ok h3) rfl h4 (ks_ok S x _ _ h6)
    · cases h
  | b1 f a =>
    simp only [stepE] at h; split at h
    · simp only [Bool.and_eq_true, decide_eq_true_eq] at h
      obtain ⟨⟨⟨rfl, h1⟩, h2⟩, h3⟩ := h
      obtain ⟨g, m⟩ := bltB_ok x h1
      exact r_b1 x.calm x.gd x.room.units h2 g m (S.e x h3)
    · cases h
  | b2 f a b =>
    simp only [stepE] at h; split at h
    · simp only [Bool.and_eq_true, decide_eq_true_eq] at h
      obtain ⟨⟨⟨⟨⟨rfl, h1⟩, h2⟩, h2'⟩, h3⟩, h4⟩ := h
      obtain ⟨g, m⟩ := bltB_ok x h1
      exact r_b2 x.calm h2 h2' g m (S.e x h3) (S.e x h4)
    · cases h
  | isi a Tn =>
    simp only [stepE] at h; split at h
    · simp only [Bool.and_eq_true, decide_eq_true_eq] at h
      obtain ⟨⟨⟨⟨⟨rfl, h1⟩, h2⟩, h3⟩, h4⟩, h5⟩ := h
      obtain ⟨g, m⟩ := bltB_ok x h1
      obtain ⟨g2, m2⟩ := bltB_ok x h2
      obtain ⟨q1, q2, q3, q4⟩ := isiNm_ok h3
      exact r_isi q1 h4 g m g2 m2 q2 q3 q4 (S.e x h5)
    · cases h
  | m1 f a b =>
    simp only [stepE] at h; split at h
    · simp only [Bool.and_eq_true, decide_eq_true_eq] at h
      obtain ⟨⟨⟨⟨⟨rfl, h1⟩, h2⟩, h3⟩, h4⟩, h5⟩ := h
      exact r_m1 h2 h1 h3 (S.e x h4) (S.e x h5)
    · cases h
  | lc mu elt t it ifs own =>
    simp only [stepE] at h; split at h
    · obtain ⟨q1, q2, q3, q4, q5, q6, q7⟩ := lc_ok S x h
      exact r_lc x.calm (by rw [x.nE]; exact x.nd) q4 q1 ownP_map q2 q5 q6 q7 (set_no q3)
    · cases h
  | lrg mu lo hi =>
    simp only [stepE] at h; split at h
    · simp only [Bool.and_eq_true, decide_eq_true_eq] at h
      obtain ⟨⟨⟨⟨⟨⟨rfl, rfl⟩, h1⟩, h2⟩, h3⟩, h4⟩, h5⟩ := h
      obtain ⟨g, m⟩ := bltB_ok x h1
      obtain ⟨g2, m2⟩ := bltB_ok x h2
      cases lo <;> simp only [isZ, Bool.false_eq_true, beq_iff_eq] at h3
      subst h3
      exact r_lrg1 x.calm h4 g m g2 m2 (S.e x h5)
    · simp only [Bool.and_eq_true, decide_eq_true_eq] at h
      obtain ⟨⟨⟨⟨⟨⟨⟨rfl, rfl⟩, h1⟩, h2⟩, h4⟩, h4'⟩, h5⟩, h6⟩ := h
      obtain ⟨g, m⟩ := bltB_ok x h1
      obtain ⟨g2, m2⟩ := bltB_ok x h2
      exact r_lrg2 x.calm h4 h4' g m g2 m2 (S.e x h5) (S.e x h6)
    · cases h
  | slot a c i =>
    simp only [stepE] at h; split at h
    · simp only [Bool.and_eq_true] at h
      obtain ⟨q1, p, q2⟩ := slotB_ok x h.1.2
      exact r_slot h.1.1 q1 q2 (S.e x h.2)
    · cases h
  | mk c j cs =>
    simp only [stepE] at h; split at h
    · simp only [Bool.and_eq_true] at h
      obtain ⟨⟨⟨⟨⟨h1, h2⟩, h3⟩, h4⟩, h5⟩, h6⟩ := h
      obtain ⟨f, fd, ps, F, B, M, _⟩ := x.fx.fs _ _ _ (fkInit_ok h2)
      obtain ⟨a1, a2⟩ := as_ok S x _ _ h6
      exact r_mk M F x.gd B x.room rfl (glB_ok x h3) (clsB_ok x h1) (dbgB_ok h4) a1 a2 h5
    · cases h
  | meth j c a cs =>
    simp only [stepE] at h; split at h
    · simp only [Bool.and_eq_true, decide_eq_true_eq] at h
      obtain ⟨⟨⟨⟨⟨⟨⟨h1, h2⟩, h3⟩, h4⟩, h5⟩, h6⟩, h7⟩, h8⟩ := h
      obtain ⟨f, fd, ps, F, B, M, _⟩ := x.fx.fs _ _ _ (fkMeth_ok h1)
      obtain ⟨a1, a2⟩ := as_ok S x _ _ h8
      obtain ⟨⟨cy, sl⟩, hc⟩ := Option.ne_none_iff_exists'.mp h2
      exact r_meth h3 h4 h5 (x.fx.cs _ _ _ hc).2.1 M F x.gd B x.room' rfl (S.e x h7) a1 a2 h6
    · cases h
  | frz a => exact r_frz (S.e x (by simpa only [stepE] using h))
theorem plainT_ok {e : Expr} {env : PySem.Env} (h : plainT e = true) : ∀ whole, isTrue e env whole = (do let v ← whole; standAt e.pos; holding [v] (truthy v)) := by
  intro whole
  cases e <;> first
    | (cases h; done)
    | rfl
theorem stepT_ok (S : Snd T Y k N R) (x : XOk T Y k N sc X) {e : Expr} {c : E} (h : stepT R sc e c = true) : PT X e (tTst X.K Y c) := by
  have hu : X.A.units + 64 < cLine := x.room.units
  unfold stepT at h
  split at h
  · split at h
    · simp only [Bool.and_eq_true, copB, decide_eq_true_eq, Bool.not_eq_true'] at h
      obtain ⟨⟨⟨rfl, h1⟩, h2⟩, h3⟩ := h
      exact t_cmp hu h1 (S.e x h2) (S.e x h3)
    · cases h
  · split at h
    · simp only [Bool.and_eq_true, copB, decide_eq_true_eq, Bool.not_eq_true'] at h
      obtain ⟨⟨⟨⟨⟨rfl, rfl⟩, h1⟩, h2⟩, h3⟩, h4⟩ := h
      exact t_ch hu h1 (S.e x h2) (S.e x h3) (S.e x h4)
    · cases h
  · split at h
    · exact t_not (S.t x h)
    · cases h
  · exact (andT_ok S x _ _ h).pt
  · exact (orT_ok S x _ _ h).pt
  · simp only [Bool.and_eq_true] at h
    exact t_val (S.e x h.2) (plainT_ok h.1)
theorem recs_ok : ∀ n : Nat, Snd T Y k N (recs T N n)
  | 0 => ⟨fun _ h => by simp [recs] at h, fun _ h => by simp [recs] at h⟩
  | n + 1 => ⟨fun x h => stepE_ok (recs_ok n) x h, fun x h => stepT_ok (recs_ok n) x h⟩
end
end Og
end
section
set_option maxHeartbeats 4000000
set_option autoImplicit false
/-! Og: the look at statements is sound; a def by its core term. -/
namespace Og
open PySem PySem.Spec PyProof.Rows L2

theorem swOk_ok {sc : Scope} {tg e : Expr} {l : Nat} {env : PySem.Env} (hs : env.scope = sc) (hk : sc.kind = .function) (h : swOk sc tg e = true) : swapsWith e (some tg) l env = pure false := by
  unfold swOk at h
  simp only [Bool.or_eq_true] at h
  rcases h with (h | h) | h
  · exact swap_no h
  · exact swap_tg h
  · split at h
    · rw [swap_lc (by rw [hs]; exact hk), hs]
      simp only [Bool.not_eq_true'] at h
      rw [h]
    · cases h
theorem fm_lt {α β : Type} {f : α → Option β} : ∀ {l : List α} {a : α}, a ∈ l → f a = none → (l.filterMap f).length ≠ l.length
  | b :: l, a, h, h0, e => by
    have le := List.length_filterMap_le f l
    rcases List.mem_cons.mp h with z | z
    · subst z
      rw [List.filterMap_cons_none h0, List.length_cons] at e
      omega
    · cases hb : f b with
      | none =>
        rw [List.filterMap_cons_none hb, List.length_cons] at e
        omega
      | some c =>
        rw [List.filterMap_cons_some hb, List.length_cons, List.length_cons] at e
        exact fm_lt z h0 (by omega)
theorem swNone_ok {tg e : Expr} {env : PySem.Env} (h : swNone env.scope tg e = true) : swappedStores [tg] e env = pure none := by
  unfold swNone at h
  split at h
  · unfold swappedStores
    simp only
    split
    · rfl
    · rename_i h1
      split
      · rfl
      · rw [if_pos]
        rw [Bool.or_eq_true] at h
        rcases h with h | h
        · exact absurd (by rw [Bool.or_eq_true]; exact .inl h) h1
        · obtain ⟨t, ht, hn⟩ := List.any_eq_true.mp h
          rw [Bool.or_eq_true]
          refine .inl ?_
          rw [bne_iff_ne]
          refine fm_lt ht ?_
          cases t with
          | Name x p =>
            have hn' : (!(env.scope.names.lookup x == some .local)) = true := hn
            have : (env.kindOf x == some .local) = false := by
              show (env.scope.names.lookup x == some .local) = false
              simpa using hn'
            simp only [this, Bool.false_and]
            rfl
          | _ => rfl
  · rename_i hne
    cases e <;> first
      | rfl
      | exact absurd rfl (hne _ _ _)
      | (exfalso; exact hne _ _ _ rfl rfl)
      | (exfalso; exact hne _ _ _ _ _ _ rfl rfl)
  · cases e <;> rfl
  · cases h
theorem swNone2_ok {o1 i1 o2 i2 e : Expr} {p1 p2 tp : Pos} {kt : Nat} {env : PySem.Env} (hk : env.scope.kind = .function) (h : swNone2 e = true) : swappedStores [.Tuple [.Subscript o1 i1 p1, .Subscript o2 i2 p2] kt tp] e env = pure none := by
  unfold swNone2 at h
  split at h
  · rename_i a b k q
    simp only [Bool.and_eq_true] at h
    have hb := blockFn hk
    have hst : ([a, b].any fun x => match x with | .Starred _ _ => true | _ => false) = false := by
      have one : ∀ x : Expr, notStar x = true → (match x with | .Starred _ _ => true | _ => false) = false := fun x hx => by
        cases x <;> first
          | rfl
          | (simp [notStar] at hx; done)
      simp only [List.any_cons, List.any_nil, Bool.or_false]
      rw [one a h.1, one b h.2]
      rfl
    unfold swappedStores
    simp only [List.length_cons, List.length_nil]
    rw [if_neg (by rw [hb]; decide), if_neg]
    · rw [if_pos]
      simp
    · intro z
      exact Bool.false_ne_true (hst.symm.trans z)
  · cases h
structure XOkS (T : Tb) (Y : Ctx) (k : Nat) (N : List Str) (sc : Scope) (X : Cx) : Prop where
  x : XOk T Y k N sc X
  own : PassesOwn (model X.prog X.w) X.A X.env X.xe
  fn : ∀ y, X.fn y = true
section
variable {T : Tb} {Y : Ctx} {k : Nat} {N : List Str} {sc : Scope} {X : Cx} {R : Rec} {f : Stmt → S → Bool}
theorem ss_ok (hf : ∀ st s, f st s = true → PS X st (tS X.K Y s)) : ∀ (st : List Stmt) (ss : List S), chkSs f st ss = true → PSs X st (tSs X.K Y ss)
  | [], [], _ => ss_nil
  | st :: r, s :: ss, h => by
    simp only [chkSs, Bool.and_eq_true] at h
    exact ss_cons (hf st s h.1) (ss_ok hf r ss h.2)
  | [], _ :: _, h => by simp [chkSs] at h
  | _ :: _, [], h => by simp [chkSs] at h
theorem stepS_ok (S : Snd T Y k N R) (xs : XOkS T Y k N sc X) (hf : ∀ st s, f st s = true → PS X st (tS X.K Y s)) {st : Stmt} {s : Og.S} (h : stepS T N R f sc st s = true) : PS X st (tS X.K Y s) := by
  have x := xs.x
  have nd : X.N.Nodup := by rw [x.nE]; exact x.nd
  have kd : X.env.scope.kind = .function := by rw [x.scE]; exact x.kind
  cases s with
  | ret c =>
    simp only [stepS] at h; split at h
    · exact s_ret (S.e x h)
    · cases h
  | retN =>
    simp only [stepS] at h; split at h
    · exact s_retN
    · cases h
  | asg t c =>
    simp only [stepS] at h; split at h
    · simp only [Bool.and_eq_true] at h
      obtain ⟨⟨⟨⟨h1, h2⟩, h3⟩, h4⟩, h5⟩ := h
      exact s_asg (S.e x h5) (tg_ok x (fun y _ => xs.fn y) t _ h1) h2 (swOk_ok x.scE x.kind h3) (swNone_ok (by rw [x.scE]; exact h4))
    · cases h
  | par is cs =>
    simp only [stepS] at h; split at h
    · simp only [Bool.and_eq_true, decide_eq_true_eq] at h
      obtain ⟨⟨⟨h1, h2⟩, h3⟩, h4⟩ := h
      exact s_par2 x.calm nd (by rw [x.nE]; exact h1) (by rw [x.nE]; exact h2) (by rw [x.scE]; exact h3) (as_ok S x _ _ h4).1
    · simp only [Bool.and_eq_true, decide_eq_true_eq] at h
      obtain ⟨⟨⟨⟨h1, h2⟩, h2'⟩, h3⟩, h4⟩ := h
      exact s_par3 x.calm nd (by rw [x.nE]; exact h1) (by rw [x.nE]; exact h2) (by rw [x.nE]; exact h2') (by rw [x.scE]; exact h3) (as_ok S x _ _ h4).1
    · cases h
  | asgC i c =>
    simp only [stepS] at h; split at h
    · simp only [Bool.and_eq_true, decide_eq_true_eq] at h
      obtain ⟨⟨⟨h1, h2⟩, h3⟩, h4⟩ := h
      obtain ⟨q1, q2, q3, q4, q5, q6, q7⟩ := lc_ok S x h4
      exact s_asgC x.calm nd kd (by rw [x.nE]; exact h1) (by rw [x.scE]; exact lclB_ok h2) (by rw [x.scE]; exact h3) q4 q1 ownP_map q2 q5 q6 q7 (set_no q3)
    · cases h
  | setIx a i c =>
    simp only [stepS] at h; split at h
    · simp only [Bool.and_eq_true] at h
      obtain ⟨⟨⟨h2, h3⟩, h4⟩, h5⟩ := h
      exact s_setIx (S.e x h3) (S.e x h4) (S.e x h5) h2
    · cases h
  | setAt a c i d =>
    simp only [stepS] at h; split at h
    · simp only [Bool.and_eq_true] at h
      obtain ⟨⟨h1, h2⟩, h3⟩ := h
      obtain ⟨q1, p, q2⟩ := slotB_ok x h1
      exact s_setAt q1 q2 (S.e x h2) (S.e x h3)
    · cases h
  | setIx2 a i b j c =>
    simp only [stepS] at h; split at h
    · simp only [Bool.and_eq_true] at h
      obtain ⟨⟨⟨⟨⟨⟨⟨⟨h1, h2⟩, h3⟩, h4⟩, h5⟩, h6⟩, h7⟩, h8⟩, h9⟩ := h
      exact s_setIx2 x.calm (S.e x h5) (S.e x h6) (S.e x h7) (S.e x h8) (S.e x h9) h1 h2 h3 (swNone2_ok kd h4)
    · cases h
  | ex c =>
    simp only [stepS] at h; split at h
    · simp only [Bool.and_eq_true] at h
      exact s_ex h.1 (S.e x h.2)
    · cases h
  | ite c a b =>
    simp only [stepS] at h; split at h
    · simp only [Bool.and_eq_true] at h
      exact s_ite (S.t x h.1.1) (ss_ok hf _ _ h.1.2) (ss_ok hf _ _ h.2)
    · cases h
  | for_ t it b =>
    simp only [stepS] at h; split at h
    · simp only [Bool.and_eq_true] at h
      obtain ⟨⟨⟨h1, h2⟩, h3⟩, h4⟩ := h
      exact s_for xs.own x.calm (it_ok S x it h2) (tg_ok x (fun y _ => xs.fn y) t _ h3) (ss_ok hf _ _ h4) h1
    · cases h
  | while_ c b =>
    simp only [stepS] at h; split at h
    · simp only [Bool.and_eq_true] at h
      exact s_while xs.own (S.t x h.1) (ss_ok hf _ _ h.2)
    · cases h
  | never => exact s_never
  | brk =>
    simp only [stepS] at h; split at h
    · exact s_brk
    · cases h
  | cnt =>
    simp only [stepS] at h; split at h
    · exact s_cnt
    · cases h
  | pass =>
    simp only [stepS] at h; split at h
    · exact s_pass
    · cases h
theorem chkS_ok (xs : XOkS T Y k N sc X) : ∀ (n : Nat) (st : Stmt) (s : Og.S), chkS T N sc n st s = true → PS X st (tS X.K Y s)
  | 0, _, _, h => by simp [chkS] at h
  | n + 1, st, s, h => stepS_ok (recs_ok 60) xs (chkS_ok xs n) h
end

/-- a def's body as core terms -/
def chkB (T : Tb) (N ps : List Str) (sc : Scope) (bd : List Stmt) (b : List S) : Bool := C8.scC N ps sc && chkSs (chkS T N sc 30) bd b
theorem REnv.start {K : PySem.W.Frag} {N : List Str} {m : Mem} {H : Hp} {ds : List D} {vs : List V} (rs : Reps K m H vs ds) (hm : MemOk K m H) : REnv K (startD N.length ds) m (L2.start N vs) H := by
  refine ⟨?_, fun i d h => ?_, hm⟩
  · unfold startD L2.start
    simp [rs.length]
  · unfold startD at h
    unfold L2.start
    have hl := rs.length
    by_cases hi : i < ds.length
    · rw [List.getElem?_append_left (by simpa using hi), List.getElem?_map] at h
      rw [List.getElem?_append_left (by simpa [hl] using hi), List.getElem?_map]
      cases e : ds[i]? with
      | none => rw [e] at h; simp at h
      | some d' =>
        rw [e] at h
        simp at h
        subst h
        obtain ⟨v, q1, q2⟩ := rs.get e
        rw [q1]
        exact ⟨v, rfl, q2⟩
    · rw [List.getElem?_append_right (by simpa using hi)] at h
      have := List.mem_of_getElem? h
      rw [List.mem_replicate] at this
      cases this.2
/-- THE RULE for a def -/
theorem def_ok {P : Program} {w : World} {K : PySem.W.Frag} {mg : Str → Option Value} {base : Heap} {T : Tb} {Y : Ctx} {k : Nat} (fx : Fx P w K mg base T Y k) {x qual : Str} {params : Arguments} {bd : List Stmt} {sc : Scope} {f : Addr} {fd : FuncData} (F : FunD K x qual params bd sc [] [] f fd) {N ps : List Str} {b : List S}
    (hc : chkB T N ps sc bd b = true) {n : Nat} (hn : ps.length = n) {sp : Spec} (hsp : ∀ ds m Q, ds.length = n → sp ds m Q → body Y N.length b ds m Q) : FnG P w K mg base (k + 2) f fd ps (spK K n sp) := by
  unfold chkB at hc
  simp only [Bool.and_eq_true] at hc
  obtain ⟨h1, h2⟩ := hc
  have sco := C8.fnScope_by h1
  refine FnG.of F sco (fun vs H Q h => by rw [h.1, hn]) fun cdv A outer s H vs Q hg hr ⟨hl, ds, m, Qd, rs, hm, hq, fin⟩ => ⟨tSs K Y b, ?_, ?_⟩
  · have xo : XOkS T Y k N sc (cxOf CX0 P w K mg base N qual sc f cdv A outer s H allE).nox :=
      ⟨⟨fx, rfl, sco.kind, rfl, sco.nd, rfl, hr, hg, _, _, rfl, sco.gen, sco.co, rfl, rfl⟩, PassesOwn.never, fun _ => rfl⟩
    exact (ss_ok (chkS_ok xo 30) _ _ h2).nox
  · refine ⟨startD N.length ds, m, _, REnv.start rs hm, hsp ds m Qd (by rw [← rs.length, hl]) hq, ?_⟩
    exact ⟨fun r' m' σ' H' ⟨m2, sb, q⟩ he s' => fin _ _ _ _ q rep_non (he.mem.sub sb) (s'.trans sb.sub.step), fun _ _ _ _ q => q.elim, fun _ _ _ _ q => q.elim,
      fun d m' v H' ⟨m2, sb, q⟩ rv hm' s' => fin _ _ _ _ q (Rep.step sb.sub.step _ _ rv) (hm'.sub sb) (s'.trans sb.sub.step)⟩
end Og
end
section
set_option maxHeartbeats 4000000
set_option autoImplicit false
/-! Og: a module, def by def. -/
namespace Og
open PySem PySem.Spec PyProof.Rows L2

structure Row where
  fk : FK
  n : Nat
  N : List Str
  ps : List Str
  d : He.DefD
  b : List S
def Yn (gd : List D) (cls : Nat → Addr) (spec : Nat → Spec) (j : Nat) : Ctx := ⟨gd, fun i => if i < j then spec i else fun _ _ _ => False, cls⟩
theorem fnG_none {P : Program} {w : World} {K : PySem.W.Frag} {mg : Str → Option Value} {base : Heap} {k : Nat} {f : Addr} {fd : FuncData} {ps : List Str} {n : Nat} (hn : ps.length = n) : FnG P w K mg base k f fd ps (spK K n fun _ _ _ => False) :=
  ⟨fun vs H Q h => by rw [h.1, hn], fun A outer s H args us vs Q _ _ _ _ _ h => by obtain ⟨_, _, _, _, _, _, z, _⟩ := h; exact z.elim⟩
/-- what is known of the module ahead of any promise -/
structure Mx (P : Program) (w : World) (K : PySem.W.Frag) (mg : Str → Option Value) (base : Heap) (T : Tb) (rows : List Row) (gd : List D) (cls : Nat → Addr) : Prop where
  tf : T.fs = rows.map fun r => (r.fk, r.n)
  gs : ∀ (j : Nat) (x : Str), T.gs[j]? = some x → ∃ v u d, mg x = some u ∧ RelV v u ∧ gd[j]? = some d ∧ ∀ m H, Rep K m H v d
  row : ∀ (i : Nat) (r : Row), rows[i]? = some r → r.ps.length = r.n ∧ chkB T r.N r.ps r.d.scope r.d.body r.b = true ∧ ∃ (f : Addr) (fd : FuncData), FunD K r.d.name r.d.qual r.d.params r.d.body r.d.scope [] [] f fd ∧ Binds K fd r.ps [] ∧
    (∀ fn, FkOk K mg ⟨gd, fn, cls⟩ f r.fk) ∧ ∀ ks pm, (i, ks, pm) ∈ T.kw → KBinds K fd r.ps ks (kwG .none pm) (kwG .non pm)
  cs : ∀ (c : Nat) (x : Str) (sl : List Str), T.cs[c]? = some (x, sl) → mg x = some (.ref (cls c)) ∧ SlX.SCls K (cls c) ∧ ∀ (i : Nat) (f : Str), sl[i]? = some f → ∃ p, SlX.Slot1 K (cls c) f p i
  bl : ∀ x ∈ T.bl, mg x = none
  sr : Seer3 base
  tr : P.given.tree = none
theorem mod_ok {P : Program} {w : World} {K : PySem.W.Frag} {mg : Str → Option Value} {base : Heap} {T : Tb} {rows : List Row} {gd : List D} {cls : Nat → Addr} {spec : Nat → Spec} (M : Mx P w K mg base T rows gd cls)
    (law : ∀ (i : Nat) (r : Row), rows[i]? = some r → ∀ ds m Q, ds.length = r.n → spec i ds m Q → body (Yn gd cls spec i) r.N.length r.b ds m Q) : ∀ j : Nat, Fx P w K mg base T (Yn gd cls spec j) (40 + 2 * j)
  | 0 => ⟨M.gs, fun i q n h => by
      rw [M.tf, List.getElem?_map] at h
      cases e : rows[i]? with
      | none => rw [e] at h; cases h
      | some r =>
        rw [e] at h
        obtain ⟨rfl, rfl⟩ : r.fk = q ∧ r.n = n := by simpa using h
        obtain ⟨hn, _, f, fd, F, B, k1, k2⟩ := M.row i r e
        exact ⟨f, fd, r.ps, by
          show FnG P w K mg base 40 f fd r.ps (spK K r.n (if i < 0 then spec i else fun _ _ _ => False))
          rw [if_neg (Nat.not_lt_zero _)]
          exact fnG_none hn, B, k1 _, k2⟩, M.cs, M.bl, M.sr, M.tr, Nat.le_refl _⟩
  | j + 1 => ⟨M.gs, fun i q n h => by
      have ih := mod_ok M law j
      have h0 := h
      rw [M.tf, List.getElem?_map] at h
      cases e : rows[i]? with
      | none => rw [e] at h; cases h
      | some r =>
        rw [e] at h
        obtain ⟨rfl, rfl⟩ : r.fk = q ∧ r.n = n := by simpa using h
        show ∃ (f : Addr) (fd : FuncData) (ps : List Str), FnG P w K mg base (40 + 2 * j + 2) f fd ps (spK K r.n (if i < j + 1 then spec i else fun _ _ _ => False)) ∧ _
        by_cases h1 : i < j
        · obtain ⟨f, fd, ps, F, B, k1, k2⟩ := ih.fs i r.fk r.n h0
          have F' : FnG P w K mg base (40 + 2 * j) f fd ps (spK K r.n (if i < j then spec i else fun _ _ _ => False)) := F
          rw [if_pos h1] at F'
          rw [if_pos (Nat.lt_succ_of_lt h1)]
          refine ⟨f, fd, ps, F'.mono (by omega), B, ?_, k2⟩
          cases hk : r.fk <;> rw [hk] at k1 <;> exact k1
        · obtain ⟨hn, hc, f, fd, F, B, k1, k2⟩ := M.row i r e
          by_cases h2 : i = j
          · subst h2
            rw [if_pos (Nat.lt_succ_self _)]
            exact ⟨f, fd, r.ps, def_ok ih F hc hn (law i r e), B, k1 _, k2⟩
          · rw [if_neg (by omega)]
            exact ⟨f, fd, r.ps, fnG_none hn, B, k1 _, k2⟩, M.cs, M.bl, M.sr, M.tr, by omega⟩
end Og
end
section
set_option maxHeartbeats 4000000
set_option autoImplicit false
/-! Og: what the head must tell of a module. -/
namespace Og
open PySem PySem.Spec PyProof.Rows L2

/-! ### constants of the written part -/
mutual
def cdB (K : PySem.W.Frag) : D → Value → Bool
  | .non, v => (match v with | .none => true | _ => false)
  | .bl b, v => (match v with | .bool c => b == c | _ => false)
  | .int i, v => (match v with | .int j _ => decide (i = j) | _ => false)
  | .str x, v => (match v with | .str y _ => decide (x = y) | _ => false)
  | .ty _, _ => false
  | .ref _, _ => false
  | .tup ds, v => (match v with
    | .ref a => (match K.lookup a with
      | some ⟨.type c, _, .seq its _, _⟩ => decide (c = "tuple") && decide (its.size ≤ sizeLine) && cdsB K ds its.toList
      | _ => false)
    | _ => false)
  | .lst ds, v => (match v with
    | .ref a => (match K.lookup a with
      | some ⟨.type c, none, .seq its _, _⟩ => decide (c = "list") && decide (its.size ≤ sizeLine) && cdsB K ds its.toList
      | _ => false)
    | _ => false)
def cdsB (K : PySem.W.Frag) : List D → List Value → Bool
  | [], [] => true
  | d :: ds, v :: vs => cdB K d v && cdsB K ds vs
  | _, _ => false
end
mutual
theorem cdB_ok {K : PySem.W.Frag} : ∀ (d : D) (v : Value), cdB K d v = true → ∃ x : V, RelV x v ∧ ∀ m H, Rep K m H x d
  | .non, v, h => by
    simp only [cdB] at h; split at h
    · exact ⟨.non, rfl, fun _ _ => rep_non⟩
    · cases h
  | .bl b, v, h => by
    simp only [cdB] at h; split at h
    · have e := eq_of_beq h
      subst e
      exact ⟨.bl b, rfl, fun _ _ => rep_bl⟩
    · cases h
  | .int i, v, h => by
    simp only [cdB] at h; split at h
    · have e := of_decide_eq_true h
      subst e
      exact ⟨.int i, ⟨_, rfl⟩, fun _ _ => rep_int⟩
    · cases h
  | .str x, v, h => by
    simp only [cdB] at h; split at h
    · have e := of_decide_eq_true h
      subst e
      exact ⟨.str x, ⟨_, rfl⟩, fun _ _ => rep_str⟩
    · cases h
  | .ty _, _, h => by simp [cdB] at h
  | .ref _, _, h => by simp [cdB] at h
  | .tup ds, v, h => by
    simp only [cdB] at h; split at h
    · split at h
      · rename_i a x0 c od its n sl e
        simp only [Bool.and_eq_true, decide_eq_true_eq] at h
        obtain ⟨⟨rfl, h2⟩, h3⟩ := h
        obtain ⟨xs, q1, q2⟩ := cdsB_ok ds _ h3
        refine ⟨.ref a, rfl, fun m H => ?_⟩
        simp only [Rep]
        exact ⟨a, xs, rfl, .inr ⟨_, its, n, e, rfl, rfl, h2, q1⟩, q2 m H⟩
      · cases h
    · cases h
  | .lst ds, v, h => by
    simp only [cdB] at h; split at h
    · split at h
      · rename_i a x0 c its n sl e
        simp only [Bool.and_eq_true, decide_eq_true_eq] at h
        obtain ⟨⟨rfl, h2⟩, h3⟩ := h
        obtain ⟨xs, q1, q2⟩ := cdsB_ok ds _ h3
        refine ⟨.ref a, rfl, fun m H => ?_⟩
        simp only [Rep]
        exact ⟨a, xs, rfl, .inr ⟨_, its, n, e, rfl, rfl, rfl, h2, q1⟩, q2 m H⟩
      · cases h
    · cases h
theorem cdsB_ok {K : PySem.W.Frag} : ∀ (ds : List D) (vs : List Value), cdsB K ds vs = true → ∃ xs : List V, Vals xs vs ∧ ∀ m H, Reps K m H xs ds
  | [], [], _ => ⟨[], .nil, fun _ _ => by simp [Reps]⟩
  | d :: ds, v :: vs, h => by
    simp only [cdsB, Bool.and_eq_true] at h
    obtain ⟨x, q1, q2⟩ := cdB_ok d v h.1
    obtain ⟨xs, q3, q4⟩ := cdsB_ok ds vs h.2
    exact ⟨x :: xs, .cons q1 q3, fun m H => by simp only [Reps]; exact ⟨x, xs, rfl, q2 m H, q4 m H⟩⟩
  | [], _ :: _, h => by simp [cdsB] at h
  | _ :: _, [], h => by simp [cdsB] at h
end
def gconB (K : PySem.W.Frag) (x : Str) (d : D) : Bool := match PySem.W.nsIn K mainGlobals x with
  | some (some v) => cdB K d v
  | _ => false
theorem gconB_ok {K : PySem.W.Frag} {h : Heap} {mg : Str → Option Value} (X : K.In h) (G : h.Ns mainGlobals mg) {x : Str} {d : D} (c : gconB K x d = true) : ∃ v u, mg x = some u ∧ RelV v u ∧ ∀ m H, Rep K m H v d := by
  unfold gconB at c
  split at c
  · rename_i u e
    obtain ⟨v, q1, q2⟩ := cdB_ok d u c
    exact ⟨v, u, PySem.W.mg_of X G e, q1, q2⟩
  · cases c

/-! ### classes -/
def slot1B (K : PySem.W.Frag) (C : Addr) (f : Str) (i : Nat) : Bool :=
  He.eqO (PySem.W.findIn K (.ref C) f) (some (some (.ref (He.ma K C f)))) && (He.eqO (PySem.W.specialIn K (.ref (He.ma K C f)) "__get__") (some (some (.builtin "member_descriptor.__get__"))) &&
  (decide (PySem.W.takesIn K (.ref (He.ma K C f)) = some true) && (decide (PySem.W.typeIn K (.ref (He.ma K C f)) = some (.type "member_descriptor")) && (decide (PySem.W.slotIn K (He.ma K C f) C = some i) && decide (i < 1000)))))
theorem slot1B_ok {K : PySem.W.Frag} {C : Addr} {f : Str} {i : Nat} (h : slot1B K C f i = true) : SlX.Slot1 K C f (He.ma K C f) i := by
  unfold slot1B at h
  simp only [Bool.and_eq_true, decide_eq_true_eq] at h
  obtain ⟨h1, h2, h3, h4, h5, h6⟩ := h
  exact ⟨He.eqO_ok h1, He.eqO_ok h2, h3, h4, h5, h6⟩
def sclsB (K : PySem.W.Frag) (C : Addr) : Bool := PySem.W.plainGet K C Str.empty && (PySem.W.isClsIn K C && (PySem.W.plainOver K C && He.eqO (PySem.W.findIn K (.ref C) "__setattr__") (some (some (.builtin "object.__setattr__")))))
theorem sclsB_ok {K : PySem.W.Frag} {C : Addr} (h : sclsB K C = true) : SlX.SCls K C := by
  unfold sclsB at h
  simp only [Bool.and_eq_true] at h
  exact ⟨h.1, h.2.1, h.2.2.1, He.eqO_ok h.2.2.2⟩
def slotsB (K : PySem.W.Frag) (C : Addr) : Nat → List Str → Bool
  | _, [] => true
  | i, f :: fs => slot1B K C f i && slotsB K C (i + 1) fs
theorem slotsB_ok {K : PySem.W.Frag} {C : Addr} : ∀ {sl : List Str} {n i : Nat} {f : Str}, slotsB K C n sl = true → sl[i]? = some f → ∃ p, SlX.Slot1 K C f p (n + i)
  | [], _, _, _, _, e => by simp at e
  | g :: sl, n, 0, f, h, e => by
    simp only [slotsB, Bool.and_eq_true] at h
    simp at e
    subst e
    exact ⟨_, slot1B_ok h.1⟩
  | g :: sl, n, i + 1, f, h, e => by
    simp only [slotsB, Bool.and_eq_true] at h
    obtain ⟨p, q⟩ := slotsB_ok (i := i) h.2 (by simpa using e)
    exact ⟨p, by rw [show n + (i + 1) = n + 1 + i from by omega]; exact q⟩
def clsAllB (K : PySem.W.Frag) : List (Str × List Str) → Bool
  | [] => true
  | (x, sl) :: r => sclsB K (He.ga K x) && (slotsB K (He.ga K x) 0 sl && clsAllB K r)
theorem clsAllB_ok {K : PySem.W.Frag} : ∀ {cs : List (Str × List Str)} {c : Nat} {x : Str} {sl : List Str}, clsAllB K cs = true → cs[c]? = some (x, sl) → SlX.SCls K (He.ga K x) ∧ slotsB K (He.ga K x) 0 sl = true
  | [], _, _, _, _, e => by simp at e
  | (y, tl) :: r, 0, x, sl, h, e => by
    simp only [clsAllB, Bool.and_eq_true] at h
    simp at e
    obtain ⟨rfl, rfl⟩ := e
    exact ⟨sclsB_ok h.1, h.2.1⟩
  | (y, tl) :: r, c + 1, x, sl, h, e => by
    simp only [clsAllB, Bool.and_eq_true] at h
    exact clsAllB_ok (c := c) h.2.2 (by simpa using e)
def gsAllB (K : PySem.W.Frag) : List Str → List D → Bool
  | [], [] => true
  | x :: xs, d :: ds => gconB K x d && gsAllB K xs ds
  | _, _ => false
theorem gsAllB_ok {K : PySem.W.Frag} : ∀ {xs : List Str} {ds : List D} {j : Nat} {x : Str}, gsAllB K xs ds = true → xs[j]? = some x → ∃ d, ds[j]? = some d ∧ gconB K x d = true
  | [], _, _, _, _, e => by simp at e
  | y :: xs, [], _, _, h, _ => by simp [gsAllB] at h
  | y :: xs, d :: ds, 0, x, h, e => by
    simp only [gsAllB, Bool.and_eq_true] at h
    simp at e
    subst e
    exact ⟨d, rfl, h.1⟩
  | y :: xs, d :: ds, j + 1, x, h, e => by
    simp only [gsAllB, Bool.and_eq_true] at h
    obtain ⟨d', q1, q2⟩ := gsAllB_ok (j := j) h.2 (by simpa using e)
    exact ⟨d', by simpa using q1, q2⟩

/-! ### what long divisions ask -/
def keysB (es : Array DictEntry) : Bool := es.toList.all fun e => match e.key with
  | .str _ _ => true
  | _ => false
def lackB (K : PySem.W.Frag) (a : Addr) (xs : List Str) : Bool := match K.lookup a with
  | some ⟨_, _, .dict es _, _⟩ => keysB es && xs.all fun x => (match nsFind es x with | none => true | some _ => false)
  | _ => false
theorem lackB_ok {K : PySem.W.Frag} {h : Heap} (X : K.In h) {a : Addr} {xs : List Str} (c : lackB K a xs = true) : ∃ m, h.Ns a m ∧ ∀ x ∈ xs, m x = none := by
  unfold lackB at c
  split at c
  · rename_i c1 c2 es n sl e
    simp only [Bool.and_eq_true] at c
    refine ⟨nsFind es, ⟨_, es, n, X _ _ e, rfl, fun z hz => ?_, fun _ => rfl⟩, fun x hx => ?_⟩
    · have q := List.all_eq_true.mp c.1 z (by simpa using hz)
      cases k : z.key with
      | str s t => exact ⟨s, t, rfl⟩
      | _ => rw [k] at q; cases q
    · have q := List.all_eq_true.mp c.2 x hx
      split at q
      · assumption
      · cases q
  · cases c
def bmB (K : PySem.W.Frag) : Bool := match PySem.W.nsIn K mainGlobals "__builtins__" with
  | some (some (.ref b)) => (match K.lookup b with
    | some ⟨.type c, some d, _, _⟩ => decide (c = "module") && decide (d = builtinsNs)
    | _ => false)
  | _ => false
theorem bmB_ok {K : PySem.W.Frag} {h : Heap} {mg : Str → Option Value} (X : K.In h) (G : h.Ns mainGlobals mg) (c : bmB K = true) : ∃ mg bm ob, h.Ns mainGlobals mg ∧ mg "__builtins__" = some (.ref bm) ∧ h.get? bm = some ob ∧ ob.cls = .type "module" ∧ ob.dict = some builtinsNs := by
  unfold bmB at c
  split at c
  · rename_i b e
    split at c
    · rename_i c1 d x1 x2 e2
      simp only [Bool.and_eq_true, decide_eq_true_eq] at c
      exact ⟨mg, b, _, G, PySem.W.mg_of X G e, X _ _ e2, by rw [c.1], by rw [c.2]⟩
    · cases c
  · cases c
def seerB (K : PySem.W.Frag) : Bool := lackB K cStatics ["sys.audit-hooks", "sys.dict"] && (lackB K sysModules ["_pylong"] && bmB K)
theorem seerB_ok {K : PySem.W.Frag} {h : Heap} {mg : Str → Option Value} (X : K.In h) (G : h.Ns mainGlobals mg) (c : seerB K = true) : Seer3 h := by
  unfold seerB at c
  simp only [Bool.and_eq_true] at c
  obtain ⟨mc, h1, h2⟩ := lackB_ok X c.1
  obtain ⟨mm, h3, h4⟩ := lackB_ok X c.2.1
  exact ⟨⟨mc, h1, h2 _ (by simp), h2 _ (by simp)⟩, ⟨mm, h3, h4 _ (by simp)⟩, bmB_ok X G c.2.2⟩
/-! ### the Hook -/
def asO (g : Addr → Option Obj) : Nat → List Addr
  | 0 => [mainGlobals, cStatics, sysModules]
  | n + 1 => He.growD g (asO g n)
abbrev AlO : Type := He.AlD × Bool
def frO (n : Nat) (g : Addr → Option Obj) : PySem.W.Frag := He.frG g (asO g n)
def obO (n : Nat) (fa : List He.Fa) (fn : List He.DefD) (ex : PySem.W.Frag → Bool) (g : Addr → Option Obj) : AlO := (He.obsD fa fn (frO n g), ex (frO n g))
def hookO (n : Nat) (fa : List He.Fa) (fn : List He.DefD) (ex : PySem.W.Frag → Bool) : PySem.W.Hook where
  α := AlO
  obs := fun s => obO n fa fn ex s.heap.get?
  val := fun _ => (He.valD fn, true)
  says := fun _ h => ∃ K : PySem.W.Frag, K.In h ∧ He.SaysD fa fn K ∧ ex K = true
  of := fun _ _ e => ⟨_, He.frG_in, congrArg (fun z : AlO => z.1) e, congrArg (fun z : AlO => z.2) e⟩
  keeps := fun _ _ _ ⟨K, hK, c, d⟩ k => ⟨K, PySem.W.Frag.In.keeps hK k, c, d⟩
theorem obO_eq {n : Nat} {fa : List He.Fa} {fn : List He.DefD} {ex : PySem.W.Frag → Bool} {g : Addr → Option Obj} {s : Shared} (h : ∀ a, g a = s.heap.get? a) : obO n fa fn ex g = (hookO n fa fn ex).obs s := by
  have e : g = s.heap.get? := funext h
  rw [e]; rfl

/-! ### the head's lists -/
def Tb.cn (T : Tb) (c : Nat) : Str := match T.cs[c]? with
  | some (x, _) => x
  | none => Str.empty
def fkFa (T : Tb) : FK → He.Fa
  | .top x => .glo x
  | .meth c m => .meth (T.cn c) m
  | .init c => .mkr (T.cn c)
def fkAt (T : Tb) : FK → Str × Option Str
  | .top x => (x, none)
  | .meth c m => (T.cn c, some m)
  | .init c => (T.cn c, some "__init__")
def faOf (T : Tb) (rows : List Row) : List He.Fa := T.bl.map .free ++ (rows.map (fun r => fkFa T r.fk) ++ T.cs.map fun c => .glo c.1)
def fnOf (rows : List Row) : List He.DefD := rows.map (·.d)
def exOf (T : Tb) (gd : List D) (K : PySem.W.Frag) : Bool := gsAllB K T.gs gd && (clsAllB K T.cs && seerB K)
def clsOf (T : Tb) (K : PySem.W.Frag) (c : Nat) : Addr := He.ga K (T.cn c)
def rowB (T : Tb) (r : Row) : Bool := decide (r.d.at_ = fkAt T r.fk) && decide (r.ps.length = r.n) && r.d.dfl.isEmpty && r.d.kwd.isEmpty && chkB T r.N r.ps r.d.scope r.d.body r.b
/-- how a def takes its arguments -/
def BindLaw (r : Row) : Prop := ∀ (kV doc pm : Value) (an : Option Addr) (cdv ct : Value) (us : List Value), us.length = r.ps.length → bindArgs (PySem.W.fnOf r.d.name r.d.qual r.d.params r.d.body r.d.scope .none kV doc pm an cdv ct) ⟨us, []⟩ = pure (r.ps.zip us)
def KwLaw (r : Row) (ks : List Str) (pm : List Nat) : Prop := r.ps ≠ [] ∧ pm.length = r.ps.length ∧ ∀ (kV doc pmv : Value) (an : Option Addr) (cdv ct : Value) (ws : List Value), ws.length = pm.length → bindArgs (PySem.W.fnOf r.d.name r.d.qual r.d.params r.d.body r.d.scope .none kV doc pmv an cdv ct) ⟨[], ks.zip ws⟩ = pure (r.ps.zip (pm.map fun i => ws.getD i .none))
theorem getD_vals {zs : List V} {ws : List Value} (r : Vals zs ws) (i : Nat) : RelV (zs.getD i .non) (ws.getD i .none) := by
  rw [List.getD_eq_getElem?_getD, List.getD_eq_getElem?_getD]
  cases e : zs[i]? with
  | none =>
    have h1 : ws[i]? = none := by
      rw [List.getElem?_eq_none_iff] at e ⊢
      rw [← r.length]; exact e
    rw [h1]; rfl
  | some d =>
    obtain ⟨u, h1, h2⟩ := r.get e
    rw [h1]; exact h2
theorem pm_vals {zs : List V} {ws : List Value} (rz : Vals zs ws) : ∀ pm : List Nat, Vals (pm.map fun i => zs.getD i .non) (pm.map fun i => ws.getD i .none)
  | [] => .nil
  | i :: pm => .cons (getD_vals rz i) (pm_vals rz pm)
theorem kwG_rel {pm : List Nat} {vs : List V} {us : List Value} {zs : List V} {ws : List Value} (r : Vals vs us) (rz : Vals zs ws) : Vals (kwG .non pm vs zs) (kwG .none pm us ws) := by
  unfold kwG
  rw [rz.length]
  split
  · exact r.append (pm_vals rz pm)
  · exact .nil
theorem kw_of {K : PySem.W.Frag} {r : Row} {fd : FuncData} {f : Addr} {ks : List Str} {pm : List Nat} (F : FunD K r.d.name r.d.qual r.d.params r.d.body r.d.scope [] [] f fd) (h : KwLaw r ks pm) : KBinds K fd r.ps ks (kwG .none pm) (kwG .non pm) := by
  obtain ⟨oc, od, dV, kV, doc, pmv, an, cdv, ct, osl, rfl, lk, hcd, hD, hK⟩ := F.ex
  obtain ⟨h1, h2, h3⟩ := h
  rcases hD with ⟨_, rfl⟩ | ⟨e, _⟩
  · refine ⟨fun s us ws _ hl => ?_, fun r1 r2 => kwG_rel r1 r2⟩
    unfold kwG at hl ⊢
    split at hl
    · rename_i e
      rw [if_pos e]
      have hu : us = [] := by
        cases us with
        | nil => rfl
        | cons a us =>
          simp only [List.length_append, List.length_cons, List.length_map] at hl
          omega
      subst hu
      exact .of_eq (h3 kV doc pmv an cdv ct ws e)
    · exfalso
      exact h1 (List.length_eq_zero_iff.mp hl.symm)
  · exact absurd rfl e
theorem bind_of {K : PySem.W.Frag} {r : Row} {fd : FuncData} {f : Addr} (F : FunD K r.d.name r.d.qual r.d.params r.d.body r.d.scope [] [] f fd) (h : BindLaw r) : Binds K fd r.ps [] := F.bindsN h
theorem mx_ok {P : Program} {w : World} {K : PySem.W.Frag} {base : Heap} {mg : Str → Option Value} {T : Tb} {rows : List Row} {gd : List D} (X : K.In base) (G : base.Ns mainGlobals mg) (c : He.SaysD (faOf T rows) (fnOf rows) K) (e : exOf T gd K = true) (tf : T.fs = rows.map fun r => (r.fk, r.n))
    (hr : rows.all (rowB T) = true) (hb : ∀ r ∈ rows, BindLaw r) (hk : ∀ i ks pm, (i, ks, pm) ∈ T.kw → ∀ r, rows[i]? = some r → KwLaw r ks pm) (tr : P.given.tree = none) : Mx P w K mg base T rows gd (clsOf T K) := by
  unfold exOf at e
  simp only [Bool.and_eq_true] at e
  refine ⟨tf, fun j x hx => ?_, fun i r hi => ?_, fun cc x sl hc => ?_, fun x hx => ?_, seerB_ok X G e.2.2, tr⟩
  · obtain ⟨d, q1, q2⟩ := gsAllB_ok e.1 hx
    obtain ⟨v, u, q3, q4, q5⟩ := gconB_ok X G q2
    exact ⟨v, u, d, q3, q4, q1, q5⟩
  · have hm := List.mem_of_getElem? hi
    have hrw := List.all_eq_true.mp hr r hm
    unfold rowB at hrw
    simp only [Bool.and_eq_true, decide_eq_true_eq, List.isEmpty_iff] at hrw
    obtain ⟨⟨⟨⟨h1, h2⟩, h3⟩, h4⟩, h5⟩ := hrw
    obtain ⟨fd, F⟩ := c.defs (d := r.d) (List.mem_map_of_mem hm)
    have F' : FunD K r.d.name r.d.qual r.d.params r.d.body r.d.scope [] [] (He.fAd K r.d.at_) fd := by
      have e1 : r.d.dvs K = [] := by unfold He.DefD.dvs; rw [h3]; rfl
      have e2 : r.d.kws K = [] := by unfold He.DefD.kws; rw [h4]; rfl
      rw [e1, e2] at F; exact F
    refine ⟨h2, h5, _, fd, F', bind_of F' (hb r hm), fun fn => ?_, fun ks pm hkw => kw_of F' (hk i ks pm hkw r hi)⟩
    have fact := c.facts (f := fkFa T r.fk) (List.mem_append_right _ (List.mem_append_left _ (List.mem_map.mpr ⟨r, hm, rfl⟩)))
    rw [h1]
    cases hfk : r.fk with
    | top x =>
      rw [hfk] at fact h1
      have hg := He.glo_ok X G fact
      exact ⟨hg, by have := F'.kp; rw [h1] at this; exact this⟩
    | meth c' m =>
      rw [hfk] at fact
      exact He.meth_ok fact
    | init c' =>
      rw [hfk] at fact
      exact He.mkr_ok fact
  · obtain ⟨q1, q2⟩ := clsAllB_ok e.2.1 hc
    have ecn : T.cn cc = x := by unfold Tb.cn; rw [hc]
    have fact := c.facts (f := .glo x) (List.mem_append_right _ (List.mem_append_right _ (List.mem_map.mpr ⟨(x, sl), List.mem_of_getElem? hc, rfl⟩)))
    unfold clsOf
    rw [ecn]
    exact ⟨He.glo_ok X G fact, q1, fun i f hf => by
      obtain ⟨p, q⟩ := slotsB_ok q2 hf
      exact ⟨p, by rw [Nat.zero_add] at q; exact q⟩⟩
  · exact He.free_ok X G (c.facts (f := .free x) (List.mem_append_left _ (List.mem_map_of_mem hx)))
end Og
end
section
set_option maxHeartbeats 0
set_option autoImplicit false
namespace Og.Lk44
open PySem PySem.Spec PyProof.Rows L2 Og
def top (i : Nat) : Stmt := PySem.Challenge.pw_opengates_k44_whole_determinants.main.body.getD i (.Pass ⟨0, 0, 0, 0⟩)

/-- _law_num_back -/
def c0 : List S := [.for_ (.nm 2) (.rg2 (.int 1) (.x 0)) [.ite (.cmp .eq (.bop .mod (.b1 .int (.bop .mul (.x 2) (.x 1))) (.x 0)) (.int 1)) [.ret (.x 2)] []],
    .ret (.int 0)]
/-- _law_num -/
def c1 : List S := [.ite (.cmp .gt (.x 0) (.int 0)) [.ret (.tup [.bop .mod (.b1 .int (.bop .mul (.x 1) (.call 0 [.x 0, .bop .mod (.b1 .int (.x 2)) (.x 0)]))) (.x 0), .int 1])] [],
    .par [3, 4] [.b1 .abs (.x 1), .b1 .abs (.x 2)],
    .while_ (.cmp .gt (.x 4) (.int 0)) [.par [3, 4] [.x 4, .bop .mod (.b1 .int (.x 3)) (.x 4)]],
    .asg (.nm 3) (.ife (.cmp .gt (.x 2) (.int 0)) (.x 3) (.neg (.x 3))),
    .ret (.tup [.bop .fdiv (.x 1) (.x 3), .bop .fdiv (.x 2) (.x 3)])]
/-- _law_num_times -/
def c2 : List S := [.ret (.call 1 [.x 0, .bop .mul (.ix (.x 1) (.int 0)) (.ix (.x 2) (.int 0)), .bop .mul (.ix (.x 1) (.int 1)) (.ix (.x 2) (.int 1))])]
/-- _law_num_less -/
def c3 : List S := [.ret (.call 1 [.x 0, .bop .sub (.bop .mul (.ix (.x 1) (.int 0)) (.ix (.x 2) (.int 1))) (.bop .mul (.ix (.x 2) (.int 0)) (.ix (.x 1) (.int 1))), .bop .mul (.ix (.x 1) (.int 1)) (.ix (.x 2) (.int 1))])]
/-- _law_num_add -/
def c4 : List S := [.ret (.call 1 [.x 0, .bop .add (.bop .mul (.ix (.x 1) (.int 0)) (.ix (.x 2) (.int 1))) (.bop .mul (.ix (.x 2) (.int 0)) (.ix (.x 1) (.int 1))), .bop .mul (.ix (.x 1) (.int 1)) (.ix (.x 2) (.int 1))])]
/-- _law_picked -/
def c5 : List S := [.par [2, 3] [.tup [.int 0, .int 1], .lst false [.tup []]],
    .for_ (.nm 4) (.sq (.x 1)) [.asg (.nm 5) (.lst true []),
    .for_ (.nm 6) (.sq (.x 3)) [.ex (.m1 .extend (.x 5) (.lc true (.bop .add (.x 6) (.tup [.x 8])) (.nm 8) (.rg1 (.b1 .len (.x 4))) [.cmp .notin (.x 8) (.x 6)] [8]))],
    .asg (.nm 3) (.x 5)],
    .for_ (.nm 6) (.sq (.x 3)) [.asg (.nm 7) (.tup [.int 1, .int 1]),
    .for_ (.tup [.nm 4, .nm 8]) (.zip (.x 1) (.x 6)) [.asg (.nm 7) (.call 2 [.x 0, .x 7, .ix (.x 4) (.x 8)])],
    .asg (.nm 9) (.b1 .sum (.lc false (.b1 .len (.lc false (.x 10) (.nm 10) (.sq (.sl false (.x 6) none (some (.x 8)))) [.cmp .gt (.x 10) (.ix (.x 6) (.x 8))] [10])) (.nm 8) (.rg1 (.b1 .len (.x 6))) [] [8])),
    .asg (.nm 2) (.ife (.cmp .eq (.bop .mod (.b1 .int (.x 9)) (.int 2)) (.int 1)) (.call 3 [.x 0, .x 2, .x 7]) (.call 4 [.x 0, .x 2, .x 7]))],
    .ret (.x 2)]
/-- _law_num_over -/
def c6 : List S := [.ret (.call 1 [.x 0, .bop .mul (.ix (.x 1) (.int 0)) (.ix (.x 2) (.int 1)), .bop .mul (.ix (.x 1) (.int 1)) (.ix (.x 2) (.int 0))])]
/-- _law_solve_det -/
def c7 : List S := [.asg (.tup [.nm 2, .nm 3]) (.tup [.tup [.int 1, .int 1], .lc true (.b1 (.list false) (.x 8)) (.nm 8) (.sq (.x 1)) [] [8]]),
    .for_ (.nm 4) (.rg1 (.b1 .len (.x 3))) [.asgC 5 (.lc false (.x 6) (.nm 6) (.rg2 (.x 4) (.b1 .len (.x 3))) [.cmp .ne (.ix (.ix (.x 3) (.x 6)) (.x 4)) (.tup [.int 0, .int 1])] [6]),
    .ite (.cmp .eq (.x 5) (.lst false [])) [.ret (.tup [.int 0, .int 1])] [],
    .ite (.cmp .ne (.ix (.x 5) (.int 0)) (.x 4)) [.setIx2 (.x 3) (.x 4) (.x 3) (.ix (.x 5) (.int 0)) (.tup [.ix (.x 3) (.ix (.x 5) (.int 0)), .ix (.x 3) (.x 4)]),
    .asg (.nm 2) (.call 3 [.x 0, .tup [.int 0, .int 1], .x 2])] [],
    .asg (.nm 2) (.call 2 [.x 0, .x 2, .ix (.ix (.x 3) (.x 4)) (.x 4)]),
    .for_ (.nm 6) (.rg2 (.bop .add (.x 4) (.int 1)) (.b1 .len (.x 3))) [.asg (.nm 7) (.call 6 [.x 0, .ix (.ix (.x 3) (.x 6)) (.x 4), .ix (.ix (.x 3) (.x 4)) (.x 4)]),
    .setIx (.x 3) (.x 6) (.lc false (.call 3 [.x 0, .x 9, .call 2 [.x 0, .x 7, .x 10]]) (.tup [.nm 9, .nm 10]) (.zip (.ix (.x 3) (.x 6)) (.ix (.x 3) (.x 4))) [] [9, 10])]],
    .ret (.x 2)]
/-- _law_due -/
def c8 : List S := [.ret (.ife (.cmp .lt (.b1 .len (.x 1)) (.int 5)) (.call 5 [.x 0, .x 1]) (.call 7 [.x 0, .x 1]))]
/-- _law_take -/
def c9 : List S := [.ite (.cmp .gt (.ix (.x 0) (.int 0)) (.int 0)) [.asg (.nm 2) (.bop .mod (.b1 .int (.ix (.x 0) (.int 0))) (.x 1)),
    .setIx (.x 0) (.int 0) (.bop .fdiv (.ix (.x 0) (.int 0)) (.x 1)),
    .ret (.x 2)] [],
    .setIx (.x 0) (.int 2) (.bop .add (.ix (.x 0) (.int 2)) (.int 1)),
    .asg (.nm 3) (.ix (.lst false [.int 2147483647, .int 2147483629, .int 2147483587, .int 2147483579, .int 2147483563]) (.bop .mod (.b1 .int (.ix (.x 0) (.int 2))) (.int 5))),
    .asg (.nm 4) (.bop .mod (.b1 .int (.bop .pow (.b1 .int (.bop .add (.bop .add (.ix (.x 0) (.int 1)) (.bop .mul (.bop .mul (.int 116443) (.ix (.x 0) (.int 2))) (.ix (.x 0) (.int 2)))) (.int 2853))) (.int 3))) (.x 3)),
    .asg (.nm 4) (.bop .mod (.b1 .int (.bop .mul (.x 4) (.bop .add (.bop .mod (.b1 .int (.x 4)) (.int 14569)) (.bop .mul (.int 673) (.ix (.x 0) (.int 2)))))) (.int 2305843009213693907)),
    .ret (.bop .mod (.b1 .int (.bop .fdiv (.x 4) (.int 167))) (.x 1))]
/-- _law_of -/
def c10 : List S := [.ret (.ix (.x 1) (.call 9 [.x 0, .b1 .len (.x 1)]))]
/-- _law_span_worth -/
def c11 : List S := [.ite (.cmp .gt (.x 1) (.int 0)) [.ret (.tup [.call 9 [.x 0, .x 1], .int 1])] [],
    .asg (.nm 2) (.call 10 [.x 0, .lst false [.int 0, .int 0, .int 1, .neg (.int 1), .int 2, .int 3, .neg (.int 5), .int 1, .int 0, .call 9 [.x 0, .int 100], .bop .pow (.int 10) (.int 12), .neg (.bop .pow (.int 10) (.int 12))]]),
    .ret (.call 1 [.int 0, .x 2, .call 10 [.x 0, .lst false [.int 1, .int 1, .int 1, .int 1, .int 2, .int 3, .int 7]]])]
/-- _law_span_row -/
def c12 : List S := [.ite (.and (.cmp .eq (.x 1) (.int 0)) (.cmp .gt (.x 2) (.int 5))) [.ret (.b1 .tuple (.lc false (.tup [.call 10 [.x 0, .lst false [.int 0, .int 0, .int 1, .neg (.int 1), .int 2, .neg (.int 3)]], .int 1]) (.nm 3) (.rg1 (.x 2)) [] [3]))] [],
    .ret (.b1 .tuple (.lc false (.call 11 [.x 0, .x 1]) (.nm 3) (.rg1 (.x 2)) [] [3]))]
/-- _law_num_sum -/
def c13 : List S := [.asg (.nm 2) (.tup [.int 0, .int 1]),
    .for_ (.nm 3) (.sq (.x 1)) [.asg (.nm 2) (.call 4 [.x 0, .x 2, .x 3])],
    .ret (.x 2)]
/-- _law_span_mixed -/
def c14 : List S := [.asg (.nm 3) (.lst true []),
    .for_ (.nm 4) (.rg1 (.b1 .len (.ix (.x 1) (.int 0)))) [.ex (.m1 .append (.x 3) (.call 13 [.x 0, .lc false (.call 2 [.x 0, .x 5, .ix (.x 6) (.x 4)]) (.tup [.nm 5, .nm 6]) (.zip (.x 2) (.x 1)) [] [5, 6]]))],
    .ret (.b1 .tuple (.x 3))]
/-- _law_span_more -/
def c15 : List S := [.asg (.nm 4) (.call 9 [.x 0, .int 8]),
    .ite (.or (.cmp .eq (.x 2) (.lst false [])) (.cmp .lt (.x 4) (.int 4))) [.ret (.call 12 [.x 0, .x 1, .x 3])] [],
    .ite (.cmp .lt (.x 4) (.int 6)) [.asg (.nm 5) (.lst false [.call 10 [.x 0, .x 2], .call 10 [.x 0, .x 2]]),
    .ret (.call 14 [.x 1, .x 5, .lc false (.call 1 [.x 1, .call 10 [.x 0, .lst false [.int 1, .neg (.int 1), .int 2, .int 3]], .int 1]) (.nm 6) (.sq (.x 5)) [] [6]])] [],
    .ret (.ife (.cmp .eq (.x 4) (.int 6)) (.b1 .tuple (.bop .mul (.lst true [.tup [.int 0, .int 1]]) (.x 3))) (.call 10 [.x 0, .x 2]))]
/-- _law_span_rows -/
def c16 : List S := [.asg (.nm 4) (.lst true []),
    .for_ (.nm 5) (.rg1 (.x 2)) [.ex (.m1 .append (.x 4) (.call 15 [.x 0, .x 1, .x 4, .x 3]))],
    .ret (.b1 .tuple (.x 4))]
/-- is_whole -/
def c17 : List S := [.ret (.and (.isi (.x 0) "int") (.not (.isi (.x 0) "bool")))]
/-- is_by -/
def c18 : List S := [.ret (.and (.call 17 [.x 0]) (.or (.cmp .eq (.x 0) (.int 0)) (.cmp .in_ (.x 0) (.g 0))))]
/-- is_tuple -/
def c19 : List S := [.ret (.and (.isi (.x 0) "tuple") (.ch .le .le (.x 1) (.b1 .len (.x 0)) (.x 2)))]
/-- common -/
def c20 : List S := [.par [0, 1] [.b1 .abs (.x 0), .b1 .abs (.x 1)],
    .while_ (.cmp .ne (.x 1) (.int 0)) [.par [0, 1] [.x 1, .bop .mod (.x 0) (.x 1)]],
    .ret (.x 0)]
/-- is_worth -/
def c21 : List S := [.ite (.or (.not (.call 19 [.x 1, .g 3, .g 3])) (.or (.not (.call 17 [.ix (.x 1) (.int 0)])) (.or (.not (.call 17 [.ix (.x 1) (.int 1)])) (.cmp .lt (.ix (.x 1) (.int 1)) (.int 1))))) [.ret (.bl false)] [],
    .ite (.cmp .eq (.x 0) (.int 0)) [.ret (.cmp .eq (.call 20 [.ix (.x 1) (.int 0), .ix (.x 1) (.int 1)]) (.int 1))] [],
    .ret (.and (.cmp .eq (.ix (.x 1) (.int 1)) (.int 1)) (.ch .le .lt (.int 0) (.ix (.x 1) (.int 0)) (.x 0)))]
/-- are_worths -/
def c22 : List S := [.ret (.and (.call 19 [.x 1, .x 2, .x 2]) (.b1 .all (.lc false (.call 21 [.x 0, .x 3]) (.nm 3) (.sq (.x 1)) [] [3])))]
/-- is_matrix -/
def c23 : List S := [.ite (.or (.not (.call 19 [.x 1, .int 1, .g 4])) (.not (.call 19 [.ix (.x 1) (.int 0), .int 1, .g 4]))) [.ret (.bl false)] [],
    .ret (.b1 .all (.lc false (.call 22 [.x 0, .x 2, .b1 .len (.ix (.x 1) (.int 0))]) (.nm 2) (.sq (.x 1)) [] [2]))]
/-- check_matrix -/
def c24 : List S := [.ite (.not (.call 18 [.x 0])) [.never] [],
    .ite (.not (.call 23 [.x 0, .x 1])) [.never] []]
/-- least -/
def c25 : List S := [.asg (.nm 2) (.ife (.cmp .gt (.x 1) (.int 0)) (.call 20 [.x 0, .x 1]) (.neg (.call 20 [.x 0, .x 1]))),
    .ret (.tup [.bop .fdiv (.x 0) (.x 2), .bop .fdiv (.x 1) (.x 2)])]
/-- inverse -/
def c26 : List S := [.asg (.tup [.nm 2, .nm 3, .nm 4, .nm 5]) (.tup [.bop .mod (.x 1) (.x 0), .x 0, .int 1, .int 0]),
    .while_ (.cmp .ne (.x 3) (.int 0)) [.asg (.nm 6) (.bop .fdiv (.x 2) (.x 3)),
    .asg (.tup [.nm 2, .nm 3, .nm 4, .nm 5]) (.tup [.x 3, .bop .sub (.x 2) (.bop .mul (.x 6) (.x 3)), .x 5, .bop .sub (.x 4) (.bop .mul (.x 6) (.x 5))])],
    .ret (.bop .mod (.x 4) (.x 0))]
/-- worth_of -/
def c27 : List S := [.ite (.cmp .ne (.x 0) (.int 0)) [.ret (.tup [.bop .mod (.bop .mul (.x 1) (.call 26 [.x 0, .x 2])) (.x 0), .int 1])] [],
    .ret (.call 25 [.x 1, .x 2])]
/-- times -/
def c28 : List S := [.ite (.cmp .ne (.x 0) (.int 0)) [.ret (.tup [.bop .mod (.bop .mul (.ix (.x 1) (.int 0)) (.ix (.x 2) (.int 0))) (.x 0), .int 1])] [],
    .ret (.call 27 [.x 0, .bop .mul (.ix (.x 1) (.int 0)) (.ix (.x 2) (.int 0)), .bop .mul (.ix (.x 1) (.int 1)) (.ix (.x 2) (.int 1))])]
/-- turned -/
def c29 : List S := [.ret (.call 27 [.x 0, .ix (.x 1) (.int 1), .ix (.x 1) (.int 0)])]
/-- negative -/
def c30 : List S := [.ret (.call 27 [.x 0, .neg (.ix (.x 1) (.int 0)), .ix (.x 1) (.int 1)])]
/-- plus -/
def c31 : List S := [.ite (.cmp .ne (.x 0) (.int 0)) [.ret (.tup [.bop .mod (.bop .add (.ix (.x 1) (.int 0)) (.ix (.x 2) (.int 0))) (.x 0), .int 1])] [],
    .ret (.call 27 [.x 0, .bop .add (.bop .mul (.ix (.x 1) (.int 0)) (.ix (.x 2) (.int 1))) (.bop .mul (.ix (.x 2) (.int 0)) (.ix (.x 1) (.int 1))), .bop .mul (.ix (.x 1) (.int 1)) (.ix (.x 2) (.int 1))])]
/-- row_plus -/
def c32 : List S := [.ite (.cmp .eq (.ix (.x 2) (.int 0)) (.int 0)) [.ret (.x 1)] [],
    .ret (.b1 .tuple (.lc false (.call 31 [.x 0, .x 4, .call 28 [.x 0, .x 2, .x 5]]) (.tup [.nm 4, .nm 5]) (.zip (.x 1) (.x 3)) [] [4, 5]))]
/-- determinant -/
def c33 : List S := [.ex (.call 24 [.x 0, .x 1]),
    .ite (.cmp .ne (.b1 .len (.x 1)) (.b1 .len (.ix (.x 1) (.int 0)))) [.never] [],
    .asg (.tup [.nm 2, .nm 3]) (.tup [.b1 (.list true) (.x 1), .g 2]),
    .for_ (.nm 4) (.rg1 (.b1 .len (.x 1))) [.asgC 5 (.lc false (.x 6) (.nm 6) (.rg2 (.x 4) (.b1 .len (.x 2))) [.cmp .ne (.ix (.ix (.ix (.x 2) (.x 6)) (.x 4)) (.int 0)) (.int 0)] [6]),
    .ite (.cmp .eq (.x 5) (.lst false [])) [.ret (.g 1)] [],
    .asg (.nm 6) (.ix (.x 5) (.int 0)),
    .ite (.cmp .ne (.x 6) (.x 4)) [.setIx2 (.x 2) (.x 4) (.x 2) (.x 6) (.tup [.ix (.x 2) (.x 6), .ix (.x 2) (.x 4)]),
    .asg (.nm 3) (.call 30 [.x 0, .x 3])] [],
    .asg (.nm 3) (.call 28 [.x 0, .x 3, .ix (.ix (.x 2) (.x 4)) (.x 4)]),
    .asg (.nm 7) (.call 29 [.x 0, .ix (.ix (.x 2) (.x 4)) (.x 4)]),
    .for_ (.nm 8) (.rg2 (.bop .add (.x 4) (.int 1)) (.b1 .len (.x 2))) [.asg (.nm 9) (.call 30 [.x 0, .call 28 [.x 0, .x 7, .ix (.ix (.x 2) (.x 8)) (.x 4)]]),
    .setIx (.x 2) (.x 8) (.call 32 [.x 0, .ix (.x 2) (.x 8), .x 9, .ix (.x 2) (.x 4)])]],
    .ret (.x 3)]
/-- _law_are_moves_right -/
def c34 : List S := [.asg (.nm 4) (.b1 .len (.x 2)),
    .asg (.tup [.nm 5, .nm 6, .nm 7]) (.tup [.call 9 [.x 0, .x 4], .call 9 [.x 0, .x 4], .call 1 [.x 1, .call 10 [.x 0, .lst false [.int 2, .neg (.int 3), .int 5]], .int 1]]),
    .asg (.nm 8) (.b1 (.list true) (.x 2)),
    .setIx2 (.x 8) (.x 5) (.x 8) (.x 6) (.tup [.ix (.x 2) (.x 6), .ix (.x 2) (.x 5)]),
    .asg (.nm 9) (.ife (.cmp .eq (.x 5) (.x 6)) (.x 3) (.call 3 [.x 1, .tup [.int 0, .int 1], .x 3])),
    .ite (.cmp .ne (.b1 .repr (.call 33 [.x 1, .b1 .tuple (.x 8)])) (.b1 .repr (.x 9))) [.ret (.bl false)] [],
    .asg (.nm 10) (.b1 .tuple (.lc false (.call 2 [.x 1, .x 7, .x 13]) (.nm 13) (.sq (.ix (.x 2) (.x 5))) [] [13])),
    .ite (.cmp .ne (.b1 .repr (.call 33 [.x 1, .bop .add (.bop .add (.sl false (.x 2) none (some (.x 5))) (.tup [.x 10])) (.sl false (.x 2) (some (.bop .add (.x 5) (.int 1))) none)])) (.b1 .repr (.call 2 [.x 1, .x 7, .x 3]))) [.ret (.bl false)] [],
    .ite (.cmp .ne (.x 5) (.x 6)) [.asg (.nm 11) (.b1 .tuple (.lc false (.call 4 [.x 1, .x 13, .x 15]) (.tup [.nm 13, .nm 15]) (.zip (.ix (.x 2) (.x 5)) (.ix (.x 2) (.x 6))) [] [13, 15])),
    .ite (.cmp .ne (.b1 .repr (.call 33 [.x 1, .bop .add (.bop .add (.sl false (.x 2) none (some (.x 5))) (.tup [.x 11])) (.sl false (.x 2) (some (.bop .add (.x 5) (.int 1))) none)])) (.b1 .repr (.x 3))) [.ret (.bl false)] []] [],
    .asg (.nm 12) (.b1 .tuple (.lc false (.b1 .tuple (.lc false (.ix (.x 16) (.x 14)) (.nm 16) (.sq (.x 2)) [] [16])) (.nm 14) (.rg1 (.x 4)) [] [14])),
    .ret (.cmp .eq (.b1 .repr (.call 33 [.x 1, .x 12])) (.b1 .repr (.x 3)))]
/-- Stair_cleared -/
def c35 : List S := [.for_ (.tup [.nm 3, .nm 4, .nm 5]) (.sq (.slot (.x 0) 0 2)) [.asg (.nm 6) (.call 30 [.slot (.x 0) 0 0, .ix (.x 1) (.x 3)]),
    .asg (.nm 1) (.call 32 [.slot (.x 0) 0 0, .x 1, .x 6, .x 4]),
    .asg (.nm 2) (.call 32 [.slot (.x 0) 0 0, .x 2, .x 6, .x 5])],
    .ret (.tup [.x 1, .x 2])]
/-- leading -/
def c36 : List S := [.for_ (.tup [.nm 1, .nm 2]) (.enum (.x 0)) [.ite (.cmp .ne (.ix (.x 2) (.int 0)) (.int 0)) [.ret (.x 1)] []],
    .ret (.non)]
/-- row_times -/
def c37 : List S := [.ret (.b1 .tuple (.lc false (.call 28 [.x 0, .x 1, .x 3]) (.nm 3) (.sq (.x 2)) [] [3]))]
/-- Stair_take -/
def c38 : List S := [.asg (.nm 3) (.call 36 [.x 1]),
    .ite (.cmp .is_ (.x 3) (.non)) [.ex (.m1 .append (.slot (.x 0) 0 1) (.x 2)),
    .retN] [],
    .asg (.nm 4) (.call 29 [.slot (.x 0) 0 0, .ix (.x 1) (.x 3)]),
    .par [1, 2] [.call 37 [.slot (.x 0) 0 0, .x 4, .x 1], .call 37 [.slot (.x 0) 0 0, .x 4, .x 2]],
    .asg (.nm 5) (.lst true []),
    .for_ (.tup [.nm 6, .nm 7, .nm 8]) (.sq (.slot (.x 0) 0 2)) [.asg (.nm 9) (.call 30 [.slot (.x 0) 0 0, .ix (.x 7) (.x 3)]),
    .asg (.nm 7) (.call 32 [.slot (.x 0) 0 0, .x 7, .x 9, .x 1]),
    .ex (.m1 .append (.x 5) (.tup [.x 6, .x 7, .call 32 [.slot (.x 0) 0 0, .x 8, .x 9, .x 2]]))],
    .setAt (.x 0) 0 2 (.lst false [.star (.x 5), .tup [.x 3, .x 1, .x 2]])]
/-- Stair_init -/
def c39 : List S := [.setAt (.x 0) 0 0 (.x 1),
    .setAt (.x 0) 0 2 (.lst false []),
    .setAt (.x 0) 0 1 (.lst true []),
    .for_ (.tup [.nm 3, .nm 4]) (.enum (.x 2)) [.asg (.nm 5) (.b1 .tuple (.lc false (.ife (.cmp .eq (.x 8) (.x 3)) (.g 2) (.g 1)) (.nm 8) (.rg1 (.b1 .len (.x 2))) [] [8])),
    .asg (.tup [.nm 6, .nm 7]) (.meth 35 0 (.x 0) [.x 4, .x 5]),
    .ex (.meth 38 0 (.x 0) [.x 6, .x 7])]]
/-- kernel -/
def c40 : List S := [.ex (.call 24 [.x 0, .x 1]),
    .ret (.b1 .tuple (.slot (.mk 0 39 [.x 0, .x 1]) 0 1))]
/-- _law_together -/
def c41 : List S := [.ret (.b1 .tuple (.lc false (.call 14 [.x 0, .x 2, .x 3]) (.nm 3) (.sq (.x 1)) [] [3]))]
/-- _law_right -/
def c42 : List S := [.par [1, 2] [.call 10 [.x 0, .lst false [.int 0, .int 0, .int 0, .int 2, .int 3, .int 5, .int 97]], .call 10 [.x 0, .lst false [.int 1, .int 2, .int 3, .int 4, .int 3, .int 5, .int 2, .int 4]]],
    .asg (.nm 2) (.ife (.and (.cmp .gt (.x 1) (.int 0)) (.cmp .eq (.call 9 [.x 0, .int 12]) (.int 0))) (.int 16) (.x 2)),
    .par [3, 4] [.call 16 [.x 0, .x 1, .x 2, .x 2], .call 16 [.x 0, .x 1, .b2 .min (.x 2) (.int 5), .b2 .min (.x 2) (.int 5)]],
    .asg (.nm 5) (.call 8 [.x 1, .x 3]),
    .ite (.or (.cmp .ne (.b1 .repr (.callk 33 [1, 0] [.x 3, .x 1])) (.b1 .repr (.x 5))) (.cmp .ne (.cmp .eq (.call 40 [.x 1, .x 3]) (.tup [])) (.cmp .ne (.x 5) (.tup [.int 0, .int 1])))) [.ret (.bl false)] [],
    .ite (.cmp .eq (.x 2) (.int 16)) [.ret (.bl true)] [],
    .ite (.not (.call 34 [.x 0, .x 1, .x 3, .x 5])) [.ret (.bl false)] [],
    .asg (.nm 6) (.call 2 [.x 1, .x 5, .call 8 [.x 1, .x 4]]),
    .ret (.cmp .eq (.b1 .repr (.call 33 [.x 1, .call 41 [.x 1, .x 3, .x 4]])) (.b1 .repr (.x 6)))]
/-- _law_pot -/
def c43 : List S := [.asg (.nm 2) (.ife (.cmp .lt (.x 1) (.b1 .len (.x 0))) (.ix (.x 0) (.x 1)) (.bop .add (.bop .add (.bop .mod (.b1 .sum (.sl false (.x 0) none (some (.int 1)))) (.int 1000003)) (.bop .mul (.int 2911) (.x 1))) (.int 1445))),
    .asg (.nm 3) (.bop .mul (.bop .mod (.b1 .int (.b1 .abs (.x 2))) (.bop .pow (.bop .pow (.int 10) (.int 60)) (.int 5))) (.b1 .int (.cmp .ge (.b1 .abs (.x 2)) (.bop .pow (.int 10) (.int 18))))),
    .asg (.nm 4) (.bop .mod (.b1 .int (.x 2)) (.int 2305843009213693951)),
    .ret (.lst true [.x 3, .bop .mod (.b1 .int (.bop .add (.bop .add (.bop .mul (.x 4) (.int 97347)) (.bop .mul (.bop .mul (.int 16327) (.x 1)) (.x 1))) (.int 1959))) (.int 2305843009213693921), .int 0])]
/-- _law_cells -/
def c44 : List S := [.ret (.lrg false (.int 0) (.b2 .max (.int 1) (.b2 .min (.x 1) (.b1 .len (.x 0)))))]
/-- law -/
def c45 : List S := [.ret (.b1 .all (.lc false (.call 42 [.call 43 [.x 0, .x 1]]) (.nm 1) (.sq (.call 44 [.x 0, .int 2])) [] [1]))]
def r0 : Row := ⟨.top "_law_num_back", 2, ["by", "number", "found"], ["by", "number"], ⟨("_law_num_back", none), "_law_num_back", "_law_num_back", defArgs (top 39), defBody (top 39), defScope (top 39), [], []⟩, c0⟩
def r1 : Row := ⟨.top "_law_num", 3, ["by", "top", "bottom", "one", "other"], ["by", "top", "bottom"], ⟨("_law_num", none), "_law_num", "_law_num", defArgs (top 40), defBody (top 40), defScope (top 40), [], []⟩, c1⟩
def r2 : Row := ⟨.top "_law_num_times", 3, ["by", "one", "other"], ["by", "one", "other"], ⟨("_law_num_times", none), "_law_num_times", "_law_num_times", defArgs (top 43), defBody (top 43), defScope (top 43), [], []⟩, c2⟩
def r3 : Row := ⟨.top "_law_num_less", 3, ["by", "one", "other"], ["by", "one", "other"], ⟨("_law_num_less", none), "_law_num_less", "_law_num_less", defArgs (top 42), defBody (top 42), defScope (top 42), [], []⟩, c3⟩
def r4 : Row := ⟨.top "_law_num_add", 3, ["by", "one", "other"], ["by", "one", "other"], ⟨("_law_num_add", none), "_law_num_add", "_law_num_add", defArgs (top 41), defBody (top 41), defScope (top 41), [], []⟩, c4⟩
def r5 : Row := ⟨.top "_law_picked", 2, ["by", "rows", "found", "ways", "row", "later", "way", "worth", "at", "turns", "one"], ["by", "rows"], ⟨("_law_picked", none), "_law_picked", "_law_picked", defArgs (top 52), defBody (top 52), defScope (top 52), [], []⟩, c5⟩
def r6 : Row := ⟨.top "_law_num_over", 3, ["by", "one", "other"], ["by", "one", "other"], ⟨("_law_num_over", none), "_law_num_over", "_law_num_over", defArgs (top 44), defBody (top 44), defScope (top 44), [], []⟩, c6⟩
def r7 : Row := ⟨.top "_law_solve_det", 2, ["by", "rows", "found", "left", "at", "some", "spot", "factor", "row", "one", "its"], ["by", "rows"], ⟨("_law_solve_det", none), "_law_solve_det", "_law_solve_det", defArgs (top 46), defBody (top 46), defScope (top 46), [], []⟩, c7⟩
def r8 : Row := ⟨.top "_law_due", 2, ["by", "rows"], ["by", "rows"], ⟨("_law_due", none), "_law_due", "_law_due", defArgs (top 53), defBody (top 53), defScope (top 53), [], []⟩, c8⟩
def r9 : Row := ⟨.top "_law_take", 2, ["pot", "upto", "digit", "prime", "blend"], ["pot", "upto"], ⟨("_law_take", none), "_law_take", "_law_take", defArgs (top 36), defBody (top 36), defScope (top 36), [], []⟩, c9⟩
def r10 : Row := ⟨.top "_law_of", 2, ["pot", "some"], ["pot", "some"], ⟨("_law_of", none), "_law_of", "_law_of", defArgs (top 37), defBody (top 37), defScope (top 37), [], []⟩, c10⟩
def r11 : Row := ⟨.top "_law_span_worth", 2, ["pot", "by", "top"], ["pot", "by"], ⟨("_law_span_worth", none), "_law_span_worth", "_law_span_worth", defArgs (top 48), defBody (top 48), defScope (top 48), [], []⟩, c11⟩
def r12 : Row := ⟨.top "_law_span_row", 3, ["pot", "by", "long", "lap"], ["pot", "by", "long"], ⟨("_law_span_row", none), "_law_span_row", "_law_span_row", defArgs (top 49), defBody (top 49), defScope (top 49), [], []⟩, c12⟩
def r13 : Row := ⟨.top "_law_num_sum", 2, ["by", "some", "found", "one"], ["by", "some"], ⟨("_law_num_sum", none), "_law_num_sum", "_law_num_sum", defArgs (top 45), defBody (top 45), defScope (top 45), [], []⟩, c13⟩
def r14 : Row := ⟨.top "_law_span_mixed", 3, ["by", "rows", "factors", "found", "at", "factor", "row"], ["by", "rows", "factors"], ⟨("_law_span_mixed", none), "_law_span_mixed", "_law_span_mixed", defArgs (top 47), defBody (top 47), defScope (top 47), [], []⟩, c14⟩
def r15 : Row := ⟨.top "_law_span_more", 4, ["pot", "by", "rows", "long", "way", "some", "one"], ["pot", "by", "rows", "long"], ⟨("_law_span_more", none), "_law_span_more", "_law_span_more", defArgs (top 50), defBody (top 50), defScope (top 50), [], []⟩, c15⟩
def r16 : Row := ⟨.top "_law_span_rows", 4, ["pot", "by", "many", "long", "rows", "lap"], ["pot", "by", "many", "long"], ⟨("_law_span_rows", none), "_law_span_rows", "_law_span_rows", defArgs (top 51), defBody (top 51), defScope (top 51), [], []⟩, c16⟩
def r17 : Row := ⟨.top "is_whole", 1, ["value"], ["value"], ⟨("is_whole", none), "is_whole", "is_whole", defArgs (top 2), defBody (top 2), defScope (top 2), [], []⟩, c17⟩
def r18 : Row := ⟨.top "is_by", 1, ["value"], ["value"], ⟨("is_by", none), "is_by", "is_by", defArgs (top 15), defBody (top 15), defScope (top 15), [], []⟩, c18⟩
def r19 : Row := ⟨.top "is_tuple", 3, ["value", "low", "high"], ["value", "low", "high"], ⟨("is_tuple", none), "is_tuple", "is_tuple", defArgs (top 3), defBody (top 3), defScope (top 3), [], []⟩, c19⟩
def r20 : Row := ⟨.top "common", 2, ["one", "other"], ["one", "other"], ⟨("common", none), "common", "common", defArgs (top 4), defBody (top 4), defScope (top 4), [], []⟩, c20⟩
def r21 : Row := ⟨.top "is_worth", 2, ["by", "value"], ["by", "value"], ⟨("is_worth", none), "is_worth", "is_worth", defArgs (top 16), defBody (top 16), defScope (top 16), [], []⟩, c21⟩
def r22 : Row := ⟨.top "are_worths", 3, ["by", "value", "many", "one"], ["by", "value", "many"], ⟨("are_worths", none), "are_worths", "are_worths", defArgs (top 17), defBody (top 17), defScope (top 17), [], []⟩, c22⟩
def r23 : Row := ⟨.top "is_matrix", 2, ["by", "value", "row"], ["by", "value"], ⟨("is_matrix", none), "is_matrix", "is_matrix", defArgs (top 28), defBody (top 28), defScope (top 28), [], []⟩, c23⟩
def r24 : Row := ⟨.top "check_matrix", 2, ["by", "rows"], ["by", "rows"], ⟨("check_matrix", none), "check_matrix", "check_matrix", defArgs (top 29), defBody (top 29), defScope (top 29), [], []⟩, c24⟩
def r25 : Row := ⟨.top "least", 2, ["top", "bottom", "by"], ["top", "bottom"], ⟨("least", none), "least", "least", defArgs (top 5), defBody (top 5), defScope (top 5), [], []⟩, c25⟩
def r26 : Row := ⟨.top "inverse", 2, ["by", "number", "one", "other", "here", "there", "often"], ["by", "number"], ⟨("inverse", none), "inverse", "inverse", defArgs (top 18), defBody (top 18), defScope (top 18), [], []⟩, c26⟩
def r27 : Row := ⟨.top "worth_of", 3, ["by", "top", "bottom"], ["by", "top", "bottom"], ⟨("worth_of", none), "worth_of", "worth_of", defArgs (top 19), defBody (top 19), defScope (top 19), [], []⟩, c27⟩
def r28 : Row := ⟨.top "times", 3, ["by", "one", "other"], ["by", "one", "other"], ⟨("times", none), "times", "times", defArgs (top 21), defBody (top 21), defScope (top 21), [], []⟩, c28⟩
def r29 : Row := ⟨.top "turned", 2, ["by", "one"], ["by", "one"], ⟨("turned", none), "turned", "turned", defArgs (top 23), defBody (top 23), defScope (top 23), [], []⟩, c29⟩
def r30 : Row := ⟨.top "negative", 2, ["by", "one"], ["by", "one"], ⟨("negative", none), "negative", "negative", defArgs (top 22), defBody (top 22), defScope (top 22), [], []⟩, c30⟩
def r31 : Row := ⟨.top "plus", 3, ["by", "one", "other"], ["by", "one", "other"], ⟨("plus", none), "plus", "plus", defArgs (top 20), defBody (top 20), defScope (top 20), [], []⟩, c31⟩
def r32 : Row := ⟨.top "row_plus", 4, ["by", "row", "factor", "other", "one", "its"], ["by", "row", "factor", "other"], ⟨("row_plus", none), "row_plus", "row_plus", defArgs (top 24), defBody (top 24), defScope (top 24), [], []⟩, c32⟩
def r33 : Row := ⟨.top "determinant", 2, ["by", "rows", "left", "found", "place", "some", "at", "scale", "lower", "factor"], ["by", "rows"], ⟨("determinant", none), "determinant", "determinant", defArgs (top 33), defBody (top 33), defScope (top 33), [], []⟩, c33⟩
def r34 : Row := ⟨.top "_law_are_moves_right", 4, ["pot", "by", "rows", "due", "many", "at", "far", "factor", "some", "turned_v", "scaled", "added", "columns", "worth", "place", "its", "row"], ["pot", "by", "rows", "due"], ⟨("_law_are_moves_right", none), "_law_are_moves_right", "_law_are_moves_right", defArgs (top 55), defBody (top 55), defScope (top 55), [], []⟩, c34⟩
def r35 : Row := ⟨.meth 0 "cleared", 3, ["self", "row", "factors", "place", "mine", "its", "factor"], ["self", "row", "factors"], ⟨("Stair", some "cleared"), "cleared", "Stair.cleared", defArgs (inClass (top 31) 2), defBody (inClass (top 31) 2), defScope (inClass (top 31) 2), [], []⟩, c35⟩
def r36 : Row := ⟨.top "leading", 1, ["row", "place", "one"], ["row"], ⟨("leading", none), "leading", "leading", defArgs (top 30), defBody (top 30), defScope (top 30), [], []⟩, c36⟩
def r37 : Row := ⟨.top "row_times", 3, ["by", "factor", "row", "one"], ["by", "factor", "row"], ⟨("row_times", none), "row_times", "row_times", defArgs (top 25), defBody (top 25), defScope (top 25), [], []⟩, c37⟩
def r38 : Row := ⟨.meth 0 "take", 3, ["self", "row", "factors", "place", "scale", "steps", "at", "mine", "its", "factor"], ["self", "row", "factors"], ⟨("Stair", some "take"), "take", "Stair.take", defArgs (inClass (top 31) 3), defBody (inClass (top 31) 3), defScope (inClass (top 31) 3), [], []⟩, c38⟩
def r39 : Row := ⟨.init 0, 3, ["self", "by", "rows", "number", "row", "factors", "left", "made_of", "at"], ["self", "by", "rows"], ⟨("Stair", some "__init__"), "__init__", "Stair.__init__", defArgs (inClass (top 31) 1), defBody (inClass (top 31) 1), defScope (inClass (top 31) 1), [], []⟩, c39⟩
def r40 : Row := ⟨.top "kernel", 2, ["by", "rows"], ["by", "rows"], ⟨("kernel", none), "kernel", "kernel", defArgs (top 32), defBody (top 32), defScope (top 32), [], []⟩, c40⟩
def r41 : Row := ⟨.top "_law_together", 3, ["by", "rows", "others", "row"], ["by", "rows", "others"], ⟨("_law_together", none), "_law_together", "_law_together", defArgs (top 54), defBody (top 54), defScope (top 54), [], []⟩, c41⟩
def r42 : Row := ⟨.top "_law_right", 1, ["pot", "by", "many", "rows", "others", "due", "both"], ["pot"], ⟨("_law_right", none), "_law_right", "_law_right", defArgs (top 56), defBody (top 56), defScope (top 56), [], []⟩, c42⟩
def r43 : Row := ⟨.top "_law_pot", 2, ["script", "place", "cell", "own", "small"], ["script", "place"], ⟨("_law_pot", none), "_law_pot", "_law_pot", defArgs (top 35), defBody (top 35), defScope (top 35), [], []⟩, c43⟩
def r44 : Row := ⟨.top "_law_cells", 2, ["script", "most"], ["script", "most"], ⟨("_law_cells", none), "_law_cells", "_law_cells", defArgs (top 38), defBody (top 38), defScope (top 38), [], []⟩, c44⟩
def r45 : Row := ⟨.top "law", 1, ["script", "place"], ["script"], ⟨("law", none), "law", "law", defArgs (top 57), defBody (top 57), defScope (top 57), [], []⟩, c45⟩
def rows : List Row := [r0, r1, r2, r3, r4, r5, r6, r7, r8, r9, r10, r11, r12, r13, r14, r15, r16, r17, r18, r19, r20, r21, r22, r23, r24, r25, r26, r27, r28, r29, r30, r31, r32, r33, r34, r35, r36, r37, r38, r39, r40, r41, r42, r43, r44, r45]
def gd : List D := [.tup [.int (2), .int (3), .int (5), .int (7), .int (11), .int (13), .int (17), .int (19), .int (23), .int (29), .int (31), .int (37), .int (41), .int (43), .int (47), .int (53), .int (59), .int (61), .int (67), .int (71), .int (73), .int (79), .int (83), .int (89), .int (97)], .tup [.int (0), .int (1)], .tup [.int (1), .int (1)], .int (2), .int (16)]
def T : Tb := ⟨["PRIMES", "NOUGHT", "ONE", "PAIR", "MOST_ROWS"], [(.top "_law_num_back", 2), (.top "_law_num", 3), (.top "_law_num_times", 3), (.top "_law_num_less", 3), (.top "_law_num_add", 3), (.top "_law_picked", 2), (.top "_law_num_over", 3), (.top "_law_solve_det", 2), (.top "_law_due", 2), (.top "_law_take", 2), (.top "_law_of", 2), (.top "_law_span_worth", 2), (.top "_law_span_row", 3), (.top "_law_num_sum", 2), (.top "_law_span_mixed", 3), (.top "_law_span_more", 4), (.top "_law_span_rows", 4), (.top "is_whole", 1), (.top "is_by", 1), (.top "is_tuple", 3), (.top "common", 2), (.top "is_worth", 2), (.top "are_worths", 3), (.top "is_matrix", 2), (.top "check_matrix", 2), (.top "least", 2), (.top "inverse", 2), (.top "worth_of", 3), (.top "times", 3), (.top "turned", 2), (.top "negative", 2), (.top "plus", 3), (.top "row_plus", 4), (.top "determinant", 2), (.top "_law_are_moves_right", 4), (.meth 0 "cleared", 3), (.top "leading", 1), (.top "row_times", 3), (.meth 0 "take", 3), (.init 0, 3), (.top "kernel", 2), (.top "_law_together", 3), (.top "_law_right", 1), (.top "_law_pot", 2), (.top "_law_cells", 2), (.top "law", 1)], [("Stair", ["own_by", "own_relations", "own_steps"])], [(33, ["rows", "by"], [1, 0])], ["range", "int", "abs", "len", "zip", "sum", "list", "tuple", "isinstance", "bool", "all", "repr", "enumerate", "min", "max"]⟩
theorem b0 : BindLaw r0 := fun _ _ _ _ _ _ us hl => match us, hl with | [_, _], _ => rfl
theorem b1 : BindLaw r1 := fun _ _ _ _ _ _ us hl => match us, hl with | [_, _, _], _ => rfl
theorem b2 : BindLaw r2 := fun _ _ _ _ _ _ us hl => match us, hl with | [_, _, _], _ => rfl
theorem b3 : BindLaw r3 := fun _ _ _ _ _ _ us hl => match us, hl with | [_, _, _], _ => rfl
theorem b4 : BindLaw r4 := fun _ _ _ _ _ _ us hl => match us, hl with | [_, _, _], _ => rfl
theorem b5 : BindLaw r5 := fun _ _ _ _ _ _ us hl => match us, hl with | [_, _], _ => rfl
theorem b6 : BindLaw r6 := fun _ _ _ _ _ _ us hl => match us, hl with | [_, _, _], _ => rfl
theorem b7 : BindLaw r7 := fun _ _ _ _ _ _ us hl => match us, hl with | [_, _], _ => rfl
theorem b8 : BindLaw r8 := fun _ _ _ _ _ _ us hl => match us, hl with | [_, _], _ => rfl
theorem b9 : BindLaw r9 := fun _ _ _ _ _ _ us hl => match us, hl with | [_, _], _ => rfl
theorem b10 : BindLaw r10 := fun _ _ _ _ _ _ us hl => match us, hl with | [_, _], _ => rfl
theorem b11 : BindLaw r11 := fun _ _ _ _ _ _ us hl => match us, hl with | [_, _], _ => rfl
theorem b12 : BindLaw r12 := fun _ _ _ _ _ _ us hl => match us, hl with | [_, _, _], _ => rfl
theorem b13 : BindLaw r13 := fun _ _ _ _ _ _ us hl => match us, hl with | [_, _], _ => rfl
theorem b14 : BindLaw r14 := fun _ _ _ _ _ _ us hl => match us, hl with | [_, _, _], _ => rfl
theorem b15 : BindLaw r15 := fun _ _ _ _ _ _ us hl => match us, hl with | [_, _, _, _], _ => rfl
theorem b16 : BindLaw r16 := fun _ _ _ _ _ _ us hl => match us, hl with | [_, _, _, _], _ => rfl
theorem b17 : BindLaw r17 := fun _ _ _ _ _ _ us hl => match us, hl with | [_], _ => rfl
theorem b18 : BindLaw r18 := fun _ _ _ _ _ _ us hl => match us, hl with | [_], _ => rfl
theorem b19 : BindLaw r19 := fun _ _ _ _ _ _ us hl => match us, hl with | [_, _, _], _ => rfl
theorem b20 : BindLaw r20 := fun _ _ _ _ _ _ us hl => match us, hl with | [_, _], _ => rfl
theorem b21 : BindLaw r21 := fun _ _ _ _ _ _ us hl => match us, hl with | [_, _], _ => rfl
theorem b22 : BindLaw r22 := fun _ _ _ _ _ _ us hl => match us, hl with | [_, _, _], _ => rfl
theorem b23 : BindLaw r23 := fun _ _ _ _ _ _ us hl => match us, hl with | [_, _], _ => rfl
theorem b24 : BindLaw r24 := fun _ _ _ _ _ _ us hl => match us, hl with | [_, _], _ => rfl
theorem b25 : BindLaw r25 := fun _ _ _ _ _ _ us hl => match us, hl with | [_, _], _ => rfl
theorem b26 : BindLaw r26 := fun _ _ _ _ _ _ us hl => match us, hl with | [_, _], _ => rfl
theorem b27 : BindLaw r27 := fun _ _ _ _ _ _ us hl => match us, hl with | [_, _, _], _ => rfl
theorem b28 : BindLaw r28 := fun _ _ _ _ _ _ us hl => match us, hl with | [_, _, _], _ => rfl
theorem b29 : BindLaw r29 := fun _ _ _ _ _ _ us hl => match us, hl with | [_, _], _ => rfl
theorem b30 : BindLaw r30 := fun _ _ _ _ _ _ us hl => match us, hl with | [_, _], _ => rfl
theorem b31 : BindLaw r31 := fun _ _ _ _ _ _ us hl => match us, hl with | [_, _, _], _ => rfl
theorem b32 : BindLaw r32 := fun _ _ _ _ _ _ us hl => match us, hl with | [_, _, _, _], _ => rfl
theorem b33 : BindLaw r33 := fun _ _ _ _ _ _ us hl => match us, hl with | [_, _], _ => rfl
theorem b34 : BindLaw r34 := fun _ _ _ _ _ _ us hl => match us, hl with | [_, _, _, _], _ => rfl
theorem b35 : BindLaw r35 := fun _ _ _ _ _ _ us hl => match us, hl with | [_, _, _], _ => rfl
theorem b36 : BindLaw r36 := fun _ _ _ _ _ _ us hl => match us, hl with | [_], _ => rfl
theorem b37 : BindLaw r37 := fun _ _ _ _ _ _ us hl => match us, hl with | [_, _, _], _ => rfl
theorem b38 : BindLaw r38 := fun _ _ _ _ _ _ us hl => match us, hl with | [_, _, _], _ => rfl
theorem b39 : BindLaw r39 := fun _ _ _ _ _ _ us hl => match us, hl with | [_, _, _], _ => rfl
theorem b40 : BindLaw r40 := fun _ _ _ _ _ _ us hl => match us, hl with | [_, _], _ => rfl
theorem b41 : BindLaw r41 := fun _ _ _ _ _ _ us hl => match us, hl with | [_, _, _], _ => rfl
theorem b42 : BindLaw r42 := fun _ _ _ _ _ _ us hl => match us, hl with | [_], _ => rfl
theorem b43 : BindLaw r43 := fun _ _ _ _ _ _ us hl => match us, hl with | [_, _], _ => rfl
theorem b44 : BindLaw r44 := fun _ _ _ _ _ _ us hl => match us, hl with | [_, _], _ => rfl
theorem b45 : BindLaw r45 := fun _ _ _ _ _ _ us hl => match us, hl with | [_], _ => rfl
theorem binds : ∀ r ∈ rows, BindLaw r := by
  intro r h
  simp only [rows, List.mem_cons, List.not_mem_nil, or_false] at h
  rcases h with rfl | rfl | rfl | rfl | rfl | rfl | rfl | rfl | rfl | rfl | rfl | rfl | rfl | rfl | rfl | rfl | rfl | rfl | rfl | rfl | rfl | rfl | rfl | rfl | rfl | rfl | rfl | rfl | rfl | rfl | rfl | rfl | rfl | rfl | rfl | rfl | rfl | rfl | rfl | rfl | rfl | rfl | rfl | rfl | rfl | rfl
  · exact b0
  · exact b1
  · exact b2
  · exact b3
  · exact b4
  · exact b5
  · exact b6
  · exact b7
  · exact b8
  · exact b9
  · exact b10
  · exact b11
  · exact b12
  · exact b13
  · exact b14
  · exact b15
  · exact b16
  · exact b17
  · exact b18
  · exact b19
  · exact b20
  · exact b21
  · exact b22
  · exact b23
  · exact b24
  · exact b25
  · exact b26
  · exact b27
  · exact b28
  · exact b29
  · exact b30
  · exact b31
  · exact b32
  · exact b33
  · exact b34
  · exact b35
  · exact b36
  · exact b37
  · exact b38
  · exact b39
  · exact b40
  · exact b41
  · exact b42
  · exact b43
  · exact b44
  · exact b45
theorem kw0 : KwLaw r33 ["rows", "by"] [1, 0] := ⟨by decide, rfl, fun _ _ _ _ _ _ ws hl => match ws, hl with | [_, _], _ => rfl⟩
theorem kws : ∀ i ks pm, (i, ks, pm) ∈ T.kw → ∀ r, rows[i]? = some r → KwLaw r ks pm := by
  intro i ks pm h r hr
  simp only [T, List.mem_cons, List.not_mem_nil, or_false, Prod.mk.injEq] at h
  obtain ⟨rfl, rfl, rfl⟩ := h
  cases hr
  exact kw0
theorem tf : T.fs = rows.map fun r => (r.fk, r.n) := rfl
theorem rows_ok : rows.all (rowB T) = true := by decide +kernel
end Og.Lk44
end
section
set_option autoImplicit true
set_option maxHeartbeats 0
namespace Og.Lk44
open PySem PySem.Spec PyProof.Rows L2 Og
abbrev R : PySem.W.OpenRow := PySem.W.OpenLaw.row PySem.Challenge.rw_opengates_k44_whole_determinants
abbrev hk : PySem.W.Hook := hookO 4 (faOf T rows) (fnOf rows) (exOf T gd)
def ob (s : PySem.W.SharedT) : AlO := obO 4 (faOf T rows) (fnOf rows) (exOf T gd) (HandSHeadRun.getT s)
theorem ob_eq (s : PySem.W.SharedT) : ob s = hk.obs s.abs := obO_eq (HandSHeadRun.getT_eq s)
def loose : List PySem.Str := [("_wall" : PySem.Str), ("__name__" : PySem.Str), ("is_whole" : PySem.Str), ("is_tuple" : PySem.Str), ("common" : PySem.Str), ("least" : PySem.Str), ("GateError" : PySem.Str), ("BadBy" : PySem.Str), ("BadRows" : PySem.Str), ("PRIMES" : PySem.Str), ("NOUGHT" : PySem.Str), ("ONE" : PySem.Str), ("PAIR" : PySem.Str), ("is_by" : PySem.Str), ("is_worth" : PySem.Str), ("are_worths" : PySem.Str), ("inverse" : PySem.Str), ("worth_of" : PySem.Str), ("plus" : PySem.Str), ("times" : PySem.Str), ("negative" : PySem.Str), ("turned" : PySem.Str), ("row_plus" : PySem.Str), ("row_times" : PySem.Str), ("MOST_ROWS" : PySem.Str), ("is_matrix" : PySem.Str), ("check_matrix" : PySem.Str), ("leading" : PySem.Str), ("Stair" : PySem.Str), ("kernel" : PySem.Str), ("determinant" : PySem.Str), ("_law_pot" : PySem.Str), ("_law_take" : PySem.Str), ("_law_of" : PySem.Str), ("_law_cells" : PySem.Str), ("_law_num_back" : PySem.Str), ("_law_num" : PySem.Str), ("_law_num_add" : PySem.Str), ("_law_num_less" : PySem.Str), ("_law_num_times" : PySem.Str), ("_law_num_over" : PySem.Str), ("_law_num_sum" : PySem.Str), ("_law_solve_det" : PySem.Str), ("_law_span_mixed" : PySem.Str), ("_law_span_worth" : PySem.Str), ("_law_span_row" : PySem.Str), ("_law_span_more" : PySem.Str), ("_law_span_rows" : PySem.Str), ("_law_picked" : PySem.Str), ("_law_due" : PySem.Str), ("_law_together" : PySem.Str), ("_law_are_moves_right" : PySem.Str), ("_law_right" : PySem.Str)]
theorem run (w : World) : HandSHeadRun.RunEq R (PySem.W.view R.prog [57]) hk ob 4000 loose w := by
  intro os
  kernel_rfl
end Og.Lk44
end
section
set_option maxHeartbeats 4000000
set_option autoImplicit false
/-! Og: the law's own call. -/
namespace Og
open PySem PySem.Spec PyProof.Rows L2
/-- the script, as it is tracked: not at all where the module holds it -/
def scr (K : PySem.W.Frag) (a : Addr) (o : Obj) (xs : List V) : Hp := fun b => if b = a ∧ K.lookup a = none then some (.frz o (.lst xs)) else none
section
variable {K : PySem.W.Frag} {a b : Addr} {o : Obj} {xs : List V} {u : HO}
theorem scr_out (h : scr K a o xs b = some u) : b = a ∧ K.lookup a = none ∧ u = .frz o (.lst xs) := by
  unfold scr at h
  split at h
  · rename_i z
    exact ⟨z.1, z.2, (Option.some.inj h).symm⟩
  · cases h
theorem scr_none (h : b ≠ a) : scr K a o xs b = none := by
  unfold scr
  rw [if_neg fun z => h z.1]
theorem scr_only : Only (scr K a o xs) := fun b => by
  cases h : scr K a o xs b with
  | none => exact .inl rfl
  | some u =>
    obtain ⟨_, _, rfl⟩ := scr_out h
    exact .inr ⟨_, _, rfl⟩
end
theorem call_top {P : Program} {w : World} {K : PySem.W.Frag} {mg mb : Str → Option Value} {k : Nat} {fa a : Addr} {fd : FuncData} {x : Str} {sp : Sp} {t : Shared} {vs : List Value} {ns : List Int} (KX : K.In t.heap) (hm : t.heap.Ns mainGlobals mg) (hb : t.heap.Ns builtinsNs mb)
    (hbb : ∀ x : Str, x ≠ "__name__" → mb x = bootBuiltins x) (hlim : t.heap.NoLimit) (hg : t.gens = #[]) (ha : t.heap.get? a = some { cls := .type "list", data := .seq vs.toArray }) (hi : IntsAre vs ns) (hl : ns.length ≤ sizeLine) (hr : Room k callerA)
    (F : ∀ base : Heap, K.In base → base.Ns mainGlobals mg → FnG P w K mg base k fa fd [x] sp) (hbind : ∀ (s : Shared) (u : Value), BindsTo s fd ⟨[u], []⟩ [(x, u)]) (hsp : ∀ H : Hp, Only H → SqL K H a (ns.map V.int) → sp [.ref a] H (fun v _ => v = .bl true) allE) :
    codeAny (model P w) callerA (.call (.ref fa) ⟨[.ref a], []⟩) (fun r t' => r = .ok (.ret (.bool true)) ∧ OldK t.heap t'.heap ∧ t'.os = t.os ∧ AllBare t'.gens) t := by
  have rv := vals_ints hi
  have nl := hi.length
  generalize hT : scr K a { cls := .type "list", data := .seq vs.toArray } (ns.map V.int) = T
  have out : ∀ {b u}, T b = some u → b = a ∧ K.lookup a = none ∧ u = .frz { cls := .type "list", data := .seq vs.toArray } (.lst (ns.map V.int)) := fun {b u} z => scr_out (by rw [hT]; exact z)
  have only : Only T := by rw [← hT]; exact scr_only
  have sq : SqL K T a (ns.map V.int) := by
    cases hk : K.lookup a with
    | some o =>
      have e := KX a o hk
      rw [ha] at e
      obtain rfl := Option.some.inj e
      exact .inr ⟨_, vs.toArray, _, hk, rfl, rfl, rfl, by simpa [nl] using hl, by simpa using rv⟩
    | none => exact .inl (.inr ⟨_, by rw [← hT]; unfold scr; exact if_pos ⟨rfl, hk⟩⟩)
  have hok : HOk P w T t.heap := fun b u z => by
    obtain ⟨rfl, _, rfl⟩ := out z
    exact ⟨ha, by rw [List.length_map]; exact hl, vs, _, rv, ha⟩
  have hid : ∀ {b o}, t.heap.get? b = some o → T b = none → (hidT t.heap T).get? b = some o := fun e n => hidT_get e n
  have dictN : ∀ {b : Addr} {o : Obj} {es : Array DictEntry} {ep : Nat}, t.heap.get? b = some o → o.data = .dict es ep → T b = none := fun {b o es ep} e d => by
    cases z : T b with
    | none => rfl
    | some u =>
      obtain ⟨rfl, _, _⟩ := out z
      rw [ha] at e
      obtain rfl := Option.some.inj e
      cases d
  have nsT : ∀ {b : Addr} {m : Str → Option Value}, t.heap.Ns b m → (hidT t.heap T).Ns b m := fun ⟨o, es, ep, e, d, r⟩ => ⟨o, es, ep, hid e (dictN e d), d, r⟩
  have KT : K.In (hidT t.heap T) := fun b o e => hid (KX b o e) (by
    cases z : T b with
    | none => rfl
    | some u =>
      obtain ⟨rfl, n, _⟩ := out z
      rw [n] at e; cases e)
  have e0 : Env0 P w K mg (hidT t.heap T) callerA [] t T := ⟨rfl, ⟨KT, nsT hm, ⟨mb, nsT hb, hbb⟩, by obtain ⟨mc, h1, h2⟩ := hlim; exact ⟨mc, nsT h1, h2⟩⟩, fun b o e => of_hidT e, Nat.le_of_eq (hidT_size _ _), trivial, (fun b hb => by cases hb), hok, .of_eq hg⟩
  refine codeAny_mono ((F _ KT (nsT hm)).run callerA [] t T ⟨[.ref a], []⟩ [.ref a] [.ref a] _ rfl hr e0 (hbind t (.ref a)) (.cons rfl .nil) (hsp T only sq)) ?_
  rintro _ t' ⟨u, rfl, v, H', os, bare, un, hok', rv', q⟩
  obtain rfl : v = V.bl true := q
  obtain rfl : u = Value.bool true := rv'
  refine ⟨rfl, OldK.of_keep fun b o e => ?_, os, bare⟩
  cases z : T b with
  | none => exact un.keep b o e z (by intro y; cases y) (by intro y; cases y)
  | some u =>
    obtain ⟨rfl, _, rfl⟩ := out z
    have e2 := (hok' _ _ (un.frzs _ _ _ z)).1
    rw [ha] at e
    obtain rfl := Option.some.inj e
    exact e2
theorem walk_top {l : PySem.W.OpenLaw} {n k : Nat} {q : Program} {loose : List Str} {XP : (Str → Option Value) → Heap → Prop} {YP : World → Heap → Prop} {d : DefRec} {x : Str} (hn : l.most = some n) (hn2 : n ≤ sizeLine) (hdf : d.params.defaults = []) (hr : Room k callerA)
    (F : ∀ (w : World) (mg : Str → Option Value) (fa : Addr) (h : Heap), YP w h → h.Ns mainGlobals mg → mg d.name = some (.ref fa) → ∃ (K : PySem.W.Frag) (fd : FuncData) (sp : Sp), K.In h ∧ (∀ (s : Shared) (u : Value), BindsTo s fd ⟨[u], []⟩ [(x, u)]) ∧
      (∀ (H : Hp) (a : Addr) (ns : List Int), ns.length ≤ n → Only H → SqL K H a (ns.map V.int) → sp [.ref a] H (fun v _ => v = .bl true) allE) ∧ ∀ base : Heap, K.In base → base.Ns mainGlobals mg → FnG l.prog w K mg base k fa fd [x] sp) :
    PySem.W.WalkO q loose XP YP l.row.toRowW d [] (fun f vs => PySem.call f vs) := by
  refine Att.attach_call hn hdf fun w _ t mg mb fa _ _ _ _ a vs ns G Y _ _ _ hmg hobj hints hlen hg => ?_
  obtain ⟨K, fd, sp, KX, hb, hsp, hF⟩ := F w mg fa _ Y G.T.g hmg
  exact call_top KX G.T.g G.T.b G.T.builtins G.T.nolimit hg hobj hints (Nat.le_trans hlen hn2) hr hF hb fun H hO hS => hsp H a ns hlen hO hS
end Og
end
section
set_option maxHeartbeats 4000000
set_option autoImplicit false
/-! Og: a law's end. -/
namespace Og
open PySem PySem.Spec PyProof.Rows L2

/-- what the law's def is asked: True, from any short list of ints -/
def spLaw : Spec := fun ds m Q => ∃ ns : List Int, ds = [.lst (ns.map .int)] ∧ ns.length ≤ 63 ∧ (∀ a, m a = none) ∧ Q (.bl true) m
theorem law_end {P : Program} {w : World} {T : Tb} {rows : List Row} {gd : List D} {spec : (Nat → Addr) → Nat → Spec} {K : PySem.W.Frag} {h : Heap} {mg : Str → Option Value} {fa : Addr} (X : K.In h) (G : h.Ns mainGlobals mg) (c : He.SaysD (faOf T rows) (fnOf rows) K) (e : exOf T gd K = true)
    (tf : T.fs = rows.map fun r => (r.fk, r.n)) (hr : rows.all (rowB T) = true) (hb : ∀ r ∈ rows, BindLaw r) (hk : ∀ i ks pm, (i, ks, pm) ∈ T.kw → ∀ r, rows[i]? = some r → KwLaw r ks pm) (tr : P.given.tree = none)
    (law : ∀ cls : Nat → Addr, ∀ (i : Nat) (r : Row), rows[i]? = some r → ∀ ds m Q, ds.length = r.n → spec cls i ds m Q → body (Yn gd cls (spec cls) i) r.N.length r.b ds m Q)
    {j : Nat} {r : Row} (hj : rows[j]? = some r) (hfk : r.fk = .top "law") (hps : r.ps = (["script"] : List Str)) (hn : r.n = 1) (hm : mg "law" = some (.ref fa)) :
    ∃ fd : FuncData, (∀ (s : Shared) (u : Value), BindsTo s fd ⟨[u], []⟩ [("script", u)]) ∧ ∀ base : Heap, K.In base → base.Ns mainGlobals mg → FnG P w K mg base (40 + 2 * j + 2) fa fd ["script"] (spK K 1 (spec (clsOf T K) j)) := by
  have hmem := List.mem_of_getElem? hj
  have hrw := List.all_eq_true.mp hr r hmem
  unfold rowB at hrw
  simp only [Bool.and_eq_true, decide_eq_true_eq, List.isEmpty_iff] at hrw
  obtain ⟨⟨⟨⟨h1, h2⟩, h3⟩, h4⟩, h5⟩ := hrw
  obtain ⟨fd, F⟩ := c.defs (d := r.d) (List.mem_map_of_mem hmem)
  have F' : FunD K r.d.name r.d.qual r.d.params r.d.body r.d.scope [] [] (He.fAd K r.d.at_) fd := by
    have e1 : r.d.dvs K = [] := by unfold He.DefD.dvs; rw [h3]; rfl
    have e2 : r.d.kws K = [] := by unfold He.DefD.kws; rw [h4]; rfl
    rw [e1, e2] at F; exact F
  have fact := c.facts (f := fkFa T r.fk) (List.mem_append_right _ (List.mem_append_left _ (List.mem_map.mpr ⟨r, hmem, rfl⟩)))
  rw [hfk] at fact h1
  have hg : mg "law" = some (.ref (He.ga K "law")) := He.glo_ok X G fact
  have ea : He.fAd K r.d.at_ = fa := by
    rw [h1]
    rw [hm] at hg
    have := Option.some.inj hg
    injection this with z
    exact z.symm
  rw [ea] at F'
  refine ⟨fd, fun s u => ?_, fun base KX GX => ?_⟩
  · have b := FunD.bindsA (ps := r.ps) F' (hb r hmem) s [u] (by rw [hps]; rfl)
    rw [hps] at b
    exact b
  · have M : Mx P w K mg base T rows gd (clsOf T K) := mx_ok KX GX c e tf hr hb hk tr
    have q := def_ok (mod_ok M (law (clsOf T K)) j) F' h5 (h2.trans hn) (sp := spec (clsOf T K) j) fun ds m Q hl => law (clsOf T K) j r hj ds m Q (by rw [hn]; exact hl)
    rw [hps] at q
    exact q
theorem law_sp {K : PySem.W.Frag} {H : Hp} {a : Addr} {ns : List Int} {sp : Spec} (hl : ns.length ≤ 63) (hS : SqL K H a (ns.map V.int)) (hs : ∀ ds m Q, spLaw ds m Q → sp ds m Q) : spK K 1 sp [.ref a] H (fun v _ => v = .bl true) allE := by
  refine ⟨rfl, [.lst (ns.map .int)], fun _ => none, fun d _ => d = .bl true, ?_, fun a c z => (nomatch z), hs _ _ _ ⟨ns, rfl, hl, fun _ => rfl, rfl⟩, fun d m' v H' ed rv _ _ => by subst ed; exact rv.bl⟩
  simp only [Reps, Rep]
  refine ⟨_, _, rfl, ⟨a, ns.map V.int, rfl, ?_, Reps.of_ints⟩, rfl⟩
  rcases hS with z | z
  · exact .inl ⟨rfl, z⟩
  · exact .inr z
end Og
end
section
set_option maxHeartbeats 4000000
set_option autoImplicit false
/-! Og: how terms are read, row by row. -/
namespace Og
open PySem L2
section
variable {gd : List D} {cls : Nat → Addr} {spec : Nat → Spec} {i j : Nat} {m : Mem} {Q : KD} {a b : Int} {p q : Bool} {x y : D} {ds es : List D}
theorem yn_fn : (Yn gd cls spec i).fn j = if j < i then spec j else fun _ _ _ => False := rfl
theorem yn_gd : (Yn gd cls spec i).gd = gd := rfl
theorem yn_cls : (Yn gd cls spec i).cls = cls := rfl
theorem op_add' : opD .add (.int a) (.int b) m Q = Q (.int (a + b)) m := rfl
theorem op_addT : opD .add (.tup ds) (.tup es) m Q = (ds.length + es.length ≤ 1000000 ∧ Q (.tup (ds ++ es)) m) := rfl
theorem op_sub' : opD .sub (.int a) (.int b) m Q = Q (.int (a - b)) m := rfl
theorem op_mul' : opD .mul (.int a) (.int b) m Q = (IntMulOk a b ∧ Q (.int (a * b)) m) := rfl
theorem op_fdiv' : opD .fdiv (.int a) (.int b) m Q = (b ≠ 0 ∧ Q (.int (a.fdiv b)) m) := rfl
theorem op_mod' : opD .mod (.int a) (.int b) m Q = (b ≠ 0 ∧ Q (.int (a.fmod b)) m) := rfl
theorem op_pow' : opD .pow (.int a) (.int b) m Q = (0 ≤ b ∧ (Builtin.Int.intBits a : Int) * b ≤ 2 ^ 27 ∧ Q (.int (a ^ b.toNat)) m) := rfl
theorem cm_lt : cmpD .lt (.int a) (.int b) m Q = Q (.bl (decide (a < b))) m := rfl
theorem cm_le : cmpD .le (.int a) (.int b) m Q = Q (.bl (decide (a ≤ b))) m := rfl
theorem cm_gt : cmpD .gt (.int a) (.int b) m Q = Q (.bl (decide (b < a))) m := rfl
theorem cm_ge : cmpD .ge (.int a) (.int b) m Q = Q (.bl (decide (b ≤ a))) m := rfl
theorem cm_eq : cmpD .eq (.int a) (.int b) m Q = Q (.bl (decide (a = b))) m := rfl
theorem cm_ne : cmpD .ne (.int a) (.int b) m Q = Q (.bl (!decide (a = b))) m := rfl
theorem cm_eqS {s t : Str} : cmpD .eq (.str s) (.str t) m Q = Q (.bl (decide (s = t))) m := rfl
theorem cm_neS {s t : Str} : cmpD .ne (.str s) (.str t) m Q = Q (.bl (!decide (s = t))) m := rfl
theorem onb {P : Bool → Prop} : onB (.bl p) P = P p := rfl
theorem oni {P : Int → Prop} : onI (.int a) P = P a := rfl
theorem ifb {A B : Prop} [Decidable A] {C E : Prop} : (if decide A = true then C else E) = if A then C else E := by simp only [decide_eq_true_eq]
theorem ix_tup : ixD m (.tup ds) (.int a) (fun d m' => Q d m') = (∃ d, atI ds a = some d ∧ Q d m) := by
  simp only [ixD, seqOf, Option.some.injEq, exists_and_left, exists_eq_left']
theorem atI_nat {α : Type} {xs : List α} {n : Nat} : atI xs (n : Int) = xs[n]? := by
  unfold atI ixN
  rw [if_pos (by omega)]
  by_cases h : (n : Int) < xs.length
  · rw [if_pos h]; rfl
  · rw [if_neg h, List.getElem?_eq_none (by omega)]; rfl
theorem at0 : atI (x :: ds) 0 = some x := atI_nat (n := 0)
theorem at1 : atI (x :: y :: ds) 1 = some y := atI_nat (n := 1)
theorem at2 {z : D} : atI (x :: y :: z :: ds) 2 = some z := atI_nat (n := 2)
end
section
variable {m : Mem} {Q : KD} {a b : Int} {p : Bool} {ds : List D}
theorem b1_abs : b1D .abs (.int a) m Q = Q (.int (a.natAbs : Int)) m := by
  show Q (.int (if a < 0 then -a else a)) m = _
  have : (if a < 0 then -a else a) = (a.natAbs : Int) := by split <;> omega
  rw [this]
theorem b1_int : b1D .int (.int a) m Q = Q (.int a) m := rfl
theorem b1_intB : b1D .int (.bl p) m Q = Q (.int (if p then 1 else 0)) m := rfl
theorem b1_lenT : b1D .len (.tup ds) m Q = Q (.int (ds.length : Nat)) m := by
  simp only [b1D, seqOf, Option.some.injEq, exists_eq_left']
theorem b1_lenL : b1D .len (.lst ds) m Q = Q (.int (ds.length : Nat)) m := by
  simp only [b1D, seqOf, Option.some.injEq, exists_eq_left']
theorem b1_tupL : b1D .tuple (.lst ds) m Q = Q (.tup ds) m := by
  simp only [b1D, seqOf, Option.some.injEq, exists_eq_left']
theorem b1_tupT : b1D .tuple (.tup ds) m Q = Q (.tup ds) m := by
  simp only [b1D, seqOf, Option.some.injEq, exists_eq_left']
theorem b1_all {bs : List Bool} (h : Q (.bl (bs.all id)) m) : b1D .all (.lst (bs.map D.bl)) m Q := ⟨bs, rfl, h⟩
theorem b2_min : b2D .min (.int a) (.int b) m Q = Q (.int (min a b)) m := by
  show Q (.int (if b < a then b else a)) m = _
  have : (if b < a then b else a) = min a b := by split <;> omega
  rw [this]
theorem b2_max : b2D .max (.int a) (.int b) m Q = Q (.int (max a b)) m := by
  show Q (.int (if b > a then b else a)) m = _
  have : (if b > a then b else a) = max a b := by split <;> omega
  rw [this]
theorem seq_tup : seqOf m (.tup ds) = some ds := rfl
theorem seq_lst : seqOf m (.lst ds) = some ds := rfl
theorem gd_tup : guard m (.tup ds) = fun _ => True := rfl
theorem gd_lst : guard m (.lst ds) = fun _ => True := rfl
theorem ix_lst : ixD m (.lst ds) (.int a) (fun d m' => Q d m') = (∃ d, atI ds a = some d ∧ Q d m) := by
  simp only [ixD, seqOf, Option.some.injEq, exists_and_left, exists_eq_left']
end
section
variable {m : Mem} {Q : KD} {a : Int} {ds : List D} {p : Addr}
theorem seq_ref (h : m p = some (.lst ds)) : seqOf m (.ref p) = some ds := by unfold seqOf; simp only; rw [h]
theorem ix_ref (h : m p = some (.lst ds)) : ixD m (.ref p) (.int a) (fun d m' => Q d m') = (∃ d, atI ds a = some d ∧ Q d m) := by
  simp only [ixD, seq_ref h, Option.some.injEq, exists_and_left, exists_eq_left']
theorem lst_ref (h : m p = some (.lst ds)) : lstOf m (.ref p) = some ds := by unfold lstOf; simp only; rw [h]
/-- a tuple or a list that stays -/
def sq (b : Bool) (ds : List D) : D := match b with
  | true => .tup ds
  | false => .lst ds
theorem seq_sq {b : Bool} : seqOf m (sq b ds) = some ds := by cases b <;> rfl
theorem gd_sq {b : Bool} : guard m (sq b ds) = fun _ => True := by cases b <;> rfl
theorem ix_sq {b : Bool} : ixD m (sq b ds) (.int a) (fun d m' => Q d m') = (∃ d, atI ds a = some d ∧ Q d m) := by
  cases b
  · exact ix_lst
  · exact ix_tup
theorem len_sq {b : Bool} : b1D .len (sq b ds) m Q = Q (.int (ds.length : Nat)) m := by
  cases b
  · exact b1_lenL
  · exact b1_lenT
theorem tup_ref (h : m p = some (.lst ds)) : b1D .tuple (.ref p) m Q = Q (.tup ds) m := by
  simp only [b1D, seq_ref h, Option.some.injEq, exists_eq_left']
theorem len_ref (h : m p = some (.lst ds)) : b1D .len (.ref p) m Q = Q (.int (ds.length : Nat)) m := by
  simp only [b1D, seq_ref h, Option.some.injEq, exists_eq_left']
theorem new_t : newL true ds m Q = ∀ p, m p = none → Q (.ref p) (put m p (.lst ds)) := rfl
theorem new_f : newL false ds m Q = Q (.lst ds) m := rfl
theorem wf_put {c : Cell} (w : WfM m) (h : m p = none) (hc : ∀ C dx fs, c ≠ .obj C dx fs) : WfM (put m p c) := fun a C dx fs e => by
  by_cases ea : a = p
  · rw [ea, put_same] at e
    exact absurd (Option.some.inj e) (hc _ _ _)
  · rw [put_ne ea] at e
    have q := w a C dx fs e
    rw [put_ne (ne_of_mem q h)]
    exact q
theorem ty_int : tyD m (.int a) = some "int" := rfl
theorem ty_tup : tyD m (.tup ds) = some "tuple" := rfl
theorem ty_str {x : Str} : tyD m (.str x) = some "str" := rfl
theorem isi_ii : isiB "int" "int" = true := by decide
theorem isi_ib : isiB "int" "bool" = false := by decide
theorem isi_tt : isiB "tuple" "tuple" = true := by decide
theorem isi_ss : isiB "str" "str" = true := by decide
end
section
variable {i : Nat} {d : D} {ds : List D} {t : Tg} {ts : List Tg} {r : Rho} {Kd : Rho → Prop}
theorem set_nm : setT (.nm i) d r Kd = Kd (r.set i (some d)) := by simp only [setT]
theorem set_tup : setT (.tup ts) (.tup ds) r Kd = setTs ts ds r Kd := by
  simp only [setT, D.tup.injEq, exists_eq_left']
theorem set_nil : setTs [] [] r Kd = Kd r := by simp only [setTs, true_and]
theorem set_cons : setTs (t :: ts) (d :: ds) r Kd = setT t d r fun r1 => setTs ts ds r1 Kd := by
  simp only [setTs, List.cons.injEq]
  apply propext
  constructor
  · rintro ⟨d', e, ⟨rfl, rfl⟩, h⟩; exact h
  · intro h; exact ⟨d, ds, ⟨rfl, rfl⟩, h⟩
end
theorem zip_map {ι : Type} {f g : ι → D} : ∀ {l : List ι}, zipD (l.map f) (l.map g) = l.map fun i => D.tup [f i, g i]
  | [] => rfl
  | x :: l => by simp only [List.map_cons, zipD, zip_map]
theorem enum_map {f : Nat → D} : ∀ {n k : Nat}, enumD k ((List.range' k n).map f) = (List.range' k n).map fun i => D.tup [.int (i : Nat), f i]
  | 0, _ => rfl
  | n + 1, k => by simp only [List.range'_succ, List.map_cons, enumD, enum_map]
/-- a comprehension whose element changes nothing -/
theorem lc_pure {ι : Type} {G : Mem → Prop} {T : D → Mem → (Option D → Mem → Prop) → Prop} {m0 : Mem} {Q : KD} (l : List ι) (g h : ι → D) (hG : ∀ p c, m0 p = none → G (put m0 p c)) (ht : ∀ i ∈ l, ∀ p c K, m0 p = none → K (some (h i)) (put m0 p c) → T (g i) (put m0 p c) K)
    (hQ : Q (.lst (l.map h)) m0) : ∀ p, m0 p = none → lcL G T p (l.map g) [] (put m0 p (.lst [])) (lcEnd false p Q) := by
  intro p hp
  have go : ∀ (l : List ι) (acc : List D), (∀ i ∈ l, ∀ p c K, m0 p = none → K (some (h i)) (put m0 p c) → T (g i) (put m0 p c) K) → Q (.lst (acc ++ l.map h)) m0 → lcL G T p (l.map g) acc (put m0 p (.lst acc)) (lcEnd false p Q) := by
    intro l
    induction l with
    | nil =>
      intro acc _ hq
      simp only [List.map_nil, lcL]
      refine ⟨hG p _ hp, put_same, ?_⟩
      show Q (.lst acc) (del (put m0 p (.lst acc)) p)
      rw [del_put hp]
      simpa using hq
    | cons i l ih =>
      intro acc ht hq
      simp only [List.map_cons, lcL]
      refine ⟨hG p _ hp, ht i List.mem_cons_self p _ _ hp ⟨put_same, ?_⟩⟩
      simp only [put_put]
      exact ih _ (fun j hj => ht j (List.mem_cons_of_mem _ hj)) (by simpa using hq)
  exact go l [] ht (by simpa using hQ)
/-- a loop over a list: I n ahead of turn n -/
theorem for_inv {ι : Type} {G : Mem → Prop} {T : D → Rho → Mem → Kt → Prop} (g : ι → D) (I : Nat → Rho → Mem → Prop) {K : Kt} : ∀ (l : List ι) (n : Nat) (r : Rho) (m : Mem), I n r m →
    (∀ i (hi : i < l.length) r m (N : Rho → Mem → Prop), I (n + i) r m → (∀ r' m', I (n + i + 1) r' m' → N r' m') → G m ∧ T (g l[i]) r m { nx := N, ct := N, bk := K.nx, rt := K.rt }) → (∀ r m, I (n + l.length) r m → G m ∧ K.nx r m) → forL G T (l.map g) r m K
  | [], n, r, m, h0, _, h2 => h2 r m h0
  | a :: l, n, r, m, h0, h1, h2 => by
    simp only [List.map_cons, forL]
    have key : ∀ r' m', I (n + 1) r' m' → forL G T (l.map g) r' m' K := fun r' m' h' => for_inv g I l (n + 1) r' m' h' (fun i hi r m N q kq => by
      have := h1 (i + 1) (by simp; omega) r m N (by rw [show n + (i + 1) = n + 1 + i from by omega]; exact q) (fun r' m' z => kq r' m' (by rw [show n + 1 + i + 1 = n + (i + 1) + 1 from by omega]; exact z))
      simpa using this) (fun r m q => h2 r m (by simp only [List.length_cons]; rw [show n + (l.length + 1) = n + 1 + l.length from by omega]; exact q))
    exact h1 0 (by simp) r m _ h0 key
/-- while: I with its measure -/
theorem while_inv {test : Rho → Mem → (Bool → Mem → Prop) → Prop} {body : Rho → Mem → Kt → Prop} {K : Kt} (I : Nat → Rho → Mem → Prop) {n : Nat} {r : Rho} {m : Mem} (h0 : I n r m)
    (step : ∀ n r m (N : Rho → Mem → Prop), I n r m → (∀ n' r' m', n' < n → I n' r' m' → N r' m') → test r m fun b m1 => if b = true then body r m1 { nx := N, ct := N, bk := K.nx, rt := K.rt } else K.nx r m1) : ∃ n, whL test body n r m K := by
  have go : ∀ fuel n r m, n < fuel → I n r m → whL test body fuel r m K := by
    intro fuel
    induction fuel with
    | zero => intro n r m h; omega
    | succ fuel ih =>
      intro n r m hn h
      simp only [whL]
      exact step n r m _ h fun n' r' m' h1 h2 => ih n' r' m' (by omega) h2
  exact ⟨n + 1, go (n + 1) n r m (by omega) h0⟩
theorem start0 : startD 0 [] = [] := rfl
end Og
end
section
set_option maxHeartbeats 4000000
set_option autoImplicit false
/-! arithmetic -/
namespace Og.Lk44
open PySem Og
def s_num : Spec := fun ds m Q => ∃ (k : Ks) (t b : Int) (x : (sys k).F), ds = [.int (sys k).by_, .int t, .int b] ∧ (sys k).quo t b x ∧ Q ((sys k).d x) m
def s_num_add : Spec := fun ds m Q => ∃ (k : Ks) (x y : (sys k).F), ds = [.int (sys k).by_, (sys k).d x, (sys k).d y] ∧ (sys k).ht x + (sys k).ht y ≤ 2 ^ 27 ∧ Q ((sys k).d (x + y)) m
def s_num_times : Spec := fun ds m Q => ∃ (k : Ks) (x y : (sys k).F), ds = [.int (sys k).by_, (sys k).d x, (sys k).d y] ∧ (sys k).ht x + (sys k).ht y ≤ 2 ^ 27 ∧ Q ((sys k).d (x * y)) m
def s_num_back : Spec := fun ds m Q => ∃ (p : Nat) (b : Int), ds = [.int (p : Int), .int b] ∧ p < 128 ∧ (∃ f : Nat, 1 ≤ f ∧ f < p ∧ ((f : Int) * b) % (p : Int) = 1) ∧ ∀ f : Nat, f < p → ((f : Int) * b) % (p : Int) = 1 → Q (.int (f : Int)) m
theorem muls {S : Sys} {x y : S.F} (h : S.ht x + S.ht y ≤ 2 ^ 27) : IntMulOk (S.num x) (S.num y) ∧ IntMulOk (S.num x) (S.den y) ∧ IntMulOk (S.num y) (S.den x) ∧ IntMulOk (S.den x) (S.den y) :=
  ⟨mulOk_of (S.num_ht x) (S.num_ht y) h, mulOk_of (S.num_ht x) (S.den_ht y) h, mulOk_of (S.num_ht y) (S.den_ht x) (by omega), mulOk_of (S.den_ht x) (S.den_ht y) h⟩
theorem law_num_add {X : Ctx} (hn : X.fn 1 = s_num) (ds : List D) (m : Mem) (Q : KD) (h : s_num_add ds m Q) : body X 3 c4 ds m Q := by
  obtain ⟨k, x, y, rfl, hh, q⟩ := h
  obtain ⟨h1, h2, h3, h4⟩ := muls hh
  simp only [c4, Sys.d, hn, body, exs, ex, ev, evs, evB, evO, evT, evI, startD, List.map_cons, List.map_nil, List.length_cons, List.length_nil, Nat.reduceAdd, Nat.reduceSub, List.replicate, List.cons_append, List.nil_append, List.append_nil, List.getElem?_cons_zero, List.getElem?_cons_succ, Option.some.injEq, exists_and_left, exists_eq_left', exists_eq_left, exists_eq, ix_tup, at0, at1, at2, op_add', op_sub', op_mul', op_fdiv', op_mod', op_pow', op_addT, cm_lt, cm_le, cm_gt, cm_ge, cm_eq, cm_ne, cm_eqS, cm_neS, onb, oni, yn_gd, yn_cls, Nat.reduceLT, if_true, if_false, true_and, and_true, List.set_cons_zero, List.set_cons_succ, set_nm, set_tup, set_nil, set_cons, ifb, b1_abs, b1_int, b1_intB, b1_lenT, b1_lenL, b1_tupL, b1_tupT, b2_min, b2_max, seq_tup, seq_lst, seq_sq, gd_sq, ix_sq, len_sq, new_t, new_f, gd_tup, gd_lst, ix_lst, ty_int, ty_tup, ty_str, isi_ii, isi_ib, isi_tt, isi_ss, reduceIte, Bool.true_eq_false, Bool.false_eq_true, Bool.not_true, Bool.not_false,  List.zip_cons_cons, List.zip_nil_right, List.foldl_cons, List.foldl_nil, ne_eq, not_false_eq_true, not_true_eq_false, Bool.not_eq_true', decide_eq_false_iff_not, decide_eq_true_eq, reduceCtorEq, List.cons.injEq, and_self, D.ref.injEq, Cell.obj.injEq, D.int.injEq]
  exact ⟨h2, h3, h4, k, _, _, _, rfl, quo_add x y, m, SubO.refl, q⟩
theorem law_num_times {X : Ctx} (hn : X.fn 1 = s_num) (ds : List D) (m : Mem) (Q : KD) (h : s_num_times ds m Q) : body X 3 c2 ds m Q := by
  obtain ⟨k, x, y, rfl, hh, q⟩ := h
  obtain ⟨h1, h2, h3, h4⟩ := muls hh
  simp only [c2, Sys.d, hn, body, exs, ex, ev, evs, evB, evO, evT, evI, startD, List.map_cons, List.map_nil, List.length_cons, List.length_nil, Nat.reduceAdd, Nat.reduceSub, List.replicate, List.cons_append, List.nil_append, List.append_nil, List.getElem?_cons_zero, List.getElem?_cons_succ, Option.some.injEq, exists_and_left, exists_eq_left', exists_eq_left, exists_eq, ix_tup, at0, at1, at2, op_add', op_sub', op_mul', op_fdiv', op_mod', op_pow', op_addT, cm_lt, cm_le, cm_gt, cm_ge, cm_eq, cm_ne, cm_eqS, cm_neS, onb, oni, yn_gd, yn_cls, Nat.reduceLT, if_true, if_false, true_and, and_true, List.set_cons_zero, List.set_cons_succ, set_nm, set_tup, set_nil, set_cons, ifb, b1_abs, b1_int, b1_intB, b1_lenT, b1_lenL, b1_tupL, b1_tupT, b2_min, b2_max, seq_tup, seq_lst, seq_sq, gd_sq, ix_sq, len_sq, new_t, new_f, gd_tup, gd_lst, ix_lst, ty_int, ty_tup, ty_str, isi_ii, isi_ib, isi_tt, isi_ss, reduceIte, Bool.true_eq_false, Bool.false_eq_true, Bool.not_true, Bool.not_false,  List.zip_cons_cons, List.zip_nil_right, List.foldl_cons, List.foldl_nil, ne_eq, not_false_eq_true, not_true_eq_false, Bool.not_eq_true', decide_eq_false_iff_not, decide_eq_true_eq, reduceCtorEq, List.cons.injEq, and_self, D.ref.injEq, Cell.obj.injEq, D.int.injEq]
  exact ⟨h1, h4, k, _, _, _, rfl, quo_mul x y, m, SubO.refl, q⟩
theorem law_num_back {X : Ctx} (ds : List D) (m : Mem) (Q : KD) (h : s_num_back ds m Q) : body X 3 c0 ds m Q := by
  obtain ⟨p, b, rfl, hp, ⟨f, f1, f2, f3⟩, q⟩ := h
  simp only [c0, body, exs, ex, ev, evs, evB, evO, evT, evI, startD, List.map_cons, List.map_nil, List.length_cons, List.length_nil, Nat.reduceAdd, Nat.reduceSub, List.replicate, List.cons_append, List.nil_append, List.append_nil, List.getElem?_cons_zero, List.getElem?_cons_succ, Option.some.injEq, exists_and_left, exists_eq_left', exists_eq_left, exists_eq, ix_tup, at0, at1, at2, op_add', op_sub', op_mul', op_fdiv', op_mod', op_pow', op_addT, cm_lt, cm_le, cm_gt, cm_ge, cm_eq, cm_ne, cm_eqS, cm_neS, onb, oni, yn_gd, yn_cls, Nat.reduceLT, if_true, if_false, true_and, and_true, List.set_cons_zero, List.set_cons_succ, set_nm, set_tup, set_nil, set_cons, ifb, b1_abs, b1_int, b1_intB, b1_lenT, b1_lenL, b1_tupL, b1_tupT, b2_min, b2_max, seq_tup, seq_lst, seq_sq, gd_sq, ix_sq, len_sq, new_t, new_f, gd_tup, gd_lst, ix_lst, ty_int, ty_tup, ty_str, isi_ii, isi_ib, isi_tt, isi_ss, reduceIte, Bool.true_eq_false, Bool.false_eq_true, Bool.not_true, Bool.not_false,  List.zip_cons_cons, List.zip_nil_right, List.foldl_cons, List.foldl_nil, ne_eq, not_false_eq_true, not_true_eq_false, Bool.not_eq_true', decide_eq_false_iff_not, decide_eq_true_eq, reduceCtorEq, List.cons.injEq, and_self, D.ref.injEq, Cell.obj.injEq, D.int.injEq]
  refine ⟨⟨by decide, by decide⟩, ⟨by omega, by omega⟩, by omega, ?_⟩
  have e : rgD 1 (p : Int) = (List.range' 1 (p - 1)).map fun i => D.int (i : Nat) := by
    unfold rgD
    rw [List.range'_eq_map_range, List.map_map]
    have : ((p : Int) - 1).toNat = p - 1 := by omega
    rw [this]
    apply List.map_congr_left
    intro a _
    simp
  rw [e]
  have hf : f ∈ List.range' 1 (p - 1) := by rw [List.mem_range'_1]; omega
  have hl : ∀ a ∈ List.range' 1 (p - 1), a < p := fun a ha => by rw [List.mem_range'_1] at ha; omega
  generalize List.range' 1 (p - 1) = l at hf hl
  refine for_inv _ (fun n r m' => m' = m ∧ (∃ o, r = [some (.int (p : Int)), some (.int b), o]) ∧ f ∈ l.drop n) l 0 _ _ ⟨rfl, ⟨_, rfl⟩, by simpa using hf⟩ ?_ ?_
  · rintro i hi r m' N ⟨rfl, ⟨o, rfl⟩, hf'⟩ kN
    try simp only [body, exs, ex, ev, evs, evB, evO, evT, evI, startD, List.map_cons, List.map_nil, List.length_cons, List.length_nil, Nat.reduceAdd, Nat.reduceSub, List.replicate, List.cons_append, List.nil_append, List.append_nil, List.getElem?_cons_zero, List.getElem?_cons_succ, Option.some.injEq, exists_and_left, exists_eq_left', exists_eq_left, exists_eq, ix_tup, at0, at1, at2, op_add', op_sub', op_mul', op_fdiv', op_mod', op_pow', op_addT, cm_lt, cm_le, cm_gt, cm_ge, cm_eq, cm_ne, cm_eqS, cm_neS, onb, oni, yn_gd, yn_cls, Nat.reduceLT, if_true, if_false, true_and, and_true, List.set_cons_zero, List.set_cons_succ, set_nm, set_tup, set_nil, set_cons, ifb, b1_abs, b1_int, b1_intB, b1_lenT, b1_lenL, b1_tupL, b1_tupT, b2_min, b2_max, seq_tup, seq_lst, seq_sq, gd_sq, ix_sq, len_sq, new_t, new_f, gd_tup, gd_lst, ix_lst, ty_int, ty_tup, ty_str, isi_ii, isi_ib, isi_tt, isi_ss, reduceIte, Bool.true_eq_false, Bool.false_eq_true, Bool.not_true, Bool.not_false,  List.zip_cons_cons, List.zip_nil_right, List.foldl_cons, List.foldl_nil, ne_eq, not_false_eq_true, not_true_eq_false, Bool.not_eq_true', decide_eq_false_iff_not, decide_eq_true_eq, reduceCtorEq, List.cons.injEq, and_self, D.ref.injEq, Cell.obj.injEq, D.int.injEq]
    have ha := hl l[i] (List.getElem_mem hi)
    refine ⟨mulOk_small (by omega), by omega, ?_⟩
    rw [fmod_p]
    by_cases e : ((l[i] : Int) * b) % (p : Int) = 1
    · rw [if_pos e]
      exact ⟨m', SubO.refl, q _ ha e⟩
    · rw [if_neg e]
      refine kN _ _ ⟨rfl, ⟨_, rfl⟩, ?_⟩
      rw [Nat.zero_add, List.drop_eq_getElem_cons hi] at hf'
      rcases List.mem_cons.mp hf' with z | z
      · rw [z] at f3; exact absurd f3 e
      · simpa using z
  · rintro r m' ⟨_, _, hf'⟩
    simp at hf'
theorem gcd_step (a b : Nat) : (a : Int).fmod (b : Int) = ((a % b : Nat) : Int) := by
  rw [Int.fmod_eq_emod_of_nonneg _ (by omega)]; rfl
theorem law_num {X : Ctx} (hb : X.fn 0 = s_num_back) (ds : List D) (m : Mem) (Q : KD) (h : s_num ds m Q) : body X 5 c1 ds m Q := by
  obtain ⟨k, t, b, x, rfl, hq, q⟩ := h
  revert t b x Q
  refine sys_cases (P := fun S => ∀ (Q : KD) (t b : Int) (x : S.F), S.quo t b x → Q (S.d x) m → body X 5 c1 [.int S.by_, .int t, .int b] m Q) ?_ ?_ k
  · intro Q t b x hq q
    obtain ⟨hb0, hg, e1, e2⟩ := rat_quo hq
    have h0 : ratS.by_ = 0 := rfl
    simp only [c1, h0, body, exs, ex, ev, evs, evB, evO, evT, evI, startD, List.map_cons, List.map_nil, List.length_cons, List.length_nil, Nat.reduceAdd, Nat.reduceSub, List.replicate, List.cons_append, List.nil_append, List.append_nil, List.getElem?_cons_zero, List.getElem?_cons_succ, Option.some.injEq, exists_and_left, exists_eq_left', exists_eq_left, exists_eq, ix_tup, at0, at1, at2, op_add', op_sub', op_mul', op_fdiv', op_mod', op_pow', op_addT, cm_lt, cm_le, cm_gt, cm_ge, cm_eq, cm_ne, cm_eqS, cm_neS, onb, oni, yn_gd, yn_cls, Nat.reduceLT, if_true, if_false, true_and, and_true, List.set_cons_zero, List.set_cons_succ, set_nm, set_tup, set_nil, set_cons, ifb, b1_abs, b1_int, b1_intB, b1_lenT, b1_lenL, b1_tupL, b1_tupT, b2_min, b2_max, seq_tup, seq_lst, seq_sq, gd_sq, ix_sq, len_sq, new_t, new_f, gd_tup, gd_lst, ix_lst, ty_int, ty_tup, ty_str, isi_ii, isi_ib, isi_tt, isi_ss, reduceIte, Bool.true_eq_false, Bool.false_eq_true, Bool.not_true, Bool.not_false,  List.zip_cons_cons, List.zip_nil_right, List.foldl_cons, List.foldl_nil, ne_eq, not_false_eq_true, not_true_eq_false, Bool.not_eq_true', decide_eq_false_iff_not, decide_eq_true_eq, reduceCtorEq, List.cons.injEq, and_self, D.ref.injEq, Cell.obj.injEq, D.int.injEq]
    rw [if_neg (by decide)]
    refine while_inv (fun n r m' => m' = m ∧ ∃ a c : Nat, n = c ∧ r = [some (.int 0), some (.int t), some (.int b), some (.int (a : Int)), some (.int (c : Int))] ∧ Nat.gcd a c = Int.gcd t b) ⟨rfl, t.natAbs, b.natAbs, rfl, rfl, rfl⟩ ?_
    rintro n r m' N ⟨rfl, a, c, rfl, rfl, hg2⟩ kN
    try simp only [body, exs, ex, ev, evs, evB, evO, evT, evI, startD, List.map_cons, List.map_nil, List.length_cons, List.length_nil, Nat.reduceAdd, Nat.reduceSub, List.replicate, List.cons_append, List.nil_append, List.append_nil, List.getElem?_cons_zero, List.getElem?_cons_succ, Option.some.injEq, exists_and_left, exists_eq_left', exists_eq_left, exists_eq, ix_tup, at0, at1, at2, op_add', op_sub', op_mul', op_fdiv', op_mod', op_pow', op_addT, cm_lt, cm_le, cm_gt, cm_ge, cm_eq, cm_ne, cm_eqS, cm_neS, onb, oni, yn_gd, yn_cls, Nat.reduceLT, if_true, if_false, true_and, and_true, List.set_cons_zero, List.set_cons_succ, set_nm, set_tup, set_nil, set_cons, ifb, b1_abs, b1_int, b1_intB, b1_lenT, b1_lenL, b1_tupL, b1_tupT, b2_min, b2_max, seq_tup, seq_lst, seq_sq, gd_sq, ix_sq, len_sq, new_t, new_f, gd_tup, gd_lst, ix_lst, ty_int, ty_tup, ty_str, isi_ii, isi_ib, isi_tt, isi_ss, reduceIte, Bool.true_eq_false, Bool.false_eq_true, Bool.not_true, Bool.not_false,  List.zip_cons_cons, List.zip_nil_right, List.foldl_cons, List.foldl_nil, ne_eq, not_false_eq_true, not_true_eq_false, Bool.not_eq_true', decide_eq_false_iff_not, decide_eq_true_eq, reduceCtorEq, List.cons.injEq, and_self, D.ref.injEq, Cell.obj.injEq, D.int.injEq]
    by_cases hc0 : (0 : Int) < (n : Int)
    · rw [if_pos hc0]
      refine ⟨by omega, ?_⟩
      rw [gcd_step]
      refine kN (a % n) _ _ (Nat.mod_lt _ (by omega)) ⟨rfl, n, a % n, rfl, rfl, ?_⟩
      rw [← hg2, Nat.gcd_comm a n, Nat.gcd_rec n a, Nat.gcd_comm]
    · rw [if_neg hc0]
      have c0 : n = 0 := by omega
      subst c0
      rw [Nat.gcd_zero_right] at hg2
      have fin : (∃ m2, SubO m2 m' ∧ Q (.tup [.int (t.fdiv (gsig t b)), .int (b.fdiv (gsig t b))]) m2) := ⟨m', SubO.refl, by rw [e1, e2]; exact q⟩
      by_cases hp : (0 : Int) < b
      · rw [if_pos hp]
        have e : gsig t b = (a : Int) := by unfold gsig; rw [if_pos hp, hg2]
        rw [e] at fin hg
        exact ⟨hg, hg, by omega, fin⟩
      · rw [if_neg hp]
        have e : gsig t b = -(a : Int) := by unfold gsig; rw [if_neg hp, hg2]
        rw [e] at fin hg
        exact ⟨hg, hg, by omega, fin⟩
  · intro p _ h Q t b x hq q
    have h0 : (zpS p h).by_ = (p : Int) := rfl
    have h2 := h.two
    have hp : (0 : Int) < (p : Int) := by omega
    simp only [c1, h0, hb, body, exs, ex, ev, evs, evB, evO, evT, evI, startD, List.map_cons, List.map_nil, List.length_cons, List.length_nil, Nat.reduceAdd, Nat.reduceSub, List.replicate, List.cons_append, List.nil_append, List.append_nil, List.getElem?_cons_zero, List.getElem?_cons_succ, Option.some.injEq, exists_and_left, exists_eq_left', exists_eq_left, exists_eq, ix_tup, at0, at1, at2, op_add', op_sub', op_mul', op_fdiv', op_mod', op_pow', op_addT, cm_lt, cm_le, cm_gt, cm_ge, cm_eq, cm_ne, cm_eqS, cm_neS, onb, oni, yn_gd, yn_cls, Nat.reduceLT, if_true, if_false, true_and, and_true, List.set_cons_zero, List.set_cons_succ, set_nm, set_tup, set_nil, set_cons, ifb, b1_abs, b1_int, b1_intB, b1_lenT, b1_lenL, b1_tupL, b1_tupT, b2_min, b2_max, seq_tup, seq_lst, seq_sq, gd_sq, ix_sq, len_sq, new_t, new_f, gd_tup, gd_lst, ix_lst, ty_int, ty_tup, ty_str, isi_ii, isi_ib, isi_tt, isi_ss, reduceIte, Bool.true_eq_false, Bool.false_eq_true, Bool.not_true, Bool.not_false,  List.zip_cons_cons, List.zip_nil_right, List.foldl_cons, List.foldl_nil, ne_eq, not_false_eq_true, not_true_eq_false, Bool.not_eq_true', decide_eq_false_iff_not, decide_eq_true_eq, reduceCtorEq, List.cons.injEq, and_self, D.ref.injEq, Cell.obj.injEq, D.int.injEq]
    rw [if_pos hp]
    have hI : (zpS p h).I (b % (p : Int)) ≠ 0 := by rw [zp_I_mod]; exact hq.1
    refine ⟨by omega, p, b % (p : Int), by rw [fmod_p], h.small, zp_back hI, fun f hf he => ⟨?_, by omega, by decide, m, SubO.refl, ?_⟩⟩
    · exact mulOk_smallR (by have := h.small; omega)
    · have e := zp_quo hq (f := (f : Int)) (by rw [← zp_I_mod (i := b)]; exact zp_one he)
      rw [fmod_p, ← e]
      exact q
end Og.Lk44
end
section
set_option maxHeartbeats 4000000
set_option autoImplicit false
namespace Og.Lk44
open PySem Og
def s_common : Spec := fun ds m Q => ∃ a b : Int, ds = [.int a, .int b] ∧ Q (.int (Int.gcd a b : Int)) m
def s_least : Spec := fun ds m Q => ∃ (t b : Int) (x : ratS.F), ds = [.int t, .int b] ∧ ratS.quo t b x ∧ Q (ratS.d x) m
def s_inverse : Spec := fun ds m Q => ∃ (p : Nat) (_ : NeZero p) (h : Zp.Pr p) (b : Int), ds = [.int (p : Int), .int b] ∧ (zpS p h).I b ≠ 0 ∧ ∀ f : Int, 0 ≤ f → f < (p : Int) → (f * b) % (p : Int) = 1 → Q (.int f) m
def s_neg : Spec := fun ds m Q => ∃ (k : Ks) (x : (sys k).F), ds = [.int (sys k).by_, (sys k).d x] ∧ Q ((sys k).d (-x)) m
def s_turned : Spec := fun ds m Q => ∃ (k : Ks) (x : (sys k).F), ds = [.int (sys k).by_, (sys k).d x] ∧ x ≠ 0 ∧ Q ((sys k).d ((sys k).inv x)) m
def s_is_whole : Spec := fun ds m Q => ∃ i : Int, ds = [.int i] ∧ Q (.bl true) m
def s_is_by : Spec := fun ds m Q => ∃ k : Ks, ds = [.int (sys k).by_] ∧ Q (.bl true) m
def s_is_tuple : Spec := fun ds m Q => ∃ (es : List D) (lo hi : Int), ds = [.tup es, .int lo, .int hi] ∧ lo ≤ (es.length : Int) ∧ (es.length : Int) ≤ hi ∧ Q (.bl true) m
def s_is_worth : Spec := fun ds m Q => ∃ (k : Ks) (x : (sys k).F), ds = [.int (sys k).by_, (sys k).d x] ∧ Q (.bl true) m
theorem law_common {X : Ctx} (ds : List D) (m : Mem) (Q : KD) (h : s_common ds m Q) : body X 2 c20 ds m Q := by
  obtain ⟨a, b, rfl, q⟩ := h
  simp only [c20, body, exs, ex, ev, evs, evB, evO, evT, evI, startD, List.map_cons, List.map_nil, List.length_cons, List.length_nil, Nat.reduceAdd, Nat.reduceSub, List.replicate, List.cons_append, List.nil_append, List.append_nil, List.getElem?_cons_zero, List.getElem?_cons_succ, Option.some.injEq, exists_and_left, exists_eq_left', exists_eq_left, exists_eq, ix_tup, at0, at1, at2, op_add', op_sub', op_mul', op_fdiv', op_mod', op_pow', op_addT, cm_lt, cm_le, cm_gt, cm_ge, cm_eq, cm_ne, cm_eqS, cm_neS, onb, oni, yn_gd, yn_cls, Nat.reduceLT, if_true, if_false, true_and, and_true, List.set_cons_zero, List.set_cons_succ, set_nm, set_tup, set_nil, set_cons, ifb, b1_abs, b1_int, b1_intB, b1_lenT, b1_lenL, b1_tupL, b1_tupT, b2_min, b2_max, seq_tup, seq_lst, seq_sq, gd_sq, ix_sq, len_sq, new_t, new_f, gd_tup, gd_lst, ix_lst, ty_int, ty_tup, ty_str, isi_ii, isi_ib, isi_tt, isi_ss, reduceIte, Bool.true_eq_false, Bool.false_eq_true, Bool.not_true, Bool.not_false,  List.zip_cons_cons, List.zip_nil_right, List.foldl_cons, List.foldl_nil, ne_eq, not_false_eq_true, not_true_eq_false, Bool.not_eq_true', decide_eq_false_iff_not, decide_eq_true_eq, reduceCtorEq, List.cons.injEq, and_self, D.ref.injEq, Cell.obj.injEq, D.int.injEq]
  refine while_inv (fun n r m' => m' = m ∧ ∃ u v : Nat, n = v ∧ r = [some (.int (u : Int)), some (.int (v : Int))] ∧ Nat.gcd u v = Int.gcd a b) ⟨rfl, a.natAbs, b.natAbs, rfl, rfl, rfl⟩ ?_
  rintro n r m' N ⟨rfl, u, v, rfl, rfl, hg⟩ kN
  try simp only [body, exs, ex, ev, evs, evB, evO, evT, evI, startD, List.map_cons, List.map_nil, List.length_cons, List.length_nil, Nat.reduceAdd, Nat.reduceSub, List.replicate, List.cons_append, List.nil_append, List.append_nil, List.getElem?_cons_zero, List.getElem?_cons_succ, Option.some.injEq, exists_and_left, exists_eq_left', exists_eq_left, exists_eq, ix_tup, at0, at1, at2, op_add', op_sub', op_mul', op_fdiv', op_mod', op_pow', op_addT, cm_lt, cm_le, cm_gt, cm_ge, cm_eq, cm_ne, cm_eqS, cm_neS, onb, oni, yn_gd, yn_cls, Nat.reduceLT, if_true, if_false, true_and, and_true, List.set_cons_zero, List.set_cons_succ, set_nm, set_tup, set_nil, set_cons, ifb, b1_abs, b1_int, b1_intB, b1_lenT, b1_lenL, b1_tupL, b1_tupT, b2_min, b2_max, seq_tup, seq_lst, seq_sq, gd_sq, ix_sq, len_sq, new_t, new_f, gd_tup, gd_lst, ix_lst, ty_int, ty_tup, ty_str, isi_ii, isi_ib, isi_tt, isi_ss, reduceIte, Bool.true_eq_false, Bool.false_eq_true, Bool.not_true, Bool.not_false,  List.zip_cons_cons, List.zip_nil_right, List.foldl_cons, List.foldl_nil, ne_eq, not_false_eq_true, not_true_eq_false, Bool.not_eq_true', decide_eq_false_iff_not, decide_eq_true_eq, reduceCtorEq, List.cons.injEq, and_self, D.ref.injEq, Cell.obj.injEq, D.int.injEq]
  by_cases hv : (n : Int) = 0
  · rw [if_neg (by simpa using hv)]
    have : n = 0 := by omega
    subst this
    rw [Nat.gcd_zero_right] at hg
    exact ⟨m', SubO.refl, by rw [hg]; exact q⟩
  · rw [if_pos (by simpa using hv)]
    refine ⟨by simpa using hv, ?_⟩
    rw [gcd_step]
    refine kN (u % n) _ _ (Nat.mod_lt _ (by omega)) ⟨rfl, n, u % n, rfl, rfl, ?_⟩
    rw [← hg, Nat.gcd_comm u n, Nat.gcd_rec n u, Nat.gcd_comm]
theorem law_least {X : Ctx} (hc : X.fn 20 = s_common) (ds : List D) (m : Mem) (Q : KD) (h : s_least ds m Q) : body X 3 c25 ds m Q := by
  obtain ⟨t, b, x, rfl, hq, q⟩ := h
  obtain ⟨hb0, hg, e1, e2⟩ := rat_quo hq
  simp only [c25, hc, body, exs, ex, ev, evs, evB, evO, evT, evI, startD, List.map_cons, List.map_nil, List.length_cons, List.length_nil, Nat.reduceAdd, Nat.reduceSub, List.replicate, List.cons_append, List.nil_append, List.append_nil, List.getElem?_cons_zero, List.getElem?_cons_succ, Option.some.injEq, exists_and_left, exists_eq_left', exists_eq_left, exists_eq, ix_tup, at0, at1, at2, op_add', op_sub', op_mul', op_fdiv', op_mod', op_pow', op_addT, cm_lt, cm_le, cm_gt, cm_ge, cm_eq, cm_ne, cm_eqS, cm_neS, onb, oni, yn_gd, yn_cls, Nat.reduceLT, if_true, if_false, true_and, and_true, List.set_cons_zero, List.set_cons_succ, set_nm, set_tup, set_nil, set_cons, ifb, b1_abs, b1_int, b1_intB, b1_lenT, b1_lenL, b1_tupL, b1_tupT, b2_min, b2_max, seq_tup, seq_lst, seq_sq, gd_sq, ix_sq, len_sq, new_t, new_f, gd_tup, gd_lst, ix_lst, ty_int, ty_tup, ty_str, isi_ii, isi_ib, isi_tt, isi_ss, reduceIte, Bool.true_eq_false, Bool.false_eq_true, Bool.not_true, Bool.not_false,  List.zip_cons_cons, List.zip_nil_right, List.foldl_cons, List.foldl_nil, ne_eq, not_false_eq_true, not_true_eq_false, Bool.not_eq_true', decide_eq_false_iff_not, decide_eq_true_eq, reduceCtorEq, List.cons.injEq, and_self, D.ref.injEq, Cell.obj.injEq, D.int.injEq]
  have fin : (∃ m2, SubO m2 m ∧ Q (.tup [.int (t.fdiv (gsig t b)), .int (b.fdiv (gsig t b))]) m2) := ⟨m, SubO.refl, by rw [e1, e2]; exact q⟩
  by_cases hp : (0 : Int) < b
  · rw [if_pos hp]
    have e : gsig t b = (Int.gcd t b : Int) := by unfold gsig; rw [if_pos hp]
    rw [e] at fin hg
    exact ⟨t, b, rfl, hg, hg, by omega, fin⟩
  · rw [if_neg hp]
    have e : gsig t b = -(Int.gcd t b : Int) := by unfold gsig; rw [if_neg hp]
    rw [e] at fin hg
    exact ⟨t, b, rfl, hg, hg, by omega, fin⟩
theorem law_is_whole {X : Ctx} (ds : List D) (m : Mem) (Q : KD) (h : s_is_whole ds m Q) : body X 1 c17 ds m Q := by
  obtain ⟨i, rfl, q⟩ := h
  simp only [c17, body, exs, ex, ev, evs, evB, evO, evT, evI, startD, List.map_cons, List.map_nil, List.length_cons, List.length_nil, Nat.reduceAdd, Nat.reduceSub, List.replicate, List.cons_append, List.nil_append, List.append_nil, List.getElem?_cons_zero, List.getElem?_cons_succ, Option.some.injEq, exists_and_left, exists_eq_left', exists_eq_left, exists_eq, ix_tup, at0, at1, at2, op_add', op_sub', op_mul', op_fdiv', op_mod', op_pow', op_addT, cm_lt, cm_le, cm_gt, cm_ge, cm_eq, cm_ne, cm_eqS, cm_neS, onb, oni, yn_gd, yn_cls, Nat.reduceLT, if_true, if_false, true_and, and_true, List.set_cons_zero, List.set_cons_succ, set_nm, set_tup, set_nil, set_cons, ifb, b1_abs, b1_int, b1_intB, b1_lenT, b1_lenL, b1_tupL, b1_tupT, b2_min, b2_max, seq_tup, seq_lst, seq_sq, gd_sq, ix_sq, len_sq, new_t, new_f, gd_tup, gd_lst, ix_lst, ty_int, ty_tup, ty_str, isi_ii, isi_ib, isi_tt, isi_ss, reduceIte, Bool.true_eq_false, Bool.false_eq_true, Bool.not_true, Bool.not_false,  List.zip_cons_cons, List.zip_nil_right, List.foldl_cons, List.foldl_nil, ne_eq, not_false_eq_true, not_true_eq_false, Bool.not_eq_true', decide_eq_false_iff_not, decide_eq_true_eq, reduceCtorEq, List.cons.injEq, and_self, D.ref.injEq, Cell.obj.injEq, D.int.injEq]
  exact ⟨m, SubO.refl, q⟩
theorem law_is_tuple {X : Ctx} (ds : List D) (m : Mem) (Q : KD) (h : s_is_tuple ds m Q) : body X 3 c19 ds m Q := by
  obtain ⟨es, lo, hi, rfl, h1, h2, q⟩ := h
  simp only [c19, body, exs, ex, ev, evs, evB, evO, evT, evI, startD, List.map_cons, List.map_nil, List.length_cons, List.length_nil, Nat.reduceAdd, Nat.reduceSub, List.replicate, List.cons_append, List.nil_append, List.append_nil, List.getElem?_cons_zero, List.getElem?_cons_succ, Option.some.injEq, exists_and_left, exists_eq_left', exists_eq_left, exists_eq, ix_tup, at0, at1, at2, op_add', op_sub', op_mul', op_fdiv', op_mod', op_pow', op_addT, cm_lt, cm_le, cm_gt, cm_ge, cm_eq, cm_ne, cm_eqS, cm_neS, onb, oni, yn_gd, yn_cls, Nat.reduceLT, if_true, if_false, true_and, and_true, List.set_cons_zero, List.set_cons_succ, set_nm, set_tup, set_nil, set_cons, ifb, b1_abs, b1_int, b1_intB, b1_lenT, b1_lenL, b1_tupL, b1_tupT, b2_min, b2_max, seq_tup, seq_lst, seq_sq, gd_sq, ix_sq, len_sq, new_t, new_f, gd_tup, gd_lst, ix_lst, ty_int, ty_tup, ty_str, isi_ii, isi_ib, isi_tt, isi_ss, reduceIte, Bool.true_eq_false, Bool.false_eq_true, Bool.not_true, Bool.not_false,  List.zip_cons_cons, List.zip_nil_right, List.foldl_cons, List.foldl_nil, ne_eq, not_false_eq_true, not_true_eq_false, Bool.not_eq_true', decide_eq_false_iff_not, decide_eq_true_eq, reduceCtorEq, List.cons.injEq, and_self, D.ref.injEq, Cell.obj.injEq, D.int.injEq]
  rw [if_pos h1, decide_eq_true h2]
  exact ⟨m, SubO.refl, q⟩
theorem law_is_by {X : Ctx} (hw : X.fn 17 = s_is_whole) (hg : X.gd = gd) (ds : List D) (m : Mem) (Q : KD) (h : s_is_by ds m Q) : body X 1 c18 ds m Q := by
  obtain ⟨k, rfl, q⟩ := h
  have fin : ∃ m2, SubO m2 m ∧ Q (.bl true) m2 := ⟨m, SubO.refl, q⟩
  simp only [c18, hw, hg, gd, body, exs, ex, ev, evs, evB, evO, evT, evI, startD, List.map_cons, List.map_nil, List.length_cons, List.length_nil, Nat.reduceAdd, Nat.reduceSub, List.replicate, List.cons_append, List.nil_append, List.append_nil, List.getElem?_cons_zero, List.getElem?_cons_succ, Option.some.injEq, exists_and_left, exists_eq_left', exists_eq_left, exists_eq, ix_tup, at0, at1, at2, op_add', op_sub', op_mul', op_fdiv', op_mod', op_pow', op_addT, cm_lt, cm_le, cm_gt, cm_ge, cm_eq, cm_ne, cm_eqS, cm_neS, onb, oni, yn_gd, yn_cls, Nat.reduceLT, if_true, if_false, true_and, and_true, List.set_cons_zero, List.set_cons_succ, set_nm, set_tup, set_nil, set_cons, ifb, b1_abs, b1_int, b1_intB, b1_lenT, b1_lenL, b1_tupL, b1_tupT, b2_min, b2_max, seq_tup, seq_lst, seq_sq, gd_sq, ix_sq, len_sq, new_t, new_f, gd_tup, gd_lst, ix_lst, ty_int, ty_tup, ty_str, isi_ii, isi_ib, isi_tt, isi_ss, reduceIte, Bool.true_eq_false, Bool.false_eq_true, Bool.not_true, Bool.not_false,  List.zip_cons_cons, List.zip_nil_right, List.foldl_cons, List.foldl_nil, ne_eq, not_false_eq_true, not_true_eq_false, Bool.not_eq_true', decide_eq_false_iff_not, decide_eq_true_eq, reduceCtorEq, List.cons.injEq, and_self, D.ref.injEq, Cell.obj.injEq, D.int.injEq]
  refine ⟨_, rfl, ?_⟩
  try simp only [body, exs, ex, ev, evs, evB, evO, evT, evI, startD, List.map_cons, List.map_nil, List.length_cons, List.length_nil, Nat.reduceAdd, Nat.reduceSub, List.replicate, List.cons_append, List.nil_append, List.append_nil, List.getElem?_cons_zero, List.getElem?_cons_succ, Option.some.injEq, exists_and_left, exists_eq_left', exists_eq_left, exists_eq, ix_tup, at0, at1, at2, op_add', op_sub', op_mul', op_fdiv', op_mod', op_pow', op_addT, cm_lt, cm_le, cm_gt, cm_ge, cm_eq, cm_ne, cm_eqS, cm_neS, onb, oni, yn_gd, yn_cls, Nat.reduceLT, if_true, if_false, true_and, and_true, List.set_cons_zero, List.set_cons_succ, set_nm, set_tup, set_nil, set_cons, ifb, b1_abs, b1_int, b1_intB, b1_lenT, b1_lenL, b1_tupL, b1_tupT, b2_min, b2_max, seq_tup, seq_lst, seq_sq, gd_sq, ix_sq, len_sq, new_t, new_f, gd_tup, gd_lst, ix_lst, ty_int, ty_tup, ty_str, isi_ii, isi_ib, isi_tt, isi_ss, reduceIte, Bool.true_eq_false, Bool.false_eq_true, Bool.not_true, Bool.not_false,  List.zip_cons_cons, List.zip_nil_right, List.foldl_cons, List.foldl_nil, ne_eq, not_false_eq_true, not_true_eq_false, Bool.not_eq_true', decide_eq_false_iff_not, decide_eq_true_eq, reduceCtorEq, List.cons.injEq, and_self, D.ref.injEq, Cell.obj.injEq, D.int.injEq]
  by_cases h0 : (sys k).by_ = 0
  · rw [if_pos h0]; exact fin
  · rw [if_neg h0]
    refine ⟨_, rfl, L2.V.int (sys k).by_, [2, 3, 5, 7, 11, 13, 17, 19, 23, 29, 31, 37, 41, 43, 47, 53, 59, 61, 67, 71, 73, 79, 83, 89, 97].map L2.V.int, rfl, rfl, ?_⟩
    have e : L2.inV (L2.V.int (sys k).by_) ([2, 3, 5, 7, 11, 13, 17, 19, 23, 29, 31, 37, 41, 43, 47, 53, 59, 61, 67, 71, 73, 79, 83, 89, 97].map L2.V.int) = true := by
      cases k <;> first
        | exact absurd rfl h0
        | decide +kernel
    rw [e]; exact fin
theorem mod_in {b : Int} {p : Nat} (hp : 0 < p) : ∃ c : Nat, b % (p : Int) = (c : Int) ∧ c < p := by
  have h1 := Int.emod_nonneg b (show (p : Int) ≠ 0 by omega)
  have h2 := Int.emod_lt_of_pos b (show (0 : Int) < p by omega)
  exact ⟨(b % (p : Int)).toNat, by omega, by omega⟩
theorem gcd_one {b f : Int} {p c : Nat} (h2 : 2 ≤ p) (hc : b % (p : Int) = (c : Int)) (hf : (f * b) % (p : Int) = 1) : Nat.gcd c p = 1 := by
  have e1 : (f * (c : Int)) % (p : Int) = 1 := by rw [← hc, Int.mul_emod, Int.emod_emod_of_dvd _ (Int.dvd_refl _), ← Int.mul_emod, hf]
  have d1 : ((Nat.gcd c p : Nat) : Int) ∣ (c : Int) := by exact_mod_cast Nat.gcd_dvd_left c p
  have d2 : ((Nat.gcd c p : Nat) : Int) ∣ (p : Int) := by exact_mod_cast Nat.gcd_dvd_right c p
  have d3 : ((Nat.gcd c p : Nat) : Int) ∣ 1 := by
    rw [← e1, Int.emod_def]
    exact Int.dvd_sub (Int.dvd_trans d1 (Int.dvd_mul_left _ _)) (Int.dvd_trans d2 (Int.dvd_mul_right _ _))
  have := Int.eq_one_of_dvd_one (by omega) d3
  omega
theorem law_inverse {X : Ctx} (ds : List D) (m : Mem) (Q : KD) (h : s_inverse ds m Q) : body X 7 c26 ds m Q := by
  obtain ⟨p, _, h, b, rfl, hb, q⟩ := h
  obtain ⟨f, f1, f2, f3⟩ := zp_back hb
  have h2 := h.two
  have hs := h.small
  obtain ⟨c, hc, hcp⟩ := mod_in (b := b) (show 0 < p by omega)
  have hg := gcd_one h2 hc f3
  have cb : (c : Int) % (p : Int) = b % (p : Int) := by rw [← hc, Int.emod_emod_of_dvd _ (Int.dvd_refl _)]
  simp only [c26, body, exs, ex, ev, evs, evB, evO, evT, evI, startD, List.map_cons, List.map_nil, List.length_cons, List.length_nil, Nat.reduceAdd, Nat.reduceSub, List.replicate, List.cons_append, List.nil_append, List.append_nil, List.getElem?_cons_zero, List.getElem?_cons_succ, Option.some.injEq, exists_and_left, exists_eq_left', exists_eq_left, exists_eq, ix_tup, at0, at1, at2, op_add', op_sub', op_mul', op_fdiv', op_mod', op_pow', op_addT, cm_lt, cm_le, cm_gt, cm_ge, cm_eq, cm_ne, cm_eqS, cm_neS, onb, oni, yn_gd, yn_cls, Nat.reduceLT, if_true, if_false, true_and, and_true, List.set_cons_zero, List.set_cons_succ, set_nm, set_tup, set_nil, set_cons, ifb, b1_abs, b1_int, b1_intB, b1_lenT, b1_lenL, b1_tupL, b1_tupT, b2_min, b2_max, seq_tup, seq_lst, seq_sq, gd_sq, ix_sq, len_sq, new_t, new_f, gd_tup, gd_lst, ix_lst, ty_int, ty_tup, ty_str, isi_ii, isi_ib, isi_tt, isi_ss, reduceIte, Bool.true_eq_false, Bool.false_eq_true, Bool.not_true, Bool.not_false,  List.zip_cons_cons, List.zip_nil_right, List.foldl_cons, List.foldl_nil, ne_eq, not_false_eq_true, not_true_eq_false, Bool.not_eq_true', decide_eq_false_iff_not, decide_eq_true_eq, reduceCtorEq, List.cons.injEq, and_self, D.ref.injEq, Cell.obj.injEq, D.int.injEq]
  refine ⟨by omega, by omega, ?_⟩
  rw [fmod_p, hc]
  refine while_inv (fun n r m' => m' = m ∧ ∃ (u v : Nat) (s t : Int) (o : Option D), n = v ∧ r = [some (.int (p : Int)), some (.int b), some (.int (u : Int)), some (.int (v : Int)), some (.int s), some (.int t), o] ∧ Nat.gcd u v = 1 ∧ u < 128 ∧ v < 128 ∧ (s * b) % (p : Int) = (u : Int) % (p : Int) ∧ (t * b) % (p : Int) = (v : Int) % (p : Int))
    ⟨rfl, c, p, 1, 0, _, rfl, rfl, hg, by omega, by omega, by rw [Int.one_mul, cb], by simp⟩ ?_
  rintro n r m' N ⟨rfl, u, v, s, t, o, rfl, rfl, g, hu, hv, h5, h6⟩ kN
  try simp only [body, exs, ex, ev, evs, evB, evO, evT, evI, startD, List.map_cons, List.map_nil, List.length_cons, List.length_nil, Nat.reduceAdd, Nat.reduceSub, List.replicate, List.cons_append, List.nil_append, List.append_nil, List.getElem?_cons_zero, List.getElem?_cons_succ, Option.some.injEq, exists_and_left, exists_eq_left', exists_eq_left, exists_eq, ix_tup, at0, at1, at2, op_add', op_sub', op_mul', op_fdiv', op_mod', op_pow', op_addT, cm_lt, cm_le, cm_gt, cm_ge, cm_eq, cm_ne, cm_eqS, cm_neS, onb, oni, yn_gd, yn_cls, Nat.reduceLT, if_true, if_false, true_and, and_true, List.set_cons_zero, List.set_cons_succ, set_nm, set_tup, set_nil, set_cons, ifb, b1_abs, b1_int, b1_intB, b1_lenT, b1_lenL, b1_tupL, b1_tupT, b2_min, b2_max, seq_tup, seq_lst, seq_sq, gd_sq, ix_sq, len_sq, new_t, new_f, gd_tup, gd_lst, ix_lst, ty_int, ty_tup, ty_str, isi_ii, isi_ib, isi_tt, isi_ss, reduceIte, Bool.true_eq_false, Bool.false_eq_true, Bool.not_true, Bool.not_false,  List.zip_cons_cons, List.zip_nil_right, List.foldl_cons, List.foldl_nil, ne_eq, not_false_eq_true, not_true_eq_false, Bool.not_eq_true', decide_eq_false_iff_not, decide_eq_true_eq, reduceCtorEq, List.cons.injEq, and_self, D.ref.injEq, Cell.obj.injEq, D.int.injEq]
  by_cases hv0 : (n : Int) = 0
  · rw [if_neg (by simpa using hv0)]
    have : n = 0 := by omega
    subst this
    rw [Nat.gcd_zero_right] at g
    subst g
    refine ⟨by omega, m', SubO.refl, ?_⟩
    rw [fmod_p]
    refine q _ (Int.emod_nonneg _ (by omega)) (Int.emod_lt_of_pos _ (by omega)) ?_
    rw [Int.mul_emod, Int.emod_emod_of_dvd _ (Int.dvd_refl _), ← Int.mul_emod, h5]
    exact Int.emod_eq_of_lt (by omega) (by omega)
  · rw [if_pos (by simpa using hv0)]
    have hq : ((u : Int).fdiv (n : Int)) = ((u / n : Nat) : Int) := by rw [Int.fdiv_eq_ediv_of_nonneg _ (by omega)]; rfl
    have hqs : u / n ≤ u := Nat.div_le_self _ _
    rw [hq]
    have em : (u : Int) - ((u / n : Nat) : Int) * (n : Int) = ((u % n : Nat) : Int) := by
      have := Nat.div_add_mod u n
      have e2 : ((n * (u / n) + u % n : Nat) : Int) = (u : Int) := by rw [this]
      rw [Int.natCast_add, Int.natCast_mul, Int.mul_comm] at e2
      omega
    have sm : ((u / n : Nat) : Int).natAbs < 2 ^ 64 := by rw [Int.natAbs_natCast]; exact Nat.lt_of_le_of_lt hqs (by omega)
    refine ⟨by simpa using hv0, mulOk_small sm, mulOk_small sm, by omega, ?_⟩
    rw [em]
    refine kN (u % n) _ _ (Nat.mod_lt _ (by omega)) ⟨rfl, n, u % n, t, _, _, rfl, rfl, ?_, hv, by have := Nat.mod_lt u (show 0 < n by omega); omega, h6, ?_⟩
    · rw [← g, Nat.gcd_comm u n, Nat.gcd_rec n u, Nat.gcd_comm]
    · rw [← em, Int.sub_mul, Int.sub_emod, h5, Int.mul_assoc, Int.mul_emod (((u / n : Nat) : Int)), h6, ← Int.mul_emod, ← Int.sub_emod]
theorem law_worth_of {X : Ctx} (hi : X.fn 26 = s_inverse) (hl : X.fn 25 = s_least) (ds : List D) (m : Mem) (Q : KD) (h : s_num ds m Q) : body X 3 c27 ds m Q := by
  obtain ⟨k, t, b, x, rfl, hq, q⟩ := h
  revert t b x Q
  refine sys_cases (P := fun S => ∀ (Q : KD) (t b : Int) (x : S.F), S.quo t b x → Q (S.d x) m → body X 3 c27 [.int S.by_, .int t, .int b] m Q) ?_ ?_ k
  · intro Q t b x hq q
    have h0 : ratS.by_ = 0 := rfl
    simp only [c27, h0, hl, body, exs, ex, ev, evs, evB, evO, evT, evI, startD, List.map_cons, List.map_nil, List.length_cons, List.length_nil, Nat.reduceAdd, Nat.reduceSub, List.replicate, List.cons_append, List.nil_append, List.append_nil, List.getElem?_cons_zero, List.getElem?_cons_succ, Option.some.injEq, exists_and_left, exists_eq_left', exists_eq_left, exists_eq, ix_tup, at0, at1, at2, op_add', op_sub', op_mul', op_fdiv', op_mod', op_pow', op_addT, cm_lt, cm_le, cm_gt, cm_ge, cm_eq, cm_ne, cm_eqS, cm_neS, onb, oni, yn_gd, yn_cls, Nat.reduceLT, if_true, if_false, true_and, and_true, List.set_cons_zero, List.set_cons_succ, set_nm, set_tup, set_nil, set_cons, ifb, b1_abs, b1_int, b1_intB, b1_lenT, b1_lenL, b1_tupL, b1_tupT, b2_min, b2_max, seq_tup, seq_lst, seq_sq, gd_sq, ix_sq, len_sq, new_t, new_f, gd_tup, gd_lst, ix_lst, ty_int, ty_tup, ty_str, isi_ii, isi_ib, isi_tt, isi_ss, reduceIte, Bool.true_eq_false, Bool.false_eq_true, Bool.not_true, Bool.not_false,  List.zip_cons_cons, List.zip_nil_right, List.foldl_cons, List.foldl_nil, ne_eq, not_false_eq_true, not_true_eq_false, Bool.not_eq_true', decide_eq_false_iff_not, decide_eq_true_eq, reduceCtorEq, List.cons.injEq, and_self, D.ref.injEq, Cell.obj.injEq, D.int.injEq]
    exact ⟨t, b, x, rfl, hq, m, SubO.refl, q⟩
  · intro p _ h Q t b x hq q
    have h0 : (zpS p h).by_ = (p : Int) := rfl
    have h2 := h.two
    simp only [c27, h0, hi, body, exs, ex, ev, evs, evB, evO, evT, evI, startD, List.map_cons, List.map_nil, List.length_cons, List.length_nil, Nat.reduceAdd, Nat.reduceSub, List.replicate, List.cons_append, List.nil_append, List.append_nil, List.getElem?_cons_zero, List.getElem?_cons_succ, Option.some.injEq, exists_and_left, exists_eq_left', exists_eq_left, exists_eq, ix_tup, at0, at1, at2, op_add', op_sub', op_mul', op_fdiv', op_mod', op_pow', op_addT, cm_lt, cm_le, cm_gt, cm_ge, cm_eq, cm_ne, cm_eqS, cm_neS, onb, oni, yn_gd, yn_cls, Nat.reduceLT, if_true, if_false, true_and, and_true, List.set_cons_zero, List.set_cons_succ, set_nm, set_tup, set_nil, set_cons, ifb, b1_abs, b1_int, b1_intB, b1_lenT, b1_lenL, b1_tupL, b1_tupT, b2_min, b2_max, seq_tup, seq_lst, seq_sq, gd_sq, ix_sq, len_sq, new_t, new_f, gd_tup, gd_lst, ix_lst, ty_int, ty_tup, ty_str, isi_ii, isi_ib, isi_tt, isi_ss, reduceIte, Bool.true_eq_false, Bool.false_eq_true, Bool.not_true, Bool.not_false,  List.zip_cons_cons, List.zip_nil_right, List.foldl_cons, List.foldl_nil, ne_eq, not_false_eq_true, not_true_eq_false, Bool.not_eq_true', decide_eq_false_iff_not, decide_eq_true_eq, reduceCtorEq, List.cons.injEq, and_self, D.ref.injEq, Cell.obj.injEq, D.int.injEq]
    rw [if_pos (by omega)]
    refine ⟨p, inferInstance, h, b, rfl, hq.1, fun f hf0 hf he => ?_⟩
    try simp only [body, exs, ex, ev, evs, evB, evO, evT, evI, startD, List.map_cons, List.map_nil, List.length_cons, List.length_nil, Nat.reduceAdd, Nat.reduceSub, List.replicate, List.cons_append, List.nil_append, List.append_nil, List.getElem?_cons_zero, List.getElem?_cons_succ, Option.some.injEq, exists_and_left, exists_eq_left', exists_eq_left, exists_eq, ix_tup, at0, at1, at2, op_add', op_sub', op_mul', op_fdiv', op_mod', op_pow', op_addT, cm_lt, cm_le, cm_gt, cm_ge, cm_eq, cm_ne, cm_eqS, cm_neS, onb, oni, yn_gd, yn_cls, Nat.reduceLT, if_true, if_false, true_and, and_true, List.set_cons_zero, List.set_cons_succ, set_nm, set_tup, set_nil, set_cons, ifb, b1_abs, b1_int, b1_intB, b1_lenT, b1_lenL, b1_tupL, b1_tupT, b2_min, b2_max, seq_tup, seq_lst, seq_sq, gd_sq, ix_sq, len_sq, new_t, new_f, gd_tup, gd_lst, ix_lst, ty_int, ty_tup, ty_str, isi_ii, isi_ib, isi_tt, isi_ss, reduceIte, Bool.true_eq_false, Bool.false_eq_true, Bool.not_true, Bool.not_false,  List.zip_cons_cons, List.zip_nil_right, List.foldl_cons, List.foldl_nil, ne_eq, not_false_eq_true, not_true_eq_false, Bool.not_eq_true', decide_eq_false_iff_not, decide_eq_true_eq, reduceCtorEq, List.cons.injEq, and_self, D.ref.injEq, Cell.obj.injEq, D.int.injEq]
    refine ⟨mulOk_smallR (by have := h.small; omega), by omega, by omega, m, SubO.refl, ?_⟩
    have e := zp_quo hq (f := f) (zp_one he)
    rw [fmod_p, ← e]
    exact q
theorem law_neg {X : Ctx} (hw : X.fn 27 = s_num) (ds : List D) (m : Mem) (Q : KD) (h : s_neg ds m Q) : body X 2 c30 ds m Q := by
  obtain ⟨k, x, rfl, q⟩ := h
  simp only [c30, Sys.d, hw, body, exs, ex, ev, evs, evB, evO, evT, evI, startD, List.map_cons, List.map_nil, List.length_cons, List.length_nil, Nat.reduceAdd, Nat.reduceSub, List.replicate, List.cons_append, List.nil_append, List.append_nil, List.getElem?_cons_zero, List.getElem?_cons_succ, Option.some.injEq, exists_and_left, exists_eq_left', exists_eq_left, exists_eq, ix_tup, at0, at1, at2, op_add', op_sub', op_mul', op_fdiv', op_mod', op_pow', op_addT, cm_lt, cm_le, cm_gt, cm_ge, cm_eq, cm_ne, cm_eqS, cm_neS, onb, oni, yn_gd, yn_cls, Nat.reduceLT, if_true, if_false, true_and, and_true, List.set_cons_zero, List.set_cons_succ, set_nm, set_tup, set_nil, set_cons, ifb, b1_abs, b1_int, b1_intB, b1_lenT, b1_lenL, b1_tupL, b1_tupT, b2_min, b2_max, seq_tup, seq_lst, seq_sq, gd_sq, ix_sq, len_sq, new_t, new_f, gd_tup, gd_lst, ix_lst, ty_int, ty_tup, ty_str, isi_ii, isi_ib, isi_tt, isi_ss, reduceIte, Bool.true_eq_false, Bool.false_eq_true, Bool.not_true, Bool.not_false,  List.zip_cons_cons, List.zip_nil_right, List.foldl_cons, List.foldl_nil, ne_eq, not_false_eq_true, not_true_eq_false, Bool.not_eq_true', decide_eq_false_iff_not, decide_eq_true_eq, reduceCtorEq, List.cons.injEq, and_self, D.ref.injEq, Cell.obj.injEq, D.int.injEq]
  exact ⟨k, _, _, _, rfl, quo_neg x, m, SubO.refl, q⟩
theorem law_turned {X : Ctx} (hw : X.fn 27 = s_num) (ds : List D) (m : Mem) (Q : KD) (h : s_turned ds m Q) : body X 2 c29 ds m Q := by
  obtain ⟨k, x, rfl, hx, q⟩ := h
  simp only [c29, Sys.d, hw, body, exs, ex, ev, evs, evB, evO, evT, evI, startD, List.map_cons, List.map_nil, List.length_cons, List.length_nil, Nat.reduceAdd, Nat.reduceSub, List.replicate, List.cons_append, List.nil_append, List.append_nil, List.getElem?_cons_zero, List.getElem?_cons_succ, Option.some.injEq, exists_and_left, exists_eq_left', exists_eq_left, exists_eq, ix_tup, at0, at1, at2, op_add', op_sub', op_mul', op_fdiv', op_mod', op_pow', op_addT, cm_lt, cm_le, cm_gt, cm_ge, cm_eq, cm_ne, cm_eqS, cm_neS, onb, oni, yn_gd, yn_cls, Nat.reduceLT, if_true, if_false, true_and, and_true, List.set_cons_zero, List.set_cons_succ, set_nm, set_tup, set_nil, set_cons, ifb, b1_abs, b1_int, b1_intB, b1_lenT, b1_lenL, b1_tupL, b1_tupT, b2_min, b2_max, seq_tup, seq_lst, seq_sq, gd_sq, ix_sq, len_sq, new_t, new_f, gd_tup, gd_lst, ix_lst, ty_int, ty_tup, ty_str, isi_ii, isi_ib, isi_tt, isi_ss, reduceIte, Bool.true_eq_false, Bool.false_eq_true, Bool.not_true, Bool.not_false,  List.zip_cons_cons, List.zip_nil_right, List.foldl_cons, List.foldl_nil, ne_eq, not_false_eq_true, not_true_eq_false, Bool.not_eq_true', decide_eq_false_iff_not, decide_eq_true_eq, reduceCtorEq, List.cons.injEq, and_self, D.ref.injEq, Cell.obj.injEq, D.int.injEq]
  exact ⟨k, _, _, _, rfl, quo_inv hx, m, SubO.refl, q⟩
theorem law_plus {X : Ctx} (hw : X.fn 27 = s_num) (ds : List D) (m : Mem) (Q : KD) (h : s_num_add ds m Q) : body X 3 c31 ds m Q := by
  obtain ⟨k, x, y, rfl, hh, q⟩ := h
  revert x y Q
  refine sys_cases (P := fun S => ∀ (Q : KD) (x y : S.F), S.ht x + S.ht y ≤ 2 ^ 27 → (∀ t b (x : S.F), S.quo t b x → ∀ Q m, Q (S.d x) m → s_num [.int S.by_, .int t, .int b] m Q) → Q (S.d (x + y)) m → body X 3 c31 [.int S.by_, S.d x, S.d y] m Q) ?_ ?_ k |> fun F Q x y hh q => F Q x y hh (fun t b x hq Q m q => ⟨k, t, b, x, rfl, hq, q⟩) q
  · intro Q x y hh sn q
    obtain ⟨h1, h2, h3, h4⟩ := muls hh
    have h0 : ratS.by_ = 0 := rfl
    rw [h0] at sn ⊢
    simp only [c31, Sys.d, hw, body, exs, ex, ev, evs, evB, evO, evT, evI, startD, List.map_cons, List.map_nil, List.length_cons, List.length_nil, Nat.reduceAdd, Nat.reduceSub, List.replicate, List.cons_append, List.nil_append, List.append_nil, List.getElem?_cons_zero, List.getElem?_cons_succ, Option.some.injEq, exists_and_left, exists_eq_left', exists_eq_left, exists_eq, ix_tup, at0, at1, at2, op_add', op_sub', op_mul', op_fdiv', op_mod', op_pow', op_addT, cm_lt, cm_le, cm_gt, cm_ge, cm_eq, cm_ne, cm_eqS, cm_neS, onb, oni, yn_gd, yn_cls, Nat.reduceLT, if_true, if_false, true_and, and_true, List.set_cons_zero, List.set_cons_succ, set_nm, set_tup, set_nil, set_cons, ifb, b1_abs, b1_int, b1_intB, b1_lenT, b1_lenL, b1_tupL, b1_tupT, b2_min, b2_max, seq_tup, seq_lst, seq_sq, gd_sq, ix_sq, len_sq, new_t, new_f, gd_tup, gd_lst, ix_lst, ty_int, ty_tup, ty_str, isi_ii, isi_ib, isi_tt, isi_ss, reduceIte, Bool.true_eq_false, Bool.false_eq_true, Bool.not_true, Bool.not_false,  List.zip_cons_cons, List.zip_nil_right, List.foldl_cons, List.foldl_nil, ne_eq, not_false_eq_true, not_true_eq_false, Bool.not_eq_true', decide_eq_false_iff_not, decide_eq_true_eq, reduceCtorEq, List.cons.injEq, and_self, D.ref.injEq, Cell.obj.injEq, D.int.injEq]
    exact ⟨h2, h3, h4, sn _ _ _ (quo_add x y) _ _ ⟨m, SubO.refl, q⟩⟩
  · intro p _ h Q x y hh sn q
    have h0 : (zpS p h).by_ = (p : Int) := rfl
    have h2 := h.two
    rw [h0]
    simp only [c31, Sys.d, body, exs, ex, ev, evs, evB, evO, evT, evI, startD, List.map_cons, List.map_nil, List.length_cons, List.length_nil, Nat.reduceAdd, Nat.reduceSub, List.replicate, List.cons_append, List.nil_append, List.append_nil, List.getElem?_cons_zero, List.getElem?_cons_succ, Option.some.injEq, exists_and_left, exists_eq_left', exists_eq_left, exists_eq, ix_tup, at0, at1, at2, op_add', op_sub', op_mul', op_fdiv', op_mod', op_pow', op_addT, cm_lt, cm_le, cm_gt, cm_ge, cm_eq, cm_ne, cm_eqS, cm_neS, onb, oni, yn_gd, yn_cls, Nat.reduceLT, if_true, if_false, true_and, and_true, List.set_cons_zero, List.set_cons_succ, set_nm, set_tup, set_nil, set_cons, ifb, b1_abs, b1_int, b1_intB, b1_lenT, b1_lenL, b1_tupL, b1_tupT, b2_min, b2_max, seq_tup, seq_lst, seq_sq, gd_sq, ix_sq, len_sq, new_t, new_f, gd_tup, gd_lst, ix_lst, ty_int, ty_tup, ty_str, isi_ii, isi_ib, isi_tt, isi_ss, reduceIte, Bool.true_eq_false, Bool.false_eq_true, Bool.not_true, Bool.not_false,  List.zip_cons_cons, List.zip_nil_right, List.foldl_cons, List.foldl_nil, ne_eq, not_false_eq_true, not_true_eq_false, Bool.not_eq_true', decide_eq_false_iff_not, decide_eq_true_eq, reduceCtorEq, List.cons.injEq, and_self, D.ref.injEq, Cell.obj.injEq, D.int.injEq]
    rw [if_pos (by omega)]
    refine ⟨by omega, by omega, m, SubO.refl, ?_⟩
    rw [fmod_p, ← zp_add]
    exact q
theorem law_times {X : Ctx} (hw : X.fn 27 = s_num) (ds : List D) (m : Mem) (Q : KD) (h : s_num_times ds m Q) : body X 3 c28 ds m Q := by
  obtain ⟨k, x, y, rfl, hh, q⟩ := h
  revert x y Q
  refine sys_cases (P := fun S => ∀ (Q : KD) (x y : S.F), S.ht x + S.ht y ≤ 2 ^ 27 → (∀ t b (x : S.F), S.quo t b x → ∀ Q m, Q (S.d x) m → s_num [.int S.by_, .int t, .int b] m Q) → Q (S.d (x * y)) m → body X 3 c28 [.int S.by_, S.d x, S.d y] m Q) ?_ ?_ k |> fun F Q x y hh q => F Q x y hh (fun t b x hq Q m q => ⟨k, t, b, x, rfl, hq, q⟩) q
  · intro Q x y hh sn q
    obtain ⟨h1, h2, h3, h4⟩ := muls hh
    have h0 : ratS.by_ = 0 := rfl
    rw [h0] at sn ⊢
    simp only [c28, Sys.d, hw, body, exs, ex, ev, evs, evB, evO, evT, evI, startD, List.map_cons, List.map_nil, List.length_cons, List.length_nil, Nat.reduceAdd, Nat.reduceSub, List.replicate, List.cons_append, List.nil_append, List.append_nil, List.getElem?_cons_zero, List.getElem?_cons_succ, Option.some.injEq, exists_and_left, exists_eq_left', exists_eq_left, exists_eq, ix_tup, at0, at1, at2, op_add', op_sub', op_mul', op_fdiv', op_mod', op_pow', op_addT, cm_lt, cm_le, cm_gt, cm_ge, cm_eq, cm_ne, cm_eqS, cm_neS, onb, oni, yn_gd, yn_cls, Nat.reduceLT, if_true, if_false, true_and, and_true, List.set_cons_zero, List.set_cons_succ, set_nm, set_tup, set_nil, set_cons, ifb, b1_abs, b1_int, b1_intB, b1_lenT, b1_lenL, b1_tupL, b1_tupT, b2_min, b2_max, seq_tup, seq_lst, seq_sq, gd_sq, ix_sq, len_sq, new_t, new_f, gd_tup, gd_lst, ix_lst, ty_int, ty_tup, ty_str, isi_ii, isi_ib, isi_tt, isi_ss, reduceIte, Bool.true_eq_false, Bool.false_eq_true, Bool.not_true, Bool.not_false,  List.zip_cons_cons, List.zip_nil_right, List.foldl_cons, List.foldl_nil, ne_eq, not_false_eq_true, not_true_eq_false, Bool.not_eq_true', decide_eq_false_iff_not, decide_eq_true_eq, reduceCtorEq, List.cons.injEq, and_self, D.ref.injEq, Cell.obj.injEq, D.int.injEq]
    exact ⟨h1, h4, sn _ _ _ (quo_mul x y) _ _ ⟨m, SubO.refl, q⟩⟩
  · intro p _ h Q x y hh sn q
    have h0 : (zpS p h).by_ = (p : Int) := rfl
    have h2 := h.two
    obtain ⟨h1, _⟩ := muls hh
    rw [h0]
    simp only [c28, Sys.d, body, exs, ex, ev, evs, evB, evO, evT, evI, startD, List.map_cons, List.map_nil, List.length_cons, List.length_nil, Nat.reduceAdd, Nat.reduceSub, List.replicate, List.cons_append, List.nil_append, List.append_nil, List.getElem?_cons_zero, List.getElem?_cons_succ, Option.some.injEq, exists_and_left, exists_eq_left', exists_eq_left, exists_eq, ix_tup, at0, at1, at2, op_add', op_sub', op_mul', op_fdiv', op_mod', op_pow', op_addT, cm_lt, cm_le, cm_gt, cm_ge, cm_eq, cm_ne, cm_eqS, cm_neS, onb, oni, yn_gd, yn_cls, Nat.reduceLT, if_true, if_false, true_and, and_true, List.set_cons_zero, List.set_cons_succ, set_nm, set_tup, set_nil, set_cons, ifb, b1_abs, b1_int, b1_intB, b1_lenT, b1_lenL, b1_tupL, b1_tupT, b2_min, b2_max, seq_tup, seq_lst, seq_sq, gd_sq, ix_sq, len_sq, new_t, new_f, gd_tup, gd_lst, ix_lst, ty_int, ty_tup, ty_str, isi_ii, isi_ib, isi_tt, isi_ss, reduceIte, Bool.true_eq_false, Bool.false_eq_true, Bool.not_true, Bool.not_false,  List.zip_cons_cons, List.zip_nil_right, List.foldl_cons, List.foldl_nil, ne_eq, not_false_eq_true, not_true_eq_false, Bool.not_eq_true', decide_eq_false_iff_not, decide_eq_true_eq, reduceCtorEq, List.cons.injEq, and_self, D.ref.injEq, Cell.obj.injEq, D.int.injEq]
    rw [if_pos (by omega)]
    refine ⟨h1, by omega, by omega, m, SubO.refl, ?_⟩
    rw [fmod_p, ← zp_mul]
    exact q
theorem law_is_worth {X : Ctx} (ht : X.fn 19 = s_is_tuple) (hw : X.fn 17 = s_is_whole) (hc : X.fn 20 = s_common) (hg : X.gd = gd) (ds : List D) (m : Mem) (Q : KD) (h : s_is_worth ds m Q) : body X 2 c21 ds m Q := by
  obtain ⟨k, x, rfl, q⟩ := h
  have dp := den_pos k x
  simp only [c21, Sys.d, ht, hw, hc, hg, gd, body, exs, ex, ev, evs, evB, evO, evT, evI, startD, List.map_cons, List.map_nil, List.length_cons, List.length_nil, Nat.reduceAdd, Nat.reduceSub, List.replicate, List.cons_append, List.nil_append, List.append_nil, List.getElem?_cons_zero, List.getElem?_cons_succ, Option.some.injEq, exists_and_left, exists_eq_left', exists_eq_left, exists_eq, ix_tup, at0, at1, at2, op_add', op_sub', op_mul', op_fdiv', op_mod', op_pow', op_addT, cm_lt, cm_le, cm_gt, cm_ge, cm_eq, cm_ne, cm_eqS, cm_neS, onb, oni, yn_gd, yn_cls, Nat.reduceLT, if_true, if_false, true_and, and_true, List.set_cons_zero, List.set_cons_succ, set_nm, set_tup, set_nil, set_cons, ifb, b1_abs, b1_int, b1_intB, b1_lenT, b1_lenL, b1_tupL, b1_tupT, b2_min, b2_max, seq_tup, seq_lst, seq_sq, gd_sq, ix_sq, len_sq, new_t, new_f, gd_tup, gd_lst, ix_lst, ty_int, ty_tup, ty_str, isi_ii, isi_ib, isi_tt, isi_ss, reduceIte, Bool.true_eq_false, Bool.false_eq_true, Bool.not_true, Bool.not_false,  List.zip_cons_cons, List.zip_nil_right, List.foldl_cons, List.foldl_nil, ne_eq, not_false_eq_true, not_true_eq_false, Bool.not_eq_true', decide_eq_false_iff_not, decide_eq_true_eq, reduceCtorEq, List.cons.injEq, and_self, D.ref.injEq, Cell.obj.injEq, D.int.injEq]
  refine ⟨_, _, _, rfl, by simp, by simp, ?_⟩
  try simp only [body, exs, ex, ev, evs, evB, evO, evT, evI, startD, List.map_cons, List.map_nil, List.length_cons, List.length_nil, Nat.reduceAdd, Nat.reduceSub, List.replicate, List.cons_append, List.nil_append, List.append_nil, List.getElem?_cons_zero, List.getElem?_cons_succ, Option.some.injEq, exists_and_left, exists_eq_left', exists_eq_left, exists_eq, ix_tup, at0, at1, at2, op_add', op_sub', op_mul', op_fdiv', op_mod', op_pow', op_addT, cm_lt, cm_le, cm_gt, cm_ge, cm_eq, cm_ne, cm_eqS, cm_neS, onb, oni, yn_gd, yn_cls, Nat.reduceLT, if_true, if_false, true_and, and_true, List.set_cons_zero, List.set_cons_succ, set_nm, set_tup, set_nil, set_cons, ifb, b1_abs, b1_int, b1_intB, b1_lenT, b1_lenL, b1_tupL, b1_tupT, b2_min, b2_max, seq_tup, seq_lst, seq_sq, gd_sq, ix_sq, len_sq, new_t, new_f, gd_tup, gd_lst, ix_lst, ty_int, ty_tup, ty_str, isi_ii, isi_ib, isi_tt, isi_ss, reduceIte, Bool.true_eq_false, Bool.false_eq_true, Bool.not_true, Bool.not_false,  List.zip_cons_cons, List.zip_nil_right, List.foldl_cons, List.foldl_nil, ne_eq, not_false_eq_true, not_true_eq_false, Bool.not_eq_true', decide_eq_false_iff_not, decide_eq_true_eq, reduceCtorEq, List.cons.injEq, and_self, D.ref.injEq, Cell.obj.injEq, D.int.injEq]
  refine ⟨_, rfl, ?_⟩
  try simp only [body, exs, ex, ev, evs, evB, evO, evT, evI, startD, List.map_cons, List.map_nil, List.length_cons, List.length_nil, Nat.reduceAdd, Nat.reduceSub, List.replicate, List.cons_append, List.nil_append, List.append_nil, List.getElem?_cons_zero, List.getElem?_cons_succ, Option.some.injEq, exists_and_left, exists_eq_left', exists_eq_left, exists_eq, ix_tup, at0, at1, at2, op_add', op_sub', op_mul', op_fdiv', op_mod', op_pow', op_addT, cm_lt, cm_le, cm_gt, cm_ge, cm_eq, cm_ne, cm_eqS, cm_neS, onb, oni, yn_gd, yn_cls, Nat.reduceLT, if_true, if_false, true_and, and_true, List.set_cons_zero, List.set_cons_succ, set_nm, set_tup, set_nil, set_cons, ifb, b1_abs, b1_int, b1_intB, b1_lenT, b1_lenL, b1_tupL, b1_tupT, b2_min, b2_max, seq_tup, seq_lst, seq_sq, gd_sq, ix_sq, len_sq, new_t, new_f, gd_tup, gd_lst, ix_lst, ty_int, ty_tup, ty_str, isi_ii, isi_ib, isi_tt, isi_ss, reduceIte, Bool.true_eq_false, Bool.false_eq_true, Bool.not_true, Bool.not_false,  List.zip_cons_cons, List.zip_nil_right, List.foldl_cons, List.foldl_nil, ne_eq, not_false_eq_true, not_true_eq_false, Bool.not_eq_true', decide_eq_false_iff_not, decide_eq_true_eq, reduceCtorEq, List.cons.injEq, and_self, D.ref.injEq, Cell.obj.injEq, D.int.injEq]
  refine ⟨_, rfl, ?_⟩
  try simp only [body, exs, ex, ev, evs, evB, evO, evT, evI, startD, List.map_cons, List.map_nil, List.length_cons, List.length_nil, Nat.reduceAdd, Nat.reduceSub, List.replicate, List.cons_append, List.nil_append, List.append_nil, List.getElem?_cons_zero, List.getElem?_cons_succ, Option.some.injEq, exists_and_left, exists_eq_left', exists_eq_left, exists_eq, ix_tup, at0, at1, at2, op_add', op_sub', op_mul', op_fdiv', op_mod', op_pow', op_addT, cm_lt, cm_le, cm_gt, cm_ge, cm_eq, cm_ne, cm_eqS, cm_neS, onb, oni, yn_gd, yn_cls, Nat.reduceLT, if_true, if_false, true_and, and_true, List.set_cons_zero, List.set_cons_succ, set_nm, set_tup, set_nil, set_cons, ifb, b1_abs, b1_int, b1_intB, b1_lenT, b1_lenL, b1_tupL, b1_tupT, b2_min, b2_max, seq_tup, seq_lst, seq_sq, gd_sq, ix_sq, len_sq, new_t, new_f, gd_tup, gd_lst, ix_lst, ty_int, ty_tup, ty_str, isi_ii, isi_ib, isi_tt, isi_ss, reduceIte, Bool.true_eq_false, Bool.false_eq_true, Bool.not_true, Bool.not_false,  List.zip_cons_cons, List.zip_nil_right, List.foldl_cons, List.foldl_nil, ne_eq, not_false_eq_true, not_true_eq_false, Bool.not_eq_true', decide_eq_false_iff_not, decide_eq_true_eq, reduceCtorEq, List.cons.injEq, and_self, D.ref.injEq, Cell.obj.injEq, D.int.injEq]
  rw [if_neg (by omega)]
  revert x Q
  refine sys_cases (P := fun S => ∀ (Q : KD) (x : S.F), Q (.bl true) m → 1 ≤ S.den x →
        if S.by_ = 0 then s_common [D.int (S.num x), D.int (S.den x)] m fun x m1 => cmpD COp.eq x (D.int 1) m1 fun d m1 => ∃ m2, SubO m2 m1 ∧ Q d m2
        else if S.den x = 1 then if 0 ≤ S.num x then ∃ m2, SubO m2 m ∧ Q (D.bl (decide (S.num x < S.by_))) m2 else ∃ m2, SubO m2 m ∧ Q (D.bl false) m2
          else ∃ m2, SubO m2 m ∧ Q (D.bl false) m2) ?_ ?_ k
  · intro Q x q dp
    have h0 : ratS.by_ = 0 := rfl
    rw [if_pos h0]
    refine ⟨_, _, rfl, m, SubO.refl, ?_⟩
    have e : Int.gcd (ratS.num x) (ratS.den x) = 1 := rat_coprime x
    rw [e]
    exact q
  · intro p _ h Q x q dp
    have h2 := h.two
    have h0 : (zpS p h).by_ = (p : Int) := rfl
    obtain ⟨r1, r2⟩ := zp_range x
    rw [h0, if_neg (by omega)]
    have e1 : (zpS p h).den x = 1 := rfl
    rw [if_pos e1, if_pos r1, decide_eq_true r2]
    exact ⟨m, SubO.refl, q⟩
end Og.Lk44
end
section
set_option maxHeartbeats 4000000
set_option autoImplicit false
/-! Og: rows of numbers. -/
namespace Og
open PySem
def Sys.row (S : Sys) (w : Nat) (v : Nat → S.F) : D := .tup ((List.range w).map fun i => S.d (v i))
def Sys.mat (S : Sys) (n w : Nat) (M : Nat → Nat → S.F) : D := .tup ((List.range n).map fun i => S.row w (M i))
def Sys.Sm (S : Sys) (x : S.F) : Prop := S.ht x ≤ 2 ^ 26
def sm {S : Sys} : Nat → (Nat → S.F) → S.F
  | 0, _ => 0
  | n + 1, f => sm n f + f n
section
variable {S : Sys} {w n : Nat} {v u : Nat → S.F}
theorem row_congr (h : ∀ i, i < w → v i = u i) : S.row w v = S.row w u := by
  unfold Sys.row
  congr 1
  exact List.map_congr_left fun i hi => by rw [h i (List.mem_range.mp hi)]
theorem sm_congr : ∀ {n : Nat} {v u : Nat → S.F}, (∀ i, i < n → v i = u i) → sm n v = sm n u
  | 0, _, _, _ => rfl
  | n + 1, v, u, h => by
    simp only [sm]
    rw [sm_congr fun i hi => h i (by omega), h n (by omega)]
theorem row_get {m : Mem} {Q : KD} {i : Nat} (h : i < w) : ixD m (S.row w v) (.int (i : Nat)) Q = Q (S.d (v i)) m := by
  have e := ix_tup (m := m) (Q := Q) (a := (i : Int)) (ds := (List.range w).map fun i => S.d (v i))
  rw [show S.row w v = .tup ((List.range w).map fun i => S.d (v i)) from rfl]
  refine e.trans ?_
  rw [atI_nat, List.getElem?_map, List.getElem?_range h]
  simp
theorem mat_get {m : Mem} {Q : KD} {M : Nat → Nat → S.F} {i : Nat} (h : i < n) : ixD m (S.mat n w M) (.int (i : Nat)) Q = Q (S.row w (M i)) m := by
  have e := ix_tup (m := m) (Q := Q) (a := (i : Int)) (ds := (List.range n).map fun i => S.row w (M i))
  rw [show S.mat n w M = .tup ((List.range n).map fun i => S.row w (M i)) from rfl]
  refine e.trans ?_
  rw [atI_nat, List.getElem?_map, List.getElem?_range h]
  simp
theorem mat_get0 {m : Mem} {Q : KD} {M : Nat → Nat → S.F} (h : 1 ≤ n) : ixD m (S.mat n w M) (.int 0) Q = Q (S.row w (M 0)) m := mat_get (i := 0) h
theorem row_len {m : Mem} {Q : KD} : b1D .len (S.row w v) m Q = Q (.int (w : Nat)) m := by
  rw [show S.row w v = .tup ((List.range w).map fun i => S.d (v i)) from rfl, b1_lenT]
  simp
theorem mat_len {m : Mem} {Q : KD} {M : Nat → Nat → S.F} : b1D .len (S.mat n w M) m Q = Q (.int (n : Nat)) m := by
  rw [show S.mat n w M = .tup ((List.range n).map fun i => S.row w (M i)) from rfl, b1_lenT]
  simp
theorem d_num {m : Mem} {Q : KD} {x : S.F} : ixD m (S.d x) (.int 0) Q = Q (.int (S.num x)) m := by
  have e := ix_tup (m := m) (Q := Q) (a := 0) (ds := [.int (S.num x), .int (S.den x)])
  rw [show S.d x = .tup [.int (S.num x), .int (S.den x)] from rfl]
  refine e.trans ?_
  rw [at0]; simp
theorem Sm.two {x y : S.F} (h : S.Sm x) (h' : S.Sm y) : S.ht x + S.ht y ≤ 2 ^ 27 := by
  unfold Sys.Sm at h h'
  omega
theorem seq_row {m : Mem} : seqOf m (S.row w v) = some ((List.range w).map fun i => S.d (v i)) := rfl
theorem seq_mat {m : Mem} {M : Nat → Nat → S.F} : seqOf m (S.mat n w M) = some ((List.range n).map fun i => S.row w (M i)) := rfl
theorem gd_row {m : Mem} : guard m (S.row w v) = fun _ => True := rfl
theorem gd_mat {m : Mem} {M : Nat → Nat → S.F} : guard m (S.mat n w M) = fun _ => True := rfl
theorem d0 : S.d (0 : S.F) = .tup [.int 0, .int 1] := by
  unfold Sys.d; rw [S.num0, S.den0]
theorem d1 : S.d (1 : S.F) = .tup [.int 1, .int 1] := by
  unfold Sys.d; rw [S.num1, S.den1]
theorem tup_row {m : Mem} {Q : KD} : b1D .tuple (.lst ((List.range w).map fun i => S.d (v i))) m Q = Q (S.row w v) m := b1_tupL
end
theorem at_range {g : Nat → D} {n i : Nat} (h : i < n) : L2.atI ((List.range n).map g) (i : Int) = some (g i) := by
  rw [atI_nat, List.getElem?_map, List.getElem?_range h]; rfl
theorem at_range0 {g : Nat → D} {n : Nat} (h : 1 ≤ n) : L2.atI ((List.range n).map g) 0 = some (g 0) := at_range (i := 0) h
theorem rgD_nat {w : Nat} : rgD 0 (w : Int) = (List.range w).map fun i => D.int ((i : Nat) : Int) := by
  unfold rgD
  rw [show ((w : Int) - 0).toNat = w from by omega]
  exact List.map_congr_left fun i _ => by rw [Int.zero_add]
theorem wf_lst {m : Mem} {p : PySem.Addr} {l : List D} (w : WfM m) (h : m p = none) : WfM (put m p (.lst l)) := wf_put w h fun _ _ _ z => (nomatch z)
theorem subo_lst {m : Mem} {p : PySem.Addr} {c : Cell} (w : WfM m) (h : m p = none) : SubO m (put m p c) := SubO.fresh w h
end Og
end
section
set_option maxHeartbeats 4000000
set_option autoImplicit false
namespace Og.Lk44
open PySem Og
def s_row_plus : Spec := fun ds m Q => ∃ (k : Ks) (w : Nat) (v o : Nat → (sys k).F) (f : (sys k).F), ds = [.int (sys k).by_, (sys k).row w v, (sys k).d f, (sys k).row w o] ∧ (sys k).Sm f ∧ (∀ i, i < w → (sys k).Sm (v i) ∧ (sys k).Sm (o i) ∧ (sys k).Sm (f * o i)) ∧ Q ((sys k).row w fun i => v i + f * o i) m
theorem law_row_plus {X : Ctx} (hp : X.fn 31 = s_num_add) (ht : X.fn 28 = s_num_times) (ds : List D) (m : Mem) (Q : KD) (h : s_row_plus ds m Q) : body X 6 c32 ds m Q := by
  obtain ⟨k, w, v, o, f, rfl, hf, hs, q⟩ := h
  simp only [c32, hp, ht, d_num, seq_row, gd_row, body, exs, ex, ev, evs, evB, evO, evT, evI, startD, List.map_cons, List.map_nil, List.length_cons, List.length_nil, Nat.reduceAdd, Nat.reduceSub, List.replicate, List.cons_append, List.nil_append, List.append_nil, List.getElem?_cons_zero, List.getElem?_cons_succ, Option.some.injEq, exists_and_left, exists_eq_left', exists_eq_left, exists_eq, ix_tup, at0, at1, at2, op_add', op_sub', op_mul', op_fdiv', op_mod', op_pow', op_addT, cm_lt, cm_le, cm_gt, cm_ge, cm_eq, cm_ne, cm_eqS, cm_neS, onb, oni, yn_gd, yn_cls, Nat.reduceLT, if_true, if_false, true_and, and_true, List.set_cons_zero, List.set_cons_succ, set_nm, set_tup, set_nil, set_cons, ifb, b1_abs, b1_int, b1_intB, b1_lenT, b1_lenL, b1_tupL, b1_tupT, b2_min, b2_max, seq_tup, seq_lst, seq_sq, gd_sq, ix_sq, len_sq, new_t, new_f, gd_tup, gd_lst, ix_lst, ty_int, ty_tup, ty_str, isi_ii, isi_ib, isi_tt, isi_ss, reduceIte, Bool.true_eq_false, Bool.false_eq_true, Bool.not_true, Bool.not_false,  List.zip_cons_cons, List.zip_nil_right, List.foldl_cons, List.foldl_nil, ne_eq, not_false_eq_true, not_true_eq_false, Bool.not_eq_true', decide_eq_false_iff_not, decide_eq_true_eq, reduceCtorEq, List.cons.injEq, and_self, D.ref.injEq, Cell.obj.injEq, D.int.injEq]
  by_cases h0 : (sys k).num f = 0
  · rw [if_pos h0]
    have f0 := num_zero.mp h0
    subst f0
    refine ⟨m, SubO.refl, ?_⟩
    rw [row_congr (u := v) (fun i _ => by grind)] at q
    exact q
  · rw [if_neg h0, zip_map]
    refine lc_pure (List.range w) (fun i => .tup [(sys k).d (v i), (sys k).d (o i)]) (fun i => (sys k).d (v i + f * o i)) (fun _ _ _ => trivial) ?_ ?_
    · intro i hi p c K hp hK
      obtain ⟨s1, s2, s3⟩ := hs i (List.mem_range.mp hi)
      try simp only [wipeD, body, exs, ex, ev, evs, evB, evO, evT, evI, startD, List.map_cons, List.map_nil, List.length_cons, List.length_nil, Nat.reduceAdd, Nat.reduceSub, List.replicate, List.cons_append, List.nil_append, List.append_nil, List.getElem?_cons_zero, List.getElem?_cons_succ, Option.some.injEq, exists_and_left, exists_eq_left', exists_eq_left, exists_eq, ix_tup, at0, at1, at2, op_add', op_sub', op_mul', op_fdiv', op_mod', op_pow', op_addT, cm_lt, cm_le, cm_gt, cm_ge, cm_eq, cm_ne, cm_eqS, cm_neS, onb, oni, yn_gd, yn_cls, Nat.reduceLT, if_true, if_false, true_and, and_true, List.set_cons_zero, List.set_cons_succ, set_nm, set_tup, set_nil, set_cons, ifb, b1_abs, b1_int, b1_intB, b1_lenT, b1_lenL, b1_tupL, b1_tupT, b2_min, b2_max, seq_tup, seq_lst, seq_sq, gd_sq, ix_sq, len_sq, new_t, new_f, gd_tup, gd_lst, ix_lst, ty_int, ty_tup, ty_str, isi_ii, isi_ib, isi_tt, isi_ss, reduceIte, Bool.true_eq_false, Bool.false_eq_true, Bool.not_true, Bool.not_false,  List.zip_cons_cons, List.zip_nil_right, List.foldl_cons, List.foldl_nil, ne_eq, not_false_eq_true, not_true_eq_false, Bool.not_eq_true', decide_eq_false_iff_not, decide_eq_true_eq, reduceCtorEq, List.cons.injEq, and_self, D.ref.injEq, Cell.obj.injEq, D.int.injEq]
      refine ⟨k, f, o i, rfl, Sm.two hf s2, ?_⟩
      try simp only [body, exs, ex, ev, evs, evB, evO, evT, evI, startD, List.map_cons, List.map_nil, List.length_cons, List.length_nil, Nat.reduceAdd, Nat.reduceSub, List.replicate, List.cons_append, List.nil_append, List.append_nil, List.getElem?_cons_zero, List.getElem?_cons_succ, Option.some.injEq, exists_and_left, exists_eq_left', exists_eq_left, exists_eq, ix_tup, at0, at1, at2, op_add', op_sub', op_mul', op_fdiv', op_mod', op_pow', op_addT, cm_lt, cm_le, cm_gt, cm_ge, cm_eq, cm_ne, cm_eqS, cm_neS, onb, oni, yn_gd, yn_cls, Nat.reduceLT, if_true, if_false, true_and, and_true, List.set_cons_zero, List.set_cons_succ, set_nm, set_tup, set_nil, set_cons, ifb, b1_abs, b1_int, b1_intB, b1_lenT, b1_lenL, b1_tupL, b1_tupT, b2_min, b2_max, seq_tup, seq_lst, seq_sq, gd_sq, ix_sq, len_sq, new_t, new_f, gd_tup, gd_lst, ix_lst, ty_int, ty_tup, ty_str, isi_ii, isi_ib, isi_tt, isi_ss, reduceIte, Bool.true_eq_false, Bool.false_eq_true, Bool.not_true, Bool.not_false,  List.zip_cons_cons, List.zip_nil_right, List.foldl_cons, List.foldl_nil, ne_eq, not_false_eq_true, not_true_eq_false, Bool.not_eq_true', decide_eq_false_iff_not, decide_eq_true_eq, reduceCtorEq, List.cons.injEq, and_self, D.ref.injEq, Cell.obj.injEq, D.int.injEq]
      exact ⟨k, v i, f * o i, rfl, Sm.two s1 s3, hK⟩
    · try simp only [body, exs, ex, ev, evs, evB, evO, evT, evI, startD, List.map_cons, List.map_nil, List.length_cons, List.length_nil, Nat.reduceAdd, Nat.reduceSub, List.replicate, List.cons_append, List.nil_append, List.append_nil, List.getElem?_cons_zero, List.getElem?_cons_succ, Option.some.injEq, exists_and_left, exists_eq_left', exists_eq_left, exists_eq, ix_tup, at0, at1, at2, op_add', op_sub', op_mul', op_fdiv', op_mod', op_pow', op_addT, cm_lt, cm_le, cm_gt, cm_ge, cm_eq, cm_ne, cm_eqS, cm_neS, onb, oni, yn_gd, yn_cls, Nat.reduceLT, if_true, if_false, true_and, and_true, List.set_cons_zero, List.set_cons_succ, set_nm, set_tup, set_nil, set_cons, ifb, b1_abs, b1_int, b1_intB, b1_lenT, b1_lenL, b1_tupL, b1_tupT, b2_min, b2_max, seq_tup, seq_lst, seq_sq, gd_sq, ix_sq, len_sq, new_t, new_f, gd_tup, gd_lst, ix_lst, ty_int, ty_tup, ty_str, isi_ii, isi_ib, isi_tt, isi_ss, reduceIte, Bool.true_eq_false, Bool.false_eq_true, Bool.not_true, Bool.not_false,  List.zip_cons_cons, List.zip_nil_right, List.foldl_cons, List.foldl_nil, ne_eq, not_false_eq_true, not_true_eq_false, Bool.not_eq_true', decide_eq_false_iff_not, decide_eq_true_eq, reduceCtorEq, List.cons.injEq, and_self, D.ref.injEq, Cell.obj.injEq, D.int.injEq]
      exact ⟨m, SubO.refl, q⟩
def s_row_times : Spec := fun ds m Q => ∃ (k : Ks) (w : Nat) (v : Nat → (sys k).F) (f : (sys k).F), ds = [.int (sys k).by_, (sys k).d f, (sys k).row w v] ∧ (sys k).Sm f ∧ (∀ i, i < w → (sys k).Sm (v i)) ∧ Q ((sys k).row w fun i => f * v i) m
theorem law_row_times {X : Ctx} (ht : X.fn 28 = s_num_times) (ds : List D) (m : Mem) (Q : KD) (h : s_row_times ds m Q) : body X 4 c37 ds m Q := by
  obtain ⟨k, w, v, f, rfl, hf, hs, q⟩ := h
  simp only [c37, ht, seq_row, gd_row, body, exs, ex, ev, evs, evB, evO, evT, evI, startD, List.map_cons, List.map_nil, List.length_cons, List.length_nil, Nat.reduceAdd, Nat.reduceSub, List.replicate, List.cons_append, List.nil_append, List.append_nil, List.getElem?_cons_zero, List.getElem?_cons_succ, Option.some.injEq, exists_and_left, exists_eq_left', exists_eq_left, exists_eq, ix_tup, at0, at1, at2, op_add', op_sub', op_mul', op_fdiv', op_mod', op_pow', op_addT, cm_lt, cm_le, cm_gt, cm_ge, cm_eq, cm_ne, cm_eqS, cm_neS, onb, oni, yn_gd, yn_cls, Nat.reduceLT, if_true, if_false, true_and, and_true, List.set_cons_zero, List.set_cons_succ, set_nm, set_tup, set_nil, set_cons, ifb, b1_abs, b1_int, b1_intB, b1_lenT, b1_lenL, b1_tupL, b1_tupT, b2_min, b2_max, seq_tup, seq_lst, seq_sq, gd_sq, ix_sq, len_sq, new_t, new_f, gd_tup, gd_lst, ix_lst, ty_int, ty_tup, ty_str, isi_ii, isi_ib, isi_tt, isi_ss, reduceIte, Bool.true_eq_false, Bool.false_eq_true, Bool.not_true, Bool.not_false,  List.zip_cons_cons, List.zip_nil_right, List.foldl_cons, List.foldl_nil, ne_eq, not_false_eq_true, not_true_eq_false, Bool.not_eq_true', decide_eq_false_iff_not, decide_eq_true_eq, reduceCtorEq, List.cons.injEq, and_self, D.ref.injEq, Cell.obj.injEq, D.int.injEq]
  refine lc_pure (List.range w) (fun i => (sys k).d (v i)) (fun i => (sys k).d (f * v i)) (fun _ _ _ => trivial) ?_ ?_
  · intro i hi p c K hp hK
    try simp only [wipeD, body, exs, ex, ev, evs, evB, evO, evT, evI, startD, List.map_cons, List.map_nil, List.length_cons, List.length_nil, Nat.reduceAdd, Nat.reduceSub, List.replicate, List.cons_append, List.nil_append, List.append_nil, List.getElem?_cons_zero, List.getElem?_cons_succ, Option.some.injEq, exists_and_left, exists_eq_left', exists_eq_left, exists_eq, ix_tup, at0, at1, at2, op_add', op_sub', op_mul', op_fdiv', op_mod', op_pow', op_addT, cm_lt, cm_le, cm_gt, cm_ge, cm_eq, cm_ne, cm_eqS, cm_neS, onb, oni, yn_gd, yn_cls, Nat.reduceLT, if_true, if_false, true_and, and_true, List.set_cons_zero, List.set_cons_succ, set_nm, set_tup, set_nil, set_cons, ifb, b1_abs, b1_int, b1_intB, b1_lenT, b1_lenL, b1_tupL, b1_tupT, b2_min, b2_max, seq_tup, seq_lst, seq_sq, gd_sq, ix_sq, len_sq, new_t, new_f, gd_tup, gd_lst, ix_lst, ty_int, ty_tup, ty_str, isi_ii, isi_ib, isi_tt, isi_ss, reduceIte, Bool.true_eq_false, Bool.false_eq_true, Bool.not_true, Bool.not_false,  List.zip_cons_cons, List.zip_nil_right, List.foldl_cons, List.foldl_nil, ne_eq, not_false_eq_true, not_true_eq_false, Bool.not_eq_true', decide_eq_false_iff_not, decide_eq_true_eq, reduceCtorEq, List.cons.injEq, and_self, D.ref.injEq, Cell.obj.injEq, D.int.injEq]
    exact ⟨k, f, v i, rfl, Sm.two hf (hs i (List.mem_range.mp hi)), hK⟩
  · try simp only [body, exs, ex, ev, evs, evB, evO, evT, evI, startD, List.map_cons, List.map_nil, List.length_cons, List.length_nil, Nat.reduceAdd, Nat.reduceSub, List.replicate, List.cons_append, List.nil_append, List.append_nil, List.getElem?_cons_zero, List.getElem?_cons_succ, Option.some.injEq, exists_and_left, exists_eq_left', exists_eq_left, exists_eq, ix_tup, at0, at1, at2, op_add', op_sub', op_mul', op_fdiv', op_mod', op_pow', op_addT, cm_lt, cm_le, cm_gt, cm_ge, cm_eq, cm_ne, cm_eqS, cm_neS, onb, oni, yn_gd, yn_cls, Nat.reduceLT, if_true, if_false, true_and, and_true, List.set_cons_zero, List.set_cons_succ, set_nm, set_tup, set_nil, set_cons, ifb, b1_abs, b1_int, b1_intB, b1_lenT, b1_lenL, b1_tupL, b1_tupT, b2_min, b2_max, seq_tup, seq_lst, seq_sq, gd_sq, ix_sq, len_sq, new_t, new_f, gd_tup, gd_lst, ix_lst, ty_int, ty_tup, ty_str, isi_ii, isi_ib, isi_tt, isi_ss, reduceIte, Bool.true_eq_false, Bool.false_eq_true, Bool.not_true, Bool.not_false,  List.zip_cons_cons, List.zip_nil_right, List.foldl_cons, List.foldl_nil, ne_eq, not_false_eq_true, not_true_eq_false, Bool.not_eq_true', decide_eq_false_iff_not, decide_eq_true_eq, reduceCtorEq, List.cons.injEq, and_self, D.ref.injEq, Cell.obj.injEq, D.int.injEq]
    exact ⟨m, SubO.refl, q⟩
def s_total : Spec := fun ds m Q => ∃ (k : Ks) (n : Nat) (v : Nat → (sys k).F), ds = [.int (sys k).by_, .lst ((List.range n).map fun i => (sys k).d (v i))] ∧ (∀ i, i < n → (sys k).Sm (v i) ∧ (sys k).Sm (sm i v)) ∧ Q ((sys k).d (sm n v)) m
def s_product : Spec := fun ds m Q => ∃ (k : Ks) (w : Nat) (v o : Nat → (sys k).F), ds = [.int (sys k).by_, (sys k).row w v, (sys k).row w o] ∧ (∀ i, i < w → (sys k).Sm (v i) ∧ (sys k).Sm (o i) ∧ (sys k).Sm (v i * o i) ∧ (sys k).Sm (sm i fun i => v i * o i)) ∧ Q ((sys k).d (sm w fun i => v i * o i)) m
def s_combination : Spec := fun ds m Q => ∃ (k : Ks) (n w : Nat) (M : Nat → Nat → (sys k).F) (f : Nat → (sys k).F), ds = [.int (sys k).by_, (sys k).mat n w M, (sys k).row n f] ∧ 1 ≤ n ∧ (∀ i, i < n → (sys k).Sm (f i) ∧ ∀ j, j < w → (sys k).Sm (M i j) ∧ (sys k).Sm (f i * M i j) ∧ (sys k).Sm (sm i fun t => f t * M t j)) ∧
  Q ((sys k).row w fun j => sm n fun t => f t * M t j) m
def s_is_nought : Spec := fun ds m Q => ∃ (k : Ks) (w : Nat) (v : Nat → (sys k).F), ds = [(sys k).row w v] ∧ Q (.bl ((List.range w).all fun i => decide (v i = 0))) m
def s_leading : Spec := fun ds m Q => ∃ (k : Ks) (w : Nat) (v : Nat → (sys k).F), ds = [(sys k).row w v] ∧ (∀ i, i < w → v i ≠ 0 → (∀ j, j < i → v j = 0) → Q (.int (i : Nat)) m) ∧ ((∀ i, i < w → v i = 0) → Q .non m)
theorem law_leading {X : Ctx} (ds : List D) (m : Mem) (Q : KD) (h : s_leading ds m Q) : body X 3 c36 ds m Q := by
  obtain ⟨k, w, v, rfl, q1, q2⟩ := h
  simp only [c36, seq_row, gd_row, body, exs, ex, ev, evs, evB, evO, evT, evI, startD, List.map_cons, List.map_nil, List.length_cons, List.length_nil, Nat.reduceAdd, Nat.reduceSub, List.replicate, List.cons_append, List.nil_append, List.append_nil, List.getElem?_cons_zero, List.getElem?_cons_succ, Option.some.injEq, exists_and_left, exists_eq_left', exists_eq_left, exists_eq, ix_tup, at0, at1, at2, op_add', op_sub', op_mul', op_fdiv', op_mod', op_pow', op_addT, cm_lt, cm_le, cm_gt, cm_ge, cm_eq, cm_ne, cm_eqS, cm_neS, onb, oni, yn_gd, yn_cls, Nat.reduceLT, if_true, if_false, true_and, and_true, List.set_cons_zero, List.set_cons_succ, set_nm, set_tup, set_nil, set_cons, ifb, b1_abs, b1_int, b1_intB, b1_lenT, b1_lenL, b1_tupL, b1_tupT, b2_min, b2_max, seq_tup, seq_lst, seq_sq, gd_sq, ix_sq, len_sq, new_t, new_f, gd_tup, gd_lst, ix_lst, ty_int, ty_tup, ty_str, isi_ii, isi_ib, isi_tt, isi_ss, reduceIte, Bool.true_eq_false, Bool.false_eq_true, Bool.not_true, Bool.not_false,  List.zip_cons_cons, List.zip_nil_right, List.foldl_cons, List.foldl_nil, ne_eq, not_false_eq_true, not_true_eq_false, Bool.not_eq_true', decide_eq_false_iff_not, decide_eq_true_eq, reduceCtorEq, List.cons.injEq, and_self, D.ref.injEq, Cell.obj.injEq, D.int.injEq]
  rw [show (List.range w).map (fun i => (sys k).d (v i)) = (List.range' 0 w).map (fun i => (sys k).d (v i)) from by rw [List.range_eq_range'], enum_map]
  refine for_inv _ (fun i r m' => m' = m ∧ (∃ o o', r = [some ((sys k).row w v), o, o']) ∧ ∀ j, j < i → v j = 0) (List.range' 0 w) 0 _ _ ⟨rfl, ⟨none, none, rfl⟩, fun j hj => by omega⟩ ?_ ?_
  · rintro i hi r m' N ⟨rfl, ⟨o, o', rfl⟩, hz⟩ kN
    have hi' : i < w := by simpa using hi
    have e : (List.range' 0 w)[i] = i := by simp
    rw [e]
    simp only [d_num, body, exs, ex, ev, evs, evB, evO, evT, evI, startD, List.map_cons, List.map_nil, List.length_cons, List.length_nil, Nat.reduceAdd, Nat.reduceSub, List.replicate, List.cons_append, List.nil_append, List.append_nil, List.getElem?_cons_zero, List.getElem?_cons_succ, Option.some.injEq, exists_and_left, exists_eq_left', exists_eq_left, exists_eq, ix_tup, at0, at1, at2, op_add', op_sub', op_mul', op_fdiv', op_mod', op_pow', op_addT, cm_lt, cm_le, cm_gt, cm_ge, cm_eq, cm_ne, cm_eqS, cm_neS, onb, oni, yn_gd, yn_cls, Nat.reduceLT, if_true, if_false, true_and, and_true, List.set_cons_zero, List.set_cons_succ, set_nm, set_tup, set_nil, set_cons, ifb, b1_abs, b1_int, b1_intB, b1_lenT, b1_lenL, b1_tupL, b1_tupT, b2_min, b2_max, seq_tup, seq_lst, seq_sq, gd_sq, ix_sq, len_sq, new_t, new_f, gd_tup, gd_lst, ix_lst, ty_int, ty_tup, ty_str, isi_ii, isi_ib, isi_tt, isi_ss, reduceIte, Bool.true_eq_false, Bool.false_eq_true, Bool.not_true, Bool.not_false,  List.zip_cons_cons, List.zip_nil_right, List.foldl_cons, List.foldl_nil, ne_eq, not_false_eq_true, not_true_eq_false, Bool.not_eq_true', decide_eq_false_iff_not, decide_eq_true_eq, reduceCtorEq, List.cons.injEq, and_self, D.ref.injEq, Cell.obj.injEq, D.int.injEq]
    rw [Nat.zero_add] at hz kN
    by_cases h0 : (sys k).num (v i) = 0
    · rw [if_neg (by simpa using h0)]
      refine kN _ _ ⟨rfl, ⟨_, _, rfl⟩, fun j hj => ?_⟩
      rcases Nat.lt_or_ge j i with z | z
      · exact hz j z
      · rw [show j = i from by omega]; exact num_zero.mp h0
    · rw [if_pos (by simpa using h0)]
      exact ⟨m', SubO.refl, q1 i hi' (fun z => h0 (num_zero.mpr z)) hz⟩
  · rintro r m' ⟨rfl, ⟨o, o', rfl⟩, hz⟩
    rw [List.length_range', Nat.zero_add] at hz
    exact ⟨trivial, m', SubO.refl, q2 hz⟩
end Og.Lk44
end
section
set_option maxHeartbeats 4000000
set_option autoImplicit false
namespace Og.Lk44
open PySem Og
theorem law_num_sum {X : Ctx} (hp : X.fn 4 = s_num_add) (ds : List D) (m : Mem) (Q : KD) (h : s_total ds m Q) : body X 4 c13 ds m Q := by
  obtain ⟨k, n, v, rfl, hs, q⟩ := h
  simp only [c13, hp, body, exs, ex, ev, evs, evB, evO, evT, evI, startD, List.map_cons, List.map_nil, List.length_cons, List.length_nil, Nat.reduceAdd, Nat.reduceSub, List.replicate, List.cons_append, List.nil_append, List.append_nil, List.getElem?_cons_zero, List.getElem?_cons_succ, Option.some.injEq, exists_and_left, exists_eq_left', exists_eq_left, exists_eq, ix_tup, at0, at1, at2, op_add', op_sub', op_mul', op_fdiv', op_mod', op_pow', op_addT, cm_lt, cm_le, cm_gt, cm_ge, cm_eq, cm_ne, cm_eqS, cm_neS, onb, oni, yn_gd, yn_cls, Nat.reduceLT, if_true, if_false, true_and, and_true, List.set_cons_zero, List.set_cons_succ, set_nm, set_tup, set_nil, set_cons, ifb, b1_abs, b1_int, b1_intB, b1_lenT, b1_lenL, b1_tupL, b1_tupT, b2_min, b2_max, seq_tup, seq_lst, seq_sq, gd_sq, ix_sq, len_sq, new_t, new_f, gd_tup, gd_lst, ix_lst, ty_int, ty_tup, ty_str, isi_ii, isi_ib, isi_tt, isi_ss, reduceIte, Bool.true_eq_false, Bool.false_eq_true, Bool.not_true, Bool.not_false,  List.zip_cons_cons, List.zip_nil_right, List.foldl_cons, List.foldl_nil, ne_eq, not_false_eq_true, not_true_eq_false, Bool.not_eq_true', decide_eq_false_iff_not, decide_eq_true_eq, reduceCtorEq, List.cons.injEq, and_self, D.ref.injEq, Cell.obj.injEq, D.int.injEq]
  refine ⟨by omega, ?_⟩
  refine for_inv _ (fun i r m' => m' = m ∧ ∃ o, r = [some (.int (sys k).by_), some (.lst ((List.range n).map fun i => (sys k).d (v i))), some ((sys k).d (sm i v)), o]) (List.range n) 0 _ _ ⟨rfl, none, by rw [show sm 0 v = (0 : (sys k).F) from rfl, d0]⟩ ?_ ?_
  · rintro i hi r m' N ⟨rfl, o, rfl⟩ kN
    try simp only [body, exs, ex, ev, evs, evB, evO, evT, evI, startD, List.map_cons, List.map_nil, List.length_cons, List.length_nil, Nat.reduceAdd, Nat.reduceSub, List.replicate, List.cons_append, List.nil_append, List.append_nil, List.getElem?_cons_zero, List.getElem?_cons_succ, Option.some.injEq, exists_and_left, exists_eq_left', exists_eq_left, exists_eq, ix_tup, at0, at1, at2, op_add', op_sub', op_mul', op_fdiv', op_mod', op_pow', op_addT, cm_lt, cm_le, cm_gt, cm_ge, cm_eq, cm_ne, cm_eqS, cm_neS, onb, oni, yn_gd, yn_cls, Nat.reduceLT, if_true, if_false, true_and, and_true, List.set_cons_zero, List.set_cons_succ, set_nm, set_tup, set_nil, set_cons, ifb, b1_abs, b1_int, b1_intB, b1_lenT, b1_lenL, b1_tupL, b1_tupT, b2_min, b2_max, seq_tup, seq_lst, seq_sq, gd_sq, ix_sq, len_sq, new_t, new_f, gd_tup, gd_lst, ix_lst, ty_int, ty_tup, ty_str, isi_ii, isi_ib, isi_tt, isi_ss, reduceIte, Bool.true_eq_false, Bool.false_eq_true, Bool.not_true, Bool.not_false,  List.zip_cons_cons, List.zip_nil_right, List.foldl_cons, List.foldl_nil, ne_eq, not_false_eq_true, not_true_eq_false, Bool.not_eq_true', decide_eq_false_iff_not, decide_eq_true_eq, reduceCtorEq, List.cons.injEq, and_self, D.ref.injEq, Cell.obj.injEq, D.int.injEq]
    have hi' : i < n := by simpa using hi
    have e : (List.range n)[i] = i := by simp
    obtain ⟨s1, s2⟩ := hs i hi'
    rw [e]
    refine ⟨k, sm i v, v i, by simp only [Nat.zero_add], Sm.two s2 s1, ?_⟩
    simp only [Nat.zero_add] at kN ⊢
    exact kN _ _ ⟨rfl, _, rfl⟩
  · rintro r m' ⟨rfl, o, rfl⟩
    try simp only [body, exs, ex, ev, evs, evB, evO, evT, evI, startD, List.map_cons, List.map_nil, List.length_cons, List.length_nil, Nat.reduceAdd, Nat.reduceSub, List.replicate, List.cons_append, List.nil_append, List.append_nil, List.getElem?_cons_zero, List.getElem?_cons_succ, Option.some.injEq, exists_and_left, exists_eq_left', exists_eq_left, exists_eq, ix_tup, at0, at1, at2, op_add', op_sub', op_mul', op_fdiv', op_mod', op_pow', op_addT, cm_lt, cm_le, cm_gt, cm_ge, cm_eq, cm_ne, cm_eqS, cm_neS, onb, oni, yn_gd, yn_cls, Nat.reduceLT, if_true, if_false, true_and, and_true, List.set_cons_zero, List.set_cons_succ, set_nm, set_tup, set_nil, set_cons, ifb, b1_abs, b1_int, b1_intB, b1_lenT, b1_lenL, b1_tupL, b1_tupT, b2_min, b2_max, seq_tup, seq_lst, seq_sq, gd_sq, ix_sq, len_sq, new_t, new_f, gd_tup, gd_lst, ix_lst, ty_int, ty_tup, ty_str, isi_ii, isi_ib, isi_tt, isi_ss, reduceIte, Bool.true_eq_false, Bool.false_eq_true, Bool.not_true, Bool.not_false,  List.zip_cons_cons, List.zip_nil_right, List.foldl_cons, List.foldl_nil, ne_eq, not_false_eq_true, not_true_eq_false, Bool.not_eq_true', decide_eq_false_iff_not, decide_eq_true_eq, reduceCtorEq, List.cons.injEq, and_self, D.ref.injEq, Cell.obj.injEq, D.int.injEq]
    rw [List.length_range, Nat.zero_add]
    exact ⟨m', SubO.refl, q⟩
def s_span_mixed : Spec := fun ds m Q => ∃ (k : Ks) (n w : Nat) (M : Nat → Nat → (sys k).F) (f : Nat → (sys k).F) (b1 b2 : Bool), ds = [.int (sys k).by_, sq b1 ((List.range n).map fun i => (sys k).row w (M i)), sq b2 ((List.range n).map fun i => (sys k).d (f i))] ∧ 1 ≤ n ∧ w ≤ 1000 ∧ WfM m ∧
  (∀ i, i < n → (sys k).Sm (f i) ∧ ∀ j, j < w → (sys k).Sm (M i j) ∧ (sys k).Sm (f i * M i j) ∧ (sys k).Sm (sm i fun t => f t * M t j)) ∧ Q ((sys k).row w fun j => sm n fun t => f t * M t j) m
theorem law_span_mixed {X : Ctx} (ht : X.fn 2 = s_num_times) (hl : X.fn 13 = s_total) (ds : List D) (m : Mem) (Q : KD) (h : s_span_mixed ds m Q) : body X 7 c14 ds m Q := by
  obtain ⟨k, n, w, M, f, b1, b2, rfl, h1, hw, wf, hs, q⟩ := h
  simp only [c14, ht, hl, body, exs, ex, ev, evs, evB, evO, evT, evI, startD, List.map_cons, List.map_nil, List.length_cons, List.length_nil, Nat.reduceAdd, Nat.reduceSub, List.replicate, List.cons_append, List.nil_append, List.append_nil, List.getElem?_cons_zero, List.getElem?_cons_succ, Option.some.injEq, exists_and_left, exists_eq_left', exists_eq_left, exists_eq, ix_tup, at0, at1, at2, op_add', op_sub', op_mul', op_fdiv', op_mod', op_pow', op_addT, cm_lt, cm_le, cm_gt, cm_ge, cm_eq, cm_ne, cm_eqS, cm_neS, onb, oni, yn_gd, yn_cls, Nat.reduceLT, if_true, if_false, true_and, and_true, List.set_cons_zero, List.set_cons_succ, set_nm, set_tup, set_nil, set_cons, ifb, b1_abs, b1_int, b1_intB, b1_lenT, b1_lenL, b1_tupL, b1_tupT, b2_min, b2_max, seq_tup, seq_lst, seq_sq, gd_sq, ix_sq, len_sq, new_t, new_f, gd_tup, gd_lst, ix_lst, ty_int, ty_tup, ty_str, isi_ii, isi_ib, isi_tt, isi_ss, reduceIte, Bool.true_eq_false, Bool.false_eq_true, Bool.not_true, Bool.not_false,  List.zip_cons_cons, List.zip_nil_right, List.foldl_cons, List.foldl_nil, ne_eq, not_false_eq_true, not_true_eq_false, Bool.not_eq_true', decide_eq_false_iff_not, decide_eq_true_eq, reduceCtorEq, List.cons.injEq, and_self, D.ref.injEq, Cell.obj.injEq, D.int.injEq]
  refine ⟨by omega, fun p hp => ?_⟩
  rw [at_range0 h1]
  simp only [row_len, body, exs, ex, ev, evs, evB, evO, evT, evI, startD, List.map_cons, List.map_nil, List.length_cons, List.length_nil, Nat.reduceAdd, Nat.reduceSub, List.replicate, List.cons_append, List.nil_append, List.append_nil, List.getElem?_cons_zero, List.getElem?_cons_succ, Option.some.injEq, exists_and_left, exists_eq_left', exists_eq_left, exists_eq, ix_tup, at0, at1, at2, op_add', op_sub', op_mul', op_fdiv', op_mod', op_pow', op_addT, cm_lt, cm_le, cm_gt, cm_ge, cm_eq, cm_ne, cm_eqS, cm_neS, onb, oni, yn_gd, yn_cls, Nat.reduceLT, if_true, if_false, true_and, and_true, List.set_cons_zero, List.set_cons_succ, set_nm, set_tup, set_nil, set_cons, ifb, b1_abs, b1_int, b1_intB, b1_lenT, b1_lenL, b1_tupL, b1_tupT, b2_min, b2_max, seq_tup, seq_lst, seq_sq, gd_sq, ix_sq, len_sq, new_t, new_f, gd_tup, gd_lst, ix_lst, ty_int, ty_tup, ty_str, isi_ii, isi_ib, isi_tt, isi_ss, reduceIte, Bool.true_eq_false, Bool.false_eq_true, Bool.not_true, Bool.not_false,  List.zip_cons_cons, List.zip_nil_right, List.foldl_cons, List.foldl_nil, ne_eq, not_false_eq_true, not_true_eq_false, Bool.not_eq_true', decide_eq_false_iff_not, decide_eq_true_eq, reduceCtorEq, List.cons.injEq, and_self, D.ref.injEq, Cell.obj.injEq, D.int.injEq]
  refine ⟨by omega, by omega, ?_⟩
  rw [rgD_nat]
  refine for_inv _ (fun i r m' => m' = put m p (.lst ((List.range i).map fun j => (sys k).d (sm n fun t => f t * M t j))) ∧ ∃ o, r = [some (.int (sys k).by_), some (sq b1 ((List.range n).map fun i => (sys k).row w (M i))), some (sq b2 ((List.range n).map fun i => (sys k).d (f i))), some (.ref p), o, none, none]) (List.range w) 0 _ _ ⟨rfl, none, rfl⟩ ?_ ?_
  · rintro j hj r m' N ⟨rfl, o, rfl⟩ kN
    have hj' : j < w := by simpa using hj
    have e : (List.range w)[j] = j := by simp
    rw [e]
    simp only [Nat.zero_add] at kN ⊢
    simp only [wipeD, body, exs, ex, ev, evs, evB, evO, evT, evI, startD, List.map_cons, List.map_nil, List.length_cons, List.length_nil, Nat.reduceAdd, Nat.reduceSub, List.replicate, List.cons_append, List.nil_append, List.append_nil, List.getElem?_cons_zero, List.getElem?_cons_succ, Option.some.injEq, exists_and_left, exists_eq_left', exists_eq_left, exists_eq, ix_tup, at0, at1, at2, op_add', op_sub', op_mul', op_fdiv', op_mod', op_pow', op_addT, cm_lt, cm_le, cm_gt, cm_ge, cm_eq, cm_ne, cm_eqS, cm_neS, onb, oni, yn_gd, yn_cls, Nat.reduceLT, if_true, if_false, true_and, and_true, List.set_cons_zero, List.set_cons_succ, set_nm, set_tup, set_nil, set_cons, ifb, b1_abs, b1_int, b1_intB, b1_lenT, b1_lenL, b1_tupL, b1_tupT, b2_min, b2_max, seq_tup, seq_lst, seq_sq, gd_sq, ix_sq, len_sq, new_t, new_f, gd_tup, gd_lst, ix_lst, ty_int, ty_tup, ty_str, isi_ii, isi_ib, isi_tt, isi_ss, reduceIte, Bool.true_eq_false, Bool.false_eq_true, Bool.not_true, Bool.not_false,  List.zip_cons_cons, List.zip_nil_right, List.foldl_cons, List.foldl_nil, ne_eq, not_false_eq_true, not_true_eq_false, Bool.not_eq_true', decide_eq_false_iff_not, decide_eq_true_eq, reduceCtorEq, List.cons.injEq, and_self, D.ref.injEq, Cell.obj.injEq, D.int.injEq]
    refine ⟨⟨_, lst_ref put_same⟩, ?_⟩
    rw [zip_map]
    refine lc_pure (List.range n) (fun i => .tup [(sys k).d (f i), (sys k).row w (M i)]) (fun i => (sys k).d (f i * M i j)) (fun _ _ _ => trivial) ?_ ?_
    · intro i hi p' c K hp' hK
      obtain ⟨s1, s2⟩ := hs i (List.mem_range.mp hi)
      obtain ⟨s3, s4, s5⟩ := s2 j hj'
      simp only [wipeD, body, exs, ex, ev, evs, evB, evO, evT, evI, startD, List.map_cons, List.map_nil, List.length_cons, List.length_nil, Nat.reduceAdd, Nat.reduceSub, List.replicate, List.cons_append, List.nil_append, List.append_nil, List.getElem?_cons_zero, List.getElem?_cons_succ, Option.some.injEq, exists_and_left, exists_eq_left', exists_eq_left, exists_eq, ix_tup, at0, at1, at2, op_add', op_sub', op_mul', op_fdiv', op_mod', op_pow', op_addT, cm_lt, cm_le, cm_gt, cm_ge, cm_eq, cm_ne, cm_eqS, cm_neS, onb, oni, yn_gd, yn_cls, Nat.reduceLT, if_true, if_false, true_and, and_true, List.set_cons_zero, List.set_cons_succ, set_nm, set_tup, set_nil, set_cons, ifb, b1_abs, b1_int, b1_intB, b1_lenT, b1_lenL, b1_tupL, b1_tupT, b2_min, b2_max, seq_tup, seq_lst, seq_sq, gd_sq, ix_sq, len_sq, new_t, new_f, gd_tup, gd_lst, ix_lst, ty_int, ty_tup, ty_str, isi_ii, isi_ib, isi_tt, isi_ss, reduceIte, Bool.true_eq_false, Bool.false_eq_true, Bool.not_true, Bool.not_false,  List.zip_cons_cons, List.zip_nil_right, List.foldl_cons, List.foldl_nil, ne_eq, not_false_eq_true, not_true_eq_false, Bool.not_eq_true', decide_eq_false_iff_not, decide_eq_true_eq, reduceCtorEq, List.cons.injEq, and_self, D.ref.injEq, Cell.obj.injEq, D.int.injEq]
      rw [row_get hj']
      exact ⟨k, f i, M i j, rfl, Sm.two s1 s3, hK⟩
    · try simp only [body, exs, ex, ev, evs, evB, evO, evT, evI, startD, List.map_cons, List.map_nil, List.length_cons, List.length_nil, Nat.reduceAdd, Nat.reduceSub, List.replicate, List.cons_append, List.nil_append, List.append_nil, List.getElem?_cons_zero, List.getElem?_cons_succ, Option.some.injEq, exists_and_left, exists_eq_left', exists_eq_left, exists_eq, ix_tup, at0, at1, at2, op_add', op_sub', op_mul', op_fdiv', op_mod', op_pow', op_addT, cm_lt, cm_le, cm_gt, cm_ge, cm_eq, cm_ne, cm_eqS, cm_neS, onb, oni, yn_gd, yn_cls, Nat.reduceLT, if_true, if_false, true_and, and_true, List.set_cons_zero, List.set_cons_succ, set_nm, set_tup, set_nil, set_cons, ifb, b1_abs, b1_int, b1_intB, b1_lenT, b1_lenL, b1_tupL, b1_tupT, b2_min, b2_max, seq_tup, seq_lst, seq_sq, gd_sq, ix_sq, len_sq, new_t, new_f, gd_tup, gd_lst, ix_lst, ty_int, ty_tup, ty_str, isi_ii, isi_ib, isi_tt, isi_ss, reduceIte, Bool.true_eq_false, Bool.false_eq_true, Bool.not_true, Bool.not_false,  List.zip_cons_cons, List.zip_nil_right, List.foldl_cons, List.foldl_nil, ne_eq, not_false_eq_true, not_true_eq_false, Bool.not_eq_true', decide_eq_false_iff_not, decide_eq_true_eq, reduceCtorEq, List.cons.injEq, and_self, D.ref.injEq, Cell.obj.injEq, D.int.injEq]
      refine ⟨k, n, fun i => f i * M i j, rfl, fun i hi => ?_, ?_⟩
      · obtain ⟨s1, s2⟩ := hs i hi
        obtain ⟨s3, s4, s5⟩ := s2 j hj'
        exact ⟨s4, s5⟩
      · refine ⟨_, put_same, by simp; omega, ?_⟩
        rw [put_put]
        refine kN _ _ ⟨?_, _, rfl⟩
        rw [List.range_succ, List.map_append]
        rfl
  · rintro r m' ⟨rfl, o, rfl⟩
    rw [List.length_range, Nat.zero_add]
    try simp only [body, exs, ex, ev, evs, evB, evO, evT, evI, startD, List.map_cons, List.map_nil, List.length_cons, List.length_nil, Nat.reduceAdd, Nat.reduceSub, List.replicate, List.cons_append, List.nil_append, List.append_nil, List.getElem?_cons_zero, List.getElem?_cons_succ, Option.some.injEq, exists_and_left, exists_eq_left', exists_eq_left, exists_eq, ix_tup, at0, at1, at2, op_add', op_sub', op_mul', op_fdiv', op_mod', op_pow', op_addT, cm_lt, cm_le, cm_gt, cm_ge, cm_eq, cm_ne, cm_eqS, cm_neS, onb, oni, yn_gd, yn_cls, Nat.reduceLT, if_true, if_false, true_and, and_true, List.set_cons_zero, List.set_cons_succ, set_nm, set_tup, set_nil, set_cons, ifb, b1_abs, b1_int, b1_intB, b1_lenT, b1_lenL, b1_tupL, b1_tupT, b2_min, b2_max, seq_tup, seq_lst, seq_sq, gd_sq, ix_sq, len_sq, new_t, new_f, gd_tup, gd_lst, ix_lst, ty_int, ty_tup, ty_str, isi_ii, isi_ib, isi_tt, isi_ss, reduceIte, Bool.true_eq_false, Bool.false_eq_true, Bool.not_true, Bool.not_false,  List.zip_cons_cons, List.zip_nil_right, List.foldl_cons, List.foldl_nil, ne_eq, not_false_eq_true, not_true_eq_false, Bool.not_eq_true', decide_eq_false_iff_not, decide_eq_true_eq, reduceCtorEq, List.cons.injEq, and_self, D.ref.injEq, Cell.obj.injEq, D.int.injEq]
    rw [tup_ref put_same]
    exact ⟨m, subo_lst wf hp, q⟩
end Og.Lk44
end
section
set_option maxHeartbeats 4000000
set_option autoImplicit false
/-! Og: rows compared. -/
namespace Og
open PySem
section
variable {S : Sys} {w n : Nat} {v u : Nat → S.F} {m : Mem} {Q : KD} {x y : S.F}
theorem flats_map {ι : Type} {k : Nat} {g : ι → D} (h : ∀ i, (g i).flat k = true) : ∀ l : List ι, flats k (l.map g) = true
  | [] => rfl
  | i :: l => by simp only [List.map_cons, flats, h i, flats_map h l, Bool.and_self]
theorem d_flat {k : Nat} : (S.d x).flat (k + 1) = true := rfl
theorem row_flat {k : Nat} : (S.row w v).flat (k + 2) = true := flats_map (fun _ => d_flat) _
theorem eqv_d : PyData.eqv (S.d x).toP (S.d y).toP = decide (x = y) := by
  unfold Sys.d
  simp only [D.toP, toPs, PyData.eqv, PyData.eqvAll, Bool.and_true]
  by_cases e : x = y
  · subst e; simp
  · rw [decide_eq_false e]
    by_cases h1 : S.num x = S.num y
    · have h2 : S.den x ≠ S.den y := fun z => e (S.inj _ _ h1 z)
      simp [h1, h2]
    · simp [h1]
theorem eq_d : cmpD .eq (S.d x) (S.d y) m Q = Q (.bl (decide (x = y))) m := by
  show (D.flat 40 (S.d x) = true ∧ D.flat 40 (S.d y) = true ∧ Q (.bl (PyData.eqv (S.d x).toP (S.d y).toP)) m) = _
  rw [d_flat, d_flat, eqv_d]
  simp
theorem ne_d : cmpD .ne (S.d x) (S.d y) m Q = Q (.bl (!decide (x = y))) m := by
  show (D.flat 40 (S.d x) = true ∧ D.flat 40 (S.d y) = true ∧ Q (.bl (!PyData.eqv (S.d x).toP (S.d y).toP)) m) = _
  rw [d_flat, d_flat, eqv_d]
  simp
theorem eq_row (h : ∀ i, i < w → v i = u i) (q : Q (.bl true) m) : cmpD .eq (S.row w v) (S.row w u) m Q := by
  rw [row_congr h]
  show D.flat 40 (S.row w u) = true ∧ D.flat 40 (S.row w u) = true ∧ Q (.bl (PyData.eqv (S.row w u).toP (S.row w u).toP)) m
  refine ⟨row_flat, row_flat, ?_⟩
  rw [SeqAt.eqv_refl _ (flat_lay 40 _ row_flat).1]
  exact q
end
theorem all_const {ι : Type} (l : List ι) {m : Mem} {Q : KD} (q : Q (.bl true) m) : b1D .all (.lst (l.map fun _ => D.bl true)) m Q := by
  rw [show l.map (fun _ => D.bl true) = (l.map fun _ => true).map D.bl from by rw [List.map_map]; rfl]
  refine b1_all ?_
  have e : (l.map fun _ => true).all id = true := List.all_eq_true.mpr fun x hx => by
    obtain ⟨_, _, rfl⟩ := List.mem_map.mp hx
    rfl
  rw [e]; exact q
end Og
end
section
set_option maxHeartbeats 4000000
set_option autoImplicit false
namespace Og.Lk44
open PySem Og
def s_are_worths : Spec := fun ds m Q => ∃ (k : Ks) (w : Nat) (v : Nat → (sys k).F), ds = [.int (sys k).by_, (sys k).row w v, .int (w : Int)] ∧ Q (.bl true) m
theorem law_are_worths {X : Ctx} (ht : X.fn 19 = s_is_tuple) (hw : X.fn 21 = s_is_worth) (ds : List D) (m : Mem) (Q : KD) (h : s_are_worths ds m Q) : body X 4 c22 ds m Q := by
  obtain ⟨k, w, v, rfl, q⟩ := h
  simp only [c22, ht, hw, body, exs, ex, ev, evs, evB, evO, evT, evI, startD, List.map_cons, List.map_nil, List.length_cons, List.length_nil, Nat.reduceAdd, Nat.reduceSub, List.replicate, List.cons_append, List.nil_append, List.append_nil, List.getElem?_cons_zero, List.getElem?_cons_succ, Option.some.injEq, exists_and_left, exists_eq_left', exists_eq_left, exists_eq, ix_tup, at0, at1, at2, op_add', op_sub', op_mul', op_fdiv', op_mod', op_pow', op_addT, cm_lt, cm_le, cm_gt, cm_ge, cm_eq, cm_ne, cm_eqS, cm_neS, onb, oni, yn_gd, yn_cls, Nat.reduceLT, if_true, if_false, true_and, and_true, List.set_cons_zero, List.set_cons_succ, set_nm, set_tup, set_nil, set_cons, ifb, b1_abs, b1_int, b1_intB, b1_lenT, b1_lenL, b1_tupL, b1_tupT, b2_min, b2_max, seq_tup, seq_lst, seq_sq, gd_sq, ix_sq, len_sq, new_t, new_f, gd_tup, gd_lst, ix_lst, ty_int, ty_tup, ty_str, isi_ii, isi_ib, isi_tt, isi_ss, reduceIte, Bool.true_eq_false, Bool.false_eq_true, Bool.not_true, Bool.not_false,  List.zip_cons_cons, List.zip_nil_right, List.foldl_cons, List.foldl_nil, ne_eq, not_false_eq_true, not_true_eq_false, Bool.not_eq_true', decide_eq_false_iff_not, decide_eq_true_eq, reduceCtorEq, List.cons.injEq, and_self, D.ref.injEq, Cell.obj.injEq, D.int.injEq]
  refine ⟨_, _, _, rfl, by simp, by simp, ?_⟩
  simp only [seq_row, gd_row, body, exs, ex, ev, evs, evB, evO, evT, evI, startD, List.map_cons, List.map_nil, List.length_cons, List.length_nil, Nat.reduceAdd, Nat.reduceSub, List.replicate, List.cons_append, List.nil_append, List.append_nil, List.getElem?_cons_zero, List.getElem?_cons_succ, Option.some.injEq, exists_and_left, exists_eq_left', exists_eq_left, exists_eq, ix_tup, at0, at1, at2, op_add', op_sub', op_mul', op_fdiv', op_mod', op_pow', op_addT, cm_lt, cm_le, cm_gt, cm_ge, cm_eq, cm_ne, cm_eqS, cm_neS, onb, oni, yn_gd, yn_cls, Nat.reduceLT, if_true, if_false, true_and, and_true, List.set_cons_zero, List.set_cons_succ, set_nm, set_tup, set_nil, set_cons, ifb, b1_abs, b1_int, b1_intB, b1_lenT, b1_lenL, b1_tupL, b1_tupT, b2_min, b2_max, seq_tup, seq_lst, seq_sq, gd_sq, ix_sq, len_sq, new_t, new_f, gd_tup, gd_lst, ix_lst, ty_int, ty_tup, ty_str, isi_ii, isi_ib, isi_tt, isi_ss, reduceIte, Bool.true_eq_false, Bool.false_eq_true, Bool.not_true, Bool.not_false,  List.zip_cons_cons, List.zip_nil_right, List.foldl_cons, List.foldl_nil, ne_eq, not_false_eq_true, not_true_eq_false, Bool.not_eq_true', decide_eq_false_iff_not, decide_eq_true_eq, reduceCtorEq, List.cons.injEq, and_self, D.ref.injEq, Cell.obj.injEq, D.int.injEq]
  refine lc_pure (List.range w) (fun i => (sys k).d (v i)) (fun i => .bl true) (fun _ _ _ => trivial) ?_ ?_
  · intro i hi p c K hp hK
    try simp only [wipeD, body, exs, ex, ev, evs, evB, evO, evT, evI, startD, List.map_cons, List.map_nil, List.length_cons, List.length_nil, Nat.reduceAdd, Nat.reduceSub, List.replicate, List.cons_append, List.nil_append, List.append_nil, List.getElem?_cons_zero, List.getElem?_cons_succ, Option.some.injEq, exists_and_left, exists_eq_left', exists_eq_left, exists_eq, ix_tup, at0, at1, at2, op_add', op_sub', op_mul', op_fdiv', op_mod', op_pow', op_addT, cm_lt, cm_le, cm_gt, cm_ge, cm_eq, cm_ne, cm_eqS, cm_neS, onb, oni, yn_gd, yn_cls, Nat.reduceLT, if_true, if_false, true_and, and_true, List.set_cons_zero, List.set_cons_succ, set_nm, set_tup, set_nil, set_cons, ifb, b1_abs, b1_int, b1_intB, b1_lenT, b1_lenL, b1_tupL, b1_tupT, b2_min, b2_max, seq_tup, seq_lst, seq_sq, gd_sq, ix_sq, len_sq, new_t, new_f, gd_tup, gd_lst, ix_lst, ty_int, ty_tup, ty_str, isi_ii, isi_ib, isi_tt, isi_ss, reduceIte, Bool.true_eq_false, Bool.false_eq_true, Bool.not_true, Bool.not_false,  List.zip_cons_cons, List.zip_nil_right, List.foldl_cons, List.foldl_nil, ne_eq, not_false_eq_true, not_true_eq_false, Bool.not_eq_true', decide_eq_false_iff_not, decide_eq_true_eq, reduceCtorEq, List.cons.injEq, and_self, D.ref.injEq, Cell.obj.injEq, D.int.injEq]
    exact ⟨k, v i, rfl, hK⟩
  · exact all_const _ ⟨m, SubO.refl, q⟩
def s_is_matrix : Spec := fun ds m Q => ∃ (k : Ks) (n w : Nat) (M : Nat → Nat → (sys k).F), ds = [.int (sys k).by_, (sys k).mat n w M] ∧ 1 ≤ n ∧ n ≤ 16 ∧ 1 ≤ w ∧ w ≤ 16 ∧ Q (.bl true) m
theorem law_is_matrix {X : Ctx} (ht : X.fn 19 = s_is_tuple) (hw : X.fn 22 = s_are_worths) (hg : X.gd = gd) (ds : List D) (m : Mem) (Q : KD) (h : s_is_matrix ds m Q) : body X 3 c23 ds m Q := by
  obtain ⟨k, n, w, M, rfl, n1, n2, w1, w2, q⟩ := h
  simp only [c23, ht, hw, hg, gd, body, exs, ex, ev, evs, evB, evO, evT, evI, startD, List.map_cons, List.map_nil, List.length_cons, List.length_nil, Nat.reduceAdd, Nat.reduceSub, List.replicate, List.cons_append, List.nil_append, List.append_nil, List.getElem?_cons_zero, List.getElem?_cons_succ, Option.some.injEq, exists_and_left, exists_eq_left', exists_eq_left, exists_eq, ix_tup, at0, at1, at2, op_add', op_sub', op_mul', op_fdiv', op_mod', op_pow', op_addT, cm_lt, cm_le, cm_gt, cm_ge, cm_eq, cm_ne, cm_eqS, cm_neS, onb, oni, yn_gd, yn_cls, Nat.reduceLT, if_true, if_false, true_and, and_true, List.set_cons_zero, List.set_cons_succ, set_nm, set_tup, set_nil, set_cons, ifb, b1_abs, b1_int, b1_intB, b1_lenT, b1_lenL, b1_tupL, b1_tupT, b2_min, b2_max, seq_tup, seq_lst, seq_sq, gd_sq, ix_sq, len_sq, new_t, new_f, gd_tup, gd_lst, ix_lst, ty_int, ty_tup, ty_str, isi_ii, isi_ib, isi_tt, isi_ss, reduceIte, Bool.true_eq_false, Bool.false_eq_true, Bool.not_true, Bool.not_false,  List.zip_cons_cons, List.zip_nil_right, List.foldl_cons, List.foldl_nil, ne_eq, not_false_eq_true, not_true_eq_false, Bool.not_eq_true', decide_eq_false_iff_not, decide_eq_true_eq, reduceCtorEq, List.cons.injEq, and_self, D.ref.injEq, Cell.obj.injEq, D.int.injEq]
  refine ⟨_, _, _, rfl, by simp; omega, by simp; omega, ?_⟩
  try simp only [body, exs, ex, ev, evs, evB, evO, evT, evI, startD, List.map_cons, List.map_nil, List.length_cons, List.length_nil, Nat.reduceAdd, Nat.reduceSub, List.replicate, List.cons_append, List.nil_append, List.append_nil, List.getElem?_cons_zero, List.getElem?_cons_succ, Option.some.injEq, exists_and_left, exists_eq_left', exists_eq_left, exists_eq, ix_tup, at0, at1, at2, op_add', op_sub', op_mul', op_fdiv', op_mod', op_pow', op_addT, cm_lt, cm_le, cm_gt, cm_ge, cm_eq, cm_ne, cm_eqS, cm_neS, onb, oni, yn_gd, yn_cls, Nat.reduceLT, if_true, if_false, true_and, and_true, List.set_cons_zero, List.set_cons_succ, set_nm, set_tup, set_nil, set_cons, ifb, b1_abs, b1_int, b1_intB, b1_lenT, b1_lenL, b1_tupL, b1_tupT, b2_min, b2_max, seq_tup, seq_lst, seq_sq, gd_sq, ix_sq, len_sq, new_t, new_f, gd_tup, gd_lst, ix_lst, ty_int, ty_tup, ty_str, isi_ii, isi_ib, isi_tt, isi_ss, reduceIte, Bool.true_eq_false, Bool.false_eq_true, Bool.not_true, Bool.not_false,  List.zip_cons_cons, List.zip_nil_right, List.foldl_cons, List.foldl_nil, ne_eq, not_false_eq_true, not_true_eq_false, Bool.not_eq_true', decide_eq_false_iff_not, decide_eq_true_eq, reduceCtorEq, List.cons.injEq, and_self, D.ref.injEq, Cell.obj.injEq, D.int.injEq]
  rw [mat_get0 n1]
  refine ⟨_, _, _, rfl, by simp; omega, by simp; omega, ?_⟩
  simp only [seq_mat, gd_mat, body, exs, ex, ev, evs, evB, evO, evT, evI, startD, List.map_cons, List.map_nil, List.length_cons, List.length_nil, Nat.reduceAdd, Nat.reduceSub, List.replicate, List.cons_append, List.nil_append, List.append_nil, List.getElem?_cons_zero, List.getElem?_cons_succ, Option.some.injEq, exists_and_left, exists_eq_left', exists_eq_left, exists_eq, ix_tup, at0, at1, at2, op_add', op_sub', op_mul', op_fdiv', op_mod', op_pow', op_addT, cm_lt, cm_le, cm_gt, cm_ge, cm_eq, cm_ne, cm_eqS, cm_neS, onb, oni, yn_gd, yn_cls, Nat.reduceLT, if_true, if_false, true_and, and_true, List.set_cons_zero, List.set_cons_succ, set_nm, set_tup, set_nil, set_cons, ifb, b1_abs, b1_int, b1_intB, b1_lenT, b1_lenL, b1_tupL, b1_tupT, b2_min, b2_max, seq_tup, seq_lst, seq_sq, gd_sq, ix_sq, len_sq, new_t, new_f, gd_tup, gd_lst, ix_lst, ty_int, ty_tup, ty_str, isi_ii, isi_ib, isi_tt, isi_ss, reduceIte, Bool.true_eq_false, Bool.false_eq_true, Bool.not_true, Bool.not_false,  List.zip_cons_cons, List.zip_nil_right, List.foldl_cons, List.foldl_nil, ne_eq, not_false_eq_true, not_true_eq_false, Bool.not_eq_true', decide_eq_false_iff_not, decide_eq_true_eq, reduceCtorEq, List.cons.injEq, and_self, D.ref.injEq, Cell.obj.injEq, D.int.injEq]
  refine lc_pure (List.range n) (fun i => (sys k).row w (M i)) (fun i => .bl true) (fun _ _ _ => trivial) ?_ ?_
  · intro i hi p c K hp hK
    try simp only [wipeD, body, exs, ex, ev, evs, evB, evO, evT, evI, startD, List.map_cons, List.map_nil, List.length_cons, List.length_nil, Nat.reduceAdd, Nat.reduceSub, List.replicate, List.cons_append, List.nil_append, List.append_nil, List.getElem?_cons_zero, List.getElem?_cons_succ, Option.some.injEq, exists_and_left, exists_eq_left', exists_eq_left, exists_eq, ix_tup, at0, at1, at2, op_add', op_sub', op_mul', op_fdiv', op_mod', op_pow', op_addT, cm_lt, cm_le, cm_gt, cm_ge, cm_eq, cm_ne, cm_eqS, cm_neS, onb, oni, yn_gd, yn_cls, Nat.reduceLT, if_true, if_false, true_and, and_true, List.set_cons_zero, List.set_cons_succ, set_nm, set_tup, set_nil, set_cons, ifb, b1_abs, b1_int, b1_intB, b1_lenT, b1_lenL, b1_tupL, b1_tupT, b2_min, b2_max, seq_tup, seq_lst, seq_sq, gd_sq, ix_sq, len_sq, new_t, new_f, gd_tup, gd_lst, ix_lst, ty_int, ty_tup, ty_str, isi_ii, isi_ib, isi_tt, isi_ss, reduceIte, Bool.true_eq_false, Bool.false_eq_true, Bool.not_true, Bool.not_false,  List.zip_cons_cons, List.zip_nil_right, List.foldl_cons, List.foldl_nil, ne_eq, not_false_eq_true, not_true_eq_false, Bool.not_eq_true', decide_eq_false_iff_not, decide_eq_true_eq, reduceCtorEq, List.cons.injEq, and_self, D.ref.injEq, Cell.obj.injEq, D.int.injEq]
    rw [mat_get0 n1, row_len]
    exact ⟨k, w, M i, rfl, hK⟩
  · exact all_const _ ⟨m, SubO.refl, q⟩
def s_check_matrix : Spec := fun ds m Q => ∃ (k : Ks) (n w : Nat) (M : Nat → Nat → (sys k).F), ds = [.int (sys k).by_, (sys k).mat n w M] ∧ 1 ≤ n ∧ n ≤ 16 ∧ 1 ≤ w ∧ w ≤ 16 ∧ Q .non m
theorem law_check_matrix {X : Ctx} (ht : X.fn 18 = s_is_by) (hw : X.fn 23 = s_is_matrix) (ds : List D) (m : Mem) (Q : KD) (h : s_check_matrix ds m Q) : body X 2 c24 ds m Q := by
  obtain ⟨k, n, w, M, rfl, n1, n2, w1, w2, q⟩ := h
  simp only [c24, ht, hw, body, exs, ex, ev, evs, evB, evO, evT, evI, startD, List.map_cons, List.map_nil, List.length_cons, List.length_nil, Nat.reduceAdd, Nat.reduceSub, List.replicate, List.cons_append, List.nil_append, List.append_nil, List.getElem?_cons_zero, List.getElem?_cons_succ, Option.some.injEq, exists_and_left, exists_eq_left', exists_eq_left, exists_eq, ix_tup, at0, at1, at2, op_add', op_sub', op_mul', op_fdiv', op_mod', op_pow', op_addT, cm_lt, cm_le, cm_gt, cm_ge, cm_eq, cm_ne, cm_eqS, cm_neS, onb, oni, yn_gd, yn_cls, Nat.reduceLT, if_true, if_false, true_and, and_true, List.set_cons_zero, List.set_cons_succ, set_nm, set_tup, set_nil, set_cons, ifb, b1_abs, b1_int, b1_intB, b1_lenT, b1_lenL, b1_tupL, b1_tupT, b2_min, b2_max, seq_tup, seq_lst, seq_sq, gd_sq, ix_sq, len_sq, new_t, new_f, gd_tup, gd_lst, ix_lst, ty_int, ty_tup, ty_str, isi_ii, isi_ib, isi_tt, isi_ss, reduceIte, Bool.true_eq_false, Bool.false_eq_true, Bool.not_true, Bool.not_false,  List.zip_cons_cons, List.zip_nil_right, List.foldl_cons, List.foldl_nil, ne_eq, not_false_eq_true, not_true_eq_false, Bool.not_eq_true', decide_eq_false_iff_not, decide_eq_true_eq, reduceCtorEq, List.cons.injEq, and_self, D.ref.injEq, Cell.obj.injEq, D.int.injEq]
  refine ⟨k, rfl, ?_⟩
  try simp only [body, exs, ex, ev, evs, evB, evO, evT, evI, startD, List.map_cons, List.map_nil, List.length_cons, List.length_nil, Nat.reduceAdd, Nat.reduceSub, List.replicate, List.cons_append, List.nil_append, List.append_nil, List.getElem?_cons_zero, List.getElem?_cons_succ, Option.some.injEq, exists_and_left, exists_eq_left', exists_eq_left, exists_eq, ix_tup, at0, at1, at2, op_add', op_sub', op_mul', op_fdiv', op_mod', op_pow', op_addT, cm_lt, cm_le, cm_gt, cm_ge, cm_eq, cm_ne, cm_eqS, cm_neS, onb, oni, yn_gd, yn_cls, Nat.reduceLT, if_true, if_false, true_and, and_true, List.set_cons_zero, List.set_cons_succ, set_nm, set_tup, set_nil, set_cons, ifb, b1_abs, b1_int, b1_intB, b1_lenT, b1_lenL, b1_tupL, b1_tupT, b2_min, b2_max, seq_tup, seq_lst, seq_sq, gd_sq, ix_sq, len_sq, new_t, new_f, gd_tup, gd_lst, ix_lst, ty_int, ty_tup, ty_str, isi_ii, isi_ib, isi_tt, isi_ss, reduceIte, Bool.true_eq_false, Bool.false_eq_true, Bool.not_true, Bool.not_false,  List.zip_cons_cons, List.zip_nil_right, List.foldl_cons, List.foldl_nil, ne_eq, not_false_eq_true, not_true_eq_false, Bool.not_eq_true', decide_eq_false_iff_not, decide_eq_true_eq, reduceCtorEq, List.cons.injEq, and_self, D.ref.injEq, Cell.obj.injEq, D.int.injEq]
  refine ⟨k, n, w, M, rfl, n1, n2, w1, w2, ?_⟩
  try simp only [body, exs, ex, ev, evs, evB, evO, evT, evI, startD, List.map_cons, List.map_nil, List.length_cons, List.length_nil, Nat.reduceAdd, Nat.reduceSub, List.replicate, List.cons_append, List.nil_append, List.append_nil, List.getElem?_cons_zero, List.getElem?_cons_succ, Option.some.injEq, exists_and_left, exists_eq_left', exists_eq_left, exists_eq, ix_tup, at0, at1, at2, op_add', op_sub', op_mul', op_fdiv', op_mod', op_pow', op_addT, cm_lt, cm_le, cm_gt, cm_ge, cm_eq, cm_ne, cm_eqS, cm_neS, onb, oni, yn_gd, yn_cls, Nat.reduceLT, if_true, if_false, true_and, and_true, List.set_cons_zero, List.set_cons_succ, set_nm, set_tup, set_nil, set_cons, ifb, b1_abs, b1_int, b1_intB, b1_lenT, b1_lenL, b1_tupL, b1_tupT, b2_min, b2_max, seq_tup, seq_lst, seq_sq, gd_sq, ix_sq, len_sq, new_t, new_f, gd_tup, gd_lst, ix_lst, ty_int, ty_tup, ty_str, isi_ii, isi_ib, isi_tt, isi_ss, reduceIte, Bool.true_eq_false, Bool.false_eq_true, Bool.not_true, Bool.not_false,  List.zip_cons_cons, List.zip_nil_right, List.foldl_cons, List.foldl_nil, ne_eq, not_false_eq_true, not_true_eq_false, Bool.not_eq_true', decide_eq_false_iff_not, decide_eq_true_eq, reduceCtorEq, List.cons.injEq, and_self, D.ref.injEq, Cell.obj.injEq, D.int.injEq]
  exact ⟨m, SubO.refl, q⟩
def s_check_row : Spec := fun ds m Q => ∃ (k : Ks) (n w : Nat) (M : Nat → Nat → (sys k).F) (v : Nat → (sys k).F), ds = [.int (sys k).by_, (sys k).mat n w M, (sys k).row w v] ∧ 1 ≤ n ∧ n ≤ 16 ∧ 1 ≤ w ∧ w ≤ 16 ∧ Q .non m
end Og.Lk44
end
section
set_option maxHeartbeats 4000000
set_option autoImplicit false
/-! Og: drawing. -/
namespace Og
open PySem
theorem len_seq {m : Mem} {v : D} {l : List D} {Q : KD} (h : seqOf m v = some l) : b1D .len v m Q = Q (.int (l.length : Nat)) m := by
  cases v with
  | tup ds => cases h; exact b1_lenT
  | lst ds => cases h; exact b1_lenL
  | ref p =>
    show (∃ ds, seqOf m (.ref p) = some ds ∧ Q (.int (ds.length : Nat)) m) = _
    simp only [h, Option.some.injEq, exists_eq_left']
  | _ => cases h
theorem ix_seq {m : Mem} {v : D} {l : List D} {a : Int} {Q : KD} (h : seqOf m v = some l) : ixD m v (.int a) Q = ∃ d, L2.atI l a = some d ∧ Q d m := by
  cases v with
  | tup ds => cases h; exact ix_tup
  | lst ds => cases h; exact ix_lst
  | ref p =>
    show (∃ ds d, seqOf m (.ref p) = some ds ∧ L2.atI ds a = some d ∧ Q d m) = _
    simp only [h, Option.some.injEq, exists_and_left, exists_eq_left']
  | _ => cases h
theorem put_comm {m : Mem} {p q : Addr} {c c' : Cell} (h : p ≠ q) : put (put m p c) q c' = put (put m q c') p c := by
  funext a
  unfold put
  by_cases h1 : a = q
  · subst h1; simp [Ne.symm h]
  · by_cases h2 : a = p
    · subst h2; simp [h]
    · simp [h1, h2]
/-- one list's cell written -/
def Chg (m m' : Mem) (p : Addr) : Prop := ∃ l, m' = put m p (.lst l)
def Pot (L : Nat) (m : Mem) (p : Addr) : Prop := ∃ a b c : Int, m p = some (.lst [.int a, .int b, .int c]) ∧ 0 ≤ a ∧ a < 2 ^ 1100 ∧ 0 ≤ b ∧ b < 2 ^ 62 ∧ 0 ≤ c ∧ c ≤ (L : Int)
section
variable {m m' m2 : Mem} {p q : Addr} {L K : Nat} {l : List D}
theorem Chg.trans (h : Chg m m' p) (h' : Chg m' m2 p) : Chg m m2 p := by
  obtain ⟨l, rfl⟩ := h
  obtain ⟨l', rfl⟩ := h'
  exact ⟨l', by rw [put_put]⟩
theorem Pot.at_ (h : Pot L m p) : ∃ l, m p = some (.lst l) := let ⟨_, _, _, e, _⟩ := h; ⟨_, e⟩
theorem Pot.refl (h : Pot L m p) : Chg m m p := by
  obtain ⟨l, e⟩ := h.at_
  exact ⟨l, (put_self e).symm⟩
theorem Pot.mono (h : Pot L m p) (hl : L ≤ K) : Pot K m p := by
  obtain ⟨a, b, c, e, h1, h2, h3, h4, h5, h6⟩ := h
  exact ⟨a, b, c, e, h1, h2, h3, h4, h5, by omega⟩
theorem Pot.ne (h : Pot L m p) (hq : m q = none) : p ≠ q := fun z => by
  obtain ⟨l, e⟩ := h.at_
  rw [z, hq] at e; cases e
theorem Pot.put (h : Pot L m p) (hn : p ≠ q) {c : Cell} : Pot L (put m q c) p := by
  obtain ⟨a, b, c', e, r⟩ := h
  exact ⟨a, b, c', by rw [put_ne hn]; exact e, r⟩
theorem Chg.none (h : Chg m m' p) (hn : p ≠ q) (hq : m q = none) : m' q = none := by
  obtain ⟨l, rfl⟩ := h
  rw [put_ne (Ne.symm hn)]; exact hq
theorem Chg.other (h : Chg m m' p) (hn : p ≠ q) : m' q = m q := by
  obtain ⟨l, rfl⟩ := h
  exact put_ne (Ne.symm hn)
/-- beside a list's cell -/
theorem Chg.beside {c : Cell} (hn : p ≠ q) (h : Chg (Og.put m q c) m2 p) : ∃ m', m2 = Og.put m' q c ∧ Chg m m' p := by
  obtain ⟨l, rfl⟩ := h
  exact ⟨_, put_comm (Ne.symm hn), l, rfl⟩
theorem Pot.back {c : Cell} (hn : p ≠ q) (h : Pot L (Og.put m q c) p) : Pot L m p := by
  obtain ⟨a, b, c', e, r⟩ := h
  exact ⟨a, b, c', by rw [put_ne hn] at e; exact e, r⟩
theorem wf_chg (w : WfM m) (h : Chg m m' p) (hp : ∃ l, m p = some (.lst l)) : WfM m' := by
  obtain ⟨l, rfl⟩ := h
  obtain ⟨l0, e0⟩ := hp
  intro a C dx fs e
  by_cases ea : a = p
  · rw [ea, put_same] at e; cases e
  · rw [put_ne ea] at e
    have q := w a C dx fs e
    have : dx ≠ p := fun z => by rw [z, e0] at q; cases q
    rw [put_ne this]; exact q
end
/-- a comprehension that draws -/
theorem lc_inv {ι : Type} {G : Mem → Prop} {T : D → Mem → (Option D → Mem → Prop) → Prop} {q : Addr} {Q : List D → Mem → Prop} (g : ι → D) (I : Nat → List D → Mem → Prop) : ∀ (l : List ι) (n : Nat) (acc : List D) (m : Mem), I n acc m →
    (∀ i (hi : i < l.length) acc m (K : Option D → Mem → Prop), I (n + i) acc m → (∀ e m1, m1 q = some (.lst acc) → I (n + i + 1) (acc ++ [e]) (put m1 q (.lst (acc ++ [e]))) → K (some e) m1) → G m ∧ T (g l[i]) m K) →
    (∀ acc m, I (n + l.length) acc m → G m ∧ m q = some (.lst acc) ∧ Q acc m) → lcL G T q (l.map g) acc m Q
  | [], n, acc, m, h0, _, h2 => h2 acc m h0
  | a :: l, n, acc, m, h0, h1, h2 => by
    simp only [List.map_cons, lcL]
    refine h1 0 (by simp) acc m _ h0 fun e m1 hq hI => ⟨hq, ?_⟩
    exact lc_inv g I l (n + 1) _ _ hI (fun i hi acc m K hi' hK => by
      have := h1 (i + 1) (by simp; omega) acc m K (by rw [show n + (i + 1) = n + 1 + i from by omega]; exact hi') (fun e m1 a b => hK e m1 a (by rw [show n + 1 + i + 1 = n + (i + 1) + 1 from by omega]; exact b))
      simpa using this) (fun acc m h => h2 acc m (by simp only [List.length_cons]; rw [show n + (l.length + 1) = n + 1 + l.length from by omega]; exact h))
theorem rat_cd {t b : Int} {x : Rat} (h2' : x * (b : Rat) = (t : Rat)) (hb : b = 1 ∨ b = 2 ∨ b = 3 ∨ b = 7) : Fr.cd 42 (t.natAbs * 42) x := by
  rcases hb with rfl | rfl | rfl | rfl
  · exact ⟨t * 42, by rw [Int.natAbs_mul]; simp, by rw [Rat.intCast_mul, ← h2']; grind⟩
  · exact ⟨t * 21, by rw [Int.natAbs_mul]; simp; omega, by rw [Rat.intCast_mul, ← h2']; grind⟩
  · exact ⟨t * 14, by rw [Int.natAbs_mul]; simp; omega, by rw [Rat.intCast_mul, ← h2']; grind⟩
  · exact ⟨t * 6, by rw [Int.natAbs_mul]; simp; omega, by rw [Rat.intCast_mul, ← h2']; grind⟩
theorem cd_quo (k : Ks) : ∀ {t b : Int} {x : (sys k).F}, (sys k).quo t b x → b = 1 ∨ b = 2 ∨ b = 3 ∨ b = 7 → (sys k).cd 42 (t.natAbs * 42) x :=
  sys_cases (P := fun S => ∀ {t b : Int} {x : S.F}, S.quo t b x → b = 1 ∨ b = 2 ∨ b = 3 ∨ b = 7 → S.cd 42 (t.natAbs * 42) x) (fun h hb => rat_cd h.2 hb) (fun p _ h => fun _ _ => trivial) k
end Og
end
section
set_option maxHeartbeats 4000000
set_option autoImplicit false
namespace Og.Lk44
open PySem Og
def s_take : Spec := fun ds m Q => ∃ (p : Addr) (n L : Nat), ds = [.ref p, .int (n : Int)] ∧ 1 ≤ n ∧ n ≤ 2 ^ 40 ∧ Pot L m p ∧ L ≤ 1000000 ∧ ∀ (i : Nat) (m' : Mem), i < n → Chg m m' p → Pot (L + 1) m' p → Q (.int (i : Int)) m'
theorem natmod {a : Int} {n : Nat} (h : 0 ≤ a) (hn : 1 ≤ n) : ∃ i : Nat, a.fmod (n : Int) = (i : Int) ∧ i < n := by
  rw [fmod_p]
  exact mod_in (by omega)
theorem law_take {X : Ctx} (ds : List D) (m : Mem) (Q : KD) (h : s_take ds m Q) : body X 5 c9 ds m Q := by
  obtain ⟨p, n, L, rfl, n1, n2, ⟨a, b, c, hp, ha0, ha1, hb0, hb1, hc0, hc1⟩, hL, q⟩ := h
  simp only [c9, ix_ref hp, body, exs, ex, ev, evs, evB, evO, evT, evI, startD, List.map_cons, List.map_nil, List.length_cons, List.length_nil, Nat.reduceAdd, Nat.reduceSub, List.replicate, List.cons_append, List.nil_append, List.append_nil, List.getElem?_cons_zero, List.getElem?_cons_succ, Option.some.injEq, exists_and_left, exists_eq_left', exists_eq_left, exists_eq, ix_tup, at0, at1, at2, op_add', op_sub', op_mul', op_fdiv', op_mod', op_pow', op_addT, cm_lt, cm_le, cm_gt, cm_ge, cm_eq, cm_ne, cm_eqS, cm_neS, onb, oni, yn_gd, yn_cls, Nat.reduceLT, if_true, if_false, true_and, and_true, List.set_cons_zero, List.set_cons_succ, set_nm, set_tup, set_nil, set_cons, ifb, b1_abs, b1_int, b1_intB, b1_lenT, b1_lenL, b1_tupL, b1_tupT, b2_min, b2_max, seq_tup, seq_lst, seq_sq, gd_sq, ix_sq, len_sq, new_t, new_f, gd_tup, gd_lst, ix_lst, ty_int, ty_tup, ty_str, isi_ii, isi_ib, isi_tt, isi_ss, reduceIte, Bool.true_eq_false, Bool.false_eq_true, Bool.not_true, Bool.not_false,  List.zip_cons_cons, List.zip_nil_right, List.foldl_cons, List.foldl_nil, ne_eq, not_false_eq_true, not_true_eq_false, Bool.not_eq_true', decide_eq_false_iff_not, decide_eq_true_eq, reduceCtorEq, List.cons.injEq, and_self, D.ref.injEq, Cell.obj.injEq, D.int.injEq]
  by_cases ha : 0 < a
  · rw [if_pos ha]
    obtain ⟨i, ei, hi⟩ := natmod ha0 n1
    have df : a.fdiv (n : Int) = a / (n : Int) := Int.fdiv_eq_ediv_of_nonneg _ (by omega)
    have hd0 : 0 ≤ a / (n : Int) := Int.ediv_nonneg ha0 (by omega)
    have hd1 : a / (n : Int) ≤ a := Int.ediv_le_self _ ha0
    refine ⟨by omega, by omega, _, hp, 0, rfl, ?_⟩
    rw [ei, df]
    exact ⟨_, SubO.refl, q i _ hi ⟨_, rfl⟩ ⟨_, b, c, put_same, hd0, by omega, hb0, hb1, hc0, by omega⟩⟩
  · rw [if_neg ha]
    refine ⟨_, hp, 2, rfl, ?_⟩
    have hm : put m p (.lst ([D.int a, D.int b, D.int c].set 2 (D.int (c + 1)))) p = some (.lst [.int a, .int b, .int (c + 1)]) := put_same
    generalize hmm : put m p (.lst ([D.int a, D.int b, D.int c].set 2 (D.int (c + 1)))) = m1 at hm ⊢
    have hch : Chg m m1 p := ⟨_, hmm.symm⟩
    simp only [ix_ref hm, body, exs, ex, ev, evs, evB, evO, evT, evI, startD, List.map_cons, List.map_nil, List.length_cons, List.length_nil, Nat.reduceAdd, Nat.reduceSub, List.replicate, List.cons_append, List.nil_append, List.append_nil, List.getElem?_cons_zero, List.getElem?_cons_succ, Option.some.injEq, exists_and_left, exists_eq_left', exists_eq_left, exists_eq, ix_tup, at0, at1, at2, op_add', op_sub', op_mul', op_fdiv', op_mod', op_pow', op_addT, cm_lt, cm_le, cm_gt, cm_ge, cm_eq, cm_ne, cm_eqS, cm_neS, onb, oni, yn_gd, yn_cls, Nat.reduceLT, if_true, if_false, true_and, and_true, List.set_cons_zero, List.set_cons_succ, set_nm, set_tup, set_nil, set_cons, ifb, b1_abs, b1_int, b1_intB, b1_lenT, b1_lenL, b1_tupL, b1_tupT, b2_min, b2_max, seq_tup, seq_lst, seq_sq, gd_sq, ix_sq, len_sq, new_t, new_f, gd_tup, gd_lst, ix_lst, ty_int, ty_tup, ty_str, isi_ii, isi_ib, isi_tt, isi_ss, reduceIte, Bool.true_eq_false, Bool.false_eq_true, Bool.not_true, Bool.not_false,  List.zip_cons_cons, List.zip_nil_right, List.foldl_cons, List.foldl_nil, ne_eq, not_false_eq_true, not_true_eq_false, Bool.not_eq_true', decide_eq_false_iff_not, decide_eq_true_eq, reduceCtorEq, List.cons.injEq, and_self, D.ref.injEq, Cell.obj.injEq, D.int.injEq]
    obtain ⟨j, ej, hj⟩ := natmod (a := c + 1) (n := 5) (by omega) (by omega)
    rw [show (5 : Int) = ((5 : Nat) : Int) from rfl, ej]
    have hpr : ∃ pr : Nat, L2.atI [D.int 2147483647, D.int 2147483629, D.int 2147483587, D.int 2147483579, D.int 2147483563] (j : Int) = some (.int (pr : Int)) ∧ 1 ≤ pr ∧ pr < 2 ^ 31 := by
      rcases (by omega : j = 0 ∨ j = 1 ∨ j = 2 ∨ j = 3 ∨ j = 4) with rfl | rfl | rfl | rfl | rfl
      · exact ⟨2147483647, rfl, by decide, by decide⟩
      · exact ⟨2147483629, rfl, by decide, by decide⟩
      · exact ⟨2147483587, rfl, by decide, by decide⟩
      · exact ⟨2147483579, rfl, by decide, by decide⟩
      · exact ⟨2147483563, rfl, by decide, by decide⟩
    obtain ⟨pr, epr, pr1, pr2⟩ := hpr
    simp only [epr, body, exs, ex, ev, evs, evB, evO, evT, evI, startD, List.map_cons, List.map_nil, List.length_cons, List.length_nil, Nat.reduceAdd, Nat.reduceSub, List.replicate, List.cons_append, List.nil_append, List.append_nil, List.getElem?_cons_zero, List.getElem?_cons_succ, Option.some.injEq, exists_and_left, exists_eq_left', exists_eq_left, exists_eq, ix_tup, at0, at1, at2, op_add', op_sub', op_mul', op_fdiv', op_mod', op_pow', op_addT, cm_lt, cm_le, cm_gt, cm_ge, cm_eq, cm_ne, cm_eqS, cm_neS, onb, oni, yn_gd, yn_cls, Nat.reduceLT, if_true, if_false, true_and, and_true, List.set_cons_zero, List.set_cons_succ, set_nm, set_tup, set_nil, set_cons, ifb, b1_abs, b1_int, b1_intB, b1_lenT, b1_lenL, b1_tupL, b1_tupT, b2_min, b2_max, seq_tup, seq_lst, seq_sq, gd_sq, ix_sq, len_sq, new_t, new_f, gd_tup, gd_lst, ix_lst, ty_int, ty_tup, ty_str, isi_ii, isi_ib, isi_tt, isi_ss, reduceIte, Bool.true_eq_false, Bool.false_eq_true, Bool.not_true, Bool.not_false,  List.zip_cons_cons, List.zip_nil_right, List.foldl_cons, List.foldl_nil, ne_eq, not_false_eq_true, not_true_eq_false, Bool.not_eq_true', decide_eq_false_iff_not, decide_eq_true_eq, reduceCtorEq, List.cons.injEq, and_self, D.ref.injEq, Cell.obj.injEq, D.int.injEq]
    have sq1 : (116443 * (c + 1)).natAbs < 2 ^ 64 := by omega
    have bnd : 0 ≤ 116443 * (c + 1) * (c + 1) ∧ 116443 * (c + 1) * (c + 1) ≤ 2 ^ 62 := by
      have h1 : 0 ≤ 116443 * (c + 1) := by omega
      have h2 : 116443 * (c + 1) ≤ 2 ^ 40 := by omega
      have h3 : (c + 1) ≤ 2 ^ 21 := by omega
      refine ⟨Int.mul_nonneg h1 (by omega), ?_⟩
      have := Int.mul_le_mul h2 h3 (by omega) (by decide)
      exact Int.le_trans this (by decide)
    have v0 : 0 ≤ b + 116443 * (c + 1) * (c + 1) + 2853 := by omega
    have v1 : b + 116443 * (c + 1) * (c + 1) + 2853 < 2 ^ 64 := by omega
    generalize b + 116443 * (c + 1) * (c + 1) + 2853 = v at v0 v1 ⊢
    have vb : Builtin.Int.intBits v ≤ 64 := bits_le (i := v) (n := 64) (by omega)
    have p0 : 0 ≤ v ^ Int.toNat 3 := Int.pow_nonneg v0
    obtain ⟨e1, he1, he2⟩ := natmod p0 pr1
    refine ⟨by omega, by omega, mulOk_small (by decide), mulOk_small sq1, by omega, by omega, by omega, by omega, ?_⟩
    rw [he1]
    obtain ⟨e2, he3, he4⟩ := natmod (a := (e1 : Int)) (n := 14569) (by omega) (by omega)
    rw [show (14569 : Int) = ((14569 : Nat) : Int) from rfl, he3]
    simp only [ix_ref hm, body, exs, ex, ev, evs, evB, evO, evT, evI, startD, List.map_cons, List.map_nil, List.length_cons, List.length_nil, Nat.reduceAdd, Nat.reduceSub, List.replicate, List.cons_append, List.nil_append, List.append_nil, List.getElem?_cons_zero, List.getElem?_cons_succ, Option.some.injEq, exists_and_left, exists_eq_left', exists_eq_left, exists_eq, ix_tup, at0, at1, at2, op_add', op_sub', op_mul', op_fdiv', op_mod', op_pow', op_addT, cm_lt, cm_le, cm_gt, cm_ge, cm_eq, cm_ne, cm_eqS, cm_neS, onb, oni, yn_gd, yn_cls, Nat.reduceLT, if_true, if_false, true_and, and_true, List.set_cons_zero, List.set_cons_succ, set_nm, set_tup, set_nil, set_cons, ifb, b1_abs, b1_int, b1_intB, b1_lenT, b1_lenL, b1_tupL, b1_tupT, b2_min, b2_max, seq_tup, seq_lst, seq_sq, gd_sq, ix_sq, len_sq, new_t, new_f, gd_tup, gd_lst, ix_lst, ty_int, ty_tup, ty_str, isi_ii, isi_ib, isi_tt, isi_ss, reduceIte, Bool.true_eq_false, Bool.false_eq_true, Bool.not_true, Bool.not_false,  List.zip_cons_cons, List.zip_nil_right, List.foldl_cons, List.foldl_nil, ne_eq, not_false_eq_true, not_true_eq_false, Bool.not_eq_true', decide_eq_false_iff_not, decide_eq_true_eq, reduceCtorEq, List.cons.injEq, and_self, D.ref.injEq, Cell.obj.injEq, D.int.injEq]
    have w0 : 0 ≤ (e2 : Int) + 673 * (c + 1) := by omega
    have w1 : ((e2 : Int) + 673 * (c + 1)).natAbs < 2 ^ 64 := by omega
    generalize (e2 : Int) + 673 * (c + 1) = u at w0 w1 ⊢
    have u0 : 0 ≤ (e1 : Int) * u := Int.mul_nonneg (by omega) w0
    obtain ⟨e3, he5, he6⟩ := natmod (n := 2305843009213693907) u0 (by omega)
    refine ⟨mulOk_small (by decide), mulOk_small (by omega), by omega, by omega, by omega, ?_⟩
    rw [show (2305843009213693907 : Int) = ((2305843009213693907 : Nat) : Int) from rfl, he5]
    have f0 : 0 ≤ (e3 : Int).fdiv 167 := by rw [Int.fdiv_eq_ediv_of_nonneg _ (by omega)]; omega
    obtain ⟨e4, he7, he8⟩ := natmod f0 n1
    rw [he7]
    exact ⟨m1, SubO.refl, q e4 m1 he8 hch ⟨a, b, c + 1, hm, ha0, ha1, hb0, hb1, by omega, by omega⟩⟩
def s_of : Spec := fun ds m Q => ∃ (p : Addr) (L : Nat) (v : D) (l : List D), ds = [.ref p, v] ∧ Pot L m p ∧ L ≤ 1000000 ∧ 1 ≤ l.length ∧ l.length ≤ 1000000 ∧ (∀ m', Chg m m' p → seqOf m' v = some l) ∧ ∀ (d : D) (m' : Mem), d ∈ l → Chg m m' p → Pot (L + 1) m' p → Q d m'
theorem law_of {X : Ctx} (ht : X.fn 9 = s_take) (ds : List D) (m : Mem) (Q : KD) (h : s_of ds m Q) : body X 2 c10 ds m Q := by
  obtain ⟨p, L, v, l, rfl, hp, hL, l1, l2, hv, q⟩ := h
  simp only [c10, ht, len_seq (hv m hp.refl), body, exs, ex, ev, evs, evB, evO, evT, evI, startD, List.map_cons, List.map_nil, List.length_cons, List.length_nil, Nat.reduceAdd, Nat.reduceSub, List.replicate, List.cons_append, List.nil_append, List.append_nil, List.getElem?_cons_zero, List.getElem?_cons_succ, Option.some.injEq, exists_and_left, exists_eq_left', exists_eq_left, exists_eq, ix_tup, at0, at1, at2, op_add', op_sub', op_mul', op_fdiv', op_mod', op_pow', op_addT, cm_lt, cm_le, cm_gt, cm_ge, cm_eq, cm_ne, cm_eqS, cm_neS, onb, oni, yn_gd, yn_cls, Nat.reduceLT, if_true, if_false, true_and, and_true, List.set_cons_zero, List.set_cons_succ, set_nm, set_tup, set_nil, set_cons, ifb, b1_abs, b1_int, b1_intB, b1_lenT, b1_lenL, b1_tupL, b1_tupT, b2_min, b2_max, seq_tup, seq_lst, seq_sq, gd_sq, ix_sq, len_sq, new_t, new_f, gd_tup, gd_lst, ix_lst, ty_int, ty_tup, ty_str, isi_ii, isi_ib, isi_tt, isi_ss, reduceIte, Bool.true_eq_false, Bool.false_eq_true, Bool.not_true, Bool.not_false,  List.zip_cons_cons, List.zip_nil_right, List.foldl_cons, List.foldl_nil, ne_eq, not_false_eq_true, not_true_eq_false, Bool.not_eq_true', decide_eq_false_iff_not, decide_eq_true_eq, reduceCtorEq, List.cons.injEq, and_self, D.ref.injEq, Cell.obj.injEq, D.int.injEq]
  refine ⟨p, l.length, L, rfl, l1, by omega, hp, hL, fun i m' hi hc hp' => ?_⟩
  show ixD m' v (.int (i : Int)) _
  rw [ix_seq (hv m' hc), atI_nat, List.getElem?_eq_getElem hi]
  try simp only [body, exs, ex, ev, evs, evB, evO, evT, evI, startD, List.map_cons, List.map_nil, List.length_cons, List.length_nil, Nat.reduceAdd, Nat.reduceSub, List.replicate, List.cons_append, List.nil_append, List.append_nil, List.getElem?_cons_zero, List.getElem?_cons_succ, Option.some.injEq, exists_and_left, exists_eq_left', exists_eq_left, exists_eq, ix_tup, at0, at1, at2, op_add', op_sub', op_mul', op_fdiv', op_mod', op_pow', op_addT, cm_lt, cm_le, cm_gt, cm_ge, cm_eq, cm_ne, cm_eqS, cm_neS, onb, oni, yn_gd, yn_cls, Nat.reduceLT, if_true, if_false, true_and, and_true, List.set_cons_zero, List.set_cons_succ, set_nm, set_tup, set_nil, set_cons, ifb, b1_abs, b1_int, b1_intB, b1_lenT, b1_lenL, b1_tupL, b1_tupT, b2_min, b2_max, seq_tup, seq_lst, seq_sq, gd_sq, ix_sq, len_sq, new_t, new_f, gd_tup, gd_lst, ix_lst, ty_int, ty_tup, ty_str, isi_ii, isi_ib, isi_tt, isi_ss, reduceIte, Bool.true_eq_false, Bool.false_eq_true, Bool.not_true, Bool.not_false,  List.zip_cons_cons, List.zip_nil_right, List.foldl_cons, List.foldl_nil, ne_eq, not_false_eq_true, not_true_eq_false, Bool.not_eq_true', decide_eq_false_iff_not, decide_eq_true_eq, reduceCtorEq, List.cons.injEq, and_self, D.ref.injEq, Cell.obj.injEq, D.int.injEq]
  exact ⟨m', SubO.refl, q _ m' (List.getElem_mem hi) hc hp'⟩
def A0 : Nat := 42 * 10 ^ 12
def s_worth : Spec := fun ds m Q => ∃ (k : Ks) (p : Addr) (L : Nat), ds = [.ref p, .int (sys k).by_] ∧ Pot L m p ∧ L ≤ 999990 ∧ ∀ (x : (sys k).F) (m' : Mem), (sys k).cd 42 A0 x → Chg m m' p → Pot (L + 3) m' p → Q ((sys k).d x) m'
theorem zp_small {p : Nat} [NeZero p] {h : Zp.Pr p} {i : Nat} (hi : i < p) : (zpS p h).d ((zpS p h).I (i : Int)) = .tup [.int (i : Int), .int 1] := by
  unfold Sys.d
  rw [zp_num, Int.emod_eq_of_lt (by omega) (by omega)]
  rfl
theorem law_worth {X : Ctx} (ht : X.fn 9 = s_take) (ho : X.fn 10 = s_of) (hn : X.fn 1 = s_num) (ds : List D) (m : Mem) (Q : KD) (h : s_worth ds m Q) : body X 3 c11 ds m Q := by
  obtain ⟨k, p, L, rfl, hp, hL, q⟩ := h
  revert q
  refine sys_cases (P := fun S => (∀ (x : S.F) (m' : Mem), S.cd 42 A0 x → Chg m m' p → Pot (L + 3) m' p → Q (S.d x) m') → body X 3 c11 [.ref p, .int S.by_] m Q) ?_ ?_ k
  · intro q
    have h0 : ratS.by_ = 0 := rfl
    rw [h0]
    simp only [c11, ht, ho, hn, body, exs, ex, ev, evs, evB, evO, evT, evI, startD, List.map_cons, List.map_nil, List.length_cons, List.length_nil, Nat.reduceAdd, Nat.reduceSub, List.replicate, List.cons_append, List.nil_append, List.append_nil, List.getElem?_cons_zero, List.getElem?_cons_succ, Option.some.injEq, exists_and_left, exists_eq_left', exists_eq_left, exists_eq, ix_tup, at0, at1, at2, op_add', op_sub', op_mul', op_fdiv', op_mod', op_pow', op_addT, cm_lt, cm_le, cm_gt, cm_ge, cm_eq, cm_ne, cm_eqS, cm_neS, onb, oni, yn_gd, yn_cls, Nat.reduceLT, if_true, if_false, true_and, and_true, List.set_cons_zero, List.set_cons_succ, set_nm, set_tup, set_nil, set_cons, ifb, b1_abs, b1_int, b1_intB, b1_lenT, b1_lenL, b1_tupL, b1_tupT, b2_min, b2_max, seq_tup, seq_lst, seq_sq, gd_sq, ix_sq, len_sq, new_t, new_f, gd_tup, gd_lst, ix_lst, ty_int, ty_tup, ty_str, isi_ii, isi_ib, isi_tt, isi_ss, reduceIte, Bool.true_eq_false, Bool.false_eq_true, Bool.not_true, Bool.not_false,  List.zip_cons_cons, List.zip_nil_right, List.foldl_cons, List.foldl_nil, ne_eq, not_false_eq_true, not_true_eq_false, Bool.not_eq_true', decide_eq_false_iff_not, decide_eq_true_eq, reduceCtorEq, List.cons.injEq, and_self, D.ref.injEq, Cell.obj.injEq, D.int.injEq]
    rw [if_neg (by decide)]
    refine ⟨p, 100, L, rfl, by decide, by decide, hp, by omega, fun i m1 hi c1 p1 => ?_⟩
    try simp only [body, exs, ex, ev, evs, evB, evO, evT, evI, startD, List.map_cons, List.map_nil, List.length_cons, List.length_nil, Nat.reduceAdd, Nat.reduceSub, List.replicate, List.cons_append, List.nil_append, List.append_nil, List.getElem?_cons_zero, List.getElem?_cons_succ, Option.some.injEq, exists_and_left, exists_eq_left', exists_eq_left, exists_eq, ix_tup, at0, at1, at2, op_add', op_sub', op_mul', op_fdiv', op_mod', op_pow', op_addT, cm_lt, cm_le, cm_gt, cm_ge, cm_eq, cm_ne, cm_eqS, cm_neS, onb, oni, yn_gd, yn_cls, Nat.reduceLT, if_true, if_false, true_and, and_true, List.set_cons_zero, List.set_cons_succ, set_nm, set_tup, set_nil, set_cons, ifb, b1_abs, b1_int, b1_intB, b1_lenT, b1_lenL, b1_tupL, b1_tupT, b2_min, b2_max, seq_tup, seq_lst, seq_sq, gd_sq, ix_sq, len_sq, new_t, new_f, gd_tup, gd_lst, ix_lst, ty_int, ty_tup, ty_str, isi_ii, isi_ib, isi_tt, isi_ss, reduceIte, Bool.true_eq_false, Bool.false_eq_true, Bool.not_true, Bool.not_false,  List.zip_cons_cons, List.zip_nil_right, List.foldl_cons, List.foldl_nil, ne_eq, not_false_eq_true, not_true_eq_false, Bool.not_eq_true', decide_eq_false_iff_not, decide_eq_true_eq, reduceCtorEq, List.cons.injEq, and_self, D.ref.injEq, Cell.obj.injEq, D.int.injEq]
    refine ⟨by decide, by decide, by decide, by decide, by decide, p, L + 1, _, [.int 0, .int 0, .int 1, .int (-1), .int 2, .int 3, .int (-5), .int 1, .int 0, .int (i : Int), .int (10 ^ 12), .int (-(10 ^ 12))], rfl, p1, by omega, by simp, by simp, fun _ _ => rfl, fun d m2 hd c2 p2 => ?_⟩
    have hd' : ∃ t : Int, d = .int t ∧ t.natAbs ≤ 10 ^ 12 := by
      simp only [List.mem_cons, List.not_mem_nil, or_false] at hd
      rcases hd with rfl | rfl | rfl | rfl | rfl | rfl | rfl | rfl | rfl | rfl | rfl | rfl <;> exact ⟨_, rfl, by omega⟩
    obtain ⟨t, rfl, ht1⟩ := hd'
    try simp only [body, exs, ex, ev, evs, evB, evO, evT, evI, startD, List.map_cons, List.map_nil, List.length_cons, List.length_nil, Nat.reduceAdd, Nat.reduceSub, List.replicate, List.cons_append, List.nil_append, List.append_nil, List.getElem?_cons_zero, List.getElem?_cons_succ, Option.some.injEq, exists_and_left, exists_eq_left', exists_eq_left, exists_eq, ix_tup, at0, at1, at2, op_add', op_sub', op_mul', op_fdiv', op_mod', op_pow', op_addT, cm_lt, cm_le, cm_gt, cm_ge, cm_eq, cm_ne, cm_eqS, cm_neS, onb, oni, yn_gd, yn_cls, Nat.reduceLT, if_true, if_false, true_and, and_true, List.set_cons_zero, List.set_cons_succ, set_nm, set_tup, set_nil, set_cons, ifb, b1_abs, b1_int, b1_intB, b1_lenT, b1_lenL, b1_tupL, b1_tupT, b2_min, b2_max, seq_tup, seq_lst, seq_sq, gd_sq, ix_sq, len_sq, new_t, new_f, gd_tup, gd_lst, ix_lst, ty_int, ty_tup, ty_str, isi_ii, isi_ib, isi_tt, isi_ss, reduceIte, Bool.true_eq_false, Bool.false_eq_true, Bool.not_true, Bool.not_false,  List.zip_cons_cons, List.zip_nil_right, List.foldl_cons, List.foldl_nil, ne_eq, not_false_eq_true, not_true_eq_false, Bool.not_eq_true', decide_eq_false_iff_not, decide_eq_true_eq, reduceCtorEq, List.cons.injEq, and_self, D.ref.injEq, Cell.obj.injEq, D.int.injEq]
    refine ⟨by decide, p, L + 2, _, [.int 1, .int 1, .int 1, .int 1, .int 2, .int 3, .int 7], rfl, p2, by omega, by simp, by simp, fun _ _ => rfl, fun d m3 hd c3 p3 => ?_⟩
    have hd' : ∃ b : Int, d = .int b ∧ (b = 1 ∨ b = 2 ∨ b = 3 ∨ b = 7) := by
      simp only [List.mem_cons, List.not_mem_nil, or_false] at hd
      rcases hd with rfl | rfl | rfl | rfl | rfl | rfl | rfl <;> exact ⟨_, rfl, by omega⟩
    obtain ⟨b, rfl, hb⟩ := hd'
    have hb0 : ratS.I b ≠ 0 := by
      rcases hb with rfl | rfl | rfl | rfl <;> decide
    have hq : ratS.quo t b (ratS.inv (ratS.I b) * ratS.I t) := ⟨hb0, by
      have := ratS.inv_mul _ hb0
      grind⟩
    refine ⟨.q, t, b, _, rfl, hq, m3, SubO.refl, ?_⟩
    exact q _ _ (ratS.cd_le (cd_quo .q hq hb) (by unfold A0; omega)) (c1.trans (c2.trans c3)) p3
  · intro p' _ h q
    have h0 : (zpS p' h).by_ = (p' : Int) := rfl
    have h2 := h.two
    have h3 := h.small
    rw [h0]
    simp only [c11, ht, ho, hn, body, exs, ex, ev, evs, evB, evO, evT, evI, startD, List.map_cons, List.map_nil, List.length_cons, List.length_nil, Nat.reduceAdd, Nat.reduceSub, List.replicate, List.cons_append, List.nil_append, List.append_nil, List.getElem?_cons_zero, List.getElem?_cons_succ, Option.some.injEq, exists_and_left, exists_eq_left', exists_eq_left, exists_eq, ix_tup, at0, at1, at2, op_add', op_sub', op_mul', op_fdiv', op_mod', op_pow', op_addT, cm_lt, cm_le, cm_gt, cm_ge, cm_eq, cm_ne, cm_eqS, cm_neS, onb, oni, yn_gd, yn_cls, Nat.reduceLT, if_true, if_false, true_and, and_true, List.set_cons_zero, List.set_cons_succ, set_nm, set_tup, set_nil, set_cons, ifb, b1_abs, b1_int, b1_intB, b1_lenT, b1_lenL, b1_tupL, b1_tupT, b2_min, b2_max, seq_tup, seq_lst, seq_sq, gd_sq, ix_sq, len_sq, new_t, new_f, gd_tup, gd_lst, ix_lst, ty_int, ty_tup, ty_str, isi_ii, isi_ib, isi_tt, isi_ss, reduceIte, Bool.true_eq_false, Bool.false_eq_true, Bool.not_true, Bool.not_false,  List.zip_cons_cons, List.zip_nil_right, List.foldl_cons, List.foldl_nil, ne_eq, not_false_eq_true, not_true_eq_false, Bool.not_eq_true', decide_eq_false_iff_not, decide_eq_true_eq, reduceCtorEq, List.cons.injEq, and_self, D.ref.injEq, Cell.obj.injEq, D.int.injEq]
    rw [if_pos (by omega)]
    refine ⟨p, p', L, rfl, by omega, by omega, hp, by omega, fun i m1 hi c1 p1 => ?_⟩
    try simp only [body, exs, ex, ev, evs, evB, evO, evT, evI, startD, List.map_cons, List.map_nil, List.length_cons, List.length_nil, Nat.reduceAdd, Nat.reduceSub, List.replicate, List.cons_append, List.nil_append, List.append_nil, List.getElem?_cons_zero, List.getElem?_cons_succ, Option.some.injEq, exists_and_left, exists_eq_left', exists_eq_left, exists_eq, ix_tup, at0, at1, at2, op_add', op_sub', op_mul', op_fdiv', op_mod', op_pow', op_addT, cm_lt, cm_le, cm_gt, cm_ge, cm_eq, cm_ne, cm_eqS, cm_neS, onb, oni, yn_gd, yn_cls, Nat.reduceLT, if_true, if_false, true_and, and_true, List.set_cons_zero, List.set_cons_succ, set_nm, set_tup, set_nil, set_cons, ifb, b1_abs, b1_int, b1_intB, b1_lenT, b1_lenL, b1_tupL, b1_tupT, b2_min, b2_max, seq_tup, seq_lst, seq_sq, gd_sq, ix_sq, len_sq, new_t, new_f, gd_tup, gd_lst, ix_lst, ty_int, ty_tup, ty_str, isi_ii, isi_ib, isi_tt, isi_ss, reduceIte, Bool.true_eq_false, Bool.false_eq_true, Bool.not_true, Bool.not_false,  List.zip_cons_cons, List.zip_nil_right, List.foldl_cons, List.foldl_nil, ne_eq, not_false_eq_true, not_true_eq_false, Bool.not_eq_true', decide_eq_false_iff_not, decide_eq_true_eq, reduceCtorEq, List.cons.injEq, and_self, D.ref.injEq, Cell.obj.injEq, D.int.injEq]
    refine ⟨by omega, m1, SubO.refl, ?_⟩
    rw [← zp_small (h := h) hi]
    exact q _ _ trivial c1 (p1.mono (by omega))
end Og.Lk44
end
section
set_option maxHeartbeats 4000000
set_option autoImplicit false
namespace Og.Lk44
open PySem Og
/-- a row drawn, entry by entry -/
theorem draw_row {S : Sys} {m : Mem} {p : Addr} {L w : Nat} {Q : KD} {T : D → Mem → (Option D → Mem → Prop) → Prop} (hp : Pot L m p) (hL : L ≤ 999900) (hw : w ≤ 16)
    (hT : ∀ (i : Nat) (m' : Mem) (L' : Nat) (K : Option D → Mem → Prop), Pot L' m' p → L' ≤ 999990 → (∀ (x : S.F) m2, S.cd 42 A0 x → Chg m' m2 p → Pot (L' + 3) m2 p → K (some (S.d x)) m2) → T (.int (i : Int)) m' K)
    (q : ∀ (v : Nat → S.F) (m' : Mem), (∀ i, i < w → S.cd 42 A0 (v i)) → Chg m m' p → Pot (L + 48) m' p → Q (.lst ((List.range w).map fun i => S.d (v i))) m') :
    ∀ r, m r = none → lcL (fun _ => True) T r ((List.range w).map fun i => D.int ((i : Nat) : Int)) [] (put m r (.lst [])) (lcEnd false r Q) := by
  intro r hr
  have ne := hp.ne hr
  refine lc_inv _ (fun i acc M => ∃ (v : Nat → S.F) (m' : Mem), (∀ j, j < i → S.cd 42 A0 (v j)) ∧ acc = ((List.range i).map fun j => S.d (v j)) ∧ M = put m' r (.lst acc) ∧ Chg m m' p ∧ Pot (L + 3 * i) m' p) (List.range w) 0 _ _ ⟨fun _ => 0, m, fun j hj => by omega, rfl, rfl, hp.refl, hp⟩ ?_ ?_
  · rintro i hi acc M K ⟨v, m', hv, rfl, rfl, hc, hp'⟩ hK
    have hi' : i < w := by simpa using hi
    have e : (List.range w)[i] = i := by simp
    rw [e]
    simp only [Nat.zero_add] at hv hK hp' ⊢
    refine ⟨trivial, hT i _ (L + 3 * i) K (hp'.put ne) (by omega) fun x m2 hx c2 p2 => ?_⟩
    obtain ⟨m3, rfl, c3⟩ := c2.beside ne
    refine hK _ _ put_same ⟨fun j => if j = i then x else v j, m3, fun j hj => ?_, ?_, by rw [put_put], hc.trans c3, p2.back ne |>.mono (by omega)⟩
    · by_cases z : j = i
      · simp only [z, if_true]; exact hx
      · simp only [z, if_false]; exact hv j (by omega)
    · rw [List.range_succ, List.map_append]
      congr 1
      · refine List.map_congr_left fun j hj => ?_
        have := List.mem_range.mp hj
        simp only [show j ≠ i from by omega, if_false]
      · simp
  · rintro acc M ⟨v, m', hv, rfl, rfl, hc, hp'⟩
    rw [List.length_range, Nat.zero_add] at hv hp' ⊢
    refine ⟨trivial, put_same, ?_⟩
    show Q _ (del (put m' r _) r)
    rw [del_put (hc.none ne hr)]
    exact q v m' hv hc (hp'.mono (by omega))
def s_row : Spec := fun ds m Q => ∃ (k : Ks) (p : Addr) (L w : Nat), ds = [.ref p, .int (sys k).by_, .int (w : Int)] ∧ w ≤ 16 ∧ Pot L m p ∧ L ≤ 999900 ∧ ∀ (v : Nat → (sys k).F) (m' : Mem), (∀ i, i < w → (sys k).cd 42 A0 (v i)) → Chg m m' p → Pot (L + 48) m' p → Q ((sys k).row w v) m'
theorem law_row {X : Ctx} (ho : X.fn 10 = s_of) (hw : X.fn 11 = s_worth) (ds : List D) (m : Mem) (Q : KD) (h : s_row ds m Q) : body X 4 c12 ds m Q := by
  obtain ⟨k, p, L, w, rfl, hw16, hp, hL, q⟩ := h
  have second : (w : Int) ≤ 1000000 ∧ -1000000 ≤ (w : Int) ∧ ∀ r, m r = none → lcL (fun _ => True) (fun (d : D) (m2 : Mem) (K : Option D → Mem → Prop) => s_worth [.ref p, .int (sys k).by_] m2 fun e m4 => K (some e) m4) r ((List.range w).map fun i => D.int ((i : Nat) : Int)) [] (put m r (.lst [])) (lcEnd false r fun x m1 => b1D .tuple x m1 fun d m1 => ∃ m2, SubO m2 m1 ∧ Q d m2) := by
    refine ⟨by omega, by omega, draw_row (S := sys k) hp hL hw16 (fun i m' L' K hp' hL' hK => ⟨k, p, L', rfl, hp', hL', fun x m2 hx c2 p2 => hK x m2 hx c2 p2⟩) fun v m' hv hc hp' => ?_⟩
    rw [tup_row]
    exact ⟨m', SubO.refl, q v m' hv hc hp'⟩
  have small : (sys k).by_ = 0 → (w : Int) ≤ 1000000 ∧ -1000000 ≤ (w : Int) ∧ ∀ r, m r = none → lcL (fun _ => True) (fun (d : D) (m2 : Mem) (K : Option D → Mem → Prop) => 6 ≤ 1000000 ∧ s_of [.ref p, .lst [.int 0, .int 0, .int 1, .int (-1), .int 2, .int (-3)]] m2 fun x m1 => 2 ≤ 1000000 ∧ K (some (.tup [x, .int 1])) m1) r ((List.range w).map fun i => D.int ((i : Nat) : Int)) [] (put m r (.lst [])) (lcEnd false r fun x m1 => b1D .tuple x m1 fun d m1 => ∃ m2, SubO m2 m1 ∧ Q d m2) := by
    revert q second
    refine sys_cases (P := fun S => (∀ (v : Nat → S.F) (m' : Mem), (∀ i, i < w → S.cd 42 A0 (v i)) → Chg m m' p → Pot (L + 48) m' p → Q (S.row w v) m') → _ → S.by_ = 0 → (w : Int) ≤ 1000000 ∧ -1000000 ≤ (w : Int) ∧ ∀ r, m r = none → lcL (fun _ => True) (fun (d : D) (m2 : Mem) (K : Option D → Mem → Prop) => 6 ≤ 1000000 ∧ s_of [.ref p, .lst [.int 0, .int 0, .int 1, .int (-1), .int 2, .int (-3)]] m2 fun x m1 => 2 ≤ 1000000 ∧ K (some (.tup [x, .int 1])) m1) r ((List.range w).map fun i => D.int ((i : Nat) : Int)) [] (put m r (.lst [])) (lcEnd false r fun x m1 => b1D .tuple x m1 fun d m1 => ∃ m2, SubO m2 m1 ∧ Q d m2)) ?_ ?_ k
    · intro q _ _
      refine ⟨by omega, by omega, draw_row (S := ratS) hp hL hw16 (fun i m' L' K hp' hL' hK => ?_) fun v m' hv hc hp' => ?_⟩
      · refine ⟨by decide, p, L', _, _, rfl, hp', by omega, by simp, by simp, fun _ _ => rfl, fun d m2 hd c2 p2 => ⟨by decide, ?_⟩⟩
        have hd' : ∃ t : Int, d = .int t ∧ t.natAbs ≤ 3 := by
          simp only [List.mem_cons, List.not_mem_nil, or_false] at hd
          rcases hd with rfl | rfl | rfl | rfl | rfl | rfl <;> exact ⟨_, rfl, by omega⟩
        obtain ⟨t, rfl, ht⟩ := hd'
        exact hK (ratS.I t) m2 (ratS.cd_le (ratS.cd_I t) (by unfold A0; omega)) c2 (p2.mono (by omega))
      · rw [tup_row]
        exact ⟨m', SubO.refl, q v m' hv hc hp'⟩
    · intro p _ h _ _ h0
      have h1 : (zpS p h).by_ = (p : Int) := rfl
      have := h.two
      omega
  simp only [c12, ho, hw, rgD_nat, body, exs, ex, ev, evs, evB, evO, evT, evI, startD, List.map_cons, List.map_nil, List.length_cons, List.length_nil, Nat.reduceAdd, Nat.reduceSub, List.replicate, List.cons_append, List.nil_append, List.append_nil, List.getElem?_cons_zero, List.getElem?_cons_succ, Option.some.injEq, exists_and_left, exists_eq_left', exists_eq_left, exists_eq, ix_tup, at0, at1, at2, op_add', op_sub', op_mul', op_fdiv', op_mod', op_pow', op_addT, cm_lt, cm_le, cm_gt, cm_ge, cm_eq, cm_ne, cm_eqS, cm_neS, onb, oni, yn_gd, yn_cls, Nat.reduceLT, if_true, if_false, true_and, and_true, List.set_cons_zero, List.set_cons_succ, set_nm, set_tup, set_nil, set_cons, ifb, b1_abs, b1_int, b1_intB, b1_lenT, b1_lenL, b1_tupL, b1_tupT, b2_min, b2_max, seq_tup, seq_lst, seq_sq, gd_sq, ix_sq, len_sq, new_t, new_f, gd_tup, gd_lst, ix_lst, ty_int, ty_tup, ty_str, isi_ii, isi_ib, isi_tt, isi_ss, reduceIte, Bool.true_eq_false, Bool.false_eq_true, Bool.not_true, Bool.not_false,  List.zip_cons_cons, List.zip_nil_right, List.foldl_cons, List.foldl_nil, ne_eq, not_false_eq_true, not_true_eq_false, Bool.not_eq_true', decide_eq_false_iff_not, decide_eq_true_eq, reduceCtorEq, List.cons.injEq, and_self, D.ref.injEq, Cell.obj.injEq, D.int.injEq]
  try simp only [wipeD, body, exs, ex, ev, evs, evB, evO, evT, evI, startD, List.map_cons, List.map_nil, List.length_cons, List.length_nil, Nat.reduceAdd, Nat.reduceSub, List.replicate, List.cons_append, List.nil_append, List.append_nil, List.getElem?_cons_zero, List.getElem?_cons_succ, Option.some.injEq, exists_and_left, exists_eq_left', exists_eq_left, exists_eq, ix_tup, at0, at1, at2, op_add', op_sub', op_mul', op_fdiv', op_mod', op_pow', op_addT, cm_lt, cm_le, cm_gt, cm_ge, cm_eq, cm_ne, cm_eqS, cm_neS, onb, oni, yn_gd, yn_cls, Nat.reduceLT, if_true, if_false, true_and, and_true, List.set_cons_zero, List.set_cons_succ, set_nm, set_tup, set_nil, set_cons, ifb, b1_abs, b1_int, b1_intB, b1_lenT, b1_lenL, b1_tupL, b1_tupT, b2_min, b2_max, seq_tup, seq_lst, seq_sq, gd_sq, ix_sq, len_sq, new_t, new_f, gd_tup, gd_lst, ix_lst, ty_int, ty_tup, ty_str, isi_ii, isi_ib, isi_tt, isi_ss, reduceIte, Bool.true_eq_false, Bool.false_eq_true, Bool.not_true, Bool.not_false,  List.zip_cons_cons, List.zip_nil_right, List.foldl_cons, List.foldl_nil, ne_eq, not_false_eq_true, not_true_eq_false, Bool.not_eq_true', decide_eq_false_iff_not, decide_eq_true_eq, reduceCtorEq, List.cons.injEq, and_self, D.ref.injEq, Cell.obj.injEq, D.int.injEq]
  by_cases h0 : (sys k).by_ = 0
  · rw [if_pos h0]
    by_cases h5 : (5 : Int) < (w : Int)
    · rw [if_pos h5]; exact small h0
    · rw [if_neg h5]; exact second
  · rw [if_neg h0]; exact second
end Og.Lk44
end
section
set_option maxHeartbeats 4000000
set_option autoImplicit false
/-! Og: sizes of sums; lists compared with the empty list; a repeated pair. -/
namespace Og
open PySem
section
variable {S : Sys}
theorem Sm_of {d a n : Nat} {x : S.F} (h : S.cd d a x) (h0 : 0 < d) (h1 : d < 2 ^ n) (h2 : a < 2 ^ n) (h3 : 7 ≤ n) (h4 : n ≤ 2 ^ 26) : S.Sm x := Nat.le_trans (S.cd_ht h h0 h1 h2 h3) h4
theorem sm_cd {d a : Nat} {v : Nat → S.F} : ∀ {n : Nat}, (∀ i, i < n → S.cd d a (v i)) → S.cd d (n * a) (sm n v)
  | 0, _ => by
    rw [Nat.zero_mul]; exact S.cd_zero
  | n + 1, h => by
    rw [Nat.succ_mul]
    exact S.cd_add (sm_cd fun i hi => h i (by omega)) (h n (by omega))
theorem cd_mul1 {f a d : Nat} {x y : S.F} (h : S.cd 1 f x) (h' : S.cd d a y) : S.cd d (f * a) (x * y) := by
  have := S.cd_mul h h'
  rw [Nat.one_mul] at this
  exact this
theorem cdI {i : Int} : S.cd 1 i.natAbs (S.I i) := by
  have := S.cd_I (d := 1) i
  rw [Nat.mul_one] at this
  exact this
/-- whole multiples of rows, added -/
theorem lin_ok {n w F a N : Nat} {f : Nat → S.F} {M : Nat → Nat → S.F} (hf : ∀ i, i < n → S.cd 1 F (f i)) (hM : ∀ i, i < n → ∀ j, j < w → S.cd 42 a (M i j)) (hF : 1 ≤ F) (h1 : n * (F * a) < 2 ^ N) (h2 : F < 2 ^ N) (h7 : 7 ≤ N) (h26 : N ≤ 2 ^ 26) :
    (∀ i, i < n → S.Sm (f i) ∧ ∀ j, j < w → S.Sm (M i j) ∧ S.Sm (f i * M i j) ∧ S.Sm (sm i fun t => f t * M t j)) ∧ ∀ j, j < w → S.cd 42 (n * (F * a)) (sm n fun t => f t * M t j) := by
  have h42 : (42 : Nat) < 2 ^ N := Nat.lt_of_lt_of_le (by decide : (42 : Nat) < 2 ^ 7) (Nat.pow_le_pow_right (by decide) h7)
  have hone : (1 : Nat) < 2 ^ N := by omega
  refine ⟨fun i hi => ⟨Sm_of (hf i hi) (by decide) hone h2 h7 h26, fun j hj => ?_⟩, fun j hj => sm_cd fun i hi => cd_mul1 (hf i hi) (hM i hi j hj)⟩
  have b1 : F * a ≤ n * (F * a) := Nat.le_mul_of_pos_left _ (by omega)
  have b2 : a ≤ F * a := Nat.le_mul_of_pos_left _ (by omega)
  have b3 : i * (F * a) ≤ n * (F * a) := Nat.mul_le_mul_right _ (by omega)
  exact ⟨Sm_of (hM i hi j hj) (by decide) h42 (by omega) h7 h26, Sm_of (cd_mul1 (hf i hi) (hM i hi j hj)) (by decide) h42 (by omega) h7 h26,
    Sm_of (sm_cd fun t ht => cd_mul1 (hf t (by omega)) (hM t (by omega) j hj)) (by decide) h42 (by omega) h7 h26⟩
end
theorem eq_nil {m : Mem} {q : Addr} {l : List D} {Q : KD} (h : m q = some (.lst l)) (hf : flats 39 l = true) : cmpD .eq (.ref q) (.lst []) m Q = Q (.bl l.isEmpty) m := by
  have e : dat m (.ref q) = .lst l := by unfold dat; simp only; rw [h]
  show (D.flat 40 (dat m (.ref q)) = true ∧ D.flat 40 (.lst []) = true ∧ Q (.bl (PyData.eqv (dat m (.ref q)).toP (D.lst []).toP)) m) = _
  rw [e]
  have f1 : D.flat 40 (.lst l) = true := hf
  have e2 : PyData.eqv (D.lst l).toP (D.lst []).toP = l.isEmpty := by
    simp only [D.toP]
    cases l with
    | nil => rfl
    | cons d l => simp only [toPs, PyData.eqv, PyData.eqvAll, List.isEmpty_cons]
  rw [f1, e2]
  simp [D.flat, flats]
theorem rep_eq {ι : Type} {x : D} {w : Nat} : (List.replicate w [x]).flatten = (List.range w).map fun _ => x := by
  induction w with
  | zero => rfl
  | succ w ih =>
    rw [List.replicate_succ', List.flatten_append, ih, List.range_succ, List.map_append]
    rfl
theorem row0 {S : Sys} {w : Nat} : S.row w (fun _ => 0) = .tup ((List.range w).map fun _ => D.tup [.int 0, .int 1]) := by
  unfold Sys.row
  congr 1
  exact List.map_congr_left fun _ _ => d0
/-- the state, with cells of its own laid beside -/
structure Und (m M : Mem) (p : Addr) : Prop where
  b : ∃ b, Chg m b p ∧ SubO b M ∧ WfM b ∧ ∃ l, b p = some (.lst l)
  w : WfM M
section
variable {m M M' : Mem} {p : Addr} {L : Nat}
theorem Und.refl (h : Pot L m p) (w : WfM m) : Und m m p := ⟨⟨m, h.refl, SubO.refl, w, h.at_⟩, w⟩
theorem Und.new (u : Und m M p) {s : Addr} {l : List D} (hs : M s = none) : Und m (put M s (.lst l)) p := by
  obtain ⟨b, h1, h2, h3, h4⟩ := u.b
  exact ⟨⟨b, h1, h2.trans (subo_lst u.w hs), h3, h4⟩, wf_lst u.w hs⟩
theorem Und.chg (u : Und m M p) (c : Chg M M' p) : Und m M' p := by
  obtain ⟨b, h1, h2, h3, l0, h4⟩ := u.b
  obtain ⟨l, rfl⟩ := c
  have c1 : Chg b (put b p (.lst l)) p := ⟨l, rfl⟩
  refine ⟨⟨put b p (.lst l), h1.trans c1, ⟨Sub.put h2.sub, fun a C dx fs e => ?_⟩, wf_chg h3 c1 ⟨_, h4⟩, l, put_same⟩, wf_chg u.w ⟨l, rfl⟩ ⟨l0, h2.sub _ _ h4⟩⟩
  by_cases ea : a = p
  · rw [ea, put_same] at e; cases e
  · rw [put_ne ea] at e
    have q := h3 a C dx fs e
    have nd : dx ≠ p := fun z => by rw [z, h4] at q; cases q
    rw [put_ne nd, put_ne nd]
    exact h2.dx a C dx fs e
theorem Und.fin (u : Und m M p) (h : Pot L M p) : ∃ b, SubO b M ∧ Chg m b p ∧ Pot L b p := by
  obtain ⟨b, h1, h2, h3, l0, h4⟩ := u.b
  obtain ⟨x, y, z, e, r⟩ := h
  have e2 := h2.sub _ _ h4
  rw [e] at e2
  exact ⟨b, h2, h1, x, y, z, by rw [h4]; exact congrArg some (Option.some.inj e2).symm, r⟩
end
end Og
end
section
set_option maxHeartbeats 4000000
set_option autoImplicit false
namespace Og.Lk44
open PySem Og
def s_more : Spec := fun ds m Q => ∃ (k : Ks) (p r : Addr) (L w a : Nat) (rows : List (Nat → (sys k).F)), ds = [.ref p, .int (sys k).by_, .ref r, .int (w : Int)] ∧ m r = some (.lst (rows.map fun v => (sys k).row w v)) ∧ p ≠ r ∧ Pot L m p ∧ 1 ≤ w ∧ w ≤ 16 ∧ L ≤ 999000 ∧ WfM m ∧ A0 ≤ a ∧ a < 2 ^ 300 ∧ rows.length ≤ 100 ∧ (∀ v ∈ rows, ∀ i, i < w → (sys k).cd 42 a (v i)) ∧
  ∀ (v : Nat → (sys k).F) (m' : Mem), (∀ i, i < w → (sys k).cd 42 (6 * a) (v i)) → Chg m m' p → Pot (L + 60) m' p → Q ((sys k).row w v) m'
theorem law_more {X : Ctx} (ht : X.fn 9 = s_take) (ho : X.fn 10 = s_of) (hr : X.fn 12 = s_row) (hn : X.fn 1 = s_num) (hx : X.fn 14 = s_span_mixed) (ds : List D) (m : Mem) (Q : KD) (h : s_more ds m Q) : body X 7 c15 ds m Q := by
  obtain ⟨k, p, r, L, w, a, rows, rfl, hm, ne, hp, w1, w2, hL, wf, ha, ha2, hrl, hrows, q⟩ := h
  have seqr : ∀ m', Chg m m' p → seqOf m' (.ref r) = some (rows.map fun v => (sys k).row w v) := fun m' hc => seq_ref (by rw [hc.other ne]; exact hm)
  have draw : ∀ (m1 : Mem), Chg m m1 p → Pot (L + 1) m1 p → s_row [.ref p, .int (sys k).by_, .int (w : Int)] m1 fun d m1 => ∃ m2, SubO m2 m1 ∧ Q d m2 := fun m1 c1 p1 =>
    ⟨k, p, L + 1, w, rfl, w2, p1, by omega, fun v m' hv c2 p2 => ⟨m', SubO.refl, q v m' (fun i hi => (sys k).cd_le (hv i hi) (by omega)) (c1.trans c2) (p2.mono (by omega))⟩⟩
  simp only [c15, ht, ho, hr, hn, hx, body, exs, ex, ev, evs, evB, evO, evT, evI, startD, List.map_cons, List.map_nil, List.length_cons, List.length_nil, Nat.reduceAdd, Nat.reduceSub, List.replicate, List.cons_append, List.nil_append, List.append_nil, List.getElem?_cons_zero, List.getElem?_cons_succ, Option.some.injEq, exists_and_left, exists_eq_left', exists_eq_left, exists_eq, ix_tup, at0, at1, at2, op_add', op_sub', op_mul', op_fdiv', op_mod', op_pow', op_addT, cm_lt, cm_le, cm_gt, cm_ge, cm_eq, cm_ne, cm_eqS, cm_neS, onb, oni, yn_gd, yn_cls, Nat.reduceLT, if_true, if_false, true_and, and_true, List.set_cons_zero, List.set_cons_succ, set_nm, set_tup, set_nil, set_cons, ifb, b1_abs, b1_int, b1_intB, b1_lenT, b1_lenL, b1_tupL, b1_tupT, b2_min, b2_max, seq_tup, seq_lst, seq_sq, gd_sq, ix_sq, len_sq, new_t, new_f, gd_tup, gd_lst, ix_lst, ty_int, ty_tup, ty_str, isi_ii, isi_ib, isi_tt, isi_ss, reduceIte, Bool.true_eq_false, Bool.false_eq_true, Bool.not_true, Bool.not_false,  List.zip_cons_cons, List.zip_nil_right, List.foldl_cons, List.foldl_nil, ne_eq, not_false_eq_true, not_true_eq_false, Bool.not_eq_true', decide_eq_false_iff_not, decide_eq_true_eq, reduceCtorEq, List.cons.injEq, and_self, D.ref.injEq, Cell.obj.injEq, D.int.injEq]
  refine ⟨p, 8, L, rfl, by decide, by decide, hp, by omega, fun way m1 hway c1 p1 => ?_⟩
  have hm1 : m1 r = some (.lst (rows.map fun v => (sys k).row w v)) := by rw [c1.other ne]; exact hm
  have fl : flats 39 (rows.map fun v => (sys k).row w v) = true := flats_map (fun _ => row_flat) _
  try simp only [body, exs, ex, ev, evs, evB, evO, evT, evI, startD, List.map_cons, List.map_nil, List.length_cons, List.length_nil, Nat.reduceAdd, Nat.reduceSub, List.replicate, List.cons_append, List.nil_append, List.append_nil, List.getElem?_cons_zero, List.getElem?_cons_succ, Option.some.injEq, exists_and_left, exists_eq_left', exists_eq_left, exists_eq, ix_tup, at0, at1, at2, op_add', op_sub', op_mul', op_fdiv', op_mod', op_pow', op_addT, cm_lt, cm_le, cm_gt, cm_ge, cm_eq, cm_ne, cm_eqS, cm_neS, onb, oni, yn_gd, yn_cls, Nat.reduceLT, if_true, if_false, true_and, and_true, List.set_cons_zero, List.set_cons_succ, set_nm, set_tup, set_nil, set_cons, ifb, b1_abs, b1_int, b1_intB, b1_lenT, b1_lenL, b1_tupL, b1_tupT, b2_min, b2_max, seq_tup, seq_lst, seq_sq, gd_sq, ix_sq, len_sq, new_t, new_f, gd_tup, gd_lst, ix_lst, ty_int, ty_tup, ty_str, isi_ii, isi_ib, isi_tt, isi_ss, reduceIte, Bool.true_eq_false, Bool.false_eq_true, Bool.not_true, Bool.not_false,  List.zip_cons_cons, List.zip_nil_right, List.foldl_cons, List.foldl_nil, ne_eq, not_false_eq_true, not_true_eq_false, Bool.not_eq_true', decide_eq_false_iff_not, decide_eq_true_eq, reduceCtorEq, List.cons.injEq, and_self, D.ref.injEq, Cell.obj.injEq, D.int.injEq]
  refine ⟨by decide, ?_⟩
  rw [eq_nil hm1 fl]
  try simp only [body, exs, ex, ev, evs, evB, evO, evT, evI, startD, List.map_cons, List.map_nil, List.length_cons, List.length_nil, Nat.reduceAdd, Nat.reduceSub, List.replicate, List.cons_append, List.nil_append, List.append_nil, List.getElem?_cons_zero, List.getElem?_cons_succ, Option.some.injEq, exists_and_left, exists_eq_left', exists_eq_left, exists_eq, ix_tup, at0, at1, at2, op_add', op_sub', op_mul', op_fdiv', op_mod', op_pow', op_addT, cm_lt, cm_le, cm_gt, cm_ge, cm_eq, cm_ne, cm_eqS, cm_neS, onb, oni, yn_gd, yn_cls, Nat.reduceLT, if_true, if_false, true_and, and_true, List.set_cons_zero, List.set_cons_succ, set_nm, set_tup, set_nil, set_cons, ifb, b1_abs, b1_int, b1_intB, b1_lenT, b1_lenL, b1_tupL, b1_tupT, b2_min, b2_max, seq_tup, seq_lst, seq_sq, gd_sq, ix_sq, len_sq, new_t, new_f, gd_tup, gd_lst, ix_lst, ty_int, ty_tup, ty_str, isi_ii, isi_ib, isi_tt, isi_ss, reduceIte, Bool.true_eq_false, Bool.false_eq_true, Bool.not_true, Bool.not_false,  List.zip_cons_cons, List.zip_nil_right, List.foldl_cons, List.foldl_nil, ne_eq, not_false_eq_true, not_true_eq_false, Bool.not_eq_true', decide_eq_false_iff_not, decide_eq_true_eq, reduceCtorEq, List.cons.injEq, and_self, D.ref.injEq, Cell.obj.injEq, D.int.injEq]
  by_cases hnil : (rows.map fun v => (sys k).row w v).isEmpty = true
  · rw [if_pos hnil]
    exact draw m1 c1 p1
  · rw [if_neg hnil]
    have hne : 1 ≤ rows.length := by
      cases rows with
      | nil => exact absurd rfl hnil
      | cons _ _ => simp
    by_cases h4 : (way : Int) < 4
    · rw [if_pos h4]; exact draw m1 c1 p1
    · rw [if_neg h4]
      by_cases h6 : (way : Int) < 6
      · rw [if_pos h6]
        refine ⟨p, L + 1, _, _, rfl, p1, by omega, by simpa using hne, by simp; omega, fun m' hc => seqr m' (c1.trans hc), fun d1 m2 hd1 c2 p2 => ?_⟩
        obtain ⟨v1, hv1, rfl⟩ := List.mem_map.mp hd1
        refine ⟨p, L + 2, _, _, rfl, p2, by omega, by simpa using hne, by simp; omega, fun m' hc => seqr m' (c1.trans (c2.trans hc)), fun d2 m3 hd2 c3 p3 => ?_⟩
        obtain ⟨v2, hv2, rfl⟩ := List.mem_map.mp hd2
        refine ⟨by decide, ?_⟩
        try simp only [body, exs, ex, ev, evs, evB, evO, evT, evI, startD, List.map_cons, List.map_nil, List.length_cons, List.length_nil, Nat.reduceAdd, Nat.reduceSub, List.replicate, List.cons_append, List.nil_append, List.append_nil, List.getElem?_cons_zero, List.getElem?_cons_succ, Option.some.injEq, exists_and_left, exists_eq_left', exists_eq_left, exists_eq, ix_tup, at0, at1, at2, op_add', op_sub', op_mul', op_fdiv', op_mod', op_pow', op_addT, cm_lt, cm_le, cm_gt, cm_ge, cm_eq, cm_ne, cm_eqS, cm_neS, onb, oni, yn_gd, yn_cls, Nat.reduceLT, if_true, if_false, true_and, and_true, List.set_cons_zero, List.set_cons_succ, set_nm, set_tup, set_nil, set_cons, ifb, b1_abs, b1_int, b1_intB, b1_lenT, b1_lenL, b1_tupL, b1_tupT, b2_min, b2_max, seq_tup, seq_lst, seq_sq, gd_sq, ix_sq, len_sq, new_t, new_f, gd_tup, gd_lst, ix_lst, ty_int, ty_tup, ty_str, isi_ii, isi_ib, isi_tt, isi_ss, reduceIte, Bool.true_eq_false, Bool.false_eq_true, Bool.not_true, Bool.not_false,  List.zip_cons_cons, List.zip_nil_right, List.foldl_cons, List.foldl_nil, ne_eq, not_false_eq_true, not_true_eq_false, Bool.not_eq_true', decide_eq_false_iff_not, decide_eq_true_eq, reduceCtorEq, List.cons.injEq, and_self, D.ref.injEq, Cell.obj.injEq, D.int.injEq]
        rw [show [(sys k).row w v1, (sys k).row w v2] = (List.range 2).map (fun i => (sys k).row w (if i = 0 then v1 else v2)) from rfl]
        intro s hs
        have ne3 := p3.ne hs
        have cc3 := c1.trans (c2.trans c3)
        refine lc_inv _ (fun i acc M => ∃ (t : Nat → Int) (m' : Mem), (∀ j, j < i → (t j).natAbs ≤ 3) ∧ acc = ((List.range i).map fun j => (sys k).d ((sys k).I (t j))) ∧ M = put m' s (.lst acc) ∧ Chg m m' p ∧ m' s = none ∧ Pot (L + 3 + i) m' p) (List.range 2) 0 _ _ ⟨fun _ => 0, m3, fun j hj => by omega, rfl, rfl, cc3, hs, p3⟩ ?_ ?_
        · rintro i hi acc M K ⟨t, m', ht3, rfl, rfl, hc, hsn, hp'⟩ hK
          have hi' : i < 2 := by simpa using hi
          have e : ∀ h, (List.range 2)[i]'h = i := fun h => by simp
          simp only [Nat.zero_add] at ht3 hK hp'
          simp only [e, Nat.zero_add]
          refine ⟨trivial, ?_⟩
          try simp only [wipeD, body, exs, ex, ev, evs, evB, evO, evT, evI, startD, List.map_cons, List.map_nil, List.length_cons, List.length_nil, Nat.reduceAdd, Nat.reduceSub, List.replicate, List.cons_append, List.nil_append, List.append_nil, List.getElem?_cons_zero, List.getElem?_cons_succ, Option.some.injEq, exists_and_left, exists_eq_left', exists_eq_left, exists_eq, ix_tup, at0, at1, at2, op_add', op_sub', op_mul', op_fdiv', op_mod', op_pow', op_addT, cm_lt, cm_le, cm_gt, cm_ge, cm_eq, cm_ne, cm_eqS, cm_neS, onb, oni, yn_gd, yn_cls, Nat.reduceLT, if_true, if_false, true_and, and_true, List.set_cons_zero, List.set_cons_succ, set_nm, set_tup, set_nil, set_cons, ifb, b1_abs, b1_int, b1_intB, b1_lenT, b1_lenL, b1_tupL, b1_tupT, b2_min, b2_max, seq_tup, seq_lst, seq_sq, gd_sq, ix_sq, len_sq, new_t, new_f, gd_tup, gd_lst, ix_lst, ty_int, ty_tup, ty_str, isi_ii, isi_ib, isi_tt, isi_ss, reduceIte, Bool.true_eq_false, Bool.false_eq_true, Bool.not_true, Bool.not_false,  List.zip_cons_cons, List.zip_nil_right, List.foldl_cons, List.foldl_nil, ne_eq, not_false_eq_true, not_true_eq_false, Bool.not_eq_true', decide_eq_false_iff_not, decide_eq_true_eq, reduceCtorEq, List.cons.injEq, and_self, D.ref.injEq, Cell.obj.injEq, D.int.injEq]
          refine ⟨by decide, p, L + 3 + i, _, [.int 1, .int (-1), .int 2, .int 3], rfl, hp'.put ne3, by omega, by simp, by simp, fun _ _ => rfl, fun d m4 hd c4 p4 => ?_⟩
          have hd' : ∃ t : Int, d = .int t ∧ t.natAbs ≤ 3 := by
            simp only [List.mem_cons, List.not_mem_nil, or_false] at hd
            rcases hd with rfl | rfl | rfl | rfl <;> exact ⟨_, rfl, by omega⟩
          obtain ⟨t0, rfl, ht0⟩ := hd'
          obtain ⟨m5, rfl, c5⟩ := c4.beside ne3
          refine ⟨k, t0, 1, (sys k).I t0, rfl, quo_int t0, ?_⟩
          refine hK _ _ put_same ⟨fun j => if j = i then t0 else t j, m5, fun j hj => ?_, ?_, by rw [put_put], hc.trans c5, c5.none ne3 hsn, p4.back ne3⟩
          · by_cases z : j = i
            · simp only [z, if_true]; exact ht0
            · simp only [z, if_false]; exact ht3 j (by omega)
          · rw [List.range_succ, List.map_append]
            congr 1
            · refine List.map_congr_left fun j hj => ?_
              have := List.mem_range.mp hj
              simp only [show j ≠ i from by omega, if_false]
            · simp
        · rintro acc M ⟨t, m', ht3, rfl, rfl, hc, hsn, hp'⟩
          rw [List.length_range, Nat.zero_add] at ht3 hp' ⊢
          refine ⟨trivial, put_same, ?_⟩
          simp only [lcEnd]
          rw [del_put hsn]
          have lo := lin_ok (S := sys k) (n := 2) (w := w) (F := 3) (a := a) (N := 310) (f := fun j => (sys k).I (t j)) (M := fun i => if i = 0 then v1 else v2) (fun i hi => (sys k).cd_le cdI (ht3 i hi)) (fun i hi j hj => by
            by_cases z : i = 0
            · simp only [z, if_true]; exact hrows v1 hv1 j hj
            · simp only [z, if_false]; exact hrows v2 hv2 j hj) (by decide) (by
              have : (2 : Nat) ^ 310 = 2 ^ 300 * 2 ^ 10 := by rw [← Nat.pow_add]
              rw [this]; omega) (by decide) (by decide) (by decide)
          refine ⟨k, 2, w, _, _, false, false, rfl, by decide, by omega, wf_chg wf hc hp.at_, lo.1, ?_⟩
          exact ⟨m', SubO.refl, q _ m' (fun j hj => (sys k).cd_le (lo.2 j hj) (by omega)) hc (hp'.mono (by omega))⟩
      · rw [if_neg h6]
        by_cases h66 : (way : Int) = 6
        · rw [if_pos h66]
          have wf1 := wf_chg wf c1 hp.at_
          refine ⟨by decide, by decide, fun s hs => ?_⟩
          refine ⟨_, put_same, by omega, by omega, by decide, fun s2 hs2 => ?_⟩
          dsimp only
          rw [tup_ref put_same]
          refine ⟨m1, (subo_lst wf1 hs).trans (subo_lst (wf_lst wf1 hs) hs2), ?_⟩
          have e : (D.tup ((List.replicate (Int.toNat (w : Int)) [D.tup [D.int 0, D.int 1]]).flatten)) = (sys k).row w fun _ => 0 := by
            rw [Int.toNat_natCast, rep_eq (ι := Nat), row0]
          rw [e]
          exact q _ m1 (fun i hi => (sys k).cd_le (sys k).cd_zero (by omega)) c1 (p1.mono (by omega))
        · rw [if_neg h66]
          refine ⟨p, L + 1, _, _, rfl, p1, by omega, by simpa using hne, by simp; omega, fun m' hc => seqr m' (c1.trans hc), fun d1 m2 hd1 c2 p2 => ?_⟩
          obtain ⟨v1, hv1, rfl⟩ := List.mem_map.mp hd1
          exact ⟨m2, SubO.refl, q v1 m2 (fun i hi => (sys k).cd_le (hrows v1 hv1 i hi) (by omega)) (c1.trans c2) (p2.mono (by omega))⟩
def s_rows : Spec := fun ds m Q => ∃ (k : Ks) (p : Addr) (L n w : Nat), ds = [.ref p, .int (sys k).by_, .int (n : Int), .int (w : Int)] ∧ Pot L m p ∧ 1 ≤ w ∧ w ≤ 16 ∧ n ≤ 16 ∧ L ≤ 900000 ∧ WfM m ∧
  ∀ (M : Nat → Nat → (sys k).F) (m' : Mem), (∀ i, i < n → ∀ j, j < w → (sys k).cd 42 (6 ^ 17 * A0) (M i j)) → Chg m m' p → Pot (L + 960) m' p → Q ((sys k).mat n w M) m'
theorem pow6 {i : Nat} (h : i ≤ 16) : 6 * (6 ^ i * A0) ≤ 6 ^ 17 * A0 ∧ 6 ^ i * A0 < 2 ^ 300 ∧ A0 ≤ 6 ^ i * A0 ∧ 6 ^ i * A0 ≤ 6 ^ 17 * A0 := by
  have h1 : 6 ^ i ≤ 6 ^ 16 := Nat.pow_le_pow_right (by decide) h
  have h2 : 1 ≤ 6 ^ i := Nat.one_le_pow _ _ (by decide)
  have h3 : (6 : Nat) ^ 16 = 2821109907456 := by decide
  have h4 : (6 : Nat) ^ 17 = 16926659444736 := by decide
  have h5 : A0 = 42000000000000 := by decide
  have h6 : (2 : Nat) ^ 128 < 2 ^ 300 := Nat.pow_lt_pow_right (by decide) (by decide)
  rw [h4, h5]
  rw [h3] at h1
  have h7 : (2 : Nat) ^ 128 = 340282366920938463463374607431768211456 := by decide
  omega
theorem law_rows {X : Ctx} (hmo : X.fn 15 = s_more) (ds : List D) (m : Mem) (Q : KD) (h : s_rows ds m Q) : body X 6 c16 ds m Q := by
  obtain ⟨k, p, L, n, w, rfl, hp, w1, w2, hn, hL, wf, q⟩ := h
  simp only [c16, hmo, rgD_nat, body, exs, ex, ev, evs, evB, evO, evT, evI, startD, List.map_cons, List.map_nil, List.length_cons, List.length_nil, Nat.reduceAdd, Nat.reduceSub, List.replicate, List.cons_append, List.nil_append, List.append_nil, List.getElem?_cons_zero, List.getElem?_cons_succ, Option.some.injEq, exists_and_left, exists_eq_left', exists_eq_left, exists_eq, ix_tup, at0, at1, at2, op_add', op_sub', op_mul', op_fdiv', op_mod', op_pow', op_addT, cm_lt, cm_le, cm_gt, cm_ge, cm_eq, cm_ne, cm_eqS, cm_neS, onb, oni, yn_gd, yn_cls, Nat.reduceLT, if_true, if_false, true_and, and_true, List.set_cons_zero, List.set_cons_succ, set_nm, set_tup, set_nil, set_cons, ifb, b1_abs, b1_int, b1_intB, b1_lenT, b1_lenL, b1_tupL, b1_tupT, b2_min, b2_max, seq_tup, seq_lst, seq_sq, gd_sq, ix_sq, len_sq, new_t, new_f, gd_tup, gd_lst, ix_lst, ty_int, ty_tup, ty_str, isi_ii, isi_ib, isi_tt, isi_ss, reduceIte, Bool.true_eq_false, Bool.false_eq_true, Bool.not_true, Bool.not_false,  List.zip_cons_cons, List.zip_nil_right, List.foldl_cons, List.foldl_nil, ne_eq, not_false_eq_true, not_true_eq_false, Bool.not_eq_true', decide_eq_false_iff_not, decide_eq_true_eq, reduceCtorEq, List.cons.injEq, and_self, D.ref.injEq, Cell.obj.injEq, D.int.injEq]
  refine ⟨by decide, fun r hr => ?_⟩
  have ne := hp.ne hr
  refine ⟨by omega, by omega, ?_⟩
  refine for_inv _ (fun i r' M' => ∃ (M : Nat → Nat → (sys k).F) (m' : Mem) (o : Option D), (∀ t, t < i → ∀ j, j < w → (sys k).cd 42 (6 ^ i * A0) (M t j)) ∧ r' = [some (.ref p), some (.int (sys k).by_), some (.int (n : Int)), some (.int (w : Int)), some (.ref r), o] ∧ M' = put m' r (.lst ((List.range i).map fun t => (sys k).row w (M t))) ∧ Chg m m' p ∧ m' r = none ∧ Pot (L + 60 * i) m' p) (List.range n) 0 _ _ ⟨fun _ _ => 0, m, none, fun j hj => by omega, rfl, rfl, hp.refl, hr, hp⟩ ?_ ?_
  · rintro i hi r' M' N ⟨M, m', o, hM, rfl, rfl, hc, hrn, hp'⟩ kN
    have hi' : i < n := by simpa using hi
    have e : ∀ h, (List.range n)[i]'h = i := fun h => by simp
    simp only [Nat.zero_add] at hM kN hp'
    simp only [e, Nat.zero_add, body, exs, ex, ev, evs, evB, evO, evT, evI, startD, List.map_cons, List.map_nil, List.length_cons, List.length_nil, Nat.reduceAdd, Nat.reduceSub, List.replicate, List.cons_append, List.nil_append, List.append_nil, List.getElem?_cons_zero, List.getElem?_cons_succ, Option.some.injEq, exists_and_left, exists_eq_left', exists_eq_left, exists_eq, ix_tup, at0, at1, at2, op_add', op_sub', op_mul', op_fdiv', op_mod', op_pow', op_addT, cm_lt, cm_le, cm_gt, cm_ge, cm_eq, cm_ne, cm_eqS, cm_neS, onb, oni, yn_gd, yn_cls, Nat.reduceLT, if_true, if_false, true_and, and_true, List.set_cons_zero, List.set_cons_succ, set_nm, set_tup, set_nil, set_cons, ifb, b1_abs, b1_int, b1_intB, b1_lenT, b1_lenL, b1_tupL, b1_tupT, b2_min, b2_max, seq_tup, seq_lst, seq_sq, gd_sq, ix_sq, len_sq, new_t, new_f, gd_tup, gd_lst, ix_lst, ty_int, ty_tup, ty_str, isi_ii, isi_ib, isi_tt, isi_ss, reduceIte, Bool.true_eq_false, Bool.false_eq_true, Bool.not_true, Bool.not_false,  List.zip_cons_cons, List.zip_nil_right, List.foldl_cons, List.foldl_nil, ne_eq, not_false_eq_true, not_true_eq_false, Bool.not_eq_true', decide_eq_false_iff_not, decide_eq_true_eq, reduceCtorEq, List.cons.injEq, and_self, D.ref.injEq, Cell.obj.injEq, D.int.injEq]
    obtain ⟨b1, b2, b3, b4⟩ := pow6 (show i ≤ 16 by omega)
    refine ⟨⟨_, lst_ref put_same⟩, ?_⟩
    refine ⟨k, p, r, L + 60 * i, w, 6 ^ i * A0, (List.range i).map M, rfl, by rw [put_same, List.map_map]; rfl, ne, hp'.put ne, w1, w2, by omega, wf_lst (wf_chg wf hc hp.at_) hrn, b3, b2, by simp; omega, fun v hv j hj => ?_, fun v m2 hv c2 p2 => ?_⟩
    · obtain ⟨t, ht, rfl⟩ := List.mem_map.mp hv
      exact hM t (List.mem_range.mp ht) j hj
    · obtain ⟨m3, rfl, c3⟩ := c2.beside ne
      refine ⟨_, put_same, by simp; omega, ?_⟩
      rw [put_put]
      refine kN _ _ ⟨fun t => if t = i then v else M t, m3, _, fun t ht j hj => ?_, rfl, ?_, hc.trans c3, c3.none ne hrn, (p2.back ne).mono (by omega)⟩
      · by_cases z : t = i
        · simp only [z, if_true]
          rw [Nat.pow_succ, Nat.mul_comm (6 ^ i) 6, Nat.mul_assoc]
          exact hv j hj
        · simp only [z, if_false]
          refine (sys k).cd_le (hM t (by omega) j hj) ?_
          rw [Nat.pow_succ, Nat.mul_comm (6 ^ i) 6, Nat.mul_assoc]
          omega
      · congr 2
        rw [List.range_succ, List.map_append]
        congr 1
        · refine List.map_congr_left fun j hj => ?_
          have := List.mem_range.mp hj
          simp only [show j ≠ i from by omega, if_false]
        · simp
  · rintro r' M' ⟨M, m', o, hM, rfl, rfl, hc, hrn, hp'⟩
    rw [List.length_range, Nat.zero_add] at hM hp' ⊢
    try simp only [body, exs, ex, ev, evs, evB, evO, evT, evI, startD, List.map_cons, List.map_nil, List.length_cons, List.length_nil, Nat.reduceAdd, Nat.reduceSub, List.replicate, List.cons_append, List.nil_append, List.append_nil, List.getElem?_cons_zero, List.getElem?_cons_succ, Option.some.injEq, exists_and_left, exists_eq_left', exists_eq_left, exists_eq, ix_tup, at0, at1, at2, op_add', op_sub', op_mul', op_fdiv', op_mod', op_pow', op_addT, cm_lt, cm_le, cm_gt, cm_ge, cm_eq, cm_ne, cm_eqS, cm_neS, onb, oni, yn_gd, yn_cls, Nat.reduceLT, if_true, if_false, true_and, and_true, List.set_cons_zero, List.set_cons_succ, set_nm, set_tup, set_nil, set_cons, ifb, b1_abs, b1_int, b1_intB, b1_lenT, b1_lenL, b1_tupL, b1_tupT, b2_min, b2_max, seq_tup, seq_lst, seq_sq, gd_sq, ix_sq, len_sq, new_t, new_f, gd_tup, gd_lst, ix_lst, ty_int, ty_tup, ty_str, isi_ii, isi_ib, isi_tt, isi_ss, reduceIte, Bool.true_eq_false, Bool.false_eq_true, Bool.not_true, Bool.not_false,  List.zip_cons_cons, List.zip_nil_right, List.foldl_cons, List.foldl_nil, ne_eq, not_false_eq_true, not_true_eq_false, Bool.not_eq_true', decide_eq_false_iff_not, decide_eq_true_eq, reduceCtorEq, List.cons.injEq, and_self, D.ref.injEq, Cell.obj.injEq, D.int.injEq]
    rw [tup_ref put_same]
    obtain ⟨b1, b2, b3, b4⟩ := pow6 (show n ≤ 16 by omega)
    exact ⟨m', subo_lst (wf_chg wf hc hp.at_) hrn, q M m' (fun i hi j hj => (sys k).cd_le (hM i hi j hj) b4) hc (hp'.mono (by omega))⟩
end Og.Lk44
end
section
set_option maxHeartbeats 4000000
set_option autoImplicit false
namespace Og.Lk44
open PySem Og
def A1 : Nat := 6 ^ 17 * A0
def s_scene : Spec := fun ds m Q => ∃ (p : Addr) (L : Nat), ds = [.ref p] ∧ Pot L m p ∧ L ≤ 800000 ∧ WfM m ∧
  ∀ (k : Ks) (n w : Nat) (M : Nat → Nat → (sys k).F) (m' : Mem), 1 ≤ n → n ≤ 16 → 1 ≤ w → w ≤ 16 → (∀ i, i < n → ∀ j, j < w → (sys k).cd 42 A1 (M i j)) → Chg m m' p → Pot (L + 1000) m' p → Q (.tup [.int (sys k).by_, (sys k).mat n w M]) m'
def s_pot : Spec := fun ds m Q => ∃ (ns : List Int) (i : Nat), ds = [.lst (ns.map D.int), .int (i : Int)] ∧ i < 10 ∧ ∀ p m', (∃ l, m' = put m p (.lst l)) → m p = none → Pot 0 m' p → Q (.ref p) m'
def s_cells : Spec := fun ds m Q => ∃ (ns : List Int), ds = [.lst (ns.map D.int), .int 2] ∧ ns.length ≤ 63 ∧ ∀ n : Nat, n ≤ 2 → Q (.lst ((List.range n).map fun i => D.int ((i : Nat) : Int))) m
theorem law_cells {X : Ctx} (ds : List D) (m : Mem) (Q : KD) (h : s_cells ds m Q) : body X 2 c44 ds m Q := by
  obtain ⟨ns, rfl, hl, q⟩ := h
  simp only [c44, body, exs, ex, ev, evs, evB, evO, evT, evI, startD, List.map_cons, List.map_nil, List.length_cons, List.length_nil, Nat.reduceAdd, Nat.reduceSub, List.replicate, List.cons_append, List.nil_append, List.append_nil, List.getElem?_cons_zero, List.getElem?_cons_succ, Option.some.injEq, exists_and_left, exists_eq_left', exists_eq_left, exists_eq, ix_tup, at0, at1, at2, op_add', op_sub', op_mul', op_fdiv', op_mod', op_pow', op_addT, cm_lt, cm_le, cm_gt, cm_ge, cm_eq, cm_ne, cm_eqS, cm_neS, onb, oni, yn_gd, yn_cls, Nat.reduceLT, if_true, if_false, true_and, and_true, List.set_cons_zero, List.set_cons_succ, set_nm, set_tup, set_nil, set_cons, ifb, b1_abs, b1_int, b1_intB, b1_lenT, b1_lenL, b1_tupL, b1_tupT, b2_min, b2_max, seq_tup, seq_lst, seq_sq, gd_sq, ix_sq, len_sq, new_t, new_f, gd_tup, gd_lst, ix_lst, ty_int, ty_tup, ty_str, isi_ii, isi_ib, isi_tt, isi_ss, reduceIte, Bool.true_eq_false, Bool.false_eq_true, Bool.not_true, Bool.not_false,  List.zip_cons_cons, List.zip_nil_right, List.foldl_cons, List.foldl_nil, ne_eq, not_false_eq_true, not_true_eq_false, Bool.not_eq_true', decide_eq_false_iff_not, decide_eq_true_eq, reduceCtorEq, List.cons.injEq, and_self, D.ref.injEq, Cell.obj.injEq, D.int.injEq]
  have e : max (1 : Int) (min 2 (((ns.map D.int).length : Nat) : Int)) = (((max 1 (min 2 ns.length) : Nat)) : Int) := by
    rw [List.length_map]; omega
  rw [e, rgD_nat]
  refine ⟨⟨by decide, by decide⟩, ⟨by omega, by omega⟩, by omega, m, SubO.refl, q _ (by omega)⟩
theorem law_pot {X : Ctx} (ds : List D) (m : Mem) (Q : KD) (h : s_pot ds m Q) : body X 5 c43 ds m Q := by
  obtain ⟨ns, i, rfl, hi, q⟩ := h
  simp only [c43, body, exs, ex, ev, evs, evB, evO, evT, evI, startD, List.map_cons, List.map_nil, List.length_cons, List.length_nil, Nat.reduceAdd, Nat.reduceSub, List.replicate, List.cons_append, List.nil_append, List.append_nil, List.getElem?_cons_zero, List.getElem?_cons_succ, Option.some.injEq, exists_and_left, exists_eq_left', exists_eq_left, exists_eq, ix_tup, at0, at1, at2, op_add', op_sub', op_mul', op_fdiv', op_mod', op_pow', op_addT, cm_lt, cm_le, cm_gt, cm_ge, cm_eq, cm_ne, cm_eqS, cm_neS, onb, oni, yn_gd, yn_cls, Nat.reduceLT, if_true, if_false, true_and, and_true, List.set_cons_zero, List.set_cons_succ, set_nm, set_tup, set_nil, set_cons, ifb, b1_abs, b1_int, b1_intB, b1_lenT, b1_lenL, b1_tupL, b1_tupT, b2_min, b2_max, seq_tup, seq_lst, seq_sq, gd_sq, ix_sq, len_sq, new_t, new_f, gd_tup, gd_lst, ix_lst, ty_int, ty_tup, ty_str, isi_ii, isi_ib, isi_tt, isi_ss, reduceIte, Bool.true_eq_false, Bool.false_eq_true, Bool.not_true, Bool.not_false,  List.zip_cons_cons, List.zip_nil_right, List.foldl_cons, List.foldl_nil, ne_eq, not_false_eq_true, not_true_eq_false, Bool.not_eq_true', decide_eq_false_iff_not, decide_eq_true_eq, reduceCtorEq, List.cons.injEq, and_self, D.ref.injEq, Cell.obj.injEq, D.int.injEq]
  by_cases h : (i : Int) < ((ns.map D.int).length : Nat)
  · rw [if_pos h]
    have hl : i < ns.length := by rw [List.length_map] at h; omega
    have hc : L2.atI (ns.map D.int) (i : Int) = some (.int ns[i]) := by
      rw [atI_nat, List.getElem?_map, List.getElem?_eq_getElem hl]; rfl
    generalize ns[i] = c at hc
    simp only [hc, body, exs, ex, ev, evs, evB, evO, evT, evI, startD, List.map_cons, List.map_nil, List.length_cons, List.length_nil, Nat.reduceAdd, Nat.reduceSub, List.replicate, List.cons_append, List.nil_append, List.append_nil, List.getElem?_cons_zero, List.getElem?_cons_succ, Option.some.injEq, exists_and_left, exists_eq_left', exists_eq_left, exists_eq, ix_tup, at0, at1, at2, op_add', op_sub', op_mul', op_fdiv', op_mod', op_pow', op_addT, cm_lt, cm_le, cm_gt, cm_ge, cm_eq, cm_ne, cm_eqS, cm_neS, onb, oni, yn_gd, yn_cls, Nat.reduceLT, if_true, if_false, true_and, and_true, List.set_cons_zero, List.set_cons_succ, set_nm, set_tup, set_nil, set_cons, ifb, b1_abs, b1_int, b1_intB, b1_lenT, b1_lenL, b1_tupL, b1_tupT, b2_min, b2_max, seq_tup, seq_lst, seq_sq, gd_sq, ix_sq, len_sq, new_t, new_f, gd_tup, gd_lst, ix_lst, ty_int, ty_tup, ty_str, isi_ii, isi_ib, isi_tt, isi_ss, reduceIte, Bool.true_eq_false, Bool.false_eq_true, Bool.not_true, Bool.not_false,  List.zip_cons_cons, List.zip_nil_right, List.foldl_cons, List.foldl_nil, ne_eq, not_false_eq_true, not_true_eq_false, Bool.not_eq_true', decide_eq_false_iff_not, decide_eq_true_eq, reduceCtorEq, List.cons.injEq, and_self, D.ref.injEq, Cell.obj.injEq, D.int.injEq]
    have i2 : (16327 * (i : Int)).natAbs < 2 ^ 64 := by omega
    obtain ⟨B, hB⟩ : ∃ B : Nat, (((10 : Int) ^ Int.toNat 60) ^ Int.toNat 5) = (B : Int) ∧ 1 ≤ B ∧ B < 2 ^ 1100 := ⟨(10 ^ 60) ^ 5, rfl, by decide, by decide⟩
    obtain ⟨o, ho1, ho2⟩ := natmod (a := ((c.natAbs : Nat) : Int)) (n := B) (by omega) hB.2.1
    obtain ⟨s, hs1, hs2⟩ := mod_in (b := c) (p := 2305843009213693951) (by decide)
    rw [hB.1, ho1]
    rw [show (2305843009213693951 : Int) = ((2305843009213693951 : Nat) : Int) from rfl, fmod_p, hs1]
    have w0 : 0 ≤ (s : Int) * 97347 + 16327 * (i : Int) * (i : Int) + 1959 := by
      have := Int.mul_nonneg (show 0 ≤ 16327 * (i : Int) by omega) (show 0 ≤ (i : Int) by omega)
      omega
    obtain ⟨u, hu1, hu2⟩ := natmod (n := 2305843009213693921) w0 (by decide)
    have sm : ∀ b : Bool, ((if b = true then (1 : Int) else 0)).natAbs < 2 ^ 64 := fun b => by cases b <;> decide
    refine ⟨by decide, by decide, by decide, by decide, by have := hB.2.1; omega, by decide, by decide, mulOk_smallR (by split <;> decide), by decide, mulOk_smallR (by decide), mulOk_small (by decide), mulOk_small i2, by decide, by decide, fun p hp => ?_⟩
    rw [show (2305843009213693921 : Int) = ((2305843009213693921 : Nat) : Int) from rfl, hu1]
    refine ⟨_, SubO.refl, q p _ ⟨_, rfl⟩ hp ⟨_, _, _, put_same, ?_, ?_, by omega, by omega, by omega, by omega⟩⟩
    · split <;> omega
    · have := hB.2.2
      split <;> omega
  · rw [if_neg h]
    have hsl : ∃ z : Int, ∀ (R : KD), R (.int z) m → slD false m (.lst (ns.map D.int)) none (some 1) fun x m1 => b1D .sum x m1 R := ⟨_, fun R hR => ⟨_, rfl, (ns.take 1), by
      show some (cutD (ns.map D.int) none (some 1)) = _
      congr 1
      cases ns <;> rfl, hR⟩⟩
    obtain ⟨z, hz⟩ := hsl
    refine hz _ ?_
    try simp only [body, exs, ex, ev, evs, evB, evO, evT, evI, startD, List.map_cons, List.map_nil, List.length_cons, List.length_nil, Nat.reduceAdd, Nat.reduceSub, List.replicate, List.cons_append, List.nil_append, List.append_nil, List.getElem?_cons_zero, List.getElem?_cons_succ, Option.some.injEq, exists_and_left, exists_eq_left', exists_eq_left, exists_eq, ix_tup, at0, at1, at2, op_add', op_sub', op_mul', op_fdiv', op_mod', op_pow', op_addT, cm_lt, cm_le, cm_gt, cm_ge, cm_eq, cm_ne, cm_eqS, cm_neS, onb, oni, yn_gd, yn_cls, Nat.reduceLT, if_true, if_false, true_and, and_true, List.set_cons_zero, List.set_cons_succ, set_nm, set_tup, set_nil, set_cons, ifb, b1_abs, b1_int, b1_intB, b1_lenT, b1_lenL, b1_tupL, b1_tupT, b2_min, b2_max, seq_tup, seq_lst, seq_sq, gd_sq, ix_sq, len_sq, new_t, new_f, gd_tup, gd_lst, ix_lst, ty_int, ty_tup, ty_str, isi_ii, isi_ib, isi_tt, isi_ss, reduceIte, Bool.true_eq_false, Bool.false_eq_true, Bool.not_true, Bool.not_false,  List.zip_cons_cons, List.zip_nil_right, List.foldl_cons, List.foldl_nil, ne_eq, not_false_eq_true, not_true_eq_false, Bool.not_eq_true', decide_eq_false_iff_not, decide_eq_true_eq, reduceCtorEq, List.cons.injEq, and_self, D.ref.injEq, Cell.obj.injEq, D.int.injEq]
    refine ⟨by decide, mulOk_small (by decide), ?_⟩
    generalize z.fmod 1000003 + 2911 * (i : Int) + 1445 = c
    have i2 : (16327 * (i : Int)).natAbs < 2 ^ 64 := by omega
    obtain ⟨B, hB⟩ : ∃ B : Nat, (((10 : Int) ^ Int.toNat 60) ^ Int.toNat 5) = (B : Int) ∧ 1 ≤ B ∧ B < 2 ^ 1100 := ⟨(10 ^ 60) ^ 5, rfl, by decide, by decide⟩
    obtain ⟨o, ho1, ho2⟩ := natmod (a := ((c.natAbs : Nat) : Int)) (n := B) (by omega) hB.2.1
    obtain ⟨s, hs1, hs2⟩ := mod_in (b := c) (p := 2305843009213693951) (by decide)
    rw [hB.1, ho1]
    rw [show (2305843009213693951 : Int) = ((2305843009213693951 : Nat) : Int) from rfl, fmod_p, hs1]
    have w0 : 0 ≤ (s : Int) * 97347 + 16327 * (i : Int) * (i : Int) + 1959 := by
      have := Int.mul_nonneg (show 0 ≤ 16327 * (i : Int) by omega) (show 0 ≤ (i : Int) by omega)
      omega
    obtain ⟨u, hu1, hu2⟩ := natmod (n := 2305843009213693921) w0 (by decide)
    have sm : ∀ b : Bool, ((if b = true then (1 : Int) else 0)).natAbs < 2 ^ 64 := fun b => by cases b <;> decide
    refine ⟨by decide, by decide, by decide, by decide, by have := hB.2.1; omega, by decide, by decide, mulOk_smallR (by split <;> decide), by decide, mulOk_smallR (by decide), mulOk_small (by decide), mulOk_small i2, by decide, by decide, fun p hp => ?_⟩
    rw [show (2305843009213693921 : Int) = ((2305843009213693921 : Nat) : Int) from rfl, hu1]
    refine ⟨_, SubO.refl, q p _ ⟨_, rfl⟩ hp ⟨_, _, _, put_same, ?_, ?_, by omega, by omega, by omega, by omega⟩⟩
    · split <;> omega
    · have := hB.2.2
      split <;> omega
end Og.Lk44
end
section
set_option maxHeartbeats 4000000
set_option autoImplicit false
namespace Og.Lk44
open PySem Og
theorem draw_list {α : Type} {m : Mem} {p : Addr} {L n c : Nat} {g : Nat → D} {Q : KD} {T : D → Mem → (Option D → Mem → Prop) → Prop} (enc : α → D) (P : α → Prop) (a0 : α) (hp : Pot L m p)
    (hT : ∀ (i : Nat) (m' : Mem) (L' : Nat) (K : Option D → Mem → Prop), i < n → Pot L' m' p → L' ≤ L + c * n → (∀ x m2, P x → Chg m' m2 p → Pot (L' + c) m2 p → K (some (enc x)) m2) → T (g i) m' K)
    (q : ∀ (t : Nat → α) (m' : Mem), (∀ i, i < n → P (t i)) → Chg m m' p → Pot (L + c * n) m' p → Q (.lst ((List.range n).map fun i => enc (t i))) m') :
    ∀ r, m r = none → lcL (fun _ => True) T r ((List.range n).map g) [] (put m r (.lst [])) (lcEnd false r Q) := by
  intro r hr
  have ne := hp.ne hr
  refine lc_inv _ (fun i acc M => ∃ (v : Nat → α) (m' : Mem), (∀ j, j < i → P (v j)) ∧ acc = ((List.range i).map fun j => enc (v j)) ∧ M = put m' r (.lst acc) ∧ Chg m m' p ∧ Pot (L + c * i) m' p) (List.range n) 0 _ _ ⟨fun _ => a0, m, fun j hj => by omega, rfl, rfl, hp.refl, hp⟩ ?_ ?_
  · rintro i hi acc M K ⟨v, m', hv, rfl, rfl, hc, hp'⟩ hK
    have hi' : i < n := by simpa using hi
    have e : (List.range n)[i] = i := by simp
    rw [e]
    simp only [Nat.zero_add] at hv hK hp' ⊢
    have hci : c * i ≤ c * n := Nat.mul_le_mul_left _ (by omega)
    refine ⟨trivial, hT i _ (L + c * i) K hi' (hp'.put ne) (by omega) fun x m2 hx c2 p2 => ?_⟩
    obtain ⟨m3, rfl, c3⟩ := c2.beside ne
    refine hK _ _ put_same ⟨fun j => if j = i then x else v j, m3, fun j hj => ?_, ?_, by rw [put_put], hc.trans c3, p2.back ne |>.mono (by rw [Nat.mul_succ]; omega)⟩
    · by_cases z : j = i
      · simp only [z, if_true]; exact hx
      · simp only [z, if_false]; exact hv j (by omega)
    · rw [List.range_succ, List.map_append]
      congr 1
      · refine List.map_congr_left fun j hj => ?_
        have := List.mem_range.mp hj
        simp only [show j ≠ i from by omega, if_false]
      · simp
  · rintro acc M ⟨v, m', hv, rfl, rfl, hc, hp'⟩
    rw [List.length_range, Nat.zero_add] at hv hp' ⊢
    refine ⟨trivial, put_same, ?_⟩
    show Q _ (del (put m' r _) r)
    rw [del_put (hc.none ne hr)]
    exact q v m' hv hc hp'
theorem cut_at {S : Sys} {w a : Nat} {v : Nat → S.F} {x : S.F} (h : a < w) :
    cutD ((List.range w).map fun i => S.d (v i)) none (some (a : Int)) ++ [S.d x] ++ cutD ((List.range w).map fun i => S.d (v i)) (some ((a : Int) + 1)) none = (List.range w).map fun i => S.d (if i = a then x else v i) := by
  generalize hxs : ((List.range w).map fun i => S.d (v i)) = xs
  have hl : xs.length = w := by rw [← hxs]; simp
  have e1 : cutD xs none (some (a : Int)) = xs.take a := by
    unfold cutD
    rw [HT.sIx_none, HT.sIx_nat, hl, Nat.min_eq_left (by omega), List.drop_zero, Nat.sub_zero]
  have e2 : cutD xs (some ((a : Int) + 1)) none = xs.drop (a + 1) := by
    unfold cutD
    rw [show ((a : Int) + 1) = ((a + 1 : Nat) : Int) from by omega, HT.sIx_none, HT.sIx_nat, hl, Nat.min_eq_left (by omega)]
    exact List.take_of_length_le (by simp [hl])
  rw [e1, e2, List.append_assoc]
  apply List.ext_getElem?
  intro i
  rw [List.getElem?_map]
  by_cases hi : i < w
  · rw [List.getElem?_range hi]
    rcases Nat.lt_trichotomy i a with z | z | z
    · rw [List.getElem?_append_left (by simp [hl]; omega), List.getElem?_take_of_lt z, ← hxs, List.getElem?_map, List.getElem?_range hi]
      simp only [Option.map_some, show i ≠ a from by omega, if_false]
    · subst z
      rw [List.getElem?_append_right (by simp [hl]; omega)]
      simp [hl, Nat.min_eq_left (Nat.le_of_lt hi)]
    · rw [List.getElem?_append_right (by simp [hl]; omega), List.length_take, hl, Nat.min_eq_left (by omega)]
      rw [show i - a = (i - a - 1) + 1 from by omega, List.singleton_append, List.getElem?_cons_succ, List.getElem?_drop, show a + 1 + (i - a - 1) = i from by omega, ← hxs, List.getElem?_map, List.getElem?_range hi]
      simp only [Option.map_some, show i ≠ a from by omega, if_false]
  · rw [List.getElem?_eq_none (by simp [hl]; omega), List.getElem?_eq_none (by simp; omega)]
    rfl
theorem sl_row {S : Sys} {w : Nat} {v : Nat → S.F} {m : Mem} {lo hi : Option Int} {Q : KD} : slD false m (S.row w v) lo hi Q = Q (.tup (cutD ((List.range w).map fun i => S.d (v i)) lo hi)) m := rfl
def s_beside : Spec := fun ds m Q => ∃ (k : Ks) (p : Addr) (L n w : Nat) (M : Nat → Nat → (sys k).F), ds = [.ref p, .int (sys k).by_, (sys k).mat n w M] ∧ Pot L m p ∧ L ≤ 900000 ∧ WfM m ∧ 1 ≤ n ∧ n ≤ 16 ∧ 1 ≤ w ∧ w ≤ 16 ∧ (∀ i, i < n → ∀ j, j < w → (sys k).cd 42 A1 (M i j)) ∧
  ∀ (v : Nat → (sys k).F) (m' : Mem), (∀ i, i < w → (sys k).cd 42 (50 * A1) (v i)) → Chg m m' p → Pot (L + 100) m' p → Q ((sys k).row w v) m'
end Og.Lk44
end
section
set_option maxHeartbeats 4000000
set_option autoImplicit false
/-! Og: the stair, by its laws. -/
namespace Og
open PySem
section
variable {S : Sys} {w n : Nat} {M : Nat → Nat → S.F}
abbrev Stp (S : Sys) : Type := Nat × (Nat → S.F) × (Nat → S.F)
def ls {α : Type} : List α → (α → S.F) → S.F
  | [], _ => 0
  | a :: l, f => f a + ls l f
theorem ls_congr {α : Type} : ∀ {l : List α} {f g : α → S.F}, (∀ a ∈ l, f a = g a) → ls l f = ls l g
  | [], _, _, _ => rfl
  | a :: l, f, g, h => by
    simp only [ls]
    rw [h a List.mem_cons_self, ls_congr fun b hb => h b (List.mem_cons_of_mem _ hb)]
theorem ls_zero {α : Type} : ∀ {l : List α} {f : α → S.F}, (∀ a ∈ l, f a = 0) → ls l f = 0
  | [], _, _ => rfl
  | a :: l, f, h => by
    simp only [ls]
    rw [h a List.mem_cons_self, ls_zero fun b hb => h b (List.mem_cons_of_mem _ hb)]
    grind
theorem sm_add : ∀ {n : Nat} {f g : Nat → S.F}, sm n (fun i => f i + g i) = sm n f + sm n g
  | 0, _, _ => by simp only [sm]; grind
  | n + 1, f, g => by simp only [sm]; rw [sm_add]; grind
theorem sm_mul : ∀ {n : Nat} {c : S.F} {f : Nat → S.F}, sm n (fun i => c * f i) = c * sm n f
  | 0, _, _ => by simp only [sm]; grind
  | n + 1, c, f => by simp only [sm]; rw [sm_mul]; grind
theorem sm_zero : ∀ {n : Nat} {f : Nat → S.F}, (∀ i, i < n → f i = 0) → sm n f = 0
  | 0, _, _ => rfl
  | n + 1, f, h => by
    simp only [sm]
    rw [sm_zero fun i hi => h i (by omega), h n (by omega)]
    grind
/-- the rows put together by these factors -/
def lin (n : Nat) (M : Nat → Nat → S.F) (f : Nat → S.F) (j : Nat) : S.F := sm n fun t => f t * M t j
def dot (w : Nat) (u v : Nat → S.F) : S.F := sm w fun j => u j * v j
theorem lin_add {f g : Nat → S.F} {j : Nat} : lin n M (fun i => f i + g i) j = lin n M f j + lin n M g j := by
  unfold lin
  rw [← sm_add]
  exact sm_congr fun i _ => by grind
theorem lin_mul {c : S.F} {f : Nat → S.F} {j : Nat} : lin n M (fun i => c * f i) j = c * lin n M f j := by
  unfold lin
  rw [← sm_mul]
  exact sm_congr fun i _ => by grind
theorem dot_add {u f g : Nat → S.F} : dot w u (fun i => f i + g i) = dot w u f + dot w u g := by
  unfold dot
  rw [← sm_add]
  exact sm_congr fun i _ => by grind
theorem dot_mul {c : S.F} {u f : Nat → S.F} : dot w u (fun i => c * f i) = c * dot w u f := by
  unfold dot
  rw [← sm_mul]
  exact sm_congr fun i _ => by grind
theorem dot_congr {u f g : Nat → S.F} (h : ∀ j, j < w → f j = g j) : dot w u f = dot w u g := sm_congr fun i hi => by rw [h i hi]
theorem dot_ls {α : Type} {u : Nat → S.F} : ∀ {l : List α} {c : α → S.F} {v : α → Nat → S.F}, dot w u (fun j => ls l fun s => c s * v s j) = ls l fun s => c s * dot w u (v s)
  | [], _, _ => sm_zero fun i _ => by simp only [ls]; grind
  | a :: l, c, v => by
    simp only [ls]
    rw [dot_add, dot_mul, dot_ls]
theorem lin_ls {α : Type} {j : Nat} : ∀ {l : List α} {c : α → S.F} {v : α → Nat → S.F}, lin n M (fun i => ls l fun s => c s * v s i) j = ls l fun s => c s * lin n M (v s) j
  | [], _, _ => sm_zero fun i _ => by simp only [ls]; grind
  | a :: l, c, v => by
    simp only [ls]
    rw [lin_add, lin_mul, lin_ls]
/-- a product of rows put together -/
theorem dot_lin {u f : Nat → S.F} : ∀ {n : Nat}, dot w u (lin n M f) = sm n fun t => f t * dot w u (M t)
  | 0 => sm_zero fun i _ => by unfold lin; simp only [sm]; grind
  | n + 1 => by
    simp only [sm]
    rw [← dot_lin (n := n), ← dot_mul, ← dot_add]
    rfl

/-! ### clearing -/
def clr : List (Stp S) → (Nat → S.F) → (Nat → S.F) → (Nat → S.F) × (Nat → S.F)
  | [], v, f => (v, f)
  | s :: st, v, f => clr st (fun i => v i + -(v s.1) * s.2.1 i) (fun i => f i + -(v s.1) * s.2.2 i)
/-- the steps are in lowest form -/
structure Red (w n : Nat) (M : Nat → Nat → S.F) (st : List (Stp S)) : Prop where
  one : ∀ s ∈ st, s.1 < w ∧ s.2.1 s.1 = 1 ∧ ∀ j, j < w → s.2.1 j = lin n M s.2.2 j
  two : st.Pairwise fun s t => s.2.1 t.1 = 0 ∧ t.2.1 s.1 = 0
theorem clr_eq : ∀ {st : List (Stp S)} {v f : Nat → S.F}, (st.Pairwise fun s t => s.2.1 t.1 = 0 ∧ t.2.1 s.1 = 0) →
    (∀ j, (clr st v f).1 j = v j + ls st fun s => -(v s.1) * s.2.1 j) ∧ ∀ i, (clr st v f).2 i = f i + ls st fun s => -(v s.1) * s.2.2 i
  | [], v, f, _ => ⟨fun j => by simp only [clr, ls]; grind, fun i => by simp only [clr, ls]; grind⟩
  | s :: st, v, f, h => by
    obtain ⟨h1, h2⟩ := List.pairwise_cons.mp h
    obtain ⟨e1, e2⟩ := clr_eq (v := fun i => v i + -(v s.1) * s.2.1 i) (f := fun i => f i + -(v s.1) * s.2.2 i) h2
    have key : ∀ t ∈ st, v t.1 + -(v s.1) * s.2.1 t.1 = v t.1 := fun t ht => by rw [(h1 t ht).1]; grind
    refine ⟨fun j => ?_, fun i => ?_⟩
    · simp only [clr, ls]
      rw [e1 j, ls_congr (g := fun t => -(v t.1) * t.2.1 j) fun t ht => by rw [key t ht]]
      grind
    · simp only [clr, ls]
      rw [e2 i, ls_congr (g := fun t => -(v t.1) * t.2.2 i) fun t ht => by rw [key t ht]]
      grind
theorem clr_zero : ∀ {st : List (Stp S)} {v : Nat → S.F}, (st.Pairwise fun s t => s.2.1 t.1 = 0 ∧ t.2.1 s.1 = 0) → (∀ s ∈ st, s.2.1 s.1 = 1) → ∀ s ∈ st, (v s.1 + ls st fun t => -(v t.1) * t.2.1 s.1) = 0
  | [], _, _, _, _, hs => by cases hs
  | s :: st, v, h, h1, t, ht => by
    obtain ⟨p1, p2⟩ := List.pairwise_cons.mp h
    simp only [ls]
    rcases List.mem_cons.mp ht with z | z
    · subst z
      rw [h1 t List.mem_cons_self, ls_zero fun u hu => by rw [(p1 u hu).2]; grind]
      grind
    · rw [(p1 t z).1]
      have ih := clr_zero (v := v) p2 (fun u hu => h1 u (List.mem_cons_of_mem _ hu)) t z
      grind
/-- the pairwise part of it, and ones -/
theorem Red.ones {st : List (Stp S)} (h : Red w n M st) : ∀ s ∈ st, s.2.1 s.1 = 1 := fun s hs => (h.one s hs).2.1
theorem clr_at {st : List (Stp S)} {v f : Nat → S.F} (h : Red w n M st) : ∀ s ∈ st, (clr st v f).1 s.1 = 0 := fun s hs => by
  rw [(clr_eq h.two).1]
  exact clr_zero h.two h.ones s hs
/-- what clearing leaves is put together so -/
theorem clr_lin {st : List (Stp S)} {v f : Nat → S.F} (h : Red w n M st) {j : Nat} (hj : j < w) : (clr st v f).1 j - lin n M (clr st v f).2 j = v j - lin n M f j := by
  have e2 : lin n M (clr st v f).2 j = lin n M f j + ls st fun s => -(v s.1) * s.2.1 j := by
    rw [show (clr st v f).2 = fun i => f i + ls st fun s => -(v s.1) * s.2.2 i from funext (clr_eq h.two).2, lin_add, lin_ls]
    congr 1
    exact ls_congr fun s hs => by rw [(h.one s hs).2.2 j hj]
  rw [(clr_eq h.two).1, e2]
  grind
/-- a functional that is nought on every step is the same on what clearing leaves -/
theorem clr_dot {st : List (Stp S)} {v f u : Nat → S.F} (h : Red w n M st) (hu : ∀ s ∈ st, dot w u s.2.1 = 0) : dot w u (clr st v f).1 = dot w u v := by
  rw [show (clr st v f).1 = fun j => v j + ls st fun s => -(v s.1) * s.2.1 j from funext (clr_eq h.two).1, dot_add, dot_ls, ls_zero fun s hs => by rw [hu s hs]; grind]
  grind

/-! ### a step more -/
def stepOf (q : Nat) (v2 f2 : Nat → S.F) (s : Stp S) : Stp S := (s.1, (fun j => s.2.1 j + -(s.2.1 q) * v2 j), fun i => s.2.2 i + -(s.2.1 q) * f2 i)
def more (st : List (Stp S)) (q : Nat) (v2 f2 : Nat → S.F) : List (Stp S) := st.map (stepOf q v2 f2) ++ [(q, v2, f2)]
theorem more_red {st : List (Stp S)} {q : Nat} {v2 f2 : Nat → S.F} (h : Red w n M st) (hq : q < w) (h1 : v2 q = 1) (h0 : ∀ s ∈ st, v2 s.1 = 0) (hl : ∀ j, j < w → v2 j = lin n M f2 j) : Red w n M (more st q v2 f2) := by
  refine ⟨fun s hs => ?_, ?_⟩
  · rcases List.mem_append.mp hs with z | z
    · obtain ⟨t, ht, rfl⟩ := List.mem_map.mp z
      obtain ⟨a1, a2, a3⟩ := h.one t ht
      refine ⟨a1, ?_, fun j hj => ?_⟩
      · show t.2.1 t.1 + -(t.2.1 q) * v2 t.1 = 1
        rw [a2, h0 t ht]; grind
      · show t.2.1 j + -(t.2.1 q) * v2 j = lin n M (fun i => t.2.2 i + -(t.2.1 q) * f2 i) j
        rw [lin_add, lin_mul, ← a3 j hj, ← hl j hj]
    · obtain rfl : s = (q, v2, f2) := by simpa using z
      exact ⟨hq, h1, hl⟩
  · rw [show more st q v2 f2 = st.map (stepOf q v2 f2) ++ [(q, v2, f2)] from rfl, List.pairwise_append, List.pairwise_map]
    refine ⟨List.Pairwise.imp_of_mem (R := fun s t : Stp S => s.2.1 t.1 = 0 ∧ t.2.1 s.1 = 0) (fun {s t} hs ht hab => ?_) h.two, List.pairwise_singleton _ _, fun s hs t ht => ?_⟩
    · obtain ⟨a, b⟩ := hab
      refine ⟨?_, ?_⟩
      · show s.2.1 t.1 + -(s.2.1 q) * v2 t.1 = 0
        rw [a, h0 t ht]; grind
      · show t.2.1 s.1 + -(t.2.1 q) * v2 s.1 = 0
        rw [b, h0 s hs]; grind
    · obtain ⟨r, hr, rfl⟩ := List.mem_map.mp hs
      obtain rfl : t = (q, v2, f2) := by simpa using ht
      refine ⟨?_, h0 r hr⟩
      show r.2.1 q + -(r.2.1 q) * v2 q = 0
      rw [h1]; grind
/-- who is nought on the steps is nought on the rows -/
def Kill (w : Nat) (M : Nat → Nat → S.F) (st : List (Stp S)) (T : Nat) : Prop := ∀ u : Nat → S.F, (∀ s ∈ st, dot w u s.2.1 = 0) → ∀ t, t < T → dot w u (M t) = 0
theorem Kill.same {st : List (Stp S)} {T : Nat} {f : Nat → S.F} (h : Kill w M st T) (r : Red w n M st) (hz : ∀ j, j < w → (clr st (M T) f).1 j = 0) : Kill w M st (T + 1) := fun u hu t ht => by
  rcases Nat.lt_or_ge t T with z | z
  · exact h u hu t z
  · rw [show t = T from by omega, ← clr_dot (f := f) r hu, dot_congr (g := fun _ => 0) hz]
    exact sm_zero fun i _ => by grind
theorem Kill.more {st : List (Stp S)} {T q : Nat} {v2 f2 f : Nat → S.F} {c : S.F} (h : Kill w M st T) (r : Red w n M st) (hv : ∀ j, j < w → (clr st (M T) f).1 j = c * v2 j) : Kill w M (more st q v2 f2) (T + 1) := fun u hu t ht => by
  have h2 : dot w u v2 = 0 := hu (q, v2, f2) (List.mem_append_right _ (by simp))
  have hs : ∀ s ∈ st, dot w u s.2.1 = 0 := fun s hs => by
    have := hu (stepOf q v2 f2 s) (List.mem_append_left _ (List.mem_map_of_mem hs))
    have e : dot w u (stepOf q v2 f2 s).2.1 = dot w u s.2.1 + -(s.2.1 q) * dot w u v2 := by
      show dot w u (fun j => s.2.1 j + -(s.2.1 q) * v2 j) = _
      rw [dot_add, dot_mul]
    rw [e, h2] at this
    grind
  rcases Nat.lt_or_ge t T with z | z
  · exact h u hs t z
  · rw [show t = T from by omega, ← clr_dot (f := f) r hs, dot_congr (g := fun j => c * v2 j) hv, dot_mul, h2]
    grind

/-! ### barring -/
def bar (q : Nat) : List (Stp S) → (Nat → S.F) → Nat → S.F
  | [], u => u
  | s :: st, u => bar q st fun j => if j = s.1 then -(s.2.1 q) else u j
theorem dot_set {u v : Nat → S.F} {p : Nat} {x : S.F} (hp : p < w) (h0 : u p = 0) : dot w (fun j => if j = p then x else u j) v = dot w u v + x * v p := by
  unfold dot
  have go : ∀ k, sm k (fun j => (if j = p then x else u j) * v j) = sm k (fun j => u j * v j) + if p < k then x * v p else 0 := by
    intro k
    induction k with
    | zero => simp only [sm]; rw [if_neg (by omega)]; grind
    | succ k ih =>
      simp only [sm]
      rw [ih]
      by_cases e : k = p
      · subst e
        rw [if_neg (Nat.lt_irrefl _), if_pos (Nat.lt_succ_self _), if_pos rfl, h0]
        grind
      · rw [if_neg e]
        by_cases l : p < k
        · rw [if_pos l, if_pos (by omega)]; grind
        · rw [if_neg l, if_neg (by omega)]; grind
  rw [go w, if_pos hp]
theorem bar_dot {q : Nat} {v : Nat → S.F} : ∀ {st : List (Stp S)} {u : Nat → S.F}, (st.Pairwise fun s t => s.2.1 t.1 = 0 ∧ t.2.1 s.1 = 0) → (∀ s ∈ st, s.1 < w ∧ s.2.1 s.1 = 1) → (∀ s ∈ st, u s.1 = 0) → dot w (bar q st u) v = dot w u v + ls st fun s => -(s.2.1 q) * v s.1
  | [], u, _, _, _ => by simp only [bar, ls]; grind
  | s :: st, u, h, h1, h0 => by
    obtain ⟨p1, p2⟩ := List.pairwise_cons.mp h
    have o := S.one_ne
    simp only [bar, ls]
    rw [bar_dot p2 (fun t ht => h1 t (List.mem_cons_of_mem _ ht)) fun t ht => ?_, dot_set (h1 s List.mem_cons_self).1 (h0 s List.mem_cons_self)]
    · grind
    · have ne : t.1 ≠ s.1 := fun e => by
        have a := (p1 t ht).1
        rw [e, (h1 s List.mem_cons_self).2] at a
        exact o a
      rw [if_neg ne]
      exact h0 t (List.mem_cons_of_mem _ ht)
end
end Og
end
section
set_option maxHeartbeats 4000000
set_option autoImplicit false
/-! Og: the stair's sizes. -/
namespace Og
open PySem
section
variable {S : Sys} {w n : Nat}
structure SZ (w n d B : Nat) (st : List (Stp S)) : Prop where
  pos : 0 < d
  le : d ≤ B
  at_ : ∀ s ∈ st, (∀ j, j < w → S.cd d B (s.2.1 j)) ∧ ∀ i, i < n → S.cd d B (s.2.2 i)
def ClrOk (w n : Nat) : List (Stp S) → (Nat → S.F) → (Nat → S.F) → Prop
  | [], _, _ => True
  | s :: st, v, f => s.1 < w ∧ S.Sm (-(v s.1)) ∧ (∀ j, j < w → S.Sm (v j) ∧ S.Sm (s.2.1 j) ∧ S.Sm (-(v s.1) * s.2.1 j)) ∧ (∀ i, i < n → S.Sm (f i) ∧ S.Sm (s.2.2 i) ∧ S.Sm (-(v s.1) * s.2.2 i)) ∧
    ClrOk w n st (fun i => v i + -(v s.1) * s.2.1 i) (fun i => f i + -(v s.1) * s.2.2 i)
theorem clr_ok {z0 d B R E N : Nat} (z1 : 0 < z0) (z2 : z0 ≤ R) (h7 : 7 ≤ N) (h26 : N ≤ 2 ^ 26) (hE : E < 2 ^ N) (hR : R ≤ E) (hB : B ≤ E) (hd : 0 < d) (h42 : z0 * d ≤ E) : ∀ {st : List (Stp S)} {C : Nat} {v f : Nat → S.F}, (st.Pairwise fun s t => s.2.1 t.1 = 0 ∧ t.2.1 s.1 = 0) →
    (∀ s ∈ st, s.1 < w ∧ (∀ j, j < w → S.cd d B (s.2.1 j)) ∧ ∀ i, i < n → S.cd d B (s.2.2 i)) → (∀ s ∈ st, S.cd z0 R (v s.1)) → (∀ j, j < w → S.cd (z0 * d) C (v j)) → (∀ i, i < n → S.cd (z0 * d) C (f i)) → C + st.length * (R * B) ≤ E → d ≤ B → 1 ≤ st.length → R * B ≤ E →
    ClrOk w n st v f ∧ (∀ j, j < w → S.cd (z0 * d) (C + st.length * (R * B)) ((clr st v f).1 j)) ∧ ∀ i, i < n → S.cd (z0 * d) (C + st.length * (R * B)) ((clr st v f).2 i)
  | [], _, _, _, _, _, _, _, _, _, _, h, _ => by simp at h
  | s :: st, C, v, f, hp, ha, hv, h1, h2, hC, hdB, _, hRB => by
    obtain ⟨p1, p2⟩ := List.pairwise_cons.mp hp
    obtain ⟨a1, a2, a3⟩ := ha s List.mem_cons_self
    have hvs := hv s List.mem_cons_self
    have hn := S.cd_neg hvs
    have l42 : z0 < 2 ^ N := by omega
    have hCE : C ≤ E := by omega
    have hdE : d ≤ E := by omega
    have q1 : ∀ j, j < w → S.cd (z0 * d) (R * B) (-(v s.1) * s.2.1 j) := fun j hj => S.cd_mul hn (a2 j hj)
    have q2 : ∀ i, i < n → S.cd (z0 * d) (R * B) (-(v s.1) * s.2.2 i) := fun i hi => S.cd_mul hn (a3 i hi)
    have g1 : ∀ j, j < w → S.cd (z0 * d) (C + R * B) (v j + -(v s.1) * s.2.1 j) := fun j hj => S.cd_add (h1 j hj) (q1 j hj)
    have g2 : ∀ i, i < n → S.cd (z0 * d) (C + R * B) (f i + -(v s.1) * s.2.2 i) := fun i hi => S.cd_add (h2 i hi) (q2 i hi)
    have p42 : 0 < z0 * d := Nat.mul_pos z1 hd
    have here : s.1 < w ∧ S.Sm (-(v s.1)) ∧ (∀ j, j < w → S.Sm (v j) ∧ S.Sm (s.2.1 j) ∧ S.Sm (-(v s.1) * s.2.1 j)) ∧ (∀ i, i < n → S.Sm (f i) ∧ S.Sm (s.2.2 i) ∧ S.Sm (-(v s.1) * s.2.2 i)) :=
      ⟨a1, Sm_of hn z1 l42 (by omega) h7 h26, fun j hj => ⟨Sm_of (h1 j hj) p42 (by omega) (by omega) h7 h26, Sm_of (a2 j hj) hd (by omega) (by omega) h7 h26, Sm_of (q1 j hj) p42 (by omega) (by omega) h7 h26⟩,
        fun i hi => ⟨Sm_of (h2 i hi) p42 (by omega) (by omega) h7 h26, Sm_of (a3 i hi) hd (by omega) (by omega) h7 h26, Sm_of (q2 i hi) p42 (by omega) (by omega) h7 h26⟩⟩
    obtain ⟨b1, b2, b3, b4⟩ := here
    have hlen : C + R * B + st.length * (R * B) = C + (st.length + 1) * (R * B) := by rw [Nat.succ_mul]; omega
    simp only [List.length_cons] at hC ⊢
    cases st with
    | nil =>
      simp only [clr, ClrOk]
      refine ⟨⟨b1, b2, b3, b4, trivial⟩, fun j hj => ?_, fun i hi => ?_⟩
      · simpa using g1 j hj
      · simpa using g2 i hi
    | cons s2 st2 =>
      obtain ⟨r1, r2, r3⟩ := clr_ok z1 z2 h7 h26 hE hR hB hd h42 (st := s2 :: st2) (C := C + R * B) (v := fun i => v i + -(v s.1) * s.2.1 i) (f := fun i => f i + -(v s.1) * s.2.2 i) p2 (fun t ht => ha t (List.mem_cons_of_mem _ ht))
        (fun t ht => by
          have e : v t.1 + -(v s.1) * s.2.1 t.1 = v t.1 := by rw [(p1 t ht).1]; grind
          rw [e]; exact hv t (List.mem_cons_of_mem _ ht)) g1 g2 (by rw [hlen]; exact hC) hdB (by simp) hRB
      rw [hlen] at r2 r3
      exact ⟨⟨b1, b2, b3, b4, r1⟩, r2, r3⟩
theorem more_sz {z0 d B C q : Nat} (z1 : 0 < z0) {st : List (Stp S)} {v f : Nat → S.F} (h : SZ w n d B st) (hv : ∀ j, j < w → S.cd (z0 * d) C (v j)) (hf : ∀ i, i < n → S.cd (z0 * d) C (f i)) (hq : q < w) (h0 : v q ≠ 0) (hC : 1 ≤ C) :
    ∃ d', SZ w n d' (2 * (B * C)) (more st q (fun j => S.inv (v q) * v j) fun i => S.inv (v q) * f i) := by
  have hd := h.pos
  obtain ⟨e, e0, e1, e2⟩ := S.cd_div (Nat.mul_pos z1 hd) (hv q hq) h0
  rw [Nat.max_eq_left hC] at e1
  have hdB := h.le
  have k1 : d * e ≤ B * C := Nat.mul_le_mul hdB e1
  have k2 : B * e ≤ B * C := Nat.mul_le_mul_left _ e1
  have k3 : C * d ≤ B * C := by rw [Nat.mul_comm]; exact Nat.mul_le_mul_right _ hdB
  refine ⟨d * e, Nat.mul_pos hd e0, by omega, fun s hs => ?_⟩
  have v2 := fun j hj => e2 C (v j) (hv j hj)
  have f2 := fun i hi => e2 C (f i) (hf i hi)
  rcases List.mem_append.mp hs with z | z
  · obtain ⟨t, ht, rfl⟩ := List.mem_map.mp z
    obtain ⟨a1, a2⟩ := h.at_ t ht
    have hn := S.cd_neg (a1 q hq)
    refine ⟨fun j hj => ?_, fun i hi => ?_⟩
    · exact S.cd_le (S.cd_add (S.cd_up e (a1 j hj)) (S.cd_mul hn (v2 j hj))) (by omega)
    · exact S.cd_le (S.cd_add (S.cd_up e (a2 i hi)) (S.cd_mul hn (f2 i hi))) (by omega)
  · obtain rfl : s = (q, (fun j => S.inv (v q) * v j), fun i => S.inv (v q) * f i) := by simpa using z
    rw [Nat.mul_comm d e]
    exact ⟨fun j hj => S.cd_le (S.cd_up d (v2 j hj)) (by omega), fun i hi => S.cd_le (S.cd_up d (f2 i hi)) (by omega)⟩
end
/-- .. into a list that may still change -/
theorem lc_pureT {ι : Type} {G : Mem → Prop} {T : D → Mem → (Option D → Mem → Prop) → Prop} {m0 : Mem} {Q : KD} {p : Addr} (l : List ι) (g h : ι → D) (hp : m0 p = none) (hG : ∀ c, G (put m0 p c)) (ht : ∀ i ∈ l, ∀ c K, K (some (h i)) (put m0 p c) → T (g i) (put m0 p c) K)
    (hQ : Q (.ref p) (put m0 p (.lst (l.map h)))) : lcL G T p (l.map g) [] (put m0 p (.lst [])) (lcEnd true p Q) := by
  have go : ∀ (l : List ι) (acc : List D), (∀ i ∈ l, ∀ c K, K (some (h i)) (put m0 p c) → T (g i) (put m0 p c) K) → Q (.ref p) (put m0 p (.lst (acc ++ l.map h))) → lcL G T p (l.map g) acc (put m0 p (.lst acc)) (lcEnd true p Q) := by
    intro l
    induction l with
    | nil =>
      intro acc _ hq
      simp only [List.map_nil, lcL]
      exact ⟨hG _, put_same, show Q (.ref p) (put m0 p (.lst acc)) from by simpa using hq⟩
    | cons i l ih =>
      intro acc ht hq
      simp only [List.map_cons, lcL]
      refine ⟨hG _, ht i List.mem_cons_self _ _ ⟨put_same, ?_⟩⟩
      simp only [put_put]
      exact ih _ (fun j hj => ht j (List.mem_cons_of_mem _ hj)) (by simpa using hq)
  exact go l [] ht (by simpa using hQ)
theorem row_set {S : Sys} {w a : Nat} {v : Nat → S.F} {x : S.F} : ((List.range w).map fun i => S.d (v i)).set a (S.d x) = (List.range w).map fun i => S.d (if i = a then x else v i) := by
  apply List.ext_getElem?
  intro i
  rw [List.getElem?_map, List.getElem?_set]
  by_cases hi : i < w
  · rw [List.getElem?_range hi]
    by_cases e : a = i
    · subst e
      simp [hi]
    · rw [if_neg e, List.getElem?_map, List.getElem?_range hi]
      simp [Ne.symm e]
  · rw [List.getElem?_eq_none (l := List.range w) (by simp; omega)]
    by_cases e : a = i
    · subst e
      simp [hi]
    · rw [if_neg e, List.getElem?_map, List.getElem?_eq_none (l := List.range w) (by simp; omega)]
      rfl
end Og
end
section
set_option maxHeartbeats 4000000
set_option autoImplicit false
namespace Og.Lk44
open PySem Og
def stD (S : Sys) (w n : Nat) (s : Stp S) : D := .tup [.int (s.1 : Int), S.row w s.2.1, S.row n s.2.2]
def stsD (S : Sys) (w n : Nat) (st : List (Stp S)) : D := .lst (st.map (stD S w n))
theorem seq_sts {S : Sys} {w n : Nat} {st : List (Stp S)} {m : Mem} : seqOf m (stsD S w n st) = some (st.map (stD S w n)) := rfl
theorem gd_sts {S : Sys} {w n : Nat} {st : List (Stp S)} {m : Mem} : guard m (stsD S w n st) = fun _ => True := rfl
def s_cleared (C : Addr) : Spec := fun ds m Q => ∃ (k : Ks) (w n : Nat) (p dx : Addr) (rel : D) (st : List (Stp (sys k))) (v f : Nat → (sys k).F), ds = [.ref p, (sys k).row w v, (sys k).row n f] ∧ m p = some (.obj C dx [some (.int (sys k).by_), some rel, some (stsD (sys k) w n st)]) ∧
  ClrOk w n st v f ∧ Q (.tup [(sys k).row w (clr st v f).1, (sys k).row n (clr st v f).2]) m
theorem law_cleared {X : Ctx} (hn : X.fn 30 = s_neg) (hp : X.fn 32 = s_row_plus) (ds : List D) (m : Mem) (Q : KD) (h : s_cleared (X.cls 0) ds m Q) : body X 7 c35 ds m Q := by
  obtain ⟨k, w, n, p, dx, rel, st, v, f, rfl, hm, ok, q⟩ := h
  simp only [c35, hn, hp, hm, body, exs, ex, ev, evs, evB, evO, evT, evI, startD, List.map_cons, List.map_nil, List.length_cons, List.length_nil, Nat.reduceAdd, Nat.reduceSub, List.replicate, List.cons_append, List.nil_append, List.append_nil, List.getElem?_cons_zero, List.getElem?_cons_succ, Option.some.injEq, exists_and_left, exists_eq_left', exists_eq_left, exists_eq, ix_tup, at0, at1, at2, op_add', op_sub', op_mul', op_fdiv', op_mod', op_pow', op_addT, cm_lt, cm_le, cm_gt, cm_ge, cm_eq, cm_ne, cm_eqS, cm_neS, onb, oni, yn_gd, yn_cls, Nat.reduceLT, if_true, if_false, true_and, and_true, List.set_cons_zero, List.set_cons_succ, set_nm, set_tup, set_nil, set_cons, ifb, b1_abs, b1_int, b1_intB, b1_lenT, b1_lenL, b1_tupL, b1_tupT, b2_min, b2_max, seq_tup, seq_lst, seq_sq, gd_sq, ix_sq, len_sq, new_t, new_f, gd_tup, gd_lst, ix_lst, ty_int, ty_tup, ty_str, isi_ii, isi_ib, isi_tt, isi_ss, reduceIte, Bool.true_eq_false, Bool.false_eq_true, Bool.not_true, Bool.not_false,  List.zip_cons_cons, List.zip_nil_right, List.foldl_cons, List.foldl_nil, ne_eq, not_false_eq_true, not_true_eq_false, Bool.not_eq_true', decide_eq_false_iff_not, decide_eq_true_eq, reduceCtorEq, List.cons.injEq, and_self, D.ref.injEq, Cell.obj.injEq, D.int.injEq, and_assoc, seq_sts, gd_sts]
  refine for_inv _ (fun i r m' => m' = m ∧ ∃ (v' f' : Nat → (sys k).F) (o1 o2 o3 o4 : Option D), r = [some (.ref p), some ((sys k).row w v'), some ((sys k).row n f'), o1, o2, o3, o4] ∧ clr (st.drop i) v' f' = clr st v f ∧ ClrOk w n (st.drop i) v' f') st 0 _ _ ⟨rfl, v, f, none, none, none, none, rfl, rfl, ok⟩ ?_ ?_
  · rintro i hi r m' N ⟨rfl, v', f', o1, o2, o3, o4, rfl, e1, e2⟩ kN
    simp only [Nat.zero_add] at e1 e2 kN
    rw [List.drop_eq_getElem_cons hi] at e1 e2
    simp only [clr, ClrOk] at e1 e2
    obtain ⟨b0, b1, b2, b3, b4⟩ := e2
    simp only [stD, hm, body, exs, ex, ev, evs, evB, evO, evT, evI, startD, List.map_cons, List.map_nil, List.length_cons, List.length_nil, Nat.reduceAdd, Nat.reduceSub, List.replicate, List.cons_append, List.nil_append, List.append_nil, List.getElem?_cons_zero, List.getElem?_cons_succ, Option.some.injEq, exists_and_left, exists_eq_left', exists_eq_left, exists_eq, ix_tup, at0, at1, at2, op_add', op_sub', op_mul', op_fdiv', op_mod', op_pow', op_addT, cm_lt, cm_le, cm_gt, cm_ge, cm_eq, cm_ne, cm_eqS, cm_neS, onb, oni, yn_gd, yn_cls, Nat.reduceLT, if_true, if_false, true_and, and_true, List.set_cons_zero, List.set_cons_succ, set_nm, set_tup, set_nil, set_cons, ifb, b1_abs, b1_int, b1_intB, b1_lenT, b1_lenL, b1_tupL, b1_tupT, b2_min, b2_max, seq_tup, seq_lst, seq_sq, gd_sq, ix_sq, len_sq, new_t, new_f, gd_tup, gd_lst, ix_lst, ty_int, ty_tup, ty_str, isi_ii, isi_ib, isi_tt, isi_ss, reduceIte, Bool.true_eq_false, Bool.false_eq_true, Bool.not_true, Bool.not_false,  List.zip_cons_cons, List.zip_nil_right, List.foldl_cons, List.foldl_nil, ne_eq, not_false_eq_true, not_true_eq_false, Bool.not_eq_true', decide_eq_false_iff_not, decide_eq_true_eq, reduceCtorEq, List.cons.injEq, and_self, D.ref.injEq, Cell.obj.injEq, D.int.injEq, and_assoc, seq_sts, gd_sts]
    rw [row_get b0]
    refine ⟨k, _, rfl, ?_⟩
    try simp only [hm, body, exs, ex, ev, evs, evB, evO, evT, evI, startD, List.map_cons, List.map_nil, List.length_cons, List.length_nil, Nat.reduceAdd, Nat.reduceSub, List.replicate, List.cons_append, List.nil_append, List.append_nil, List.getElem?_cons_zero, List.getElem?_cons_succ, Option.some.injEq, exists_and_left, exists_eq_left', exists_eq_left, exists_eq, ix_tup, at0, at1, at2, op_add', op_sub', op_mul', op_fdiv', op_mod', op_pow', op_addT, cm_lt, cm_le, cm_gt, cm_ge, cm_eq, cm_ne, cm_eqS, cm_neS, onb, oni, yn_gd, yn_cls, Nat.reduceLT, if_true, if_false, true_and, and_true, List.set_cons_zero, List.set_cons_succ, set_nm, set_tup, set_nil, set_cons, ifb, b1_abs, b1_int, b1_intB, b1_lenT, b1_lenL, b1_tupL, b1_tupT, b2_min, b2_max, seq_tup, seq_lst, seq_sq, gd_sq, ix_sq, len_sq, new_t, new_f, gd_tup, gd_lst, ix_lst, ty_int, ty_tup, ty_str, isi_ii, isi_ib, isi_tt, isi_ss, reduceIte, Bool.true_eq_false, Bool.false_eq_true, Bool.not_true, Bool.not_false,  List.zip_cons_cons, List.zip_nil_right, List.foldl_cons, List.foldl_nil, ne_eq, not_false_eq_true, not_true_eq_false, Bool.not_eq_true', decide_eq_false_iff_not, decide_eq_true_eq, reduceCtorEq, List.cons.injEq, and_self, D.ref.injEq, Cell.obj.injEq, D.int.injEq, and_assoc, seq_sts, gd_sts]
    refine ⟨k, w, v', _, _, rfl, b1, b2, ?_⟩
    try simp only [hm, body, exs, ex, ev, evs, evB, evO, evT, evI, startD, List.map_cons, List.map_nil, List.length_cons, List.length_nil, Nat.reduceAdd, Nat.reduceSub, List.replicate, List.cons_append, List.nil_append, List.append_nil, List.getElem?_cons_zero, List.getElem?_cons_succ, Option.some.injEq, exists_and_left, exists_eq_left', exists_eq_left, exists_eq, ix_tup, at0, at1, at2, op_add', op_sub', op_mul', op_fdiv', op_mod', op_pow', op_addT, cm_lt, cm_le, cm_gt, cm_ge, cm_eq, cm_ne, cm_eqS, cm_neS, onb, oni, yn_gd, yn_cls, Nat.reduceLT, if_true, if_false, true_and, and_true, List.set_cons_zero, List.set_cons_succ, set_nm, set_tup, set_nil, set_cons, ifb, b1_abs, b1_int, b1_intB, b1_lenT, b1_lenL, b1_tupL, b1_tupT, b2_min, b2_max, seq_tup, seq_lst, seq_sq, gd_sq, ix_sq, len_sq, new_t, new_f, gd_tup, gd_lst, ix_lst, ty_int, ty_tup, ty_str, isi_ii, isi_ib, isi_tt, isi_ss, reduceIte, Bool.true_eq_false, Bool.false_eq_true, Bool.not_true, Bool.not_false,  List.zip_cons_cons, List.zip_nil_right, List.foldl_cons, List.foldl_nil, ne_eq, not_false_eq_true, not_true_eq_false, Bool.not_eq_true', decide_eq_false_iff_not, decide_eq_true_eq, reduceCtorEq, List.cons.injEq, and_self, D.ref.injEq, Cell.obj.injEq, D.int.injEq, and_assoc, seq_sts, gd_sts]
    refine ⟨k, n, f', _, _, rfl, b1, b3, ?_⟩
    try simp only [hm, body, exs, ex, ev, evs, evB, evO, evT, evI, startD, List.map_cons, List.map_nil, List.length_cons, List.length_nil, Nat.reduceAdd, Nat.reduceSub, List.replicate, List.cons_append, List.nil_append, List.append_nil, List.getElem?_cons_zero, List.getElem?_cons_succ, Option.some.injEq, exists_and_left, exists_eq_left', exists_eq_left, exists_eq, ix_tup, at0, at1, at2, op_add', op_sub', op_mul', op_fdiv', op_mod', op_pow', op_addT, cm_lt, cm_le, cm_gt, cm_ge, cm_eq, cm_ne, cm_eqS, cm_neS, onb, oni, yn_gd, yn_cls, Nat.reduceLT, if_true, if_false, true_and, and_true, List.set_cons_zero, List.set_cons_succ, set_nm, set_tup, set_nil, set_cons, ifb, b1_abs, b1_int, b1_intB, b1_lenT, b1_lenL, b1_tupL, b1_tupT, b2_min, b2_max, seq_tup, seq_lst, seq_sq, gd_sq, ix_sq, len_sq, new_t, new_f, gd_tup, gd_lst, ix_lst, ty_int, ty_tup, ty_str, isi_ii, isi_ib, isi_tt, isi_ss, reduceIte, Bool.true_eq_false, Bool.false_eq_true, Bool.not_true, Bool.not_false,  List.zip_cons_cons, List.zip_nil_right, List.foldl_cons, List.foldl_nil, ne_eq, not_false_eq_true, not_true_eq_false, Bool.not_eq_true', decide_eq_false_iff_not, decide_eq_true_eq, reduceCtorEq, List.cons.injEq, and_self, D.ref.injEq, Cell.obj.injEq, D.int.injEq, and_assoc, seq_sts, gd_sts]
    exact kN _ _ ⟨rfl, _, _, _, _, _, _, rfl, e1, b4⟩
  · rintro r m' ⟨rfl, v', f', o1, o2, o3, o4, rfl, e1, e2⟩
    rw [Nat.zero_add, List.drop_length] at e1
    simp only [clr] at e1
    try simp only [body, exs, ex, ev, evs, evB, evO, evT, evI, startD, List.map_cons, List.map_nil, List.length_cons, List.length_nil, Nat.reduceAdd, Nat.reduceSub, List.replicate, List.cons_append, List.nil_append, List.append_nil, List.getElem?_cons_zero, List.getElem?_cons_succ, Option.some.injEq, exists_and_left, exists_eq_left', exists_eq_left, exists_eq, ix_tup, at0, at1, at2, op_add', op_sub', op_mul', op_fdiv', op_mod', op_pow', op_addT, cm_lt, cm_le, cm_gt, cm_ge, cm_eq, cm_ne, cm_eqS, cm_neS, onb, oni, yn_gd, yn_cls, Nat.reduceLT, if_true, if_false, true_and, and_true, List.set_cons_zero, List.set_cons_succ, set_nm, set_tup, set_nil, set_cons, ifb, b1_abs, b1_int, b1_intB, b1_lenT, b1_lenL, b1_tupL, b1_tupT, b2_min, b2_max, seq_tup, seq_lst, seq_sq, gd_sq, ix_sq, len_sq, new_t, new_f, gd_tup, gd_lst, ix_lst, ty_int, ty_tup, ty_str, isi_ii, isi_ib, isi_tt, isi_ss, reduceIte, Bool.true_eq_false, Bool.false_eq_true, Bool.not_true, Bool.not_false,  List.zip_cons_cons, List.zip_nil_right, List.foldl_cons, List.foldl_nil, ne_eq, not_false_eq_true, not_true_eq_false, Bool.not_eq_true', decide_eq_false_iff_not, decide_eq_true_eq, reduceCtorEq, List.cons.injEq, and_self, D.ref.injEq, Cell.obj.injEq, D.int.injEq]
    refine ⟨by decide, m', SubO.refl, ?_⟩
    rw [← e1] at q
    exact q
def s_barring (C : Addr) : Spec := fun ds m Q => ∃ (k : Ks) (w n : Nat) (p dx : Addr) (rel : D) (st : List (Stp (sys k))) (v : Nat → (sys k).F), ds = [.ref p, (sys k).row w v] ∧ m p = some (.obj C dx [some (.int (sys k).by_), some rel, some (stsD (sys k) w n st)]) ∧ WfM m ∧ w ≤ 1000 ∧
  (∃ q, q < w ∧ v q ≠ 0) ∧ (∀ s ∈ st, s.1 < w) ∧ ∀ q, q < w → v q ≠ 0 → Q ((sys k).row w (bar q st fun j => if j = q then 1 else 0)) m
end Og.Lk44
end
section
set_option maxHeartbeats 4000000
set_option autoImplicit false
/-! Og: the stair, row by row: what is known behind T rows. -/
namespace Og
open PySem
section
variable {S : Sys} {w n : Nat} {M : Nat → Nat → S.F}
def TakeOk {S : Sys} (w n a : Nat) (st : List (Stp S)) (v f : Nat → S.F) : Prop := S.Sm (S.inv (v a)) ∧ (∀ j, j < w → S.Sm (v j) ∧ S.Sm (S.inv (v a) * v j)) ∧ (∀ i, i < n → S.Sm (f i) ∧ S.Sm (S.inv (v a) * f i)) ∧
  ∀ s ∈ st, S.Sm (-(s.2.1 a)) ∧ (∀ j, j < w → S.Sm (s.2.1 j) ∧ S.Sm (-(s.2.1 a) * (S.inv (v a) * v j))) ∧ ∀ i, i < n → S.Sm (s.2.2 i) ∧ S.Sm (-(s.2.1 a) * (S.inv (v a) * f i))
/-- bits of the steps' common bound, by their number; worths of at most r bits -/
def eB (r : Nat) : Nat → Nat
  | 0 => 0
  | k + 1 => 2 * eB r k + r + 7
theorem eB_mono {r i j : Nat} (h : i ≤ j) : eB r i ≤ eB r j := by
  induction h with
  | refl => exact Nat.le_refl _
  | step _ ih => exact Nat.le_trans ih (by simp only [eB]; omega)
/-- the factors that make a row, or nought -/
abbrev Rl (S : Sys) : Type := Nat × (Nat → S.F)
structure StOk {S : Sys} (ro w n T : Nat) (M : Nat → Nat → S.F) (st : List (Stp S)) (rels : List (Rl S)) : Prop where
  red : Red w n M st
  kill : Kill w M st T
  cnt : st.length + rels.length = T
  sz : ∃ d, SZ w n d (2 ^ eB ro st.length) st
  supp : ∀ s ∈ st, ∀ i, T ≤ i → s.2.2 i = 0
  rel : ∀ r ∈ rels, r.1 < T ∧ r.2 r.1 = 1 ∧ (∀ i, r.1 < i → r.2 i = 0) ∧ ∀ j, j < w → lin n M r.2 j = 0
  asc : rels.Pairwise fun a b => a.1 < b.1
  rsz : ∀ r ∈ rels, ∃ d, 0 < d ∧ d ≤ 2 ^ eB ro (st.length + 1) ∧ ∀ i, i < n → S.cd d (2 ^ eB ro (st.length + 1)) (r.2 i)
theorem st_zero {ro : Nat} : StOk ro w n 0 M [] [] where
  red := ⟨fun s h => (by cases h), List.Pairwise.nil⟩
  kill := fun u _ t h => by omega
  cnt := rfl
  sz := ⟨1, (by decide), (by exact Nat.one_le_two_pow), fun s h => by cases h⟩
  supp := fun s h => by cases h
  rel := fun s h => by cases h
  asc := List.Pairwise.nil
  rsz := fun s h => by cases h
/-- clearing, with its sizes -/
theorem st_clr {z0 d B R N : Nat} (z1 : 0 < z0) {st : List (Stp S)} {v f : Nat → S.F} (hR : Red w n M st) (hs : SZ w n d B st) (hl : st.length ≤ 16) (hv : ∀ j, j < w → S.cd z0 R (v j)) (hf : ∀ i, i < n → S.cd (z0 * d) (z0 * d) (f i)) (h42 : z0 ≤ R) (hE : 17 * (R * B) < 2 ^ N) (h7 : 7 ≤ N) (h26 : N ≤ 2 ^ 26) :
    ClrOk w n st v f ∧ (∀ j, j < w → S.cd (z0 * d) (17 * (R * B)) ((clr st v f).1 j)) ∧ ∀ i, i < n → S.cd (z0 * d) (17 * (R * B)) ((clr st v f).2 i) := by
  have hd := hs.pos
  have hdB := hs.le
  have k1 : R * d ≤ R * B := Nat.mul_le_mul_left _ hdB
  have k2 : z0 * d ≤ R * d := Nat.mul_le_mul_right _ h42
  have zd : 0 < z0 * d := Nat.mul_pos z1 hd
  have k3 : R * 1 ≤ R * B := Nat.mul_le_mul_left _ (by omega)
  have k4 : 1 * B ≤ R * B := Nat.mul_le_mul_right _ (by omega)
  have v1 : ∀ j, j < w → S.cd (z0 * d) (R * B) (v j) := fun j hj => S.cd_le (S.cd_up d (hv j hj)) k1
  have f1 : ∀ i, i < n → S.cd (z0 * d) (R * B) (f i) := fun i hi => S.cd_le (hf i hi) (by omega)
  cases st with
  | nil =>
    simp only [ClrOk, clr]
    exact ⟨trivial, fun j hj => S.cd_le (v1 j hj) (by omega), fun i hi => S.cd_le (f1 i hi) (by omega)⟩
  | cons s st =>
    have k5 : (s :: st).length * (R * B) ≤ 16 * (R * B) := Nat.mul_le_mul_right _ hl
    obtain ⟨r1, r2, r3⟩ := clr_ok z1 h42 (R := R) (B := B) (C := R * B) (v := v) (f := f) h7 h26 hE (by omega) (by omega) hd (by omega) hR.two (fun t ht => ⟨(hR.one t ht).1, (hs.at_ t ht).1, (hs.at_ t ht).2⟩) (fun t ht => hv _ (hR.one t ht).1) v1 f1 (by omega) hdB (by simp) (by omega)
    exact ⟨r1, fun j hj => S.cd_le (r2 j hj) (by omega), fun i hi => S.cd_le (r3 i hi) (by omega)⟩
/-- taking, with its sizes -/
theorem st_take {z0 d B C N a : Nat} (z1 : 0 < z0) {st : List (Stp S)} {v f : Nat → S.F} (hs : SZ w n d B st) (ha : a < w) (h0 : v a ≠ 0) (hv : ∀ j, j < w → S.cd (z0 * d) C (v j)) (hf : ∀ i, i < n → S.cd (z0 * d) C (f i)) (hC : z0 * d ≤ C) (hE : B * C < 2 ^ N) (h7 : 7 ≤ N) (h26 : N ≤ 2 ^ 26) : TakeOk w n a st v f := by
  have hd := hs.pos
  have hdB := hs.le
  have zd : 0 < z0 * d := Nat.mul_pos z1 hd
  obtain ⟨e, e0, e1, e2⟩ := S.cd_div (Nat.mul_pos z1 hd) (hv a ha) h0
  rw [Nat.max_eq_left (show 1 ≤ C by omega)] at e1
  have b1 : 1 * C ≤ B * C := Nat.mul_le_mul_right _ (by omega)
  have b2 : B * 1 ≤ B * C := Nat.mul_le_mul_left _ (by omega)
  have b3 : d * e ≤ B * C := Nat.mul_le_mul hdB e1
  have i1 : S.Sm (S.inv (v a)) := by
    have := Sm_of (S.cd_le (e2 _ _ (S.cd_one (d := z0 * d))) hC) e0 (show e < 2 ^ N by omega) (show C < 2 ^ N by omega) h7 h26
    have e3 : S.inv (v a) * 1 = S.inv (v a) := by grind
    rw [e3] at this
    exact this
  refine ⟨i1, fun j hj => ⟨Sm_of (hv j hj) (by omega) (by omega) (by omega) h7 h26, Sm_of (e2 _ _ (hv j hj)) e0 (by omega) (by omega) h7 h26⟩, fun i hi => ⟨Sm_of (hf i hi) (by omega) (by omega) (by omega) h7 h26, Sm_of (e2 _ _ (hf i hi)) e0 (by omega) (by omega) h7 h26⟩, fun s hs' => ?_⟩
  obtain ⟨a1, a2⟩ := hs.at_ s hs'
  have n1 := S.cd_neg (a1 a ha)
  refine ⟨Sm_of n1 hd (by omega) (by omega) h7 h26, fun j hj => ⟨Sm_of (a1 j hj) hd (by omega) (by omega) h7 h26, Sm_of (S.cd_mul n1 (e2 _ _ (hv j hj))) (Nat.mul_pos hd e0) (by omega) (by omega) h7 h26⟩,
    fun i hi => ⟨Sm_of (a2 i hi) hd (by omega) (by omega) h7 h26, Sm_of (S.cd_mul n1 (e2 _ _ (hf i hi))) (Nat.mul_pos hd e0) (by omega) (by omega) h7 h26⟩⟩
def dlt {S : Sys} (T : Nat) : Nat → S.F := fun i => if i = T then 1 else 0
theorem sm_dlt {T : Nat} {g : Nat → S.F} : ∀ {n : Nat}, sm n (fun t => dlt (S := S) T t * g t) = if T < n then g T else 0
  | 0 => by simp only [sm]; rw [if_neg (by omega)]
  | n + 1 => by
    simp only [sm]
    rw [sm_dlt (n := n)]
    unfold dlt
    by_cases e : n = T
    · subst e
      rw [if_neg (by omega), if_pos rfl, if_pos (by omega)]; grind
    · rw [if_neg e]
      by_cases l : T < n
      · rw [if_pos l, if_pos (by omega)]; grind
      · rw [if_neg l, if_neg (by omega)]; grind
theorem lin_dlt {T j : Nat} (h : T < n) : lin n M (dlt T) j = M T j := by
  unfold lin
  rw [sm_dlt, if_pos h]
theorem lin_neg {f : Nat → S.F} {j : Nat} : lin n M (fun i => -(f i)) j = -(lin n M f j) := by
  have h := lin_mul (n := n) (M := M) (c := (-1 : S.F)) (f := f) (j := j)
  have e : (fun i => -(f i)) = fun i => (-1 : S.F) * f i := funext fun i => by grind
  rw [e, h]
  grind
theorem clr_supp {st : List (Stp S)} {v f : Nat → S.F} {i : Nat} (hp : st.Pairwise fun s t => s.2.1 t.1 = 0 ∧ t.2.1 s.1 = 0) (hs : ∀ s ∈ st, s.2.2 i = 0) : (clr st v f).2 i = f i := by
  rw [(clr_eq hp).2, ls_zero fun s h => by rw [hs s h]; grind]
  grind
theorem cd_dlt {d T i : Nat} : S.cd d d (dlt (S := S) T i) := by
  unfold dlt
  split
  · exact S.cd_one
  · exact S.cd_le S.cd_zero (by omega)
theorem eB_arith {B R ro x y : Nat} (hR : R = 2 ^ ro) (hB : B = 2 ^ x) (hx : y = 2 * x + ro + 7) : 2 * (B * (17 * (R * B))) ≤ 2 ^ y := by
  have e : 2 ^ y = B * B * (128 * R) := by
    rw [hx, hB, hR, show 2 * x + ro + 7 = x + x + (7 + ro) from by omega, Nat.pow_add, Nat.pow_add, Nat.pow_add]
  rw [e]
  have : 2 * (B * (17 * (R * B))) = B * B * (34 * R) := by
    simp only [Nat.mul_comm, Nat.mul_left_comm, Nat.mul_assoc]
  rw [this]
  exact Nat.mul_le_mul_left _ (Nat.mul_le_mul_right _ (by decide))
/-- one row more -/
theorem st_step {z0 ro T : Nat} {st : List (Stp S)} {rels : List (Rl S)} (z1 : 0 < z0) (z2 : z0 ≤ 2 ^ ro) (room : eB ro (n + 1) ≤ 2 ^ 25) (ok : StOk ro w n T M st rels) (hT : T < n) (h16 : T < 16) (hM : ∀ j, j < w → S.cd z0 (2 ^ ro) (M T j)) :
    ClrOk w n st (M T) (dlt T) ∧
    ((∀ j, j < w → (clr st (M T) (dlt T)).1 j = 0) → StOk ro w n (T + 1) M st (rels ++ [(T, (clr st (M T) (dlt T)).2)])) ∧
    ∀ a, a < w → (clr st (M T) (dlt T)).1 a ≠ 0 → TakeOk w n a st (clr st (M T) (dlt T)).1 (clr st (M T) (dlt T)).2 ∧
      StOk ro w n (T + 1) M (more st a (fun j => S.inv ((clr st (M T) (dlt T)).1 a) * (clr st (M T) (dlt T)).1 j) fun i => S.inv ((clr st (M T) (dlt T)).1 a) * (clr st (M T) (dlt T)).2 i) rels := by
  obtain ⟨d, sz⟩ := ok.sz
  have hlen : st.length ≤ T := by have := ok.cnt; omega
  generalize hr : st.length = r at hlen sz
  have hd := sz.pos
  have hdB := sz.le
  have hB1 : 1 ≤ 2 ^ eB ro r := Nat.one_le_two_pow
  have hbig := eB_arith (ro := ro) (R := 2 ^ ro) (B := 2 ^ eB ro r) (x := eB ro r) (y := eB ro (r + 1)) rfl rfl rfl
  have hN : eB ro (r + 1) ≤ 2 ^ 26 := Nat.le_trans (eB_mono (show r + 1 ≤ n + 1 by omega)) (by omega)
  have hN7 : 7 ≤ eB ro (r + 1) := by simp only [eB]; omega
  have hmono : 2 ^ eB ro (r + 1) ≤ 2 ^ eB ro (r + 1 + 1) := Nat.pow_le_pow_right (by decide) (eB_mono (by omega))
  have supp' : ∀ i, T < i → (clr st (M T) (dlt T)).2 i = 0 := fun i hi => by
    rw [clr_supp ok.red.two fun s hs => ok.supp s hs i (by omega)]
    unfold dlt; rw [if_neg (by omega)]
  have one' : (clr st (M T) (dlt T)).2 T = 1 := by
    rw [clr_supp ok.red.two fun s hs => ok.supp s hs T (by omega)]
    unfold dlt; rw [if_pos rfl]
  have lin' : ∀ j, j < w → (clr st (M T) (dlt T)).1 j = lin n M (clr st (M T) (dlt T)).2 j := fun j hj => by
    have := clr_lin (v := M T) (f := dlt T) ok.red hj
    rw [lin_dlt hT] at this
    grind
  have zero' : ∀ s ∈ st, (clr st (M T) (dlt T)).1 s.1 = 0 := clr_at ok.red
  have kill1 : (∀ j, j < w → (clr st (M T) (dlt T)).1 j = 0) → Kill w M st (T + 1) := ok.kill.same ok.red
  have kill2 : ∀ (a : Nat) (v2 f2 : Nat → S.F) (c : S.F), (∀ j, j < w → (clr st (M T) (dlt T)).1 j = c * v2 j) → Kill w M (more st a v2 f2) (T + 1) := fun a v2 f2 c => ok.kill.more ok.red
  have hR42 : z0 ≤ 2 ^ ro := z2
  generalize hRR : 2 ^ ro = R at hbig hM z2
  have hBB' : 2 ^ eB ro r = 2 ^ eB ro r := rfl
  generalize hBB : 2 ^ eB ro r = B at hB1 hbig sz hdB
  have gB : 1 * (17 * (R * B)) ≤ B * (17 * (R * B)) := Nat.mul_le_mul_right _ hB1
  have zd : 0 < z0 * d := Nat.mul_pos z1 hd
  have rb1 : 0 < R * B := Nat.mul_pos (by omega) hB1
  obtain ⟨c1, c2, c3⟩ := st_clr z1 (N := eB ro (r + 1)) (R := R) (v := M T) (f := dlt T) ok.red sz (by omega) hM (fun i _ => cd_dlt) z2 (by omega) hN7 hN
  have hC42 : z0 * d ≤ 17 * (R * B) := by
    have : z0 * d ≤ R * B := Nat.mul_le_mul z2 hdB
    omega
  generalize hC : 17 * (R * B) = C at hbig gB c2 c3 hC42
  have h4 : z0 * d ≤ 2 ^ eB ro (r + 1) := by omega
  have h5 : C ≤ 2 ^ eB ro (r + 1) := by omega
  refine ⟨c1, fun hz => ?_, fun a ha hne => ?_⟩
  · refine ⟨ok.red, kill1 hz, by have := ok.cnt; simp; omega, ok.sz, fun s hs i hi => ok.supp s hs i (by omega), fun r hr => ?_, ?_, fun rr hrr => ?_⟩
    · rcases List.mem_append.mp hr with z | z
      · obtain ⟨r1, r2⟩ := ok.rel r z
        exact ⟨by omega, r2⟩
      · obtain rfl : r = _ := by simpa using z
        exact ⟨by omega, one', supp', fun j hj => by
          (try dsimp only)
          rw [← lin' j hj]; exact hz j hj⟩
    · rw [List.pairwise_append]
      refine ⟨ok.asc, List.pairwise_singleton _ _, fun r hr t ht => ?_⟩
      obtain rfl : t = _ := by simpa using ht
      exact (ok.rel r hr).1
    · rcases List.mem_append.mp hrr with z | z
      · exact ok.rsz rr z
      · obtain rfl : rr = _ := by simpa using z
        rw [hr]
        exact ⟨z0 * d, zd, h4, fun i hi => S.cd_le (c3 i hi) h5⟩
  · refine ⟨st_take z1 (N := eB ro (r + 1)) sz ha hne c2 c3 hC42 (by omega) hN7 hN, ?_⟩
    have hi := S.inv_mul _ hne
    have hlm : ∀ v2 f2, (more st a v2 f2).length = r + 1 := fun v2 f2 => by unfold more; simp [hr]
    obtain ⟨d', s'⟩ := more_sz z1 sz c2 c3 ha hne (by omega)
    generalize hc : S.inv ((clr st (M T) (dlt T)).1 a) = c at hi s'
    refine ⟨more_red ok.red ha (by first | exact hi | (dsimp only; exact hi)) (fun s hs => by (try dsimp only); rw [zero' s hs]; grind) fun j hj => ?_, kill2 _ _ _ ((clr st (M T) (dlt T)).1 a) fun j hj => by (try dsimp only); grind, ?_, ?_, fun s hs i hi => ?_, fun r hr => ?_, ok.asc, fun rr hrr => ?_⟩
    · (try dsimp only)
      rw [lin_mul, lin' j hj]
    · rw [hlm]
      have := ok.cnt
      omega
    · rw [hlm]
      refine ⟨d', s'.pos, Nat.le_trans s'.le hbig, fun s hs => ⟨fun j hj => S.cd_le ((s'.at_ s hs).1 j hj) hbig, fun i hi => S.cd_le ((s'.at_ s hs).2 i hi) hbig⟩⟩
    · rcases List.mem_append.mp hs with z | z
      · obtain ⟨t, ht, rfl⟩ := List.mem_map.mp z
        show t.2.2 i + -(t.2.1 a) * _ = 0
        (try dsimp only)
        rw [ok.supp t ht i (by omega), supp' i (by omega)]
        grind
      · obtain rfl : s = _ := by simpa using z
        (try dsimp only)
        rw [supp' i (by omega)]
        grind
    · obtain ⟨r1, r2⟩ := ok.rel r hr
      exact ⟨by omega, r2⟩
    · obtain ⟨d2, q1, q2, q3⟩ := ok.rsz rr hrr
      rw [hr] at q2 q3
      rw [hlm]
      exact ⟨d2, q1, Nat.le_trans q2 hmono, fun i hi => S.cd_le (q3 i hi) hmono⟩
/-! ### what a span tells -/
def InSpan (w n : Nat) (M : Nat → Nat → S.F) (v : Nat → S.F) : Prop := ∃ f : Nat → S.F, ∀ j, j < w → lin n M f j = v j
theorem not_span {u v : Nat → S.F} (h : ∀ t, t < n → dot w u (M t) = 0) (h' : dot w u v ≠ 0) : ¬InSpan w n M v := fun ⟨f, hf⟩ => h' (by
  rw [← dot_congr hf, dot_lin]
  exact sm_zero fun t ht => by rw [h t ht]; grind)
/-- numbers of a common bottom -/
def BigRow (n : Nat) (f : Nat → S.F) : Prop := ∃ N d c, N ≤ 2 ^ 25 ∧ 7 ≤ N ∧ 0 < d ∧ d < 2 ^ N ∧ c < 2 ^ N ∧ ∀ i, i < n → S.cd d c (f i)
theorem BigRow.sm {f : Nat → S.F} {i : Nat} (h : BigRow n f) (hi : i < n) : S.Sm (f i) := by
  obtain ⟨N, d, c, hN, h7, h0, h1, h2, h3⟩ := h
  exact Sm_of (h3 i hi) h0 h1 h2 h7 (by omega)
/-- sums of products with small numbers -/
theorem BigRow.lin {f g : Nat → S.F} {z0 ro K : Nat} (h : BigRow K f) (z1 : 0 < z0) (z2 : z0 ≤ 2 ^ ro) (z3 : ro ≤ 2 ^ 24) (hg : ∀ i, i < K → S.cd z0 (2 ^ ro) (g i)) (hK : K ≤ 16) : ∀ i, i < K → S.Sm (f i) ∧ S.Sm (g i) ∧ S.Sm (f i * g i) ∧ S.Sm (Og.sm i fun t => f t * g t) := fun i hi => by
  obtain ⟨N, d, c, hN, h7, h0, h1, h2, h3⟩ := h
  have p : 2 ^ (N + (ro + 5)) = 2 ^ N * 2 ^ (ro + 5) := Nat.pow_add ..
  have pr5 : 2 ^ (ro + 5) = 2 ^ ro * 32 := Nat.pow_add ..
  have r1 : 1 ≤ 2 ^ ro := Nat.one_le_two_pow
  have q1 : d * z0 < 2 ^ (N + (ro + 5)) := by
    rw [p]
    exact Nat.lt_of_lt_of_le (Nat.mul_lt_mul_of_pos_right h1 z1) (Nat.mul_le_mul_left _ (by omega))
  have q2 : c * 2 ^ ro * 16 < 2 ^ (N + (ro + 5)) := by
    rw [p, Nat.mul_assoc]
    exact Nat.lt_of_lt_of_le (Nat.mul_lt_mul_of_pos_right h2 (by omega)) (Nat.mul_le_mul_left _ (by omega))
  have q3 : 2 ^ N ≤ 2 ^ (N + (ro + 5)) := Nat.pow_le_pow_right (by decide) (by omega)
  have pr : ∀ t, t < K → S.cd (d * z0) (c * 2 ^ ro) (f t * g t) := fun t ht => S.cd_mul (h3 t ht) (hg t ht)
  have sum := sm_cd (n := i) (v := fun t => f t * g t) (fun t ht => pr t (by omega))
  have l16 : i * (c * 2 ^ ro) ≤ c * 2 ^ ro * 16 := by rw [Nat.mul_comm]; exact Nat.mul_le_mul_left _ (by omega)
  have q4 : c * 2 ^ ro ≤ c * 2 ^ ro * 16 := Nat.le_mul_of_pos_right _ (by decide)
  have dz : 0 < d * z0 := Nat.mul_pos h0 z1
  have e5 : 2 ^ ro < 2 ^ (N + (ro + 5)) := Nat.pow_lt_pow_right (by decide) (by omega)
  refine ⟨Sm_of (h3 i hi) h0 h1 h2 h7 (by omega), Sm_of (hg i hi) z1 (n := N + (ro + 5)) (by omega) e5 (by omega) (by omega), Sm_of (pr i hi) dz q1 (by omega) (by omega) (by omega), Sm_of sum dz q1 (by omega) (by omega) (by omega)⟩
theorem bar_cd {d B q : Nat} : ∀ {st : List (Stp S)} {u : Nat → S.F}, (∀ s ∈ st, S.cd d B (s.2.1 q)) → (∀ j, S.cd d B (u j)) → ∀ j, S.cd d B (bar q st u j)
  | [], _, _, hu, j => hu j
  | s :: st, u, hs, hu, j => by
    simp only [bar]
    refine bar_cd (fun t ht => hs t (List.mem_cons_of_mem _ ht)) (fun i => ?_) j
    split
    · exact S.cd_neg (hs s List.mem_cons_self)
    · exact hu i
theorem bar_ok {st : List (Stp S)} {v : Nat → S.F} {a : Nat} (red : Red w n M st) (ha : a < w) (hne : (clr st v fun _ => 0).1 a ≠ 0) : (∀ s ∈ st, dot w (bar a st (dlt a)) s.2.1 = 0) ∧ dot w (bar a st (dlt a)) v ≠ 0 := by
  have hz := clr_at (v := v) (f := fun _ => (0 : S.F)) red
  have hne' : ∀ s ∈ st, s.1 ≠ a := fun s hs e => hne (by rw [← e]; exact hz s hs)
  have key : ∀ x : Nat → S.F, dot w (bar a st (dlt a)) x = x a + ls st fun s => -(s.2.1 a) * x s.1 := fun x => by
    rw [bar_dot red.two (fun s hs => ⟨(red.one s hs).1, (red.one s hs).2.1⟩) fun s hs => by unfold dlt; rw [if_neg (hne' s hs)]]
    have e : dot w (dlt a) x = x a := by unfold dot; rw [sm_dlt, if_pos ha]
    rw [e]
  have k0 : ∀ s ∈ st, dot w (bar a st (dlt a)) s.2.1 = 0 := fun s hs => by
    rw [key]
    have : ∀ l : List (Stp S), (∀ t ∈ l, t ∈ st) → l.Pairwise (fun s t => s.2.1 t.1 = 0 ∧ t.2.1 s.1 = 0) → (s ∈ l → (ls l fun t => -(t.2.1 a) * s.2.1 t.1) = -(s.2.1 a)) ∧ ((∀ t ∈ l, s.2.1 t.1 = 0) → (ls l fun t => -(t.2.1 a) * s.2.1 t.1) = 0) := by
      intro l
      induction l with
      | nil => intro _ _; exact ⟨fun h => (by cases h), fun _ => rfl⟩
      | cons t l ih =>
        intro h1 h2
        obtain ⟨q1, q2⟩ := List.pairwise_cons.mp h2
        obtain ⟨i1, i2⟩ := ih (fun t ht => h1 t (List.mem_cons_of_mem _ ht)) q2
        refine ⟨fun hs' => ?_, fun hz' => ?_⟩
        · simp only [ls]
          rcases List.mem_cons.mp hs' with z | z
          · subst z
            rw [i2 fun u hu => (q1 u hu).1, (red.one s hs).2.1]
            grind
          · rw [i1 z, (q1 s z).2]
            grind
        · simp only [ls]
          rw [i2 fun u hu => hz' u (List.mem_cons_of_mem _ hu), hz' t List.mem_cons_self]
          grind
    rw [(this st (fun _ h => h) red.two).1 hs]
    grind
  refine ⟨k0, ?_⟩
  rw [← clr_dot (f := fun _ => (0 : S.F)) red k0, key, ls_zero fun s hs => by rw [hz s hs]; grind]
  intro z
  exact hne (by grind)
/-- what in_span tells -/
theorem st_tell {z0 ro : Nat} {st : List (Stp S)} {rels : List (Rl S)} {v : Nat → S.F} (z1 : 0 < z0) (z2 : z0 ≤ 2 ^ ro) (room : eB ro (n + 1) ≤ 2 ^ 25) (ok : StOk ro w n n M st rels) (h16 : n ≤ 16) (hv : ∀ j, j < w → S.cd z0 (2 ^ ro) (v j)) :
    ClrOk w n st v (fun _ => 0) ∧ ((∀ j, j < w → (clr st v fun _ => 0).1 j = 0) → BigRow n (fun i => -((clr st v fun _ => 0).2 i)) ∧ ∀ j, j < w → lin n M (fun i => -((clr st v fun _ => 0).2 i)) j = v j) ∧
    (∀ s ∈ st, s.1 < w) ∧ (∀ i, i < n → S.Sm ((clr st v fun _ => 0).2 i)) ∧ ∀ a, a < w → (clr st v fun _ => 0).1 a ≠ 0 → BigRow w (bar a st (dlt a)) ∧ (∀ t, t < n → dot w (bar a st (dlt a)) (M t) = 0) ∧ dot w (bar a st (dlt a)) v ≠ 0 := by
  obtain ⟨d, sz⟩ := ok.sz
  have hlen : st.length ≤ n := by have := ok.cnt; omega
  have hd := sz.pos
  have hdB := sz.le
  have hB1 : 1 ≤ 2 ^ eB ro st.length := Nat.one_le_two_pow
  have hbig := eB_arith (ro := ro) (R := 2 ^ ro) (B := 2 ^ eB ro st.length) (x := eB ro st.length) (y := eB ro (st.length + 1)) rfl rfl rfl
  have hmono : 2 ^ eB ro (st.length + 1) ≤ 2 ^ eB ro (n + 1) := Nat.pow_le_pow_right (by decide) (eB_mono (by omega))
  have hN7 : 7 ≤ eB ro (n + 1) := by simp only [eB]; omega
  have hv' := hv
  have hR1 : 1 ≤ 2 ^ ro := Nat.one_le_two_pow
  generalize hRR : 2 ^ ro = R at hbig hv z2 hR1
  generalize hBB : 2 ^ eB ro st.length = B at hB1 sz hdB hbig
  have gB : 1 * (17 * (R * B)) ≤ B * (17 * (R * B)) := Nat.mul_le_mul_right _ hB1
  have gB2 : 1 * B ≤ R * B := Nat.mul_le_mul_right _ hR1
  have zd : 0 < z0 * d := Nat.mul_pos z1 hd
  have p5 : z0 * d ≤ R * B := Nat.mul_le_mul z2 hdB
  have p3 : 17 * (R * B) < 2 ^ eB ro (n + 1) := by omega
  obtain ⟨c1, c2, c3⟩ := st_clr z1 (N := eB ro (n + 1)) (R := R) (v := v) (f := fun _ => (0 : S.F)) ok.red sz (by omega) hv (fun i _ => S.cd_le S.cd_zero (by omega)) z2 p3 hN7 (by omega)
  refine ⟨c1, fun hz => ⟨⟨eB ro (n + 1), z0 * d, 17 * (R * B), room, hN7, zd, by omega, p3, fun i hi => S.cd_neg (c3 i hi)⟩, fun j hj => ?_⟩, fun s hs => (ok.red.one s hs).1, fun i hi => Sm_of (c3 i hi) zd (n := eB ro (n + 1)) (by omega) p3 hN7 (by omega), fun a ha hne => ⟨⟨eB ro (n + 1), d, B, room, hN7, hd, by omega, by omega, fun j _ => bar_cd (fun s hs => (sz.at_ s hs).1 a ha) (fun j => S.cd_le cd_dlt hdB) j⟩, ?_⟩⟩
  · have := clr_lin (v := v) (f := fun _ => (0 : S.F)) ok.red hj
    rw [hz j hj] at this
    have e := lin_neg (n := n) (M := M) (f := (clr st v fun _ => 0).2) (j := j)
    have e0 : lin n M (fun _ => (0 : S.F)) j = 0 := sm_zero fun i _ => by grind
    rw [e]
    rw [e0] at this
    grind
  · obtain ⟨k0, k1⟩ := bar_ok ok.red ha hne
    exact ⟨fun t ht => ok.kill _ k0 t ht, k1⟩
end
end Og
end
section
set_option maxHeartbeats 4000000
set_option autoImplicit false
namespace Og.Lk44
open PySem Og
def s_is_string : Spec := fun ds m Q => ∃ s : Str, ds = [.str s, .tup [.str "sum", .str "barred"]] ∧ (s = "sum" ∨ s = "barred") ∧ Q (.bl true) m
theorem subo_obj {m : Mem} {p r C dx : Addr} {fs gs : List (Option D)} {l : List D} (w : WfM m) (hp : m p = some (.obj C dx fs)) (hr : m r = none) : SubO (put m p (.obj C dx gs)) (put (put m r (.lst l)) p (.obj C dx gs)) := by
  have npr : p ≠ r := fun z => by rw [z, hr] at hp; cases hp
  refine ⟨Sub.put (Sub.fresh hr), fun a D' dx' fs' e => ?_⟩
  have hd : ∃ c, m dx' = some c ∧ dx' ≠ r := by
    by_cases ea : a = p
    · rw [ea, put_same] at e
      injection e with e
      injection e with e1 e2 e3
      subst e2
      have q := w p C dx fs hp
      exact ⟨_, q, fun z => by rw [z, hr] at q; cases q⟩
    · rw [put_ne ea] at e
      have q := w a D' dx' fs' e
      exact ⟨_, q, fun z => by rw [z, hr] at q; cases q⟩
  obtain ⟨c, h1, h2⟩ := hd
  by_cases ed : dx' = p
  · rw [ed, put_same, put_same]
  · rw [put_ne ed, put_ne ed, put_ne h2]
def s_stake (C : Addr) : Spec := fun ds m Q => ∃ (k : Ks) (w n : Nat) (p dx qr : Addr) (rels : List D) (st : List (Stp (sys k))) (v f : Nat → (sys k).F), ds = [.ref p, (sys k).row w v, (sys k).row n f] ∧ m p = some (.obj C dx [some (.int (sys k).by_), some (.ref qr), some (stsD (sys k) w n st)]) ∧ m qr = some (.lst rels) ∧ rels.length ≤ 1000 ∧ st.length ≤ 1000 ∧ WfM m ∧
  ((∀ i, i < w → v i = 0) → Q .non (put m qr (.lst (rels ++ [(sys k).row n f])))) ∧
  ∀ a, a < w → v a ≠ 0 → TakeOk w n a st v f ∧ Q .non (put m p (.obj C dx [some (.int (sys k).by_), some (.ref qr), some (stsD (sys k) w n (more st a (fun j => (sys k).inv (v a) * v j) fun i => (sys k).inv (v a) * f i))]))
theorem law_stake {X : Ctx} (hn : X.fn 30 = s_neg) (hl : X.fn 36 = s_leading) (ht : X.fn 29 = s_turned) (hr : X.fn 37 = s_row_times) (hp : X.fn 32 = s_row_plus) (ds : List D) (m : Mem) (Q : KD) (h : s_stake (X.cls 0) ds m Q) : body X 10 c38 ds m Q := by
  obtain ⟨k, w, n, p, dx, qr, rels, st, v, f, rfl, hm, hq, hrl, hsl, wf, q0, q1⟩ := h
  simp only [c38, hn, hl, ht, hr, hp, hm, body, exs, ex, ev, evs, evB, evO, evT, evI, startD, List.map_cons, List.map_nil, List.length_cons, List.length_nil, Nat.reduceAdd, Nat.reduceSub, List.replicate, List.cons_append, List.nil_append, List.append_nil, List.getElem?_cons_zero, List.getElem?_cons_succ, Option.some.injEq, exists_and_left, exists_eq_left', exists_eq_left, exists_eq, ix_tup, at0, at1, at2, op_add', op_sub', op_mul', op_fdiv', op_mod', op_pow', op_addT, cm_lt, cm_le, cm_gt, cm_ge, cm_eq, cm_ne, cm_eqS, cm_neS, onb, oni, yn_gd, yn_cls, Nat.reduceLT, if_true, if_false, true_and, and_true, List.set_cons_zero, List.set_cons_succ, set_nm, set_tup, set_nil, set_cons, ifb, b1_abs, b1_int, b1_intB, b1_lenT, b1_lenL, b1_tupL, b1_tupT, b2_min, b2_max, seq_tup, seq_lst, seq_sq, gd_sq, ix_sq, len_sq, new_t, new_f, gd_tup, gd_lst, ix_lst, ty_int, ty_tup, ty_str, isi_ii, isi_ib, isi_tt, isi_ss, reduceIte, Bool.true_eq_false, Bool.false_eq_true, Bool.not_true, Bool.not_false,  List.zip_cons_cons, List.zip_nil_right, List.foldl_cons, List.foldl_nil, ne_eq, not_false_eq_true, not_true_eq_false, Bool.not_eq_true', decide_eq_false_iff_not, decide_eq_true_eq, reduceCtorEq, List.cons.injEq, and_self, D.ref.injEq, Cell.obj.injEq, D.int.injEq, and_assoc, seq_sts, gd_sts]
  refine ⟨k, w, v, rfl, fun a ha hva _ => ?_, fun hz => ?_⟩
  · simp only [cmpD, onb, hm, body, exs, ex, ev, evs, evB, evO, evT, evI, startD, List.map_cons, List.map_nil, List.length_cons, List.length_nil, Nat.reduceAdd, Nat.reduceSub, List.replicate, List.cons_append, List.nil_append, List.append_nil, List.getElem?_cons_zero, List.getElem?_cons_succ, Option.some.injEq, exists_and_left, exists_eq_left', exists_eq_left, exists_eq, ix_tup, at0, at1, at2, op_add', op_sub', op_mul', op_fdiv', op_mod', op_pow', op_addT, cm_lt, cm_le, cm_gt, cm_ge, cm_eq, cm_ne, cm_eqS, cm_neS, onb, oni, yn_gd, yn_cls, Nat.reduceLT, if_true, if_false, true_and, and_true, List.set_cons_zero, List.set_cons_succ, set_nm, set_tup, set_nil, set_cons, ifb, b1_abs, b1_int, b1_intB, b1_lenT, b1_lenL, b1_tupL, b1_tupT, b2_min, b2_max, seq_tup, seq_lst, seq_sq, gd_sq, ix_sq, len_sq, new_t, new_f, gd_tup, gd_lst, ix_lst, ty_int, ty_tup, ty_str, isi_ii, isi_ib, isi_tt, isi_ss, reduceIte, Bool.true_eq_false, Bool.false_eq_true, Bool.not_true, Bool.not_false,  List.zip_cons_cons, List.zip_nil_right, List.foldl_cons, List.foldl_nil, ne_eq, not_false_eq_true, not_true_eq_false, Bool.not_eq_true', decide_eq_false_iff_not, decide_eq_true_eq, reduceCtorEq, List.cons.injEq, and_self, D.ref.injEq, Cell.obj.injEq, D.int.injEq, and_assoc, seq_sts, gd_sts]
    rw [row_get ha]
    obtain ⟨⟨t1, t2, t3, t4⟩, q2⟩ := q1 a ha hva
    refine ⟨k, v a, rfl, hva, ?_⟩
    simp only [hm, body, exs, ex, ev, evs, evB, evO, evT, evI, startD, List.map_cons, List.map_nil, List.length_cons, List.length_nil, Nat.reduceAdd, Nat.reduceSub, List.replicate, List.cons_append, List.nil_append, List.append_nil, List.getElem?_cons_zero, List.getElem?_cons_succ, Option.some.injEq, exists_and_left, exists_eq_left', exists_eq_left, exists_eq, ix_tup, at0, at1, at2, op_add', op_sub', op_mul', op_fdiv', op_mod', op_pow', op_addT, cm_lt, cm_le, cm_gt, cm_ge, cm_eq, cm_ne, cm_eqS, cm_neS, onb, oni, yn_gd, yn_cls, Nat.reduceLT, if_true, if_false, true_and, and_true, List.set_cons_zero, List.set_cons_succ, set_nm, set_tup, set_nil, set_cons, ifb, b1_abs, b1_int, b1_intB, b1_lenT, b1_lenL, b1_tupL, b1_tupT, b2_min, b2_max, seq_tup, seq_lst, seq_sq, gd_sq, ix_sq, len_sq, new_t, new_f, gd_tup, gd_lst, ix_lst, ty_int, ty_tup, ty_str, isi_ii, isi_ib, isi_tt, isi_ss, reduceIte, Bool.true_eq_false, Bool.false_eq_true, Bool.not_true, Bool.not_false,  List.zip_cons_cons, List.zip_nil_right, List.foldl_cons, List.foldl_nil, ne_eq, not_false_eq_true, not_true_eq_false, Bool.not_eq_true', decide_eq_false_iff_not, decide_eq_true_eq, reduceCtorEq, List.cons.injEq, and_self, D.ref.injEq, Cell.obj.injEq, D.int.injEq, and_assoc, seq_sts, gd_sts]
    refine ⟨k, w, v, _, rfl, t1, fun j hj => (t2 j hj).1, ?_⟩
    simp only [hm, body, exs, ex, ev, evs, evB, evO, evT, evI, startD, List.map_cons, List.map_nil, List.length_cons, List.length_nil, Nat.reduceAdd, Nat.reduceSub, List.replicate, List.cons_append, List.nil_append, List.append_nil, List.getElem?_cons_zero, List.getElem?_cons_succ, Option.some.injEq, exists_and_left, exists_eq_left', exists_eq_left, exists_eq, ix_tup, at0, at1, at2, op_add', op_sub', op_mul', op_fdiv', op_mod', op_pow', op_addT, cm_lt, cm_le, cm_gt, cm_ge, cm_eq, cm_ne, cm_eqS, cm_neS, onb, oni, yn_gd, yn_cls, Nat.reduceLT, if_true, if_false, true_and, and_true, List.set_cons_zero, List.set_cons_succ, set_nm, set_tup, set_nil, set_cons, ifb, b1_abs, b1_int, b1_intB, b1_lenT, b1_lenL, b1_tupL, b1_tupT, b2_min, b2_max, seq_tup, seq_lst, seq_sq, gd_sq, ix_sq, len_sq, new_t, new_f, gd_tup, gd_lst, ix_lst, ty_int, ty_tup, ty_str, isi_ii, isi_ib, isi_tt, isi_ss, reduceIte, Bool.true_eq_false, Bool.false_eq_true, Bool.not_true, Bool.not_false,  List.zip_cons_cons, List.zip_nil_right, List.foldl_cons, List.foldl_nil, ne_eq, not_false_eq_true, not_true_eq_false, Bool.not_eq_true', decide_eq_false_iff_not, decide_eq_true_eq, reduceCtorEq, List.cons.injEq, and_self, D.ref.injEq, Cell.obj.injEq, D.int.injEq, and_assoc, seq_sts, gd_sts]
    refine ⟨k, n, f, _, rfl, t1, fun j hj => (t3 j hj).1, ?_⟩
    simp only [body, exs, ex, ev, evs, evB, evO, evT, evI, startD, List.map_cons, List.map_nil, List.length_cons, List.length_nil, Nat.reduceAdd, Nat.reduceSub, List.replicate, List.cons_append, List.nil_append, List.append_nil, List.getElem?_cons_zero, List.getElem?_cons_succ, Option.some.injEq, exists_and_left, exists_eq_left', exists_eq_left, exists_eq, ix_tup, at0, at1, at2, op_add', op_sub', op_mul', op_fdiv', op_mod', op_pow', op_addT, cm_lt, cm_le, cm_gt, cm_ge, cm_eq, cm_ne, cm_eqS, cm_neS, onb, oni, yn_gd, yn_cls, Nat.reduceLT, if_true, if_false, true_and, and_true, List.set_cons_zero, List.set_cons_succ, set_nm, set_tup, set_nil, set_cons, ifb, b1_abs, b1_int, b1_intB, b1_lenT, b1_lenL, b1_tupL, b1_tupT, b2_min, b2_max, seq_tup, seq_lst, seq_sq, gd_sq, ix_sq, len_sq, new_t, new_f, gd_tup, gd_lst, ix_lst, ty_int, ty_tup, ty_str, isi_ii, isi_ib, isi_tt, isi_ss, reduceIte, Bool.true_eq_false, Bool.false_eq_true, Bool.not_true, Bool.not_false,  List.zip_cons_cons, List.zip_nil_right, List.foldl_cons, List.foldl_nil, ne_eq, not_false_eq_true, not_true_eq_false, Bool.not_eq_true', decide_eq_false_iff_not, decide_eq_true_eq, reduceCtorEq, List.cons.injEq, and_self, D.ref.injEq, Cell.obj.injEq, D.int.injEq, and_assoc, seq_sts, gd_sts]
    refine ⟨by decide, fun r hr => ?_⟩
    have npr : p ≠ r := fun z => by rw [z, hr] at hm; cases hm
    refine ⟨_, _, by rw [put_ne npr]; exact hm, _, rfl, _, rfl, ?_⟩
    generalize hv2 : (fun i => (sys k).inv (v a) * v i) = v2 at t2 t4 q2 ⊢
    generalize hf2 : (fun i => (sys k).inv (v a) * f i) = f2 at t3 t4 q2 ⊢
    refine for_inv _ (fun i r' m' => ∃ (o1 o2 o3 o4 : Option D), r' = [some (.ref p), some ((sys k).row w v2), some ((sys k).row n f2), some (.int (a : Int)), some ((sys k).d ((sys k).inv (v a))), some (.ref r), o1, o2, o3, o4] ∧ m' = put m r (.lst ((st.take i).map fun s => stD (sys k) w n (stepOf a v2 f2 s)))) st 0 _ _ ⟨none, none, none, none, rfl, rfl⟩ ?_ ?_
    · rintro i hi r' m' N ⟨o1, o2, o3, o4, rfl, rfl⟩ kN
      simp only [Nat.zero_add] at kN ⊢
      have hmr : ∀ l, put m r (.lst l) p = some (.obj (X.cls 0) dx [some (.int (sys k).by_), some (.ref qr), some (stsD (sys k) w n st)]) := fun l => by rw [put_ne npr]; exact hm
      obtain ⟨b1, b2, b3⟩ := t4 st[i] (List.getElem_mem hi)
      simp only [stD, hmr, body, exs, ex, ev, evs, evB, evO, evT, evI, startD, List.map_cons, List.map_nil, List.length_cons, List.length_nil, Nat.reduceAdd, Nat.reduceSub, List.replicate, List.cons_append, List.nil_append, List.append_nil, List.getElem?_cons_zero, List.getElem?_cons_succ, Option.some.injEq, exists_and_left, exists_eq_left', exists_eq_left, exists_eq, ix_tup, at0, at1, at2, op_add', op_sub', op_mul', op_fdiv', op_mod', op_pow', op_addT, cm_lt, cm_le, cm_gt, cm_ge, cm_eq, cm_ne, cm_eqS, cm_neS, onb, oni, yn_gd, yn_cls, Nat.reduceLT, if_true, if_false, true_and, and_true, List.set_cons_zero, List.set_cons_succ, set_nm, set_tup, set_nil, set_cons, ifb, b1_abs, b1_int, b1_intB, b1_lenT, b1_lenL, b1_tupL, b1_tupT, b2_min, b2_max, seq_tup, seq_lst, seq_sq, gd_sq, ix_sq, len_sq, new_t, new_f, gd_tup, gd_lst, ix_lst, ty_int, ty_tup, ty_str, isi_ii, isi_ib, isi_tt, isi_ss, reduceIte, Bool.true_eq_false, Bool.false_eq_true, Bool.not_true, Bool.not_false,  List.zip_cons_cons, List.zip_nil_right, List.foldl_cons, List.foldl_nil, ne_eq, not_false_eq_true, not_true_eq_false, Bool.not_eq_true', decide_eq_false_iff_not, decide_eq_true_eq, reduceCtorEq, List.cons.injEq, and_self, D.ref.injEq, Cell.obj.injEq, D.int.injEq, and_assoc, seq_sts, gd_sts]
      rw [row_get ha]
      refine ⟨k, _, rfl, ?_⟩
      try simp only [hmr, body, exs, ex, ev, evs, evB, evO, evT, evI, startD, List.map_cons, List.map_nil, List.length_cons, List.length_nil, Nat.reduceAdd, Nat.reduceSub, List.replicate, List.cons_append, List.nil_append, List.append_nil, List.getElem?_cons_zero, List.getElem?_cons_succ, Option.some.injEq, exists_and_left, exists_eq_left', exists_eq_left, exists_eq, ix_tup, at0, at1, at2, op_add', op_sub', op_mul', op_fdiv', op_mod', op_pow', op_addT, cm_lt, cm_le, cm_gt, cm_ge, cm_eq, cm_ne, cm_eqS, cm_neS, onb, oni, yn_gd, yn_cls, Nat.reduceLT, if_true, if_false, true_and, and_true, List.set_cons_zero, List.set_cons_succ, set_nm, set_tup, set_nil, set_cons, ifb, b1_abs, b1_int, b1_intB, b1_lenT, b1_lenL, b1_tupL, b1_tupT, b2_min, b2_max, seq_tup, seq_lst, seq_sq, gd_sq, ix_sq, len_sq, new_t, new_f, gd_tup, gd_lst, ix_lst, ty_int, ty_tup, ty_str, isi_ii, isi_ib, isi_tt, isi_ss, reduceIte, Bool.true_eq_false, Bool.false_eq_true, Bool.not_true, Bool.not_false,  List.zip_cons_cons, List.zip_nil_right, List.foldl_cons, List.foldl_nil, ne_eq, not_false_eq_true, not_true_eq_false, Bool.not_eq_true', decide_eq_false_iff_not, decide_eq_true_eq, reduceCtorEq, List.cons.injEq, and_self, D.ref.injEq, Cell.obj.injEq, D.int.injEq, and_assoc, seq_sts, gd_sts]
      refine ⟨k, w, _, _, _, rfl, b1, fun j hj => ⟨(b2 j hj).1, by rw [← hv2]; exact (t2 j hj).2, by rw [← hv2]; exact (b2 j hj).2⟩, ?_⟩
      try simp only [hmr, body, exs, ex, ev, evs, evB, evO, evT, evI, startD, List.map_cons, List.map_nil, List.length_cons, List.length_nil, Nat.reduceAdd, Nat.reduceSub, List.replicate, List.cons_append, List.nil_append, List.append_nil, List.getElem?_cons_zero, List.getElem?_cons_succ, Option.some.injEq, exists_and_left, exists_eq_left', exists_eq_left, exists_eq, ix_tup, at0, at1, at2, op_add', op_sub', op_mul', op_fdiv', op_mod', op_pow', op_addT, cm_lt, cm_le, cm_gt, cm_ge, cm_eq, cm_ne, cm_eqS, cm_neS, onb, oni, yn_gd, yn_cls, Nat.reduceLT, if_true, if_false, true_and, and_true, List.set_cons_zero, List.set_cons_succ, set_nm, set_tup, set_nil, set_cons, ifb, b1_abs, b1_int, b1_intB, b1_lenT, b1_lenL, b1_tupL, b1_tupT, b2_min, b2_max, seq_tup, seq_lst, seq_sq, gd_sq, ix_sq, len_sq, new_t, new_f, gd_tup, gd_lst, ix_lst, ty_int, ty_tup, ty_str, isi_ii, isi_ib, isi_tt, isi_ss, reduceIte, Bool.true_eq_false, Bool.false_eq_true, Bool.not_true, Bool.not_false,  List.zip_cons_cons, List.zip_nil_right, List.foldl_cons, List.foldl_nil, ne_eq, not_false_eq_true, not_true_eq_false, Bool.not_eq_true', decide_eq_false_iff_not, decide_eq_true_eq, reduceCtorEq, List.cons.injEq, and_self, D.ref.injEq, Cell.obj.injEq, D.int.injEq, and_assoc, seq_sts, gd_sts]
      refine ⟨⟨_, lst_ref put_same⟩, k, n, _, _, _, rfl, b1, fun j hj => ⟨(b3 j hj).1, by rw [← hf2]; exact (t3 j hj).2, by rw [← hf2]; exact (b3 j hj).2⟩, by decide, _, put_same, by simp; omega, ?_⟩
      rw [put_put]
      refine kN _ _ ⟨_, _, _, _, rfl, ?_⟩
      rw [List.take_succ_eq_append_getElem hi, List.map_append]
      rfl
    · rintro r' m' ⟨o1, o2, o3, o4, rfl, rfl⟩
      rw [Nat.zero_add, List.take_length]
      have e : stsD (sys k) w n (more st a v2 f2) = .lst (st.map (fun s => stD (sys k) w n (stepOf a v2 f2 s)) ++ [.tup [.int (a : Int), (sys k).row w v2, (sys k).row n f2]]) := by
        unfold stsD more
        rw [List.map_append, List.map_map]
        rfl
      rw [e] at q2
      refine ⟨trivial, ?_⟩
      simp only [body, exs, ex, ev, evs, evB, evO, evT, evI, startD, List.map_cons, List.map_nil, List.length_cons, List.length_nil, Nat.reduceAdd, Nat.reduceSub, List.replicate, List.cons_append, List.nil_append, List.append_nil, List.getElem?_cons_zero, List.getElem?_cons_succ, Option.some.injEq, exists_and_left, exists_eq_left', exists_eq_left, exists_eq, ix_tup, at0, at1, at2, op_add', op_sub', op_mul', op_fdiv', op_mod', op_pow', op_addT, cm_lt, cm_le, cm_gt, cm_ge, cm_eq, cm_ne, cm_eqS, cm_neS, onb, oni, yn_gd, yn_cls, Nat.reduceLT, if_true, if_false, true_and, and_true, List.set_cons_zero, List.set_cons_succ, set_nm, set_tup, set_nil, set_cons, ifb, b1_abs, b1_int, b1_intB, b1_lenT, b1_lenL, b1_tupL, b1_tupT, b2_min, b2_max, seq_tup, seq_lst, seq_sq, gd_sq, ix_sq, len_sq, new_t, new_f, gd_tup, gd_lst, ix_lst, ty_int, ty_tup, ty_str, isi_ii, isi_ib, isi_tt, isi_ss, reduceIte, Bool.true_eq_false, Bool.false_eq_true, Bool.not_true, Bool.not_false,  List.zip_cons_cons, List.zip_nil_right, List.foldl_cons, List.foldl_nil, ne_eq, not_false_eq_true, not_true_eq_false, Bool.not_eq_true', decide_eq_false_iff_not, decide_eq_true_eq, reduceCtorEq, List.cons.injEq, and_self, D.ref.injEq, Cell.obj.injEq, D.int.injEq, and_assoc, seq_sts, gd_sts]
      exact ⟨_, seq_ref put_same, by decide, by simp; omega, dx, [some (.int (sys k).by_), some (.ref qr), some (stsD (sys k) w n st)], by rw [put_ne npr]; exact hm, _, subo_obj wf hm hr, q2⟩
  · simp only [cmpD, onb, hm, body, exs, ex, ev, evs, evB, evO, evT, evI, startD, List.map_cons, List.map_nil, List.length_cons, List.length_nil, Nat.reduceAdd, Nat.reduceSub, List.replicate, List.cons_append, List.nil_append, List.append_nil, List.getElem?_cons_zero, List.getElem?_cons_succ, Option.some.injEq, exists_and_left, exists_eq_left', exists_eq_left, exists_eq, ix_tup, at0, at1, at2, op_add', op_sub', op_mul', op_fdiv', op_mod', op_pow', op_addT, cm_lt, cm_le, cm_gt, cm_ge, cm_eq, cm_ne, cm_eqS, cm_neS, onb, oni, yn_gd, yn_cls, Nat.reduceLT, if_true, if_false, true_and, and_true, List.set_cons_zero, List.set_cons_succ, set_nm, set_tup, set_nil, set_cons, ifb, b1_abs, b1_int, b1_intB, b1_lenT, b1_lenL, b1_tupL, b1_tupT, b2_min, b2_max, seq_tup, seq_lst, seq_sq, gd_sq, ix_sq, len_sq, new_t, new_f, gd_tup, gd_lst, ix_lst, ty_int, ty_tup, ty_str, isi_ii, isi_ib, isi_tt, isi_ss, reduceIte, Bool.true_eq_false, Bool.false_eq_true, Bool.not_true, Bool.not_false,  List.zip_cons_cons, List.zip_nil_right, List.foldl_cons, List.foldl_nil, ne_eq, not_false_eq_true, not_true_eq_false, Bool.not_eq_true', decide_eq_false_iff_not, decide_eq_true_eq, reduceCtorEq, List.cons.injEq, and_self, D.ref.injEq, Cell.obj.injEq, D.int.injEq, and_assoc, seq_sts, gd_sts]
    exact ⟨⟨_, lst_ref hq⟩, rels, hq, by omega, _, SubO.refl, q0 hz⟩
end Og.Lk44
end
section
set_option maxHeartbeats 4000000
set_option autoImplicit false
/-! Og: dimensions. -/
namespace Og
open PySem
section
variable {S : Sys} {w n : Nat} {M : Nat → Nat → S.F}
/-- rows put together by factors, not all nought, are nought -/
def Dep (a w : Nat) (u : Nat → Nat → S.F) : Prop := ∃ g : Nat → S.F, (∃ i, i < a ∧ g i ≠ 0) ∧ ∀ j, j < w → lin a u g j = 0
theorem sm_swap {p : Nat} {x : S.F} {h : Nat → S.F} : ∀ {n : Nat}, sm n (fun i => if i = p then x else h i) = sm n h + if p < n then x + -(h p) else 0
  | 0 => by simp only [sm]; rw [if_neg (by omega)]; grind
  | n + 1 => by
    simp only [sm]
    rw [sm_swap (n := n)]
    by_cases e : n = p
    · subst e
      rw [if_neg (by omega), if_pos rfl, if_pos (by omega)]; grind
    · rw [if_neg e]
      by_cases l : p < n
      · rw [if_pos l, if_pos (by omega)]; grind
      · rw [if_neg l, if_neg (by omega)]; grind
/-- all but one, and that one -/
theorem sm_pick {a p : Nat} {h : Nat → S.F} (hp : p ≤ a) : sm (a + 1) h = sm a (fun i => h (if i = p then a else i)) + h p := by
  have e : (fun i => h (if i = p then a else i)) = fun i => if i = p then h a else h i := by
    funext i
    split <;> rfl
  rw [e, sm_swap]
  simp only [sm]
  by_cases l : p < a
  · rw [if_pos l]; grind
  · rw [if_neg l, show p = a from by omega]; grind
theorem homog : ∀ (b a : Nat) (C : Nat → Nat → S.F), b < a → Dep a b C
  | 0, a, C, h => ⟨fun _ => 1, ⟨0, h, S.one_ne⟩, fun j hj => by omega⟩
  | b + 1, a, C, h => by
    by_cases hz : ∀ i, i < a → C i b = 0
    · obtain ⟨g, h1, h2⟩ := homog b a C (by omega)
      refine ⟨g, h1, fun j hj => ?_⟩
      rcases Nat.lt_or_ge j b with z | z
      · exact h2 j z
      · rw [show j = b from by omega]
        exact sm_zero fun i hi => by rw [hz i hi]; grind
    · have hz' : ∃ i0, i0 < a ∧ C i0 b ≠ 0 := Classical.byContradiction fun hn => hz fun i hi => Classical.byContradiction fun hc => hn ⟨i, hi, hc⟩
      obtain ⟨i0, hi0, hne⟩ := hz'
      obtain ⟨a', rfl⟩ : ∃ a', a = a' + 1 := ⟨a - 1, by omega⟩
      have ic := S.inv_mul _ hne
      obtain ⟨g, ⟨i1, hi1, hg1⟩, h2⟩ := homog b a' (fun i t => C (if i = i0 then a' else i) t + -(C (if i = i0 then a' else i) b * S.inv (C i0 b)) * C i0 t) (by omega)
      refine ⟨fun e => if e = i0 then sm a' (fun i => g i * -(C (if i = i0 then a' else i) b * S.inv (C i0 b))) else g (if e = a' then i0 else e), ?_, fun t ht => ?_⟩
      · refine ⟨if i1 = i0 then a' else i1, by split <;> omega, ?_⟩
        by_cases e1 : i1 = i0
        · subst e1
          simp only [if_true]
          rw [if_neg (by omega)]
          exact hg1
        · simp only [if_neg e1]
          rw [if_neg (by omega)]
          exact hg1
      · unfold lin
        rw [sm_pick (p := i0) (by omega)]
        have e : sm a' (fun i => (if (if i = i0 then a' else i) = i0 then sm a' (fun i => g i * -(C (if i = i0 then a' else i) b * S.inv (C i0 b))) else g (if (if i = i0 then a' else i) = a' then i0 else (if i = i0 then a' else i))) * C (if i = i0 then a' else i) t) = sm a' fun i => g i * C (if i = i0 then a' else i) t := by
          refine sm_congr fun i hi => ?_
          by_cases e1 : i = i0
          · simp only [e1, if_true]
            rw [if_neg (by omega)]
          · simp only [if_neg e1]
            rw [if_neg (by omega)]
        rw [e]
        simp only [if_true]
        have key : sm a' (fun i => g i * (C (if i = i0 then a' else i) t + -(C (if i = i0 then a' else i) b * S.inv (C i0 b)) * C i0 t)) = sm a' (fun i => g i * C (if i = i0 then a' else i) t) + C i0 t * sm a' (fun i => g i * -(C (if i = i0 then a' else i) b * S.inv (C i0 b))) := by
          rw [← sm_mul, ← sm_add]
          exact sm_congr fun i _ => by grind
        have zero : sm a' (fun i => g i * (C (if i = i0 then a' else i) t + -(C (if i = i0 then a' else i) b * S.inv (C i0 b)) * C i0 t)) = 0 := by
          rcases Nat.lt_or_ge t b with z | z
          · exact h2 t z
          · rw [show t = b from by omega]
            exact sm_zero fun i _ => by grind
        rw [key] at zero
        grind
theorem sm_lin {b j : Nat} {v c : Nat → Nat → S.F} {g : Nat → S.F} : ∀ {a : Nat}, sm a (fun i => g i * lin b v (c i) j) = lin b v (fun t => lin a c g t) j
  | 0 => by
    unfold lin
    simp only [sm]
    exact (sm_zero fun i _ => by grind).symm
  | a + 1 => by
    have e : (fun t => lin (a + 1) c g t) = fun t => lin a c g t + g a * c a t := rfl
    rw [e, lin_add, lin_mul]
    simp only [sm]
    rw [sm_lin]
theorem InSpan.congr {v v' : Nat → S.F} (h : ∀ j, j < w → v j = v' j) (s : InSpan w n M v) : InSpan w n M v' := by
  obtain ⟨f, hf⟩ := s
  exact ⟨f, fun j hj => by rw [hf j hj, h j hj]⟩
theorem InSpan.trans {b : Nat} {N : Nat → Nat → S.F} {v : Nat → S.F} (h : ∀ t, t < n → InSpan w b N (M t)) (s : InSpan w n M v) : InSpan w b N v := by
  obtain ⟨f, hf⟩ := s
  have : ∃ c : Nat → Nat → S.F, ∀ t, t < n → ∀ j, j < w → lin b N (c t) j = M t j :=
    ⟨fun t => if ht : t < n then Classical.choose (h t ht) else fun _ => 0, fun t ht j hj => by simp only [dif_pos ht]; exact Classical.choose_spec (h t ht) j hj⟩
  obtain ⟨c, hc⟩ := this
  refine ⟨fun t => lin n c f t, fun j hj => ?_⟩
  rw [← sm_lin, ← hf j hj]
  exact sm_congr fun t ht => by rw [hc t ht j hj]
theorem dim {a b : Nat} {u v : Nat → Nat → S.F} (hs : ∀ i, i < a → InSpan w b v (u i)) (h : b < a) : Dep a w u := by
  have : ∃ c : Nat → Nat → S.F, ∀ t, t < a → ∀ j, j < w → lin b v (c t) j = u t j :=
    ⟨fun t => if ht : t < a then Classical.choose (hs t ht) else fun _ => 0, fun t ht j hj => by simp only [dif_pos ht]; exact Classical.choose_spec (hs t ht) j hj⟩
  obtain ⟨c, hc⟩ := this
  obtain ⟨g, h1, h2⟩ := homog b a c h
  refine ⟨g, h1, fun j hj => ?_⟩
  have e : lin a u g j = sm a fun i => g i * lin b v (c i) j := sm_congr fun i hi => by rw [hc i hi j hj]
  rw [e, sm_lin]
  exact sm_zero fun t ht => by (show lin a c g t * v t j = 0); rw [h2 t ht]; grind
/-- a basis of what the rows span -/
structure Bas (w n : Nat) (M : Nat → Nat → S.F) (r : Nat) (b : Nat → Nat → S.F) : Prop where
  ind : ¬Dep r w b
  ins : ∀ t, t < r → InSpan w n M (b t)
  sp : ∀ t, t < n → InSpan w r b (M t)
theorem Bas.le {r r' : Nat} {b b' : Nat → Nat → S.F} (h : Bas w n M r b) (h' : Bas w n M r' b') : r ≤ r' := Nat.le_of_not_lt fun hl => h.ind (dim (fun i hi => (h.ins i hi).trans h'.sp) hl)
theorem Bas.uniq {r r' : Nat} {b b' : Nat → Nat → S.F} (h : Bas w n M r b) (h' : Bas w n M r' b') : r = r' := Nat.le_antisymm (h.le h') (h'.le h)
theorem Bas.le_w {r : Nat} {b : Nat → Nat → S.F} (h : ¬Dep r w b) : r ≤ w := Nat.le_of_not_lt fun hl => h (homog w r b hl)
theorem Bas.le_n {r : Nat} {b : Nat → Nat → S.F} (h : Bas w n M r b) : r ≤ n := Nat.le_of_not_lt fun hl => h.ind (dim h.ins hl)
/-- steps by which later rows are nought where earlier ones have 1 -/
theorem tri_ind {r : Nat} {b : Nat → Nat → S.F} {l : Nat → Nat} (hl : ∀ t, t < r → l t < w ∧ b t (l t) = 1) (hz : ∀ s t, s < t → t < r → b t (l s) = 0) : ¬Dep r w b := by
  rintro ⟨g, ⟨i, hi, hgi⟩, hg⟩
  have go : ∀ k, ∀ i, i < k → i < r → g i = 0 := by
    intro k
    induction k with
    | zero => intro i h; omega
    | succ k ih =>
      intro i hik hir
      by_cases e : i < k
      · exact ih i e hir
      · have e : i = k := by omega
        subst e
        have h := hg (l i) (hl i hir).1
        have key : ∀ m, m ≤ r → sm m (fun t => g t * b t (l i)) = if i < m then g i else 0 := by
          intro m
          induction m with
          | zero => intro _; rw [if_neg (by omega)]; rfl
          | succ m im =>
            intro hm
            simp only [sm]
            rw [im (by omega)]
            rcases Nat.lt_trichotomy m i with z | z | z
            · rw [if_neg (by omega), if_neg (by omega), ih m z (by omega)]; grind
            · subst z
              rw [if_neg (by omega), if_pos (by omega), (hl m hir).2]; grind
            · rw [if_pos (by omega), if_pos (by omega), hz i m z (by omega)]; grind
        have := key r (Nat.le_refl _)
        unfold lin at h
        rw [this, if_pos hir] at h
        exact h
  exact hgi (go (i + 1) i (by omega) hi)
end
end Og
end
section
set_option maxHeartbeats 4000000
set_option autoImplicit false
/-! Og: ranks, and another elimination. -/
namespace Og
open PySem
def Sys.rowL (S : Sys) (w : Nat) (v : Nat → S.F) : D := .lst ((List.range w).map fun i => S.d (v i))
section
variable {S : Sys} {w n : Nat} {M : Nat → Nat → S.F}
theorem quo_sub (x y : S.F) : S.quo (S.num x * S.den y - S.num y * S.den x) (S.den x * S.den y) (x + -y) := by
  refine ⟨(quo_add x y).1, ?_⟩
  have h1 := S.num_den x
  have h2 := S.num_den y
  rw [Int.sub_eq_add_neg, S.I_add, I_neg, S.I_mul, S.I_mul, S.I_mul]
  grind
theorem quo_div {x y : S.F} (hy : y ≠ 0) : S.quo (S.num x * S.den y) (S.den x * S.num y) (S.inv y * x) := by
  have h1 := S.num_den x
  have h2 := S.num_den y
  have iy := S.inv_mul _ hy
  have i1 := S.inv_mul _ (S.den_ne x)
  have i2 := S.inv_mul _ (S.den_ne y)
  have o := S.one_ne
  refine ⟨?_, ?_⟩
  · rw [S.I_mul]
    intro z
    apply o
    have : S.inv (S.I (S.den x)) * S.inv (S.I (S.den y)) * S.inv y * (S.I (S.den x) * S.I (S.num y)) = 1 := by
      rw [← h2]; grind
    rw [z] at this
    grind
  · rw [S.I_mul, S.I_mul, ← h2, ← h1]
    grind
theorem InSpan.add {u v : Nat → S.F} (h : InSpan w n M u) (h' : InSpan w n M v) (c : S.F) : InSpan w n M fun j => u j + c * v j := by
  obtain ⟨f, hf⟩ := h
  obtain ⟨g, hg⟩ := h'
  exact ⟨fun t => f t + c * g t, fun j hj => by rw [lin_add, lin_mul, hf j hj, hg j hj]⟩
theorem span_row {i : Nat} (hi : i < n) : InSpan w n M (M i) := ⟨dlt i, fun j hj => lin_dlt hi⟩
theorem span_zero : InSpan w n M (fun _ => 0) := ⟨fun _ => 0, fun j hj => sm_zero fun i _ => by grind⟩
theorem InSpan.mul {v : Nat → S.F} (h : InSpan w n M v) (c : S.F) : InSpan w n M fun j => c * v j := by
  have := InSpan.add (span_zero (M := M)) h c
  exact this.congr fun j _ => by grind
/-! ### clearing one after the other -/
abbrev St2 (S : Sys) : Type := Nat × (Nat → S.F)
def clr2 : List (St2 S) → (Nat → S.F) → (Nat → S.F)
  | [], v => v
  | s :: st, v => clr2 st fun j => v j + -(v s.1 * s.2 j)
theorem clr2_keep {p : Nat} : ∀ {st : List (St2 S)} {v : Nat → S.F}, (∀ t ∈ st, t.2 p = 0) → clr2 st v p = v p
  | [], _, _ => rfl
  | s :: st, v, h => by
    simp only [clr2]
    rw [clr2_keep fun t ht => h t (List.mem_cons_of_mem _ ht), h s List.mem_cons_self]
    grind
theorem clr2_at : ∀ {st : List (St2 S)} {v : Nat → S.F}, (st.Pairwise fun s t => t.2 s.1 = 0) → (∀ s ∈ st, s.2 s.1 = 1) → ∀ s ∈ st, clr2 st v s.1 = 0
  | [], _, _, _, _, hs => by cases hs
  | s :: st, v, h, h1, t, ht => by
    obtain ⟨p1, p2⟩ := List.pairwise_cons.mp h
    simp only [clr2]
    rcases List.mem_cons.mp ht with z | z
    · subst z
      rw [clr2_keep fun u hu => p1 u hu, h1 t List.mem_cons_self]
      grind
    · exact clr2_at p2 (fun u hu => h1 u (List.mem_cons_of_mem _ hu)) t z
theorem clr2_in {P : (Nat → S.F) → Prop} (hP : ∀ u v c, P u → P v → P fun j => u j + c * v j) : ∀ {st : List (St2 S)} {v : Nat → S.F}, (∀ s ∈ st, P s.2) → (P v ↔ P (clr2 st v))
  | [], _, _ => Iff.rfl
  | s :: st, v, h => by
    simp only [clr2]
    rw [← clr2_in hP fun t ht => h t (List.mem_cons_of_mem _ ht)]
    have hs := h s List.mem_cons_self
    constructor
    · intro hv
      have := hP _ _ (-(v s.1)) hv hs
      have e : (fun j => v j + -(v s.1) * s.2 j) = fun j => v j + -(v s.1 * s.2 j) := funext fun j => by grind
      rw [e] at this; exact this
    · intro hv
      have := hP _ _ (v s.1) hv hs
      have e : (fun j => v j + -(v s.1 * s.2 j) + v s.1 * s.2 j) = v := funext fun j => by grind
      rw [e] at this; exact this
/-! sizes -/
def Bt (w b : Nat) (v : Nat → S.F) : Prop := ∃ d, 0 < d ∧ d ≤ 2 ^ b ∧ ∀ j, j < w → S.cd d (2 ^ b) (v j)
theorem Bt.sm {b j : Nat} {v : Nat → S.F} (h : Bt w b v) (hb : b + 7 ≤ 2 ^ 26) (hj : j < w) : S.Sm (v j) := by
  obtain ⟨d, h0, h1, h2⟩ := h
  have e : (2 : Nat) ^ b < 2 ^ (b + 7) := Nat.pow_lt_pow_right (by decide) (by omega)
  exact Sm_of (h2 j hj) h0 (n := b + 7) (by omega) e (by omega) hb
theorem Bt.mono {b c : Nat} {v : Nat → S.F} (h : Bt w b v) (hb : b ≤ c) : Bt w c v := by
  obtain ⟨d, h0, h1, h2⟩ := h
  have e : (2 : Nat) ^ b ≤ 2 ^ c := Nat.pow_le_pow_right (by decide) hb
  exact ⟨d, h0, by omega, fun j hj => S.cd_le (h2 j hj) e⟩
theorem Bt.congr {b : Nat} {u v : Nat → S.F} (h : Bt w b u) (e : ∀ j, j < w → u j = v j) : Bt w b v := by
  obtain ⟨d, h0, h1, h2⟩ := h
  exact ⟨d, h0, h1, fun j hj => by rw [← e j hj]; exact h2 j hj⟩
theorem Bt.sub {b c l : Nat} {v s : Nat → S.F} (h : Bt w b v) (h' : Bt w c s) (hl : l < w) : Bt w (b + c + 1) (fun j => v j + -(v l * s j)) ∧ Bt w (b + c + 1) (fun j => v l * s j) := by
  obtain ⟨d, h0, h1, h2⟩ := h
  obtain ⟨e, k0, k1, k2⟩ := h'
  have p : (2 : Nat) ^ (b + c + 1) = 2 ^ b * 2 ^ c * 2 := by rw [Nat.pow_add, Nat.pow_add]
  have q1 : d * e ≤ 2 ^ b * 2 ^ c := Nat.mul_le_mul h1 k1
  have q2 : 2 ^ b * e ≤ 2 ^ b * 2 ^ c := Nat.mul_le_mul_left _ k1
  have m := fun j hj => S.cd_mul (h2 l hl) (k2 j hj)
  exact ⟨⟨d * e, Nat.mul_pos h0 k0, by omega, fun j hj => S.cd_le (S.cd_add (S.cd_up e (h2 j hj)) (S.cd_neg (m j hj))) (by omega)⟩, ⟨d * e, Nat.mul_pos h0 k0, by omega, fun j hj => S.cd_le (m j hj) (by omega)⟩⟩
theorem Bt.div {b a : Nat} {v : Nat → S.F} (h : Bt w b v) (ha : a < w) (h0 : v a ≠ 0) : Bt w b fun j => S.inv (v a) * v j := by
  obtain ⟨d, d0, d1, d2⟩ := h
  obtain ⟨e, e0, e1, e2⟩ := S.cd_div d0 (d2 a ha) h0
  have : 1 ≤ 2 ^ b := Nat.one_le_two_pow
  exact ⟨e, e0, by omega, fun j hj => e2 _ _ (d2 j hj)⟩
def sB (r : Nat) : Nat → Nat
  | 0 => r
  | k + 1 => 2 * sB r k + 1
theorem sB_mono {r i j : Nat} (h : i ≤ j) : sB r i ≤ sB r j := by
  induction h with
  | refl => exact Nat.le_refl _
  | step _ ih => exact Nat.le_trans ih (by simp only [sB]; omega)
def Cl2Ok (w : Nat) : List (St2 S) → (Nat → S.F) → Prop
  | [], _ => True
  | s :: st, v => s.1 < w ∧ (∀ j, j < w → S.Sm (v j) ∧ S.Sm (s.2 j) ∧ S.Sm (v s.1 * s.2 j)) ∧ Cl2Ok w st fun j => v j + -(v s.1 * s.2 j)
theorem cl2_ok {ro : Nat} : ∀ {st : List (St2 S)} {i : Nat} {v : Nat → S.F}, (∀ k (h : k < st.length), Bt w (sB ro (i + k)) st[k].2) → (∀ s ∈ st, s.1 < w) → Bt w (sB ro i) v → sB ro (i + st.length) + 7 ≤ 2 ^ 26 → Cl2Ok w st v ∧ Bt w (sB ro (i + st.length)) (clr2 st v)
  | [], i, v, _, _, hv, _ => by
    simp only [Cl2Ok, clr2, List.length_nil, Nat.add_zero]
    exact ⟨trivial, hv⟩
  | s :: st, i, v, h, hl, hv, room => by
    have hs : Bt w (sB ro i) s.2 := h 0 (by simp)
    have hsl := hl s List.mem_cons_self
    have m1 : sB ro i ≤ sB ro (i + (s :: st).length) := sB_mono (by omega)
    have m2 : sB ro (i + 1) ≤ sB ro (i + (s :: st).length) := sB_mono (by simp)
    obtain ⟨q1, q2⟩ := hv.sub hs hsl
    have e : sB ro i + sB ro i + 1 = sB ro (i + 1) := by simp only [sB]; omega
    rw [e] at q1 q2
    have room' : sB ro (i + 1 + st.length) + 7 ≤ 2 ^ 26 := by
      rw [show i + 1 + st.length = i + (s :: st).length from by simp; omega]; exact room
    obtain ⟨r1, r2⟩ := cl2_ok (st := st) (i := i + 1) (v := fun j => v j + -(v s.1 * s.2 j)) (fun k hk => by
      have := h (k + 1) (by simp; omega)
      rw [show i + (k + 1) = i + 1 + k from by omega] at this
      simpa using this) (fun t ht => hl t (List.mem_cons_of_mem _ ht)) q1 room'
    simp only [Cl2Ok, clr2]
    rw [show i + (s :: st).length = i + 1 + st.length from by simp; omega]
    exact ⟨⟨hsl, fun j hj => ⟨hv.sm (by omega) hj, hs.sm (by omega) hj, q2.sm (by omega) hj⟩, r1⟩, r2⟩
/-! ### spans of lists -/
def fnL (st : List (St2 S)) (i : Nat) : Nat → S.F := (st.getD i (0, fun _ => 0)).2
theorem fnL_get {st : List (St2 S)} {i : Nat} (h : i < st.length) : fnL st i = st[i].2 := by
  unfold fnL; rw [List.getD_eq_getElem?_getD, List.getElem?_eq_getElem h]; rfl
abbrev SpL (w : Nat) (st : List (St2 S)) (v : Nat → S.F) : Prop := InSpan w st.length (fnL st) v
theorem SpL.mem {st : List (St2 S)} {s : St2 S} (h : s ∈ st) : SpL w st s.2 := by
  obtain ⟨i, hi, rfl⟩ := List.mem_iff_getElem.mp h
  rw [← fnL_get hi]
  exact span_row hi
theorem SpL.app {st : List (St2 S)} {s : St2 S} {v : Nat → S.F} (h : SpL w st v) : SpL w (st ++ [s]) v := InSpan.trans (fun t ht => by
  have : fnL st t = fnL (st ++ [s]) t := by
    rw [fnL_get ht, fnL_get (by simp; omega), List.getElem_append_left ht]
  rw [this]
  exact span_row (by simp; omega)) h
structure Own {S : Sys} (ro w n T : Nat) (M : Nat → Nat → S.F) (st : List (St2 S)) : Prop where
  one : ∀ s ∈ st, s.1 < w ∧ s.2 s.1 = 1
  tri : st.Pairwise fun s t => t.2 s.1 = 0
  ins : ∀ s ∈ st, InSpan w n M s.2
  sp : ∀ t, t < T → SpL w st (M t)
  len : st.length ≤ T
  sz : ∀ i (h : i < st.length), Bt w (sB ro i) st[i].2
theorem own_zero {ro : Nat} : Own ro w n 0 M [] where
  one := fun s h => by cases h
  tri := List.Pairwise.nil
  ins := fun s h => by cases h
  sp := fun t h => by omega
  len := Nat.le_refl _
  sz := fun i h => absurd h (by simp)
theorem own_step {ro T : Nat} {st : List (St2 S)} (ok : Own ro w n T M st) (hT : T < n) (room : sB ro n + 7 ≤ 2 ^ 26) (hM : Bt w ro (M T)) :
    Cl2Ok w st (M T) ∧ (∀ j, j < w → S.Sm (clr2 st (M T) j)) ∧ ((∀ j, j < w → clr2 st (M T) j = 0) → Own ro w n (T + 1) M st) ∧
    ∀ a, a < w → clr2 st (M T) a ≠ 0 → Own ro w n (T + 1) M (st ++ [(a, fun j => S.inv (clr2 st (M T) a) * clr2 st (M T) j)]) := by
  have hlen := ok.len
  have hroom : sB ro (0 + st.length) + 7 ≤ 2 ^ 26 := Nat.le_trans (Nat.add_le_add_right (sB_mono (by omega)) _) room
  obtain ⟨c1, c2⟩ := cl2_ok (ro := ro) (st := st) (i := 0) (v := M T) (fun k hk => by rw [Nat.zero_add]; exact ok.sz k hk) (fun s hs => (ok.one s hs).1) hM hroom
  have hz := clr2_at (v := M T) ok.tri fun s hs => (ok.one s hs).2
  have hin : InSpan w n M (clr2 st (M T)) := (clr2_in (P := InSpan w n M) (fun u v c hu hv => hu.add hv c) ok.ins).mp (span_row hT)
  refine ⟨c1, fun j hj => c2.sm hroom hj, fun h0 => ?_, fun a ha hne => ?_⟩
  · refine ⟨ok.one, ok.tri, ok.ins, fun t ht => ?_, by omega, ok.sz⟩
    rcases Nat.lt_or_ge t T with z | z
    · exact ok.sp t z
    · rw [show t = T from by omega]
      refine (clr2_in (P := SpL w st) (fun u v c hu hv => hu.add hv c) fun s hs => SpL.mem hs).mpr ?_
      exact span_zero.congr fun j hj => (h0 j hj).symm
  · have ia := S.inv_mul _ hne
    have nw : SpL w (st ++ [(a, fun j => S.inv (clr2 st (M T) a) * clr2 st (M T) j)]) fun j => S.inv (clr2 st (M T) a) * clr2 st (M T) j := SpL.mem (s := (a, fun j => S.inv (clr2 st (M T) a) * clr2 st (M T) j)) (by simp)
    refine ⟨fun s hs => ?_, ?_, fun s hs => ?_, fun t ht => ?_, by simp; omega, fun i hi => ?_⟩
    · rcases List.mem_append.mp hs with z | z
      · exact ok.one s z
      · obtain rfl : s = _ := by simpa using z
        exact ⟨ha, ia⟩
    · rw [List.pairwise_append]
      refine ⟨ok.tri, List.pairwise_singleton _ _, fun s hs t ht => ?_⟩
      obtain rfl : t = _ := by simpa using ht
      show S.inv (clr2 st (M T) a) * clr2 st (M T) s.1 = 0
      rw [hz s hs]; grind
    · rcases List.mem_append.mp hs with z | z
      · exact ok.ins s z
      · obtain rfl : s = _ := by simpa using z
        exact hin.mul _
    · rcases Nat.lt_or_ge t T with z | z
      · exact (ok.sp t z).app
      · rw [show t = T from by omega]
        refine (clr2_in (P := SpL w (st ++ [(a, fun j => S.inv (clr2 st (M T) a) * clr2 st (M T) j)])) (fun u v c hu hv => hu.add hv c) (st := st) fun s hs => SpL.mem (List.mem_append_left _ hs)).mpr ?_
        exact (nw.mul (clr2 st (M T) a)).congr fun j _ => by grind
    · rcases Nat.lt_or_ge i st.length with z | z
      · rw [List.getElem_append_left z]
        exact ok.sz i z
      · have : i = st.length := by simp at hi; omega
        subst this
        rw [List.getElem_append_right (Nat.le_refl _)]
        simp only [Nat.sub_self, List.getElem_cons_zero]
        rw [Nat.zero_add] at c2
        exact c2.div ha hne
/-! ### ranks -/
def Rank (w n : Nat) (M : Nat → Nat → S.F) (r : Nat) : Prop := ∃ b, Bas w n M r b
theorem Rank.uniq {r r' : Nat} (h : Rank w n M r) (h' : Rank w n M r') : r = r' := by
  obtain ⟨b, hb⟩ := h
  obtain ⟨c, hc⟩ := h'
  exact hb.uniq hc
theorem Rank.le {r : Nat} (h : Rank w n M r) : r ≤ n := by
  obtain ⟨b, hb⟩ := h
  exact hb.le_n
theorem own_rank {ro : Nat} {st : List (St2 S)} (ok : Own ro w n n M st) : Rank w n M st.length := by
  refine ⟨fnL st, tri_ind (l := fun i => (st.getD i (0, fun _ => 0)).1) (fun t ht => ?_) fun s t hst ht => ?_, fun t ht => ?_, ok.sp⟩
  · rw [fnL_get ht]
    have e : st.getD t (0, fun _ => 0) = st[t] := by rw [List.getD_eq_getElem?_getD, List.getElem?_eq_getElem ht]; rfl
    rw [e]
    exact ok.one _ (List.getElem_mem ht)
  · rw [fnL_get ht]
    have hs : s < st.length := by omega
    have e : st.getD s (0, fun _ => 0) = st[s] := by rw [List.getD_eq_getElem?_getD, List.getElem?_eq_getElem hs]; rfl
    rw [e]
    exact List.pairwise_iff_getElem.mp ok.tri s t hs ht hst
  · rw [fnL_get ht]
    exact ok.ins _ (List.getElem_mem ht)
theorem sm_shift {h : Nat → S.F} {p : Nat} : ∀ {a : Nat}, p ≤ a → sm (a + 1) h = sm a (fun t => if t < p then h t else h (t + 1)) + h p
  | 0, hp => by
    simp only [sm]
    rw [show p = 0 from by omega]
  | a + 1, hp => by
    rcases Nat.lt_or_ge a p with z | z
    · have e : p = a + 1 := by omega
      subst e
      rw [sm]
      congr 1
      exact sm_congr fun i hi => by rw [if_pos hi]
    · rw [sm, sm_shift z]
      conv => rhs; rw [sm]
      rw [if_neg (by omega)]
      grind
theorem ls_sm {α : Type} (z : α) {f : α → S.F} : ∀ {l : List α}, ls l f = sm l.length fun i => f (l.getD i z)
  | [] => rfl
  | a :: l => by
    simp only [ls, List.length_cons]
    rw [sm_shift (p := 0) (by omega), ls_sm z (l := l)]
    have e : (fun t => if t < 0 then f ((a :: l).getD t z) else f ((a :: l).getD (t + 1) z)) = fun t => f (l.getD t z) := funext fun t => by
      rw [if_neg (by omega)]; rfl
    rw [e]
    have e2 : f ((a :: l).getD 0 z) = f a := rfl
    rw [e2]
    grind
theorem st_rank {ro : Nat} {st : List (Stp S)} {rels : List (Rl S)} (ok : StOk ro w n n M st rels) : Rank w n M st.length := by
  have g : ∀ {t : Nat} (ht : t < st.length), st.getD t (0, (fun _ => 0), fun _ => 0) = st[t] := fun ht => by rw [List.getD_eq_getElem?_getD, List.getElem?_eq_getElem ht]; rfl
  refine ⟨fun i => (st.getD i (0, (fun _ => 0), fun _ => 0)).2.1, tri_ind (l := fun i => (st.getD i (0, (fun _ => 0), fun _ => 0)).1) (fun t ht => ?_) fun s t hst ht => ?_, fun t ht => ?_, fun t ht => ?_⟩
  · rw [g ht]
    exact ⟨(ok.red.one _ (List.getElem_mem ht)).1, (ok.red.one _ (List.getElem_mem ht)).2.1⟩
  · have hs : s < st.length := by omega
    rw [g ht, g hs]
    exact (List.pairwise_iff_getElem.mp ok.red.two s t hs ht hst).2
  · rw [g ht]
    exact ⟨_, fun j hj => ((ok.red.one _ (List.getElem_mem ht)).2.2 j hj).symm⟩
  · have hz : ∀ j, j < w → (clr st (M t) fun _ => 0).1 j = 0 := fun j hj => Classical.byContradiction fun hne => by
      obtain ⟨k0, k1⟩ := bar_ok ok.red hj hne
      exact k1 (ok.kill _ k0 t ht)
    refine ⟨fun i => M t (st.getD i (0, (fun _ => 0), fun _ => 0)).1, fun j hj => ?_⟩
    have e := (clr_eq (v := M t) (f := fun _ => (0 : S.F)) ok.red.two).1 j
    rw [hz j hj] at e
    have e2 : (ls st fun s => -(M t s.1) * s.2.1 j) = -(ls st fun s => M t s.1 * s.2.1 j) := by
      have h := sm_mul (n := st.length) (c := (-1 : S.F)) (f := fun i => M t (st.getD i (0, (fun _ => 0), fun _ => 0)).1 * (st.getD i (0, (fun _ => 0), fun _ => 0)).2.1 j)
      rw [ls_sm (0, (fun _ => 0), fun _ => 0), ls_sm (0, (fun _ => 0), fun _ => 0)]
      have e3 : (fun i => (-1 : S.F) * (M t (st.getD i (0, (fun _ => 0), fun _ => 0)).1 * (st.getD i (0, (fun _ => 0), fun _ => 0)).2.1 j)) = fun i => -(M t (st.getD i (0, (fun _ => 0), fun _ => 0)).1) * (st.getD i (0, (fun _ => 0), fun _ => 0)).2.1 j := funext fun i => by grind
      rw [e3] at h
      rw [h]
      grind
    rw [e2, ls_sm (0, (fun _ => 0), fun _ => 0)] at e
    have e4 : ∀ a b : S.F, 0 = a + -b → b = a := fun a b h => by grind
    exact e4 _ _ e
/-- rows of which later ones have 1 where earlier ones have 0 -/
theorem tri_ind2 {r : Nat} {b : Nat → Nat → S.F} {l : Nat → Nat} (hl : ∀ t, t < r → l t < w ∧ b t (l t) = 1) (hz : ∀ s t, s < t → t < r → b s (l t) = 0) : ¬Dep r w b := by
  rintro ⟨g, ⟨i, hi, hgi⟩, hg⟩
  have go : ∀ k, ∀ i, r ≤ i + k → i < r → g i = 0 := by
    intro k
    induction k with
    | zero => intro i h1 h2; omega
    | succ k ih =>
      intro i hik hir
      have h := hg (l i) (hl i hir).1
      have key : ∀ m, m ≤ r → sm m (fun t => g t * b t (l i)) = if i < m then g i else 0 := by
        intro m
        induction m with
        | zero => intro _; rw [if_neg (by omega)]; rfl
        | succ m im =>
          intro hm
          simp only [sm]
          rw [im (by omega)]
          rcases Nat.lt_trichotomy m i with z | z | z
          · rw [if_neg (by omega), if_neg (by omega), hz m i z hir]; grind
          · subst z
            rw [if_neg (by omega), if_pos (by omega), (hl m hir).2]; grind
          · rw [if_pos (by omega), if_pos (by omega), ih m (by omega) (by omega)]; grind
      have := key r (Nat.le_refl _)
      unfold lin at h
      rw [this, if_pos hir] at h
      exact h
  exact hgi (go r i (by omega) hi)
def rlF (rels : List (Rl S)) (i : Nat) : Nat → S.F := (rels.getD i (0, fun _ => 0)).2
theorem rels_rank {ro : Nat} {st : List (Stp S)} {rels : List (Rl S)} (ok : StOk ro w n n M st rels) : Rank n rels.length (rlF rels) rels.length := by
  have g : ∀ {t : Nat} (ht : t < rels.length), rels.getD t (0, fun _ => 0) = rels[t] := fun ht => by rw [List.getD_eq_getElem?_getD, List.getElem?_eq_getElem ht]; rfl
  refine ⟨rlF rels, tri_ind2 (l := fun i => (rels.getD i (0, fun _ => 0)).1) (fun t ht => ?_) fun s t hst ht => ?_, fun t ht => span_row ht, fun t ht => span_row ht⟩
  · unfold rlF
    rw [g ht]
    obtain ⟨r1, r2, _⟩ := ok.rel _ (List.getElem_mem ht)
    exact ⟨r1, r2⟩
  · have hs : s < rels.length := by omega
    unfold rlF
    rw [g ht, g hs]
    exact (ok.rel _ (List.getElem_mem hs)).2.2.1 _ (List.pairwise_iff_getElem.mp ok.asc s t hs ht hst)
theorem rank_rows {a : Nat} (h : ¬Dep n w M) : Rank w n M n := ⟨M, h, fun t ht => span_row ht, fun t ht => span_row ht⟩
/-- all rows but one -/
def oth (M : Nat → Nat → S.F) (p t : Nat) : Nat → S.F := if t < p then M t else M (t + 1)
theorem oth_lin {p j : Nat} {g : Nat → S.F} (hp : p ≤ n) : lin (n + 1) M g j = lin n (oth M p) (fun t => if t < p then g t else g (t + 1)) j + g p * M p j := by
  unfold lin
  rw [sm_shift hp]
  congr 1
  exact sm_congr fun t _ => by
    unfold oth
    by_cases z : t < p
    · simp only [if_pos z]
    · simp only [if_neg z]
theorem dep_oth : Dep (n + 1) w M ↔ ∃ t, t < n + 1 ∧ InSpan w n (oth M t) (M t) := by
  constructor
  · rintro ⟨g, ⟨p, hp, hgp⟩, hg⟩
    refine ⟨p, hp, fun t => -(S.inv (g p)) * (if t < p then g t else g (t + 1)), fun j hj => ?_⟩
    have i := S.inv_mul _ hgp
    have e := hg j hj
    rw [oth_lin (p := p) (by omega)] at e
    rw [lin_mul]
    generalize lin n (oth M p) (fun t => if t < p then g t else g (t + 1)) j = x at e
    have : S.inv (g p) * (x + g p * M p j) = 0 := by rw [e]; grind
    grind
  · rintro ⟨p, hp, f, hf⟩
    refine ⟨fun t => if t = p then 1 else -(if t < p then f t else f (t - 1)), ⟨p, hp, by (try dsimp only); rw [if_pos rfl]; exact S.one_ne⟩, fun j hj => ?_⟩
    rw [oth_lin (p := p) (by omega), if_pos rfl]
    have e : lin n (oth M p) (fun t => if t < p then (if t = p then (1 : S.F) else -(if t < p then f t else f (t - 1))) else if t + 1 = p then 1 else -(if t + 1 < p then f (t + 1) else f (t + 1 - 1))) j = -(lin n (oth M p) f j) := by
      rw [← lin_neg]
      unfold lin
      refine sm_congr fun t _ => ?_
      by_cases z : t < p
      · simp only [if_pos z]
        rw [if_neg (by omega)]
      · simp only [if_neg z]
        rw [if_neg (by omega), if_neg (by omega), Nat.add_sub_cancel]
    rw [e, hf j hj]
    grind
theorem rank_dep {r : Nat} (h : Rank w (n + 1) M r) : Dep (n + 1) w M ↔ r < n + 1 := by
  obtain ⟨b, hb⟩ := h
  constructor
  · intro hd
    obtain ⟨p, hp, hin⟩ := dep_oth.mp hd
    have all : ∀ t, t < n + 1 → InSpan w n (oth M p) (M t) := fun t ht => by
      rcases Nat.lt_trichotomy t p with z | z | z
      · have e : oth M p t = M t := by unfold oth; rw [if_pos z]
        rw [← e]; exact span_row (by omega)
      · rw [z]; exact hin
      · have e : oth M p (t - 1) = M t := by
          unfold oth; rw [if_neg (by omega), show t - 1 + 1 = t from by omega]
        rw [← e]; exact span_row (by omega)
    refine Nat.lt_of_le_of_ne hb.le_n fun e => hb.ind (dim (fun i hi => (hb.ins i hi).trans all) (by omega))
  · intro hr
    exact dim hb.sp hr
/-- a row more -/
def mr (n : Nat) (M : Nat → Nat → S.F) (v : Nat → S.F) (t : Nat) : Nat → S.F := if t = n then v else M t
theorem mr_in {v x : Nat → S.F} (h : InSpan w n M x) : InSpan w (n + 1) (mr n M v) x := InSpan.trans (fun t ht => by
  have e : mr n M v t = M t := by unfold mr; rw [if_neg (by omega)]
  rw [← e]; exact span_row (by omega)) h
theorem mr_last {v : Nat → S.F} : InSpan w (n + 1) (mr n M v) v := by
  have e : mr n M v n = v := by unfold mr; rw [if_pos rfl]
  have := span_row (w := w) (M := mr n M v) (i := n) (n := n + 1) (by omega)
  rw [e] at this; exact this
theorem rank_more {r : Nat} {v : Nat → S.F} (h : Rank w n M r) : (InSpan w n M v → Rank w (n + 1) (mr n M v) r) ∧ (¬InSpan w n M v → Rank w (n + 1) (mr n M v) (r + 1)) := by
  obtain ⟨b, hb⟩ := h
  constructor
  · intro hv
    refine ⟨b, hb.ind, fun t ht => mr_in (hb.ins t ht), fun t ht => ?_⟩
    unfold mr
    split
    · exact hv.trans hb.sp
    · exact hb.sp t (by omega)
  · intro hv
    refine ⟨mr r b v, ?_, fun t ht => ?_, fun t ht => ?_⟩
    · rintro ⟨g, ⟨i, hi, hgi⟩, hg⟩
      have e1 : ∀ j, lin (r + 1) (mr r b v) g j = lin r b g j + g r * v j := fun j => by
        unfold lin
        rw [sm]
        congr 1
        · exact sm_congr fun t ht => by unfold mr; rw [if_neg (by omega)]
        · unfold mr; rw [if_pos rfl]
      by_cases z : g r = 0
      · refine hb.ind ⟨g, ⟨i, ?_, hgi⟩, fun j hj => ?_⟩
        · rcases Nat.lt_or_ge i r with q | q
          · exact q
          · rw [show i = r from by omega] at hgi; exact absurd z hgi
        · have := hg j hj
          rw [e1, z] at this
          grind
      · have iz := S.inv_mul _ z
        refine hv (InSpan.trans hb.ins ⟨fun t => -(S.inv (g r)) * g t, fun j hj => ?_⟩)
        have := hg j hj
        rw [e1] at this
        rw [lin_mul]
        generalize lin r b g j = x at this
        have h2 : S.inv (g r) * (x + g r * v j) = 0 := by rw [this]; grind
        grind
    · unfold mr
      split
      · exact mr_last
      · exact mr_in (hb.ins t (by omega))
    · unfold mr
      split
      · exact mr_last
      · exact mr_in (hb.sp t (by omega))
/-! ### how great -/
theorem eB_form {r k : Nat} : eB r k + (r + 7) = (r + 7) * 2 ^ k := by
  induction k with
  | zero => simp [eB]
  | succ k ih =>
    simp only [eB]
    rw [Nat.pow_succ, ← Nat.mul_assoc, ← ih]
    omega
theorem sB_form {r k : Nat} : sB r k + 1 = (r + 1) * 2 ^ k := by
  induction k with
  | zero => simp [sB]
  | succ k ih =>
    simp only [sB]
    rw [Nat.pow_succ, ← Nat.mul_assoc, ← ih]
    omega
theorem room2 {r k : Nat} (h : r + k ≤ 16) : eB (eB 100 (r + 1)) (k + 1) ≤ 2 ^ 25 ∧ sB (eB 100 (r + 1)) k + 7 ≤ 2 ^ 26 ∧ eB 100 (r + 1) ≤ 2 ^ 24 := by
  have f1 := eB_form (r := eB 100 (r + 1)) (k := k + 1)
  have f2 := eB_form (r := 100) (k := r + 1)
  have f3 := sB_form (r := eB 100 (r + 1)) (k := k)
  have p : 2 ^ (r + 1) * 2 ^ (k + 1) ≤ 2 ^ 18 := by rw [← Nat.pow_add]; exact Nat.pow_le_pow_right (by decide) (by omega)
  have p2 : 2 ^ (r + 1) ≤ 2 ^ 17 := Nat.pow_le_pow_right (by decide) (by omega)
  have q : (eB 100 (r + 1) + 7) * 2 ^ (k + 1) ≤ 107 * 2 ^ (r + 1) * 2 ^ (k + 1) := Nat.mul_le_mul_right _ (by omega)
  have q3 : (eB 100 (r + 1) + 1) * 2 ^ k ≤ (eB 100 (r + 1) + 7) * 2 ^ (k + 1) := Nat.mul_le_mul (by omega) (Nat.pow_le_pow_right (by decide) (by omega))
  rw [Nat.mul_assoc] at q
  omega
theorem sB100 {n : Nat} (h : n ≤ 16) : sB 100 n + 7 ≤ 2 ^ 26 := by
  have f3 := sB_form (r := 100) (k := n)
  have p2 : 2 ^ n ≤ 2 ^ 16 := Nat.pow_le_pow_right (by decide) (by omega)
  omega
end
end Og
end
section
set_option maxHeartbeats 4000000
set_option autoImplicit false
namespace Og.Lk44
open PySem Og
def relsD (S : Sys) (n : Nat) (rels : List (Rl S)) : List D := rels.map fun r => S.row n r.2
def stO (C dx qr : Addr) (S : Sys) (w n : Nat) (st : List (Stp S)) : Cell := .obj C dx [some (.int S.by_), some (.ref qr), some (stsD S w n st)]
def s_init (C : Addr) : Spec := fun ds m Q => ∃ (k : Ks) (w n : Nat) (p dx : Addr) (ro : Nat) (M : Nat → Nat → (sys k).F), ds = [.ref p, .int (sys k).by_, (sys k).mat n w M] ∧ m p = some (.obj C dx []) ∧ WfM m ∧ n ≤ 16 ∧ eB ro (n + 1) ≤ 2 ^ 25 ∧ (∀ t, t < n → Bt w ro (M t)) ∧
  ∀ (qr : Addr) (st : List (Stp (sys k))) (rels : List (Rl (sys k))), m qr = none → StOk ro w n n M st rels → Q .non (put (put m qr (.lst (relsD (sys k) n rels))) p (stO C dx qr (sys k) w n st))
theorem wf_obj {m : Mem} {p C dx : Addr} {fs gs : List (Option D)} (w : WfM m) (h : m p = some (.obj C dx fs)) : WfM (put m p (.obj C dx gs)) := fun a D' dx' fs' e => by
  have hd := w p C dx fs h
  have nd : dx ≠ p := fun z => by rw [z, h] at hd; cases hd
  by_cases ea : a = p
  · rw [ea, put_same] at e
    injection e with e
    injection e with e1 e2 e3
    subst e2
    rw [ea, put_ne nd]; exact hd
  · rw [put_ne ea] at e
    have q := w a D' dx' fs' e
    rw [put_ne (fun z => by rw [z, h] at q; cases q)]
    exact q
theorem subo_of {m M : Mem} (w : WfM m) (h : ∀ a c, m a = some c → M a = some c) : SubO m M := ⟨h, fun a C dx fs e => by
  have q := w a C dx fs e
  rw [q, h _ _ q]⟩
theorem law_init {X : Ctx} (hc : X.fn 35 = s_cleared (X.cls 0)) (ht : X.fn 38 = s_stake (X.cls 0)) (hg : X.gd = gd) (ds : List D) (m : Mem) (Q : KD) (h : s_init (X.cls 0) ds m Q) : body X 9 c39 ds m Q := by
  obtain ⟨k, w, n, p, dx, ro, M, rfl, hm, wf, n16, room, hM, q⟩ := h
  simp only [c39, hc, ht, hg, gd, hm, put_same, put_put, seq_mat, gd_mat, body, exs, ex, ev, evs, evB, evO, evT, evI, startD, List.map_cons, List.map_nil, List.length_cons, List.length_nil, Nat.reduceAdd, Nat.reduceSub, List.replicate, List.cons_append, List.nil_append, List.append_nil, List.getElem?_cons_zero, List.getElem?_cons_succ, Option.some.injEq, exists_and_left, exists_eq_left', exists_eq_left, exists_eq, ix_tup, at0, at1, at2, op_add', op_sub', op_mul', op_fdiv', op_mod', op_pow', op_addT, cm_lt, cm_le, cm_gt, cm_ge, cm_eq, cm_ne, cm_eqS, cm_neS, onb, oni, yn_gd, yn_cls, Nat.reduceLT, if_true, if_false, true_and, and_true, List.set_cons_zero, List.set_cons_succ, set_nm, set_tup, set_nil, set_cons, ifb, b1_abs, b1_int, b1_intB, b1_lenT, b1_lenL, b1_tupL, b1_tupT, b2_min, b2_max, seq_tup, seq_lst, seq_sq, gd_sq, ix_sq, len_sq, new_t, new_f, gd_tup, gd_lst, ix_lst, ty_int, ty_tup, ty_str, isi_ii, isi_ib, isi_tt, isi_ss, reduceIte, Bool.true_eq_false, Bool.false_eq_true, Bool.not_true, Bool.not_false,  List.zip_cons_cons, List.zip_nil_right, List.foldl_cons, List.foldl_nil, ne_eq, not_false_eq_true, not_true_eq_false, Bool.not_eq_true', decide_eq_false_iff_not, decide_eq_true_eq, reduceCtorEq, List.cons.injEq, and_self, D.ref.injEq, Cell.obj.injEq, D.int.injEq, and_assoc, seq_sts, gd_sts]
  refine ⟨by decide, by decide, fun qr hqr => ?_⟩
  have npq : p ≠ qr := fun z => by rw [← z, put_same] at hqr; cases hqr
  have hq0 : m qr = none := by rw [put_ne (Ne.symm npq)] at hqr; exact hqr
  refine ⟨_, _, by rw [put_ne npq, put_same], ?_⟩
  rw [put_comm npq, put_put]
  rw [show (List.range n).map (fun i => (sys k).row w (M i)) = (List.range' 0 n).map (fun i => (sys k).row w (M i)) from by rw [List.range_eq_range'], enum_map]
  refine for_inv _ (fun i r m' => ∃ (st : List (Stp (sys k))) (rels : List (Rl (sys k))) (o1 o2 o3 o4 o5 : Option D), r = [some (.ref p), some (.int (sys k).by_), some ((sys k).mat n w M), o1, o2, o3, o4, o5, none] ∧ m' = put (put m qr (.lst (relsD (sys k) n rels))) p (stO (X.cls 0) dx qr (sys k) w n st) ∧ StOk ro w n i M st rels) (List.range' 0 n) 0 _ _ ⟨[], [], none, none, none, none, none, rfl, rfl, st_zero⟩ ?_ ?_
  · rintro i hi r m' N ⟨st, rels, o1, o2, o3, o4, o5, rfl, rfl, ok⟩ kN
    have hi' : i < n := by simpa using hi
    have e : ∀ h, (List.range' 0 n)[i]'h = i := fun h => by simp
    simp only [Nat.zero_add] at ok kN
    simp only [e, mat_len, Nat.zero_add, body, exs, ex, ev, evs, evB, evO, evT, evI, startD, List.map_cons, List.map_nil, List.length_cons, List.length_nil, Nat.reduceAdd, Nat.reduceSub, List.replicate, List.cons_append, List.nil_append, List.append_nil, List.getElem?_cons_zero, List.getElem?_cons_succ, Option.some.injEq, exists_and_left, exists_eq_left', exists_eq_left, exists_eq, ix_tup, at0, at1, at2, op_add', op_sub', op_mul', op_fdiv', op_mod', op_pow', op_addT, cm_lt, cm_le, cm_gt, cm_ge, cm_eq, cm_ne, cm_eqS, cm_neS, onb, oni, yn_gd, yn_cls, Nat.reduceLT, if_true, if_false, true_and, and_true, List.set_cons_zero, List.set_cons_succ, set_nm, set_tup, set_nil, set_cons, ifb, b1_abs, b1_int, b1_intB, b1_lenT, b1_lenL, b1_tupL, b1_tupT, b2_min, b2_max, seq_tup, seq_lst, seq_sq, gd_sq, ix_sq, len_sq, new_t, new_f, gd_tup, gd_lst, ix_lst, ty_int, ty_tup, ty_str, isi_ii, isi_ib, isi_tt, isi_ss, reduceIte, Bool.true_eq_false, Bool.false_eq_true, Bool.not_true, Bool.not_false,  List.zip_cons_cons, List.zip_nil_right, List.foldl_cons, List.foldl_nil, ne_eq, not_false_eq_true, not_true_eq_false, Bool.not_eq_true', decide_eq_false_iff_not, decide_eq_true_eq, reduceCtorEq, List.cons.injEq, and_self, D.ref.injEq, Cell.obj.injEq, D.int.injEq, and_assoc, seq_sts, gd_sts]
    obtain ⟨z0, z1, z2, hMi⟩ := hM i hi'
    obtain ⟨c1, c2, c3⟩ := st_step z1 z2 room ok hi' (by omega) hMi
    have len := ok.cnt
    refine ⟨by omega, by omega, ?_⟩
    rw [rgD_nat]
    refine lc_pure (List.range n) (fun i => .int ((i : Nat) : Int)) (fun t => (sys k).d (dlt i t)) (fun _ _ _ => trivial) ?_ ?_
    · intro t ht p' c K hp' hK
      simp only [wipeD, body, exs, ex, ev, evs, evB, evO, evT, evI, startD, List.map_cons, List.map_nil, List.length_cons, List.length_nil, Nat.reduceAdd, Nat.reduceSub, List.replicate, List.cons_append, List.nil_append, List.append_nil, List.getElem?_cons_zero, List.getElem?_cons_succ, Option.some.injEq, exists_and_left, exists_eq_left', exists_eq_left, exists_eq, ix_tup, at0, at1, at2, op_add', op_sub', op_mul', op_fdiv', op_mod', op_pow', op_addT, cm_lt, cm_le, cm_gt, cm_ge, cm_eq, cm_ne, cm_eqS, cm_neS, onb, oni, yn_gd, yn_cls, Nat.reduceLT, if_true, if_false, true_and, and_true, List.set_cons_zero, List.set_cons_succ, set_nm, set_tup, set_nil, set_cons, ifb, b1_abs, b1_int, b1_intB, b1_lenT, b1_lenL, b1_tupL, b1_tupT, b2_min, b2_max, seq_tup, seq_lst, seq_sq, gd_sq, ix_sq, len_sq, new_t, new_f, gd_tup, gd_lst, ix_lst, ty_int, ty_tup, ty_str, isi_ii, isi_ib, isi_tt, isi_ss, reduceIte, Bool.true_eq_false, Bool.false_eq_true, Bool.not_true, Bool.not_false,  List.zip_cons_cons, List.zip_nil_right, List.foldl_cons, List.foldl_nil, ne_eq, not_false_eq_true, not_true_eq_false, Bool.not_eq_true', decide_eq_false_iff_not, decide_eq_true_eq, reduceCtorEq, List.cons.injEq, and_self, D.ref.injEq, Cell.obj.injEq, D.int.injEq, and_assoc, seq_sts, gd_sts]
      have ed : (sys k).d (dlt i t) = if t = i then D.tup [.int 1, .int 1] else .tup [.int 0, .int 1] := by
        unfold dlt
        by_cases z : t = i
        · rw [if_pos z, if_pos z, d1]
        · rw [if_neg z, if_neg z, d0]
      rw [ed] at hK
      by_cases z : t = i
      · rw [if_pos z] at hK
        rw [if_pos (by omega)]; exact hK
      · rw [if_neg z] at hK
        rw [if_neg (by omega)]; exact hK
    · rw [tup_row]
      have hmp : put (put m qr (.lst (relsD (sys k) n rels))) p (stO (X.cls 0) dx qr (sys k) w n st) p = some (.obj (X.cls 0) dx [some (.int (sys k).by_), some (.ref qr), some (stsD (sys k) w n st)]) := put_same
      have hmq : put (put m qr (.lst (relsD (sys k) n rels))) p (stO (X.cls 0) dx qr (sys k) w n st) qr = some (.lst (relsD (sys k) n rels)) := by rw [put_ne (Ne.symm npq), put_same]
      have wf2 : WfM (put (put m qr (.lst (relsD (sys k) n rels))) p (stO (X.cls 0) dx qr (sys k) w n st)) := wf_obj (wf_lst wf hq0) (by rw [put_ne npq]; exact hm)
      try simp only [hmp, body, exs, ex, ev, evs, evB, evO, evT, evI, startD, List.map_cons, List.map_nil, List.length_cons, List.length_nil, Nat.reduceAdd, Nat.reduceSub, List.replicate, List.cons_append, List.nil_append, List.append_nil, List.getElem?_cons_zero, List.getElem?_cons_succ, Option.some.injEq, exists_and_left, exists_eq_left', exists_eq_left, exists_eq, ix_tup, at0, at1, at2, op_add', op_sub', op_mul', op_fdiv', op_mod', op_pow', op_addT, cm_lt, cm_le, cm_gt, cm_ge, cm_eq, cm_ne, cm_eqS, cm_neS, onb, oni, yn_gd, yn_cls, Nat.reduceLT, if_true, if_false, true_and, and_true, List.set_cons_zero, List.set_cons_succ, set_nm, set_tup, set_nil, set_cons, ifb, b1_abs, b1_int, b1_intB, b1_lenT, b1_lenL, b1_tupL, b1_tupT, b2_min, b2_max, seq_tup, seq_lst, seq_sq, gd_sq, ix_sq, len_sq, new_t, new_f, gd_tup, gd_lst, ix_lst, ty_int, ty_tup, ty_str, isi_ii, isi_ib, isi_tt, isi_ss, reduceIte, Bool.true_eq_false, Bool.false_eq_true, Bool.not_true, Bool.not_false,  List.zip_cons_cons, List.zip_nil_right, List.foldl_cons, List.foldl_nil, ne_eq, not_false_eq_true, not_true_eq_false, Bool.not_eq_true', decide_eq_false_iff_not, decide_eq_true_eq, reduceCtorEq, List.cons.injEq, and_self, D.ref.injEq, Cell.obj.injEq, D.int.injEq, and_assoc, seq_sts, gd_sts]
      refine ⟨k, w, n, p, dx, _, st, M i, dlt i, rfl, hmp, c1, ?_⟩
      try simp only [hmp, body, exs, ex, ev, evs, evB, evO, evT, evI, startD, List.map_cons, List.map_nil, List.length_cons, List.length_nil, Nat.reduceAdd, Nat.reduceSub, List.replicate, List.cons_append, List.nil_append, List.append_nil, List.getElem?_cons_zero, List.getElem?_cons_succ, Option.some.injEq, exists_and_left, exists_eq_left', exists_eq_left, exists_eq, ix_tup, at0, at1, at2, op_add', op_sub', op_mul', op_fdiv', op_mod', op_pow', op_addT, cm_lt, cm_le, cm_gt, cm_ge, cm_eq, cm_ne, cm_eqS, cm_neS, onb, oni, yn_gd, yn_cls, Nat.reduceLT, if_true, if_false, true_and, and_true, List.set_cons_zero, List.set_cons_succ, set_nm, set_tup, set_nil, set_cons, ifb, b1_abs, b1_int, b1_intB, b1_lenT, b1_lenL, b1_tupL, b1_tupT, b2_min, b2_max, seq_tup, seq_lst, seq_sq, gd_sq, ix_sq, len_sq, new_t, new_f, gd_tup, gd_lst, ix_lst, ty_int, ty_tup, ty_str, isi_ii, isi_ib, isi_tt, isi_ss, reduceIte, Bool.true_eq_false, Bool.false_eq_true, Bool.not_true, Bool.not_false,  List.zip_cons_cons, List.zip_nil_right, List.foldl_cons, List.foldl_nil, ne_eq, not_false_eq_true, not_true_eq_false, Bool.not_eq_true', decide_eq_false_iff_not, decide_eq_true_eq, reduceCtorEq, List.cons.injEq, and_self, D.ref.injEq, Cell.obj.injEq, D.int.injEq, and_assoc, seq_sts, gd_sts]
      refine ⟨k, w, n, p, dx, qr, _, st, _, _, rfl, hmp, hmq, by unfold relsD; simp; omega, by omega, wf2, fun hz => ?_, fun a ha hne => ?_⟩
      · refine kN _ _ ⟨st, rels ++ [(i, (clr st (M i) (dlt i)).2)], _, _, _, _, _, rfl, ?_, c2 hz⟩
        rw [put_comm npq, put_put]
        congr 2
        unfold relsD
        rw [List.map_append]
        rfl
      · obtain ⟨k1, k2⟩ := c3 a ha hne
        refine ⟨k1, kN _ _ ⟨_, rels, _, _, _, _, _, rfl, ?_, k2⟩⟩
        rw [put_put]
        rfl
  · rintro r m' ⟨st, rels, o1, o2, o3, o4, o5, rfl, rfl, ok⟩
    rw [List.length_range', Nat.zero_add] at ok
    exact ⟨trivial, _, SubO.refl, q qr st rels hq0 ok⟩
end Og.Lk44
end
section
set_option maxHeartbeats 4000000
set_option autoImplicit false
namespace Og.Lk44
open PySem Og
abbrev Sz {S : Sys} (w : Nat) (v : Nat → S.F) : Prop := ∀ j, j < w → S.cd 42 (2 ^ 100) (v j)
def s_in_span : Spec := fun ds m Q => ∃ (k : Ks) (n w : Nat) (M : Nat → Nat → (sys k).F) (v : Nat → (sys k).F), ds = [.int (sys k).by_, (sys k).mat n w M, (sys k).row w v] ∧ 1 ≤ n ∧ n ≤ 16 ∧ 1 ≤ w ∧ w ≤ 16 ∧ WfM m ∧ (∀ t, t < n → Sz w (M t)) ∧ Sz w v ∧
  (∀ f, BigRow n f → (∀ j, j < w → lin n M f j = v j) → Q (.tup [.str "sum", (sys k).row n f]) m) ∧ ∀ u, BigRow w u → (∀ t, t < n → dot w u (M t) = 0) → dot w u v ≠ 0 → Q (.tup [.str "barred", (sys k).row w u]) m
theorem room100 {n : Nat} (h : n ≤ 16) : eB 100 (n + 1) ≤ 2 ^ 25 := Nat.le_trans (eB_mono (j := 17) (by omega)) (by decide +kernel)
theorem bt100 {S : Sys} {w : Nat} {v : Nat → S.F} (h : Sz w v) : Bt w 100 v := ⟨42, by decide, by decide, h⟩
theorem wf_mk {m : Mem} {p C dx : Addr} (w : WfM m) (hp : m p = none) (hd : m dx = none) (ne : dx ≠ p) : WfM (put (put m dx (.hid p)) p (.obj C dx [])) := fun a D' dx' fs' e => by
  by_cases ea : a = p
  · rw [ea, put_same] at e
    injection e with e
    injection e with e1 e2 e3
    subst e2
    rw [ea, put_ne ne, put_same]
  · rw [put_ne ea] at e
    by_cases eb : a = dx
    · rw [eb, put_same] at e; cases e
    · rw [put_ne eb] at e
      have q := w a D' dx' fs' e
      rw [put_ne (ne_of_mem q hp), put_ne (ne_of_mem q hd)]
      exact q
def s_shown : Spec := fun ds m Q => ∃ (k : Ks) (n w : Nat) (M : Nat → Nat → (sys k).F) (v : Nat → (sys k).F) (x : D), ds = [.int (sys k).by_, (sys k).mat n w M, (sys k).row w v, x] ∧ 1 ≤ n ∧ n ≤ 16 ∧ 1 ≤ w ∧ w ≤ 16 ∧ WfM m ∧ (∀ t, t < n → Sz w (M t)) ∧ Sz w v ∧
  ((∃ f, x = .tup [.str "sum", (sys k).row n f] ∧ BigRow n f ∧ ∀ j, j < w → lin n M f j = v j) ∨ ∃ u, x = .tup [.str "barred", (sys k).row w u] ∧ BigRow w u ∧ (∀ t, t < n → dot w u (M t) = 0) ∧ dot w u v ≠ 0) ∧ Q (.bl true) m
end Og.Lk44
end
section
set_option maxHeartbeats 4000000
set_option autoImplicit false
/-! Og: a body cut in two. -/
namespace Og
open PySem
theorem exs_app {X : Ctx} : ∀ {a b : List S} {r : Rho} {m : Mem} {K : Kt}, exs X (a ++ b) r m K = exs X a r m { K with nx := fun r1 m1 => exs X b r1 m1 K }
  | [], b, r, m, K => by simp only [List.nil_append, exs]
  | s :: a, b, r, m, K => by
    simp only [List.cons_append, exs]
    congr 1
    congr 1
    funext r1 m1
    exact exs_app
theorem exs_cut {X : Ctx} {c : List S} (n : Nat) {r : Rho} {m : Mem} {K : Kt} : exs X c r m K = exs X (c.take n) r m { K with nx := fun r1 m1 => exs X (c.drop n) r1 m1 K } := by
  rw [← exs_app, List.take_append_drop]
/-- where a body goes on -/
abbrev endK (Q : KD) : Kt := { nx := fun _ m1 => ∃ m2, SubO m2 m1 ∧ Q .non m2, rt := fun d m1 => ∃ m2, SubO m2 m1 ∧ Q d m2, bk := fun _ _ => False, ct := fun _ _ => False }
theorem body_cut {X : Ctx} {N : Nat} {c : List S} (n : Nat) {ds : List D} {m : Mem} {Q : KD} (h : exs X (c.take n) (startD N ds) m { endK Q with nx := fun r1 m1 => exs X (c.drop n) r1 m1 (endK Q) }) : body X N c ds m Q := by
  show exs X c (startD N ds) m (endK Q)
  rw [exs_cut n]
  exact h
/-- a comprehension whose element changes nothing, over a list's cell -/
theorem lc_pureW {ι : Type} {G : Mem → Prop} {T : D → Mem → (Option D → Mem → Prop) → Prop} {m0 : Mem} {Q : KD} (l : List ι) (g h : ι → D) (hG : ∀ p c, m0 p = none → G (put m0 p c)) (ht : ∀ i ∈ l, ∀ p acc K, m0 p = none → K (some (h i)) (put m0 p (.lst acc)) → T (g i) (put m0 p (.lst acc)) K)
    (hQ : Q (.lst (l.map h)) m0) : ∀ p, m0 p = none → lcL G T p (l.map g) [] (put m0 p (.lst [])) (lcEnd false p Q) := by
  intro p hp
  have go : ∀ (l : List ι) (acc : List D), (∀ i ∈ l, ∀ p acc K, m0 p = none → K (some (h i)) (put m0 p (.lst acc)) → T (g i) (put m0 p (.lst acc)) K) → Q (.lst (acc ++ l.map h)) m0 → lcL G T p (l.map g) acc (put m0 p (.lst acc)) (lcEnd false p Q) := by
    intro l
    induction l with
    | nil =>
      intro acc _ hq
      simp only [List.map_nil, lcL]
      refine ⟨hG p _ hp, put_same, ?_⟩
      show Q (.lst acc) (del (put m0 p (.lst acc)) p)
      rw [del_put hp]
      simpa using hq
    | cons i l ih =>
      intro acc ht hq
      simp only [List.map_cons, lcL]
      refine ⟨hG p _ hp, ht i List.mem_cons_self p _ _ hp ⟨put_same, ?_⟩⟩
      simp only [put_put]
      exact ih _ (fun j hj => ht j (List.mem_cons_of_mem _ hj)) (by simpa using hq)
  exact go l [] ht (by simpa using hQ)
end Og
end
section
set_option maxHeartbeats 4000000
set_option autoImplicit false
namespace Og.Lk44
open PySem Og
def s_less : Spec := fun ds m Q => ∃ (k : Ks) (x y : (sys k).F), ds = [.int (sys k).by_, (sys k).d x, (sys k).d y] ∧ (sys k).ht x + (sys k).ht y ≤ 2 ^ 27 ∧ Q ((sys k).d (x + -y)) m
def s_over : Spec := fun ds m Q => ∃ (k : Ks) (x y : (sys k).F), ds = [.int (sys k).by_, (sys k).d x, (sys k).d y] ∧ (sys k).ht x + (sys k).ht y ≤ 2 ^ 27 ∧ y ≠ 0 ∧ Q ((sys k).d ((sys k).inv y * x)) m
theorem law_less {X : Ctx} (hn : X.fn 1 = s_num) (ds : List D) (m : Mem) (Q : KD) (h : s_less ds m Q) : body X 3 c3 ds m Q := by
  obtain ⟨k, x, y, rfl, hh, q⟩ := h
  obtain ⟨h1, h2, h3, h4⟩ := muls hh
  simp only [c3, Sys.d, hn, body, exs, ex, ev, evs, evB, evO, evT, evI, startD, List.map_cons, List.map_nil, List.length_cons, List.length_nil, Nat.reduceAdd, Nat.reduceSub, List.replicate, List.cons_append, List.nil_append, List.append_nil, List.getElem?_cons_zero, List.getElem?_cons_succ, Option.some.injEq, exists_and_left, exists_eq_left', exists_eq_left, exists_eq, ix_tup, at0, at1, at2, op_add', op_sub', op_mul', op_fdiv', op_mod', op_pow', op_addT, cm_lt, cm_le, cm_gt, cm_ge, cm_eq, cm_ne, cm_eqS, cm_neS, onb, oni, yn_gd, yn_cls, Nat.reduceLT, if_true, if_false, true_and, and_true, List.set_cons_zero, List.set_cons_succ, set_nm, set_tup, set_nil, set_cons, ifb, b1_abs, b1_int, b1_intB, b1_lenT, b1_lenL, b1_tupL, b1_tupT, b2_min, b2_max, seq_tup, seq_lst, seq_sq, gd_sq, ix_sq, len_sq, new_t, new_f, gd_tup, gd_lst, ix_lst, ty_int, ty_tup, ty_str, isi_ii, isi_ib, isi_tt, isi_ss, reduceIte, Bool.true_eq_false, Bool.false_eq_true, Bool.not_true, Bool.not_false,  List.zip_cons_cons, List.zip_nil_right, List.foldl_cons, List.foldl_nil, ne_eq, not_false_eq_true, not_true_eq_false, Bool.not_eq_true', decide_eq_false_iff_not, decide_eq_true_eq, reduceCtorEq, List.cons.injEq, and_self, D.ref.injEq, Cell.obj.injEq, D.int.injEq]
  exact ⟨h2, h3, h4, k, _, _, _, rfl, quo_sub x y, m, SubO.refl, q⟩
theorem law_over {X : Ctx} (hn : X.fn 1 = s_num) (ds : List D) (m : Mem) (Q : KD) (h : s_over ds m Q) : body X 3 c6 ds m Q := by
  obtain ⟨k, x, y, rfl, hh, hy, q⟩ := h
  obtain ⟨h1, h2, h3, h4⟩ := muls hh
  have h5 := mulOk_of ((sys k).den_ht x) ((sys k).num_ht y) hh
  simp only [c6, Sys.d, hn, body, exs, ex, ev, evs, evB, evO, evT, evI, startD, List.map_cons, List.map_nil, List.length_cons, List.length_nil, Nat.reduceAdd, Nat.reduceSub, List.replicate, List.cons_append, List.nil_append, List.append_nil, List.getElem?_cons_zero, List.getElem?_cons_succ, Option.some.injEq, exists_and_left, exists_eq_left', exists_eq_left, exists_eq, ix_tup, at0, at1, at2, op_add', op_sub', op_mul', op_fdiv', op_mod', op_pow', op_addT, cm_lt, cm_le, cm_gt, cm_ge, cm_eq, cm_ne, cm_eqS, cm_neS, onb, oni, yn_gd, yn_cls, Nat.reduceLT, if_true, if_false, true_and, and_true, List.set_cons_zero, List.set_cons_succ, set_nm, set_tup, set_nil, set_cons, ifb, b1_abs, b1_int, b1_intB, b1_lenT, b1_lenL, b1_tupL, b1_tupT, b2_min, b2_max, seq_tup, seq_lst, seq_sq, gd_sq, ix_sq, len_sq, new_t, new_f, gd_tup, gd_lst, ix_lst, ty_int, ty_tup, ty_str, isi_ii, isi_ib, isi_tt, isi_ss, reduceIte, Bool.true_eq_false, Bool.false_eq_true, Bool.not_true, Bool.not_false,  List.zip_cons_cons, List.zip_nil_right, List.foldl_cons, List.foldl_nil, ne_eq, not_false_eq_true, not_true_eq_false, Bool.not_eq_true', decide_eq_false_iff_not, decide_eq_true_eq, reduceCtorEq, List.cons.injEq, and_self, D.ref.injEq, Cell.obj.injEq, D.int.injEq]
  exact ⟨h2, h5, k, _, _, _, rfl, quo_div hy, m, SubO.refl, q⟩
theorem seq_rowL {S : Sys} {w : Nat} {v : Nat → S.F} {m : Mem} : seqOf m (S.rowL w v) = some ((List.range w).map fun i => S.d (v i)) := rfl
theorem gd_rowL {S : Sys} {w : Nat} {v : Nat → S.F} {m : Mem} : guard m (S.rowL w v) = fun _ => True := rfl
theorem rowL_get {S : Sys} {w i : Nat} {v : Nat → S.F} {m : Mem} {Q : KD} (h : i < w) : ixD m (S.rowL w v) (.int (i : Nat)) Q = Q (S.d (v i)) m := by
  have e := ix_lst (m := m) (Q := Q) (a := (i : Int)) (ds := (List.range w).map fun i => S.d (v i))
  rw [show S.rowL w v = .lst ((List.range w).map fun i => S.d (v i)) from rfl]
  refine e.trans ?_
  rw [atI_nat, List.getElem?_map, List.getElem?_range h]
  simp
theorem listF_row {S : Sys} {w : Nat} {v : Nat → S.F} {m : Mem} {Q : KD} : b1D (.list false) (S.row w v) m Q = Q (S.rowL w v) m := by
  show (∃ ds, seqOf m (S.row w v) = some ds ∧ newL false ds m Q) = _
  simp only [seq_row, Option.some.injEq, exists_eq_left']
  rfl
def st2D (S : Sys) (w : Nat) (s : St2 S) : D := .tup [.int (s.1 : Int), S.rowL w s.2]
def s_cl2 : Spec := fun ds m Q => ∃ (k : Ks) (w : Nat) (q : Addr) (st : List (St2 (sys k))) (v : Nat → (sys k).F), ds = [.int (sys k).by_, (sys k).rowL w v, .ref q] ∧ m q = some (.lst (st.map (st2D (sys k) w))) ∧ Cl2Ok w st v ∧ Q ((sys k).rowL w (clr2 st v)) m
/-- a comprehension that picks -/
theorem lc_filter {ι : Type} {G : Mem → Prop} {T : D → Mem → (Option D → Mem → Prop) → Prop} {m0 : Mem} {Q : KD} (l : List ι) (g h : ι → D) (keep : ι → Bool) (hG : ∀ p c, m0 p = none → G (put m0 p c)) (ht : ∀ i ∈ l, ∀ p c K, m0 p = none → K (if keep i = true then some (h i) else none) (put m0 p c) → T (g i) (put m0 p c) K)
    (hQ : Q (.lst ((l.filter keep).map h)) m0) : ∀ p, m0 p = none → lcL G T p (l.map g) [] (put m0 p (.lst [])) (lcEnd false p Q) := by
  intro p hp
  have go : ∀ (l : List ι) (acc : List D), (∀ i ∈ l, ∀ p c K, m0 p = none → K (if keep i = true then some (h i) else none) (put m0 p c) → T (g i) (put m0 p c) K) → Q (.lst (acc ++ (l.filter keep).map h)) m0 → lcL G T p (l.map g) acc (put m0 p (.lst acc)) (lcEnd false p Q) := by
    intro l
    induction l with
    | nil =>
      intro acc _ hq
      simp only [List.map_nil, lcL]
      refine ⟨hG p _ hp, put_same, ?_⟩
      show Q (.lst acc) (del (put m0 p (.lst acc)) p)
      rw [del_put hp]
      simpa using hq
    | cons i l ih =>
      intro acc ht hq
      simp only [List.map_cons, lcL]
      refine ⟨hG p _ hp, ht i List.mem_cons_self p _ _ hp ⟨put_same, ?_⟩⟩
      by_cases hk : keep i = true
      · simp only [if_pos hk, put_put]
        refine ih _ (fun j hj => ht j (List.mem_cons_of_mem _ hj)) ?_
        rw [List.filter_cons, if_pos hk] at hq
        simpa using hq
      · simp only [if_neg hk]
        refine ih _ (fun j hj => ht j (List.mem_cons_of_mem _ hj)) ?_
        rw [List.filter_cons, if_neg hk] at hq
        exact hq
  exact go l [] ht (by simpa using hQ)
theorem ne_nilL {m : Mem} {l : List D} {Q : KD} (hf : flats 39 l = true) : cmpD .ne (.lst l) (.lst []) m Q = Q (.bl (!l.isEmpty)) m := by
  show (D.flat 40 (.lst l) = true ∧ D.flat 40 (.lst []) = true ∧ Q (.bl (!PyData.eqv (D.lst l).toP (D.lst []).toP)) m) = _
  have f1 : D.flat 40 (.lst l) = true := hf
  have e2 : PyData.eqv (D.lst l).toP (D.lst []).toP = l.isEmpty := by
    simp only [D.toP]
    cases l with
    | nil => rfl
    | cons d l => simp only [toPs, PyData.eqv, PyData.eqvAll, List.isEmpty_cons]
  rw [f1, e2]
  simp [D.flat, flats]
def s_steps : Spec := fun ds m Q => ∃ (k : Ks) (n w ro : Nat) (M : Nat → Nat → (sys k).F), ds = [.int (sys k).by_, (sys k).mat n w M] ∧ n ≤ 1000 ∧ sB ro n + 7 ≤ 2 ^ 26 ∧ (∀ t, t < n → Bt w ro (M t)) ∧ ∀ (r : Addr) (l : List D), m r = none → Rank w n M l.length → Q (.ref r) (put m r (.lst l))
end Og.Lk44
end
section
set_option maxHeartbeats 4000000
set_option autoImplicit false
namespace Og.Lk44
open PySem Og
def s_rank : Spec := fun ds m Q => ∃ (k : Ks) (n w ro : Nat) (M : Nat → Nat → (sys k).F), ds = [.int (sys k).by_, (sys k).mat n w M] ∧ WfM m ∧ n ≤ 16 ∧ eB ro (n + 1) ≤ 2 ^ 25 ∧ (∀ t, t < n → Bt w ro (M t)) ∧ ∀ r : Nat, Rank w n M r → Q (.int (r : Int)) m
theorem len_sts {S : Sys} {w n : Nat} {st : List (Stp S)} {m : Mem} {Q : KD} : b1D .len (stsD S w n st) m Q = Q (.int (st.length : Nat)) m := by
  unfold stsD
  rw [b1_lenL, List.length_map]
def s_kernel : Spec := fun ds m Q => ∃ (k : Ks) (n w : Nat) (M : Nat → Nat → (sys k).F), ds = [.int (sys k).by_, (sys k).mat n w M] ∧ 1 ≤ n ∧ n ≤ 16 ∧ 1 ≤ w ∧ w ≤ 16 ∧ WfM m ∧ (∀ t, t < n → Sz w (M t)) ∧ ∀ (st : List (Stp (sys k))) (rels : List (Rl (sys k))), StOk 100 w n n M st rels → Q (.tup (relsD (sys k) n rels)) m
theorem law_kernel {X : Ctx} (hk : X.fn 24 = s_check_matrix) (hi : X.fn 39 = s_init (X.cls 0)) (ds : List D) (m : Mem) (Q : KD) (h : s_kernel ds m Q) : body X 2 c40 ds m Q := by
  obtain ⟨k, n, w, M, rfl, n1, n2, w1, w2, wf, hM, q⟩ := h
  simp only [c40, hi, hk, body, exs, ex, ev, evs, evB, evO, evT, evI, startD, List.map_cons, List.map_nil, List.length_cons, List.length_nil, Nat.reduceAdd, Nat.reduceSub, List.replicate, List.cons_append, List.nil_append, List.append_nil, List.getElem?_cons_zero, List.getElem?_cons_succ, Option.some.injEq, exists_and_left, exists_eq_left', exists_eq_left, exists_eq, ix_tup, at0, at1, at2, op_add', op_sub', op_mul', op_fdiv', op_mod', op_pow', op_addT, cm_lt, cm_le, cm_gt, cm_ge, cm_eq, cm_ne, cm_eqS, cm_neS, onb, oni, yn_gd, yn_cls, Nat.reduceLT, if_true, if_false, true_and, and_true, List.set_cons_zero, List.set_cons_succ, set_nm, set_tup, set_nil, set_cons, ifb, b1_abs, b1_int, b1_intB, b1_lenT, b1_lenL, b1_tupL, b1_tupT, b2_min, b2_max, seq_tup, seq_lst, seq_sq, gd_sq, ix_sq, len_sq, new_t, new_f, gd_tup, gd_lst, ix_lst, ty_int, ty_tup, ty_str, isi_ii, isi_ib, isi_tt, isi_ss, reduceIte, Bool.true_eq_false, Bool.false_eq_true, Bool.not_true, Bool.not_false,  List.zip_cons_cons, List.zip_nil_right, List.foldl_cons, List.foldl_nil, ne_eq, not_false_eq_true, not_true_eq_false, Bool.not_eq_true', decide_eq_false_iff_not, decide_eq_true_eq, reduceCtorEq, List.cons.injEq, and_self, D.ref.injEq, Cell.obj.injEq, D.int.injEq, and_assoc, seq_sts, gd_sts]
  refine ⟨k, n, w, M, rfl, n1, n2, w1, w2, ?_⟩
  try simp only [body, exs, ex, ev, evs, evB, evO, evT, evI, startD, List.map_cons, List.map_nil, List.length_cons, List.length_nil, Nat.reduceAdd, Nat.reduceSub, List.replicate, List.cons_append, List.nil_append, List.append_nil, List.getElem?_cons_zero, List.getElem?_cons_succ, Option.some.injEq, exists_and_left, exists_eq_left', exists_eq_left, exists_eq, ix_tup, at0, at1, at2, op_add', op_sub', op_mul', op_fdiv', op_mod', op_pow', op_addT, cm_lt, cm_le, cm_gt, cm_ge, cm_eq, cm_ne, cm_eqS, cm_neS, onb, oni, yn_gd, yn_cls, Nat.reduceLT, if_true, if_false, true_and, and_true, List.set_cons_zero, List.set_cons_succ, set_nm, set_tup, set_nil, set_cons, ifb, b1_abs, b1_int, b1_intB, b1_lenT, b1_lenL, b1_tupL, b1_tupT, b2_min, b2_max, seq_tup, seq_lst, seq_sq, gd_sq, ix_sq, len_sq, new_t, new_f, gd_tup, gd_lst, ix_lst, ty_int, ty_tup, ty_str, isi_ii, isi_ib, isi_tt, isi_ss, reduceIte, Bool.true_eq_false, Bool.false_eq_true, Bool.not_true, Bool.not_false,  List.zip_cons_cons, List.zip_nil_right, List.foldl_cons, List.foldl_nil, ne_eq, not_false_eq_true, not_true_eq_false, Bool.not_eq_true', decide_eq_false_iff_not, decide_eq_true_eq, reduceCtorEq, List.cons.injEq, and_self, D.ref.injEq, Cell.obj.injEq, D.int.injEq, and_assoc, seq_sts, gd_sts]
  intro p dx hp hd ne
  have wf1 := wf_mk (C := X.cls 0) wf hp hd ne
  refine ⟨k, w, n, p, dx, 100, M, rfl, put_same, wf1, n2, room100 n2, fun t ht => bt100 (hM t ht), fun qr st rels hqr ok => ?_⟩
  have npq : p ≠ qr := fun z => by rw [← z, put_same] at hqr; cases hqr
  have hsub : SubO m (put (put (put (put m dx (.hid p)) p (.obj (X.cls 0) dx [])) qr (.lst (relsD (sys k) n rels))) p (stO (X.cls 0) dx qr (sys k) w n st)) := subo_of wf fun a c e => by
    have a1 := ne_of_mem e hp
    have a2 := ne_of_mem e hd
    have a3 : a ≠ qr := fun z => by rw [← z, put_ne a1, put_ne a2, e] at hqr; cases hqr
    rw [put_ne a1, put_ne a3, put_ne a1, put_ne a2]; exact e
  have hmp : put (put (put (put m dx (.hid p)) p (.obj (X.cls 0) dx [])) qr (.lst (relsD (sys k) n rels))) p (stO (X.cls 0) dx qr (sys k) w n st) p = some (.obj (X.cls 0) dx [some (.int (sys k).by_), some (.ref qr), some (stsD (sys k) w n st)]) := put_same
  have hmq : put (put (put (put m dx (.hid p)) p (.obj (X.cls 0) dx [])) qr (.lst (relsD (sys k) n rels))) p (stO (X.cls 0) dx qr (sys k) w n st) qr = some (.lst (relsD (sys k) n rels)) := by rw [put_ne (Ne.symm npq), put_same]
  generalize put (put (put (put m dx (.hid p)) p (.obj (X.cls 0) dx [])) qr (.lst (relsD (sys k) n rels))) p (stO (X.cls 0) dx qr (sys k) w n st) = m1 at hsub hmp hmq ⊢
  simp only [hmp, body, exs, ex, ev, evs, evB, evO, evT, evI, startD, List.map_cons, List.map_nil, List.length_cons, List.length_nil, Nat.reduceAdd, Nat.reduceSub, List.replicate, List.cons_append, List.nil_append, List.append_nil, List.getElem?_cons_zero, List.getElem?_cons_succ, Option.some.injEq, exists_and_left, exists_eq_left', exists_eq_left, exists_eq, ix_tup, at0, at1, at2, op_add', op_sub', op_mul', op_fdiv', op_mod', op_pow', op_addT, cm_lt, cm_le, cm_gt, cm_ge, cm_eq, cm_ne, cm_eqS, cm_neS, onb, oni, yn_gd, yn_cls, Nat.reduceLT, if_true, if_false, true_and, and_true, List.set_cons_zero, List.set_cons_succ, set_nm, set_tup, set_nil, set_cons, ifb, b1_abs, b1_int, b1_intB, b1_lenT, b1_lenL, b1_tupL, b1_tupT, b2_min, b2_max, seq_tup, seq_lst, seq_sq, gd_sq, ix_sq, len_sq, new_t, new_f, gd_tup, gd_lst, ix_lst, ty_int, ty_tup, ty_str, isi_ii, isi_ib, isi_tt, isi_ss, reduceIte, Bool.true_eq_false, Bool.false_eq_true, Bool.not_true, Bool.not_false,  List.zip_cons_cons, List.zip_nil_right, List.foldl_cons, List.foldl_nil, ne_eq, not_false_eq_true, not_true_eq_false, Bool.not_eq_true', decide_eq_false_iff_not, decide_eq_true_eq, reduceCtorEq, List.cons.injEq, and_self, D.ref.injEq, Cell.obj.injEq, D.int.injEq, and_assoc, seq_sts, gd_sts]
  rw [tup_ref hmq]
  exact ⟨m, hsub, q _ _ ok⟩
theorem relsD_mat {S : Sys} {n : Nat} {rels : List (Rl S)} : D.tup (relsD S n rels) = S.mat rels.length n (rlF rels) := by
  unfold relsD Sys.mat rlF
  congr 1
  apply List.ext_getElem?
  intro i
  rw [List.getElem?_map, List.getElem?_map]
  by_cases hi : i < rels.length
  · rw [List.getElem?_range hi, List.getElem?_eq_getElem hi]
    simp [List.getD_eq_getElem?_getD, List.getElem?_eq_getElem hi]
  · rw [List.getElem?_eq_none (by omega), List.getElem?_eq_none (l := List.range _) (by simp; omega)]
    rfl
theorem relsD_len {S : Sys} {n : Nat} {rels : List (Rl S)} : (relsD S n rels).length = rels.length := by unfold relsD; rw [List.length_map]
theorem rl_bt {S : Sys} {w n : Nat} {M : Nat → Nat → S.F} {st : List (Stp S)} {rels : List (Rl S)} (ok : StOk 100 w n n M st rels) : ∀ t, t < rels.length → Bt n (eB 100 (st.length + 1)) (rlF rels t) := fun t ht => by
  unfold rlF
  rw [List.getD_eq_getElem?_getD, List.getElem?_eq_getElem ht]
  exact ok.rsz _ (List.getElem_mem ht)
theorem rl_big {S : Sys} {w n : Nat} {M : Nat → Nat → S.F} {st : List (Stp S)} {rels : List (Rl S)} (ok : StOk 100 w n n M st rels) (h16 : n ≤ 16) : ∀ r ∈ rels, BigRow n r.2 := fun r hr => by
  obtain ⟨d, h0, h1, h2⟩ := ok.rsz r hr
  have hc := ok.cnt
  have rm := (room2 (r := st.length) (k := 0) (by omega)).2.2
  have hp : 2 ^ eB 100 (st.length + 1) < 2 ^ (eB 100 (st.length + 1) + 7) := Nat.pow_lt_pow_right (by decide) (by omega)
  exact ⟨eB 100 (st.length + 1) + 7, d, _, by omega, by omega, h0, by omega, hp, h2⟩
def s_rels : Spec := fun ds m Q => ∃ (k : Ks) (n w : Nat) (M : Nat → Nat → (sys k).F) (st : List (Stp (sys k))) (rels : List (Rl (sys k))), ds = [.int (sys k).by_, (sys k).mat n w M, .tup (relsD (sys k) n rels)] ∧ 1 ≤ n ∧ n ≤ 16 ∧ 1 ≤ w ∧ w ≤ 16 ∧ WfM m ∧ (∀ t, t < n → Sz w (M t)) ∧ StOk 100 w n n M st rels ∧ Q (.bl true) m
end Og.Lk44
end
section
set_option maxHeartbeats 4000000
set_option autoImplicit false
namespace Og.Lk44
open PySem Og
theorem wf_del {M : Mem} {q : Addr} {l : List D} (w : WfM M) (h : M q = some (.lst l)) : WfM (del M q) := fun a C dx fs e => by
  unfold del at e ⊢
  by_cases ea : a = q
  · rw [if_pos ea] at e; cases e
  · rw [if_neg ea] at e
    have z := w a C dx fs e
    rw [if_neg (fun y => by rw [y, h] at z; cases z)]
    exact z
def s_ktold : Spec := fun ds m Q => ∃ (k : Ks) (n w : Nat) (M : Nat → Nat → (sys k).F), ds = [.int (sys k).by_, (sys k).mat n w M] ∧ 1 ≤ n ∧ n ≤ 16 ∧ 1 ≤ w ∧ w ≤ 16 ∧ WfM m ∧ (∀ t, t < n → Sz w (M t)) ∧ Q (.bl true) m
noncomputable def wd (p : Prop) : PySem.Str := @ite _ p (Classical.propDecidable p) "sum" "barred"
theorem wd_t {p : Prop} (h : p) : wd p = "sum" := by unfold wd; rw [if_pos h]
theorem wd_f {p : Prop} (h : ¬p) : wd p = "barred" := by unfold wd; rw [if_neg h]
theorem A1_lt : 251 * A1 ≤ 2 ^ 100 := by
  have hA1 : A1 = 16926659444736 * 42000000000000 := by decide
  rw [hA1]; decide
theorem mat_add {S : Sys} {w n : Nat} {M : Nat → Nat → S.F} {v : Nat → S.F} {m : Mem} {Q : KD} (hn : n ≤ 16) (q : Q (S.mat (n + 1) w (mr n M v)) m) : opD .add (S.mat n w M) (.tup [S.row w v]) m Q := by
  show ((List.range n).map fun i => S.row w (M i)).length + [S.row w v].length ≤ 1000000 ∧ Q (.tup (((List.range n).map fun i => S.row w (M i)) ++ [S.row w v])) m
  refine ⟨by simp; omega, ?_⟩
  have e : S.mat (n + 1) w (mr n M v) = .tup (((List.range n).map fun i => S.row w (M i)) ++ [S.row w v]) := by
    unfold Sys.mat mr
    rw [List.range_succ, List.map_append]
    congr 2
    · exact List.map_congr_left fun i hi => by
        have := List.mem_range.mp hi
        rw [if_neg (by omega)]
    · simp
  rw [← e]; exact q
theorem oth_cut {S : Sys} {n w a : Nat} {M : Nat → Nat → S.F} (h : a < n + 1) : cutD ((List.range (n + 1)).map fun i => S.row w (M i)) none (some (a : Int)) ++ cutD ((List.range (n + 1)).map fun i => S.row w (M i)) (some ((a : Int) + 1)) none = (List.range n).map fun i => S.row w (oth M a i) := by
  generalize hxs : ((List.range (n + 1)).map fun i => S.row w (M i)) = xs
  have hl : xs.length = n + 1 := by rw [← hxs]; simp
  have e1 : cutD xs none (some (a : Int)) = xs.take a := by
    unfold cutD
    rw [HT.sIx_none, HT.sIx_nat, hl, Nat.min_eq_left (by omega), List.drop_zero, Nat.sub_zero]
  have e2 : cutD xs (some ((a : Int) + 1)) none = xs.drop (a + 1) := by
    unfold cutD
    rw [show ((a : Int) + 1) = ((a + 1 : Nat) : Int) from by omega, HT.sIx_none, HT.sIx_nat, hl, Nat.min_eq_left (by omega)]
    exact List.take_of_length_le (by simp [hl])
  rw [e1, e2]
  apply List.ext_getElem?
  intro i
  rw [List.getElem?_map]
  by_cases hi : i < n
  · rw [List.getElem?_range hi]
    rcases Nat.lt_or_ge i a with z | z
    · rw [List.getElem?_append_left (by simp [hl]; omega), List.getElem?_take_of_lt z, ← hxs, List.getElem?_map, List.getElem?_range (by omega)]
      simp only [Option.map_some, oth, if_pos z]
    · rw [List.getElem?_append_right (by simp [hl]; omega), List.length_take, hl, Nat.min_eq_left (by omega), List.getElem?_drop, show a + 1 + (i - a) = i + 1 from by omega, ← hxs, List.getElem?_map, List.getElem?_range (by omega)]
      simp only [Option.map_some, oth, if_neg (show ¬i < a from by omega)]
  · rw [List.getElem?_eq_none (by simp [hl]; omega), List.getElem?_eq_none (by simp; omega)]
    rfl
theorem sl_mat {S : Sys} {n w : Nat} {M : Nat → Nat → S.F} {m : Mem} {lo hi : Option Int} {Q : KD} : slD false m (S.mat n w M) lo hi Q = Q (.tup (cutD ((List.range n).map fun i => S.row w (M i)) lo hi)) m := rfl
theorem in_strs {s : PySem.Str} {l : List PySem.Str} {m : Mem} {Q : KD} (q : Q (.bl (l.any (· == s))) m) : cmpD .in_ (.str s) (.lst (l.map D.str)) m Q := by
  refine ⟨_, rfl, L2.V.str s, l.map L2.V.str, rfl, ?_, ?_⟩
  · rw [List.map_map, List.map_map]; rfl
  · have e : L2.inV (L2.V.str s) (l.map L2.V.str) = l.any (· == s) := by
      unfold L2.inV
      rw [List.any_map]
      rfl
    rw [e]; exact q
theorem cm_neB {a b : Bool} {m : Mem} {Q : KD} (q : Q (.bl (a != b)) m) : cmpD .ne (.bl a) (.bl b) m Q := by
  refine ⟨rfl, rfl, ?_⟩
  cases a <;> cases b <;> exact q
end Og.Lk44
end
section
set_option maxHeartbeats 4000000
set_option autoImplicit false
/-! Og: determinants. -/
namespace Og
open PySem
section
variable {S : Sys} {n : Nat} {M N : Nat → Nat → S.F}
def sgn (S : Sys) : Nat → S.F
  | 0 => 1
  | i + 1 => -(sgn S i)
/-- places but one -/
def sk (p i : Nat) : Nat := if i < p then i else i + 1
def mnr (p : Nat) (M : Nat → Nat → S.F) : Nat → Nat → S.F := fun i j => M (sk p i) (j + 1)
def det : Nat → (Nat → Nat → S.F) → S.F
  | 0, _ => 1
  | n + 1, M => sm (n + 1) fun i => sgn S i * M i 0 * det n (mnr i M)
theorem sk_lt {p i : Nat} (h : i < n) : sk p i < n + 1 := by unfold sk; split <;> omega
theorem det_cg : ∀ {n : Nat} {M N : Nat → Nat → S.F}, (∀ i, i < n → ∀ j, j < n → M i j = N i j) → det n M = det n N
  | 0, _, _, _ => rfl
  | n + 1, M, N, h => by
    simp only [det]
    exact sm_congr fun i hi => by
      have e := det_cg (n := n) (M := mnr i M) (N := mnr i N) fun a ha j hj => h _ (sk_lt ha) _ (by omega)
      rw [h i hi 0 (by omega), e]
def setR (M : Nat → Nat → S.F) (k : Nat) (v : Nat → S.F) : Nat → Nat → S.F := fun i => if i = k then v else M i
theorem setR_same {k : Nat} : setR M k (M k) = M := funext fun i => by
  unfold setR; split
  · rename_i e; rw [e]
  · rfl
theorem setR_at {k : Nat} {v : Nat → S.F} : setR M k v k = v := if_pos rfl
theorem setR_ne {k i : Nat} {v : Nat → S.F} (h : i ≠ k) : setR M k v i = M i := if_neg h
theorem mnr_setR {k i : Nat} {v : Nat → S.F} : mnr k (setR M k v) = mnr k M := funext fun a => funext fun j => by
  unfold mnr
  rw [setR_ne (by unfold sk; split <;> omega)]
theorem mnr_setR2 {k i : Nat} {v : Nat → S.F} (h : i ≠ k) : mnr i (setR M k v) = setR (mnr i M) (if k < i then k else k - 1) (fun j => v (j + 1)) := funext fun a => funext fun j => by
  show (if sk i a = k then v else M (sk i a)) (j + 1) = (if a = (if k < i then k else k - 1) then fun j => v (j + 1) else mnr i M a) j
  have key : (sk i a = k) ↔ (a = if k < i then k else k - 1) := by unfold sk; split <;> split <;> omega
  by_cases y : sk i a = k
  · rw [if_pos y, if_pos (key.mp y)]
  · rw [if_neg y, if_neg (fun z => y (key.mpr z))]; rfl
theorem det_lin : ∀ {n : Nat} {M : Nat → Nat → S.F} {k : Nat} {a b : Nat → S.F} {c : S.F}, k < n → det n (setR M k fun j => a j + c * b j) = det n (setR M k a) + c * det n (setR M k b)
  | 0, _, _, _, _, _, h => by omega
  | n + 1, M, k, a, b, c, h => by
    simp only [det]
    rw [← sm_mul, ← sm_add]
    refine sm_congr fun i hi => ?_
    by_cases e : i = k
    · subst e
      rw [mnr_setR (i := i), mnr_setR (i := i), mnr_setR (i := i), setR_at, setR_at, setR_at]
      grind
    · rw [mnr_setR2 e, mnr_setR2 e, mnr_setR2 e, setR_ne e, setR_ne e, setR_ne e, det_lin (n := n) (by split <;> omega)]
      grind
theorem sm_two {f : Nat → S.F} {p q : Nat} : ∀ {n : Nat}, p < q → q < n → (∀ i, i < n → i ≠ p → i ≠ q → f i = 0) → sm n f = f p + f q
  | 0, _, h, _ => by omega
  | n + 1, hpq, hq, h => by
    simp only [sm]
    by_cases e : q = n
    · subst e
      have : sm q f = sm q fun i => dlt p i * f p := sm_congr fun i hi => by
        unfold dlt
        by_cases z : i = p
        · rw [if_pos z, z]; grind
        · rw [if_neg z, h i (by omega) z (by omega)]; grind
      rw [this, sm_dlt, if_pos hpq]
    · rw [sm_two hpq (by omega) fun i hi => h i (by omega), h n (by omega) (by omega) (by omega)]
      grind
theorem det_adj : ∀ {n : Nat} {M : Nat → Nat → S.F} {k : Nat}, k + 1 < n → (∀ j, j < n → M k j = M (k + 1) j) → det n M = 0
  | 0, _, _, h, _ => by omega
  | n + 1, M, k, h, e => by
    simp only [det]
    rw [sm_two (p := k) (q := k + 1) (by omega) h fun i hi h1 h2 => ?_]
    · have : det n (mnr k M) = det n (mnr (k + 1) M) := det_cg fun a ha j hj => by
        unfold mnr sk
        by_cases z : a < k
        · rw [if_pos z, if_pos (by omega)]
        · rw [if_neg z]
          by_cases y : a < k + 1
          · rw [if_pos y, show a = k from by omega, e (j + 1) (by omega)]
          · rw [if_neg y]
      rw [this, e 0 (by omega)]
      simp only [sgn]
      grind
    · rw [det_adj (n := n) (k := if k < i then k else k - 1) (by split <;> omega) fun j hj => ?_]
      · grind
      · unfold mnr sk
        have e2 := e (j + 1) (by omega)
        by_cases z : k < i
        · rw [if_pos z, if_pos (by omega), if_pos (by omega)]; exact e2
        · rw [if_neg z, if_neg (by omega), if_neg (by omega), show k - 1 + 1 = k from by omega]; exact e2
/-- a form of rows: linear in each, 0 where two neighbours are alike -/
structure Alt (n : Nat) (f : (Nat → Nat → S.F) → S.F) : Prop where
  cg : ∀ {M N : Nat → Nat → S.F}, (∀ i, i < n → ∀ j, j < n → M i j = N i j) → f M = f N
  lin : ∀ {M : Nat → Nat → S.F} {k : Nat} {a b : Nat → S.F} {c : S.F}, k < n → f (setR M k fun j => a j + c * b j) = f (setR M k a) + c * f (setR M k b)
  adj : ∀ {M : Nat → Nat → S.F} {k : Nat}, k + 1 < n → (∀ j, j < n → M k j = M (k + 1) j) → f M = 0
theorem det_alt : Alt n (det (S := S) n) := ⟨det_cg, det_lin, det_adj⟩
def swp (k l : Nat) (M : Nat → Nat → S.F) : Nat → Nat → S.F := fun i => if i = k then M l else if i = l then M k else M i
section
variable {f : (Nat → Nat → S.F) → S.F} (A : Alt n f)
include A
theorem Alt.zero {k : Nat} {v : Nat → S.F} (h : k < n) (hv : ∀ j, j < n → v j = 0) : f (setR M k v) = 0 := by
  have e := A.lin (M := M) (a := v) (b := v) (c := 1) h
  have e2 : f (setR M k fun j => v j + 1 * v j) = f (setR M k v) := A.cg fun i hi j hj => by
    by_cases z : i = k
    · subst z; rw [setR_at, setR_at, hv j hj]; grind
    · rw [setR_ne z, setR_ne z]
  rw [e2] at e
  grind
theorem Alt.scale {k : Nat} {c : S.F} (h : k < n) : f (setR M k fun j => c * M k j) = c * f M := by
  have e := A.lin (M := M) (a := fun _ => 0) (b := M k) (c := c) h
  rw [A.zero h (fun _ _ => rfl), setR_same] at e
  have e2 : (fun j => (0 : S.F) + c * M k j) = fun j => c * M k j := funext fun j => by grind
  rw [e2] at e
  grind
theorem Alt.two {k : Nat} {v w : Nat → S.F} (h : k + 1 < n) : f (setR (setR M k v) (k + 1) w) = -(f (setR (setR M k w) (k + 1) v)) := by
  have lin1 : ∀ {a b w : Nat → S.F}, f (setR (setR M k fun j => a j + 1 * b j) (k + 1) w) = f (setR (setR M k a) (k + 1) w) + 1 * f (setR (setR M k b) (k + 1) w) := fun {a b w} => by
    have sw : ∀ x, setR (setR M k x) (k + 1) w = setR (setR M (k + 1) w) k x := fun x => funext fun i => by
      unfold setR
      by_cases z : i = k
      · rw [if_neg (by omega), if_pos z, if_pos z]
      · rw [if_neg z, if_neg z]
    rw [sw, sw, sw]
    exact A.lin (by omega)
  have lin2 : ∀ {a b x : Nat → S.F}, f (setR (setR M k x) (k + 1) fun j => a j + 1 * b j) = f (setR (setR M k x) (k + 1) a) + 1 * f (setR (setR M k x) (k + 1) b) := A.lin h
  have same : ∀ x : Nat → S.F, f (setR (setR M k x) (k + 1) x) = 0 := fun x => A.adj h fun j _ => by
    rw [setR_ne (by omega), setR_at, setR_at]
  have e := same fun j => v j + 1 * w j
  rw [lin1, lin2, lin2, same, same] at e
  grind
theorem Alt.swap1 {k : Nat} (h : k + 1 < n) : f (swp k (k + 1) M) = -(f M) := by
  have e := A.two (M := M) (v := M (k + 1)) (w := M k) h
  have e1 : setR (setR M k (M (k + 1))) (k + 1) (M k) = swp k (k + 1) M := funext fun i => by
    unfold setR swp
    by_cases z : i = k
    · rw [if_neg (by omega), if_pos z, if_pos z]
    · rw [if_neg z, if_neg z]
  have e2 : setR (setR M k (M k)) (k + 1) (M (k + 1)) = M := by rw [setR_same, setR_same]
  rw [e1, e2] at e
  exact e
theorem Alt.swap : ∀ {d k l : Nat} {M : Nat → Nat → S.F}, l = k + d + 1 → l < n → f (swp k l M) = -(f M)
  | 0, k, l, M, e, h => by
    subst e
    exact A.swap1 h
  | d + 1, k, l, M, e, h => by
    have e1 : swp k l M = swp k (k + 1) (swp (k + 1) l (swp k (k + 1) M)) := funext fun i => by
      unfold swp
      by_cases z : i = k
      · subst z
        rw [if_pos rfl, if_pos rfl, if_pos rfl, if_neg (by omega), if_neg (by omega)]
      · by_cases y : i = k + 1
        · subst y
          rw [if_neg z, if_neg (by omega), if_neg z, if_pos rfl, if_neg (by omega), if_neg (by omega), if_pos rfl]
        · by_cases x : i = l
          · subst x
            rw [if_neg z, if_pos rfl, if_neg z, if_neg y, if_neg y, if_pos rfl, if_neg (by omega), if_pos rfl]
          · rw [if_neg z, if_neg x, if_neg z, if_neg y, if_neg y, if_neg x, if_neg z, if_neg y]
    rw [e1, A.swap1 (by omega), Alt.swap (d := d) (by omega) h, A.swap1 (by omega)]
    grind
theorem Alt.same {k l : Nat} (hk : k < l) (h : l < n) (e : ∀ j, j < n → M k j = M l j) : f M = 0 := by
  by_cases z : l = k + 1
  · subst z
    exact A.adj h e
  · have e1 := A.swap (M := M) (d := l - k - 2) (k := k + 1) (l := l) (by omega) h
    have e2 : f (swp (k + 1) l M) = 0 := A.adj (k := k) (by omega) fun j hj => by
      unfold swp
      rw [if_neg (by omega), if_neg (by omega), if_pos rfl]
      exact e j hj
    rw [e2] at e1
    grind
theorem Alt.same' {k l : Nat} (hkl : k ≠ l) (hk : k < n) (hl : l < n) (e : ∀ j, j < n → M k j = M l j) : f M = 0 := by
  rcases Nat.lt_or_ge k l with z | z
  · exact A.same z hl e
  · exact A.same (k := l) (l := k) (by omega) hk fun j hj => (e j hj).symm
theorem Alt.addRow {k l : Nat} {c : S.F} (hkl : k ≠ l) (hk : k < n) (hl : l < n) : f (setR M k fun j => M k j + c * M l j) = f M := by
  rw [A.lin hk, setR_same, A.same' (M := setR M k (M l)) hkl hk hl fun j _ => by rw [setR_at, setR_ne (Ne.symm hkl)]]
  grind
/-- one row, added to all others -/
theorem Alt.addAll {p : Nat} {c : Nat → S.F} (hp : p < n) : ∀ T, T ≤ n → f (fun i j => if i < T ∧ i ≠ p then M i j + c i * M p j else M i j) = f M
  | 0, _ => A.cg fun i _ j _ => by rw [if_neg (by omega)]
  | T + 1, h => by
    rw [← Alt.addAll (c := c) hp T (by omega)]
    by_cases z : T = p
    · refine A.cg fun i _ j _ => ?_
      by_cases y : i < T ∧ i ≠ p
      · rw [if_pos y, if_pos (by omega)]
      · rw [if_neg y, if_neg (by omega)]
    · rw [← A.addRow (M := fun i j => if i < T ∧ i ≠ p then M i j + c i * M p j else M i j) (k := T) (l := p) (c := c T) z (by omega) hp]
      refine A.cg fun i _ j _ => ?_
      by_cases y : i = T
      · subst y
        rw [setR_at, if_pos (by omega), if_neg (by omega), if_neg (by omega)]
      · rw [setR_ne y]
        by_cases x : i < T ∧ i ≠ p
        · rw [if_pos x, if_pos (by omega)]
        · rw [if_neg x, if_neg (by omega)]
theorem Alt.dep (h : Dep n n M) : f M = 0 := by
  obtain ⟨g, ⟨p, hp, hgp⟩, hg⟩ := h
  have key : ∀ T, T ≤ n → f (setR M p (Og.lin T M g)) = if p < T then g p * f M else 0 := by
    intro T
    induction T with
    | zero => intro _; rw [if_neg (by omega)]; exact A.zero hp fun j _ => rfl
    | succ T ih =>
      intro hT
      have e : Og.lin (T + 1) M g = fun j => Og.lin T M g j + g T * M T j := rfl
      rw [e, A.lin hp, ih (by omega)]
      rcases Nat.lt_trichotomy T p with z | z | z
      · rw [if_neg (by omega), if_neg (by omega), A.same' (M := setR M p (M T)) (k := p) (l := T) (by omega) hp (by omega) fun j _ => by rw [setR_at, setR_ne (by omega)]]
        grind
      · subst z
        rw [if_neg (by omega), if_pos (by omega), setR_same]; grind
      · rw [if_pos (by omega), if_pos (by omega), A.same' (M := setR M p (M T)) (k := p) (l := T) (by omega) hp (by omega) fun j _ => by rw [setR_at, setR_ne (by omega)]]
        grind
  have e := key n (Nat.le_refl _)
  rw [if_pos hp, A.zero hp hg] at e
  have i := S.inv_mul _ hgp
  grind
end
def idm : Nat → Nat → S.F := fun i j => if i = j then 1 else 0
theorem sm_split {f : Nat → S.F} {p : Nat} : ∀ {q : Nat}, sm (p + q) f = sm p f + sm q fun i => f (p + i)
  | 0 => by simp only [Nat.add_zero, sm]; grind
  | q + 1 => by
    rw [← Nat.add_assoc]
    simp only [sm]
    rw [sm_split (q := q)]
    grind
theorem low_dep {p : Nat} (hp : p < n) (h0 : ∀ i, p ≤ i → i < n → ∀ j, j ≤ p → M i j = 0) : Dep n n M := by
  obtain ⟨g, ⟨i, hi, hgi⟩, hg⟩ := homog (n - p - 1) (n - p) (fun i t => M (p + i) (p + 1 + t)) (by omega)
  refine ⟨fun i => if i < p then 0 else g (i - p), ⟨p + i, by omega, by (try dsimp only); rw [if_neg (by omega), show p + i - p = i from by omega]; exact hgi⟩, fun j hj => ?_⟩
  unfold lin
  rw [show n = p + (n - p) from by omega, sm_split, sm_zero fun i hi => by (try dsimp only); rw [if_pos hi]; grind]
  rcases Nat.lt_or_ge p j with z | z
  · have e := hg (j - (p + 1)) (by omega)
    unfold lin at e
    have e2 : (sm (n - p) fun i => (if p + i < p then 0 else g (p + i - p)) * M (p + i) j) = sm (n - p) fun i => g i * M (p + i) (p + 1 + (j - (p + 1))) := sm_congr fun i _ => by
      rw [if_neg (by omega), show p + i - p = i from by omega, show p + 1 + (j - (p + 1)) = j from by omega]
    rw [e2, e]
    grind
  · rw [sm_zero fun i hi => by rw [h0 (p + i) (by omega) (by omega) j z]; grind]
    grind
theorem Alt.nought {f : (Nat → Nat → S.F) → S.F} (A : Alt n f) (h0 : f idm = 0) : ∀ d p, p + d = n → ∀ M : Nat → Nat → S.F, (∀ i, i < n → ∀ j, j < p → M i j = if i = j then 1 else 0) → f M = 0
  | 0, p, e, M, h => by
    rw [← h0]
    exact A.cg fun i hi j hj => h i hi j (by omega)
  | d + 1, p, e, M, h => by
    have hp : p < n := by omega
    by_cases hz : ∀ a, p ≤ a → a < n → M a p = 0
    · refine A.dep (low_dep hp fun i h1 h2 j hj => ?_)
      rcases Nat.lt_or_ge j p with z | z
      · rw [h i h2 j z, if_neg (by omega)]
      · rw [show j = p from by omega]; exact hz i h1 h2
    · have hz' : ∃ a, p ≤ a ∧ a < n ∧ M a p ≠ 0 := Classical.byContradiction fun hn => hz fun a h1 h2 => Classical.byContradiction fun hc => hn ⟨a, h1, h2, hc⟩
      obtain ⟨a, ha1, ha2, hne⟩ := hz'
      -- behind an exchange
      have main : ∀ M1 : Nat → Nat → S.F, (∀ i, i < n → ∀ j, j < p → M1 i j = if i = j then 1 else 0) → M1 p p ≠ 0 → f M1 = 0 := fun M1 h1 hp1 => by
        have i1 := S.inv_mul _ hp1
        generalize hM2 : setR M1 p (fun j => S.inv (M1 p p) * M1 p j) = M2
        have e2 : f M2 = S.inv (M1 p p) * f M1 := by rw [← hM2]; exact A.scale hp
        have r2 : ∀ j, M2 p j = S.inv (M1 p p) * M1 p j := fun j => by rw [← hM2, setR_at]
        have o2 : ∀ i, i ≠ p → M2 i = M1 i := fun i hi => by rw [← hM2, setR_ne hi]
        have e3 := A.addAll (M := M2) (c := fun i => -(M2 i p)) hp n (Nat.le_refl _)
        have e4 : f (fun i j => if i < n ∧ i ≠ p then M2 i j + -(M2 i p) * M2 p j else M2 i j) = 0 := Alt.nought A h0 d (p + 1) (by omega) _ fun i hi j hj => by
          by_cases y : i = p
          · subst y
            rw [if_neg (by omega), r2]
            rcases Nat.lt_or_ge j i with z | z
            · rw [h1 i hi j z, if_neg (by omega)]; grind
            · rw [show j = i from by omega, if_pos rfl, i1]
          · rw [if_pos ⟨hi, y⟩, o2 i y, r2]
            rcases Nat.lt_or_ge j p with z | z
            · rw [h1 p hp j z, if_neg (by omega), h1 i hi j z]; grind
            · rw [show j = p from by omega, i1, if_neg y]; grind
        rw [e4] at e3
        rw [← e3] at e2
        grind
      rcases Nat.eq_or_lt_of_le ha1 with z | z
      · subst z
        exact main M h hne
      · have e1 := A.swap (M := M) (d := a - p - 1) (k := p) (l := a) (by omega) ha2
        have e2 := main (swp p a M) (fun i hi j hj => by
          unfold swp
          by_cases y : i = p
          · rw [if_pos y, h a ha2 j hj, if_neg (by omega), if_neg (by omega)]
          · rw [if_neg y]
            by_cases x : i = a
            · rw [if_pos x, h p hp j hj, if_neg (by omega), if_neg (by omega)]
            · rw [if_neg x]; exact h i hi j hj) (by unfold swp; rw [if_pos rfl]; exact hne)
        rw [e2] at e1
        grind
theorem det_id : ∀ {n : Nat}, det n (idm (S := S)) = 1
  | 0 => rfl
  | n + 1 => by
    simp only [det]
    rw [sm_shift (p := 0) (by omega), sm_zero fun i hi => by
      rw [if_neg (by omega)]
      have : idm (S := S) (i + 1) 0 = 0 := if_neg (by omega)
      rw [this]; grind]
    have e : mnr 0 (idm (S := S)) = idm := funext fun i => funext fun j => by
      show (if sk 0 i = j + 1 then (1 : S.F) else 0) = if i = j then 1 else 0
      have e0 : sk 0 i = i + 1 := if_neg (by omega)
      rw [e0]
      by_cases z : i = j
      · rw [if_pos z, if_pos (by omega)]
      · rw [if_neg z, if_neg (by omega)]
    rw [e, det_id]
    have : idm (S := S) 0 0 = 1 := if_pos rfl
    rw [this]
    simp only [sgn]
    grind
/-- there is one such form, but for a factor -/
theorem Alt.eq {f : (Nat → Nat → S.F) → S.F} (A : Alt n f) : f M = det n M * f idm := by
  have B : Alt n fun M => f M + -(f idm) * det n M := ⟨fun h => by
      (try dsimp only)
      rw [A.cg h, det_cg h], fun h => by
      (try dsimp only)
      rw [A.lin h, det_lin h]; grind, fun h e => by
      (try dsimp only)
      rw [A.adj h e, det_adj h e]; grind⟩
  have z := B.nought (by (try dsimp only); rw [det_id]; grind) n 0 (by omega) M fun i _ j hj => by omega
  try dsimp only at z
  grind
def mulM (n : Nat) (M N : Nat → Nat → S.F) : Nat → Nat → S.F := fun i => lin n N (M i)
theorem mulM_id : ∀ i, i < n → ∀ j, j < n → mulM n idm N i j = N i j := fun i hi j hj => by
  have e : (idm (S := S)) i = dlt i := funext fun t => by
    unfold idm dlt
    by_cases z : i = t
    · rw [if_pos z, if_pos z.symm]
    · rw [if_neg z, if_neg (Ne.symm z)]
  unfold mulM
  rw [e]
  exact lin_dlt hi
theorem det_mul : det n (mulM n M N) = det n M * det n N := by
  have A : Alt n fun M => det n (mulM n M N) := ⟨fun {M M'} h => det_cg fun i hi j hj => sm_congr fun t ht => by rw [h i hi t ht], fun {M k a b c} hk => by
      have e : ∀ v, mulM n (setR M k v) N = setR (mulM n M N) k (lin n N v) := fun v => funext fun i => by
        unfold mulM setR
        split <;> rfl
      (try dsimp only)
      rw [e, e, e]
      have e2 : lin n N (fun j => a j + c * b j) = fun j => lin n N a j + c * lin n N b j := funext fun j => by rw [lin_add, lin_mul]
      rw [e2, det_lin hk], fun {M k} hk h => det_adj hk fun j hj => sm_congr fun t ht => by rw [h t ht]⟩
  have e := A.eq (M := M)
  try dsimp only at e
  rw [e, det_cg (M := mulM n idm N) mulM_id]
/-! ### columns -/
def setC (M : Nat → Nat → S.F) (k : Nat) (v : Nat → S.F) : Nat → Nat → S.F := fun i j => if j = k then v i else M i j
theorem det_clin : ∀ {n : Nat} {M : Nat → Nat → S.F} {k : Nat} {a b : Nat → S.F} {c : S.F}, k < n → det n (setC M k fun j => a j + c * b j) = det n (setC M k a) + c * det n (setC M k b)
  | 0, _, _, _, _, _, h => by omega
  | n + 1, M, 0, a, b, c, h => by
    have e : ∀ i v, mnr i (setC M 0 v) = mnr i M := fun i v => funext fun r => funext fun j => by
      unfold mnr setC
      rw [if_neg (by omega)]
    have e2 : ∀ i v, setC M 0 v i 0 = v i := fun i v => if_pos rfl
    simp only [det, e, e2]
    rw [← sm_mul, ← sm_add]
    exact sm_congr fun i hi => by grind
  | n + 1, M, k + 1, a, b, c, h => by
    have e : ∀ i v, mnr i (setC M (k + 1) v) = setC (mnr i M) k fun r => v (sk i r) := fun i v => funext fun r => funext fun j => by
      unfold mnr setC
      by_cases z : j = k
      · rw [if_pos z, if_pos (by omega)]
      · rw [if_neg z, if_neg (by omega)]
    have e2 : ∀ i v, setC M (k + 1) v i 0 = M i 0 := fun i v => if_neg (by omega)
    simp only [det, e, e2]
    rw [← sm_mul, ← sm_add]
    exact sm_congr fun i hi => by rw [det_clin (n := n) (by omega)]; grind
theorem anti {H : Nat → Nat → S.F} : ∀ {m : Nat}, (∀ i, i < m + 1 → ∀ a, a < i → H i a = -(H a (i - 1))) → sm (m + 1) (fun i => sm m (H i)) = 0
  | 0, _ => by simp only [sm]; grind
  | m + 1, h => by
    have ih := anti (H := H) (m := m) fun i hi a ha => h i (by omega) a ha
    have e1 : sm (m + 1) (fun i => sm (m + 1) (H i)) = sm (m + 1) (fun i => sm m (H i)) + sm (m + 1) (fun i => H i m) := by
      rw [← sm_add]
      exact sm_congr fun i _ => by simp only [sm]
    have e2 : sm (m + 1) (H (m + 1)) = -(sm (m + 1) fun i => H i m) := by
      have z := sm_mul (n := m + 1) (c := (-1 : S.F)) (f := fun i => H i m)
      have z2 : sm (m + 1) (H (m + 1)) = sm (m + 1) fun i => (-1 : S.F) * H i m := sm_congr fun a ha => by
        rw [h (m + 1) (by omega) a ha, Nat.add_sub_cancel]; grind
      rw [z2, z]; grind
    rw [sm, e1, ih, e2]
    grind
theorem sk_sk {a i r : Nat} (h : a < i) : sk i (sk a r) = sk a (sk (i - 1) r) := by
  unfold sk
  split <;> split <;> split <;> (try split) <;> omega
theorem sgn_pred {i : Nat} (h : 0 < i) : sgn S (i - 1) = -(sgn S i) := by
  obtain ⟨j, rfl⟩ : ∃ j, i = j + 1 := ⟨i - 1, by omega⟩
  simp only [Nat.add_sub_cancel, sgn]
  grind
theorem det_cadj : ∀ {n : Nat} {M : Nat → Nat → S.F} {k : Nat}, k + 1 < n → (∀ i, i < n → M i k = M i (k + 1)) → det n M = 0
  | 0, _, _, h, _ => by omega
  | 1, _, _, h, _ => by omega
  | n + 2, M, 0, h, e => by
    have x : det (n + 2) M = sm (n + 2) fun i => sm (n + 1) fun a => sgn S i * M i 0 * (sgn S a * M (sk i a) 0 * det n (mnr a (mnr i M))) := by
      rw [det]
      refine sm_congr fun i hi => ?_
      rw [det, ← sm_mul]
      refine sm_congr fun a ha => ?_
      have : mnr i M a 0 = M (sk i a) 0 := (e (sk i a) (sk_lt ha)).symm
      rw [this]
    rw [x]
    refine anti (m := n + 1) fun i hi a ha => ?_
    have s1 : sk i a = a := if_pos ha
    have s2 : sk a (i - 1) = i := by unfold sk; rw [if_neg (by omega)]; omega
    have m1 : mnr a (mnr i M) = mnr (i - 1) (mnr a M) := funext fun r => funext fun c => by
      unfold mnr
      rw [sk_sk ha]
    rw [s1, s2, m1, sgn_pred (by omega)]
    grind
  | n + 2, M, k + 1, h, e => by
    rw [det]
    exact sm_zero fun i hi => by
      rw [det_cadj (n := n + 1) (k := k) (by omega) fun r hr => e _ (sk_lt hr)]; grind
theorem det_tr : det n (fun i j => M j i) = det n M := by
  have A : Alt n fun M : Nat → Nat → S.F => det n fun i j => M j i := ⟨fun {M M'} h => det_cg fun i hi j hj => h j hj i hi, fun {M k a b c} hk => by
      have e : ∀ v, (fun i j => setR M k v j i) = setC (fun i j => M j i) k v := fun v => funext fun i => funext fun j => by
        unfold setR setC
        by_cases z : j = k
        · rw [if_pos z, if_pos z]
        · rw [if_neg z, if_neg z]
      (try dsimp only)
      rw [e, e, e, det_clin hk], fun {M k} hk h => det_cadj hk h⟩
  have e := A.eq (M := M)
  try dsimp only at e
  have e2 : (fun i j => idm (S := S) j i) = idm := funext fun i => funext fun j => by
    unfold idm
    by_cases z : i = j
    · rw [if_pos z, if_pos z.symm]
    · rw [if_neg z, if_neg (Ne.symm z)]
  rw [e, e2, det_id]
  grind
/-! ### when it is nought -/
theorem span_all (h : ¬Dep n n M) (v : Nat → S.F) : InSpan n n M v := Classical.byContradiction fun hv => by
  obtain ⟨g, ⟨i, hi, hgi⟩, hg⟩ := homog n (n + 1) (mr n M v) (by omega)
  have e1 : ∀ j, lin (n + 1) (mr n M v) g j = lin n M g j + g n * v j := fun j => by
    unfold lin
    rw [sm]
    congr 1
    · exact sm_congr fun t ht => by unfold mr; rw [if_neg (by omega)]
    · unfold mr; rw [if_pos rfl]
  by_cases z : g n = 0
  · refine h ⟨g, ⟨i, ?_, hgi⟩, fun j hj => ?_⟩
    · rcases Nat.lt_or_ge i n with q | q
      · exact q
      · rw [show i = n from by omega] at hgi; exact absurd z hgi
    · have := hg j hj
      rw [e1, z] at this
      grind
  · have iz := S.inv_mul _ z
    refine hv ⟨fun t => -(S.inv (g n)) * g t, fun j hj => ?_⟩
    have := hg j hj
    rw [e1] at this
    rw [lin_mul]
    generalize lin n M g j = x at this
    have h2 : S.inv (g n) * (x + g n * v j) = 0 := by rw [this]; grind
    grind
theorem det_dep : det n M = 0 ↔ Dep n n M := by
  refine ⟨fun h0 => Classical.byContradiction fun hd => ?_, fun h => det_alt.dep h⟩
  have : ∃ C : Nat → Nat → S.F, ∀ i j, j < n → lin n M (C i) j = idm i j := ⟨fun i => Classical.choose (span_all hd (idm i)), fun i j hj => Classical.choose_spec (span_all hd (idm i)) j hj⟩
  obtain ⟨C, hC⟩ := this
  have e : det n (mulM n C M) = 1 := by
    rw [← det_id (S := S) (n := n)]
    exact det_cg fun i _ j hj => hC i j hj
  rw [det_mul, h0] at e
  have o := S.one_ne
  grind
/-! ### triangles -/
def pr : Nat → (Nat → S.F) → S.F
  | 0, _ => 1
  | n + 1, f => pr n f * f n
theorem pr_cg : ∀ {n : Nat} {f g : Nat → S.F}, (∀ i, i < n → f i = g i) → pr n f = pr n g
  | 0, _, _, _ => rfl
  | n + 1, f, g, h => by
    simp only [pr]
    rw [pr_cg fun i hi => h i (by omega), h n (by omega)]
def low (p : Nat) (L : Nat → Nat → S.F) : Nat → Nat → S.F := fun i j => L (i + p) (j + p)
theorem det_low {L : Nat → Nat → S.F} : ∀ {p q : Nat}, p + q = n → (∀ j, j < p → ∀ i, j < i → i < n → L i j = 0) → det n L = pr p (fun i => L i i) * det q (low p L)
  | 0, q, e, _ => by
    simp only [pr]
    rw [show q = n from by omega]
    have : low 0 L = L := rfl
    rw [this]; grind
  | p + 1, q, e, h => by
    rw [det_low (p := p) (q := q + 1) (by omega) fun j hj => h j (by omega)]
    simp only [pr, det]
    rw [sm_shift (p := 0) (by omega), sm_zero fun i hi => by
      rw [if_neg (by omega)]
      have : low p L (i + 1) 0 = 0 := h (0 + p) (by omega) (i + 1 + p) (by omega) (by omega)
      rw [this]; grind]
    have e1 : mnr 0 (low p L) = low (p + 1) L := funext fun i => funext fun j => by
      unfold mnr low sk
      rw [if_neg (by omega), show i + 1 + p = i + (p + 1) from by omega, show j + 1 + p = j + (p + 1) from by omega]
    have e2 : low p L 0 0 = L p p := by unfold low; rw [Nat.zero_add]
    rw [e1, e2]
    simp only [sgn]
    grind
theorem det_col {L : Nat → Nat → S.F} {p : Nat} (hp : p < n) (h : ∀ j, j < p → ∀ i, j < i → i < n → L i j = 0) (hz : ∀ i, p ≤ i → i < n → L i p = 0) : det n L = 0 := by
  refine det_dep.mpr (low_dep hp fun i h1 h2 j hj => ?_)
  rcases Nat.lt_or_ge j p with z | z
  · exact h j z i (by omega) h2
  · rw [show j = p from by omega]; exact hz i h1 h2
/-! ### sizes -/
def dB (B : Nat) : Nat → Nat
  | 0 => 1
  | n + 1 => (n + 1) * (B * dB B n)
theorem sgn_cd {d a i : Nat} {x : S.F} (h : S.cd d a x) : S.cd d a (sgn S i * x) := by
  induction i with
  | zero =>
    simp only [sgn]
    have e : (1 : S.F) * x = x := by grind
    rw [e]; exact h
  | succ i ih =>
    simp only [sgn]
    have e : -(sgn S i) * x = -(sgn S i * x) := by grind
    rw [e]; exact S.cd_neg ih
theorem det_cd {d B : Nat} : ∀ {n : Nat} {M : Nat → Nat → S.F}, (∀ i, i < n → ∀ j, j < n → S.cd d B (M i j)) → S.cd (d ^ n) (dB B n) (det n M)
  | 0, _, _ => S.cd_one
  | n + 1, M, h => by
    simp only [det, dB]
    refine sm_cd fun i hi => ?_
    have e := S.cd_mul (h i hi 0 (by omega)) (det_cd (n := n) (M := mnr i M) fun a ha j hj => h _ (sk_lt ha) _ (by omega))
    rw [Nat.pow_succ, Nat.mul_comm (d ^ n) d]
    have e2 : sgn S i * M i 0 * det n (mnr i M) = sgn S i * (M i 0 * det n (mnr i M)) := by grind
    rw [e2]
    exact sgn_cd e
end
end Og
end
section
set_option maxHeartbeats 4000000
set_option autoImplicit false
/-! Og: elimination, place by place. -/
namespace Og
open PySem
section
variable {S : Sys} {n : Nat} {M L : Nat → Nat → S.F}
def Bs (b : Nat) (x : S.F) : Prop := ∃ d, 0 < d ∧ d ≤ 2 ^ b ∧ S.cd d (2 ^ b) x
theorem Bs.sm {b : Nat} {x : S.F} (h : Bs b x) (hb : b + 7 ≤ 2 ^ 26) : S.Sm x := by
  obtain ⟨d, h0, h1, h2⟩ := h
  have e : (2 : Nat) ^ b < 2 ^ (b + 7) := Nat.pow_lt_pow_right (by decide) (by omega)
  exact Sm_of h2 h0 (n := b + 7) (by omega) e (by omega) hb
theorem Bs.mono {b c : Nat} {x : S.F} (h : Bs b x) (hb : b ≤ c) : Bs c x := by
  obtain ⟨d, h0, h1, h2⟩ := h
  have e : (2 : Nat) ^ b ≤ 2 ^ c := Nat.pow_le_pow_right (by decide) hb
  exact ⟨d, h0, by omega, S.cd_le h2 e⟩
theorem Bs.neg {b : Nat} {x : S.F} (h : Bs b x) : Bs b (-x) := by
  obtain ⟨d, h0, h1, h2⟩ := h
  exact ⟨d, h0, h1, S.cd_neg h2⟩
theorem Bs.mul {b c : Nat} {x y : S.F} (h : Bs b x) (h' : Bs c y) : Bs (b + c) (x * y) := by
  obtain ⟨d, h0, h1, h2⟩ := h
  obtain ⟨e, k0, k1, k2⟩ := h'
  refine ⟨d * e, Nat.mul_pos h0 k0, by rw [Nat.pow_add]; exact Nat.mul_le_mul h1 k1, ?_⟩
  rw [Nat.pow_add]
  exact S.cd_mul h2 k2
theorem Bt.at_ {w b j : Nat} {v : Nat → S.F} (h : Bt w b v) (hj : j < w) : Bs b (v j) := by
  obtain ⟨d, h0, h1, h2⟩ := h
  exact ⟨d, h0, h1, h2 j hj⟩
theorem Bt.elim {w b p : Nat} {v u : Nat → S.F} (h : Bt w b v) (h' : Bt w b u) (hp : p < w) (h0 : u p ≠ 0) :
    Bt w (2 * b + 1) (fun j => v j + -(S.inv (u p) * v p) * u j) ∧ Bs (2 * b) (S.inv (u p)) ∧ Bs (2 * b) (S.inv (u p) * v p) ∧ ∀ j, j < w → Bs (2 * b) (-(S.inv (u p) * v p) * u j) ∧ Bs (2 * b) (S.inv (u p) * v p * u j) := by
  obtain ⟨dv, v0, v1, v2⟩ := h
  obtain ⟨du, u0, u1, u2⟩ := h'
  obtain ⟨e, e0, e1, e2⟩ := S.cd_div u0 (u2 p hp) h0
  have one : 1 ≤ 2 ^ b := Nat.one_le_two_pow
  rw [Nat.max_eq_left one] at e1
  have p2 : (2 : Nat) ^ (2 * b) = 2 ^ b * 2 ^ b := by rw [Nat.two_mul, Nat.pow_add]
  have p3 : (2 : Nat) ^ (2 * b + 1) = 2 ^ b * 2 ^ b * 2 := by rw [Nat.pow_succ, p2]
  have q1 : dv * e ≤ 2 ^ b * 2 ^ b := Nat.mul_le_mul v1 e1
  have q2 : 2 ^ b * e ≤ 2 ^ b * 2 ^ b := Nat.mul_le_mul_left _ e1
  have q3 : 2 ^ b * 1 ≤ 2 ^ b * 2 ^ b := Nat.mul_le_mul_left _ one
  have pr : ∀ j, j < w → S.cd (dv * e) (2 ^ b * 2 ^ b) (S.inv (u p) * v p * u j) := fun j hj => by
    have := S.cd_mul (v2 p hp) (e2 _ _ (u2 j hj))
    have e3 : v p * (S.inv (u p) * u j) = S.inv (u p) * v p * u j := by grind
    rw [e3] at this; exact this
  have prn : ∀ j, j < w → S.cd (dv * e) (2 ^ b * 2 ^ b) (-(S.inv (u p) * v p) * u j) := fun j hj => by
    have := S.cd_neg (pr j hj)
    have e3 : -(S.inv (u p) * v p * u j) = -(S.inv (u p) * v p) * u j := by grind
    rw [e3] at this; exact this
  have i1 : S.cd e (2 ^ b) (S.inv (u p)) := by
    have := e2 _ _ (S.cd_one (d := du))
    have e3 : S.inv (u p) * 1 = S.inv (u p) := by grind
    rw [e3] at this
    exact S.cd_le this u1
  refine ⟨⟨dv * e, Nat.mul_pos v0 e0, by omega, fun j hj => S.cd_le (S.cd_add (S.cd_up e (v2 j hj)) (prn j hj)) (by omega)⟩, ⟨e, e0, by omega, S.cd_le i1 (by omega)⟩, ?_, fun j hj => ⟨⟨dv * e, Nat.mul_pos v0 e0, by omega, by rw [p2]; exact prn j hj⟩, ⟨dv * e, Nat.mul_pos v0 e0, by omega, by rw [p2]; exact pr j hj⟩⟩⟩
  refine ⟨e * dv, Nat.mul_pos e0 v0, by rw [p2]; exact Nat.mul_le_mul e1 v1, ?_⟩
  rw [p2]
  exact S.cd_mul i1 (v2 p hp)
/-- what is known ahead of place p -/
structure El {S : Sys} (b n p : Nat) (M L : Nat → Nat → S.F) (x : S.F) : Prop where
  low : ∀ j, j < p → ∀ i, j < i → i < n → L i j = 0
  st : ∃ s : S.F, det n M = s * det n L ∧ x = s * pr p fun i => L i i
  sz : ∀ i, i < n → Bt n (sB b p) (L i)
  xs : Bs (sB b p) x
theorem El.start {b : Nat} (hM : ∀ i, i < n → Bt n b (M i)) : El b n 0 M M 1 where
  low := fun j h => by omega
  st := ⟨1, by grind, by simp only [pr]; grind⟩
  sz := hM
  xs := ⟨1, by decide, Nat.one_le_two_pow, S.cd_le S.cd_one Nat.one_le_two_pow⟩
theorem El.done {b : Nat} {x : S.F} (h : El b n n M L x) : x = det n M := by
  obtain ⟨s, h1, h2⟩ := h.st
  rw [h1, h2, det_low (p := n) (q := 0) (by omega) h.low]
  simp only [det]
  grind
theorem El.stop {b p : Nat} {x : S.F} (h : El b n p M L x) (hp : p < n) (hz : ∀ i, p ≤ i → i < n → L i p = 0) : det n M = 0 := by
  obtain ⟨s, h1, _⟩ := h.st
  rw [h1, det_col hp h.low hz]
  grind
theorem El.swap {b p a : Nat} {x : S.F} (h : El b n p M L x) (hp : p < a) (ha : a < n) : El b n p M (swp p a L) (-x) where
  low := fun j hj i hi hn => by
    unfold swp
    by_cases y : i = p
    · rw [if_pos y]; exact h.low j hj a (by omega) ha
    · rw [if_neg y]
      by_cases z : i = a
      · rw [if_pos z]; exact h.low j hj p hj (by omega)
      · rw [if_neg z]; exact h.low j hj i hi hn
  st := by
    obtain ⟨s, h1, h2⟩ := h.st
    refine ⟨-s, ?_, ?_⟩
    · rw [h1, det_alt.swap (M := L) (d := a - p - 1) (k := p) (l := a) (by omega) ha]; grind
    · have e : pr p (fun i => swp p a L i i) = pr p fun i => L i i := pr_cg fun i hi => by
        unfold swp
        rw [if_neg (by omega), if_neg (by omega)]
      rw [h2, e]; grind
  sz := fun i hi => by
    unfold swp
    by_cases y : i = p
    · rw [if_pos y]; exact h.sz a ha
    · rw [if_neg y]
      by_cases z : i = a
      · rw [if_pos z]; exact h.sz p (by omega)
      · rw [if_neg z]; exact h.sz i hi
  xs := h.xs.neg
/-- the rows beneath, up to T, less what makes them 0 at p -/
def elr (p T : Nat) (L : Nat → Nat → S.F) : Nat → Nat → S.F := fun i => if p < i ∧ i < T then fun j => L i j + -(S.inv (L p p) * L i p) * L p j else L i
theorem elr_start {p : Nat} : elr p (p + 1) L = L := funext fun i => by
  unfold elr
  rw [if_neg (by omega)]
theorem elr_p {p T : Nat} : elr p T L p = L p := by
  unfold elr
  rw [if_neg (by omega)]
theorem elr_at {p T : Nat} : elr p T L T = L T := by
  unfold elr
  rw [if_neg (by omega)]
theorem elr_step {p T i : Nat} (h : p < T) : elr p (T + 1) L i = if i = T then fun j => L T j + -(S.inv (L p p) * L T p) * L p j else elr p T L i := by
  unfold elr
  by_cases y : i = T
  · subst y
    rw [if_pos (by omega), if_pos rfl]
  · rw [if_neg y]
    by_cases z : p < i ∧ i < T
    · rw [if_pos (by omega), if_pos z]
    · rw [if_neg (by omega), if_neg z]
theorem El.next {b p : Nat} {x : S.F} (h : El b n p M L x) (hp : p < n) (h0 : L p p ≠ 0) : El b n (p + 1) M (elr p n L) (x * L p p) where
  low := fun j hj i hi hn => by
    have i1 := S.inv_mul _ h0
    unfold elr
    by_cases y : p < i ∧ i < n
    · rw [if_pos y]
      (try dsimp only)
      rcases Nat.lt_or_ge j p with z | z
      · rw [h.low j z i hi hn, h.low j z p z hp]; grind
      · rw [show j = p from by omega]; grind
    · rw [if_neg y]; exact h.low j (by omega) i hi hn
  st := by
    obtain ⟨s, h1, h2⟩ := h.st
    refine ⟨s, ?_, ?_⟩
    · have e := det_alt.addAll (M := L) (c := fun i => if p < i then -(S.inv (L p p) * L i p) else 0) hp n (Nat.le_refl _)
      have e2 : det n (elr p n L) = det n (fun i j => if i < n ∧ i ≠ p then L i j + (if p < i then -(S.inv (L p p) * L i p) else 0) * L p j else L i j) := det_cg fun i hi j _ => by
        unfold elr
        by_cases y : p < i
        · rw [if_pos ⟨y, hi⟩, if_pos ⟨hi, by omega⟩, if_pos y]
        · rw [if_neg (by omega), if_neg y]
          by_cases z : i < n ∧ i ≠ p
          · rw [if_pos z]; grind
          · rw [if_neg z]
      rw [h1, e2, e]
    · have e : pr (p + 1) (fun i => elr p n L i i) = pr (p + 1) fun i => L i i := pr_cg fun i hi => by
        unfold elr
        rw [if_neg (by omega)]
      rw [e, h2]
      simp only [pr]
      grind
  sz := fun i hi => by
    unfold elr
    by_cases y : p < i ∧ i < n
    · rw [if_pos y]
      exact ((h.sz i hi).elim (h.sz p hp) hp h0).1
    · rw [if_neg y]
      exact (h.sz i hi).mono (by simp only [sB]; omega)
  xs := (h.xs.mul ((h.sz p hp).at_ hp)).mono (by simp only [sB]; omega)
end
theorem rg_from {p n : Nat} (h : p ≤ n) : rgD (p : Int) (n : Int) = (List.range' p (n - p)).map fun i => D.int ((i : Nat) : Int) := by
  unfold rgD
  rw [List.range'_eq_map_range, List.map_map, show ((n : Int) - (p : Int)).toNat = n - p from by omega]
  exact List.map_congr_left fun i _ => by simp
theorem eq_nilL {m : Mem} {l : List D} {Q : KD} (hf : flats 39 l = true) : cmpD .eq (.lst l) (.lst []) m Q = Q (.bl l.isEmpty) m := by
  show (D.flat 40 (.lst l) = true ∧ D.flat 40 (.lst []) = true ∧ Q (.bl (PyData.eqv (D.lst l).toP (D.lst []).toP)) m) = _
  have f1 : D.flat 40 (.lst l) = true := hf
  have e2 : PyData.eqv (D.lst l).toP (D.lst []).toP = l.isEmpty := by
    simp only [D.toP]
    cases l with
    | nil => rfl
    | cons d l => simp only [toPs, PyData.eqv, PyData.eqvAll, List.isEmpty_cons]
  rw [f1, e2]
  simp [D.flat, flats]
/-- a list's items, one written -/
theorem map_set {f : Nat → D} {n a : Nat} {d : D} : ((List.range n).map f).set a d = (List.range n).map fun i => if i = a then d else f i := by
  apply List.ext_getElem?
  intro i
  rw [List.getElem?_map, List.getElem?_set]
  by_cases hi : i < n
  · rw [List.getElem?_range hi]
    by_cases e : a = i
    · subst e
      simp [hi]
    · rw [if_neg e, List.getElem?_map, List.getElem?_range hi]
      simp [Ne.symm e]
  · rw [List.getElem?_eq_none (l := List.range n) (by simp; omega)]
    by_cases e : a = i
    · subst e
      simp [hi]
    · rw [if_neg e, List.getElem?_map, List.getElem?_eq_none (l := List.range n) (by simp; omega)]
      rfl
theorem ix_cell {m : Mem} {r : Addr} {n i : Nat} {f : Nat → D} {Q : KD} (h : m r = some (.lst ((List.range n).map f))) (hi : i < n) : ixD m (.ref r) (.int (i : Nat)) Q = Q (f i) m := by
  have e := ix_ref (m := m) (Q := Q) (a := (i : Int)) h
  refine e.trans ?_
  rw [atI_nat, List.getElem?_map, List.getElem?_range hi]
  simp
theorem ixN_nat {N i : Nat} (h : i < N) : L2.ixN N (i : Int) = some i := by
  unfold L2.ixN
  rw [if_pos (by omega), if_pos (by omega)]
  rfl
end Og
end
section
set_option maxHeartbeats 4000000
set_option autoImplicit false
namespace Og.Lk44
open PySem Og
def s_det : Spec := fun ds m Q => ∃ (k : Ks) (n b : Nat) (M : Nat → Nat → (sys k).F), ds = [.int (sys k).by_, (sys k).mat n n M] ∧ 1 ≤ n ∧ n ≤ 16 ∧ WfM m ∧ sB b (n + 1) + 7 ≤ 2 ^ 26 ∧ (∀ i, i < n → Bt n b (M i)) ∧ Q ((sys k).d (det n M)) m
def rowsD (S : Sys) (n : Nat) (L : Nat → Nat → S.F) : List D := (List.range n).map fun i => S.row n (L i)
def bDet : List S := match (c33[3]? : Option S) with
  | some (S.for_ _ _ b) => b
  | _ => []
theorem c_det : c33 = c33.take 3 ++ (.for_ (.nm 4) (.rg1 (.b1 .len (.x 1))) bDet :: c33.drop 4) := rfl
/-- behind the exchange -/
theorem det_tail {X : Ctx} (hn : X.fn 30 = s_neg) (ht : X.fn 28 = s_num_times) (htu : X.fn 29 = s_turned) (hr : X.fn 32 = s_row_plus) {k : Ks} {n b p : Nat} {M L : Nat → Nat → (sys k).F} {x : (sys k).F} {r : Addr} {m : Mem} {o1 o5 o6 o7 o8 o9 : Option D} {N bk : KR} {rt : KD}
    (n2 : n ≤ 16) (room : sB b (n + 1) + 7 ≤ 2 ^ 26) (hp : p < n) (el : El b n p M L x) (h0 : L p p ≠ 0)
    (kN : ∀ (L2 : Nat → Nat → (sys k).F) (x2 : (sys k).F) (o7 o8 o9 : Option D), El b n (p + 1) M L2 x2 → N [some (.int (sys k).by_), o1, some (.ref r), some ((sys k).d x2), some (.int (p : Int)), o5, o6, o7, o8, o9] (put m r (.lst (rowsD (sys k) n L2)))) :
    exs X (bDet.drop 4) [some (.int (sys k).by_), o1, some (.ref r), some ((sys k).d x), some (.int (p : Int)), o5, o6, o7, o8, o9] (put m r (.lst (rowsD (sys k) n L))) { nx := N, ct := N, bk := bk, rt := rt } := by
  have hmr : ∀ L : Nat → Nat → (sys k).F, put m r (.lst (rowsD (sys k) n L)) r = some (.lst ((List.range n).map fun i => (sys k).row n (L i))) := fun L => put_same
  have hlen : ∀ L : Nat → Nat → (sys k).F, ((List.range n).map fun i => (sys k).row n (L i)).length = n := fun L => by simp
  have rm : sB b p + 7 ≤ 2 ^ 26 := Nat.le_trans (Nat.add_le_add_right (sB_mono (by omega)) _) room
  have rm2 : 2 * sB b p + 1 + 7 ≤ 2 ^ 26 := Nat.le_trans (Nat.add_le_add_right (sB_mono (i := p + 1) (by omega)) _) room
  simp only [bDet, c33, List.drop, List.getElem?_cons_succ, List.getElem?_cons_zero, hn, ht, htu, hr, body, exs, ex, ev, evs, evB, evO, evT, evI, startD, List.map_cons, List.map_nil, List.length_cons, List.length_nil, Nat.reduceAdd, Nat.reduceSub, List.replicate, List.cons_append, List.nil_append, List.append_nil, List.getElem?_cons_zero, List.getElem?_cons_succ, Option.some.injEq, exists_and_left, exists_eq_left', exists_eq_left, exists_eq, ix_tup, at0, at1, at2, op_add', op_sub', op_mul', op_fdiv', op_mod', op_pow', op_addT, cm_lt, cm_le, cm_gt, cm_ge, cm_eq, cm_ne, cm_eqS, cm_neS, onb, oni, yn_gd, yn_cls, Nat.reduceLT, if_true, if_false, true_and, and_true, List.set_cons_zero, List.set_cons_succ, set_nm, set_tup, set_nil, set_cons, ifb, b1_abs, b1_int, b1_intB, b1_lenT, b1_lenL, b1_tupL, b1_tupT, b2_min, b2_max, seq_tup, seq_lst, seq_sq, gd_sq, ix_sq, len_sq, new_t, new_f, gd_tup, gd_lst, ix_lst, ty_int, ty_tup, ty_str, isi_ii, isi_ib, isi_tt, isi_ss, reduceIte, Bool.true_eq_false, Bool.false_eq_true, Bool.not_true, Bool.not_false,  List.zip_cons_cons, List.zip_nil_right, List.foldl_cons, List.foldl_nil, ne_eq, not_false_eq_true, not_true_eq_false, Bool.not_eq_true', decide_eq_false_iff_not, decide_eq_true_eq, reduceCtorEq, List.cons.injEq, and_self, D.ref.injEq, Cell.obj.injEq, D.int.injEq]
  rw [ix_cell (hmr L) hp, row_get hp]
  refine ⟨k, _, _, rfl, Sm.two (el.xs.sm rm) (((el.sz p hp).at_ hp).sm rm), ?_⟩
  try simp only [body, exs, ex, ev, evs, evB, evO, evT, evI, startD, List.map_cons, List.map_nil, List.length_cons, List.length_nil, Nat.reduceAdd, Nat.reduceSub, List.replicate, List.cons_append, List.nil_append, List.append_nil, List.getElem?_cons_zero, List.getElem?_cons_succ, Option.some.injEq, exists_and_left, exists_eq_left', exists_eq_left, exists_eq, ix_tup, at0, at1, at2, op_add', op_sub', op_mul', op_fdiv', op_mod', op_pow', op_addT, cm_lt, cm_le, cm_gt, cm_ge, cm_eq, cm_ne, cm_eqS, cm_neS, onb, oni, yn_gd, yn_cls, Nat.reduceLT, if_true, if_false, true_and, and_true, List.set_cons_zero, List.set_cons_succ, set_nm, set_tup, set_nil, set_cons, ifb, b1_abs, b1_int, b1_intB, b1_lenT, b1_lenL, b1_tupL, b1_tupT, b2_min, b2_max, seq_tup, seq_lst, seq_sq, gd_sq, ix_sq, len_sq, new_t, new_f, gd_tup, gd_lst, ix_lst, ty_int, ty_tup, ty_str, isi_ii, isi_ib, isi_tt, isi_ss, reduceIte, Bool.true_eq_false, Bool.false_eq_true, Bool.not_true, Bool.not_false,  List.zip_cons_cons, List.zip_nil_right, List.foldl_cons, List.foldl_nil, ne_eq, not_false_eq_true, not_true_eq_false, Bool.not_eq_true', decide_eq_false_iff_not, decide_eq_true_eq, reduceCtorEq, List.cons.injEq, and_self, D.ref.injEq, Cell.obj.injEq, D.int.injEq]
  rw [ix_cell (hmr L) hp, row_get hp]
  refine ⟨k, _, rfl, h0, ?_⟩
  try simp only [body, exs, ex, ev, evs, evB, evO, evT, evI, startD, List.map_cons, List.map_nil, List.length_cons, List.length_nil, Nat.reduceAdd, Nat.reduceSub, List.replicate, List.cons_append, List.nil_append, List.append_nil, List.getElem?_cons_zero, List.getElem?_cons_succ, Option.some.injEq, exists_and_left, exists_eq_left', exists_eq_left, exists_eq, ix_tup, at0, at1, at2, op_add', op_sub', op_mul', op_fdiv', op_mod', op_pow', op_addT, cm_lt, cm_le, cm_gt, cm_ge, cm_eq, cm_ne, cm_eqS, cm_neS, onb, oni, yn_gd, yn_cls, Nat.reduceLT, if_true, if_false, true_and, and_true, List.set_cons_zero, List.set_cons_succ, set_nm, set_tup, set_nil, set_cons, ifb, b1_abs, b1_int, b1_intB, b1_lenT, b1_lenL, b1_tupL, b1_tupT, b2_min, b2_max, seq_tup, seq_lst, seq_sq, gd_sq, ix_sq, len_sq, new_t, new_f, gd_tup, gd_lst, ix_lst, ty_int, ty_tup, ty_str, isi_ii, isi_ib, isi_tt, isi_ss, reduceIte, Bool.true_eq_false, Bool.false_eq_true, Bool.not_true, Bool.not_false,  List.zip_cons_cons, List.zip_nil_right, List.foldl_cons, List.foldl_nil, ne_eq, not_false_eq_true, not_true_eq_false, Bool.not_eq_true', decide_eq_false_iff_not, decide_eq_true_eq, reduceCtorEq, List.cons.injEq, and_self, D.ref.injEq, Cell.obj.injEq, D.int.injEq]
  rw [len_ref (hmr L), hlen]
  try simp only [body, exs, ex, ev, evs, evB, evO, evT, evI, startD, List.map_cons, List.map_nil, List.length_cons, List.length_nil, Nat.reduceAdd, Nat.reduceSub, List.replicate, List.cons_append, List.nil_append, List.append_nil, List.getElem?_cons_zero, List.getElem?_cons_succ, Option.some.injEq, exists_and_left, exists_eq_left', exists_eq_left, exists_eq, ix_tup, at0, at1, at2, op_add', op_sub', op_mul', op_fdiv', op_mod', op_pow', op_addT, cm_lt, cm_le, cm_gt, cm_ge, cm_eq, cm_ne, cm_eqS, cm_neS, onb, oni, yn_gd, yn_cls, Nat.reduceLT, if_true, if_false, true_and, and_true, List.set_cons_zero, List.set_cons_succ, set_nm, set_tup, set_nil, set_cons, ifb, b1_abs, b1_int, b1_intB, b1_lenT, b1_lenL, b1_tupL, b1_tupT, b2_min, b2_max, seq_tup, seq_lst, seq_sq, gd_sq, ix_sq, len_sq, new_t, new_f, gd_tup, gd_lst, ix_lst, ty_int, ty_tup, ty_str, isi_ii, isi_ib, isi_tt, isi_ss, reduceIte, Bool.true_eq_false, Bool.false_eq_true, Bool.not_true, Bool.not_false,  List.zip_cons_cons, List.zip_nil_right, List.foldl_cons, List.foldl_nil, ne_eq, not_false_eq_true, not_true_eq_false, Bool.not_eq_true', decide_eq_false_iff_not, decide_eq_true_eq, reduceCtorEq, List.cons.injEq, and_self, D.ref.injEq, Cell.obj.injEq, D.int.injEq]
  refine ⟨⟨by omega, by omega⟩, ⟨by omega, by omega⟩, by omega, ?_⟩
  rw [show ((p : Int) + 1) = ((p + 1 : Nat) : Int) from by omega, rg_from (by omega)]
  refine for_inv _ (fun t r' m' => ∃ (o8 o9 : Option D), r' = [some (.int (sys k).by_), o1, some (.ref r), some ((sys k).d (x * L p p)), some (.int (p : Int)), o5, o6, some ((sys k).d ((sys k).inv (L p p))), o8, o9] ∧ m' = put m r (.lst (rowsD (sys k) n (elr p (p + 1 + t) L)))) (List.range' (p + 1) (n - (p + 1))) 0 _ _ ⟨_, _, rfl, by rw [Nat.add_zero, elr_start]⟩ ?_ ?_
  · rintro t hT r' m' N' ⟨o8, o9, rfl, rfl⟩ kN'
    have hT' : t < n - (p + 1) := by simpa using hT
    have e : ∀ h, (List.range' (p + 1) (n - (p + 1)))[t]'h = p + 1 + t := fun h => by simp
    simp only [Nat.zero_add] at kN' ⊢
    simp only [e, body, exs, ex, ev, evs, evB, evO, evT, evI, startD, List.map_cons, List.map_nil, List.length_cons, List.length_nil, Nat.reduceAdd, Nat.reduceSub, List.replicate, List.cons_append, List.nil_append, List.append_nil, List.getElem?_cons_zero, List.getElem?_cons_succ, Option.some.injEq, exists_and_left, exists_eq_left', exists_eq_left, exists_eq, ix_tup, at0, at1, at2, op_add', op_sub', op_mul', op_fdiv', op_mod', op_pow', op_addT, cm_lt, cm_le, cm_gt, cm_ge, cm_eq, cm_ne, cm_eqS, cm_neS, onb, oni, yn_gd, yn_cls, Nat.reduceLT, if_true, if_false, true_and, and_true, List.set_cons_zero, List.set_cons_succ, set_nm, set_tup, set_nil, set_cons, ifb, b1_abs, b1_int, b1_intB, b1_lenT, b1_lenL, b1_tupL, b1_tupT, b2_min, b2_max, seq_tup, seq_lst, seq_sq, gd_sq, ix_sq, len_sq, new_t, new_f, gd_tup, gd_lst, ix_lst, ty_int, ty_tup, ty_str, isi_ii, isi_ib, isi_tt, isi_ss, reduceIte, Bool.true_eq_false, Bool.false_eq_true, Bool.not_true, Bool.not_false,  List.zip_cons_cons, List.zip_nil_right, List.foldl_cons, List.foldl_nil, ne_eq, not_false_eq_true, not_true_eq_false, Bool.not_eq_true', decide_eq_false_iff_not, decide_eq_true_eq, reduceCtorEq, List.cons.injEq, and_self, D.ref.injEq, Cell.obj.injEq, D.int.injEq]
    generalize hi : p + 1 + t = i at kN' ⊢
    have hin : i < n := by omega
    obtain ⟨s1, s2, s3, s4⟩ := (el.sz i hin).elim (el.sz p hp) hp h0
    rw [ix_cell (hmr _) hin, row_get hp]
    have ei : elr p i L i = L i := elr_at
    have ep : elr p i L p = L p := elr_p
    rw [ei]
    refine ⟨k, _, _, rfl, Sm.two (s2.sm (by omega)) (((el.sz i hin).at_ hp).sm rm), ?_⟩
    try simp only [body, exs, ex, ev, evs, evB, evO, evT, evI, startD, List.map_cons, List.map_nil, List.length_cons, List.length_nil, Nat.reduceAdd, Nat.reduceSub, List.replicate, List.cons_append, List.nil_append, List.append_nil, List.getElem?_cons_zero, List.getElem?_cons_succ, Option.some.injEq, exists_and_left, exists_eq_left', exists_eq_left, exists_eq, ix_tup, at0, at1, at2, op_add', op_sub', op_mul', op_fdiv', op_mod', op_pow', op_addT, cm_lt, cm_le, cm_gt, cm_ge, cm_eq, cm_ne, cm_eqS, cm_neS, onb, oni, yn_gd, yn_cls, Nat.reduceLT, if_true, if_false, true_and, and_true, List.set_cons_zero, List.set_cons_succ, set_nm, set_tup, set_nil, set_cons, ifb, b1_abs, b1_int, b1_intB, b1_lenT, b1_lenL, b1_tupL, b1_tupT, b2_min, b2_max, seq_tup, seq_lst, seq_sq, gd_sq, ix_sq, len_sq, new_t, new_f, gd_tup, gd_lst, ix_lst, ty_int, ty_tup, ty_str, isi_ii, isi_ib, isi_tt, isi_ss, reduceIte, Bool.true_eq_false, Bool.false_eq_true, Bool.not_true, Bool.not_false,  List.zip_cons_cons, List.zip_nil_right, List.foldl_cons, List.foldl_nil, ne_eq, not_false_eq_true, not_true_eq_false, Bool.not_eq_true', decide_eq_false_iff_not, decide_eq_true_eq, reduceCtorEq, List.cons.injEq, and_self, D.ref.injEq, Cell.obj.injEq, D.int.injEq]
    refine ⟨k, _, rfl, ?_⟩
    try simp only [body, exs, ex, ev, evs, evB, evO, evT, evI, startD, List.map_cons, List.map_nil, List.length_cons, List.length_nil, Nat.reduceAdd, Nat.reduceSub, List.replicate, List.cons_append, List.nil_append, List.append_nil, List.getElem?_cons_zero, List.getElem?_cons_succ, Option.some.injEq, exists_and_left, exists_eq_left', exists_eq_left, exists_eq, ix_tup, at0, at1, at2, op_add', op_sub', op_mul', op_fdiv', op_mod', op_pow', op_addT, cm_lt, cm_le, cm_gt, cm_ge, cm_eq, cm_ne, cm_eqS, cm_neS, onb, oni, yn_gd, yn_cls, Nat.reduceLT, if_true, if_false, true_and, and_true, List.set_cons_zero, List.set_cons_succ, set_nm, set_tup, set_nil, set_cons, ifb, b1_abs, b1_int, b1_intB, b1_lenT, b1_lenL, b1_tupL, b1_tupT, b2_min, b2_max, seq_tup, seq_lst, seq_sq, gd_sq, ix_sq, len_sq, new_t, new_f, gd_tup, gd_lst, ix_lst, ty_int, ty_tup, ty_str, isi_ii, isi_ib, isi_tt, isi_ss, reduceIte, Bool.true_eq_false, Bool.false_eq_true, Bool.not_true, Bool.not_false,  List.zip_cons_cons, List.zip_nil_right, List.foldl_cons, List.foldl_nil, ne_eq, not_false_eq_true, not_true_eq_false, Bool.not_eq_true', decide_eq_false_iff_not, decide_eq_true_eq, reduceCtorEq, List.cons.injEq, and_self, D.ref.injEq, Cell.obj.injEq, D.int.injEq]
    rw [ix_cell (hmr _) hin, ix_cell (hmr _) hp, ei, ep]
    refine ⟨k, n, _, _, _, rfl, s3.neg.sm (by omega), fun j hj => ⟨((el.sz i hin).at_ hj).sm rm, ((el.sz p hp).at_ hj).sm rm, (s4 j hj).1.sm (by omega)⟩, ?_⟩
    refine ⟨_, hmr _, i, ixN_nat (by rw [hlen]; exact hin), ?_⟩
    rw [put_put]
    refine kN' _ _ ⟨_, _, rfl, ?_⟩
    congr 2
    rw [map_set]
    refine List.map_congr_left fun q hq => ?_
    rw [show p + 1 + (t + 1) = i + 1 from by omega, elr_step (by omega)]
    by_cases z : q = i
    · rw [if_pos z, if_pos z]
    · rw [if_neg z, if_neg z]
  · rintro r' m' ⟨o8, o9, rfl, rfl⟩
    rw [Nat.zero_add, List.length_range', show p + 1 + (n - (p + 1)) = n from by omega]
    refine ⟨trivial, kN _ _ _ _ _ (el.next hp h0)⟩
theorem law_det {X : Ctx} (hk : X.fn 24 = s_check_matrix) (hn : X.fn 30 = s_neg) (ht : X.fn 28 = s_num_times) (htu : X.fn 29 = s_turned) (hr : X.fn 32 = s_row_plus) (hg : X.gd = gd) (ds : List D) (m : Mem) (Q : KD) (h : s_det ds m Q) : body X 10 c33 ds m Q := by
  obtain ⟨k, n, b, M, rfl, n1, n2, wf, room, hM, q⟩ := h
  unfold body
  rw [c_det, exs_app]
  simp only [c33, List.take, List.drop, hk, hn, ht, htu, hr, hg, gd, mat_len, body, exs, ex, ev, evs, evB, evO, evT, evI, startD, List.map_cons, List.map_nil, List.length_cons, List.length_nil, Nat.reduceAdd, Nat.reduceSub, List.replicate, List.cons_append, List.nil_append, List.append_nil, List.getElem?_cons_zero, List.getElem?_cons_succ, Option.some.injEq, exists_and_left, exists_eq_left', exists_eq_left, exists_eq, ix_tup, at0, at1, at2, op_add', op_sub', op_mul', op_fdiv', op_mod', op_pow', op_addT, cm_lt, cm_le, cm_gt, cm_ge, cm_eq, cm_ne, cm_eqS, cm_neS, onb, oni, yn_gd, yn_cls, Nat.reduceLT, if_true, if_false, true_and, and_true, List.set_cons_zero, List.set_cons_succ, set_nm, set_tup, set_nil, set_cons, ifb, b1_abs, b1_int, b1_intB, b1_lenT, b1_lenL, b1_tupL, b1_tupT, b2_min, b2_max, seq_tup, seq_lst, seq_sq, gd_sq, ix_sq, len_sq, new_t, new_f, gd_tup, gd_lst, ix_lst, ty_int, ty_tup, ty_str, isi_ii, isi_ib, isi_tt, isi_ss, reduceIte, Bool.true_eq_false, Bool.false_eq_true, Bool.not_true, Bool.not_false,  List.zip_cons_cons, List.zip_nil_right, List.foldl_cons, List.foldl_nil, ne_eq, not_false_eq_true, not_true_eq_false, Bool.not_eq_true', decide_eq_false_iff_not, decide_eq_true_eq, reduceCtorEq, List.cons.injEq, and_self, D.ref.injEq, Cell.obj.injEq, D.int.injEq]
  refine ⟨k, n, n, M, rfl, n1, n2, n1, n2, ?_⟩
  try simp only [body, exs, ex, ev, evs, evB, evO, evT, evI, startD, List.map_cons, List.map_nil, List.length_cons, List.length_nil, Nat.reduceAdd, Nat.reduceSub, List.replicate, List.cons_append, List.nil_append, List.append_nil, List.getElem?_cons_zero, List.getElem?_cons_succ, Option.some.injEq, exists_and_left, exists_eq_left', exists_eq_left, exists_eq, ix_tup, at0, at1, at2, op_add', op_sub', op_mul', op_fdiv', op_mod', op_pow', op_addT, cm_lt, cm_le, cm_gt, cm_ge, cm_eq, cm_ne, cm_eqS, cm_neS, onb, oni, yn_gd, yn_cls, Nat.reduceLT, if_true, if_false, true_and, and_true, List.set_cons_zero, List.set_cons_succ, set_nm, set_tup, set_nil, set_cons, ifb, b1_abs, b1_int, b1_intB, b1_lenT, b1_lenL, b1_tupL, b1_tupT, b2_min, b2_max, seq_tup, seq_lst, seq_sq, gd_sq, ix_sq, len_sq, new_t, new_f, gd_tup, gd_lst, ix_lst, ty_int, ty_tup, ty_str, isi_ii, isi_ib, isi_tt, isi_ss, reduceIte, Bool.true_eq_false, Bool.false_eq_true, Bool.not_true, Bool.not_false,  List.zip_cons_cons, List.zip_nil_right, List.foldl_cons, List.foldl_nil, ne_eq, not_false_eq_true, not_true_eq_false, Bool.not_eq_true', decide_eq_false_iff_not, decide_eq_true_eq, reduceCtorEq, List.cons.injEq, and_self, D.ref.injEq, Cell.obj.injEq, D.int.injEq]
  rw [mat_get0 n1, row_len]
  simp only [not_true_eq_false, body, exs, ex, ev, evs, evB, evO, evT, evI, startD, List.map_cons, List.map_nil, List.length_cons, List.length_nil, Nat.reduceAdd, Nat.reduceSub, List.replicate, List.cons_append, List.nil_append, List.append_nil, List.getElem?_cons_zero, List.getElem?_cons_succ, Option.some.injEq, exists_and_left, exists_eq_left', exists_eq_left, exists_eq, ix_tup, at0, at1, at2, op_add', op_sub', op_mul', op_fdiv', op_mod', op_pow', op_addT, cm_lt, cm_le, cm_gt, cm_ge, cm_eq, cm_ne, cm_eqS, cm_neS, onb, oni, yn_gd, yn_cls, Nat.reduceLT, if_true, if_false, true_and, and_true, List.set_cons_zero, List.set_cons_succ, set_nm, set_tup, set_nil, set_cons, ifb, b1_abs, b1_int, b1_intB, b1_lenT, b1_lenL, b1_tupL, b1_tupT, b2_min, b2_max, seq_tup, seq_lst, seq_sq, gd_sq, ix_sq, len_sq, new_t, new_f, gd_tup, gd_lst, ix_lst, ty_int, ty_tup, ty_str, isi_ii, isi_ib, isi_tt, isi_ss, reduceIte, Bool.true_eq_false, Bool.false_eq_true, Bool.not_true, Bool.not_false,  List.zip_cons_cons, List.zip_nil_right, List.foldl_cons, List.foldl_nil, ne_eq, not_false_eq_true, not_true_eq_false, Bool.not_eq_true', decide_eq_false_iff_not, decide_eq_true_eq, reduceCtorEq, List.cons.injEq, and_self, D.ref.injEq, Cell.obj.injEq, D.int.injEq]
  refine ⟨_, seq_mat, fun r hr0 => ?_⟩
  refine ⟨by decide, by omega, by omega, ?_⟩
  rw [rgD_nat]
  refine for_inv _ (fun p r' m' => ∃ (L : Nat → Nat → (sys k).F) (x : (sys k).F) (o4 o5 o6 o7 o8 o9 : Option D), r' = [some (.int (sys k).by_), some ((sys k).mat n n M), some (.ref r), some ((sys k).d x), o4, o5, o6, o7, o8, o9] ∧ m' = put m r (.lst (rowsD (sys k) n L)) ∧ El b n p M L x) (List.range n) 0 _ _ ⟨M, 1, none, none, none, none, none, none, by rw [d1], rfl, El.start hM⟩ ?_ ?_
  · rintro p hp r' m' N ⟨L, x, o4, o5, o6, o7, o8, o9, rfl, rfl, el⟩ kN
    have hp' : p < n := by simpa using hp
    have e : ∀ h, (List.range n)[p]'h = p := fun h => by simp
    simp only [Nat.zero_add] at el kN
    simp only [e, body, exs, ex, ev, evs, evB, evO, evT, evI, startD, List.map_cons, List.map_nil, List.length_cons, List.length_nil, Nat.reduceAdd, Nat.reduceSub, List.replicate, List.cons_append, List.nil_append, List.append_nil, List.getElem?_cons_zero, List.getElem?_cons_succ, Option.some.injEq, exists_and_left, exists_eq_left', exists_eq_left, exists_eq, ix_tup, at0, at1, at2, op_add', op_sub', op_mul', op_fdiv', op_mod', op_pow', op_addT, cm_lt, cm_le, cm_gt, cm_ge, cm_eq, cm_ne, cm_eqS, cm_neS, onb, oni, yn_gd, yn_cls, Nat.reduceLT, if_true, if_false, true_and, and_true, List.set_cons_zero, List.set_cons_succ, set_nm, set_tup, set_nil, set_cons, ifb, b1_abs, b1_int, b1_intB, b1_lenT, b1_lenL, b1_tupL, b1_tupT, b2_min, b2_max, seq_tup, seq_lst, seq_sq, gd_sq, ix_sq, len_sq, new_t, new_f, gd_tup, gd_lst, ix_lst, ty_int, ty_tup, ty_str, isi_ii, isi_ib, isi_tt, isi_ss, reduceIte, Bool.true_eq_false, Bool.false_eq_true, Bool.not_true, Bool.not_false,  List.zip_cons_cons, List.zip_nil_right, List.foldl_cons, List.foldl_nil, ne_eq, not_false_eq_true, not_true_eq_false, Bool.not_eq_true', decide_eq_false_iff_not, decide_eq_true_eq, reduceCtorEq, List.cons.injEq, and_self, D.ref.injEq, Cell.obj.injEq, D.int.injEq]
    have hmr : ∀ L : Nat → Nat → (sys k).F, put m r (.lst (rowsD (sys k) n L)) r = some (.lst ((List.range n).map fun i => (sys k).row n (L i))) := fun L => put_same
    have hlen : ∀ L : Nat → Nat → (sys k).F, ((List.range n).map fun i => (sys k).row n (L i)).length = n := fun L => by simp
    rw [exs_cut 4]
    have tail : ∀ (L2 : Nat → Nat → (sys k).F) (x2 : (sys k).F) (o5 o6 o7 o8 o9 : Option D) (bk : KR) (rt : KD), El b n p M L2 x2 → L2 p p ≠ 0 → exs X (bDet.drop 4) [some (.int (sys k).by_), some ((sys k).mat n n M), some (.ref r), some ((sys k).d x2), some (.int (p : Int)), o5, o6, o7, o8, o9] (put m r (.lst (rowsD (sys k) n L2))) { nx := N, ct := N, bk := bk, rt := rt } := fun L2 x2 o5 o6 o7 o8 o9 bk rt el2 h0 =>
      det_tail hn ht htu hr n2 room hp' el2 h0 fun L3 x3 _ _ _ el3 => kN _ _ ⟨L3, x3, _, _, _, _, _, _, rfl, rfl, el3⟩
    generalize bDet.drop 4 = rest at tail ⊢
    simp only [bDet, c33, List.take, List.getElem?_cons_succ, List.getElem?_cons_zero, hn, hg, gd, body, exs, ex, ev, evs, evB, evO, evT, evI, startD, List.map_cons, List.map_nil, List.length_cons, List.length_nil, Nat.reduceAdd, Nat.reduceSub, List.replicate, List.cons_append, List.nil_append, List.append_nil, List.getElem?_cons_zero, List.getElem?_cons_succ, Option.some.injEq, exists_and_left, exists_eq_left', exists_eq_left, exists_eq, ix_tup, at0, at1, at2, op_add', op_sub', op_mul', op_fdiv', op_mod', op_pow', op_addT, cm_lt, cm_le, cm_gt, cm_ge, cm_eq, cm_ne, cm_eqS, cm_neS, onb, oni, yn_gd, yn_cls, Nat.reduceLT, if_true, if_false, true_and, and_true, List.set_cons_zero, List.set_cons_succ, set_nm, set_tup, set_nil, set_cons, ifb, b1_abs, b1_int, b1_intB, b1_lenT, b1_lenL, b1_tupL, b1_tupT, b2_min, b2_max, seq_tup, seq_lst, seq_sq, gd_sq, ix_sq, len_sq, new_t, new_f, gd_tup, gd_lst, ix_lst, ty_int, ty_tup, ty_str, isi_ii, isi_ib, isi_tt, isi_ss, reduceIte, Bool.true_eq_false, Bool.false_eq_true, Bool.not_true, Bool.not_false,  List.zip_cons_cons, List.zip_nil_right, List.foldl_cons, List.foldl_nil, ne_eq, not_false_eq_true, not_true_eq_false, Bool.not_eq_true', decide_eq_false_iff_not, decide_eq_true_eq, reduceCtorEq, List.cons.injEq, and_self, D.ref.injEq, Cell.obj.injEq, D.int.injEq]
    rw [len_ref (hmr L), hlen]
    try simp only [body, exs, ex, ev, evs, evB, evO, evT, evI, startD, List.map_cons, List.map_nil, List.length_cons, List.length_nil, Nat.reduceAdd, Nat.reduceSub, List.replicate, List.cons_append, List.nil_append, List.append_nil, List.getElem?_cons_zero, List.getElem?_cons_succ, Option.some.injEq, exists_and_left, exists_eq_left', exists_eq_left, exists_eq, ix_tup, at0, at1, at2, op_add', op_sub', op_mul', op_fdiv', op_mod', op_pow', op_addT, cm_lt, cm_le, cm_gt, cm_ge, cm_eq, cm_ne, cm_eqS, cm_neS, onb, oni, yn_gd, yn_cls, Nat.reduceLT, if_true, if_false, true_and, and_true, List.set_cons_zero, List.set_cons_succ, set_nm, set_tup, set_nil, set_cons, ifb, b1_abs, b1_int, b1_intB, b1_lenT, b1_lenL, b1_tupL, b1_tupT, b2_min, b2_max, seq_tup, seq_lst, seq_sq, gd_sq, ix_sq, len_sq, new_t, new_f, gd_tup, gd_lst, ix_lst, ty_int, ty_tup, ty_str, isi_ii, isi_ib, isi_tt, isi_ss, reduceIte, Bool.true_eq_false, Bool.false_eq_true, Bool.not_true, Bool.not_false,  List.zip_cons_cons, List.zip_nil_right, List.foldl_cons, List.foldl_nil, ne_eq, not_false_eq_true, not_true_eq_false, Bool.not_eq_true', decide_eq_false_iff_not, decide_eq_true_eq, reduceCtorEq, List.cons.injEq, and_self, D.ref.injEq, Cell.obj.injEq, D.int.injEq]
    refine ⟨⟨by omega, by omega⟩, ⟨by omega, by omega⟩, by omega, ?_⟩
    rw [rg_from (by omega)]
    refine lc_filter (List.range' p (n - p)) (fun i => .int ((i : Nat) : Int)) (fun i => .int ((i : Nat) : Int)) (fun i => !decide (L i p = 0)) (fun _ _ _ => trivial) ?_ ?_
    · intro i hi q' c K hq' hK
      rw [List.mem_range'_1] at hi
      have nrq : r ≠ q' := fun z => by rw [← z, hmr] at hq'; cases hq'
      simp only [wipeD, body, exs, ex, ev, evs, evB, evO, evT, evI, startD, List.map_cons, List.map_nil, List.length_cons, List.length_nil, Nat.reduceAdd, Nat.reduceSub, List.replicate, List.cons_append, List.nil_append, List.append_nil, List.getElem?_cons_zero, List.getElem?_cons_succ, Option.some.injEq, exists_and_left, exists_eq_left', exists_eq_left, exists_eq, ix_tup, at0, at1, at2, op_add', op_sub', op_mul', op_fdiv', op_mod', op_pow', op_addT, cm_lt, cm_le, cm_gt, cm_ge, cm_eq, cm_ne, cm_eqS, cm_neS, onb, oni, yn_gd, yn_cls, Nat.reduceLT, if_true, if_false, true_and, and_true, List.set_cons_zero, List.set_cons_succ, set_nm, set_tup, set_nil, set_cons, ifb, b1_abs, b1_int, b1_intB, b1_lenT, b1_lenL, b1_tupL, b1_tupT, b2_min, b2_max, seq_tup, seq_lst, seq_sq, gd_sq, ix_sq, len_sq, new_t, new_f, gd_tup, gd_lst, ix_lst, ty_int, ty_tup, ty_str, isi_ii, isi_ib, isi_tt, isi_ss, reduceIte, Bool.true_eq_false, Bool.false_eq_true, Bool.not_true, Bool.not_false,  List.zip_cons_cons, List.zip_nil_right, List.foldl_cons, List.foldl_nil, ne_eq, not_false_eq_true, not_true_eq_false, Bool.not_eq_true', decide_eq_false_iff_not, decide_eq_true_eq, reduceCtorEq, List.cons.injEq, and_self, D.ref.injEq, Cell.obj.injEq, D.int.injEq]
      rw [ix_cell (by rw [put_ne nrq]; exact hmr L) (by omega), row_get hp', d_num]
      try simp only [body, exs, ex, ev, evs, evB, evO, evT, evI, startD, List.map_cons, List.map_nil, List.length_cons, List.length_nil, Nat.reduceAdd, Nat.reduceSub, List.replicate, List.cons_append, List.nil_append, List.append_nil, List.getElem?_cons_zero, List.getElem?_cons_succ, Option.some.injEq, exists_and_left, exists_eq_left', exists_eq_left, exists_eq, ix_tup, at0, at1, at2, op_add', op_sub', op_mul', op_fdiv', op_mod', op_pow', op_addT, cm_lt, cm_le, cm_gt, cm_ge, cm_eq, cm_ne, cm_eqS, cm_neS, onb, oni, yn_gd, yn_cls, Nat.reduceLT, if_true, if_false, true_and, and_true, List.set_cons_zero, List.set_cons_succ, set_nm, set_tup, set_nil, set_cons, ifb, b1_abs, b1_int, b1_intB, b1_lenT, b1_lenL, b1_tupL, b1_tupT, b2_min, b2_max, seq_tup, seq_lst, seq_sq, gd_sq, ix_sq, len_sq, new_t, new_f, gd_tup, gd_lst, ix_lst, ty_int, ty_tup, ty_str, isi_ii, isi_ib, isi_tt, isi_ss, reduceIte, Bool.true_eq_false, Bool.false_eq_true, Bool.not_true, Bool.not_false,  List.zip_cons_cons, List.zip_nil_right, List.foldl_cons, List.foldl_nil, ne_eq, not_false_eq_true, not_true_eq_false, Bool.not_eq_true', decide_eq_false_iff_not, decide_eq_true_eq, reduceCtorEq, List.cons.injEq, and_self, D.ref.injEq, Cell.obj.injEq, D.int.injEq]
      by_cases hz : L i p = 0
      · rw [if_neg (by simp [hz, (sys k).num0])]
        simpa [hz] using hK
      · rw [if_pos (by simpa using fun z => hz (num_zero.mp z))]
        simpa [hz] using hK
    · try simp only [body, exs, ex, ev, evs, evB, evO, evT, evI, startD, List.map_cons, List.map_nil, List.length_cons, List.length_nil, Nat.reduceAdd, Nat.reduceSub, List.replicate, List.cons_append, List.nil_append, List.append_nil, List.getElem?_cons_zero, List.getElem?_cons_succ, Option.some.injEq, exists_and_left, exists_eq_left', exists_eq_left, exists_eq, ix_tup, at0, at1, at2, op_add', op_sub', op_mul', op_fdiv', op_mod', op_pow', op_addT, cm_lt, cm_le, cm_gt, cm_ge, cm_eq, cm_ne, cm_eqS, cm_neS, onb, oni, yn_gd, yn_cls, Nat.reduceLT, if_true, if_false, true_and, and_true, List.set_cons_zero, List.set_cons_succ, set_nm, set_tup, set_nil, set_cons, ifb, b1_abs, b1_int, b1_intB, b1_lenT, b1_lenL, b1_tupL, b1_tupT, b2_min, b2_max, seq_tup, seq_lst, seq_sq, gd_sq, ix_sq, len_sq, new_t, new_f, gd_tup, gd_lst, ix_lst, ty_int, ty_tup, ty_str, isi_ii, isi_ib, isi_tt, isi_ss, reduceIte, Bool.true_eq_false, Bool.false_eq_true, Bool.not_true, Bool.not_false,  List.zip_cons_cons, List.zip_nil_right, List.foldl_cons, List.foldl_nil, ne_eq, not_false_eq_true, not_true_eq_false, Bool.not_eq_true', decide_eq_false_iff_not, decide_eq_true_eq, reduceCtorEq, List.cons.injEq, and_self, D.ref.injEq, Cell.obj.injEq, D.int.injEq]
      refine ⟨by decide, ?_⟩
      rw [eq_nilL (flats_map (fun _ => rfl) _)]
      try simp only [body, exs, ex, ev, evs, evB, evO, evT, evI, startD, List.map_cons, List.map_nil, List.length_cons, List.length_nil, Nat.reduceAdd, Nat.reduceSub, List.replicate, List.cons_append, List.nil_append, List.append_nil, List.getElem?_cons_zero, List.getElem?_cons_succ, Option.some.injEq, exists_and_left, exists_eq_left', exists_eq_left, exists_eq, ix_tup, at0, at1, at2, op_add', op_sub', op_mul', op_fdiv', op_mod', op_pow', op_addT, cm_lt, cm_le, cm_gt, cm_ge, cm_eq, cm_ne, cm_eqS, cm_neS, onb, oni, yn_gd, yn_cls, Nat.reduceLT, if_true, if_false, true_and, and_true, List.set_cons_zero, List.set_cons_succ, set_nm, set_tup, set_nil, set_cons, ifb, b1_abs, b1_int, b1_intB, b1_lenT, b1_lenL, b1_tupL, b1_tupT, b2_min, b2_max, seq_tup, seq_lst, seq_sq, gd_sq, ix_sq, len_sq, new_t, new_f, gd_tup, gd_lst, ix_lst, ty_int, ty_tup, ty_str, isi_ii, isi_ib, isi_tt, isi_ss, reduceIte, Bool.true_eq_false, Bool.false_eq_true, Bool.not_true, Bool.not_false,  List.zip_cons_cons, List.zip_nil_right, List.foldl_cons, List.foldl_nil, ne_eq, not_false_eq_true, not_true_eq_false, Bool.not_eq_true', decide_eq_false_iff_not, decide_eq_true_eq, reduceCtorEq, List.cons.injEq, and_self, D.ref.injEq, Cell.obj.injEq, D.int.injEq]
      cases hf : (List.range' p (n - p)).filter fun i => !decide (L i p = 0) with
      | nil =>
        rw [if_pos (by simp)]
        have hz := el.stop hp' fun i h1 h2 => by
          have := List.filter_eq_nil_iff.mp hf i (by rw [List.mem_range'_1]; omega)
          simpa using this
        rw [hz, d0] at q
        exact ⟨m, subo_lst wf hr0, q⟩
      | cons a rest' =>
        rw [if_neg (by simp)]
        have ha : a ∈ (List.range' p (n - p)).filter fun i => !decide (L i p = 0) := by rw [hf]; exact List.mem_cons_self
        obtain ⟨ha1, ha2⟩ := List.mem_filter.mp ha
        rw [List.mem_range'_1] at ha1
        have hne : L a p ≠ 0 := by simpa using ha2
        simp only [List.map_cons, body, exs, ex, ev, evs, evB, evO, evT, evI, startD, List.map_cons, List.map_nil, List.length_cons, List.length_nil, Nat.reduceAdd, Nat.reduceSub, List.replicate, List.cons_append, List.nil_append, List.append_nil, List.getElem?_cons_zero, List.getElem?_cons_succ, Option.some.injEq, exists_and_left, exists_eq_left', exists_eq_left, exists_eq, ix_tup, at0, at1, at2, op_add', op_sub', op_mul', op_fdiv', op_mod', op_pow', op_addT, cm_lt, cm_le, cm_gt, cm_ge, cm_eq, cm_ne, cm_eqS, cm_neS, onb, oni, yn_gd, yn_cls, Nat.reduceLT, if_true, if_false, true_and, and_true, List.set_cons_zero, List.set_cons_succ, set_nm, set_tup, set_nil, set_cons, ifb, b1_abs, b1_int, b1_intB, b1_lenT, b1_lenL, b1_tupL, b1_tupT, b2_min, b2_max, seq_tup, seq_lst, seq_sq, gd_sq, ix_sq, len_sq, new_t, new_f, gd_tup, gd_lst, ix_lst, ty_int, ty_tup, ty_str, isi_ii, isi_ib, isi_tt, isi_ss, reduceIte, Bool.true_eq_false, Bool.false_eq_true, Bool.not_true, Bool.not_false,  List.zip_cons_cons, List.zip_nil_right, List.foldl_cons, List.foldl_nil, ne_eq, not_false_eq_true, not_true_eq_false, Bool.not_eq_true', decide_eq_false_iff_not, decide_eq_true_eq, reduceCtorEq, List.cons.injEq, and_self, D.ref.injEq, Cell.obj.injEq, D.int.injEq]
        by_cases hap : (a : Int) = (p : Int)
        · rw [if_neg (by simpa using hap)]
          have : a = p := by omega
          subst this
          exact tail L x _ _ _ _ _ _ _ el hne
        · rw [if_pos (by simpa using hap)]
          rw [ix_cell (hmr L) (by omega), ix_cell (hmr L) hp']
          refine ⟨by decide, _, _, rfl, ?_⟩
          refine ⟨r, _, _, p, rfl, rfl, hmr L, ixN_nat (by rw [hlen]; exact hp'), ?_⟩
          refine ⟨r, _, _, a, rfl, rfl, put_same, ixN_nat (by rw [List.length_set, hlen]; omega), ?_⟩
          rw [put_put, put_put, map_set, map_set]
          refine ⟨k, _, rfl, ?_⟩
          have es : ((List.range n).map fun i => if i = a then (sys k).row n (L p) else if i = p then (sys k).row n (L a) else (sys k).row n (L i)) = rowsD (sys k) n (swp p a L) := List.map_congr_left fun i hi => by
            unfold swp
            by_cases z : i = p
            · subst z
              rw [if_neg (by omega), if_pos rfl, if_pos rfl]
            · rw [if_neg z, if_neg z]
              by_cases y : i = a
              · rw [if_pos y, if_pos y]
              · rw [if_neg y, if_neg y]
          rw [es]
          exact tail (swp p a L) (-x) _ _ _ _ _ _ _ (el.swap (by omega) (by omega)) (by unfold swp; rw [if_pos rfl]; exact hne)
  · rintro r' m' ⟨L, x, o4, o5, o6, o7, o8, o9, rfl, rfl, el⟩
    rw [List.length_range, Nat.zero_add] at el
    try simp only [body, exs, ex, ev, evs, evB, evO, evT, evI, startD, List.map_cons, List.map_nil, List.length_cons, List.length_nil, Nat.reduceAdd, Nat.reduceSub, List.replicate, List.cons_append, List.nil_append, List.append_nil, List.getElem?_cons_zero, List.getElem?_cons_succ, Option.some.injEq, exists_and_left, exists_eq_left', exists_eq_left, exists_eq, ix_tup, at0, at1, at2, op_add', op_sub', op_mul', op_fdiv', op_mod', op_pow', op_addT, cm_lt, cm_le, cm_gt, cm_ge, cm_eq, cm_ne, cm_eqS, cm_neS, onb, oni, yn_gd, yn_cls, Nat.reduceLT, if_true, if_false, true_and, and_true, List.set_cons_zero, List.set_cons_succ, set_nm, set_tup, set_nil, set_cons, ifb, b1_abs, b1_int, b1_intB, b1_lenT, b1_lenL, b1_tupL, b1_tupT, b2_min, b2_max, seq_tup, seq_lst, seq_sq, gd_sq, ix_sq, len_sq, new_t, new_f, gd_tup, gd_lst, ix_lst, ty_int, ty_tup, ty_str, isi_ii, isi_ib, isi_tt, isi_ss, reduceIte, Bool.true_eq_false, Bool.false_eq_true, Bool.not_true, Bool.not_false,  List.zip_cons_cons, List.zip_nil_right, List.foldl_cons, List.foldl_nil, ne_eq, not_false_eq_true, not_true_eq_false, Bool.not_eq_true', decide_eq_false_iff_not, decide_eq_true_eq, reduceCtorEq, List.cons.injEq, and_self, D.ref.injEq, Cell.obj.injEq, D.int.injEq]
    rw [el.done]
    exact ⟨m, subo_lst wf hr0, q⟩
end Og.Lk44
end
section
set_option maxHeartbeats 4000000
set_option autoImplicit false
namespace Og.Lk44
open PySem Og
def rowsL (S : Sys) (n : Nat) (L : Nat → Nat → S.F) : List D := (List.range n).map fun i => S.rowL n (L i)
def bOwn : List S := match (c7[1]? : Option S) with
  | some (S.for_ _ _ b) => b
  | _ => []
theorem c_own : c7 = c7.take 1 ++ (.for_ (.nm 4) (.rg1 (.b1 .len (.x 3))) bOwn :: c7.drop 2) := rfl
/-- behind the exchange -/
theorem own_tail {X : Ctx} (hl : X.fn 3 = s_less) (ht : X.fn 2 = s_num_times) (ho : X.fn 6 = s_over) {k : Ks} {n b p : Nat} {M L : Nat → Nat → (sys k).F} {x : (sys k).F} {r : Addr} {m : Mem} {o1 o5 o6 o7 o8 o9 o10 : Option D} {N bk : KR} {rt : KD}
    (n2 : n ≤ 16) (room : sB b (n + 1) + 7 ≤ 2 ^ 26) (hp : p < n) (el : El b n p M L x) (h0 : L p p ≠ 0)
    (kN : ∀ (L2 : Nat → Nat → (sys k).F) (x2 : (sys k).F) (o6 o7 : Option D), El b n (p + 1) M L2 x2 → N [some (.int (sys k).by_), o1, some ((sys k).d x2), some (.ref r), some (.int (p : Int)), o5, o6, o7, o8, o9, o10] (put m r (.lst (rowsL (sys k) n L2)))) :
    exs X (bOwn.drop 3) [some (.int (sys k).by_), o1, some ((sys k).d x), some (.ref r), some (.int (p : Int)), o5, o6, o7, o8, o9, o10] (put m r (.lst (rowsL (sys k) n L))) { nx := N, ct := N, bk := bk, rt := rt } := by
  have hmr : ∀ L : Nat → Nat → (sys k).F, put m r (.lst (rowsL (sys k) n L)) r = some (.lst ((List.range n).map fun i => (sys k).rowL n (L i))) := fun L => put_same
  have hlen : ∀ L : Nat → Nat → (sys k).F, ((List.range n).map fun i => (sys k).rowL n (L i)).length = n := fun L => by simp
  have rm : sB b p + 7 ≤ 2 ^ 26 := Nat.le_trans (Nat.add_le_add_right (sB_mono (by omega)) _) room
  have rm2 : 2 * sB b p + 1 + 7 ≤ 2 ^ 26 := Nat.le_trans (Nat.add_le_add_right (sB_mono (i := p + 1) (by omega)) _) room
  simp only [bOwn, c7, List.drop, List.getElem?_cons_succ, List.getElem?_cons_zero, hl, ht, ho, body, exs, ex, ev, evs, evB, evO, evT, evI, startD, List.map_cons, List.map_nil, List.length_cons, List.length_nil, Nat.reduceAdd, Nat.reduceSub, List.replicate, List.cons_append, List.nil_append, List.append_nil, List.getElem?_cons_zero, List.getElem?_cons_succ, Option.some.injEq, exists_and_left, exists_eq_left', exists_eq_left, exists_eq, ix_tup, at0, at1, at2, op_add', op_sub', op_mul', op_fdiv', op_mod', op_pow', op_addT, cm_lt, cm_le, cm_gt, cm_ge, cm_eq, cm_ne, cm_eqS, cm_neS, onb, oni, yn_gd, yn_cls, Nat.reduceLT, if_true, if_false, true_and, and_true, List.set_cons_zero, List.set_cons_succ, set_nm, set_tup, set_nil, set_cons, ifb, b1_abs, b1_int, b1_intB, b1_lenT, b1_lenL, b1_tupL, b1_tupT, b2_min, b2_max, seq_tup, seq_lst, seq_sq, gd_sq, ix_sq, len_sq, new_t, new_f, gd_tup, gd_lst, ix_lst, ty_int, ty_tup, ty_str, isi_ii, isi_ib, isi_tt, isi_ss, reduceIte, Bool.true_eq_false, Bool.false_eq_true, Bool.not_true, Bool.not_false,  List.zip_cons_cons, List.zip_nil_right, List.foldl_cons, List.foldl_nil, ne_eq, not_false_eq_true, not_true_eq_false, Bool.not_eq_true', decide_eq_false_iff_not, decide_eq_true_eq, reduceCtorEq, List.cons.injEq, and_self, D.ref.injEq, Cell.obj.injEq, D.int.injEq]
  rw [ix_cell (hmr L) hp, rowL_get hp]
  refine ⟨k, _, _, rfl, Sm.two (el.xs.sm rm) (((el.sz p hp).at_ hp).sm rm), ?_⟩
  try simp only [body, exs, ex, ev, evs, evB, evO, evT, evI, startD, List.map_cons, List.map_nil, List.length_cons, List.length_nil, Nat.reduceAdd, Nat.reduceSub, List.replicate, List.cons_append, List.nil_append, List.append_nil, List.getElem?_cons_zero, List.getElem?_cons_succ, Option.some.injEq, exists_and_left, exists_eq_left', exists_eq_left, exists_eq, ix_tup, at0, at1, at2, op_add', op_sub', op_mul', op_fdiv', op_mod', op_pow', op_addT, cm_lt, cm_le, cm_gt, cm_ge, cm_eq, cm_ne, cm_eqS, cm_neS, onb, oni, yn_gd, yn_cls, Nat.reduceLT, if_true, if_false, true_and, and_true, List.set_cons_zero, List.set_cons_succ, set_nm, set_tup, set_nil, set_cons, ifb, b1_abs, b1_int, b1_intB, b1_lenT, b1_lenL, b1_tupL, b1_tupT, b2_min, b2_max, seq_tup, seq_lst, seq_sq, gd_sq, ix_sq, len_sq, new_t, new_f, gd_tup, gd_lst, ix_lst, ty_int, ty_tup, ty_str, isi_ii, isi_ib, isi_tt, isi_ss, reduceIte, Bool.true_eq_false, Bool.false_eq_true, Bool.not_true, Bool.not_false,  List.zip_cons_cons, List.zip_nil_right, List.foldl_cons, List.foldl_nil, ne_eq, not_false_eq_true, not_true_eq_false, Bool.not_eq_true', decide_eq_false_iff_not, decide_eq_true_eq, reduceCtorEq, List.cons.injEq, and_self, D.ref.injEq, Cell.obj.injEq, D.int.injEq]
  rw [len_ref (hmr L), hlen]
  try simp only [body, exs, ex, ev, evs, evB, evO, evT, evI, startD, List.map_cons, List.map_nil, List.length_cons, List.length_nil, Nat.reduceAdd, Nat.reduceSub, List.replicate, List.cons_append, List.nil_append, List.append_nil, List.getElem?_cons_zero, List.getElem?_cons_succ, Option.some.injEq, exists_and_left, exists_eq_left', exists_eq_left, exists_eq, ix_tup, at0, at1, at2, op_add', op_sub', op_mul', op_fdiv', op_mod', op_pow', op_addT, cm_lt, cm_le, cm_gt, cm_ge, cm_eq, cm_ne, cm_eqS, cm_neS, onb, oni, yn_gd, yn_cls, Nat.reduceLT, if_true, if_false, true_and, and_true, List.set_cons_zero, List.set_cons_succ, set_nm, set_tup, set_nil, set_cons, ifb, b1_abs, b1_int, b1_intB, b1_lenT, b1_lenL, b1_tupL, b1_tupT, b2_min, b2_max, seq_tup, seq_lst, seq_sq, gd_sq, ix_sq, len_sq, new_t, new_f, gd_tup, gd_lst, ix_lst, ty_int, ty_tup, ty_str, isi_ii, isi_ib, isi_tt, isi_ss, reduceIte, Bool.true_eq_false, Bool.false_eq_true, Bool.not_true, Bool.not_false,  List.zip_cons_cons, List.zip_nil_right, List.foldl_cons, List.foldl_nil, ne_eq, not_false_eq_true, not_true_eq_false, Bool.not_eq_true', decide_eq_false_iff_not, decide_eq_true_eq, reduceCtorEq, List.cons.injEq, and_self, D.ref.injEq, Cell.obj.injEq, D.int.injEq]
  refine ⟨⟨by omega, by omega⟩, ⟨by omega, by omega⟩, by omega, ?_⟩
  rw [show ((p : Int) + 1) = ((p + 1 : Nat) : Int) from by omega, rg_from (by omega)]
  refine for_inv _ (fun t r' m' => ∃ (o6 o7 : Option D), r' = [some (.int (sys k).by_), o1, some ((sys k).d (x * L p p)), some (.ref r), some (.int (p : Int)), o5, o6, o7, o8, o9, o10] ∧ m' = put m r (.lst (rowsL (sys k) n (elr p (p + 1 + t) L)))) (List.range' (p + 1) (n - (p + 1))) 0 _ _ ⟨_, _, rfl, by rw [Nat.add_zero, elr_start]⟩ ?_ ?_
  · rintro t hT r' m' N' ⟨o6, o7, rfl, rfl⟩ kN'
    have hT' : t < n - (p + 1) := by simpa using hT
    have e : ∀ h, (List.range' (p + 1) (n - (p + 1)))[t]'h = p + 1 + t := fun h => by simp
    simp only [Nat.zero_add] at kN' ⊢
    simp only [e, body, exs, ex, ev, evs, evB, evO, evT, evI, startD, List.map_cons, List.map_nil, List.length_cons, List.length_nil, Nat.reduceAdd, Nat.reduceSub, List.replicate, List.cons_append, List.nil_append, List.append_nil, List.getElem?_cons_zero, List.getElem?_cons_succ, Option.some.injEq, exists_and_left, exists_eq_left', exists_eq_left, exists_eq, ix_tup, at0, at1, at2, op_add', op_sub', op_mul', op_fdiv', op_mod', op_pow', op_addT, cm_lt, cm_le, cm_gt, cm_ge, cm_eq, cm_ne, cm_eqS, cm_neS, onb, oni, yn_gd, yn_cls, Nat.reduceLT, if_true, if_false, true_and, and_true, List.set_cons_zero, List.set_cons_succ, set_nm, set_tup, set_nil, set_cons, ifb, b1_abs, b1_int, b1_intB, b1_lenT, b1_lenL, b1_tupL, b1_tupT, b2_min, b2_max, seq_tup, seq_lst, seq_sq, gd_sq, ix_sq, len_sq, new_t, new_f, gd_tup, gd_lst, ix_lst, ty_int, ty_tup, ty_str, isi_ii, isi_ib, isi_tt, isi_ss, reduceIte, Bool.true_eq_false, Bool.false_eq_true, Bool.not_true, Bool.not_false,  List.zip_cons_cons, List.zip_nil_right, List.foldl_cons, List.foldl_nil, ne_eq, not_false_eq_true, not_true_eq_false, Bool.not_eq_true', decide_eq_false_iff_not, decide_eq_true_eq, reduceCtorEq, List.cons.injEq, and_self, D.ref.injEq, Cell.obj.injEq, D.int.injEq]
    generalize hi : p + 1 + t = i at kN' ⊢
    have hin : i < n := by omega
    obtain ⟨s1, s2, s3, s4⟩ := (el.sz i hin).elim (el.sz p hp) hp h0
    rw [ix_cell (hmr _) hin, rowL_get hp, ix_cell (hmr _) hp, rowL_get hp]
    have ei : elr p i L i = L i := elr_at
    have ep : elr p i L p = L p := elr_p
    rw [ei, ep]
    refine ⟨k, _, _, rfl, Sm.two (((el.sz i hin).at_ hp).sm rm) (((el.sz p hp).at_ hp).sm rm), h0, ?_⟩
    try simp only [body, exs, ex, ev, evs, evB, evO, evT, evI, startD, List.map_cons, List.map_nil, List.length_cons, List.length_nil, Nat.reduceAdd, Nat.reduceSub, List.replicate, List.cons_append, List.nil_append, List.append_nil, List.getElem?_cons_zero, List.getElem?_cons_succ, Option.some.injEq, exists_and_left, exists_eq_left', exists_eq_left, exists_eq, ix_tup, at0, at1, at2, op_add', op_sub', op_mul', op_fdiv', op_mod', op_pow', op_addT, cm_lt, cm_le, cm_gt, cm_ge, cm_eq, cm_ne, cm_eqS, cm_neS, onb, oni, yn_gd, yn_cls, Nat.reduceLT, if_true, if_false, true_and, and_true, List.set_cons_zero, List.set_cons_succ, set_nm, set_tup, set_nil, set_cons, ifb, b1_abs, b1_int, b1_intB, b1_lenT, b1_lenL, b1_tupL, b1_tupT, b2_min, b2_max, seq_tup, seq_lst, seq_sq, gd_sq, ix_sq, len_sq, new_t, new_f, gd_tup, gd_lst, ix_lst, ty_int, ty_tup, ty_str, isi_ii, isi_ib, isi_tt, isi_ss, reduceIte, Bool.true_eq_false, Bool.false_eq_true, Bool.not_true, Bool.not_false,  List.zip_cons_cons, List.zip_nil_right, List.foldl_cons, List.foldl_nil, ne_eq, not_false_eq_true, not_true_eq_false, Bool.not_eq_true', decide_eq_false_iff_not, decide_eq_true_eq, reduceCtorEq, List.cons.injEq, and_self, D.ref.injEq, Cell.obj.injEq, D.int.injEq]
    rw [ix_cell (hmr _) hin, ix_cell (hmr _) hp, ei, ep]
    simp only [seq_rowL, gd_rowL, body, exs, ex, ev, evs, evB, evO, evT, evI, startD, List.map_cons, List.map_nil, List.length_cons, List.length_nil, Nat.reduceAdd, Nat.reduceSub, List.replicate, List.cons_append, List.nil_append, List.append_nil, List.getElem?_cons_zero, List.getElem?_cons_succ, Option.some.injEq, exists_and_left, exists_eq_left', exists_eq_left, exists_eq, ix_tup, at0, at1, at2, op_add', op_sub', op_mul', op_fdiv', op_mod', op_pow', op_addT, cm_lt, cm_le, cm_gt, cm_ge, cm_eq, cm_ne, cm_eqS, cm_neS, onb, oni, yn_gd, yn_cls, Nat.reduceLT, if_true, if_false, true_and, and_true, List.set_cons_zero, List.set_cons_succ, set_nm, set_tup, set_nil, set_cons, ifb, b1_abs, b1_int, b1_intB, b1_lenT, b1_lenL, b1_tupL, b1_tupT, b2_min, b2_max, seq_tup, seq_lst, seq_sq, gd_sq, ix_sq, len_sq, new_t, new_f, gd_tup, gd_lst, ix_lst, ty_int, ty_tup, ty_str, isi_ii, isi_ib, isi_tt, isi_ss, reduceIte, Bool.true_eq_false, Bool.false_eq_true, Bool.not_true, Bool.not_false,  List.zip_cons_cons, List.zip_nil_right, List.foldl_cons, List.foldl_nil, ne_eq, not_false_eq_true, not_true_eq_false, Bool.not_eq_true', decide_eq_false_iff_not, decide_eq_true_eq, reduceCtorEq, List.cons.injEq, and_self, D.ref.injEq, Cell.obj.injEq, D.int.injEq]
    rw [zip_map]
    refine lc_pure (List.range n) (fun j => .tup [(sys k).d (L i j), (sys k).d (L p j)]) (fun j => (sys k).d (L i j + -((sys k).inv (L p p) * L i p * L p j))) (fun _ _ _ => trivial) ?_ ?_
    · intro j hj p' c K hp' hK
      have hj' := List.mem_range.mp hj
      simp only [wipeD, body, exs, ex, ev, evs, evB, evO, evT, evI, startD, List.map_cons, List.map_nil, List.length_cons, List.length_nil, Nat.reduceAdd, Nat.reduceSub, List.replicate, List.cons_append, List.nil_append, List.append_nil, List.getElem?_cons_zero, List.getElem?_cons_succ, Option.some.injEq, exists_and_left, exists_eq_left', exists_eq_left, exists_eq, ix_tup, at0, at1, at2, op_add', op_sub', op_mul', op_fdiv', op_mod', op_pow', op_addT, cm_lt, cm_le, cm_gt, cm_ge, cm_eq, cm_ne, cm_eqS, cm_neS, onb, oni, yn_gd, yn_cls, Nat.reduceLT, if_true, if_false, true_and, and_true, List.set_cons_zero, List.set_cons_succ, set_nm, set_tup, set_nil, set_cons, ifb, b1_abs, b1_int, b1_intB, b1_lenT, b1_lenL, b1_tupL, b1_tupT, b2_min, b2_max, seq_tup, seq_lst, seq_sq, gd_sq, ix_sq, len_sq, new_t, new_f, gd_tup, gd_lst, ix_lst, ty_int, ty_tup, ty_str, isi_ii, isi_ib, isi_tt, isi_ss, reduceIte, Bool.true_eq_false, Bool.false_eq_true, Bool.not_true, Bool.not_false,  List.zip_cons_cons, List.zip_nil_right, List.foldl_cons, List.foldl_nil, ne_eq, not_false_eq_true, not_true_eq_false, Bool.not_eq_true', decide_eq_false_iff_not, decide_eq_true_eq, reduceCtorEq, List.cons.injEq, and_self, D.ref.injEq, Cell.obj.injEq, D.int.injEq]
      refine ⟨k, _, _, rfl, Sm.two (s3.sm (by omega)) (((el.sz p hp).at_ hj').sm rm), ?_⟩
      try simp only [body, exs, ex, ev, evs, evB, evO, evT, evI, startD, List.map_cons, List.map_nil, List.length_cons, List.length_nil, Nat.reduceAdd, Nat.reduceSub, List.replicate, List.cons_append, List.nil_append, List.append_nil, List.getElem?_cons_zero, List.getElem?_cons_succ, Option.some.injEq, exists_and_left, exists_eq_left', exists_eq_left, exists_eq, ix_tup, at0, at1, at2, op_add', op_sub', op_mul', op_fdiv', op_mod', op_pow', op_addT, cm_lt, cm_le, cm_gt, cm_ge, cm_eq, cm_ne, cm_eqS, cm_neS, onb, oni, yn_gd, yn_cls, Nat.reduceLT, if_true, if_false, true_and, and_true, List.set_cons_zero, List.set_cons_succ, set_nm, set_tup, set_nil, set_cons, ifb, b1_abs, b1_int, b1_intB, b1_lenT, b1_lenL, b1_tupL, b1_tupT, b2_min, b2_max, seq_tup, seq_lst, seq_sq, gd_sq, ix_sq, len_sq, new_t, new_f, gd_tup, gd_lst, ix_lst, ty_int, ty_tup, ty_str, isi_ii, isi_ib, isi_tt, isi_ss, reduceIte, Bool.true_eq_false, Bool.false_eq_true, Bool.not_true, Bool.not_false,  List.zip_cons_cons, List.zip_nil_right, List.foldl_cons, List.foldl_nil, ne_eq, not_false_eq_true, not_true_eq_false, Bool.not_eq_true', decide_eq_false_iff_not, decide_eq_true_eq, reduceCtorEq, List.cons.injEq, and_self, D.ref.injEq, Cell.obj.injEq, D.int.injEq]
      exact ⟨k, _, _, rfl, Sm.two (((el.sz i hin).at_ hj').sm rm) ((s4 j hj').2.sm (by omega)), hK⟩
    · try simp only [body, exs, ex, ev, evs, evB, evO, evT, evI, startD, List.map_cons, List.map_nil, List.length_cons, List.length_nil, Nat.reduceAdd, Nat.reduceSub, List.replicate, List.cons_append, List.nil_append, List.append_nil, List.getElem?_cons_zero, List.getElem?_cons_succ, Option.some.injEq, exists_and_left, exists_eq_left', exists_eq_left, exists_eq, ix_tup, at0, at1, at2, op_add', op_sub', op_mul', op_fdiv', op_mod', op_pow', op_addT, cm_lt, cm_le, cm_gt, cm_ge, cm_eq, cm_ne, cm_eqS, cm_neS, onb, oni, yn_gd, yn_cls, Nat.reduceLT, if_true, if_false, true_and, and_true, List.set_cons_zero, List.set_cons_succ, set_nm, set_tup, set_nil, set_cons, ifb, b1_abs, b1_int, b1_intB, b1_lenT, b1_lenL, b1_tupL, b1_tupT, b2_min, b2_max, seq_tup, seq_lst, seq_sq, gd_sq, ix_sq, len_sq, new_t, new_f, gd_tup, gd_lst, ix_lst, ty_int, ty_tup, ty_str, isi_ii, isi_ib, isi_tt, isi_ss, reduceIte, Bool.true_eq_false, Bool.false_eq_true, Bool.not_true, Bool.not_false,  List.zip_cons_cons, List.zip_nil_right, List.foldl_cons, List.foldl_nil, ne_eq, not_false_eq_true, not_true_eq_false, Bool.not_eq_true', decide_eq_false_iff_not, decide_eq_true_eq, reduceCtorEq, List.cons.injEq, and_self, D.ref.injEq, Cell.obj.injEq, D.int.injEq]
      refine ⟨_, hmr _, i, ixN_nat (by rw [hlen]; exact hin), ?_⟩
      rw [put_put]
      refine kN' _ _ ⟨_, _, rfl, ?_⟩
      congr 2
      rw [map_set]
      refine List.map_congr_left fun q hq => ?_
      rw [show p + 1 + (t + 1) = i + 1 from by omega, elr_step (by omega)]
      by_cases z : q = i
      · rw [if_pos z, if_pos z]
        have ef : (fun j => L i j + -((sys k).inv (L p p) * L i p) * L p j) = fun j => L i j + -((sys k).inv (L p p) * L i p * L p j) := funext fun j => by grind
        rw [ef]
        rfl
      · rw [if_neg z, if_neg z]
  · rintro r' m' ⟨o6, o7, rfl, rfl⟩
    rw [Nat.zero_add, List.length_range', show p + 1 + (n - (p + 1)) = n from by omega]
    refine ⟨trivial, kN _ _ _ _ (el.next hp h0)⟩
theorem law_own {X : Ctx} (hl : X.fn 3 = s_less) (ht : X.fn 2 = s_num_times) (ho : X.fn 6 = s_over) (ds : List D) (m : Mem) (Q : KD) (h : s_det ds m Q) : body X 11 c7 ds m Q := by
  obtain ⟨k, n, b, M, rfl, n1, n2, wf, room, hM, q⟩ := h
  unfold body
  rw [c_own, exs_app]
  simp only [c7, List.take, List.drop, hl, ht, ho, mat_len, seq_mat, gd_mat, body, exs, ex, ev, evs, evB, evO, evT, evI, startD, List.map_cons, List.map_nil, List.length_cons, List.length_nil, Nat.reduceAdd, Nat.reduceSub, List.replicate, List.cons_append, List.nil_append, List.append_nil, List.getElem?_cons_zero, List.getElem?_cons_succ, Option.some.injEq, exists_and_left, exists_eq_left', exists_eq_left, exists_eq, ix_tup, at0, at1, at2, op_add', op_sub', op_mul', op_fdiv', op_mod', op_pow', op_addT, cm_lt, cm_le, cm_gt, cm_ge, cm_eq, cm_ne, cm_eqS, cm_neS, onb, oni, yn_gd, yn_cls, Nat.reduceLT, if_true, if_false, true_and, and_true, List.set_cons_zero, List.set_cons_succ, set_nm, set_tup, set_nil, set_cons, ifb, b1_abs, b1_int, b1_intB, b1_lenT, b1_lenL, b1_tupL, b1_tupT, b2_min, b2_max, seq_tup, seq_lst, seq_sq, gd_sq, ix_sq, len_sq, new_t, new_f, gd_tup, gd_lst, ix_lst, ty_int, ty_tup, ty_str, isi_ii, isi_ib, isi_tt, isi_ss, reduceIte, Bool.true_eq_false, Bool.false_eq_true, Bool.not_true, Bool.not_false,  List.zip_cons_cons, List.zip_nil_right, List.foldl_cons, List.foldl_nil, ne_eq, not_false_eq_true, not_true_eq_false, Bool.not_eq_true', decide_eq_false_iff_not, decide_eq_true_eq, reduceCtorEq, List.cons.injEq, and_self, D.ref.injEq, Cell.obj.injEq, D.int.injEq]
  refine ⟨by decide, fun r hr0 => ?_⟩
  refine lc_pureT (List.range n) (fun i => (sys k).row n (M i)) (fun i => (sys k).rowL n (M i)) hr0 (fun _ => trivial) ?_ ?_
  · intro i hi c K hK
    simp only [wipeD, body, exs, ex, ev, evs, evB, evO, evT, evI, startD, List.map_cons, List.map_nil, List.length_cons, List.length_nil, Nat.reduceAdd, Nat.reduceSub, List.replicate, List.cons_append, List.nil_append, List.append_nil, List.getElem?_cons_zero, List.getElem?_cons_succ, Option.some.injEq, exists_and_left, exists_eq_left', exists_eq_left, exists_eq, ix_tup, at0, at1, at2, op_add', op_sub', op_mul', op_fdiv', op_mod', op_pow', op_addT, cm_lt, cm_le, cm_gt, cm_ge, cm_eq, cm_ne, cm_eqS, cm_neS, onb, oni, yn_gd, yn_cls, Nat.reduceLT, if_true, if_false, true_and, and_true, List.set_cons_zero, List.set_cons_succ, set_nm, set_tup, set_nil, set_cons, ifb, b1_abs, b1_int, b1_intB, b1_lenT, b1_lenL, b1_tupL, b1_tupT, b2_min, b2_max, seq_tup, seq_lst, seq_sq, gd_sq, ix_sq, len_sq, new_t, new_f, gd_tup, gd_lst, ix_lst, ty_int, ty_tup, ty_str, isi_ii, isi_ib, isi_tt, isi_ss, reduceIte, Bool.true_eq_false, Bool.false_eq_true, Bool.not_true, Bool.not_false,  List.zip_cons_cons, List.zip_nil_right, List.foldl_cons, List.foldl_nil, ne_eq, not_false_eq_true, not_true_eq_false, Bool.not_eq_true', decide_eq_false_iff_not, decide_eq_true_eq, reduceCtorEq, List.cons.injEq, and_self, D.ref.injEq, Cell.obj.injEq, D.int.injEq]
    rw [listF_row]
    exact hK
  · have hmr : ∀ L : Nat → Nat → (sys k).F, put m r (.lst (rowsL (sys k) n L)) r = some (.lst ((List.range n).map fun i => (sys k).rowL n (L i))) := fun L => put_same
    have hlen : ∀ L : Nat → Nat → (sys k).F, ((List.range n).map fun i => (sys k).rowL n (L i)).length = n := fun L => by simp
    try simp only [body, exs, ex, ev, evs, evB, evO, evT, evI, startD, List.map_cons, List.map_nil, List.length_cons, List.length_nil, Nat.reduceAdd, Nat.reduceSub, List.replicate, List.cons_append, List.nil_append, List.append_nil, List.getElem?_cons_zero, List.getElem?_cons_succ, Option.some.injEq, exists_and_left, exists_eq_left', exists_eq_left, exists_eq, ix_tup, at0, at1, at2, op_add', op_sub', op_mul', op_fdiv', op_mod', op_pow', op_addT, cm_lt, cm_le, cm_gt, cm_ge, cm_eq, cm_ne, cm_eqS, cm_neS, onb, oni, yn_gd, yn_cls, Nat.reduceLT, if_true, if_false, true_and, and_true, List.set_cons_zero, List.set_cons_succ, set_nm, set_tup, set_nil, set_cons, ifb, b1_abs, b1_int, b1_intB, b1_lenT, b1_lenL, b1_tupL, b1_tupT, b2_min, b2_max, seq_tup, seq_lst, seq_sq, gd_sq, ix_sq, len_sq, new_t, new_f, gd_tup, gd_lst, ix_lst, ty_int, ty_tup, ty_str, isi_ii, isi_ib, isi_tt, isi_ss, reduceIte, Bool.true_eq_false, Bool.false_eq_true, Bool.not_true, Bool.not_false,  List.zip_cons_cons, List.zip_nil_right, List.foldl_cons, List.foldl_nil, ne_eq, not_false_eq_true, not_true_eq_false, Bool.not_eq_true', decide_eq_false_iff_not, decide_eq_true_eq, reduceCtorEq, List.cons.injEq, and_self, D.ref.injEq, Cell.obj.injEq, D.int.injEq]
    refine ⟨by decide, ?_⟩
    try simp only [body, exs, ex, ev, evs, evB, evO, evT, evI, startD, List.map_cons, List.map_nil, List.length_cons, List.length_nil, Nat.reduceAdd, Nat.reduceSub, List.replicate, List.cons_append, List.nil_append, List.append_nil, List.getElem?_cons_zero, List.getElem?_cons_succ, Option.some.injEq, exists_and_left, exists_eq_left', exists_eq_left, exists_eq, ix_tup, at0, at1, at2, op_add', op_sub', op_mul', op_fdiv', op_mod', op_pow', op_addT, cm_lt, cm_le, cm_gt, cm_ge, cm_eq, cm_ne, cm_eqS, cm_neS, onb, oni, yn_gd, yn_cls, Nat.reduceLT, if_true, if_false, true_and, and_true, List.set_cons_zero, List.set_cons_succ, set_nm, set_tup, set_nil, set_cons, ifb, b1_abs, b1_int, b1_intB, b1_lenT, b1_lenL, b1_tupL, b1_tupT, b2_min, b2_max, seq_tup, seq_lst, seq_sq, gd_sq, ix_sq, len_sq, new_t, new_f, gd_tup, gd_lst, ix_lst, ty_int, ty_tup, ty_str, isi_ii, isi_ib, isi_tt, isi_ss, reduceIte, Bool.true_eq_false, Bool.false_eq_true, Bool.not_true, Bool.not_false,  List.zip_cons_cons, List.zip_nil_right, List.foldl_cons, List.foldl_nil, ne_eq, not_false_eq_true, not_true_eq_false, Bool.not_eq_true', decide_eq_false_iff_not, decide_eq_true_eq, reduceCtorEq, List.cons.injEq, and_self, D.ref.injEq, Cell.obj.injEq, D.int.injEq]
    rw [len_ref put_same, hlen]
    try simp only [body, exs, ex, ev, evs, evB, evO, evT, evI, startD, List.map_cons, List.map_nil, List.length_cons, List.length_nil, Nat.reduceAdd, Nat.reduceSub, List.replicate, List.cons_append, List.nil_append, List.append_nil, List.getElem?_cons_zero, List.getElem?_cons_succ, Option.some.injEq, exists_and_left, exists_eq_left', exists_eq_left, exists_eq, ix_tup, at0, at1, at2, op_add', op_sub', op_mul', op_fdiv', op_mod', op_pow', op_addT, cm_lt, cm_le, cm_gt, cm_ge, cm_eq, cm_ne, cm_eqS, cm_neS, onb, oni, yn_gd, yn_cls, Nat.reduceLT, if_true, if_false, true_and, and_true, List.set_cons_zero, List.set_cons_succ, set_nm, set_tup, set_nil, set_cons, ifb, b1_abs, b1_int, b1_intB, b1_lenT, b1_lenL, b1_tupL, b1_tupT, b2_min, b2_max, seq_tup, seq_lst, seq_sq, gd_sq, ix_sq, len_sq, new_t, new_f, gd_tup, gd_lst, ix_lst, ty_int, ty_tup, ty_str, isi_ii, isi_ib, isi_tt, isi_ss, reduceIte, Bool.true_eq_false, Bool.false_eq_true, Bool.not_true, Bool.not_false,  List.zip_cons_cons, List.zip_nil_right, List.foldl_cons, List.foldl_nil, ne_eq, not_false_eq_true, not_true_eq_false, Bool.not_eq_true', decide_eq_false_iff_not, decide_eq_true_eq, reduceCtorEq, List.cons.injEq, and_self, D.ref.injEq, Cell.obj.injEq, D.int.injEq]
    refine ⟨by omega, by omega, ?_⟩
    rw [rgD_nat]
    refine for_inv _ (fun p r' m' => ∃ (L : Nat → Nat → (sys k).F) (x : (sys k).F) (o4 o5 o6 o7 o8 o9 o10 : Option D), r' = [some (.int (sys k).by_), some ((sys k).mat n n M), some ((sys k).d x), some (.ref r), o4, o5, o6, o7, o8, o9, o10] ∧ m' = put m r (.lst (rowsL (sys k) n L)) ∧ El b n p M L x) (List.range n) 0 _ _ ⟨M, 1, none, none, none, none, none, none, none, by rw [d1], rfl, El.start hM⟩ ?_ ?_
    · rintro p hp r' m' N ⟨L, x, o4, o5, o6, o7, o8, o9, o10, rfl, rfl, el⟩ kN
      have hp' : p < n := by simpa using hp
      have e : ∀ h, (List.range n)[p]'h = p := fun h => by simp
      simp only [Nat.zero_add] at el kN
      simp only [e, body, exs, ex, ev, evs, evB, evO, evT, evI, startD, List.map_cons, List.map_nil, List.length_cons, List.length_nil, Nat.reduceAdd, Nat.reduceSub, List.replicate, List.cons_append, List.nil_append, List.append_nil, List.getElem?_cons_zero, List.getElem?_cons_succ, Option.some.injEq, exists_and_left, exists_eq_left', exists_eq_left, exists_eq, ix_tup, at0, at1, at2, op_add', op_sub', op_mul', op_fdiv', op_mod', op_pow', op_addT, cm_lt, cm_le, cm_gt, cm_ge, cm_eq, cm_ne, cm_eqS, cm_neS, onb, oni, yn_gd, yn_cls, Nat.reduceLT, if_true, if_false, true_and, and_true, List.set_cons_zero, List.set_cons_succ, set_nm, set_tup, set_nil, set_cons, ifb, b1_abs, b1_int, b1_intB, b1_lenT, b1_lenL, b1_tupL, b1_tupT, b2_min, b2_max, seq_tup, seq_lst, seq_sq, gd_sq, ix_sq, len_sq, new_t, new_f, gd_tup, gd_lst, ix_lst, ty_int, ty_tup, ty_str, isi_ii, isi_ib, isi_tt, isi_ss, reduceIte, Bool.true_eq_false, Bool.false_eq_true, Bool.not_true, Bool.not_false,  List.zip_cons_cons, List.zip_nil_right, List.foldl_cons, List.foldl_nil, ne_eq, not_false_eq_true, not_true_eq_false, Bool.not_eq_true', decide_eq_false_iff_not, decide_eq_true_eq, reduceCtorEq, List.cons.injEq, and_self, D.ref.injEq, Cell.obj.injEq, D.int.injEq]
      rw [exs_cut 3]
      have tail : ∀ (L2 : Nat → Nat → (sys k).F) (x2 : (sys k).F) (o5 o6 o7 o8 o9 o10 : Option D) (bk : KR) (rt : KD), El b n p M L2 x2 → L2 p p ≠ 0 → exs X (bOwn.drop 3) [some (.int (sys k).by_), some ((sys k).mat n n M), some ((sys k).d x2), some (.ref r), some (.int (p : Int)), o5, o6, o7, o8, o9, o10] (put m r (.lst (rowsL (sys k) n L2))) { nx := N, ct := N, bk := bk, rt := rt } := fun L2 x2 o5 o6 o7 o8 o9 o10 bk rt el2 h0 =>
        own_tail hl ht ho n2 room hp' el2 h0 fun L3 x3 _ _ el3 => kN _ _ ⟨L3, x3, _, _, _, _, _, _, _, rfl, rfl, el3⟩
      generalize bOwn.drop 3 = rest at tail ⊢
      simp only [bOwn, c7, List.take, List.getElem?_cons_succ, List.getElem?_cons_zero, hl, body, exs, ex, ev, evs, evB, evO, evT, evI, startD, List.map_cons, List.map_nil, List.length_cons, List.length_nil, Nat.reduceAdd, Nat.reduceSub, List.replicate, List.cons_append, List.nil_append, List.append_nil, List.getElem?_cons_zero, List.getElem?_cons_succ, Option.some.injEq, exists_and_left, exists_eq_left', exists_eq_left, exists_eq, ix_tup, at0, at1, at2, op_add', op_sub', op_mul', op_fdiv', op_mod', op_pow', op_addT, cm_lt, cm_le, cm_gt, cm_ge, cm_eq, cm_ne, cm_eqS, cm_neS, onb, oni, yn_gd, yn_cls, Nat.reduceLT, if_true, if_false, true_and, and_true, List.set_cons_zero, List.set_cons_succ, set_nm, set_tup, set_nil, set_cons, ifb, b1_abs, b1_int, b1_intB, b1_lenT, b1_lenL, b1_tupL, b1_tupT, b2_min, b2_max, seq_tup, seq_lst, seq_sq, gd_sq, ix_sq, len_sq, new_t, new_f, gd_tup, gd_lst, ix_lst, ty_int, ty_tup, ty_str, isi_ii, isi_ib, isi_tt, isi_ss, reduceIte, Bool.true_eq_false, Bool.false_eq_true, Bool.not_true, Bool.not_false,  List.zip_cons_cons, List.zip_nil_right, List.foldl_cons, List.foldl_nil, ne_eq, not_false_eq_true, not_true_eq_false, Bool.not_eq_true', decide_eq_false_iff_not, decide_eq_true_eq, reduceCtorEq, List.cons.injEq, and_self, D.ref.injEq, Cell.obj.injEq, D.int.injEq]
      rw [len_ref (hmr L), hlen]
      try simp only [body, exs, ex, ev, evs, evB, evO, evT, evI, startD, List.map_cons, List.map_nil, List.length_cons, List.length_nil, Nat.reduceAdd, Nat.reduceSub, List.replicate, List.cons_append, List.nil_append, List.append_nil, List.getElem?_cons_zero, List.getElem?_cons_succ, Option.some.injEq, exists_and_left, exists_eq_left', exists_eq_left, exists_eq, ix_tup, at0, at1, at2, op_add', op_sub', op_mul', op_fdiv', op_mod', op_pow', op_addT, cm_lt, cm_le, cm_gt, cm_ge, cm_eq, cm_ne, cm_eqS, cm_neS, onb, oni, yn_gd, yn_cls, Nat.reduceLT, if_true, if_false, true_and, and_true, List.set_cons_zero, List.set_cons_succ, set_nm, set_tup, set_nil, set_cons, ifb, b1_abs, b1_int, b1_intB, b1_lenT, b1_lenL, b1_tupL, b1_tupT, b2_min, b2_max, seq_tup, seq_lst, seq_sq, gd_sq, ix_sq, len_sq, new_t, new_f, gd_tup, gd_lst, ix_lst, ty_int, ty_tup, ty_str, isi_ii, isi_ib, isi_tt, isi_ss, reduceIte, Bool.true_eq_false, Bool.false_eq_true, Bool.not_true, Bool.not_false,  List.zip_cons_cons, List.zip_nil_right, List.foldl_cons, List.foldl_nil, ne_eq, not_false_eq_true, not_true_eq_false, Bool.not_eq_true', decide_eq_false_iff_not, decide_eq_true_eq, reduceCtorEq, List.cons.injEq, and_self, D.ref.injEq, Cell.obj.injEq, D.int.injEq]
      refine ⟨⟨by omega, by omega⟩, ⟨by omega, by omega⟩, by omega, ?_⟩
      rw [rg_from (by omega)]
      refine lc_filter (List.range' p (n - p)) (fun i => .int ((i : Nat) : Int)) (fun i => .int ((i : Nat) : Int)) (fun i => !decide (L i p = 0)) (fun _ _ _ => trivial) ?_ ?_
      · intro i hi q' c K hq' hK
        rw [List.mem_range'_1] at hi
        have nrq : r ≠ q' := fun z => by rw [← z, hmr] at hq'; cases hq'
        simp only [wipeD, body, exs, ex, ev, evs, evB, evO, evT, evI, startD, List.map_cons, List.map_nil, List.length_cons, List.length_nil, Nat.reduceAdd, Nat.reduceSub, List.replicate, List.cons_append, List.nil_append, List.append_nil, List.getElem?_cons_zero, List.getElem?_cons_succ, Option.some.injEq, exists_and_left, exists_eq_left', exists_eq_left, exists_eq, ix_tup, at0, at1, at2, op_add', op_sub', op_mul', op_fdiv', op_mod', op_pow', op_addT, cm_lt, cm_le, cm_gt, cm_ge, cm_eq, cm_ne, cm_eqS, cm_neS, onb, oni, yn_gd, yn_cls, Nat.reduceLT, if_true, if_false, true_and, and_true, List.set_cons_zero, List.set_cons_succ, set_nm, set_tup, set_nil, set_cons, ifb, b1_abs, b1_int, b1_intB, b1_lenT, b1_lenL, b1_tupL, b1_tupT, b2_min, b2_max, seq_tup, seq_lst, seq_sq, gd_sq, ix_sq, len_sq, new_t, new_f, gd_tup, gd_lst, ix_lst, ty_int, ty_tup, ty_str, isi_ii, isi_ib, isi_tt, isi_ss, reduceIte, Bool.true_eq_false, Bool.false_eq_true, Bool.not_true, Bool.not_false,  List.zip_cons_cons, List.zip_nil_right, List.foldl_cons, List.foldl_nil, ne_eq, not_false_eq_true, not_true_eq_false, Bool.not_eq_true', decide_eq_false_iff_not, decide_eq_true_eq, reduceCtorEq, List.cons.injEq, and_self, D.ref.injEq, Cell.obj.injEq, D.int.injEq]
        rw [ix_cell (by rw [put_ne nrq]; exact hmr L) (by omega), rowL_get hp']
        refine ⟨by decide, ?_⟩
        rw [← d0 (S := sys k), ne_d]
        try simp only [body, exs, ex, ev, evs, evB, evO, evT, evI, startD, List.map_cons, List.map_nil, List.length_cons, List.length_nil, Nat.reduceAdd, Nat.reduceSub, List.replicate, List.cons_append, List.nil_append, List.append_nil, List.getElem?_cons_zero, List.getElem?_cons_succ, Option.some.injEq, exists_and_left, exists_eq_left', exists_eq_left, exists_eq, ix_tup, at0, at1, at2, op_add', op_sub', op_mul', op_fdiv', op_mod', op_pow', op_addT, cm_lt, cm_le, cm_gt, cm_ge, cm_eq, cm_ne, cm_eqS, cm_neS, onb, oni, yn_gd, yn_cls, Nat.reduceLT, if_true, if_false, true_and, and_true, List.set_cons_zero, List.set_cons_succ, set_nm, set_tup, set_nil, set_cons, ifb, b1_abs, b1_int, b1_intB, b1_lenT, b1_lenL, b1_tupL, b1_tupT, b2_min, b2_max, seq_tup, seq_lst, seq_sq, gd_sq, ix_sq, len_sq, new_t, new_f, gd_tup, gd_lst, ix_lst, ty_int, ty_tup, ty_str, isi_ii, isi_ib, isi_tt, isi_ss, reduceIte, Bool.true_eq_false, Bool.false_eq_true, Bool.not_true, Bool.not_false,  List.zip_cons_cons, List.zip_nil_right, List.foldl_cons, List.foldl_nil, ne_eq, not_false_eq_true, not_true_eq_false, Bool.not_eq_true', decide_eq_false_iff_not, decide_eq_true_eq, reduceCtorEq, List.cons.injEq, and_self, D.ref.injEq, Cell.obj.injEq, D.int.injEq]
        by_cases hz : L i p = 0
        · rw [if_neg (by simpa using hz)]
          simpa [hz] using hK
        · rw [if_pos (by simpa using hz)]
          simpa [hz] using hK
      · try simp only [body, exs, ex, ev, evs, evB, evO, evT, evI, startD, List.map_cons, List.map_nil, List.length_cons, List.length_nil, Nat.reduceAdd, Nat.reduceSub, List.replicate, List.cons_append, List.nil_append, List.append_nil, List.getElem?_cons_zero, List.getElem?_cons_succ, Option.some.injEq, exists_and_left, exists_eq_left', exists_eq_left, exists_eq, ix_tup, at0, at1, at2, op_add', op_sub', op_mul', op_fdiv', op_mod', op_pow', op_addT, cm_lt, cm_le, cm_gt, cm_ge, cm_eq, cm_ne, cm_eqS, cm_neS, onb, oni, yn_gd, yn_cls, Nat.reduceLT, if_true, if_false, true_and, and_true, List.set_cons_zero, List.set_cons_succ, set_nm, set_tup, set_nil, set_cons, ifb, b1_abs, b1_int, b1_intB, b1_lenT, b1_lenL, b1_tupL, b1_tupT, b2_min, b2_max, seq_tup, seq_lst, seq_sq, gd_sq, ix_sq, len_sq, new_t, new_f, gd_tup, gd_lst, ix_lst, ty_int, ty_tup, ty_str, isi_ii, isi_ib, isi_tt, isi_ss, reduceIte, Bool.true_eq_false, Bool.false_eq_true, Bool.not_true, Bool.not_false,  List.zip_cons_cons, List.zip_nil_right, List.foldl_cons, List.foldl_nil, ne_eq, not_false_eq_true, not_true_eq_false, Bool.not_eq_true', decide_eq_false_iff_not, decide_eq_true_eq, reduceCtorEq, List.cons.injEq, and_self, D.ref.injEq, Cell.obj.injEq, D.int.injEq]
        refine ⟨by decide, ?_⟩
        rw [eq_nilL (flats_map (fun _ => rfl) _)]
        try simp only [body, exs, ex, ev, evs, evB, evO, evT, evI, startD, List.map_cons, List.map_nil, List.length_cons, List.length_nil, Nat.reduceAdd, Nat.reduceSub, List.replicate, List.cons_append, List.nil_append, List.append_nil, List.getElem?_cons_zero, List.getElem?_cons_succ, Option.some.injEq, exists_and_left, exists_eq_left', exists_eq_left, exists_eq, ix_tup, at0, at1, at2, op_add', op_sub', op_mul', op_fdiv', op_mod', op_pow', op_addT, cm_lt, cm_le, cm_gt, cm_ge, cm_eq, cm_ne, cm_eqS, cm_neS, onb, oni, yn_gd, yn_cls, Nat.reduceLT, if_true, if_false, true_and, and_true, List.set_cons_zero, List.set_cons_succ, set_nm, set_tup, set_nil, set_cons, ifb, b1_abs, b1_int, b1_intB, b1_lenT, b1_lenL, b1_tupL, b1_tupT, b2_min, b2_max, seq_tup, seq_lst, seq_sq, gd_sq, ix_sq, len_sq, new_t, new_f, gd_tup, gd_lst, ix_lst, ty_int, ty_tup, ty_str, isi_ii, isi_ib, isi_tt, isi_ss, reduceIte, Bool.true_eq_false, Bool.false_eq_true, Bool.not_true, Bool.not_false,  List.zip_cons_cons, List.zip_nil_right, List.foldl_cons, List.foldl_nil, ne_eq, not_false_eq_true, not_true_eq_false, Bool.not_eq_true', decide_eq_false_iff_not, decide_eq_true_eq, reduceCtorEq, List.cons.injEq, and_self, D.ref.injEq, Cell.obj.injEq, D.int.injEq]
        cases hf : (List.range' p (n - p)).filter fun i => !decide (L i p = 0) with
        | nil =>
          rw [if_pos (by simp)]
          have hz := el.stop hp' fun i h1 h2 => by
            have := List.filter_eq_nil_iff.mp hf i (by rw [List.mem_range'_1]; omega)
            simpa using this
          rw [hz, d0] at q
          exact ⟨by decide, m, subo_lst wf hr0, q⟩
        | cons a rest' =>
          rw [if_neg (by simp)]
          have ha : a ∈ (List.range' p (n - p)).filter fun i => !decide (L i p = 0) := by rw [hf]; exact List.mem_cons_self
          obtain ⟨ha1, ha2⟩ := List.mem_filter.mp ha
          rw [List.mem_range'_1] at ha1
          have hne : L a p ≠ 0 := by simpa using ha2
          simp only [List.map_cons, body, exs, ex, ev, evs, evB, evO, evT, evI, startD, List.map_cons, List.map_nil, List.length_cons, List.length_nil, Nat.reduceAdd, Nat.reduceSub, List.replicate, List.cons_append, List.nil_append, List.append_nil, List.getElem?_cons_zero, List.getElem?_cons_succ, Option.some.injEq, exists_and_left, exists_eq_left', exists_eq_left, exists_eq, ix_tup, at0, at1, at2, op_add', op_sub', op_mul', op_fdiv', op_mod', op_pow', op_addT, cm_lt, cm_le, cm_gt, cm_ge, cm_eq, cm_ne, cm_eqS, cm_neS, onb, oni, yn_gd, yn_cls, Nat.reduceLT, if_true, if_false, true_and, and_true, List.set_cons_zero, List.set_cons_succ, set_nm, set_tup, set_nil, set_cons, ifb, b1_abs, b1_int, b1_intB, b1_lenT, b1_lenL, b1_tupL, b1_tupT, b2_min, b2_max, seq_tup, seq_lst, seq_sq, gd_sq, ix_sq, len_sq, new_t, new_f, gd_tup, gd_lst, ix_lst, ty_int, ty_tup, ty_str, isi_ii, isi_ib, isi_tt, isi_ss, reduceIte, Bool.true_eq_false, Bool.false_eq_true, Bool.not_true, Bool.not_false,  List.zip_cons_cons, List.zip_nil_right, List.foldl_cons, List.foldl_nil, ne_eq, not_false_eq_true, not_true_eq_false, Bool.not_eq_true', decide_eq_false_iff_not, decide_eq_true_eq, reduceCtorEq, List.cons.injEq, and_self, D.ref.injEq, Cell.obj.injEq, D.int.injEq]
          by_cases hap : (a : Int) = (p : Int)
          · rw [if_neg (by simpa using hap)]
            have : a = p := by omega
            subst this
            exact tail L x _ _ _ _ _ _ _ _ el hne
          · rw [if_pos (by simpa using hap)]
            rw [ix_cell (hmr L) (by omega), ix_cell (hmr L) hp']
            refine ⟨by decide, _, _, rfl, ?_⟩
            refine ⟨r, _, _, p, rfl, rfl, hmr L, ixN_nat (by rw [hlen]; exact hp'), ?_⟩
            refine ⟨r, _, _, a, rfl, rfl, put_same, ixN_nat (by rw [List.length_set, hlen]; omega), ?_⟩
            rw [put_put, put_put, map_set, map_set]
            refine ⟨by decide, k, 0, x, by rw [d0], Sm.two (Sm_of (n := 7) ((sys k).cd_zero (d := 1)) (by decide) (by decide) (by decide) (by decide) (by decide)) (el.xs.sm (Nat.le_trans (Nat.add_le_add_right (sB_mono (by omega)) _) room)), ?_⟩
            have ez : (0 : (sys k).F) + -x = -x := by grind
            rw [ez]
            have es : ((List.range n).map fun i => if i = a then (sys k).rowL n (L p) else if i = p then (sys k).rowL n (L a) else (sys k).rowL n (L i)) = rowsL (sys k) n (swp p a L) := List.map_congr_left fun i hi => by
              unfold swp
              by_cases z : i = p
              · subst z
                rw [if_neg (by omega), if_pos rfl, if_pos rfl]
              · rw [if_neg z, if_neg z]
                by_cases y : i = a
                · rw [if_pos y, if_pos y]
                · rw [if_neg y, if_neg y]
            rw [es]
            exact tail (swp p a L) (-x) _ _ _ _ _ _ _ _ (el.swap (by omega) (by omega)) (by unfold swp; rw [if_pos rfl]; exact hne)
    · rintro r' m' ⟨L, x, o4, o5, o6, o7, o8, o9, o10, rfl, rfl, el⟩
      rw [List.length_range, Nat.zero_add] at el
      try simp only [body, exs, ex, ev, evs, evB, evO, evT, evI, startD, List.map_cons, List.map_nil, List.length_cons, List.length_nil, Nat.reduceAdd, Nat.reduceSub, List.replicate, List.cons_append, List.nil_append, List.append_nil, List.getElem?_cons_zero, List.getElem?_cons_succ, Option.some.injEq, exists_and_left, exists_eq_left', exists_eq_left, exists_eq, ix_tup, at0, at1, at2, op_add', op_sub', op_mul', op_fdiv', op_mod', op_pow', op_addT, cm_lt, cm_le, cm_gt, cm_ge, cm_eq, cm_ne, cm_eqS, cm_neS, onb, oni, yn_gd, yn_cls, Nat.reduceLT, if_true, if_false, true_and, and_true, List.set_cons_zero, List.set_cons_succ, set_nm, set_tup, set_nil, set_cons, ifb, b1_abs, b1_int, b1_intB, b1_lenT, b1_lenL, b1_tupL, b1_tupT, b2_min, b2_max, seq_tup, seq_lst, seq_sq, gd_sq, ix_sq, len_sq, new_t, new_f, gd_tup, gd_lst, ix_lst, ty_int, ty_tup, ty_str, isi_ii, isi_ib, isi_tt, isi_ss, reduceIte, Bool.true_eq_false, Bool.false_eq_true, Bool.not_true, Bool.not_false,  List.zip_cons_cons, List.zip_nil_right, List.foldl_cons, List.foldl_nil, ne_eq, not_false_eq_true, not_true_eq_false, Bool.not_eq_true', decide_eq_false_iff_not, decide_eq_true_eq, reduceCtorEq, List.cons.injEq, and_self, D.ref.injEq, Cell.obj.injEq, D.int.injEq]
      rw [el.done]
      exact ⟨m, subo_lst wf hr0, q⟩
end Og.Lk44
end
section
set_option maxHeartbeats 4000000
set_option autoImplicit false
/-! Og: all ways to pick a place from each row. -/
namespace Og
open PySem
/-- one place more -/
def wayN (n : Nat) (w : List Nat) : List (List Nat) := ((List.range n).filter fun a => !w.contains a).map fun a => w ++ [a]
def waysN (n : Nat) : Nat → List (List Nat)
  | 0 => [[]]
  | i + 1 => ((waysN n i).map (wayN n)).flatten
def invN (w : List Nat) : Int := ((List.range w.length).map fun a => (((w.take a).filter fun x => decide (w.getD a 0 < x)).length : Int)).sum
theorem ways_small : ∀ n, n < 5 → ∀ i, i ≤ n → (waysN n i).length ≤ 24 := by decide
theorem ways_ok : ∀ n, n < 5 → ∀ w ∈ waysN n n, w.length = n ∧ ∀ t, t < n → w.getD t 0 < n := by decide
theorem ways_len : ∀ n, n < 5 → ∀ i, i ≤ n → ∀ w ∈ waysN n i, w.length ≤ 5 := by decide
section
variable {S : Sys}
def pick (n : Nat) (M : Nat → Nat → S.F) (w : List Nat) : S.F := pr n fun t => M t (w.getD t 0)
def leib (n : Nat) (M : Nat → Nat → S.F) : List (List Nat) → S.F → S.F
  | [], x => x
  | w :: ws, x => leib n M ws (if (invN w) % 2 = 1 then x + -(pick n M w) else x + pick n M w)
theorem leib_det : ∀ n, 1 ≤ n → n < 5 → ∀ M : Nat → Nat → S.F, leib n M (waysN n n) 0 = det n M
  | 1, _, _, M => by
    have e : waysN 1 1 = [[0]] := by decide
    have i0 : invN [0] = 0 := by decide
    rw [e]
    simp only [leib, i0, pick, pr, det, sm, mnr, sk, sgn, List.getD_cons_zero]
    simp (decide := true) only [if_true, if_false]
    grind
  | 2, _, _, M => by
    have e : waysN 2 2 = [[0, 1], [1, 0]] := by decide
    have i0 : invN [0, 1] = 0 := by decide
    have i1 : invN [1, 0] = 1 := by decide
    rw [e]
    simp only [leib, i0, i1, pick, pr, det, sm, mnr, sk, sgn, List.getD_cons_zero, List.getD_cons_succ]
    simp (decide := true) only [if_true, if_false]
    grind
  | 3, _, _, M => by
    have e : waysN 3 3 = [[0, 1, 2], [0, 2, 1], [1, 0, 2], [1, 2, 0], [2, 0, 1], [2, 1, 0]] := by decide
    have i0 : invN [0, 1, 2] = 0 := by decide
    have i1 : invN [0, 2, 1] = 1 := by decide
    have i2 : invN [1, 0, 2] = 1 := by decide
    have i3 : invN [1, 2, 0] = 2 := by decide
    have i4 : invN [2, 0, 1] = 2 := by decide
    have i5 : invN [2, 1, 0] = 3 := by decide
    rw [e]
    simp only [leib, i0, i1, i2, i3, i4, i5, pick, pr, det, sm, mnr, sk, sgn, List.getD_cons_zero, List.getD_cons_succ]
    simp (decide := true) only [if_true, if_false]
    grind
  | 4, _, _, M => by
    have e : waysN 4 4 = [[0, 1, 2, 3], [0, 1, 3, 2], [0, 2, 1, 3], [0, 2, 3, 1], [0, 3, 1, 2], [0, 3, 2, 1], [1, 0, 2, 3], [1, 0, 3, 2], [1, 2, 0, 3], [1, 2, 3, 0], [1, 3, 0, 2], [1, 3, 2, 0], [2, 0, 1, 3], [2, 0, 3, 1], [2, 1, 0, 3], [2, 1, 3, 0], [2, 3, 0, 1], [2, 3, 1, 0], [3, 0, 1, 2], [3, 0, 2, 1], [3, 1, 0, 2], [3, 1, 2, 0], [3, 2, 0, 1], [3, 2, 1, 0]] := by decide +kernel
    have i0 : invN [0, 1, 2, 3] = 0 := by decide
    have i1 : invN [0, 1, 3, 2] = 1 := by decide
    have i2 : invN [0, 2, 1, 3] = 1 := by decide
    have i3 : invN [0, 2, 3, 1] = 2 := by decide
    have i4 : invN [0, 3, 1, 2] = 2 := by decide
    have i5 : invN [0, 3, 2, 1] = 3 := by decide
    have i6 : invN [1, 0, 2, 3] = 1 := by decide
    have i7 : invN [1, 0, 3, 2] = 2 := by decide
    have i8 : invN [1, 2, 0, 3] = 2 := by decide
    have i9 : invN [1, 2, 3, 0] = 3 := by decide
    have i10 : invN [1, 3, 0, 2] = 3 := by decide
    have i11 : invN [1, 3, 2, 0] = 4 := by decide
    have i12 : invN [2, 0, 1, 3] = 2 := by decide
    have i13 : invN [2, 0, 3, 1] = 3 := by decide
    have i14 : invN [2, 1, 0, 3] = 3 := by decide
    have i15 : invN [2, 1, 3, 0] = 4 := by decide
    have i16 : invN [2, 3, 0, 1] = 4 := by decide
    have i17 : invN [2, 3, 1, 0] = 5 := by decide
    have i18 : invN [3, 0, 1, 2] = 3 := by decide
    have i19 : invN [3, 0, 2, 1] = 4 := by decide
    have i20 : invN [3, 1, 0, 2] = 4 := by decide
    have i21 : invN [3, 1, 2, 0] = 5 := by decide
    have i22 : invN [3, 2, 0, 1] = 5 := by decide
    have i23 : invN [3, 2, 1, 0] = 6 := by decide
    rw [e]
    simp only [leib, i0, i1, i2, i3, i4, i5, i6, i7, i8, i9, i10, i11, i12, i13, i14, i15, i16, i17, i18, i19, i20, i21, i22, i23, pick, pr, det, sm, mnr, sk, sgn, List.getD_cons_zero, List.getD_cons_succ]
    simp (decide := true) only [if_true, if_false]
    grind
end
end Og
end
section
set_option maxHeartbeats 4000000
set_option autoImplicit false
/-! Og: comprehensions that pick, into a list that may change. -/
namespace Og
open PySem
theorem lc_filterT {ι : Type} {G : Mem → Prop} {T : D → Mem → (Option D → Mem → Prop) → Prop} {m0 : Mem} {Q : KD} {p : Addr} (l : List ι) (g h : ι → D) (keep : ι → Bool) (hp : m0 p = none) (hG : ∀ c, G (put m0 p c)) (ht : ∀ i ∈ l, ∀ c K, K (if keep i = true then some (h i) else none) (put m0 p c) → T (g i) (put m0 p c) K)
    (hQ : Q (.ref p) (put m0 p (.lst ((l.filter keep).map h)))) : lcL G T p (l.map g) [] (put m0 p (.lst [])) (lcEnd true p Q) := by
  have go : ∀ (l : List ι) (acc : List D), (∀ i ∈ l, ∀ c K, K (if keep i = true then some (h i) else none) (put m0 p c) → T (g i) (put m0 p c) K) → Q (.ref p) (put m0 p (.lst (acc ++ (l.filter keep).map h))) → lcL G T p (l.map g) acc (put m0 p (.lst acc)) (lcEnd true p Q) := by
    intro l
    induction l with
    | nil =>
      intro acc _ hq
      simp only [List.map_nil, lcL]
      exact ⟨hG _, put_same, show Q (.ref p) (put m0 p (.lst acc)) from by simpa using hq⟩
    | cons i l ih =>
      intro acc ht hq
      simp only [List.map_cons, lcL]
      refine ⟨hG _, ht i List.mem_cons_self _ _ ⟨put_same, ?_⟩⟩
      by_cases hk : keep i = true
      · simp only [if_pos hk, put_put]
        refine ih _ (fun j hj => ht j (List.mem_cons_of_mem _ hj)) ?_
        rw [List.filter_cons, if_pos hk] at hq
        simpa using hq
      · simp only [if_neg hk]
        refine ih _ (fun j hj => ht j (List.mem_cons_of_mem _ hj)) ?_
        rw [List.filter_cons, if_neg hk] at hq
        exact hq
  exact go l [] ht (by simpa using hQ)
/-- a memory with more cells -/
structure Ext (m M : Mem) : Prop where
  wf : WfM M
  keep : ∀ a c, m a = some c → M a = some c
theorem Ext.refl {m : Mem} (w : WfM m) : Ext m m := ⟨w, fun _ _ h => h⟩
theorem Ext.trans {m m1 m2 : Mem} (h : Ext m m1) (h' : Ext m1 m2) : Ext m m2 := ⟨h'.wf, fun a c e => h'.keep a c (h.keep a c e)⟩
theorem Ext.new {m M : Mem} (h : Ext m M) {p : Addr} {l : List D} (hp : M p = none) : Ext m (put M p (.lst l)) := ⟨wf_lst h.wf hp, fun a c e => by rw [put_ne (ne_of_mem (h.keep a c e) hp)]; exact h.keep a c e⟩
theorem Ext.sub {m M : Mem} (w : WfM m) (h : Ext m M) : SubO m M := ⟨h.keep, fun a C dx fs e => by
  have q := w a C dx fs e
  rw [q, h.keep _ _ q]⟩
theorem wf_set {M : Mem} {q : Addr} {l l' : List D} (w : WfM M) (h : M q = some (.lst l)) : WfM (put M q (.lst l')) := wf_chg w ⟨_, rfl⟩ ⟨_, h⟩
/-- a cell of our own is written -/
theorem Ext.set {m M : Mem} (h : Ext m M) {p : Addr} {l l' : List D} (hp : M p = some (.lst l)) (hm : m p = none) : Ext m (put M p (.lst l')) := ⟨wf_set h.wf hp, fun a c e => by rw [put_ne (ne_of_mem e hm)]; exact h.keep a c e⟩
theorem Bs.add' {S : Sys} {b c : Nat} {x y : S.F} (h : ∃ d, 0 < d ∧ d ≤ 2 ^ b ∧ S.cd d (2 ^ b) x) (h' : ∃ d, 0 < d ∧ d ≤ 2 ^ c ∧ S.cd d (2 ^ c) y) : ∃ d, 0 < d ∧ d ≤ 2 ^ (b + c + 1) ∧ S.cd d (2 ^ (b + c + 1)) (x + y) := by
  obtain ⟨d, h0, h1, h2⟩ := h
  obtain ⟨e, k0, k1, k2⟩ := h'
  have p : (2 : Nat) ^ (b + c + 1) = 2 ^ b * 2 ^ c * 2 := by rw [Nat.pow_succ, Nat.pow_add]
  have q0 : d * e ≤ 2 ^ b * 2 ^ c := Nat.mul_le_mul h1 k1
  have q1 : 2 ^ b * e ≤ 2 ^ b * 2 ^ c := Nat.mul_le_mul_left _ k1
  have q2 : 2 ^ c * d ≤ 2 ^ b * 2 ^ c := by rw [Nat.mul_comm]; exact Nat.mul_le_mul_right _ h1
  have k3 := S.cd_up d k2
  rw [Nat.mul_comm e d] at k3
  exact ⟨d * e, Nat.mul_pos h0 k0, by omega, S.cd_le (S.cd_add (S.cd_up e h2) k3) (by omega)⟩
theorem zip_len {f : Nat → D} {w : List Nat} {n : Nat} (h : w.length = n) (g : Nat → D) : zipD ((List.range n).map f) (w.map g) = (List.range n).map fun t => D.tup [f t, g (w.getD t 0)] := by
  have e : w.map g = (List.range n).map fun t => g (w.getD t 0) := by
    apply List.ext_getElem?
    intro i
    rw [List.getElem?_map, List.getElem?_map]
    by_cases hi : i < n
    · rw [List.getElem?_range hi, List.getElem?_eq_getElem (by omega)]
      simp [List.getD_eq_getElem?_getD, List.getElem?_eq_getElem (show i < w.length by omega)]
    · rw [List.getElem?_eq_none (by omega), List.getElem?_eq_none (l := List.range _) (by simp; omega)]
      rfl
  rw [e, zip_map]
end Og
end
section
set_option maxHeartbeats 4000000
set_option autoImplicit false
namespace Og.Lk44
open PySem Og
def wayD (w : List Nat) : D := .tup (w.map fun a : Nat => D.int (a : Int))
def s_pick : Spec := fun ds m Q => ∃ (k : Ks) (n b : Nat) (M : Nat → Nat → (sys k).F), ds = [.int (sys k).by_, (sys k).mat n n M] ∧ 1 ≤ n ∧ n < 5 ∧ WfM m ∧ 200 * b + 1000 ≤ 2 ^ 26 ∧ (∀ i, i < n → Bt n b (M i)) ∧ Q ((sys k).d (leib n M (waysN n n) 0)) m
theorem sl_way {w : List Nat} {a : Nat} {m : Mem} {Q : KD} (h : a ≤ w.length) : slD false m (wayD w) none (some (a : Int)) Q = Q (.tup ((w.take a).map fun a : Nat => D.int (a : Int))) m := by
  show Q (.tup (cutD (w.map fun a : Nat => D.int (a : Int)) none (some (a : Int)))) m = _
  congr 2
  unfold cutD
  rw [HT.sIx_none, HT.sIx_nat, List.length_map, Nat.min_eq_left h, List.drop_zero, Nat.sub_zero, List.map_take]
theorem ix_way {w : List Nat} {a : Nat} {m : Mem} {Q : KD} (h : a < w.length) : ixD m (wayD w) (.int (a : Int)) (fun d m' => Q d m') = Q (.int ((w.getD a 0 : Nat) : Int)) m := by
  unfold wayD
  rw [ix_tup, atI_nat, List.getElem?_map, List.getElem?_eq_getElem h, List.getD_eq_getElem?_getD, List.getElem?_eq_getElem h]
  simp
theorem not_in {a : Nat} {w : List Nat} {m : Mem} {Q : KD} (q : Q (.bl (!w.contains a)) m) : cmpD .notin (.int (a : Int)) (wayD w) m Q := by
  refine ⟨_, rfl, L2.V.int a, w.map fun x : Nat => L2.V.int (x : Int), rfl, by rw [List.map_map, List.map_map]; rfl, ?_⟩
  have e : L2.inV (L2.V.int (a : Int)) (w.map fun x : Nat => L2.V.int (x : Int)) = w.contains a := by
    unfold L2.inV
    rw [List.any_map, List.contains_eq_any_beq]
    congr 1
    funext x
    show ((x : Int) == (a : Int)) = (a == x)
    by_cases z : x = a
    · subst z; simp
    · have z2 : ((x : Int) == (a : Int)) = false := by rw [beq_eq_false_iff_ne]; omega
      have z3 : (a == x) = false := by rw [beq_eq_false_iff_ne]; omega
      rw [z2, z3]
  rw [e]; exact q
def bPick : List S := match (c5[1]? : Option S) with
  | some (S.for_ _ _ b) => b
  | _ => []
def bPick2 : List S := match (c5[2]? : Option S) with
  | some (S.for_ _ _ b) => b
  | _ => []
theorem c_pick : c5 = c5.take 1 ++ (.for_ (.nm 4) (.sq (.x 1)) bPick :: .for_ (.nm 6) (.sq (.x 3)) bPick2 :: c5.drop 3) := rfl
/-- the ways, as they lie -/
def WaysAt (M : Mem) (v : D) (ws : List (List Nat)) : Prop := v = .lst (ws.map wayD) ∨ ∃ q, v = .ref q ∧ M q = some (.lst (ws.map wayD))
theorem WaysAt.seq {M : Mem} {v : D} {ws : List (List Nat)} (h : WaysAt M v ws) : seqOf M v = some (ws.map wayD) := by
  rcases h with rfl | ⟨q, rfl, h⟩
  · rfl
  · exact seq_ref h
theorem WaysAt.guard {M A B : Mem} {v : D} {ws : List (List Nat)} (h : WaysAt M v ws) (k : ∀ a c, M a = some c → A a = some c) (k2 : ∀ a c, M a = some c → B a = some c) : Og.guard A v B := by
  rcases h with rfl | ⟨q, rfl, h⟩
  · trivial
  · show B q = A q
    rw [k _ _ h, k2 _ _ h]
theorem WaysAt.mono {M M' : Mem} {v : D} {ws : List (List Nat)} (h : WaysAt M v ws) (k : ∀ a c, M a = some c → M' a = some c) : WaysAt M' v ws := by
  rcases h with rfl | ⟨q, rfl, h⟩
  · exact .inl rfl
  · exact .inr ⟨q, rfl, k _ _ h⟩
/-- one row: each way with one place more -/
theorem pick_row {X : Ctx} {k : Ks} {n i : Nat} {M : Nat → Nat → (sys k).F} {m1 : Mem} {v : D} {o0 o1 o2 o5 o6 o7 o8 o9 o10 : Option D} {N bk : KR} {rt : KD} (n1 : 1 ≤ n) (n5 : n < 5) (hi : i < n) (wf : WfM m1) (hv : WaysAt m1 v (waysN n i))
    (kN : ∀ (m2 : Mem) (v2 : D) (o5 o6 o8 : Option D), Ext m1 m2 → WaysAt m2 v2 (waysN n (i + 1)) → N [o0, o1, o2, some v2, some ((sys k).row n (M i)), o5, o6, o7, o8, o9, o10] m2) :
    exs X bPick [o0, o1, o2, some v, some ((sys k).row n (M i)), o5, o6, o7, o8, o9, o10] m1 { nx := N, ct := N, bk := bk, rt := rt } := by
  simp only [bPick, c5, List.getElem?_cons_succ, List.getElem?_cons_zero, body, exs, ex, ev, evs, evB, evO, evT, evI, startD, List.map_cons, List.map_nil, List.length_cons, List.length_nil, Nat.reduceAdd, Nat.reduceSub, List.replicate, List.cons_append, List.nil_append, List.append_nil, List.getElem?_cons_zero, List.getElem?_cons_succ, Option.some.injEq, exists_and_left, exists_eq_left', exists_eq_left, exists_eq, ix_tup, at0, at1, at2, op_add', op_sub', op_mul', op_fdiv', op_mod', op_pow', op_addT, cm_lt, cm_le, cm_gt, cm_ge, cm_eq, cm_ne, cm_eqS, cm_neS, onb, oni, yn_gd, yn_cls, Nat.reduceLT, if_true, if_false, true_and, and_true, List.set_cons_zero, List.set_cons_succ, set_nm, set_tup, set_nil, set_cons, ifb, b1_abs, b1_int, b1_intB, b1_lenT, b1_lenL, b1_tupL, b1_tupT, b2_min, b2_max, seq_tup, seq_lst, seq_sq, gd_sq, ix_sq, len_sq, new_t, new_f, gd_tup, gd_lst, ix_lst, ty_int, ty_tup, ty_str, isi_ii, isi_ib, isi_tt, isi_ss, reduceIte, Bool.true_eq_false, Bool.false_eq_true, Bool.not_true, Bool.not_false,  List.zip_cons_cons, List.zip_nil_right, List.foldl_cons, List.foldl_nil, ne_eq, not_false_eq_true, not_true_eq_false, Bool.not_eq_true', decide_eq_false_iff_not, decide_eq_true_eq, reduceCtorEq, List.cons.injEq, and_self, D.ref.injEq, Cell.obj.injEq, D.int.injEq]
  refine ⟨by decide, fun r hr => ?_⟩
  have kr : ∀ {l : List D} a c, m1 a = some c → put m1 r (.lst l) a = some c := fun {l} a c e => by rw [put_ne (ne_of_mem e hr)]; exact e
  refine ⟨_, (hv.mono kr).seq, ?_⟩
  have hw := ways_small n n5 (i + 1) (by omega)
  refine for_inv wayD (fun t r' M' => ∃ (o6 o8 : Option D), r' = [o0, o1, o2, some v, some ((sys k).row n (M i)), some (.ref r), o6, o7, o8, o9, o10] ∧ Ext m1 M' ∧ M' r = some (.lst ((((waysN n i).take t).map (wayN n)).flatten.map wayD))) (waysN n i) 0 _ _ ⟨_, _, rfl, (Ext.refl wf).new hr, by rw [put_same]; rfl⟩ ?_ ?_
  · rintro t ht r' M' N' ⟨o6, o8, rfl, ex, hM'⟩ kN'
    simp only [Nat.zero_add] at hM' kN'
    have hvM := hv.mono ex.keep
    refine ⟨hv.guard kr ex.keep, ?_⟩
    try simp only [body, exs, ex, ev, evs, evB, evO, evT, evI, startD, List.map_cons, List.map_nil, List.length_cons, List.length_nil, Nat.reduceAdd, Nat.reduceSub, List.replicate, List.cons_append, List.nil_append, List.append_nil, List.getElem?_cons_zero, List.getElem?_cons_succ, Option.some.injEq, exists_and_left, exists_eq_left', exists_eq_left, exists_eq, ix_tup, at0, at1, at2, op_add', op_sub', op_mul', op_fdiv', op_mod', op_pow', op_addT, cm_lt, cm_le, cm_gt, cm_ge, cm_eq, cm_ne, cm_eqS, cm_neS, onb, oni, yn_gd, yn_cls, Nat.reduceLT, if_true, if_false, true_and, and_true, List.set_cons_zero, List.set_cons_succ, set_nm, set_tup, set_nil, set_cons, ifb, b1_abs, b1_int, b1_intB, b1_lenT, b1_lenL, b1_tupL, b1_tupT, b2_min, b2_max, seq_tup, seq_lst, seq_sq, gd_sq, ix_sq, len_sq, new_t, new_f, gd_tup, gd_lst, ix_lst, ty_int, ty_tup, ty_str, isi_ii, isi_ib, isi_tt, isi_ss, reduceIte, Bool.true_eq_false, Bool.false_eq_true, Bool.not_true, Bool.not_false,  List.zip_cons_cons, List.zip_nil_right, List.foldl_cons, List.foldl_nil, ne_eq, not_false_eq_true, not_true_eq_false, Bool.not_eq_true', decide_eq_false_iff_not, decide_eq_true_eq, reduceCtorEq, List.cons.injEq, and_self, D.ref.injEq, Cell.obj.injEq, D.int.injEq]
    refine ⟨⟨_, lst_ref hM'⟩, ?_⟩
    rw [row_len]
    try simp only [body, exs, ex, ev, evs, evB, evO, evT, evI, startD, List.map_cons, List.map_nil, List.length_cons, List.length_nil, Nat.reduceAdd, Nat.reduceSub, List.replicate, List.cons_append, List.nil_append, List.append_nil, List.getElem?_cons_zero, List.getElem?_cons_succ, Option.some.injEq, exists_and_left, exists_eq_left', exists_eq_left, exists_eq, ix_tup, at0, at1, at2, op_add', op_sub', op_mul', op_fdiv', op_mod', op_pow', op_addT, cm_lt, cm_le, cm_gt, cm_ge, cm_eq, cm_ne, cm_eqS, cm_neS, onb, oni, yn_gd, yn_cls, Nat.reduceLT, if_true, if_false, true_and, and_true, List.set_cons_zero, List.set_cons_succ, set_nm, set_tup, set_nil, set_cons, ifb, b1_abs, b1_int, b1_intB, b1_lenT, b1_lenL, b1_tupL, b1_tupT, b2_min, b2_max, seq_tup, seq_lst, seq_sq, gd_sq, ix_sq, len_sq, new_t, new_f, gd_tup, gd_lst, ix_lst, ty_int, ty_tup, ty_str, isi_ii, isi_ib, isi_tt, isi_ss, reduceIte, Bool.true_eq_false, Bool.false_eq_true, Bool.not_true, Bool.not_false,  List.zip_cons_cons, List.zip_nil_right, List.foldl_cons, List.foldl_nil, ne_eq, not_false_eq_true, not_true_eq_false, Bool.not_eq_true', decide_eq_false_iff_not, decide_eq_true_eq, reduceCtorEq, List.cons.injEq, and_self, D.ref.injEq, Cell.obj.injEq, D.int.injEq]
    refine ⟨by omega, by omega, fun p hp => ?_⟩
    rw [rgD_nat]
    have hwl := ways_len n n5 i (by omega) _ (List.getElem_mem ht)
    generalize hw' : (waysN n i)[t] = w at hwl
    refine lc_filterT (List.range n) (fun a => .int ((a : Nat) : Int)) (fun a => wayD (w ++ [a])) (fun a => !w.contains a) hp (fun _ => trivial) ?_ ?_
    · intro a ha c K hK
      simp only [wipeD, body, exs, ex, ev, evs, evB, evO, evT, evI, startD, List.map_cons, List.map_nil, List.length_cons, List.length_nil, Nat.reduceAdd, Nat.reduceSub, List.replicate, List.cons_append, List.nil_append, List.append_nil, List.getElem?_cons_zero, List.getElem?_cons_succ, Option.some.injEq, exists_and_left, exists_eq_left', exists_eq_left, exists_eq, ix_tup, at0, at1, at2, op_add', op_sub', op_mul', op_fdiv', op_mod', op_pow', op_addT, cm_lt, cm_le, cm_gt, cm_ge, cm_eq, cm_ne, cm_eqS, cm_neS, onb, oni, yn_gd, yn_cls, Nat.reduceLT, if_true, if_false, true_and, and_true, List.set_cons_zero, List.set_cons_succ, set_nm, set_tup, set_nil, set_cons, ifb, b1_abs, b1_int, b1_intB, b1_lenT, b1_lenL, b1_tupL, b1_tupT, b2_min, b2_max, seq_tup, seq_lst, seq_sq, gd_sq, ix_sq, len_sq, new_t, new_f, gd_tup, gd_lst, ix_lst, ty_int, ty_tup, ty_str, isi_ii, isi_ib, isi_tt, isi_ss, reduceIte, Bool.true_eq_false, Bool.false_eq_true, Bool.not_true, Bool.not_false,  List.zip_cons_cons, List.zip_nil_right, List.foldl_cons, List.foldl_nil, ne_eq, not_false_eq_true, not_true_eq_false, Bool.not_eq_true', decide_eq_false_iff_not, decide_eq_true_eq, reduceCtorEq, List.cons.injEq, and_self, D.ref.injEq, Cell.obj.injEq, D.int.injEq]
      refine not_in ?_
      try simp only [body, exs, ex, ev, evs, evB, evO, evT, evI, startD, List.map_cons, List.map_nil, List.length_cons, List.length_nil, Nat.reduceAdd, Nat.reduceSub, List.replicate, List.cons_append, List.nil_append, List.append_nil, List.getElem?_cons_zero, List.getElem?_cons_succ, Option.some.injEq, exists_and_left, exists_eq_left', exists_eq_left, exists_eq, ix_tup, at0, at1, at2, op_add', op_sub', op_mul', op_fdiv', op_mod', op_pow', op_addT, cm_lt, cm_le, cm_gt, cm_ge, cm_eq, cm_ne, cm_eqS, cm_neS, onb, oni, yn_gd, yn_cls, Nat.reduceLT, if_true, if_false, true_and, and_true, List.set_cons_zero, List.set_cons_succ, set_nm, set_tup, set_nil, set_cons, ifb, b1_abs, b1_int, b1_intB, b1_lenT, b1_lenL, b1_tupL, b1_tupT, b2_min, b2_max, seq_tup, seq_lst, seq_sq, gd_sq, ix_sq, len_sq, new_t, new_f, gd_tup, gd_lst, ix_lst, ty_int, ty_tup, ty_str, isi_ii, isi_ib, isi_tt, isi_ss, reduceIte, Bool.true_eq_false, Bool.false_eq_true, Bool.not_true, Bool.not_false,  List.zip_cons_cons, List.zip_nil_right, List.foldl_cons, List.foldl_nil, ne_eq, not_false_eq_true, not_true_eq_false, Bool.not_eq_true', decide_eq_false_iff_not, decide_eq_true_eq, reduceCtorEq, List.cons.injEq, and_self, D.ref.injEq, Cell.obj.injEq, D.int.injEq]
      cases hc : w.contains a with
      | true =>
        rw [hc] at hK
        simpa using hK
      | false =>
        rw [hc] at hK
        simp only [Bool.not_false, if_true]
        refine ⟨by decide, ?_⟩
        show (w.map fun a : Nat => D.int (a : Int)).length + [D.int (a : Int)].length ≤ 1000000 ∧ K (some (.tup ((w.map fun a : Nat => D.int (a : Int)) ++ [.int (a : Int)]))) _
        refine ⟨by simp; omega, ?_⟩
        have e : D.tup ((w.map fun a : Nat => D.int (a : Int)) ++ [.int (a : Int)]) = wayD (w ++ [a]) := by unfold wayD; rw [List.map_append]; rfl
        rw [e]
        simpa using hK
    · have nrp : r ≠ p := fun z => by rw [← z, hM'] at hp; cases hp
      have ef : (((List.range n).filter fun a => !w.contains a).map fun a => wayD (w ++ [a])) = (wayN n w).map wayD := by unfold wayN; rw [List.map_map]; rfl
      rw [ef]
      have lw : (wayN n w).length ≤ n := by
        unfold wayN
        rw [List.length_map]
        exact Nat.le_trans (List.length_filter_le _ _) (by simp)
      have la : (((waysN n i).take t).map (wayN n)).flatten.length ≤ 24 := by
        have e1 : ((waysN n i).map (wayN n)).flatten = (((waysN n i).take t).map (wayN n)).flatten ++ (((waysN n i).drop t).map (wayN n)).flatten := by
          rw [← List.flatten_append, ← List.map_append, List.take_append_drop]
        have e2 : (waysN n (i + 1)).length = _ := congrArg List.length e1
        rw [List.length_append] at e2
        omega
      refine ⟨_, _, by rw [put_ne nrp]; exact hM', ⟨Ne.symm nrp, put_same⟩, by rw [List.length_map, List.length_map]; omega, ?_⟩
      refine kN' _ _ ⟨_, _, rfl, (ex.new hp).set (by rw [put_ne nrp]; exact hM') hr, ?_⟩
      rw [put_same, ← hw', List.take_succ_eq_append_getElem ht]
      simp only [List.map_append, List.flatten_append, List.map_cons, List.map_nil, List.flatten_cons, List.flatten_nil, List.append_nil]
  · rintro r' M' ⟨o6, o8, rfl, ex, hM'⟩
    rw [Nat.zero_add, List.take_length] at hM'
    refine ⟨hv.guard kr ex.keep, ?_⟩
    try simp only [body, exs, ex, ev, evs, evB, evO, evT, evI, startD, List.map_cons, List.map_nil, List.length_cons, List.length_nil, Nat.reduceAdd, Nat.reduceSub, List.replicate, List.cons_append, List.nil_append, List.append_nil, List.getElem?_cons_zero, List.getElem?_cons_succ, Option.some.injEq, exists_and_left, exists_eq_left', exists_eq_left, exists_eq, ix_tup, at0, at1, at2, op_add', op_sub', op_mul', op_fdiv', op_mod', op_pow', op_addT, cm_lt, cm_le, cm_gt, cm_ge, cm_eq, cm_ne, cm_eqS, cm_neS, onb, oni, yn_gd, yn_cls, Nat.reduceLT, if_true, if_false, true_and, and_true, List.set_cons_zero, List.set_cons_succ, set_nm, set_tup, set_nil, set_cons, ifb, b1_abs, b1_int, b1_intB, b1_lenT, b1_lenL, b1_tupL, b1_tupT, b2_min, b2_max, seq_tup, seq_lst, seq_sq, gd_sq, ix_sq, len_sq, new_t, new_f, gd_tup, gd_lst, ix_lst, ty_int, ty_tup, ty_str, isi_ii, isi_ib, isi_tt, isi_ss, reduceIte, Bool.true_eq_false, Bool.false_eq_true, Bool.not_true, Bool.not_false,  List.zip_cons_cons, List.zip_nil_right, List.foldl_cons, List.foldl_nil, ne_eq, not_false_eq_true, not_true_eq_false, Bool.not_eq_true', decide_eq_false_iff_not, decide_eq_true_eq, reduceCtorEq, List.cons.injEq, and_self, D.ref.injEq, Cell.obj.injEq, D.int.injEq]
    exact kN _ _ _ _ _ ex (.inr ⟨r, rfl, hM'⟩)
def inv_sum (w : List Nat) : List Int := (List.range w.length).map fun a => (((w.take a).filter fun x => decide (w.getD a 0 < x)).length : Int)
/-- one way: its product, its sign -/
theorem pick_way {X : Ctx} (ht : X.fn 2 = s_num_times) (hl : X.fn 3 = s_less) (ha : X.fn 4 = s_num_add) {k : Ks} {n b c : Nat} {M : Nat → Nat → (sys k).F} {x : (sys k).F} {w : List Nat} {m1 : Mem} {o3 o4 o5 o7 o8 o9 o10 : Option D} {N bk : KR} {rt : KD} (n1 : 1 ≤ n) (n5 : n < 5) (wf : WfM m1) (hw : w.length = n) (hwn : ∀ t, t < n → w.getD t 0 < n)
    (hM : ∀ i, i < n → Bt n b (M i)) (hx : Bs c x) (room : 6 * b + c + 100 ≤ 2 ^ 26)
    (kN : ∀ (o4 o7 o8 o9 : Option D), N [some (.int (sys k).by_), some ((sys k).mat n n M), some ((sys k).d (if (invN w) % 2 = 1 then x + -(pick n M w) else x + pick n M w)), o3, o4, o5, some (wayD w), o7, o8, o9, o10] m1) :
    exs X bPick2 [some (.int (sys k).by_), some ((sys k).mat n n M), some ((sys k).d x), o3, o4, o5, some (wayD w), o7, o8, o9, o10] m1 { nx := N, ct := N, bk := bk, rt := rt } := by
  simp only [bPick2, c5, List.getElem?_cons_succ, List.getElem?_cons_zero, ht, hl, ha, seq_mat, gd_mat, body, exs, ex, ev, evs, evB, evO, evT, evI, startD, List.map_cons, List.map_nil, List.length_cons, List.length_nil, Nat.reduceAdd, Nat.reduceSub, List.replicate, List.cons_append, List.nil_append, List.append_nil, List.getElem?_cons_zero, List.getElem?_cons_succ, Option.some.injEq, exists_and_left, exists_eq_left', exists_eq_left, exists_eq, ix_tup, at0, at1, at2, op_add', op_sub', op_mul', op_fdiv', op_mod', op_pow', op_addT, cm_lt, cm_le, cm_gt, cm_ge, cm_eq, cm_ne, cm_eqS, cm_neS, onb, oni, yn_gd, yn_cls, Nat.reduceLT, if_true, if_false, true_and, and_true, List.set_cons_zero, List.set_cons_succ, set_nm, set_tup, set_nil, set_cons, ifb, b1_abs, b1_int, b1_intB, b1_lenT, b1_lenL, b1_tupL, b1_tupT, b2_min, b2_max, seq_tup, seq_lst, seq_sq, gd_sq, ix_sq, len_sq, new_t, new_f, gd_tup, gd_lst, ix_lst, ty_int, ty_tup, ty_str, isi_ii, isi_ib, isi_tt, isi_ss, reduceIte, Bool.true_eq_false, Bool.false_eq_true, Bool.not_true, Bool.not_false,  List.zip_cons_cons, List.zip_nil_right, List.foldl_cons, List.foldl_nil, ne_eq, not_false_eq_true, not_true_eq_false, Bool.not_eq_true', decide_eq_false_iff_not, decide_eq_true_eq, reduceCtorEq, List.cons.injEq, and_self, D.ref.injEq, Cell.obj.injEq, D.int.injEq]
  refine ⟨by decide, _, rfl, ?_⟩
  rw [zip_len hw fun a => D.int (a : Int)]
  have bs : ∀ t, t ≤ n → Bs (t * b) (pr t fun s => M s (w.getD s 0)) := by
    intro t
    induction t with
    | zero => intro _; exact ⟨1, by decide, Nat.one_le_two_pow, (sys k).cd_le (sys k).cd_one Nat.one_le_two_pow⟩
    | succ t ih =>
      intro ht'
      rw [Nat.succ_mul]
      exact (ih (by omega)).mul ((hM t (by omega)).at_ (hwn t (by omega)))
  have le : ∀ t, t ≤ n → t * b ≤ 4 * b := fun t h => Nat.mul_le_mul_right _ (by omega)
  refine for_inv _ (fun t r' M' => M' = m1 ∧ ∃ (o4 o8 : Option D), r' = [some (.int (sys k).by_), some ((sys k).mat n n M), some ((sys k).d x), o3, o4, o5, some (wayD w), some ((sys k).d (pr t fun s => M s (w.getD s 0))), o8, o9, o10]) (List.range n) 0 _ _ ⟨rfl, _, _, by rw [show (pr 0 fun s => M s (w.getD s 0)) = (1 : (sys k).F) from rfl, d1]⟩ ?_ ?_
  · rintro t hT r' M' N' ⟨rfl, o4, o8, rfl⟩ kN'
    have hT' : t < n := by simpa using hT
    have e : ∀ h, (List.range n)[t]'h = t := fun h => by simp
    simp only [Nat.zero_add] at kN' ⊢
    simp only [e, body, exs, ex, ev, evs, evB, evO, evT, evI, startD, List.map_cons, List.map_nil, List.length_cons, List.length_nil, Nat.reduceAdd, Nat.reduceSub, List.replicate, List.cons_append, List.nil_append, List.append_nil, List.getElem?_cons_zero, List.getElem?_cons_succ, Option.some.injEq, exists_and_left, exists_eq_left', exists_eq_left, exists_eq, ix_tup, at0, at1, at2, op_add', op_sub', op_mul', op_fdiv', op_mod', op_pow', op_addT, cm_lt, cm_le, cm_gt, cm_ge, cm_eq, cm_ne, cm_eqS, cm_neS, onb, oni, yn_gd, yn_cls, Nat.reduceLT, if_true, if_false, true_and, and_true, List.set_cons_zero, List.set_cons_succ, set_nm, set_tup, set_nil, set_cons, ifb, b1_abs, b1_int, b1_intB, b1_lenT, b1_lenL, b1_tupL, b1_tupT, b2_min, b2_max, seq_tup, seq_lst, seq_sq, gd_sq, ix_sq, len_sq, new_t, new_f, gd_tup, gd_lst, ix_lst, ty_int, ty_tup, ty_str, isi_ii, isi_ib, isi_tt, isi_ss, reduceIte, Bool.true_eq_false, Bool.false_eq_true, Bool.not_true, Bool.not_false,  List.zip_cons_cons, List.zip_nil_right, List.foldl_cons, List.foldl_nil, ne_eq, not_false_eq_true, not_true_eq_false, Bool.not_eq_true', decide_eq_false_iff_not, decide_eq_true_eq, reduceCtorEq, List.cons.injEq, and_self, D.ref.injEq, Cell.obj.injEq, D.int.injEq]
    refine ⟨trivial, ?_⟩
    rw [row_get (hwn t hT')]
    have l1 := le t (by omega)
    refine ⟨k, _, _, rfl, Sm.two ((bs t (by omega)).sm (by omega)) (((hM t hT').at_ (hwn t hT')).sm (by omega)), ?_⟩
    exact kN' _ _ ⟨rfl, _, _, rfl⟩
  · rintro r' M' ⟨rfl, o4, o8, rfl⟩
    rw [List.length_range, Nat.zero_add]
    refine ⟨trivial, ?_⟩
    try simp only [body, exs, ex, ev, evs, evB, evO, evT, evI, startD, List.map_cons, List.map_nil, List.length_cons, List.length_nil, Nat.reduceAdd, Nat.reduceSub, List.replicate, List.cons_append, List.nil_append, List.append_nil, List.getElem?_cons_zero, List.getElem?_cons_succ, Option.some.injEq, exists_and_left, exists_eq_left', exists_eq_left, exists_eq, ix_tup, at0, at1, at2, op_add', op_sub', op_mul', op_fdiv', op_mod', op_pow', op_addT, cm_lt, cm_le, cm_gt, cm_ge, cm_eq, cm_ne, cm_eqS, cm_neS, onb, oni, yn_gd, yn_cls, Nat.reduceLT, if_true, if_false, true_and, and_true, List.set_cons_zero, List.set_cons_succ, set_nm, set_tup, set_nil, set_cons, ifb, b1_abs, b1_int, b1_intB, b1_lenT, b1_lenL, b1_tupL, b1_tupT, b2_min, b2_max, seq_tup, seq_lst, seq_sq, gd_sq, ix_sq, len_sq, new_t, new_f, gd_tup, gd_lst, ix_lst, ty_int, ty_tup, ty_str, isi_ii, isi_ib, isi_tt, isi_ss, reduceIte, Bool.true_eq_false, Bool.false_eq_true, Bool.not_true, Bool.not_false,  List.zip_cons_cons, List.zip_nil_right, List.foldl_cons, List.foldl_nil, ne_eq, not_false_eq_true, not_true_eq_false, Bool.not_eq_true', decide_eq_false_iff_not, decide_eq_true_eq, reduceCtorEq, List.cons.injEq, and_self, D.ref.injEq, Cell.obj.injEq, D.int.injEq]
    have lenw : ∀ {w : List Nat} {m : Mem} {Q : KD}, b1D .len (wayD w) m Q = Q (.int (w.length : Nat)) m := fun {w m Q} => by unfold wayD; rw [b1_lenT, List.length_map]
    rw [lenw]
    try simp only [body, exs, ex, ev, evs, evB, evO, evT, evI, startD, List.map_cons, List.map_nil, List.length_cons, List.length_nil, Nat.reduceAdd, Nat.reduceSub, List.replicate, List.cons_append, List.nil_append, List.append_nil, List.getElem?_cons_zero, List.getElem?_cons_succ, Option.some.injEq, exists_and_left, exists_eq_left', exists_eq_left, exists_eq, ix_tup, at0, at1, at2, op_add', op_sub', op_mul', op_fdiv', op_mod', op_pow', op_addT, cm_lt, cm_le, cm_gt, cm_ge, cm_eq, cm_ne, cm_eqS, cm_neS, onb, oni, yn_gd, yn_cls, Nat.reduceLT, if_true, if_false, true_and, and_true, List.set_cons_zero, List.set_cons_succ, set_nm, set_tup, set_nil, set_cons, ifb, b1_abs, b1_int, b1_intB, b1_lenT, b1_lenL, b1_tupL, b1_tupT, b2_min, b2_max, seq_tup, seq_lst, seq_sq, gd_sq, ix_sq, len_sq, new_t, new_f, gd_tup, gd_lst, ix_lst, ty_int, ty_tup, ty_str, isi_ii, isi_ib, isi_tt, isi_ss, reduceIte, Bool.true_eq_false, Bool.false_eq_true, Bool.not_true, Bool.not_false,  List.zip_cons_cons, List.zip_nil_right, List.foldl_cons, List.foldl_nil, ne_eq, not_false_eq_true, not_true_eq_false, Bool.not_eq_true', decide_eq_false_iff_not, decide_eq_true_eq, reduceCtorEq, List.cons.injEq, and_self, D.ref.injEq, Cell.obj.injEq, D.int.injEq]
    refine ⟨by omega, by omega, ?_⟩
    rw [rgD_nat]
    refine lc_pure (List.range w.length) (fun i => .int ((i : Nat) : Int)) (fun a => .int ((((w.take a).filter fun x => decide (w.getD a 0 < x)).length : Nat) : Int)) (fun _ _ _ => trivial) ?_ ?_
    · intro a ha p c K hp hK
      have ha' := List.mem_range.mp ha
      simp only [wipeD, body, exs, ex, ev, evs, evB, evO, evT, evI, startD, List.map_cons, List.map_nil, List.length_cons, List.length_nil, Nat.reduceAdd, Nat.reduceSub, List.replicate, List.cons_append, List.nil_append, List.append_nil, List.getElem?_cons_zero, List.getElem?_cons_succ, Option.some.injEq, exists_and_left, exists_eq_left', exists_eq_left, exists_eq, ix_tup, at0, at1, at2, op_add', op_sub', op_mul', op_fdiv', op_mod', op_pow', op_addT, cm_lt, cm_le, cm_gt, cm_ge, cm_eq, cm_ne, cm_eqS, cm_neS, onb, oni, yn_gd, yn_cls, Nat.reduceLT, if_true, if_false, true_and, and_true, List.set_cons_zero, List.set_cons_succ, set_nm, set_tup, set_nil, set_cons, ifb, b1_abs, b1_int, b1_intB, b1_lenT, b1_lenL, b1_tupL, b1_tupT, b2_min, b2_max, seq_tup, seq_lst, seq_sq, gd_sq, ix_sq, len_sq, new_t, new_f, gd_tup, gd_lst, ix_lst, ty_int, ty_tup, ty_str, isi_ii, isi_ib, isi_tt, isi_ss, reduceIte, Bool.true_eq_false, Bool.false_eq_true, Bool.not_true, Bool.not_false,  List.zip_cons_cons, List.zip_nil_right, List.foldl_cons, List.foldl_nil, ne_eq, not_false_eq_true, not_true_eq_false, Bool.not_eq_true', decide_eq_false_iff_not, decide_eq_true_eq, reduceCtorEq, List.cons.injEq, and_self, D.ref.injEq, Cell.obj.injEq, D.int.injEq]
      rw [sl_way (by omega)]
      try simp only [body, exs, ex, ev, evs, evB, evO, evT, evI, startD, List.map_cons, List.map_nil, List.length_cons, List.length_nil, Nat.reduceAdd, Nat.reduceSub, List.replicate, List.cons_append, List.nil_append, List.append_nil, List.getElem?_cons_zero, List.getElem?_cons_succ, Option.some.injEq, exists_and_left, exists_eq_left', exists_eq_left, exists_eq, ix_tup, at0, at1, at2, op_add', op_sub', op_mul', op_fdiv', op_mod', op_pow', op_addT, cm_lt, cm_le, cm_gt, cm_ge, cm_eq, cm_ne, cm_eqS, cm_neS, onb, oni, yn_gd, yn_cls, Nat.reduceLT, if_true, if_false, true_and, and_true, List.set_cons_zero, List.set_cons_succ, set_nm, set_tup, set_nil, set_cons, ifb, b1_abs, b1_int, b1_intB, b1_lenT, b1_lenL, b1_tupL, b1_tupT, b2_min, b2_max, seq_tup, seq_lst, seq_sq, gd_sq, ix_sq, len_sq, new_t, new_f, gd_tup, gd_lst, ix_lst, ty_int, ty_tup, ty_str, isi_ii, isi_ib, isi_tt, isi_ss, reduceIte, Bool.true_eq_false, Bool.false_eq_true, Bool.not_true, Bool.not_false,  List.zip_cons_cons, List.zip_nil_right, List.foldl_cons, List.foldl_nil, ne_eq, not_false_eq_true, not_true_eq_false, Bool.not_eq_true', decide_eq_false_iff_not, decide_eq_true_eq, reduceCtorEq, List.cons.injEq, and_self, D.ref.injEq, Cell.obj.injEq, D.int.injEq]
      refine lc_filter (w.take a) (fun i => .int ((i : Nat) : Int)) (fun i => .int ((i : Nat) : Int)) (fun x => decide (w.getD a 0 < x)) (fun _ _ _ => trivial) ?_ ?_
      · intro y hy p' c' K' hp' hK'
        try simp only [body, exs, ex, ev, evs, evB, evO, evT, evI, startD, List.map_cons, List.map_nil, List.length_cons, List.length_nil, Nat.reduceAdd, Nat.reduceSub, List.replicate, List.cons_append, List.nil_append, List.append_nil, List.getElem?_cons_zero, List.getElem?_cons_succ, Option.some.injEq, exists_and_left, exists_eq_left', exists_eq_left, exists_eq, ix_tup, at0, at1, at2, op_add', op_sub', op_mul', op_fdiv', op_mod', op_pow', op_addT, cm_lt, cm_le, cm_gt, cm_ge, cm_eq, cm_ne, cm_eqS, cm_neS, onb, oni, yn_gd, yn_cls, Nat.reduceLT, if_true, if_false, true_and, and_true, List.set_cons_zero, List.set_cons_succ, set_nm, set_tup, set_nil, set_cons, ifb, b1_abs, b1_int, b1_intB, b1_lenT, b1_lenL, b1_tupL, b1_tupT, b2_min, b2_max, seq_tup, seq_lst, seq_sq, gd_sq, ix_sq, len_sq, new_t, new_f, gd_tup, gd_lst, ix_lst, ty_int, ty_tup, ty_str, isi_ii, isi_ib, isi_tt, isi_ss, reduceIte, Bool.true_eq_false, Bool.false_eq_true, Bool.not_true, Bool.not_false,  List.zip_cons_cons, List.zip_nil_right, List.foldl_cons, List.foldl_nil, ne_eq, not_false_eq_true, not_true_eq_false, Bool.not_eq_true', decide_eq_false_iff_not, decide_eq_true_eq, reduceCtorEq, List.cons.injEq, and_self, D.ref.injEq, Cell.obj.injEq, D.int.injEq]
        rw [ix_way ha']
        try simp only [body, exs, ex, ev, evs, evB, evO, evT, evI, startD, List.map_cons, List.map_nil, List.length_cons, List.length_nil, Nat.reduceAdd, Nat.reduceSub, List.replicate, List.cons_append, List.nil_append, List.append_nil, List.getElem?_cons_zero, List.getElem?_cons_succ, Option.some.injEq, exists_and_left, exists_eq_left', exists_eq_left, exists_eq, ix_tup, at0, at1, at2, op_add', op_sub', op_mul', op_fdiv', op_mod', op_pow', op_addT, cm_lt, cm_le, cm_gt, cm_ge, cm_eq, cm_ne, cm_eqS, cm_neS, onb, oni, yn_gd, yn_cls, Nat.reduceLT, if_true, if_false, true_and, and_true, List.set_cons_zero, List.set_cons_succ, set_nm, set_tup, set_nil, set_cons, ifb, b1_abs, b1_int, b1_intB, b1_lenT, b1_lenL, b1_tupL, b1_tupT, b2_min, b2_max, seq_tup, seq_lst, seq_sq, gd_sq, ix_sq, len_sq, new_t, new_f, gd_tup, gd_lst, ix_lst, ty_int, ty_tup, ty_str, isi_ii, isi_ib, isi_tt, isi_ss, reduceIte, Bool.true_eq_false, Bool.false_eq_true, Bool.not_true, Bool.not_false,  List.zip_cons_cons, List.zip_nil_right, List.foldl_cons, List.foldl_nil, ne_eq, not_false_eq_true, not_true_eq_false, Bool.not_eq_true', decide_eq_false_iff_not, decide_eq_true_eq, reduceCtorEq, List.cons.injEq, and_self, D.ref.injEq, Cell.obj.injEq, D.int.injEq]
        by_cases hz : w.getD a 0 < y
        · rw [if_pos (by omega)]
          simpa only [hz, decide_true, if_true] using hK'
        · rw [if_neg (by omega)]
          simpa only [hz, decide_false, Bool.false_eq_true, if_false] using hK'
      · try simp only [body, exs, ex, ev, evs, evB, evO, evT, evI, startD, List.map_cons, List.map_nil, List.length_cons, List.length_nil, Nat.reduceAdd, Nat.reduceSub, List.replicate, List.cons_append, List.nil_append, List.append_nil, List.getElem?_cons_zero, List.getElem?_cons_succ, Option.some.injEq, exists_and_left, exists_eq_left', exists_eq_left, exists_eq, ix_tup, at0, at1, at2, op_add', op_sub', op_mul', op_fdiv', op_mod', op_pow', op_addT, cm_lt, cm_le, cm_gt, cm_ge, cm_eq, cm_ne, cm_eqS, cm_neS, onb, oni, yn_gd, yn_cls, Nat.reduceLT, if_true, if_false, true_and, and_true, List.set_cons_zero, List.set_cons_succ, set_nm, set_tup, set_nil, set_cons, ifb, b1_abs, b1_int, b1_intB, b1_lenT, b1_lenL, b1_tupL, b1_tupT, b2_min, b2_max, seq_tup, seq_lst, seq_sq, gd_sq, ix_sq, len_sq, new_t, new_f, gd_tup, gd_lst, ix_lst, ty_int, ty_tup, ty_str, isi_ii, isi_ib, isi_tt, isi_ss, reduceIte, Bool.true_eq_false, Bool.false_eq_true, Bool.not_true, Bool.not_false,  List.zip_cons_cons, List.zip_nil_right, List.foldl_cons, List.foldl_nil, ne_eq, not_false_eq_true, not_true_eq_false, Bool.not_eq_true', decide_eq_false_iff_not, decide_eq_true_eq, reduceCtorEq, List.cons.injEq, and_self, D.ref.injEq, Cell.obj.injEq, D.int.injEq]
        simpa only [List.length_map] using hK
    · refine ⟨inv_sum w, by show some _ = _; unfold inv_sum; rw [List.map_map]; rfl, ?_⟩
      rw [show (inv_sum w).sum = invN w from rfl]
      try simp only [body, exs, ex, ev, evs, evB, evO, evT, evI, startD, List.map_cons, List.map_nil, List.length_cons, List.length_nil, Nat.reduceAdd, Nat.reduceSub, List.replicate, List.cons_append, List.nil_append, List.append_nil, List.getElem?_cons_zero, List.getElem?_cons_succ, Option.some.injEq, exists_and_left, exists_eq_left', exists_eq_left, exists_eq, ix_tup, at0, at1, at2, op_add', op_sub', op_mul', op_fdiv', op_mod', op_pow', op_addT, cm_lt, cm_le, cm_gt, cm_ge, cm_eq, cm_ne, cm_eqS, cm_neS, onb, oni, yn_gd, yn_cls, Nat.reduceLT, if_true, if_false, true_and, and_true, List.set_cons_zero, List.set_cons_succ, set_nm, set_tup, set_nil, set_cons, ifb, b1_abs, b1_int, b1_intB, b1_lenT, b1_lenL, b1_tupL, b1_tupT, b2_min, b2_max, seq_tup, seq_lst, seq_sq, gd_sq, ix_sq, len_sq, new_t, new_f, gd_tup, gd_lst, ix_lst, ty_int, ty_tup, ty_str, isi_ii, isi_ib, isi_tt, isi_ss, reduceIte, Bool.true_eq_false, Bool.false_eq_true, Bool.not_true, Bool.not_false,  List.zip_cons_cons, List.zip_nil_right, List.foldl_cons, List.foldl_nil, ne_eq, not_false_eq_true, not_true_eq_false, Bool.not_eq_true', decide_eq_false_iff_not, decide_eq_true_eq, reduceCtorEq, List.cons.injEq, and_self, D.ref.injEq, Cell.obj.injEq, D.int.injEq]
      refine ⟨by decide, ?_⟩
      rw [Int.fmod_eq_emod_of_nonneg _ (by decide)]
      have hp := bs n (Nat.le_refl _)
      have l1 := le n (Nat.le_refl _)
      have hx1 := hx.sm (b := c) (by omega)
      have hp1 := hp.sm (by omega)
      by_cases hi : invN w % 2 = 1
      · rw [if_pos hi]
        rw [if_pos hi] at kN
        refine ⟨k, _, _, rfl, Sm.two hx1 hp1, kN _ _ _ _⟩
      · rw [if_neg hi]
        rw [if_neg hi] at kN
        refine ⟨k, _, _, rfl, Sm.two hx1 hp1, kN _ _ _ _⟩
end Og.Lk44
end
section
set_option maxHeartbeats 4000000
set_option autoImplicit false
namespace Og.Lk44
open PySem Og
theorem leib_snoc {S : Sys} {n : Nat} {M : Nat → Nat → S.F} {w : List Nat} : ∀ {l : List (List Nat)} {x : S.F}, leib n M (l ++ [w]) x = (if (invN w) % 2 = 1 then leib n M l x + -(pick n M w) else leib n M l x + pick n M w)
  | [], x => rfl
  | a :: l, x => by
    show leib n M (l ++ [w]) _ = _
    rw [leib_snoc]
    rfl
theorem bs_pick {S : Sys} {n b : Nat} {M : Nat → Nat → S.F} {w : List Nat} (n5 : n < 5) (hM : ∀ i, i < n → Bt n b (M i)) (hwn : ∀ t, t < n → w.getD t 0 < n) : Bs (4 * b) (pick n M w) := by
  have bs : ∀ t, t ≤ n → Bs (t * b) (pr t fun s => M s (w.getD s 0)) := by
    intro t
    induction t with
    | zero => intro _; exact ⟨1, by decide, Nat.one_le_two_pow, S.cd_le S.cd_one Nat.one_le_two_pow⟩
    | succ t ih =>
      intro ht'
      rw [Nat.succ_mul]
      exact (ih (by omega)).mul ((hM t (by omega)).at_ (hwn t (by omega)))
  exact (bs n (Nat.le_refl _)).mono (Nat.mul_le_mul_right _ (by omega))
theorem law_picked {X : Ctx} (ht : X.fn 2 = s_num_times) (hl : X.fn 3 = s_less) (ha : X.fn 4 = s_num_add) (ds : List D) (m : Mem) (Q : KD) (h : s_pick ds m Q) : body X 11 c5 ds m Q := by
  obtain ⟨k, n, b, M, rfl, n1, n5, wf, room, hM, q⟩ := h
  unfold body
  rw [c_pick, exs_app]
  simp only [c5, List.take, List.drop, ht, hl, ha, seq_mat, gd_mat, body, exs, ex, ev, evs, evB, evO, evT, evI, startD, List.map_cons, List.map_nil, List.length_cons, List.length_nil, Nat.reduceAdd, Nat.reduceSub, List.replicate, List.cons_append, List.nil_append, List.append_nil, List.getElem?_cons_zero, List.getElem?_cons_succ, Option.some.injEq, exists_and_left, exists_eq_left', exists_eq_left, exists_eq, ix_tup, at0, at1, at2, op_add', op_sub', op_mul', op_fdiv', op_mod', op_pow', op_addT, cm_lt, cm_le, cm_gt, cm_ge, cm_eq, cm_ne, cm_eqS, cm_neS, onb, oni, yn_gd, yn_cls, Nat.reduceLT, if_true, if_false, true_and, and_true, List.set_cons_zero, List.set_cons_succ, set_nm, set_tup, set_nil, set_cons, ifb, b1_abs, b1_int, b1_intB, b1_lenT, b1_lenL, b1_tupL, b1_tupT, b2_min, b2_max, seq_tup, seq_lst, seq_sq, gd_sq, ix_sq, len_sq, new_t, new_f, gd_tup, gd_lst, ix_lst, ty_int, ty_tup, ty_str, isi_ii, isi_ib, isi_tt, isi_ss, reduceIte, Bool.true_eq_false, Bool.false_eq_true, Bool.not_true, Bool.not_false,  List.zip_cons_cons, List.zip_nil_right, List.foldl_cons, List.foldl_nil, ne_eq, not_false_eq_true, not_true_eq_false, Bool.not_eq_true', decide_eq_false_iff_not, decide_eq_true_eq, reduceCtorEq, List.cons.injEq, and_self, D.ref.injEq, Cell.obj.injEq, D.int.injEq]
  try simp only [seq_mat, gd_mat, body, exs, ex, ev, evs, evB, evO, evT, evI, startD, List.map_cons, List.map_nil, List.length_cons, List.length_nil, Nat.reduceAdd, Nat.reduceSub, List.replicate, List.cons_append, List.nil_append, List.append_nil, List.getElem?_cons_zero, List.getElem?_cons_succ, Option.some.injEq, exists_and_left, exists_eq_left', exists_eq_left, exists_eq, ix_tup, at0, at1, at2, op_add', op_sub', op_mul', op_fdiv', op_mod', op_pow', op_addT, cm_lt, cm_le, cm_gt, cm_ge, cm_eq, cm_ne, cm_eqS, cm_neS, onb, oni, yn_gd, yn_cls, Nat.reduceLT, if_true, if_false, true_and, and_true, List.set_cons_zero, List.set_cons_succ, set_nm, set_tup, set_nil, set_cons, ifb, b1_abs, b1_int, b1_intB, b1_lenT, b1_lenL, b1_tupL, b1_tupT, b2_min, b2_max, seq_tup, seq_lst, seq_sq, gd_sq, ix_sq, len_sq, new_t, new_f, gd_tup, gd_lst, ix_lst, ty_int, ty_tup, ty_str, isi_ii, isi_ib, isi_tt, isi_ss, reduceIte, Bool.true_eq_false, Bool.false_eq_true, Bool.not_true, Bool.not_false,  List.zip_cons_cons, List.zip_nil_right, List.foldl_cons, List.foldl_nil, ne_eq, not_false_eq_true, not_true_eq_false, Bool.not_eq_true', decide_eq_false_iff_not, decide_eq_true_eq, reduceCtorEq, List.cons.injEq, and_self, D.ref.injEq, Cell.obj.injEq, D.int.injEq]
  have hwe : D.lst [.tup []] = .lst ((waysN n 0).map wayD) := rfl
  rw [← d0 (S := sys k), hwe]
  refine ⟨by decide, by decide, by decide, ?_⟩
  refine for_inv _ (fun t r' m' => ∃ (v : D) (o4 o5 o6 o8 : Option D), r' = [some (.int (sys k).by_), some ((sys k).mat n n M), some ((sys k).d 0), some v, o4, o5, o6, none, o8, none, none] ∧ Ext m m' ∧ WaysAt m' v (waysN n t)) (List.range n) 0 _ _ ⟨_, _, _, _, _, rfl, Ext.refl wf, .inl rfl⟩ ?_ ?_
  · rintro t hT r' m' N' ⟨v, o4, o5, o6, o8, rfl, ex, hv⟩ kN'
    have hT' : t < n := by simpa using hT
    have e : ∀ h, (List.range n)[t]'h = t := fun h => by simp
    simp only [Nat.zero_add] at hv kN'
    simp only [e, gd_mat, body, exs, ex, ev, evs, evB, evO, evT, evI, startD, List.map_cons, List.map_nil, List.length_cons, List.length_nil, Nat.reduceAdd, Nat.reduceSub, List.replicate, List.cons_append, List.nil_append, List.append_nil, List.getElem?_cons_zero, List.getElem?_cons_succ, Option.some.injEq, exists_and_left, exists_eq_left', exists_eq_left, exists_eq, ix_tup, at0, at1, at2, op_add', op_sub', op_mul', op_fdiv', op_mod', op_pow', op_addT, cm_lt, cm_le, cm_gt, cm_ge, cm_eq, cm_ne, cm_eqS, cm_neS, onb, oni, yn_gd, yn_cls, Nat.reduceLT, if_true, if_false, true_and, and_true, List.set_cons_zero, List.set_cons_succ, set_nm, set_tup, set_nil, set_cons, ifb, b1_abs, b1_int, b1_intB, b1_lenT, b1_lenL, b1_tupL, b1_tupT, b2_min, b2_max, seq_tup, seq_lst, seq_sq, gd_sq, ix_sq, len_sq, new_t, new_f, gd_tup, gd_lst, ix_lst, ty_int, ty_tup, ty_str, isi_ii, isi_ib, isi_tt, isi_ss, reduceIte, Bool.true_eq_false, Bool.false_eq_true, Bool.not_true, Bool.not_false,  List.zip_cons_cons, List.zip_nil_right, List.foldl_cons, List.foldl_nil, ne_eq, not_false_eq_true, not_true_eq_false, Bool.not_eq_true', decide_eq_false_iff_not, decide_eq_true_eq, reduceCtorEq, List.cons.injEq, and_self, D.ref.injEq, Cell.obj.injEq, D.int.injEq]
    refine pick_row n1 n5 hT' ex.wf hv fun m2 v2 o5 o6 o8 ex2 hv2 => ?_
    exact kN' _ _ ⟨_, _, _, _, _, rfl, ex.trans ex2, hv2⟩
  · rintro r' m' ⟨v, o4, o5, o6, o8, rfl, ex, hv⟩
    rw [List.length_range, Nat.zero_add] at hv
    refine ⟨trivial, ?_⟩
    try simp only [body, exs, ex, ev, evs, evB, evO, evT, evI, startD, List.map_cons, List.map_nil, List.length_cons, List.length_nil, Nat.reduceAdd, Nat.reduceSub, List.replicate, List.cons_append, List.nil_append, List.append_nil, List.getElem?_cons_zero, List.getElem?_cons_succ, Option.some.injEq, exists_and_left, exists_eq_left', exists_eq_left, exists_eq, ix_tup, at0, at1, at2, op_add', op_sub', op_mul', op_fdiv', op_mod', op_pow', op_addT, cm_lt, cm_le, cm_gt, cm_ge, cm_eq, cm_ne, cm_eqS, cm_neS, onb, oni, yn_gd, yn_cls, Nat.reduceLT, if_true, if_false, true_and, and_true, List.set_cons_zero, List.set_cons_succ, set_nm, set_tup, set_nil, set_cons, ifb, b1_abs, b1_int, b1_intB, b1_lenT, b1_lenL, b1_tupL, b1_tupT, b2_min, b2_max, seq_tup, seq_lst, seq_sq, gd_sq, ix_sq, len_sq, new_t, new_f, gd_tup, gd_lst, ix_lst, ty_int, ty_tup, ty_str, isi_ii, isi_ib, isi_tt, isi_ss, reduceIte, Bool.true_eq_false, Bool.false_eq_true, Bool.not_true, Bool.not_false,  List.zip_cons_cons, List.zip_nil_right, List.foldl_cons, List.foldl_nil, ne_eq, not_false_eq_true, not_true_eq_false, Bool.not_eq_true', decide_eq_false_iff_not, decide_eq_true_eq, reduceCtorEq, List.cons.injEq, and_self, D.ref.injEq, Cell.obj.injEq, D.int.injEq]
    refine ⟨_, hv.seq, ?_⟩
    have hws := ways_ok n n5
    have hwl := ways_small n n5 n (Nat.le_refl _)
    generalize hW : waysN n n = ws at hws hwl hv q
    have bl : ∀ t, t ≤ ws.length → Bs (t * (4 * b + 1)) (leib n M (ws.take t) 0) := by
      intro t
      induction t with
      | zero => intro _; exact ⟨1, by decide, Nat.one_le_two_pow, (sys k).cd_le ((sys k).cd_zero (d := 1)) (Nat.zero_le _)⟩
      | succ t ih =>
        intro ht'
        have ht2 : t < ws.length := ht'
        rw [List.take_succ_eq_append_getElem ht2, leib_snoc, Nat.succ_mul]
        have hp := bs_pick n5 hM (hws _ (List.getElem_mem ht2)).2
        have h0 := ih (by omega)
        rw [show t * (4 * b + 1) + (4 * b + 1) = t * (4 * b + 1) + 4 * b + 1 from rfl]
        split
        · exact Bs.add' h0 hp.neg
        · exact Bs.add' h0 hp
    refine for_inv wayD (fun t r' M' => M' = m' ∧ ∃ (o4 o6 o7 o8 o9 : Option D), r' = [some (.int (sys k).by_), some ((sys k).mat n n M), some ((sys k).d (leib n M (ws.take t) 0)), some v, o4, o5, o6, o7, o8, o9, none]) ws 0 _ _ ⟨rfl, _, _, _, _, _, rfl⟩ ?_ ?_
    · rintro t hT r' M' N' ⟨rfl, o4, o6, o7, o8, o9, rfl⟩ kN'
      simp only [Nat.zero_add] at kN' ⊢
      refine ⟨hv.guard (fun _ _ e => e) (fun _ _ e => e), ?_⟩
      try simp only [body, exs, ex, ev, evs, evB, evO, evT, evI, startD, List.map_cons, List.map_nil, List.length_cons, List.length_nil, Nat.reduceAdd, Nat.reduceSub, List.replicate, List.cons_append, List.nil_append, List.append_nil, List.getElem?_cons_zero, List.getElem?_cons_succ, Option.some.injEq, exists_and_left, exists_eq_left', exists_eq_left, exists_eq, ix_tup, at0, at1, at2, op_add', op_sub', op_mul', op_fdiv', op_mod', op_pow', op_addT, cm_lt, cm_le, cm_gt, cm_ge, cm_eq, cm_ne, cm_eqS, cm_neS, onb, oni, yn_gd, yn_cls, Nat.reduceLT, if_true, if_false, true_and, and_true, List.set_cons_zero, List.set_cons_succ, set_nm, set_tup, set_nil, set_cons, ifb, b1_abs, b1_int, b1_intB, b1_lenT, b1_lenL, b1_tupL, b1_tupT, b2_min, b2_max, seq_tup, seq_lst, seq_sq, gd_sq, ix_sq, len_sq, new_t, new_f, gd_tup, gd_lst, ix_lst, ty_int, ty_tup, ty_str, isi_ii, isi_ib, isi_tt, isi_ss, reduceIte, Bool.true_eq_false, Bool.false_eq_true, Bool.not_true, Bool.not_false,  List.zip_cons_cons, List.zip_nil_right, List.foldl_cons, List.foldl_nil, ne_eq, not_false_eq_true, not_true_eq_false, Bool.not_eq_true', decide_eq_false_iff_not, decide_eq_true_eq, reduceCtorEq, List.cons.injEq, and_self, D.ref.injEq, Cell.obj.injEq, D.int.injEq]
      have hw := hws _ (List.getElem_mem hT)
      have hc : t * (4 * b + 1) ≤ 24 * (4 * b + 1) := Nat.mul_le_mul_right _ (by omega)
      refine pick_way ht hl ha n1 n5 ex.wf hw.1 hw.2 hM (bl t (by omega)) (by omega) fun o4 o7 o8 o9 => ?_
      refine kN' _ _ ⟨rfl, o4, some (wayD ws[t]), o7, o8, o9, ?_⟩
      rw [List.take_succ_eq_append_getElem hT, leib_snoc]
    · rintro r' M' ⟨rfl, o4, o6, o7, o8, o9, rfl⟩
      rw [Nat.zero_add, List.take_length]
      refine ⟨hv.guard (fun _ _ e => e) (fun _ _ e => e), ?_⟩
      try simp only [body, exs, ex, ev, evs, evB, evO, evT, evI, startD, List.map_cons, List.map_nil, List.length_cons, List.length_nil, Nat.reduceAdd, Nat.reduceSub, List.replicate, List.cons_append, List.nil_append, List.append_nil, List.getElem?_cons_zero, List.getElem?_cons_succ, Option.some.injEq, exists_and_left, exists_eq_left', exists_eq_left, exists_eq, ix_tup, at0, at1, at2, op_add', op_sub', op_mul', op_fdiv', op_mod', op_pow', op_addT, cm_lt, cm_le, cm_gt, cm_ge, cm_eq, cm_ne, cm_eqS, cm_neS, onb, oni, yn_gd, yn_cls, Nat.reduceLT, if_true, if_false, true_and, and_true, List.set_cons_zero, List.set_cons_succ, set_nm, set_tup, set_nil, set_cons, ifb, b1_abs, b1_int, b1_intB, b1_lenT, b1_lenL, b1_tupL, b1_tupT, b2_min, b2_max, seq_tup, seq_lst, seq_sq, gd_sq, ix_sq, len_sq, new_t, new_f, gd_tup, gd_lst, ix_lst, ty_int, ty_tup, ty_str, isi_ii, isi_ib, isi_tt, isi_ss, reduceIte, Bool.true_eq_false, Bool.false_eq_true, Bool.not_true, Bool.not_false,  List.zip_cons_cons, List.zip_nil_right, List.foldl_cons, List.foldl_nil, ne_eq, not_false_eq_true, not_true_eq_false, Bool.not_eq_true', decide_eq_false_iff_not, decide_eq_true_eq, reduceCtorEq, List.cons.injEq, and_self, D.ref.injEq, Cell.obj.injEq, D.int.injEq]
      exact ⟨m, ex.sub wf, q⟩
end Og.Lk44
end
section
set_option maxHeartbeats 4000000
set_option autoImplicit false
/-! Og: determinants told. -/
namespace Og
open PySem
section
variable {S : Sys} {n : Nat} {M : Nat → Nat → S.F}
theorem dB_le {B b : Nat} (hB : B ≤ 2 ^ b) : ∀ n, n ≤ 16 → dB B n ≤ 2 ^ (n * (b + 4))
  | 0, _ => by simp [dB]
  | n + 1, h => by
    have ih := dB_le hB n (by omega)
    show (n + 1) * (B * dB B n) ≤ _
    rw [Nat.succ_mul n (b + 4), Nat.pow_add 2 (n * (b + 4)), Nat.pow_add 2 b 4]
    have h1 : n + 1 ≤ 2 ^ 4 := h
    calc (n + 1) * (B * dB B n) ≤ 2 ^ 4 * (2 ^ b * 2 ^ (n * (b + 4))) := Nat.mul_le_mul h1 (Nat.mul_le_mul hB ih)
      _ = 2 ^ (n * (b + 4)) * (2 ^ b * 2 ^ 4) := by rw [Nat.mul_comm (2 ^ 4), Nat.mul_comm (2 ^ b), Nat.mul_assoc]
theorem bs_det {d B b : Nat} (h0 : 0 < d) (hd : d ≤ 2 ^ b) (hB : B ≤ 2 ^ b) (hn : n ≤ 16) (h : ∀ i, i < n → ∀ j, j < n → S.cd d B (M i j)) : Bs (n * (b + 4)) (det n M) := by
  refine ⟨d ^ n, Nat.pow_pos h0, ?_, S.cd_le (det_cd h) (dB_le hB n hn)⟩
  calc d ^ n ≤ (2 ^ b) ^ n := Nat.pow_le_pow_left hd n
    _ = 2 ^ (b * n) := by rw [← Nat.pow_mul]
    _ ≤ 2 ^ (n * (b + 4)) := Nat.pow_le_pow_right (by decide) (by rw [Nat.mul_comm n]; exact Nat.mul_le_mul_right _ (by omega))
theorem bt_cd {d B b w : Nat} {v : Nat → S.F} (h0 : 0 < d) (hd : d ≤ 2 ^ b) (hB : B ≤ 2 ^ b) (h : ∀ j, j < w → S.cd d B (v j)) : Bt w b v := ⟨d, h0, hd, fun j hj => S.cd_le (h j hj) hB⟩
/-- what is not great is shown -/
theorem shown_i {a : Int} (h : bits a ≤ 1900) : decide (a.natAbs.log2 < 1920) = true ∧ (Str.ofString (toString a)).length ≤ 2000 := by
  have e : a.natAbs.log2 < 1920 := by
    have h2 := lt_bits a
    have h3 : a.natAbs < 2 ^ 1900 := Nat.lt_of_lt_of_le h2 (Nat.pow_le_pow_right (by decide) h)
    by_cases z : a.natAbs = 0
    · rw [z]; decide
    · exact Nat.lt_trans ((Nat.log2_lt z).mpr h3) (by decide)
  refine ⟨decide_eq_true e, ?_⟩
  have e2 := int_text_length_le (k := 1920) (by decide) e
  rw [ofString_length]; omega
theorem repr_d {x : S.F} {m : Mem} {Q : KD} (hb : S.ht x ≤ 1900) (q : Q (.str (S.d x).toP.shown) m) : b1D .repr (S.d x) m Q := by
  have e1 := shown_i (Nat.le_trans (S.num_ht x) hb)
  have e2 := shown_i (Nat.le_trans (S.den_ht x) hb)
  refine ⟨d_flat, ?_, ?_, q⟩
  · show PyData.showable (.tuple [.int (S.num x), .int (S.den x)]) = true
    simp only [PyData.showable, PyData.showableAll, e1.1, e2.1, Bool.and_true]
  · show (PyData.shown (.tuple [.int (S.num x), .int (S.den x)])).length ≤ 1000000
    simp only [PyData.shown, PyData.shownAll]
    have e3 := e1.2
    have e4 := e2.2
    unfold tupleText
    simp only [Str.join, Str.length_append]
    generalize (Str.ofString (toString (S.num x))).length = u at e3 ⊢
    generalize (Str.ofString (toString (S.den x))).length = v at e4 ⊢
    have e6 : ("(" : Str).length ≤ 10 := by decide
    have e7 : (", " : Str).length ≤ 10 := by decide
    have e8 : ∀ b : Bool, (Str.ofString (if b = true then ",)" else ")")).length ≤ 10 := fun b => by cases b <;> decide
    have e9 := e8 ([Str.ofString (toString (S.num x)), Str.ofString (toString (S.den x))].length == 1)
    omega
theorem Bs.ht {b : Nat} {x : S.F} (h : Bs b x) (hb : b + 7 ≤ 1900) : S.ht x ≤ 1900 := by
  obtain ⟨d, h0, h1, h2⟩ := h
  have e : (2 : Nat) ^ b < 2 ^ (b + 7) := Nat.pow_lt_pow_right (by decide) (by omega)
  exact Nat.le_trans (S.cd_ht h2 h0 (n := b + 7) (by omega) e (by omega)) hb
/-- two rows exchanged, or one with itself -/
def sw2 (p a : Nat) (M : Nat → Nat → S.F) : Nat → Nat → S.F := fun i => if i = a then M p else if i = p then M a else M i
theorem det_sw2 {p a : Nat} (hp : p < n) (ha : a < n) : det n (sw2 p a M) = if p = a then det n M else 0 + -(det n M) := by
  have z : ∀ x : S.F, 0 + -x = -x := fun x => by grind
  by_cases e : p = a
  · subst e
    rw [if_pos rfl]
    congr 1
    funext i
    unfold sw2
    split
    · rename_i h; rw [h]
    · rfl
  · rw [if_neg e, z]
    rcases Nat.lt_or_gt_of_ne e with h | h
    · have e2 : sw2 p a M = swp p a M := funext fun i => by
        unfold sw2 swp
        split <;> split <;> first | rfl | omega
      rw [e2]
      exact det_alt.swap (d := a - p - 1) (by omega) ha
    · have e2 : sw2 p a M = swp a p M := rfl
      rw [e2]
      exact det_alt.swap (d := p - a - 1) (by omega) hp
theorem cut_row {g : Nat → D} {w a : Nat} {x : D} (h : a < w) :
    cutD ((List.range w).map g) none (some (a : Int)) ++ [x] ++ cutD ((List.range w).map g) (some ((a : Int) + 1)) none = (List.range w).map fun i => if i = a then x else g i := by
  generalize hxs : ((List.range w).map g) = xs
  have hl : xs.length = w := by rw [← hxs]; simp
  have e1 : cutD xs none (some (a : Int)) = xs.take a := by
    unfold cutD
    rw [HT.sIx_none, HT.sIx_nat, hl, Nat.min_eq_left (by omega), List.drop_zero, Nat.sub_zero]
  have e2 : cutD xs (some ((a : Int) + 1)) none = xs.drop (a + 1) := by
    unfold cutD
    rw [show ((a : Int) + 1) = ((a + 1 : Nat) : Int) from by omega, HT.sIx_none, HT.sIx_nat, hl, Nat.min_eq_left (by omega)]
    exact List.take_of_length_le (by simp [hl])
  rw [e1, e2, List.append_assoc]
  apply List.ext_getElem?
  intro i
  rw [List.getElem?_map]
  by_cases hi : i < w
  · rw [List.getElem?_range hi]
    rcases Nat.lt_trichotomy i a with z | z | z
    · rw [List.getElem?_append_left (by simp [hl]; omega), List.getElem?_take_of_lt z, ← hxs, List.getElem?_map, List.getElem?_range hi]
      simp only [Option.map_some, show i ≠ a from by omega, if_false]
    · subst z
      rw [List.getElem?_append_right (by simp [hl]; omega)]
      simp [hl, Nat.min_eq_left (Nat.le_of_lt hi)]
    · rw [List.getElem?_append_right (by simp [hl]; omega), List.length_take, hl, Nat.min_eq_left (by omega)]
      rw [show i - a = (i - a - 1) + 1 from by omega, List.singleton_append, List.getElem?_cons_succ, List.getElem?_drop, show a + 1 + (i - a - 1) = i from by omega, ← hxs, List.getElem?_map, List.getElem?_range hi]
      simp only [Option.map_some, show i ≠ a from by omega, if_false]
  · rw [List.getElem?_eq_none (by simp [hl]; omega), List.getElem?_eq_none (by simp; omega)]
    rfl
theorem mat_cut {a : Nat} {v : Nat → S.F} (h : a < n) : (cutD ((List.range n).map fun i => S.row n (M i)) none (some (a : Int)) ++ [S.row n v] ++ cutD ((List.range n).map fun i => S.row n (M i)) (some ((a : Int) + 1)) none) = (List.range n).map fun i => S.row n (setR M a v i) := by
  rw [cut_row h]
  exact List.map_congr_left fun i _ => by unfold setR; split <;> rfl
theorem eq_nilT {m : Mem} {l : List D} {Q : KD} (hf : flats 39 l = true) : cmpD .eq (.tup l) (.tup []) m Q = Q (.bl l.isEmpty) m := by
  show (D.flat 40 (.tup l) = true ∧ D.flat 40 (.tup []) = true ∧ Q (.bl (PyData.eqv (D.tup l).toP (D.tup []).toP)) m) = _
  have e : PyData.eqv (D.tup l).toP (D.tup []).toP = l.isEmpty := by
    cases l with
    | nil => rfl
    | cons a b => rfl
  rw [e]
  have e1 : D.flat 40 (.tup l) = true := hf
  have e2 : D.flat 40 (.tup []) = true := rfl
  rw [e1, e2]
  simp
end
end Og
end
section
set_option maxHeartbeats 4000000
set_option autoImplicit false
namespace Og.Lk44
open PySem Og
def s_due : Spec := fun ds m Q => ∃ (k : Ks) (n : Nat) (M : Nat → Nat → (sys k).F), ds = [.int (sys k).by_, (sys k).mat n n M] ∧ 1 ≤ n ∧ n ≤ 16 ∧ WfM m ∧ (∀ i, i < n → Bt n 100 (M i)) ∧ Q ((sys k).d (det n M)) m
theorem roomDet {n : Nat} (h : n ≤ 16) : sB 100 (n + 1) + 7 ≤ 2 ^ 26 := by
  have e := sB_form (r := 100) (k := n + 1)
  have h2 : 2 ^ (n + 1) ≤ 2 ^ 17 := Nat.pow_le_pow_right (by decide) (by omega)
  omega
theorem law_due {X : Ctx} (hp : X.fn 5 = s_pick) (hs : X.fn 7 = s_det) (ds : List D) (m : Mem) (Q : KD) (h : s_due ds m Q) : body X 2 c8 ds m Q := by
  obtain ⟨k, n, M, rfl, n1, n2, wf, hM, q⟩ := h
  simp only [c8, hp, hs, mat_len, body, exs, ex, ev, evs, evB, evO, evT, evI, startD, List.map_cons, List.map_nil, List.length_cons, List.length_nil, Nat.reduceAdd, Nat.reduceSub, List.replicate, List.cons_append, List.nil_append, List.append_nil, List.getElem?_cons_zero, List.getElem?_cons_succ, Option.some.injEq, exists_and_left, exists_eq_left', exists_eq_left, exists_eq, ix_tup, at0, at1, at2, op_add', op_sub', op_mul', op_fdiv', op_mod', op_pow', op_addT, cm_lt, cm_le, cm_gt, cm_ge, cm_eq, cm_ne, cm_eqS, cm_neS, onb, oni, yn_gd, yn_cls, Nat.reduceLT, if_true, if_false, true_and, and_true, List.set_cons_zero, List.set_cons_succ, set_nm, set_tup, set_nil, set_cons, ifb, b1_abs, b1_int, b1_intB, b1_lenT, b1_lenL, b1_tupL, b1_tupT, b2_min, b2_max, seq_tup, seq_lst, seq_sq, gd_sq, ix_sq, len_sq, new_t, new_f, gd_tup, gd_lst, ix_lst, ty_int, ty_tup, ty_str, isi_ii, isi_ib, isi_tt, isi_ss, reduceIte, Bool.true_eq_false, Bool.false_eq_true, Bool.not_true, Bool.not_false,  List.zip_cons_cons, List.zip_nil_right, List.foldl_cons, List.foldl_nil, ne_eq, not_false_eq_true, not_true_eq_false, Bool.not_eq_true', decide_eq_false_iff_not, decide_eq_true_eq, reduceCtorEq, List.cons.injEq, and_self, D.ref.injEq, Cell.obj.injEq, D.int.injEq]
  by_cases h5 : (n : Int) < 5
  · rw [if_pos h5]
    refine ⟨k, n, 100, M, rfl, n1, by omega, wf, by decide, hM, m, SubO.refl, ?_⟩
    rw [leib_det n n1 (by omega)]
    exact q
  · rw [if_neg h5]
    exact ⟨k, n, 100, M, rfl, n1, n2, wf, roomDet n2, hM, m, SubO.refl, q⟩
def s_together : Spec := fun ds m Q => ∃ (k : Ks) (n : Nat) (M N : Nat → Nat → (sys k).F), ds = [.int (sys k).by_, (sys k).mat n n M, (sys k).mat n n N] ∧ 1 ≤ n ∧ n ≤ 16 ∧ WfM m ∧
  (∀ i, i < n → ∀ j, j < n → (sys k).cd 42 A1 (M i j) ∧ (sys k).cd 42 A1 (N i j)) ∧ Q ((sys k).mat n n (mulM n M N)) m
theorem mul_cd {S : Sys} {n : Nat} {M N : Nat → Nat → S.F} {A : Nat} (h : ∀ i, i < n → ∀ j, j < n → S.cd 42 A (M i j) ∧ S.cd 42 A (N i j)) : ∀ i, i < n → ∀ j, j < n → S.cd (42 * 42) (n * (A * A)) (mulM n M N i j) := fun i hi j hj =>
  sm_cd fun t ht => S.cd_mul (h i hi t ht).1 (h t ht j hj).2
theorem law_together {X : Ctx} (hm : X.fn 14 = s_span_mixed) (ds : List D) (m : Mem) (Q : KD) (h : s_together ds m Q) : body X 4 c41 ds m Q := by
  obtain ⟨k, n, M, N, rfl, n1, n2, wf, hMN, q⟩ := h
  have A1l : 251 * A1 ≤ 2 ^ 100 := A1_lt
  have big : 16 * (A1 * A1) < 2 ^ 200 := by unfold A1 A0; decide
  have big2 : n * (A1 * A1) ≤ 16 * (A1 * A1) := Nat.mul_le_mul_right _ n2
  have two : (2 : Nat) ^ 100 < 2 ^ 200 := by decide
  simp only [c41, hm, seq_mat, gd_mat, body, exs, ex, ev, evs, evB, evO, evT, evI, startD, List.map_cons, List.map_nil, List.length_cons, List.length_nil, Nat.reduceAdd, Nat.reduceSub, List.replicate, List.cons_append, List.nil_append, List.append_nil, List.getElem?_cons_zero, List.getElem?_cons_succ, Option.some.injEq, exists_and_left, exists_eq_left', exists_eq_left, exists_eq, ix_tup, at0, at1, at2, op_add', op_sub', op_mul', op_fdiv', op_mod', op_pow', op_addT, cm_lt, cm_le, cm_gt, cm_ge, cm_eq, cm_ne, cm_eqS, cm_neS, onb, oni, yn_gd, yn_cls, Nat.reduceLT, if_true, if_false, true_and, and_true, List.set_cons_zero, List.set_cons_succ, set_nm, set_tup, set_nil, set_cons, ifb, b1_abs, b1_int, b1_intB, b1_lenT, b1_lenL, b1_tupL, b1_tupT, b2_min, b2_max, seq_tup, seq_lst, seq_sq, gd_sq, ix_sq, len_sq, new_t, new_f, gd_tup, gd_lst, ix_lst, ty_int, ty_tup, ty_str, isi_ii, isi_ib, isi_tt, isi_ss, reduceIte, Bool.true_eq_false, Bool.false_eq_true, Bool.not_true, Bool.not_false,  List.zip_cons_cons, List.zip_nil_right, List.foldl_cons, List.foldl_nil, ne_eq, not_false_eq_true, not_true_eq_false, Bool.not_eq_true', decide_eq_false_iff_not, decide_eq_true_eq, reduceCtorEq, List.cons.injEq, and_self, D.ref.injEq, Cell.obj.injEq, D.int.injEq]
  refine lc_pureW (List.range n) (fun i => (sys k).row n (M i)) (fun i => (sys k).row n (mulM n M N i)) (fun _ _ _ => trivial) ?_ ?_
  · intro i hi p acc K hp hK
    have hi' := List.mem_range.mp hi
    simp only [wipeD, body, exs, ex, ev, evs, evB, evO, evT, evI, startD, List.map_cons, List.map_nil, List.length_cons, List.length_nil, Nat.reduceAdd, Nat.reduceSub, List.replicate, List.cons_append, List.nil_append, List.append_nil, List.getElem?_cons_zero, List.getElem?_cons_succ, Option.some.injEq, exists_and_left, exists_eq_left', exists_eq_left, exists_eq, ix_tup, at0, at1, at2, op_add', op_sub', op_mul', op_fdiv', op_mod', op_pow', op_addT, cm_lt, cm_le, cm_gt, cm_ge, cm_eq, cm_ne, cm_eqS, cm_neS, onb, oni, yn_gd, yn_cls, Nat.reduceLT, if_true, if_false, true_and, and_true, List.set_cons_zero, List.set_cons_succ, set_nm, set_tup, set_nil, set_cons, ifb, b1_abs, b1_int, b1_intB, b1_lenT, b1_lenL, b1_tupL, b1_tupT, b2_min, b2_max, seq_tup, seq_lst, seq_sq, gd_sq, ix_sq, len_sq, new_t, new_f, gd_tup, gd_lst, ix_lst, ty_int, ty_tup, ty_str, isi_ii, isi_ib, isi_tt, isi_ss, reduceIte, Bool.true_eq_false, Bool.false_eq_true, Bool.not_true, Bool.not_false,  List.zip_cons_cons, List.zip_nil_right, List.foldl_cons, List.foldl_nil, ne_eq, not_false_eq_true, not_true_eq_false, Bool.not_eq_true', decide_eq_false_iff_not, decide_eq_true_eq, reduceCtorEq, List.cons.injEq, and_self, D.ref.injEq, Cell.obj.injEq, D.int.injEq]
    refine ⟨k, n, n, N, M i, true, true, rfl, n1, by omega, wf_lst wf hp, fun t ht => ⟨?_, fun j hj => ⟨?_, ?_, ?_⟩⟩, hK⟩
    · exact Sm_of (n := 200) (hMN i hi' t ht).1 (by decide) (by decide) (by omega) (by decide) (by decide)
    · exact Sm_of (n := 200) (hMN t ht j hj).2 (by decide) (by decide) (by omega) (by decide) (by decide)
    · exact Sm_of (n := 200) ((sys k).cd_mul (hMN i hi' t ht).1 (hMN t ht j hj).2) (by decide) (by decide) (by omega) (by decide) (by decide)
    · exact Sm_of (n := 200) (sm_cd (n := t) fun s hs => (sys k).cd_mul (hMN i hi' s (by omega)).1 (hMN s (by omega) j hj).2) (by decide) (by decide) (by
        have : t * (A1 * A1) ≤ 16 * (A1 * A1) := Nat.mul_le_mul_right _ (by omega)
        omega) (by decide) (by decide)
  · try simp only [body, exs, ex, ev, evs, evB, evO, evT, evI, startD, List.map_cons, List.map_nil, List.length_cons, List.length_nil, Nat.reduceAdd, Nat.reduceSub, List.replicate, List.cons_append, List.nil_append, List.append_nil, List.getElem?_cons_zero, List.getElem?_cons_succ, Option.some.injEq, exists_and_left, exists_eq_left', exists_eq_left, exists_eq, ix_tup, at0, at1, at2, op_add', op_sub', op_mul', op_fdiv', op_mod', op_pow', op_addT, cm_lt, cm_le, cm_gt, cm_ge, cm_eq, cm_ne, cm_eqS, cm_neS, onb, oni, yn_gd, yn_cls, Nat.reduceLT, if_true, if_false, true_and, and_true, List.set_cons_zero, List.set_cons_succ, set_nm, set_tup, set_nil, set_cons, ifb, b1_abs, b1_int, b1_intB, b1_lenT, b1_lenL, b1_tupL, b1_tupT, b2_min, b2_max, seq_tup, seq_lst, seq_sq, gd_sq, ix_sq, len_sq, new_t, new_f, gd_tup, gd_lst, ix_lst, ty_int, ty_tup, ty_str, isi_ii, isi_ib, isi_tt, isi_ss, reduceIte, Bool.true_eq_false, Bool.false_eq_true, Bool.not_true, Bool.not_false,  List.zip_cons_cons, List.zip_nil_right, List.foldl_cons, List.foldl_nil, ne_eq, not_false_eq_true, not_true_eq_false, Bool.not_eq_true', decide_eq_false_iff_not, decide_eq_true_eq, reduceCtorEq, List.cons.injEq, and_self, D.ref.injEq, Cell.obj.injEq, D.int.injEq]
    exact ⟨m, SubO.refl, q⟩
end Og.Lk44
end
section
set_option maxHeartbeats 4000000
set_option autoImplicit false
namespace Og.Lk44
open PySem Og
section
variable {X : Ctx} {k : Ks} {n : Nat} {M : Nat → Nat → (sys k).F} {m' : Mem} {o0 o5 o6 o7 o8 o9 o10 o11 o12 o13 o14 o15 o16 : Option D} {N C B : KR} {R : KD}
theorem det_ht (n2 : n ≤ 16) (hM : ∀ i, i < n → ∀ j, j < n → (sys k).cd 42 A1 (M i j)) : Bs 1664 (det n M) ∧ (sys k).ht (det n M) ≤ 1900 := by
  have A1l : 251 * A1 ≤ 2 ^ 100 := A1_lt
  have h := (bs_det (S := sys k) (b := 100) (d := 42) (B := A1) (by decide) (by decide) (by omega) n2 hM).mono (c := 1664) (by omega)
  exact ⟨h, h.ht (by decide)⟩
theorem mat_bt (hM : ∀ i, i < n → ∀ j, j < n → (sys k).cd 42 (251 * A1) (M i j)) : ∀ i, i < n → Bt n 100 (M i) := fun i hi => bt_cd (d := 42) (by decide) (by decide) A1_lt (hM i hi)
theorem up251 {i j : Nat} {A : Nat} (h : (sys k).cd 42 A (M i j)) (hA : A ≤ 251 * A1) : (sys k).cd 42 (251 * A1) (M i j) := (sys k).cd_le h hA
theorem mv_cols (hd : X.fn 33 = s_det) (n1 : 1 ≤ n) (n2 : n ≤ 16) (wf : WfM m') (hM : ∀ i, i < n → ∀ j, j < n → (sys k).cd 42 A1 (M i j)) (kR : R (.bl true) m') :
    exs X (c34.drop 9) [o0, some (.int (sys k).by_), some ((sys k).mat n n M), some ((sys k).d (det n M)), some (.int (n : Int)), o5, o6, o7, o8, o9, o10, o11, o12, o13, o14, o15, o16] m' { nx := N, ct := C, bk := B, rt := R } := by
  simp only [c34, List.drop, hd, body, exs, ex, ev, evs, evB, evO, evT, evI, startD, List.map_cons, List.map_nil, List.length_cons, List.length_nil, Nat.reduceAdd, Nat.reduceSub, List.replicate, List.cons_append, List.nil_append, List.append_nil, List.getElem?_cons_zero, List.getElem?_cons_succ, Option.some.injEq, exists_and_left, exists_eq_left', exists_eq_left, exists_eq, ix_tup, at0, at1, at2, op_add', op_sub', op_mul', op_fdiv', op_mod', op_pow', op_addT, cm_lt, cm_le, cm_gt, cm_ge, cm_eq, cm_ne, cm_eqS, cm_neS, onb, oni, yn_gd, yn_cls, Nat.reduceLT, if_true, if_false, true_and, and_true, List.set_cons_zero, List.set_cons_succ, set_nm, set_tup, set_nil, set_cons, ifb, b1_abs, b1_int, b1_intB, b1_lenT, b1_lenL, b1_tupL, b1_tupT, b2_min, b2_max, seq_tup, seq_lst, seq_sq, gd_sq, ix_sq, len_sq, new_t, new_f, gd_tup, gd_lst, ix_lst, ty_int, ty_tup, ty_str, isi_ii, isi_ib, isi_tt, isi_ss, reduceIte, Bool.true_eq_false, Bool.false_eq_true, Bool.not_true, Bool.not_false,  List.zip_cons_cons, List.zip_nil_right, List.foldl_cons, List.foldl_nil, ne_eq, not_false_eq_true, not_true_eq_false, Bool.not_eq_true', decide_eq_false_iff_not, decide_eq_true_eq, reduceCtorEq, List.cons.injEq, and_self, D.ref.injEq, Cell.obj.injEq, D.int.injEq, and_assoc, seq_sts, gd_sts]
  refine ⟨by omega, by omega, ?_⟩
  rw [rgD_nat]
  refine lc_pureW (List.range n) (fun i => .int ((i : Nat) : Int)) (fun j => (sys k).row n fun i => M i j) (fun _ _ _ => trivial) ?_ ?_
  · intro j hj p acc K hp hK
    have hj' := List.mem_range.mp hj
    simp only [wipeD, seq_mat, gd_mat, body, exs, ex, ev, evs, evB, evO, evT, evI, startD, List.map_cons, List.map_nil, List.length_cons, List.length_nil, Nat.reduceAdd, Nat.reduceSub, List.replicate, List.cons_append, List.nil_append, List.append_nil, List.getElem?_cons_zero, List.getElem?_cons_succ, Option.some.injEq, exists_and_left, exists_eq_left', exists_eq_left, exists_eq, ix_tup, at0, at1, at2, op_add', op_sub', op_mul', op_fdiv', op_mod', op_pow', op_addT, cm_lt, cm_le, cm_gt, cm_ge, cm_eq, cm_ne, cm_eqS, cm_neS, onb, oni, yn_gd, yn_cls, Nat.reduceLT, if_true, if_false, true_and, and_true, List.set_cons_zero, List.set_cons_succ, set_nm, set_tup, set_nil, set_cons, ifb, b1_abs, b1_int, b1_intB, b1_lenT, b1_lenL, b1_tupL, b1_tupT, b2_min, b2_max, seq_tup, seq_lst, seq_sq, gd_sq, ix_sq, len_sq, new_t, new_f, gd_tup, gd_lst, ix_lst, ty_int, ty_tup, ty_str, isi_ii, isi_ib, isi_tt, isi_ss, reduceIte, Bool.true_eq_false, Bool.false_eq_true, Bool.not_true, Bool.not_false,  List.zip_cons_cons, List.zip_nil_right, List.foldl_cons, List.foldl_nil, ne_eq, not_false_eq_true, not_true_eq_false, Bool.not_eq_true', decide_eq_false_iff_not, decide_eq_true_eq, reduceCtorEq, List.cons.injEq, and_self, D.ref.injEq, Cell.obj.injEq, D.int.injEq, and_assoc, seq_sts, gd_sts]
    refine lc_pureW (List.range n) (fun i => (sys k).row n (M i)) (fun i => (sys k).d (M i j)) (fun _ _ _ => trivial) ?_ ?_
    · intro i hi p2 acc2 K2 hp2 hK2
      try simp only [wipeD, body, exs, ex, ev, evs, evB, evO, evT, evI, startD, List.map_cons, List.map_nil, List.length_cons, List.length_nil, Nat.reduceAdd, Nat.reduceSub, List.replicate, List.cons_append, List.nil_append, List.append_nil, List.getElem?_cons_zero, List.getElem?_cons_succ, Option.some.injEq, exists_and_left, exists_eq_left', exists_eq_left, exists_eq, ix_tup, at0, at1, at2, op_add', op_sub', op_mul', op_fdiv', op_mod', op_pow', op_addT, cm_lt, cm_le, cm_gt, cm_ge, cm_eq, cm_ne, cm_eqS, cm_neS, onb, oni, yn_gd, yn_cls, Nat.reduceLT, if_true, if_false, true_and, and_true, List.set_cons_zero, List.set_cons_succ, set_nm, set_tup, set_nil, set_cons, ifb, b1_abs, b1_int, b1_intB, b1_lenT, b1_lenL, b1_tupL, b1_tupT, b2_min, b2_max, seq_tup, seq_lst, seq_sq, gd_sq, ix_sq, len_sq, new_t, new_f, gd_tup, gd_lst, ix_lst, ty_int, ty_tup, ty_str, isi_ii, isi_ib, isi_tt, isi_ss, reduceIte, Bool.true_eq_false, Bool.false_eq_true, Bool.not_true, Bool.not_false,  List.zip_cons_cons, List.zip_nil_right, List.foldl_cons, List.foldl_nil, ne_eq, not_false_eq_true, not_true_eq_false, Bool.not_eq_true', decide_eq_false_iff_not, decide_eq_true_eq, reduceCtorEq, List.cons.injEq, and_self, D.ref.injEq, Cell.obj.injEq, D.int.injEq, and_assoc, seq_sts, gd_sts]
      show ixD _ ((sys k).row n (M i)) (.int (j : Nat)) _
      rw [row_get hj']
      exact hK2
    · try simp only [body, exs, ex, ev, evs, evB, evO, evT, evI, startD, List.map_cons, List.map_nil, List.length_cons, List.length_nil, Nat.reduceAdd, Nat.reduceSub, List.replicate, List.cons_append, List.nil_append, List.append_nil, List.getElem?_cons_zero, List.getElem?_cons_succ, Option.some.injEq, exists_and_left, exists_eq_left', exists_eq_left, exists_eq, ix_tup, at0, at1, at2, op_add', op_sub', op_mul', op_fdiv', op_mod', op_pow', op_addT, cm_lt, cm_le, cm_gt, cm_ge, cm_eq, cm_ne, cm_eqS, cm_neS, onb, oni, yn_gd, yn_cls, Nat.reduceLT, if_true, if_false, true_and, and_true, List.set_cons_zero, List.set_cons_succ, set_nm, set_tup, set_nil, set_cons, ifb, b1_abs, b1_int, b1_intB, b1_lenT, b1_lenL, b1_tupL, b1_tupT, b2_min, b2_max, seq_tup, seq_lst, seq_sq, gd_sq, ix_sq, len_sq, new_t, new_f, gd_tup, gd_lst, ix_lst, ty_int, ty_tup, ty_str, isi_ii, isi_ib, isi_tt, isi_ss, reduceIte, Bool.true_eq_false, Bool.false_eq_true, Bool.not_true, Bool.not_false,  List.zip_cons_cons, List.zip_nil_right, List.foldl_cons, List.foldl_nil, ne_eq, not_false_eq_true, not_true_eq_false, Bool.not_eq_true', decide_eq_false_iff_not, decide_eq_true_eq, reduceCtorEq, List.cons.injEq, and_self, D.ref.injEq, Cell.obj.injEq, D.int.injEq, and_assoc, seq_sts, gd_sts]
      exact hK
  · try simp only [body, exs, ex, ev, evs, evB, evO, evT, evI, startD, List.map_cons, List.map_nil, List.length_cons, List.length_nil, Nat.reduceAdd, Nat.reduceSub, List.replicate, List.cons_append, List.nil_append, List.append_nil, List.getElem?_cons_zero, List.getElem?_cons_succ, Option.some.injEq, exists_and_left, exists_eq_left', exists_eq_left, exists_eq, ix_tup, at0, at1, at2, op_add', op_sub', op_mul', op_fdiv', op_mod', op_pow', op_addT, cm_lt, cm_le, cm_gt, cm_ge, cm_eq, cm_ne, cm_eqS, cm_neS, onb, oni, yn_gd, yn_cls, Nat.reduceLT, if_true, if_false, true_and, and_true, List.set_cons_zero, List.set_cons_succ, set_nm, set_tup, set_nil, set_cons, ifb, b1_abs, b1_int, b1_intB, b1_lenT, b1_lenL, b1_tupL, b1_tupT, b2_min, b2_max, seq_tup, seq_lst, seq_sq, gd_sq, ix_sq, len_sq, new_t, new_f, gd_tup, gd_lst, ix_lst, ty_int, ty_tup, ty_str, isi_ii, isi_ib, isi_tt, isi_ss, reduceIte, Bool.true_eq_false, Bool.false_eq_true, Bool.not_true, Bool.not_false,  List.zip_cons_cons, List.zip_nil_right, List.foldl_cons, List.foldl_nil, ne_eq, not_false_eq_true, not_true_eq_false, Bool.not_eq_true', decide_eq_false_iff_not, decide_eq_true_eq, reduceCtorEq, List.cons.injEq, and_self, D.ref.injEq, Cell.obj.injEq, D.int.injEq, and_assoc, seq_sts, gd_sts]
    refine ⟨k, n, 100, fun j i => M i j, rfl, n1, n2, wf, roomDet n2, mat_bt fun i hi j hj => (sys k).cd_le (hM j hj i hi) (by omega), ?_⟩
    rw [show det n (fun j i => M i j) = det n M from det_tr]
    have h := det_ht n2 hM
    refine repr_d h.2 ?_
    refine repr_d h.2 ?_
    simp only [body, exs, ex, ev, evs, evB, evO, evT, evI, startD, List.map_cons, List.map_nil, List.length_cons, List.length_nil, Nat.reduceAdd, Nat.reduceSub, List.replicate, List.cons_append, List.nil_append, List.append_nil, List.getElem?_cons_zero, List.getElem?_cons_succ, Option.some.injEq, exists_and_left, exists_eq_left', exists_eq_left, exists_eq, ix_tup, at0, at1, at2, op_add', op_sub', op_mul', op_fdiv', op_mod', op_pow', op_addT, cm_lt, cm_le, cm_gt, cm_ge, cm_eq, cm_ne, cm_eqS, cm_neS, onb, oni, yn_gd, yn_cls, Nat.reduceLT, if_true, if_false, true_and, and_true, List.set_cons_zero, List.set_cons_succ, set_nm, set_tup, set_nil, set_cons, ifb, b1_abs, b1_int, b1_intB, b1_lenT, b1_lenL, b1_tupL, b1_tupT, b2_min, b2_max, seq_tup, seq_lst, seq_sq, gd_sq, ix_sq, len_sq, new_t, new_f, gd_tup, gd_lst, ix_lst, ty_int, ty_tup, ty_str, isi_ii, isi_ib, isi_tt, isi_ss, reduceIte, Bool.true_eq_false, Bool.false_eq_true, Bool.not_true, Bool.not_false,  List.zip_cons_cons, List.zip_nil_right, List.foldl_cons, List.foldl_nil, ne_eq, not_false_eq_true, not_true_eq_false, Bool.not_eq_true', decide_eq_false_iff_not, decide_eq_true_eq, reduceCtorEq, List.cons.injEq, and_self, D.ref.injEq, Cell.obj.injEq, D.int.injEq, and_assoc, seq_sts, gd_sts]
    exact kR
theorem mv_scaled (hd : X.fn 33 = s_det) (ht : X.fn 2 = s_num_times) {a : Nat} {t : Int} (n1 : 1 ≤ n) (n2 : n ≤ 16) (wf : WfM m') (ha : a < n) (ht5 : t.natAbs ≤ 5) (hM : ∀ i, i < n → ∀ j, j < n → (sys k).cd 42 A1 (M i j))
    (kN : ∀ o10, exs X (c34.drop 8) [o0, some (.int (sys k).by_), some ((sys k).mat n n M), some ((sys k).d (det n M)), some (.int (n : Int)), some (.int (a : Int)), o6, some ((sys k).d ((sys k).I t)), o8, o9, o10, o11, o12, o13, o14, o15, o16] m' { nx := N, ct := C, bk := B, rt := R }) :
    exs X (c34.drop 6) [o0, some (.int (sys k).by_), some ((sys k).mat n n M), some ((sys k).d (det n M)), some (.int (n : Int)), some (.int (a : Int)), o6, some ((sys k).d ((sys k).I t)), o8, o9, o10, o11, o12, o13, o14, o15, o16] m' { nx := N, ct := C, bk := B, rt := R } := by
  have e68 : c34.drop 6 = (c34.drop 6).take 2 ++ c34.drop 8 := rfl
  rw [e68, exs_app]
  generalize c34.drop 8 = rest at kN ⊢
  have A1l : 251 * A1 ≤ 2 ^ 100 := A1_lt
  have h := det_ht n2 hM
  have bI : Bs 3 ((sys k).I t) := ⟨1, by decide, by decide, (sys k).cd_le cdI (by omega)⟩
  have sI := bI.sm (by decide)
  have cs : ∀ j, j < n → (sys k).cd 42 (5 * A1) ((sys k).I t * M a j) := fun j hj => (sys k).cd_le (cd_mul1 cdI (hM a ha j hj)) (Nat.mul_le_mul_right _ ht5)
  simp only [c34, List.take, List.drop, hd, ht, body, exs, ex, ev, evs, evB, evO, evT, evI, startD, List.map_cons, List.map_nil, List.length_cons, List.length_nil, Nat.reduceAdd, Nat.reduceSub, List.replicate, List.cons_append, List.nil_append, List.append_nil, List.getElem?_cons_zero, List.getElem?_cons_succ, Option.some.injEq, exists_and_left, exists_eq_left', exists_eq_left, exists_eq, ix_tup, at0, at1, at2, op_add', op_sub', op_mul', op_fdiv', op_mod', op_pow', op_addT, cm_lt, cm_le, cm_gt, cm_ge, cm_eq, cm_ne, cm_eqS, cm_neS, onb, oni, yn_gd, yn_cls, Nat.reduceLT, if_true, if_false, true_and, and_true, List.set_cons_zero, List.set_cons_succ, set_nm, set_tup, set_nil, set_cons, ifb, b1_abs, b1_int, b1_intB, b1_lenT, b1_lenL, b1_tupL, b1_tupT, b2_min, b2_max, seq_tup, seq_lst, seq_sq, gd_sq, ix_sq, len_sq, new_t, new_f, gd_tup, gd_lst, ix_lst, ty_int, ty_tup, ty_str, isi_ii, isi_ib, isi_tt, isi_ss, reduceIte, Bool.true_eq_false, Bool.false_eq_true, Bool.not_true, Bool.not_false,  List.zip_cons_cons, List.zip_nil_right, List.foldl_cons, List.foldl_nil, ne_eq, not_false_eq_true, not_true_eq_false, Bool.not_eq_true', decide_eq_false_iff_not, decide_eq_true_eq, reduceCtorEq, List.cons.injEq, and_self, D.ref.injEq, Cell.obj.injEq, D.int.injEq, and_assoc, seq_sts, gd_sts]
  rw [mat_get ha]
  simp only [seq_row, gd_row, body, exs, ex, ev, evs, evB, evO, evT, evI, startD, List.map_cons, List.map_nil, List.length_cons, List.length_nil, Nat.reduceAdd, Nat.reduceSub, List.replicate, List.cons_append, List.nil_append, List.append_nil, List.getElem?_cons_zero, List.getElem?_cons_succ, Option.some.injEq, exists_and_left, exists_eq_left', exists_eq_left, exists_eq, ix_tup, at0, at1, at2, op_add', op_sub', op_mul', op_fdiv', op_mod', op_pow', op_addT, cm_lt, cm_le, cm_gt, cm_ge, cm_eq, cm_ne, cm_eqS, cm_neS, onb, oni, yn_gd, yn_cls, Nat.reduceLT, if_true, if_false, true_and, and_true, List.set_cons_zero, List.set_cons_succ, set_nm, set_tup, set_nil, set_cons, ifb, b1_abs, b1_int, b1_intB, b1_lenT, b1_lenL, b1_tupL, b1_tupT, b2_min, b2_max, seq_tup, seq_lst, seq_sq, gd_sq, ix_sq, len_sq, new_t, new_f, gd_tup, gd_lst, ix_lst, ty_int, ty_tup, ty_str, isi_ii, isi_ib, isi_tt, isi_ss, reduceIte, Bool.true_eq_false, Bool.false_eq_true, Bool.not_true, Bool.not_false,  List.zip_cons_cons, List.zip_nil_right, List.foldl_cons, List.foldl_nil, ne_eq, not_false_eq_true, not_true_eq_false, Bool.not_eq_true', decide_eq_false_iff_not, decide_eq_true_eq, reduceCtorEq, List.cons.injEq, and_self, D.ref.injEq, Cell.obj.injEq, D.int.injEq, and_assoc, seq_sts, gd_sts]
  refine lc_pureW (List.range n) (fun j => (sys k).d (M a j)) (fun j => (sys k).d ((sys k).I t * M a j)) (fun _ _ _ => trivial) ?_ ?_
  · intro j hj p acc K hp hK
    have hj' := List.mem_range.mp hj
    simp only [wipeD, body, exs, ex, ev, evs, evB, evO, evT, evI, startD, List.map_cons, List.map_nil, List.length_cons, List.length_nil, Nat.reduceAdd, Nat.reduceSub, List.replicate, List.cons_append, List.nil_append, List.append_nil, List.getElem?_cons_zero, List.getElem?_cons_succ, Option.some.injEq, exists_and_left, exists_eq_left', exists_eq_left, exists_eq, ix_tup, at0, at1, at2, op_add', op_sub', op_mul', op_fdiv', op_mod', op_pow', op_addT, cm_lt, cm_le, cm_gt, cm_ge, cm_eq, cm_ne, cm_eqS, cm_neS, onb, oni, yn_gd, yn_cls, Nat.reduceLT, if_true, if_false, true_and, and_true, List.set_cons_zero, List.set_cons_succ, set_nm, set_tup, set_nil, set_cons, ifb, b1_abs, b1_int, b1_intB, b1_lenT, b1_lenL, b1_tupL, b1_tupT, b2_min, b2_max, seq_tup, seq_lst, seq_sq, gd_sq, ix_sq, len_sq, new_t, new_f, gd_tup, gd_lst, ix_lst, ty_int, ty_tup, ty_str, isi_ii, isi_ib, isi_tt, isi_ss, reduceIte, Bool.true_eq_false, Bool.false_eq_true, Bool.not_true, Bool.not_false,  List.zip_cons_cons, List.zip_nil_right, List.foldl_cons, List.foldl_nil, ne_eq, not_false_eq_true, not_true_eq_false, Bool.not_eq_true', decide_eq_false_iff_not, decide_eq_true_eq, reduceCtorEq, List.cons.injEq, and_self, D.ref.injEq, Cell.obj.injEq, D.int.injEq, and_assoc, seq_sts, gd_sts]
    exact ⟨k, _, _, rfl, Sm.two sI (Sm_of (n := 100) (hM a ha j hj') (by decide) (by decide) (by unfold A1 A0; decide) (by decide) (by decide)), hK⟩
  · rw [tup_row]
    simp only [sl_mat, body, exs, ex, ev, evs, evB, evO, evT, evI, startD, List.map_cons, List.map_nil, List.length_cons, List.length_nil, Nat.reduceAdd, Nat.reduceSub, List.replicate, List.cons_append, List.nil_append, List.append_nil, List.getElem?_cons_zero, List.getElem?_cons_succ, Option.some.injEq, exists_and_left, exists_eq_left', exists_eq_left, exists_eq, ix_tup, at0, at1, at2, op_add', op_sub', op_mul', op_fdiv', op_mod', op_pow', op_addT, cm_lt, cm_le, cm_gt, cm_ge, cm_eq, cm_ne, cm_eqS, cm_neS, onb, oni, yn_gd, yn_cls, Nat.reduceLT, if_true, if_false, true_and, and_true, List.set_cons_zero, List.set_cons_succ, set_nm, set_tup, set_nil, set_cons, ifb, b1_abs, b1_int, b1_intB, b1_lenT, b1_lenL, b1_tupL, b1_tupT, b2_min, b2_max, seq_tup, seq_lst, seq_sq, gd_sq, ix_sq, len_sq, new_t, new_f, gd_tup, gd_lst, ix_lst, ty_int, ty_tup, ty_str, isi_ii, isi_ib, isi_tt, isi_ss, reduceIte, Bool.true_eq_false, Bool.false_eq_true, Bool.not_true, Bool.not_false,  List.zip_cons_cons, List.zip_nil_right, List.foldl_cons, List.foldl_nil, ne_eq, not_false_eq_true, not_true_eq_false, Bool.not_eq_true', decide_eq_false_iff_not, decide_eq_true_eq, reduceCtorEq, List.cons.injEq, and_self, D.ref.injEq, Cell.obj.injEq, D.int.injEq, and_assoc, seq_sts, gd_sts]
    have lc : ∀ lo hi, (cutD ((List.range n).map fun i => (sys k).row n (M i)) lo hi).length ≤ 16 := fun lo hi => by unfold cutD; simp; omega
    refine ⟨by decide, by have := lc none (some (a : Int)); (try simp only [List.length_append, List.length_cons, List.length_nil]); omega, by have := lc none (some (a : Int)); have := lc (some ((a : Int) + 1)) none; simp only [List.length_append, List.length_cons, List.length_nil]; omega, ?_⟩
    rw [mat_cut ha]
    have hsz : ∀ i, i < n → ∀ j, j < n → (sys k).cd 42 (251 * A1) (setR M a (fun j => (sys k).I t * M a j) i j) := fun i hi j hj => by
      unfold setR
      split
      · exact (sys k).cd_le (cs j hj) (by omega)
      · exact (sys k).cd_le (hM i hi j hj) (by omega)
    refine ⟨k, n, 100, setR M a (fun j => (sys k).I t * M a j), rfl, n1, n2, wf, roomDet n2, mat_bt hsz, ?_⟩
    rw [det_alt.scale ha]
    have b2 := (bI.mul h.1).ht (by decide)
    refine repr_d b2 ?_
    try simp only [body, exs, ex, ev, evs, evB, evO, evT, evI, startD, List.map_cons, List.map_nil, List.length_cons, List.length_nil, Nat.reduceAdd, Nat.reduceSub, List.replicate, List.cons_append, List.nil_append, List.append_nil, List.getElem?_cons_zero, List.getElem?_cons_succ, Option.some.injEq, exists_and_left, exists_eq_left', exists_eq_left, exists_eq, ix_tup, at0, at1, at2, op_add', op_sub', op_mul', op_fdiv', op_mod', op_pow', op_addT, cm_lt, cm_le, cm_gt, cm_ge, cm_eq, cm_ne, cm_eqS, cm_neS, onb, oni, yn_gd, yn_cls, Nat.reduceLT, if_true, if_false, true_and, and_true, List.set_cons_zero, List.set_cons_succ, set_nm, set_tup, set_nil, set_cons, ifb, b1_abs, b1_int, b1_intB, b1_lenT, b1_lenL, b1_tupL, b1_tupT, b2_min, b2_max, seq_tup, seq_lst, seq_sq, gd_sq, ix_sq, len_sq, new_t, new_f, gd_tup, gd_lst, ix_lst, ty_int, ty_tup, ty_str, isi_ii, isi_ib, isi_tt, isi_ss, reduceIte, Bool.true_eq_false, Bool.false_eq_true, Bool.not_true, Bool.not_false,  List.zip_cons_cons, List.zip_nil_right, List.foldl_cons, List.foldl_nil, ne_eq, not_false_eq_true, not_true_eq_false, Bool.not_eq_true', decide_eq_false_iff_not, decide_eq_true_eq, reduceCtorEq, List.cons.injEq, and_self, D.ref.injEq, Cell.obj.injEq, D.int.injEq, and_assoc, seq_sts, gd_sts]
    refine ⟨k, _, _, rfl, Sm.two sI (h.1.sm (by decide)), ?_⟩
    refine repr_d b2 ?_
    simp only [body, exs, ex, ev, evs, evB, evO, evT, evI, startD, List.map_cons, List.map_nil, List.length_cons, List.length_nil, Nat.reduceAdd, Nat.reduceSub, List.replicate, List.cons_append, List.nil_append, List.append_nil, List.getElem?_cons_zero, List.getElem?_cons_succ, Option.some.injEq, exists_and_left, exists_eq_left', exists_eq_left, exists_eq, ix_tup, at0, at1, at2, op_add', op_sub', op_mul', op_fdiv', op_mod', op_pow', op_addT, cm_lt, cm_le, cm_gt, cm_ge, cm_eq, cm_ne, cm_eqS, cm_neS, onb, oni, yn_gd, yn_cls, Nat.reduceLT, if_true, if_false, true_and, and_true, List.set_cons_zero, List.set_cons_succ, set_nm, set_tup, set_nil, set_cons, ifb, b1_abs, b1_int, b1_intB, b1_lenT, b1_lenL, b1_tupL, b1_tupT, b2_min, b2_max, seq_tup, seq_lst, seq_sq, gd_sq, ix_sq, len_sq, new_t, new_f, gd_tup, gd_lst, ix_lst, ty_int, ty_tup, ty_str, isi_ii, isi_ib, isi_tt, isi_ss, reduceIte, Bool.true_eq_false, Bool.false_eq_true, Bool.not_true, Bool.not_false,  List.zip_cons_cons, List.zip_nil_right, List.foldl_cons, List.foldl_nil, ne_eq, not_false_eq_true, not_true_eq_false, Bool.not_eq_true', decide_eq_false_iff_not, decide_eq_true_eq, reduceCtorEq, List.cons.injEq, and_self, D.ref.injEq, Cell.obj.injEq, D.int.injEq, and_assoc, seq_sts, gd_sts]
    exact kN _
theorem mv_added (hd : X.fn 33 = s_det) (hp : X.fn 4 = s_num_add) {a f : Nat} (n1 : 1 ≤ n) (n2 : n ≤ 16) (wf : WfM m') (ha : a < n) (hf : f < n) (hM : ∀ i, i < n → ∀ j, j < n → (sys k).cd 42 A1 (M i j))
    (kN : ∀ o11, exs X (c34.drop 9) [o0, some (.int (sys k).by_), some ((sys k).mat n n M), some ((sys k).d (det n M)), some (.int (n : Int)), some (.int (a : Int)), some (.int (f : Int)), o7, o8, o9, o10, o11, o12, o13, o14, o15, o16] m' { nx := N, ct := C, bk := B, rt := R }) :
    exs X (c34.drop 8) [o0, some (.int (sys k).by_), some ((sys k).mat n n M), some ((sys k).d (det n M)), some (.int (n : Int)), some (.int (a : Int)), some (.int (f : Int)), o7, o8, o9, o10, o11, o12, o13, o14, o15, o16] m' { nx := N, ct := C, bk := B, rt := R } := by
  have e68 : c34.drop 8 = (c34.drop 8).take 1 ++ c34.drop 9 := rfl
  rw [e68, exs_app]
  generalize c34.drop 9 = rest at kN ⊢
  have A1l : 251 * A1 ≤ 2 ^ 100 := A1_lt
  have h := det_ht n2 hM
  have cs : ∀ j, j < n → (sys k).cd 42 (A1 + A1) (M a j + M f j) := fun j hj => (sys k).cd_add (hM a ha j hj) (hM f hf j hj)
  have sm1 : ∀ i, i < n → ∀ j, j < n → (sys k).Sm (M i j) := fun i hi j hj => Sm_of (n := 100) (hM i hi j hj) (by decide) (by decide) (by unfold A1 A0; decide) (by decide) (by decide)
  simp only [c34, List.take, List.drop, hd, hp, body, exs, ex, ev, evs, evB, evO, evT, evI, startD, List.map_cons, List.map_nil, List.length_cons, List.length_nil, Nat.reduceAdd, Nat.reduceSub, List.replicate, List.cons_append, List.nil_append, List.append_nil, List.getElem?_cons_zero, List.getElem?_cons_succ, Option.some.injEq, exists_and_left, exists_eq_left', exists_eq_left, exists_eq, ix_tup, at0, at1, at2, op_add', op_sub', op_mul', op_fdiv', op_mod', op_pow', op_addT, cm_lt, cm_le, cm_gt, cm_ge, cm_eq, cm_ne, cm_eqS, cm_neS, onb, oni, yn_gd, yn_cls, Nat.reduceLT, if_true, if_false, true_and, and_true, List.set_cons_zero, List.set_cons_succ, set_nm, set_tup, set_nil, set_cons, ifb, b1_abs, b1_int, b1_intB, b1_lenT, b1_lenL, b1_tupL, b1_tupT, b2_min, b2_max, seq_tup, seq_lst, seq_sq, gd_sq, ix_sq, len_sq, new_t, new_f, gd_tup, gd_lst, ix_lst, ty_int, ty_tup, ty_str, isi_ii, isi_ib, isi_tt, isi_ss, reduceIte, Bool.true_eq_false, Bool.false_eq_true, Bool.not_true, Bool.not_false,  List.zip_cons_cons, List.zip_nil_right, List.foldl_cons, List.foldl_nil, ne_eq, not_false_eq_true, not_true_eq_false, Bool.not_eq_true', decide_eq_false_iff_not, decide_eq_true_eq, reduceCtorEq, List.cons.injEq, and_self, D.ref.injEq, Cell.obj.injEq, D.int.injEq, and_assoc, seq_sts, gd_sts]
  by_cases haf : (a : Int) = (f : Int)
  · rw [if_neg (by simpa using haf)]
    exact kN _
  rw [if_pos (by simpa using haf)]
  try simp only [body, exs, ex, ev, evs, evB, evO, evT, evI, startD, List.map_cons, List.map_nil, List.length_cons, List.length_nil, Nat.reduceAdd, Nat.reduceSub, List.replicate, List.cons_append, List.nil_append, List.append_nil, List.getElem?_cons_zero, List.getElem?_cons_succ, Option.some.injEq, exists_and_left, exists_eq_left', exists_eq_left, exists_eq, ix_tup, at0, at1, at2, op_add', op_sub', op_mul', op_fdiv', op_mod', op_pow', op_addT, cm_lt, cm_le, cm_gt, cm_ge, cm_eq, cm_ne, cm_eqS, cm_neS, onb, oni, yn_gd, yn_cls, Nat.reduceLT, if_true, if_false, true_and, and_true, List.set_cons_zero, List.set_cons_succ, set_nm, set_tup, set_nil, set_cons, ifb, b1_abs, b1_int, b1_intB, b1_lenT, b1_lenL, b1_tupL, b1_tupT, b2_min, b2_max, seq_tup, seq_lst, seq_sq, gd_sq, ix_sq, len_sq, new_t, new_f, gd_tup, gd_lst, ix_lst, ty_int, ty_tup, ty_str, isi_ii, isi_ib, isi_tt, isi_ss, reduceIte, Bool.true_eq_false, Bool.false_eq_true, Bool.not_true, Bool.not_false,  List.zip_cons_cons, List.zip_nil_right, List.foldl_cons, List.foldl_nil, ne_eq, not_false_eq_true, not_true_eq_false, Bool.not_eq_true', decide_eq_false_iff_not, decide_eq_true_eq, reduceCtorEq, List.cons.injEq, and_self, D.ref.injEq, Cell.obj.injEq, D.int.injEq, and_assoc, seq_sts, gd_sts]
  rw [mat_get ha]
  try simp only [body, exs, ex, ev, evs, evB, evO, evT, evI, startD, List.map_cons, List.map_nil, List.length_cons, List.length_nil, Nat.reduceAdd, Nat.reduceSub, List.replicate, List.cons_append, List.nil_append, List.append_nil, List.getElem?_cons_zero, List.getElem?_cons_succ, Option.some.injEq, exists_and_left, exists_eq_left', exists_eq_left, exists_eq, ix_tup, at0, at1, at2, op_add', op_sub', op_mul', op_fdiv', op_mod', op_pow', op_addT, cm_lt, cm_le, cm_gt, cm_ge, cm_eq, cm_ne, cm_eqS, cm_neS, onb, oni, yn_gd, yn_cls, Nat.reduceLT, if_true, if_false, true_and, and_true, List.set_cons_zero, List.set_cons_succ, set_nm, set_tup, set_nil, set_cons, ifb, b1_abs, b1_int, b1_intB, b1_lenT, b1_lenL, b1_tupL, b1_tupT, b2_min, b2_max, seq_tup, seq_lst, seq_sq, gd_sq, ix_sq, len_sq, new_t, new_f, gd_tup, gd_lst, ix_lst, ty_int, ty_tup, ty_str, isi_ii, isi_ib, isi_tt, isi_ss, reduceIte, Bool.true_eq_false, Bool.false_eq_true, Bool.not_true, Bool.not_false,  List.zip_cons_cons, List.zip_nil_right, List.foldl_cons, List.foldl_nil, ne_eq, not_false_eq_true, not_true_eq_false, Bool.not_eq_true', decide_eq_false_iff_not, decide_eq_true_eq, reduceCtorEq, List.cons.injEq, and_self, D.ref.injEq, Cell.obj.injEq, D.int.injEq, and_assoc, seq_sts, gd_sts]
  rw [mat_get hf]
  simp only [seq_row, gd_row, body, exs, ex, ev, evs, evB, evO, evT, evI, startD, List.map_cons, List.map_nil, List.length_cons, List.length_nil, Nat.reduceAdd, Nat.reduceSub, List.replicate, List.cons_append, List.nil_append, List.append_nil, List.getElem?_cons_zero, List.getElem?_cons_succ, Option.some.injEq, exists_and_left, exists_eq_left', exists_eq_left, exists_eq, ix_tup, at0, at1, at2, op_add', op_sub', op_mul', op_fdiv', op_mod', op_pow', op_addT, cm_lt, cm_le, cm_gt, cm_ge, cm_eq, cm_ne, cm_eqS, cm_neS, onb, oni, yn_gd, yn_cls, Nat.reduceLT, if_true, if_false, true_and, and_true, List.set_cons_zero, List.set_cons_succ, set_nm, set_tup, set_nil, set_cons, ifb, b1_abs, b1_int, b1_intB, b1_lenT, b1_lenL, b1_tupL, b1_tupT, b2_min, b2_max, seq_tup, seq_lst, seq_sq, gd_sq, ix_sq, len_sq, new_t, new_f, gd_tup, gd_lst, ix_lst, ty_int, ty_tup, ty_str, isi_ii, isi_ib, isi_tt, isi_ss, reduceIte, Bool.true_eq_false, Bool.false_eq_true, Bool.not_true, Bool.not_false,  List.zip_cons_cons, List.zip_nil_right, List.foldl_cons, List.foldl_nil, ne_eq, not_false_eq_true, not_true_eq_false, Bool.not_eq_true', decide_eq_false_iff_not, decide_eq_true_eq, reduceCtorEq, List.cons.injEq, and_self, D.ref.injEq, Cell.obj.injEq, D.int.injEq, and_assoc, seq_sts, gd_sts]
  rw [zip_map]
  refine lc_pureW (List.range n) (fun j => .tup [(sys k).d (M a j), (sys k).d (M f j)]) (fun j => (sys k).d (M a j + M f j)) (fun _ _ _ => trivial) ?_ ?_
  · intro j hj p acc K hp hK
    have hj' := List.mem_range.mp hj
    simp only [wipeD, body, exs, ex, ev, evs, evB, evO, evT, evI, startD, List.map_cons, List.map_nil, List.length_cons, List.length_nil, Nat.reduceAdd, Nat.reduceSub, List.replicate, List.cons_append, List.nil_append, List.append_nil, List.getElem?_cons_zero, List.getElem?_cons_succ, Option.some.injEq, exists_and_left, exists_eq_left', exists_eq_left, exists_eq, ix_tup, at0, at1, at2, op_add', op_sub', op_mul', op_fdiv', op_mod', op_pow', op_addT, cm_lt, cm_le, cm_gt, cm_ge, cm_eq, cm_ne, cm_eqS, cm_neS, onb, oni, yn_gd, yn_cls, Nat.reduceLT, if_true, if_false, true_and, and_true, List.set_cons_zero, List.set_cons_succ, set_nm, set_tup, set_nil, set_cons, ifb, b1_abs, b1_int, b1_intB, b1_lenT, b1_lenL, b1_tupL, b1_tupT, b2_min, b2_max, seq_tup, seq_lst, seq_sq, gd_sq, ix_sq, len_sq, new_t, new_f, gd_tup, gd_lst, ix_lst, ty_int, ty_tup, ty_str, isi_ii, isi_ib, isi_tt, isi_ss, reduceIte, Bool.true_eq_false, Bool.false_eq_true, Bool.not_true, Bool.not_false,  List.zip_cons_cons, List.zip_nil_right, List.foldl_cons, List.foldl_nil, ne_eq, not_false_eq_true, not_true_eq_false, Bool.not_eq_true', decide_eq_false_iff_not, decide_eq_true_eq, reduceCtorEq, List.cons.injEq, and_self, D.ref.injEq, Cell.obj.injEq, D.int.injEq, and_assoc, seq_sts, gd_sts]
    exact ⟨k, _, _, rfl, Sm.two (sm1 a ha j hj') (sm1 f hf j hj'), hK⟩
  · rw [tup_row]
    simp only [sl_mat, body, exs, ex, ev, evs, evB, evO, evT, evI, startD, List.map_cons, List.map_nil, List.length_cons, List.length_nil, Nat.reduceAdd, Nat.reduceSub, List.replicate, List.cons_append, List.nil_append, List.append_nil, List.getElem?_cons_zero, List.getElem?_cons_succ, Option.some.injEq, exists_and_left, exists_eq_left', exists_eq_left, exists_eq, ix_tup, at0, at1, at2, op_add', op_sub', op_mul', op_fdiv', op_mod', op_pow', op_addT, cm_lt, cm_le, cm_gt, cm_ge, cm_eq, cm_ne, cm_eqS, cm_neS, onb, oni, yn_gd, yn_cls, Nat.reduceLT, if_true, if_false, true_and, and_true, List.set_cons_zero, List.set_cons_succ, set_nm, set_tup, set_nil, set_cons, ifb, b1_abs, b1_int, b1_intB, b1_lenT, b1_lenL, b1_tupL, b1_tupT, b2_min, b2_max, seq_tup, seq_lst, seq_sq, gd_sq, ix_sq, len_sq, new_t, new_f, gd_tup, gd_lst, ix_lst, ty_int, ty_tup, ty_str, isi_ii, isi_ib, isi_tt, isi_ss, reduceIte, Bool.true_eq_false, Bool.false_eq_true, Bool.not_true, Bool.not_false,  List.zip_cons_cons, List.zip_nil_right, List.foldl_cons, List.foldl_nil, ne_eq, not_false_eq_true, not_true_eq_false, Bool.not_eq_true', decide_eq_false_iff_not, decide_eq_true_eq, reduceCtorEq, List.cons.injEq, and_self, D.ref.injEq, Cell.obj.injEq, D.int.injEq, and_assoc, seq_sts, gd_sts]
    have lc : ∀ lo hi, (cutD ((List.range n).map fun i => (sys k).row n (M i)) lo hi).length ≤ 16 := fun lo hi => by unfold cutD; simp; omega
    refine ⟨by decide, by have := lc none (some (a : Int)); (try simp only [List.length_append, List.length_cons, List.length_nil]); omega, by have := lc none (some (a : Int)); have := lc (some ((a : Int) + 1)) none; simp only [List.length_append, List.length_cons, List.length_nil]; omega, ?_⟩
    rw [mat_cut ha]
    have hsz : ∀ i, i < n → ∀ j, j < n → (sys k).cd 42 (251 * A1) (setR M a (fun j => M a j + M f j) i j) := fun i hi j hj => by
      unfold setR
      split
      · exact (sys k).cd_le (cs j hj) (by omega)
      · exact (sys k).cd_le (hM i hi j hj) (by omega)
    refine ⟨k, n, 100, setR M a (fun j => M a j + M f j), rfl, n1, n2, wf, roomDet n2, mat_bt hsz, ?_⟩
    have e1 : (fun j => M a j + M f j) = fun j => M a j + 1 * M f j := funext fun j => by grind
    rw [e1, det_alt.addRow (by omega) ha hf]
    refine repr_d h.2 ?_
    try simp only [body, exs, ex, ev, evs, evB, evO, evT, evI, startD, List.map_cons, List.map_nil, List.length_cons, List.length_nil, Nat.reduceAdd, Nat.reduceSub, List.replicate, List.cons_append, List.nil_append, List.append_nil, List.getElem?_cons_zero, List.getElem?_cons_succ, Option.some.injEq, exists_and_left, exists_eq_left', exists_eq_left, exists_eq, ix_tup, at0, at1, at2, op_add', op_sub', op_mul', op_fdiv', op_mod', op_pow', op_addT, cm_lt, cm_le, cm_gt, cm_ge, cm_eq, cm_ne, cm_eqS, cm_neS, onb, oni, yn_gd, yn_cls, Nat.reduceLT, if_true, if_false, true_and, and_true, List.set_cons_zero, List.set_cons_succ, set_nm, set_tup, set_nil, set_cons, ifb, b1_abs, b1_int, b1_intB, b1_lenT, b1_lenL, b1_tupL, b1_tupT, b2_min, b2_max, seq_tup, seq_lst, seq_sq, gd_sq, ix_sq, len_sq, new_t, new_f, gd_tup, gd_lst, ix_lst, ty_int, ty_tup, ty_str, isi_ii, isi_ib, isi_tt, isi_ss, reduceIte, Bool.true_eq_false, Bool.false_eq_true, Bool.not_true, Bool.not_false,  List.zip_cons_cons, List.zip_nil_right, List.foldl_cons, List.foldl_nil, ne_eq, not_false_eq_true, not_true_eq_false, Bool.not_eq_true', decide_eq_false_iff_not, decide_eq_true_eq, reduceCtorEq, List.cons.injEq, and_self, D.ref.injEq, Cell.obj.injEq, D.int.injEq, and_assoc, seq_sts, gd_sts]
    refine repr_d h.2 ?_
    simp only [body, exs, ex, ev, evs, evB, evO, evT, evI, startD, List.map_cons, List.map_nil, List.length_cons, List.length_nil, Nat.reduceAdd, Nat.reduceSub, List.replicate, List.cons_append, List.nil_append, List.append_nil, List.getElem?_cons_zero, List.getElem?_cons_succ, Option.some.injEq, exists_and_left, exists_eq_left', exists_eq_left, exists_eq, ix_tup, at0, at1, at2, op_add', op_sub', op_mul', op_fdiv', op_mod', op_pow', op_addT, cm_lt, cm_le, cm_gt, cm_ge, cm_eq, cm_ne, cm_eqS, cm_neS, onb, oni, yn_gd, yn_cls, Nat.reduceLT, if_true, if_false, true_and, and_true, List.set_cons_zero, List.set_cons_succ, set_nm, set_tup, set_nil, set_cons, ifb, b1_abs, b1_int, b1_intB, b1_lenT, b1_lenL, b1_tupL, b1_tupT, b2_min, b2_max, seq_tup, seq_lst, seq_sq, gd_sq, ix_sq, len_sq, new_t, new_f, gd_tup, gd_lst, ix_lst, ty_int, ty_tup, ty_str, isi_ii, isi_ib, isi_tt, isi_ss, reduceIte, Bool.true_eq_false, Bool.false_eq_true, Bool.not_true, Bool.not_false,  List.zip_cons_cons, List.zip_nil_right, List.foldl_cons, List.foldl_nil, ne_eq, not_false_eq_true, not_true_eq_false, Bool.not_eq_true', decide_eq_false_iff_not, decide_eq_true_eq, reduceCtorEq, List.cons.injEq, and_self, D.ref.injEq, Cell.obj.injEq, D.int.injEq, and_assoc, seq_sts, gd_sts]
    exact kN _
theorem mv_swap (hd : X.fn 33 = s_det) (hl : X.fn 3 = s_less) {a f : Nat} (n1 : 1 ≤ n) (n2 : n ≤ 16) (wf : WfM m') (ha : a < n) (hf : f < n) (hM : ∀ i, i < n → ∀ j, j < n → (sys k).cd 42 A1 (M i j))
    (kN : ∀ o8 o9 r l, m' r = none → exs X (c34.drop 6) [o0, some (.int (sys k).by_), some ((sys k).mat n n M), some ((sys k).d (det n M)), some (.int (n : Int)), some (.int (a : Int)), some (.int (f : Int)), o7, o8, o9, o10, o11, o12, o13, o14, o15, o16] (put m' r (.lst l)) { nx := N, ct := C, bk := B, rt := R }) :
    exs X (c34.drop 2) [o0, some (.int (sys k).by_), some ((sys k).mat n n M), some ((sys k).d (det n M)), some (.int (n : Int)), some (.int (a : Int)), some (.int (f : Int)), o7, o8, o9, o10, o11, o12, o13, o14, o15, o16] m' { nx := N, ct := C, bk := B, rt := R } := by
  have e68 : c34.drop 2 = (c34.drop 2).take 4 ++ c34.drop 6 := rfl
  rw [e68, exs_app]
  generalize c34.drop 6 = rest at kN ⊢
  have A1l : 251 * A1 ≤ 2 ^ 100 := A1_lt
  have h := det_ht n2 hM
  simp only [c34, List.take, List.drop, hd, hl, body, exs, ex, ev, evs, evB, evO, evT, evI, startD, List.map_cons, List.map_nil, List.length_cons, List.length_nil, Nat.reduceAdd, Nat.reduceSub, List.replicate, List.cons_append, List.nil_append, List.append_nil, List.getElem?_cons_zero, List.getElem?_cons_succ, Option.some.injEq, exists_and_left, exists_eq_left', exists_eq_left, exists_eq, ix_tup, at0, at1, at2, op_add', op_sub', op_mul', op_fdiv', op_mod', op_pow', op_addT, cm_lt, cm_le, cm_gt, cm_ge, cm_eq, cm_ne, cm_eqS, cm_neS, onb, oni, yn_gd, yn_cls, Nat.reduceLT, if_true, if_false, true_and, and_true, List.set_cons_zero, List.set_cons_succ, set_nm, set_tup, set_nil, set_cons, ifb, b1_abs, b1_int, b1_intB, b1_lenT, b1_lenL, b1_tupL, b1_tupT, b2_min, b2_max, seq_tup, seq_lst, seq_sq, gd_sq, ix_sq, len_sq, new_t, new_f, gd_tup, gd_lst, ix_lst, ty_int, ty_tup, ty_str, isi_ii, isi_ib, isi_tt, isi_ss, reduceIte, Bool.true_eq_false, Bool.false_eq_true, Bool.not_true, Bool.not_false,  List.zip_cons_cons, List.zip_nil_right, List.foldl_cons, List.foldl_nil, ne_eq, not_false_eq_true, not_true_eq_false, Bool.not_eq_true', decide_eq_false_iff_not, decide_eq_true_eq, reduceCtorEq, List.cons.injEq, and_self, D.ref.injEq, Cell.obj.injEq, D.int.injEq, and_assoc, seq_sts, gd_sts]
  refine ⟨_, seq_mat, fun r hr => ?_⟩
  have hlen : ∀ g : Nat → D, ((List.range n).map g).length = n := fun g => by simp
  try simp only [body, exs, ex, ev, evs, evB, evO, evT, evI, startD, List.map_cons, List.map_nil, List.length_cons, List.length_nil, Nat.reduceAdd, Nat.reduceSub, List.replicate, List.cons_append, List.nil_append, List.append_nil, List.getElem?_cons_zero, List.getElem?_cons_succ, Option.some.injEq, exists_and_left, exists_eq_left', exists_eq_left, exists_eq, ix_tup, at0, at1, at2, op_add', op_sub', op_mul', op_fdiv', op_mod', op_pow', op_addT, cm_lt, cm_le, cm_gt, cm_ge, cm_eq, cm_ne, cm_eqS, cm_neS, onb, oni, yn_gd, yn_cls, Nat.reduceLT, if_true, if_false, true_and, and_true, List.set_cons_zero, List.set_cons_succ, set_nm, set_tup, set_nil, set_cons, ifb, b1_abs, b1_int, b1_intB, b1_lenT, b1_lenL, b1_tupL, b1_tupT, b2_min, b2_max, seq_tup, seq_lst, seq_sq, gd_sq, ix_sq, len_sq, new_t, new_f, gd_tup, gd_lst, ix_lst, ty_int, ty_tup, ty_str, isi_ii, isi_ib, isi_tt, isi_ss, reduceIte, Bool.true_eq_false, Bool.false_eq_true, Bool.not_true, Bool.not_false,  List.zip_cons_cons, List.zip_nil_right, List.foldl_cons, List.foldl_nil, ne_eq, not_false_eq_true, not_true_eq_false, Bool.not_eq_true', decide_eq_false_iff_not, decide_eq_true_eq, reduceCtorEq, List.cons.injEq, and_self, D.ref.injEq, Cell.obj.injEq, D.int.injEq, and_assoc, seq_sts, gd_sts]
  rw [mat_get hf]
  try simp only [body, exs, ex, ev, evs, evB, evO, evT, evI, startD, List.map_cons, List.map_nil, List.length_cons, List.length_nil, Nat.reduceAdd, Nat.reduceSub, List.replicate, List.cons_append, List.nil_append, List.append_nil, List.getElem?_cons_zero, List.getElem?_cons_succ, Option.some.injEq, exists_and_left, exists_eq_left', exists_eq_left, exists_eq, ix_tup, at0, at1, at2, op_add', op_sub', op_mul', op_fdiv', op_mod', op_pow', op_addT, cm_lt, cm_le, cm_gt, cm_ge, cm_eq, cm_ne, cm_eqS, cm_neS, onb, oni, yn_gd, yn_cls, Nat.reduceLT, if_true, if_false, true_and, and_true, List.set_cons_zero, List.set_cons_succ, set_nm, set_tup, set_nil, set_cons, ifb, b1_abs, b1_int, b1_intB, b1_lenT, b1_lenL, b1_tupL, b1_tupT, b2_min, b2_max, seq_tup, seq_lst, seq_sq, gd_sq, ix_sq, len_sq, new_t, new_f, gd_tup, gd_lst, ix_lst, ty_int, ty_tup, ty_str, isi_ii, isi_ib, isi_tt, isi_ss, reduceIte, Bool.true_eq_false, Bool.false_eq_true, Bool.not_true, Bool.not_false,  List.zip_cons_cons, List.zip_nil_right, List.foldl_cons, List.foldl_nil, ne_eq, not_false_eq_true, not_true_eq_false, Bool.not_eq_true', decide_eq_false_iff_not, decide_eq_true_eq, reduceCtorEq, List.cons.injEq, and_self, D.ref.injEq, Cell.obj.injEq, D.int.injEq, and_assoc, seq_sts, gd_sts]
  rw [mat_get ha]
  refine ⟨by decide, _, _, rfl, ?_⟩
  refine ⟨r, _, _, a, rfl, rfl, put_same, ixN_nat (by rw [hlen]; exact ha), ?_⟩
  refine ⟨r, _, _, f, rfl, rfl, put_same, ixN_nat (by rw [List.length_set, hlen]; exact hf), ?_⟩
  rw [put_put, put_put, map_set, map_set]
  have es : ((List.range n).map fun i => if i = f then (sys k).row n (M a) else if i = a then (sys k).row n (M f) else (sys k).row n (M i)) = (List.range n).map fun i => (sys k).row n (sw2 a f M i) := List.map_congr_left fun i hi => by
    unfold sw2
    by_cases z : i = f
    · rw [if_pos z, if_pos z]
    · rw [if_neg z, if_neg z]
      by_cases y : i = a
      · rw [if_pos y, if_pos y]
      · rw [if_neg y, if_neg y]
  rw [es]
  have hsz : ∀ i, i < n → ∀ j, j < n → (sys k).cd 42 (251 * A1) (sw2 a f M i j) := fun i hi j hj => by
    unfold sw2
    split
    · exact (sys k).cd_le (hM a ha j hj) (by omega)
    · split
      · exact (sys k).cd_le (hM f hf j hj) (by omega)
      · exact (sys k).cd_le (hM i hi j hj) (by omega)
  have wf2 := wf_lst (l := (List.range n).map fun i => (sys k).row n (sw2 a f M i)) wf hr
  have det_c : ∀ {Q : KD}, Q ((sys k).d (det n (sw2 a f M))) (put m' r (.lst ((List.range n).map fun i => (sys k).row n (sw2 a f M i)))) → b1D .tuple (.ref r) (put m' r (.lst ((List.range n).map fun i => (sys k).row n (sw2 a f M i)))) fun x m1 => s_det [.int (sys k).by_, x] m1 Q := fun {Q} hQ => by
    rw [tup_ref put_same]
    exact ⟨k, n, 100, sw2 a f M, rfl, n1, n2, wf2, roomDet n2, mat_bt hsz, hQ⟩
  dsimp only
  by_cases haf : a = f
  · rw [if_pos (by omega)]
    refine det_c ?_
    rw [det_sw2 ha hf, if_pos haf]
    refine repr_d h.2 ?_
    try simp only [body, exs, ex, ev, evs, evB, evO, evT, evI, startD, List.map_cons, List.map_nil, List.length_cons, List.length_nil, Nat.reduceAdd, Nat.reduceSub, List.replicate, List.cons_append, List.nil_append, List.append_nil, List.getElem?_cons_zero, List.getElem?_cons_succ, Option.some.injEq, exists_and_left, exists_eq_left', exists_eq_left, exists_eq, ix_tup, at0, at1, at2, op_add', op_sub', op_mul', op_fdiv', op_mod', op_pow', op_addT, cm_lt, cm_le, cm_gt, cm_ge, cm_eq, cm_ne, cm_eqS, cm_neS, onb, oni, yn_gd, yn_cls, Nat.reduceLT, if_true, if_false, true_and, and_true, List.set_cons_zero, List.set_cons_succ, set_nm, set_tup, set_nil, set_cons, ifb, b1_abs, b1_int, b1_intB, b1_lenT, b1_lenL, b1_tupL, b1_tupT, b2_min, b2_max, seq_tup, seq_lst, seq_sq, gd_sq, ix_sq, len_sq, new_t, new_f, gd_tup, gd_lst, ix_lst, ty_int, ty_tup, ty_str, isi_ii, isi_ib, isi_tt, isi_ss, reduceIte, Bool.true_eq_false, Bool.false_eq_true, Bool.not_true, Bool.not_false,  List.zip_cons_cons, List.zip_nil_right, List.foldl_cons, List.foldl_nil, ne_eq, not_false_eq_true, not_true_eq_false, Bool.not_eq_true', decide_eq_false_iff_not, decide_eq_true_eq, reduceCtorEq, List.cons.injEq, and_self, D.ref.injEq, Cell.obj.injEq, D.int.injEq, and_assoc, seq_sts, gd_sts]
    refine repr_d h.2 ?_
    simp only [body, exs, ex, ev, evs, evB, evO, evT, evI, startD, List.map_cons, List.map_nil, List.length_cons, List.length_nil, Nat.reduceAdd, Nat.reduceSub, List.replicate, List.cons_append, List.nil_append, List.append_nil, List.getElem?_cons_zero, List.getElem?_cons_succ, Option.some.injEq, exists_and_left, exists_eq_left', exists_eq_left, exists_eq, ix_tup, at0, at1, at2, op_add', op_sub', op_mul', op_fdiv', op_mod', op_pow', op_addT, cm_lt, cm_le, cm_gt, cm_ge, cm_eq, cm_ne, cm_eqS, cm_neS, onb, oni, yn_gd, yn_cls, Nat.reduceLT, if_true, if_false, true_and, and_true, List.set_cons_zero, List.set_cons_succ, set_nm, set_tup, set_nil, set_cons, ifb, b1_abs, b1_int, b1_intB, b1_lenT, b1_lenL, b1_tupL, b1_tupT, b2_min, b2_max, seq_tup, seq_lst, seq_sq, gd_sq, ix_sq, len_sq, new_t, new_f, gd_tup, gd_lst, ix_lst, ty_int, ty_tup, ty_str, isi_ii, isi_ib, isi_tt, isi_ss, reduceIte, Bool.true_eq_false, Bool.false_eq_true, Bool.not_true, Bool.not_false,  List.zip_cons_cons, List.zip_nil_right, List.foldl_cons, List.foldl_nil, ne_eq, not_false_eq_true, not_true_eq_false, Bool.not_eq_true', decide_eq_false_iff_not, decide_eq_true_eq, reduceCtorEq, List.cons.injEq, and_self, D.ref.injEq, Cell.obj.injEq, D.int.injEq, and_assoc, seq_sts, gd_sts]
    exact kN _ _ _ _ hr
  · rw [if_neg (by omega)]
    have b0 : Bs 1665 (0 + -(det n M)) := by
      have e : (0 : (sys k).F) + -(det n M) = -(det n M) := by grind
      rw [e]
      exact h.1.neg.mono (by decide)
    refine ⟨by decide, k, 0, det n M, by rw [d0], Sm.two (Sm_of (n := 7) ((sys k).cd_zero (d := 1)) (by decide) (by decide) (by decide) (by decide) (by decide)) (h.1.sm (by decide)), ?_⟩
    refine det_c ?_
    rw [det_sw2 ha hf, if_neg haf]
    refine repr_d (b0.ht (by decide)) ?_
    try simp only [body, exs, ex, ev, evs, evB, evO, evT, evI, startD, List.map_cons, List.map_nil, List.length_cons, List.length_nil, Nat.reduceAdd, Nat.reduceSub, List.replicate, List.cons_append, List.nil_append, List.append_nil, List.getElem?_cons_zero, List.getElem?_cons_succ, Option.some.injEq, exists_and_left, exists_eq_left', exists_eq_left, exists_eq, ix_tup, at0, at1, at2, op_add', op_sub', op_mul', op_fdiv', op_mod', op_pow', op_addT, cm_lt, cm_le, cm_gt, cm_ge, cm_eq, cm_ne, cm_eqS, cm_neS, onb, oni, yn_gd, yn_cls, Nat.reduceLT, if_true, if_false, true_and, and_true, List.set_cons_zero, List.set_cons_succ, set_nm, set_tup, set_nil, set_cons, ifb, b1_abs, b1_int, b1_intB, b1_lenT, b1_lenL, b1_tupL, b1_tupT, b2_min, b2_max, seq_tup, seq_lst, seq_sq, gd_sq, ix_sq, len_sq, new_t, new_f, gd_tup, gd_lst, ix_lst, ty_int, ty_tup, ty_str, isi_ii, isi_ib, isi_tt, isi_ss, reduceIte, Bool.true_eq_false, Bool.false_eq_true, Bool.not_true, Bool.not_false,  List.zip_cons_cons, List.zip_nil_right, List.foldl_cons, List.foldl_nil, ne_eq, not_false_eq_true, not_true_eq_false, Bool.not_eq_true', decide_eq_false_iff_not, decide_eq_true_eq, reduceCtorEq, List.cons.injEq, and_self, D.ref.injEq, Cell.obj.injEq, D.int.injEq, and_assoc, seq_sts, gd_sts]
    refine repr_d (b0.ht (by decide)) ?_
    simp only [body, exs, ex, ev, evs, evB, evO, evT, evI, startD, List.map_cons, List.map_nil, List.length_cons, List.length_nil, Nat.reduceAdd, Nat.reduceSub, List.replicate, List.cons_append, List.nil_append, List.append_nil, List.getElem?_cons_zero, List.getElem?_cons_succ, Option.some.injEq, exists_and_left, exists_eq_left', exists_eq_left, exists_eq, ix_tup, at0, at1, at2, op_add', op_sub', op_mul', op_fdiv', op_mod', op_pow', op_addT, cm_lt, cm_le, cm_gt, cm_ge, cm_eq, cm_ne, cm_eqS, cm_neS, onb, oni, yn_gd, yn_cls, Nat.reduceLT, if_true, if_false, true_and, and_true, List.set_cons_zero, List.set_cons_succ, set_nm, set_tup, set_nil, set_cons, ifb, b1_abs, b1_int, b1_intB, b1_lenT, b1_lenL, b1_tupL, b1_tupT, b2_min, b2_max, seq_tup, seq_lst, seq_sq, gd_sq, ix_sq, len_sq, new_t, new_f, gd_tup, gd_lst, ix_lst, ty_int, ty_tup, ty_str, isi_ii, isi_ib, isi_tt, isi_ss, reduceIte, Bool.true_eq_false, Bool.false_eq_true, Bool.not_true, Bool.not_false,  List.zip_cons_cons, List.zip_nil_right, List.foldl_cons, List.foldl_nil, ne_eq, not_false_eq_true, not_true_eq_false, Bool.not_eq_true', decide_eq_false_iff_not, decide_eq_true_eq, reduceCtorEq, List.cons.injEq, and_self, D.ref.injEq, Cell.obj.injEq, D.int.injEq, and_assoc, seq_sts, gd_sts]
    exact kN _ _ _ _ hr
end
def s_moves : Spec := fun ds m Q => ∃ (k : Ks) (p : Addr) (L n : Nat) (M : Nat → Nat → (sys k).F), ds = [.ref p, .int (sys k).by_, (sys k).mat n n M, (sys k).d (det n M)] ∧ Pot L m p ∧ L ≤ 900000 ∧ WfM m ∧ 1 ≤ n ∧ n ≤ 16 ∧
  (∀ i, i < n → ∀ j, j < n → (sys k).cd 42 A1 (M i j)) ∧ ∀ m', Chg m m' p → Pot (L + 3) m' p → Q (.bl true) m'
theorem law_moves {X : Ctx} (htk : X.fn 9 = s_take) (ho : X.fn 10 = s_of) (hn : X.fn 1 = s_num) (ht : X.fn 2 = s_num_times) (hl : X.fn 3 = s_less) (hap : X.fn 4 = s_num_add) (hd : X.fn 33 = s_det) (ds : List D) (m : Mem) (Q : KD) (h : s_moves ds m Q) : body X 17 c34 ds m Q := by
  obtain ⟨k, p, L, n, M, rfl, hp, hL, wf, n1, n2, hM, q⟩ := h
  have A1l : 251 * A1 ≤ 2 ^ 100 := A1_lt
  refine body_cut 2 ?_
  have tail : ∀ (at_ far : Nat) (t : Int) (m1 : Mem), at_ < n → far < n → (t = 2 ∨ t = -3 ∨ t = 5) → Chg m m1 p → Pot (L + 3) m1 p → WfM m1 → 
      exs X (c34.drop 2) [some (.ref p), some (.int (sys k).by_), some ((sys k).mat n n M), some ((sys k).d (det n M)), some (.int (n : Int)), some (.int (at_ : Int)), some (.int (far : Int)), some ((sys k).d ((sys k).I t)), none, none, none, none, none, none, none, none, none] m1 (endK Q) := by
    intro a f t m1 ha hf ht5 c1 p1 wf1
    refine mv_swap hd hl n1 n2 wf1 ha hf hM fun o8 o9 r l hr => ?_
    have wf2 := wf_lst (l := l) wf1 hr
    refine mv_scaled hd ht n1 n2 wf2 ha (by rcases ht5 with rfl | rfl | rfl <;> decide) hM fun o10 => ?_
    refine mv_added hd hap n1 n2 wf2 ha hf hM fun o11 => ?_
    refine mv_cols hd n1 n2 wf2 hM ?_
    exact ⟨m1, subo_lst wf1 hr, q m1 c1 p1⟩
  generalize c34.drop 2 = rest at tail ⊢
  simp only [c34, List.take, htk, ho, hn, ht, hl, hap, hd, mat_len, body, exs, ex, ev, evs, evB, evO, evT, evI, startD, List.map_cons, List.map_nil, List.length_cons, List.length_nil, Nat.reduceAdd, Nat.reduceSub, List.replicate, List.cons_append, List.nil_append, List.append_nil, List.getElem?_cons_zero, List.getElem?_cons_succ, Option.some.injEq, exists_and_left, exists_eq_left', exists_eq_left, exists_eq, ix_tup, at0, at1, at2, op_add', op_sub', op_mul', op_fdiv', op_mod', op_pow', op_addT, cm_lt, cm_le, cm_gt, cm_ge, cm_eq, cm_ne, cm_eqS, cm_neS, onb, oni, yn_gd, yn_cls, Nat.reduceLT, if_true, if_false, true_and, and_true, List.set_cons_zero, List.set_cons_succ, set_nm, set_tup, set_nil, set_cons, ifb, b1_abs, b1_int, b1_intB, b1_lenT, b1_lenL, b1_tupL, b1_tupT, b2_min, b2_max, seq_tup, seq_lst, seq_sq, gd_sq, ix_sq, len_sq, new_t, new_f, gd_tup, gd_lst, ix_lst, ty_int, ty_tup, ty_str, isi_ii, isi_ib, isi_tt, isi_ss, reduceIte, Bool.true_eq_false, Bool.false_eq_true, Bool.not_true, Bool.not_false,  List.zip_cons_cons, List.zip_nil_right, List.foldl_cons, List.foldl_nil, ne_eq, not_false_eq_true, not_true_eq_false, Bool.not_eq_true', decide_eq_false_iff_not, decide_eq_true_eq, reduceCtorEq, List.cons.injEq, and_self, D.ref.injEq, Cell.obj.injEq, D.int.injEq, and_assoc, seq_sts, gd_sts]
  refine ⟨p, n, L, rfl, n1, by omega, hp, by omega, fun a m1 ha1 c1 p1 => ?_⟩
  refine ⟨p, n, L + 1, rfl, n1, by omega, p1, by omega, fun f m2 hf c2 p2 => ?_⟩
  simp only [body, exs, ex, ev, evs, evB, evO, evT, evI, startD, List.map_cons, List.map_nil, List.length_cons, List.length_nil, Nat.reduceAdd, Nat.reduceSub, List.replicate, List.cons_append, List.nil_append, List.append_nil, List.getElem?_cons_zero, List.getElem?_cons_succ, Option.some.injEq, exists_and_left, exists_eq_left', exists_eq_left, exists_eq, ix_tup, at0, at1, at2, op_add', op_sub', op_mul', op_fdiv', op_mod', op_pow', op_addT, cm_lt, cm_le, cm_gt, cm_ge, cm_eq, cm_ne, cm_eqS, cm_neS, onb, oni, yn_gd, yn_cls, Nat.reduceLT, if_true, if_false, true_and, and_true, List.set_cons_zero, List.set_cons_succ, set_nm, set_tup, set_nil, set_cons, ifb, b1_abs, b1_int, b1_intB, b1_lenT, b1_lenL, b1_tupL, b1_tupT, b2_min, b2_max, seq_tup, seq_lst, seq_sq, gd_sq, ix_sq, len_sq, new_t, new_f, gd_tup, gd_lst, ix_lst, ty_int, ty_tup, ty_str, isi_ii, isi_ib, isi_tt, isi_ss, reduceIte, Bool.true_eq_false, Bool.false_eq_true, Bool.not_true, Bool.not_false,  List.zip_cons_cons, List.zip_nil_right, List.foldl_cons, List.foldl_nil, ne_eq, not_false_eq_true, not_true_eq_false, Bool.not_eq_true', decide_eq_false_iff_not, decide_eq_true_eq, reduceCtorEq, List.cons.injEq, and_self, D.ref.injEq, Cell.obj.injEq, D.int.injEq, and_assoc, seq_sts, gd_sts]
  refine ⟨by decide, p, L + 2, _, [.int 2, .int (-3), .int 5], rfl, p2, by omega, by simp, by simp, fun _ _ => rfl, fun d m3 hd c3 p3 => ?_⟩
  have hd' : ∃ t : Int, d = .int t ∧ (t = 2 ∨ t = -3 ∨ t = 5) := by
    simp only [List.mem_cons, List.not_mem_nil, or_false] at hd
    rcases hd with rfl | rfl | rfl <;> exact ⟨_, rfl, by omega⟩
  obtain ⟨t, rfl, ht1⟩ := hd'
  have c123 := c1.trans (c2.trans c3)
  have wf3 := wf_chg wf c123 hp.at_
  exact ⟨k, t, 1, _, rfl, quo_int t, by decide, tail a f t m3 ha1 hf ht1 c123 p3 wf3⟩
end Og.Lk44
end
section
set_option maxHeartbeats 4000000
set_option autoImplicit false
namespace Og.Lk44
open PySem Og
def s_right : Spec := fun ds m Q => ∃ p : Addr, ds = [.ref p] ∧ Pot 0 m p ∧ WfM m ∧ ∀ m', Chg m m' p → Q (.bl true) m'
theorem det_ht5 {k : Ks} {n : Nat} {M : Nat → Nat → (sys k).F} (n2 : n ≤ 5) (hM : ∀ i, i < n → ∀ j, j < n → (sys k).cd 42 A1 (M i j)) : Bs 520 (det n M) := by
  have A1l : 251 * A1 ≤ 2 ^ 100 := A1_lt
  exact (bs_det (S := sys k) (b := 100) (d := 42) (B := A1) (by decide) (by decide) (by omega) (by omega) hM).mono (c := 520) (by omega)
/-- the rows put together -/
theorem right_end {X : Ctx} (ht : X.fn 2 = s_num_times) (hdu : X.fn 8 = s_due) (hto : X.fn 41 = s_together) (hd : X.fn 33 = s_det) {k : Ks} {n : Nat} {M N : Nat → Nat → (sys k).F} {m : Mem} {o0 o6 : Option D} {NX C B : KR} {R : KD} (n1 : 1 ≤ n) (n2 : n ≤ 5) (wf : WfM m)
    (hM : ∀ i, i < n → ∀ j, j < n → (sys k).cd 42 A1 (M i j)) (hN : ∀ i, i < n → ∀ j, j < n → (sys k).cd 42 A1 (N i j)) (kR : R (.bl true) m) :
    exs X (c42.drop 7) [o0, some (.int (sys k).by_), some (.int (n : Int)), some ((sys k).mat n n M), some ((sys k).mat n n N), some ((sys k).d (det n M)), o6] m { nx := NX, ct := C, bk := B, rt := R } := by
  have A1l : 251 * A1 ≤ 2 ^ 100 := A1_lt
  have up : ∀ {M : Nat → Nat → (sys k).F}, (∀ i, i < n → ∀ j, j < n → (sys k).cd 42 A1 (M i j)) → ∀ i, i < n → Bt n 100 (M i) := fun h => mat_bt fun i hi j hj => (sys k).cd_le (h i hi j hj) (by omega)
  have bM := det_ht5 n2 hM
  have bN := det_ht5 n2 hN
  have big : 16 * (A1 * A1) < 2 ^ 200 := by unfold A1 A0; decide
  have big2 : n * (A1 * A1) ≤ 16 * (A1 * A1) := Nat.mul_le_mul_right _ (by omega)
  simp only [c42, List.drop, ht, hdu, hto, hd, body, exs, ex, ev, evs, evB, evO, evT, evI, startD, List.map_cons, List.map_nil, List.length_cons, List.length_nil, Nat.reduceAdd, Nat.reduceSub, List.replicate, List.cons_append, List.nil_append, List.append_nil, List.getElem?_cons_zero, List.getElem?_cons_succ, Option.some.injEq, exists_and_left, exists_eq_left', exists_eq_left, exists_eq, ix_tup, at0, at1, at2, op_add', op_sub', op_mul', op_fdiv', op_mod', op_pow', op_addT, cm_lt, cm_le, cm_gt, cm_ge, cm_eq, cm_ne, cm_eqS, cm_neS, onb, oni, yn_gd, yn_cls, Nat.reduceLT, if_true, if_false, true_and, and_true, List.set_cons_zero, List.set_cons_succ, set_nm, set_tup, set_nil, set_cons, ifb, b1_abs, b1_int, b1_intB, b1_lenT, b1_lenL, b1_tupL, b1_tupT, b2_min, b2_max, seq_tup, seq_lst, seq_sq, gd_sq, ix_sq, len_sq, new_t, new_f, gd_tup, gd_lst, ix_lst, ty_int, ty_tup, ty_str, isi_ii, isi_ib, isi_tt, isi_ss, reduceIte, Bool.true_eq_false, Bool.false_eq_true, Bool.not_true, Bool.not_false,  List.zip_cons_cons, List.zip_nil_right, List.foldl_cons, List.foldl_nil, ne_eq, not_false_eq_true, not_true_eq_false, Bool.not_eq_true', decide_eq_false_iff_not, decide_eq_true_eq, reduceCtorEq, List.cons.injEq, and_self, D.ref.injEq, Cell.obj.injEq, D.int.injEq, and_assoc, seq_sts, gd_sts]
  refine ⟨k, n, N, rfl, n1, by omega, wf, up hN, ?_⟩
  simp only [body, exs, ex, ev, evs, evB, evO, evT, evI, startD, List.map_cons, List.map_nil, List.length_cons, List.length_nil, Nat.reduceAdd, Nat.reduceSub, List.replicate, List.cons_append, List.nil_append, List.append_nil, List.getElem?_cons_zero, List.getElem?_cons_succ, Option.some.injEq, exists_and_left, exists_eq_left', exists_eq_left, exists_eq, ix_tup, at0, at1, at2, op_add', op_sub', op_mul', op_fdiv', op_mod', op_pow', op_addT, cm_lt, cm_le, cm_gt, cm_ge, cm_eq, cm_ne, cm_eqS, cm_neS, onb, oni, yn_gd, yn_cls, Nat.reduceLT, if_true, if_false, true_and, and_true, List.set_cons_zero, List.set_cons_succ, set_nm, set_tup, set_nil, set_cons, ifb, b1_abs, b1_int, b1_intB, b1_lenT, b1_lenL, b1_tupL, b1_tupT, b2_min, b2_max, seq_tup, seq_lst, seq_sq, gd_sq, ix_sq, len_sq, new_t, new_f, gd_tup, gd_lst, ix_lst, ty_int, ty_tup, ty_str, isi_ii, isi_ib, isi_tt, isi_ss, reduceIte, Bool.true_eq_false, Bool.false_eq_true, Bool.not_true, Bool.not_false,  List.zip_cons_cons, List.zip_nil_right, List.foldl_cons, List.foldl_nil, ne_eq, not_false_eq_true, not_true_eq_false, Bool.not_eq_true', decide_eq_false_iff_not, decide_eq_true_eq, reduceCtorEq, List.cons.injEq, and_self, D.ref.injEq, Cell.obj.injEq, D.int.injEq, and_assoc, seq_sts, gd_sts]
  refine ⟨k, _, _, rfl, Sm.two (bM.sm (by decide)) (bN.sm (by decide)), ?_⟩
  simp only [body, exs, ex, ev, evs, evB, evO, evT, evI, startD, List.map_cons, List.map_nil, List.length_cons, List.length_nil, Nat.reduceAdd, Nat.reduceSub, List.replicate, List.cons_append, List.nil_append, List.append_nil, List.getElem?_cons_zero, List.getElem?_cons_succ, Option.some.injEq, exists_and_left, exists_eq_left', exists_eq_left, exists_eq, ix_tup, at0, at1, at2, op_add', op_sub', op_mul', op_fdiv', op_mod', op_pow', op_addT, cm_lt, cm_le, cm_gt, cm_ge, cm_eq, cm_ne, cm_eqS, cm_neS, onb, oni, yn_gd, yn_cls, Nat.reduceLT, if_true, if_false, true_and, and_true, List.set_cons_zero, List.set_cons_succ, set_nm, set_tup, set_nil, set_cons, ifb, b1_abs, b1_int, b1_intB, b1_lenT, b1_lenL, b1_tupL, b1_tupT, b2_min, b2_max, seq_tup, seq_lst, seq_sq, gd_sq, ix_sq, len_sq, new_t, new_f, gd_tup, gd_lst, ix_lst, ty_int, ty_tup, ty_str, isi_ii, isi_ib, isi_tt, isi_ss, reduceIte, Bool.true_eq_false, Bool.false_eq_true, Bool.not_true, Bool.not_false,  List.zip_cons_cons, List.zip_nil_right, List.foldl_cons, List.foldl_nil, ne_eq, not_false_eq_true, not_true_eq_false, Bool.not_eq_true', decide_eq_false_iff_not, decide_eq_true_eq, reduceCtorEq, List.cons.injEq, and_self, D.ref.injEq, Cell.obj.injEq, D.int.injEq, and_assoc, seq_sts, gd_sts]
  refine ⟨k, n, M, N, rfl, n1, by omega, wf, fun i hi j hj => ⟨hM i hi j hj, hN i hi j hj⟩, ?_⟩
  simp only [body, exs, ex, ev, evs, evB, evO, evT, evI, startD, List.map_cons, List.map_nil, List.length_cons, List.length_nil, Nat.reduceAdd, Nat.reduceSub, List.replicate, List.cons_append, List.nil_append, List.append_nil, List.getElem?_cons_zero, List.getElem?_cons_succ, Option.some.injEq, exists_and_left, exists_eq_left', exists_eq_left, exists_eq, ix_tup, at0, at1, at2, op_add', op_sub', op_mul', op_fdiv', op_mod', op_pow', op_addT, cm_lt, cm_le, cm_gt, cm_ge, cm_eq, cm_ne, cm_eqS, cm_neS, onb, oni, yn_gd, yn_cls, Nat.reduceLT, if_true, if_false, true_and, and_true, List.set_cons_zero, List.set_cons_succ, set_nm, set_tup, set_nil, set_cons, ifb, b1_abs, b1_int, b1_intB, b1_lenT, b1_lenL, b1_tupL, b1_tupT, b2_min, b2_max, seq_tup, seq_lst, seq_sq, gd_sq, ix_sq, len_sq, new_t, new_f, gd_tup, gd_lst, ix_lst, ty_int, ty_tup, ty_str, isi_ii, isi_ib, isi_tt, isi_ss, reduceIte, Bool.true_eq_false, Bool.false_eq_true, Bool.not_true, Bool.not_false,  List.zip_cons_cons, List.zip_nil_right, List.foldl_cons, List.foldl_nil, ne_eq, not_false_eq_true, not_true_eq_false, Bool.not_eq_true', decide_eq_false_iff_not, decide_eq_true_eq, reduceCtorEq, List.cons.injEq, and_self, D.ref.injEq, Cell.obj.injEq, D.int.injEq, and_assoc, seq_sts, gd_sts]
  have rm : sB 200 (n + 1) + 7 ≤ 2 ^ 26 := by
    have e := sB_form (r := 200) (k := n + 1)
    have h2 : 2 ^ (n + 1) ≤ 2 ^ 6 := Nat.pow_le_pow_right (by decide) (by omega)
    omega
  refine ⟨k, n, 200, mulM n M N, rfl, n1, by omega, wf, rm, fun i hi => bt_cd (d := 42 * 42) (by decide) (by decide) (by omega) (mul_cd (fun i hi j hj => ⟨hM i hi j hj, hN i hi j hj⟩) i hi), ?_⟩
  rw [det_mul]
  have b := (bM.mul bN).ht (by decide)
  refine repr_d b ?_
  try simp only [body, exs, ex, ev, evs, evB, evO, evT, evI, startD, List.map_cons, List.map_nil, List.length_cons, List.length_nil, Nat.reduceAdd, Nat.reduceSub, List.replicate, List.cons_append, List.nil_append, List.append_nil, List.getElem?_cons_zero, List.getElem?_cons_succ, Option.some.injEq, exists_and_left, exists_eq_left', exists_eq_left, exists_eq, ix_tup, at0, at1, at2, op_add', op_sub', op_mul', op_fdiv', op_mod', op_pow', op_addT, cm_lt, cm_le, cm_gt, cm_ge, cm_eq, cm_ne, cm_eqS, cm_neS, onb, oni, yn_gd, yn_cls, Nat.reduceLT, if_true, if_false, true_and, and_true, List.set_cons_zero, List.set_cons_succ, set_nm, set_tup, set_nil, set_cons, ifb, b1_abs, b1_int, b1_intB, b1_lenT, b1_lenL, b1_tupL, b1_tupT, b2_min, b2_max, seq_tup, seq_lst, seq_sq, gd_sq, ix_sq, len_sq, new_t, new_f, gd_tup, gd_lst, ix_lst, ty_int, ty_tup, ty_str, isi_ii, isi_ib, isi_tt, isi_ss, reduceIte, Bool.true_eq_false, Bool.false_eq_true, Bool.not_true, Bool.not_false,  List.zip_cons_cons, List.zip_nil_right, List.foldl_cons, List.foldl_nil, ne_eq, not_false_eq_true, not_true_eq_false, Bool.not_eq_true', decide_eq_false_iff_not, decide_eq_true_eq, reduceCtorEq, List.cons.injEq, and_self, D.ref.injEq, Cell.obj.injEq, D.int.injEq, and_assoc, seq_sts, gd_sts]
  refine repr_d b ?_
  simp only [body, exs, ex, ev, evs, evB, evO, evT, evI, startD, List.map_cons, List.map_nil, List.length_cons, List.length_nil, Nat.reduceAdd, Nat.reduceSub, List.replicate, List.cons_append, List.nil_append, List.append_nil, List.getElem?_cons_zero, List.getElem?_cons_succ, Option.some.injEq, exists_and_left, exists_eq_left', exists_eq_left, exists_eq, ix_tup, at0, at1, at2, op_add', op_sub', op_mul', op_fdiv', op_mod', op_pow', op_addT, cm_lt, cm_le, cm_gt, cm_ge, cm_eq, cm_ne, cm_eqS, cm_neS, onb, oni, yn_gd, yn_cls, Nat.reduceLT, if_true, if_false, true_and, and_true, List.set_cons_zero, List.set_cons_succ, set_nm, set_tup, set_nil, set_cons, ifb, b1_abs, b1_int, b1_intB, b1_lenT, b1_lenL, b1_tupL, b1_tupT, b2_min, b2_max, seq_tup, seq_lst, seq_sq, gd_sq, ix_sq, len_sq, new_t, new_f, gd_tup, gd_lst, ix_lst, ty_int, ty_tup, ty_str, isi_ii, isi_ib, isi_tt, isi_ss, reduceIte, Bool.true_eq_false, Bool.false_eq_true, Bool.not_true, Bool.not_false,  List.zip_cons_cons, List.zip_nil_right, List.foldl_cons, List.foldl_nil, ne_eq, not_false_eq_true, not_true_eq_false, Bool.not_eq_true', decide_eq_false_iff_not, decide_eq_true_eq, reduceCtorEq, List.cons.injEq, and_self, D.ref.injEq, Cell.obj.injEq, D.int.injEq, and_assoc, seq_sts, gd_sts]
  exact kR
theorem rels_det {k : Ks} {n : Nat} {M : Nat → Nat → (sys k).F} {st : List (Stp (sys k))} {rels : List (Rl (sys k))} (n1 : 1 ≤ n) (ok : StOk 100 n n n M st rels) : (relsD (sys k) n rels).isEmpty = !decide (det n M = 0) := by
  obtain ⟨n', rfl⟩ : ∃ n', n = n' + 1 := ⟨n - 1, by omega⟩
  have hr := st_rank ok
  have hcnt := ok.cnt
  have e := rank_dep hr
  have e2 := det_dep (n := n' + 1) (M := M)
  have el : (relsD (sys k) (n' + 1) rels).length = rels.length := relsD_len
  by_cases h : det (n' + 1) M = 0
  · rw [decide_eq_true h]
    have := e.mp (e2.mp h)
    cases hx : relsD (sys k) (n' + 1) rels with
    | nil => rw [hx] at el; simp at el; omega
    | cons a b => rfl
  · rw [decide_eq_false h]
    have h3 : ¬st.length < n' + 1 := fun z => h (e2.mpr (e.mpr z))
    cases hx : relsD (sys k) (n' + 1) rels with
    | nil => rfl
    | cons a b => rw [hx] at el; simp at el; omega
theorem law_right {X : Ctx} (htk : X.fn 9 = s_take) (ho : X.fn 10 = s_of) (hrw : X.fn 16 = s_rows) (ht : X.fn 2 = s_num_times) (hdu : X.fn 8 = s_due) (hto : X.fn 41 = s_together) (hd : X.fn 33 = s_det) (hk : X.fn 40 = s_kernel) (hmv : X.fn 34 = s_moves) (ds : List D) (m : Mem) (Q : KD) (h : s_right ds m Q) : body X 7 c42 ds m Q := by
  obtain ⟨p, rfl, hp, wf, q⟩ := h
  have A1l : 251 * A1 ≤ 2 ^ 100 := A1_lt
  refine body_cut 2 ?_
  have tail : ∀ (k : Ks) (n : Nat) (m1 : Mem), 1 ≤ n → (n ≤ 5 ∨ n = 16) → Chg m m1 p → Pot 3 m1 p → WfM m1 → exs X (c42.drop 2) [some (.ref p), some (.int (sys k).by_), some (.int (n : Int)), none, none, none, none] m1 (endK Q) := by
    intro k n m1 n1 n2 c1 p1 wf1
    have n16 : n ≤ 16 := by omega
    rw [show c42.drop 2 = (c42.drop 2).take 5 ++ c42.drop 7 from rfl, exs_app]
    have last : ∀ (M N : Nat → Nat → (sys k).F) (m2 : Mem) (o0 o6 : Option D), n ≤ 5 → WfM m2 → (∀ i, i < n → ∀ j, j < n → (sys k).cd 42 A1 (M i j)) → (∀ i, i < n → ∀ j, j < n → (sys k).cd 42 A1 (N i j)) → Chg m m2 p → exs X (c42.drop 7) [o0, some (.int (sys k).by_), some (.int (n : Int)), some ((sys k).mat n n M), some ((sys k).mat n n N), some ((sys k).d (det n M)), o6] m2 (endK Q) := fun M N m2 o0 o6 n5 wf2 hM hN c2 =>
      right_end ht hdu hto hd n1 n5 wf2 hM hN ⟨m2, SubO.refl, q m2 c2⟩
    generalize c42.drop 7 = rest at last ⊢
    simp only [c42, List.take, List.drop, hrw, hdu, hd, hk, hmv, body, exs, ex, ev, evs, evB, evO, evT, evI, startD, List.map_cons, List.map_nil, List.length_cons, List.length_nil, Nat.reduceAdd, Nat.reduceSub, List.replicate, List.cons_append, List.nil_append, List.append_nil, List.getElem?_cons_zero, List.getElem?_cons_succ, Option.some.injEq, exists_and_left, exists_eq_left', exists_eq_left, exists_eq, ix_tup, at0, at1, at2, op_add', op_sub', op_mul', op_fdiv', op_mod', op_pow', op_addT, cm_lt, cm_le, cm_gt, cm_ge, cm_eq, cm_ne, cm_eqS, cm_neS, onb, oni, yn_gd, yn_cls, Nat.reduceLT, if_true, if_false, true_and, and_true, List.set_cons_zero, List.set_cons_succ, set_nm, set_tup, set_nil, set_cons, ifb, b1_abs, b1_int, b1_intB, b1_lenT, b1_lenL, b1_tupL, b1_tupT, b2_min, b2_max, seq_tup, seq_lst, seq_sq, gd_sq, ix_sq, len_sq, new_t, new_f, gd_tup, gd_lst, ix_lst, ty_int, ty_tup, ty_str, isi_ii, isi_ib, isi_tt, isi_ss, reduceIte, Bool.true_eq_false, Bool.false_eq_true, Bool.not_true, Bool.not_false,  List.zip_cons_cons, List.zip_nil_right, List.foldl_cons, List.foldl_nil, ne_eq, not_false_eq_true, not_true_eq_false, Bool.not_eq_true', decide_eq_false_iff_not, decide_eq_true_eq, reduceCtorEq, List.cons.injEq, and_self, D.ref.injEq, Cell.obj.injEq, D.int.injEq, and_assoc, seq_sts, gd_sts]
    refine ⟨k, p, 3, n, n, rfl, p1, n1, n16, n16, by omega, wf1, fun M m2 hM c2 p2 => ?_⟩
    have c12 := c1.trans c2
    have wf2 := wf_chg wf c12 hp.at_
    rw [show min (n : Int) 5 = ((min n 5 : Nat) : Int) from by omega]
    generalize hw : min n 5 = w
    refine ⟨k, p, 3 + 960, w, w, rfl, p2, by omega, by omega, by omega, by omega, wf2, fun N m3 hN c3 p3 => ?_⟩
    have c13 := c12.trans c3
    have wf3 := wf_chg wf c13 hp.at_
    have hM' : ∀ i, i < n → ∀ j, j < n → (sys k).cd 42 A1 (M i j) := hM
    have up : ∀ i, i < n → Bt n 100 (M i) := mat_bt fun i hi j hj => (sys k).cd_le (hM' i hi j hj) (by omega)
    have szM : ∀ t, t < n → Sz n (M t) := fun t ht j hj => (sys k).cd_le (hM' t ht j hj) (by omega)
    have hD := det_ht n16 hM'
    simp only [body, exs, ex, ev, evs, evB, evO, evT, evI, startD, List.map_cons, List.map_nil, List.length_cons, List.length_nil, Nat.reduceAdd, Nat.reduceSub, List.replicate, List.cons_append, List.nil_append, List.append_nil, List.getElem?_cons_zero, List.getElem?_cons_succ, Option.some.injEq, exists_and_left, exists_eq_left', exists_eq_left, exists_eq, ix_tup, at0, at1, at2, op_add', op_sub', op_mul', op_fdiv', op_mod', op_pow', op_addT, cm_lt, cm_le, cm_gt, cm_ge, cm_eq, cm_ne, cm_eqS, cm_neS, onb, oni, yn_gd, yn_cls, Nat.reduceLT, if_true, if_false, true_and, and_true, List.set_cons_zero, List.set_cons_succ, set_nm, set_tup, set_nil, set_cons, ifb, b1_abs, b1_int, b1_intB, b1_lenT, b1_lenL, b1_tupL, b1_tupT, b2_min, b2_max, seq_tup, seq_lst, seq_sq, gd_sq, ix_sq, len_sq, new_t, new_f, gd_tup, gd_lst, ix_lst, ty_int, ty_tup, ty_str, isi_ii, isi_ib, isi_tt, isi_ss, reduceIte, Bool.true_eq_false, Bool.false_eq_true, Bool.not_true, Bool.not_false,  List.zip_cons_cons, List.zip_nil_right, List.foldl_cons, List.foldl_nil, ne_eq, not_false_eq_true, not_true_eq_false, Bool.not_eq_true', decide_eq_false_iff_not, decide_eq_true_eq, reduceCtorEq, List.cons.injEq, and_self, D.ref.injEq, Cell.obj.injEq, D.int.injEq, and_assoc, seq_sts, gd_sts]
    refine ⟨k, n, M, rfl, n1, n16, wf3, up, ?_⟩
    simp only [body, exs, ex, ev, evs, evB, evO, evT, evI, startD, List.map_cons, List.map_nil, List.length_cons, List.length_nil, Nat.reduceAdd, Nat.reduceSub, List.replicate, List.cons_append, List.nil_append, List.append_nil, List.getElem?_cons_zero, List.getElem?_cons_succ, Option.some.injEq, exists_and_left, exists_eq_left', exists_eq_left, exists_eq, ix_tup, at0, at1, at2, op_add', op_sub', op_mul', op_fdiv', op_mod', op_pow', op_addT, cm_lt, cm_le, cm_gt, cm_ge, cm_eq, cm_ne, cm_eqS, cm_neS, onb, oni, yn_gd, yn_cls, Nat.reduceLT, if_true, if_false, true_and, and_true, List.set_cons_zero, List.set_cons_succ, set_nm, set_tup, set_nil, set_cons, ifb, b1_abs, b1_int, b1_intB, b1_lenT, b1_lenL, b1_tupL, b1_tupT, b2_min, b2_max, seq_tup, seq_lst, seq_sq, gd_sq, ix_sq, len_sq, new_t, new_f, gd_tup, gd_lst, ix_lst, ty_int, ty_tup, ty_str, isi_ii, isi_ib, isi_tt, isi_ss, reduceIte, Bool.true_eq_false, Bool.false_eq_true, Bool.not_true, Bool.not_false,  List.zip_cons_cons, List.zip_nil_right, List.foldl_cons, List.foldl_nil, ne_eq, not_false_eq_true, not_true_eq_false, Bool.not_eq_true', decide_eq_false_iff_not, decide_eq_true_eq, reduceCtorEq, List.cons.injEq, and_self, D.ref.injEq, Cell.obj.injEq, D.int.injEq, and_assoc, seq_sts, gd_sts]
    refine ⟨k, n, 100, M, rfl, n1, n16, wf3, roomDet n16, up, ?_⟩
    refine repr_d hD.2 ?_
    try simp only [body, exs, ex, ev, evs, evB, evO, evT, evI, startD, List.map_cons, List.map_nil, List.length_cons, List.length_nil, Nat.reduceAdd, Nat.reduceSub, List.replicate, List.cons_append, List.nil_append, List.append_nil, List.getElem?_cons_zero, List.getElem?_cons_succ, Option.some.injEq, exists_and_left, exists_eq_left', exists_eq_left, exists_eq, ix_tup, at0, at1, at2, op_add', op_sub', op_mul', op_fdiv', op_mod', op_pow', op_addT, cm_lt, cm_le, cm_gt, cm_ge, cm_eq, cm_ne, cm_eqS, cm_neS, onb, oni, yn_gd, yn_cls, Nat.reduceLT, if_true, if_false, true_and, and_true, List.set_cons_zero, List.set_cons_succ, set_nm, set_tup, set_nil, set_cons, ifb, b1_abs, b1_int, b1_intB, b1_lenT, b1_lenL, b1_tupL, b1_tupT, b2_min, b2_max, seq_tup, seq_lst, seq_sq, gd_sq, ix_sq, len_sq, new_t, new_f, gd_tup, gd_lst, ix_lst, ty_int, ty_tup, ty_str, isi_ii, isi_ib, isi_tt, isi_ss, reduceIte, Bool.true_eq_false, Bool.false_eq_true, Bool.not_true, Bool.not_false,  List.zip_cons_cons, List.zip_nil_right, List.foldl_cons, List.foldl_nil, ne_eq, not_false_eq_true, not_true_eq_false, Bool.not_eq_true', decide_eq_false_iff_not, decide_eq_true_eq, reduceCtorEq, List.cons.injEq, and_self, D.ref.injEq, Cell.obj.injEq, D.int.injEq, and_assoc, seq_sts, gd_sts]
    refine repr_d hD.2 ?_
    simp only [body, exs, ex, ev, evs, evB, evO, evT, evI, startD, List.map_cons, List.map_nil, List.length_cons, List.length_nil, Nat.reduceAdd, Nat.reduceSub, List.replicate, List.cons_append, List.nil_append, List.append_nil, List.getElem?_cons_zero, List.getElem?_cons_succ, Option.some.injEq, exists_and_left, exists_eq_left', exists_eq_left, exists_eq, ix_tup, at0, at1, at2, op_add', op_sub', op_mul', op_fdiv', op_mod', op_pow', op_addT, cm_lt, cm_le, cm_gt, cm_ge, cm_eq, cm_ne, cm_eqS, cm_neS, onb, oni, yn_gd, yn_cls, Nat.reduceLT, if_true, if_false, true_and, and_true, List.set_cons_zero, List.set_cons_succ, set_nm, set_tup, set_nil, set_cons, ifb, b1_abs, b1_int, b1_intB, b1_lenT, b1_lenL, b1_tupL, b1_tupT, b2_min, b2_max, seq_tup, seq_lst, seq_sq, gd_sq, ix_sq, len_sq, new_t, new_f, gd_tup, gd_lst, ix_lst, ty_int, ty_tup, ty_str, isi_ii, isi_ib, isi_tt, isi_ss, reduceIte, Bool.true_eq_false, Bool.false_eq_true, Bool.not_true, Bool.not_false,  List.zip_cons_cons, List.zip_nil_right, List.foldl_cons, List.foldl_nil, ne_eq, not_false_eq_true, not_true_eq_false, Bool.not_eq_true', decide_eq_false_iff_not, decide_eq_true_eq, reduceCtorEq, List.cons.injEq, and_self, D.ref.injEq, Cell.obj.injEq, D.int.injEq, and_assoc, seq_sts, gd_sts]
    refine ⟨k, n, n, M, rfl, n1, n16, n1, n16, wf3, szM, fun st rels ok => ?_⟩
    try simp only [body, exs, ex, ev, evs, evB, evO, evT, evI, startD, List.map_cons, List.map_nil, List.length_cons, List.length_nil, Nat.reduceAdd, Nat.reduceSub, List.replicate, List.cons_append, List.nil_append, List.append_nil, List.getElem?_cons_zero, List.getElem?_cons_succ, Option.some.injEq, exists_and_left, exists_eq_left', exists_eq_left, exists_eq, ix_tup, at0, at1, at2, op_add', op_sub', op_mul', op_fdiv', op_mod', op_pow', op_addT, cm_lt, cm_le, cm_gt, cm_ge, cm_eq, cm_ne, cm_eqS, cm_neS, onb, oni, yn_gd, yn_cls, Nat.reduceLT, if_true, if_false, true_and, and_true, List.set_cons_zero, List.set_cons_succ, set_nm, set_tup, set_nil, set_cons, ifb, b1_abs, b1_int, b1_intB, b1_lenT, b1_lenL, b1_tupL, b1_tupT, b2_min, b2_max, seq_tup, seq_lst, seq_sq, gd_sq, ix_sq, len_sq, new_t, new_f, gd_tup, gd_lst, ix_lst, ty_int, ty_tup, ty_str, isi_ii, isi_ib, isi_tt, isi_ss, reduceIte, Bool.true_eq_false, Bool.false_eq_true, Bool.not_true, Bool.not_false,  List.zip_cons_cons, List.zip_nil_right, List.foldl_cons, List.foldl_nil, ne_eq, not_false_eq_true, not_true_eq_false, Bool.not_eq_true', decide_eq_false_iff_not, decide_eq_true_eq, reduceCtorEq, List.cons.injEq, and_self, D.ref.injEq, Cell.obj.injEq, D.int.injEq, and_assoc, seq_sts, gd_sts]
    refine ⟨by decide, ?_⟩
    rw [eq_nilT (show flats 39 (relsD (sys k) n rels) = true from flats_map (fun _ => row_flat) _)]
    try simp only [body, exs, ex, ev, evs, evB, evO, evT, evI, startD, List.map_cons, List.map_nil, List.length_cons, List.length_nil, Nat.reduceAdd, Nat.reduceSub, List.replicate, List.cons_append, List.nil_append, List.append_nil, List.getElem?_cons_zero, List.getElem?_cons_succ, Option.some.injEq, exists_and_left, exists_eq_left', exists_eq_left, exists_eq, ix_tup, at0, at1, at2, op_add', op_sub', op_mul', op_fdiv', op_mod', op_pow', op_addT, cm_lt, cm_le, cm_gt, cm_ge, cm_eq, cm_ne, cm_eqS, cm_neS, onb, oni, yn_gd, yn_cls, Nat.reduceLT, if_true, if_false, true_and, and_true, List.set_cons_zero, List.set_cons_succ, set_nm, set_tup, set_nil, set_cons, ifb, b1_abs, b1_int, b1_intB, b1_lenT, b1_lenL, b1_tupL, b1_tupT, b2_min, b2_max, seq_tup, seq_lst, seq_sq, gd_sq, ix_sq, len_sq, new_t, new_f, gd_tup, gd_lst, ix_lst, ty_int, ty_tup, ty_str, isi_ii, isi_ib, isi_tt, isi_ss, reduceIte, Bool.true_eq_false, Bool.false_eq_true, Bool.not_true, Bool.not_false,  List.zip_cons_cons, List.zip_nil_right, List.foldl_cons, List.foldl_nil, ne_eq, not_false_eq_true, not_true_eq_false, Bool.not_eq_true', decide_eq_false_iff_not, decide_eq_true_eq, reduceCtorEq, List.cons.injEq, and_self, D.ref.injEq, Cell.obj.injEq, D.int.injEq, and_assoc, seq_sts, gd_sts]
    refine ⟨by decide, ?_⟩
    rw [← d0 (S := sys k), ne_d]
    refine cm_neB ?_
    rw [rels_det n1 ok]
    simp only [bne_self_eq_false, body, exs, ex, ev, evs, evB, evO, evT, evI, startD, List.map_cons, List.map_nil, List.length_cons, List.length_nil, Nat.reduceAdd, Nat.reduceSub, List.replicate, List.cons_append, List.nil_append, List.append_nil, List.getElem?_cons_zero, List.getElem?_cons_succ, Option.some.injEq, exists_and_left, exists_eq_left', exists_eq_left, exists_eq, ix_tup, at0, at1, at2, op_add', op_sub', op_mul', op_fdiv', op_mod', op_pow', op_addT, cm_lt, cm_le, cm_gt, cm_ge, cm_eq, cm_ne, cm_eqS, cm_neS, onb, oni, yn_gd, yn_cls, Nat.reduceLT, if_true, if_false, true_and, and_true, List.set_cons_zero, List.set_cons_succ, set_nm, set_tup, set_nil, set_cons, ifb, b1_abs, b1_int, b1_intB, b1_lenT, b1_lenL, b1_tupL, b1_tupT, b2_min, b2_max, seq_tup, seq_lst, seq_sq, gd_sq, ix_sq, len_sq, new_t, new_f, gd_tup, gd_lst, ix_lst, ty_int, ty_tup, ty_str, isi_ii, isi_ib, isi_tt, isi_ss, reduceIte, Bool.true_eq_false, Bool.false_eq_true, Bool.not_true, Bool.not_false,  List.zip_cons_cons, List.zip_nil_right, List.foldl_cons, List.foldl_nil, ne_eq, not_false_eq_true, not_true_eq_false, Bool.not_eq_true', decide_eq_false_iff_not, decide_eq_true_eq, reduceCtorEq, List.cons.injEq, and_self, D.ref.injEq, Cell.obj.injEq, D.int.injEq, and_assoc, seq_sts, gd_sts]
    by_cases h16 : (n : Int) = 16
    · rw [if_pos h16]
      exact ⟨m3, SubO.refl, q m3 c13⟩
    · rw [if_neg h16]
      have n5 : n ≤ 5 := by omega
      have ew : w = n := by omega
      subst ew
      refine ⟨k, p, 3 + 960 + 960, w, M, rfl, p3, by decide, wf3, n1, n16, hM', fun m4 c4 p4 => ?_⟩
      simp only [body, exs, ex, ev, evs, evB, evO, evT, evI, startD, List.map_cons, List.map_nil, List.length_cons, List.length_nil, Nat.reduceAdd, Nat.reduceSub, List.replicate, List.cons_append, List.nil_append, List.append_nil, List.getElem?_cons_zero, List.getElem?_cons_succ, Option.some.injEq, exists_and_left, exists_eq_left', exists_eq_left, exists_eq, ix_tup, at0, at1, at2, op_add', op_sub', op_mul', op_fdiv', op_mod', op_pow', op_addT, cm_lt, cm_le, cm_gt, cm_ge, cm_eq, cm_ne, cm_eqS, cm_neS, onb, oni, yn_gd, yn_cls, Nat.reduceLT, if_true, if_false, true_and, and_true, List.set_cons_zero, List.set_cons_succ, set_nm, set_tup, set_nil, set_cons, ifb, b1_abs, b1_int, b1_intB, b1_lenT, b1_lenL, b1_tupL, b1_tupT, b2_min, b2_max, seq_tup, seq_lst, seq_sq, gd_sq, ix_sq, len_sq, new_t, new_f, gd_tup, gd_lst, ix_lst, ty_int, ty_tup, ty_str, isi_ii, isi_ib, isi_tt, isi_ss, reduceIte, Bool.true_eq_false, Bool.false_eq_true, Bool.not_true, Bool.not_false,  List.zip_cons_cons, List.zip_nil_right, List.foldl_cons, List.foldl_nil, ne_eq, not_false_eq_true, not_true_eq_false, Bool.not_eq_true', decide_eq_false_iff_not, decide_eq_true_eq, reduceCtorEq, List.cons.injEq, and_self, D.ref.injEq, Cell.obj.injEq, D.int.injEq, and_assoc, seq_sts, gd_sts]
      have c14 := c13.trans c4
      exact last M N m4 _ _ n5 (wf_chg wf c14 hp.at_) hM' hN c14
  generalize c42.drop 2 = rest at tail ⊢
  simp only [c42, List.take, htk, ho, body, exs, ex, ev, evs, evB, evO, evT, evI, startD, List.map_cons, List.map_nil, List.length_cons, List.length_nil, Nat.reduceAdd, Nat.reduceSub, List.replicate, List.cons_append, List.nil_append, List.append_nil, List.getElem?_cons_zero, List.getElem?_cons_succ, Option.some.injEq, exists_and_left, exists_eq_left', exists_eq_left, exists_eq, ix_tup, at0, at1, at2, op_add', op_sub', op_mul', op_fdiv', op_mod', op_pow', op_addT, cm_lt, cm_le, cm_gt, cm_ge, cm_eq, cm_ne, cm_eqS, cm_neS, onb, oni, yn_gd, yn_cls, Nat.reduceLT, if_true, if_false, true_and, and_true, List.set_cons_zero, List.set_cons_succ, set_nm, set_tup, set_nil, set_cons, ifb, b1_abs, b1_int, b1_intB, b1_lenT, b1_lenL, b1_tupL, b1_tupT, b2_min, b2_max, seq_tup, seq_lst, seq_sq, gd_sq, ix_sq, len_sq, new_t, new_f, gd_tup, gd_lst, ix_lst, ty_int, ty_tup, ty_str, isi_ii, isi_ib, isi_tt, isi_ss, reduceIte, Bool.true_eq_false, Bool.false_eq_true, Bool.not_true, Bool.not_false,  List.zip_cons_cons, List.zip_nil_right, List.foldl_cons, List.foldl_nil, ne_eq, not_false_eq_true, not_true_eq_false, Bool.not_eq_true', decide_eq_false_iff_not, decide_eq_true_eq, reduceCtorEq, List.cons.injEq, and_self, D.ref.injEq, Cell.obj.injEq, D.int.injEq, and_assoc, seq_sts, gd_sts]
  refine ⟨by decide, p, 0, _, _, rfl, hp, by omega, by simp, by simp, fun _ _ => rfl, fun d m1 hd c1 p1 => ?_⟩
  have hk : ∃ k : Ks, d = .int (sys k).by_ := by
    simp only [List.mem_cons, List.not_mem_nil, or_false] at hd
    rcases hd with rfl | rfl | rfl | rfl | rfl | rfl | rfl
    · exact ⟨.q, rfl⟩
    · exact ⟨.q, rfl⟩
    · exact ⟨.q, rfl⟩
    · exact ⟨.z2, rfl⟩
    · exact ⟨.z3, rfl⟩
    · exact ⟨.z5, rfl⟩
    · exact ⟨.z97, rfl⟩
  obtain ⟨k, rfl⟩ := hk
  refine ⟨by decide, p, 0 + 1, _, _, rfl, p1, by omega, by simp, by simp, fun _ _ => rfl, fun d m2 hd c2 p2 => ?_⟩
  have hd' : ∃ n : Nat, d = .int (n : Int) ∧ 1 ≤ n ∧ n ≤ 5 := by
    simp only [List.mem_cons, List.not_mem_nil, or_false] at hd
    rcases hd with rfl | rfl | rfl | rfl | rfl | rfl | rfl | rfl
    · exact ⟨1, rfl, by decide, by decide⟩
    · exact ⟨2, rfl, by decide, by decide⟩
    · exact ⟨3, rfl, by decide, by decide⟩
    · exact ⟨4, rfl, by decide, by decide⟩
    · exact ⟨3, rfl, by decide, by decide⟩
    · exact ⟨5, rfl, by decide, by decide⟩
    · exact ⟨2, rfl, by decide, by decide⟩
    · exact ⟨4, rfl, by decide, by decide⟩
  obtain ⟨n, rfl, n1, n2⟩ := hd'
  have c12 := c1.trans c2
  have wf2 := wf_chg wf c12 hp.at_
  try simp only [body, exs, ex, ev, evs, evB, evO, evT, evI, startD, List.map_cons, List.map_nil, List.length_cons, List.length_nil, Nat.reduceAdd, Nat.reduceSub, List.replicate, List.cons_append, List.nil_append, List.append_nil, List.getElem?_cons_zero, List.getElem?_cons_succ, Option.some.injEq, exists_and_left, exists_eq_left', exists_eq_left, exists_eq, ix_tup, at0, at1, at2, op_add', op_sub', op_mul', op_fdiv', op_mod', op_pow', op_addT, cm_lt, cm_le, cm_gt, cm_ge, cm_eq, cm_ne, cm_eqS, cm_neS, onb, oni, yn_gd, yn_cls, Nat.reduceLT, if_true, if_false, true_and, and_true, List.set_cons_zero, List.set_cons_succ, set_nm, set_tup, set_nil, set_cons, ifb, b1_abs, b1_int, b1_intB, b1_lenT, b1_lenL, b1_tupL, b1_tupT, b2_min, b2_max, seq_tup, seq_lst, seq_sq, gd_sq, ix_sq, len_sq, new_t, new_f, gd_tup, gd_lst, ix_lst, ty_int, ty_tup, ty_str, isi_ii, isi_ib, isi_tt, isi_ss, reduceIte, Bool.true_eq_false, Bool.false_eq_true, Bool.not_true, Bool.not_false,  List.zip_cons_cons, List.zip_nil_right, List.foldl_cons, List.foldl_nil, ne_eq, not_false_eq_true, not_true_eq_false, Bool.not_eq_true', decide_eq_false_iff_not, decide_eq_true_eq, reduceCtorEq, List.cons.injEq, and_self, D.ref.injEq, Cell.obj.injEq, D.int.injEq, and_assoc, seq_sts, gd_sts]
  by_cases hb : (0 : Int) < (sys k).by_
  · rw [if_pos hb]
    try simp only [body, exs, ex, ev, evs, evB, evO, evT, evI, startD, List.map_cons, List.map_nil, List.length_cons, List.length_nil, Nat.reduceAdd, Nat.reduceSub, List.replicate, List.cons_append, List.nil_append, List.append_nil, List.getElem?_cons_zero, List.getElem?_cons_succ, Option.some.injEq, exists_and_left, exists_eq_left', exists_eq_left, exists_eq, ix_tup, at0, at1, at2, op_add', op_sub', op_mul', op_fdiv', op_mod', op_pow', op_addT, cm_lt, cm_le, cm_gt, cm_ge, cm_eq, cm_ne, cm_eqS, cm_neS, onb, oni, yn_gd, yn_cls, Nat.reduceLT, if_true, if_false, true_and, and_true, List.set_cons_zero, List.set_cons_succ, set_nm, set_tup, set_nil, set_cons, ifb, b1_abs, b1_int, b1_intB, b1_lenT, b1_lenL, b1_tupL, b1_tupT, b2_min, b2_max, seq_tup, seq_lst, seq_sq, gd_sq, ix_sq, len_sq, new_t, new_f, gd_tup, gd_lst, ix_lst, ty_int, ty_tup, ty_str, isi_ii, isi_ib, isi_tt, isi_ss, reduceIte, Bool.true_eq_false, Bool.false_eq_true, Bool.not_true, Bool.not_false,  List.zip_cons_cons, List.zip_nil_right, List.foldl_cons, List.foldl_nil, ne_eq, not_false_eq_true, not_true_eq_false, Bool.not_eq_true', decide_eq_false_iff_not, decide_eq_true_eq, reduceCtorEq, List.cons.injEq, and_self, D.ref.injEq, Cell.obj.injEq, D.int.injEq, and_assoc, seq_sts, gd_sts]
    refine ⟨p, 12, 0 + 1 + 1, rfl, by decide, by decide, p2, by omega, fun i m3 hi c3 p3 => ?_⟩
    have c13 := c12.trans c3
    have wf3 := wf_chg wf c13 hp.at_
    try simp only [body, exs, ex, ev, evs, evB, evO, evT, evI, startD, List.map_cons, List.map_nil, List.length_cons, List.length_nil, Nat.reduceAdd, Nat.reduceSub, List.replicate, List.cons_append, List.nil_append, List.append_nil, List.getElem?_cons_zero, List.getElem?_cons_succ, Option.some.injEq, exists_and_left, exists_eq_left', exists_eq_left, exists_eq, ix_tup, at0, at1, at2, op_add', op_sub', op_mul', op_fdiv', op_mod', op_pow', op_addT, cm_lt, cm_le, cm_gt, cm_ge, cm_eq, cm_ne, cm_eqS, cm_neS, onb, oni, yn_gd, yn_cls, Nat.reduceLT, if_true, if_false, true_and, and_true, List.set_cons_zero, List.set_cons_succ, set_nm, set_tup, set_nil, set_cons, ifb, b1_abs, b1_int, b1_intB, b1_lenT, b1_lenL, b1_tupL, b1_tupT, b2_min, b2_max, seq_tup, seq_lst, seq_sq, gd_sq, ix_sq, len_sq, new_t, new_f, gd_tup, gd_lst, ix_lst, ty_int, ty_tup, ty_str, isi_ii, isi_ib, isi_tt, isi_ss, reduceIte, Bool.true_eq_false, Bool.false_eq_true, Bool.not_true, Bool.not_false,  List.zip_cons_cons, List.zip_nil_right, List.foldl_cons, List.foldl_nil, ne_eq, not_false_eq_true, not_true_eq_false, Bool.not_eq_true', decide_eq_false_iff_not, decide_eq_true_eq, reduceCtorEq, List.cons.injEq, and_self, D.ref.injEq, Cell.obj.injEq, D.int.injEq, and_assoc, seq_sts, gd_sts]
    by_cases hi0 : (i : Int) = 0
    · rw [if_pos hi0]
      exact tail k 16 m3 (by decide) (.inr rfl) c13 p3 wf3
    · rw [if_neg hi0]
      exact tail k n m3 n1 (.inl n2) c13 p3 wf3
  · rw [if_neg hb]
    exact tail k n m2 n1 (.inl n2) c12 (p2.mono (by omega)) wf2
def s_law : Spec := fun ds m Q => ∃ ns : List Int, ds = [.lst (ns.map .int)] ∧ ns.length ≤ 63 ∧ (∀ a, m a = none) ∧ Q (.bl true) m
theorem law_law {X : Ctx} (hp : X.fn 43 = s_pot) (hc : X.fn 44 = s_cells) (hr : X.fn 42 = s_right) (ds : List D) (m : Mem) (Q : KD) (h : s_law ds m Q) : body X 2 c45 ds m Q := by
  obtain ⟨ns, rfl, hl, hm, q⟩ := h
  simp only [c45, hp, hc, hr, body, exs, ex, ev, evs, evB, evO, evT, evI, startD, List.map_cons, List.map_nil, List.length_cons, List.length_nil, Nat.reduceAdd, Nat.reduceSub, List.replicate, List.cons_append, List.nil_append, List.append_nil, List.getElem?_cons_zero, List.getElem?_cons_succ, Option.some.injEq, exists_and_left, exists_eq_left', exists_eq_left, exists_eq, ix_tup, at0, at1, at2, op_add', op_sub', op_mul', op_fdiv', op_mod', op_pow', op_addT, cm_lt, cm_le, cm_gt, cm_ge, cm_eq, cm_ne, cm_eqS, cm_neS, onb, oni, yn_gd, yn_cls, Nat.reduceLT, if_true, if_false, true_and, and_true, List.set_cons_zero, List.set_cons_succ, set_nm, set_tup, set_nil, set_cons, ifb, b1_abs, b1_int, b1_intB, b1_lenT, b1_lenL, b1_tupL, b1_tupT, b2_min, b2_max, seq_tup, seq_lst, seq_sq, gd_sq, ix_sq, len_sq, new_t, new_f, gd_tup, gd_lst, ix_lst, ty_int, ty_tup, ty_str, isi_ii, isi_ib, isi_tt, isi_ss, reduceIte, Bool.true_eq_false, Bool.false_eq_true, Bool.not_true, Bool.not_false,  List.zip_cons_cons, List.zip_nil_right, List.foldl_cons, List.foldl_nil, ne_eq, not_false_eq_true, not_true_eq_false, Bool.not_eq_true', decide_eq_false_iff_not, decide_eq_true_eq, reduceCtorEq, List.cons.injEq, and_self, D.ref.injEq, Cell.obj.injEq, D.int.injEq, and_assoc, seq_sts, gd_sts]
  refine ⟨ns, rfl, hl, fun n hn => ?_⟩
  simp only [body, exs, ex, ev, evs, evB, evO, evT, evI, startD, List.map_cons, List.map_nil, List.length_cons, List.length_nil, Nat.reduceAdd, Nat.reduceSub, List.replicate, List.cons_append, List.nil_append, List.append_nil, List.getElem?_cons_zero, List.getElem?_cons_succ, Option.some.injEq, exists_and_left, exists_eq_left', exists_eq_left, exists_eq, ix_tup, at0, at1, at2, op_add', op_sub', op_mul', op_fdiv', op_mod', op_pow', op_addT, cm_lt, cm_le, cm_gt, cm_ge, cm_eq, cm_ne, cm_eqS, cm_neS, onb, oni, yn_gd, yn_cls, Nat.reduceLT, if_true, if_false, true_and, and_true, List.set_cons_zero, List.set_cons_succ, set_nm, set_tup, set_nil, set_cons, ifb, b1_abs, b1_int, b1_intB, b1_lenT, b1_lenL, b1_tupL, b1_tupT, b2_min, b2_max, seq_tup, seq_lst, seq_sq, gd_sq, ix_sq, len_sq, new_t, new_f, gd_tup, gd_lst, ix_lst, ty_int, ty_tup, ty_str, isi_ii, isi_ib, isi_tt, isi_ss, reduceIte, Bool.true_eq_false, Bool.false_eq_true, Bool.not_true, Bool.not_false,  List.zip_cons_cons, List.zip_nil_right, List.foldl_cons, List.foldl_nil, ne_eq, not_false_eq_true, not_true_eq_false, Bool.not_eq_true', decide_eq_false_iff_not, decide_eq_true_eq, reduceCtorEq, List.cons.injEq, and_self, D.ref.injEq, Cell.obj.injEq, D.int.injEq, and_assoc, seq_sts, gd_sts]
  intro r hr'
  refine lc_inv _ (fun i acc M => WfM M ∧ M r = some (.lst acc) ∧ acc = (List.range i).map fun _ => D.bl true) (List.range n) 0 _ _ ⟨wf_lst (fun a C dx fs e => by rw [hm a] at e; cases e) hr', put_same, rfl⟩ ?_ ?_
  · rintro i hi acc M K ⟨wf, hM, rfl⟩ hK
    have hi' : i < n := by simpa using hi
    have e : ∀ h, (List.range n)[i]'h = i := fun h => by simp
    simp only [Nat.zero_add] at hK hM ⊢
    simp only [e]
    try simp only [wipeD, body, exs, ex, ev, evs, evB, evO, evT, evI, startD, List.map_cons, List.map_nil, List.length_cons, List.length_nil, Nat.reduceAdd, Nat.reduceSub, List.replicate, List.cons_append, List.nil_append, List.append_nil, List.getElem?_cons_zero, List.getElem?_cons_succ, Option.some.injEq, exists_and_left, exists_eq_left', exists_eq_left, exists_eq, ix_tup, at0, at1, at2, op_add', op_sub', op_mul', op_fdiv', op_mod', op_pow', op_addT, cm_lt, cm_le, cm_gt, cm_ge, cm_eq, cm_ne, cm_eqS, cm_neS, onb, oni, yn_gd, yn_cls, Nat.reduceLT, if_true, if_false, true_and, and_true, List.set_cons_zero, List.set_cons_succ, set_nm, set_tup, set_nil, set_cons, ifb, b1_abs, b1_int, b1_intB, b1_lenT, b1_lenL, b1_tupL, b1_tupT, b2_min, b2_max, seq_tup, seq_lst, seq_sq, gd_sq, ix_sq, len_sq, new_t, new_f, gd_tup, gd_lst, ix_lst, ty_int, ty_tup, ty_str, isi_ii, isi_ib, isi_tt, isi_ss, reduceIte, Bool.true_eq_false, Bool.false_eq_true, Bool.not_true, Bool.not_false,  List.zip_cons_cons, List.zip_nil_right, List.foldl_cons, List.foldl_nil, ne_eq, not_false_eq_true, not_true_eq_false, Bool.not_eq_true', decide_eq_false_iff_not, decide_eq_true_eq, reduceCtorEq, List.cons.injEq, and_self, D.ref.injEq, Cell.obj.injEq, D.int.injEq, and_assoc, seq_sts, gd_sts]
    refine ⟨ns, i, rfl, by omega, fun p m' hm' hp hP => ?_⟩
    obtain ⟨l, rfl⟩ := hm'
    have npr : p ≠ r := fun z => by rw [z, hM] at hp; cases hp
    have wf2 := wf_lst (l := l) wf hp
    refine ⟨p, rfl, hP, wf2, fun m2 c2 => ?_⟩
    have hr2 : m2 r = some (.lst ((List.range i).map fun _ => D.bl true)) := by rw [c2.other npr, put_ne (Ne.symm npr)]; exact hM
    have wf3 := wf_chg wf2 c2 ⟨_, put_same⟩
    refine hK _ _ hr2 ⟨?_, put_same, ?_⟩
    · exact wf_chg wf3 ⟨_, rfl⟩ ⟨_, hr2⟩
    · rw [List.range_succ, List.map_append]; rfl
  · rintro acc M ⟨wf, hM, rfl⟩
    rw [Nat.zero_add, List.length_range] at hM ⊢
    refine ⟨trivial, hM, ?_⟩
    dsimp only [lcEnd]
    exact all_const _ ⟨m, ⟨fun a c e => (by rw [hm a] at e; cases e), fun a C dx fs e => (by rw [hm a] at e; cases e)⟩, q⟩
end Og.Lk44
end
section
set_option maxHeartbeats 4000000
set_option autoImplicit false
namespace Og.Lk44
open PySem Og
def specs (cls : Nat → Addr) : List Spec := [s_num_back, s_num, s_num_times, s_less, s_num_add, s_pick, s_over, s_det, s_due, s_take, s_of, s_worth, s_row, s_total, s_span_mixed, s_more, s_rows, s_is_whole, s_is_by, s_is_tuple, s_common, s_is_worth, s_are_worths, s_is_matrix, s_check_matrix, s_least, s_inverse, s_num, s_num_times, s_turned, s_neg, s_num_add, s_row_plus, s_det, s_moves, s_cleared (cls 0), s_leading, s_row_times, s_stake (cls 0), s_init (cls 0), s_kernel, s_together, s_right, s_pot, s_cells, s_law]
def spec (cls : Nat → Addr) (i : Nat) : Spec := (specs cls).getD i fun _ _ _ => False
theorem law_all (cls : Nat → Addr) : ∀ (i : Nat) (r : Row), rows[i]? = some r → ∀ ds m Q, ds.length = r.n → spec cls i ds m Q → body (Yn gd cls (spec cls) i) r.N.length r.b ds m Q
  | 0, r, h, ds, m, Q, hl, hs => by cases h; exact law_num_back ds m Q hs
  | 1, r, h, ds, m, Q, hl, hs => by cases h; exact law_num rfl ds m Q hs
  | 2, r, h, ds, m, Q, hl, hs => by cases h; exact law_num_times rfl ds m Q hs
  | 3, r, h, ds, m, Q, hl, hs => by cases h; exact law_less rfl ds m Q hs
  | 4, r, h, ds, m, Q, hl, hs => by cases h; exact law_num_add rfl ds m Q hs
  | 5, r, h, ds, m, Q, hl, hs => by cases h; exact law_picked rfl rfl rfl ds m Q hs
  | 6, r, h, ds, m, Q, hl, hs => by cases h; exact law_over rfl ds m Q hs
  | 7, r, h, ds, m, Q, hl, hs => by cases h; exact law_own rfl rfl rfl ds m Q hs
  | 8, r, h, ds, m, Q, hl, hs => by cases h; exact law_due rfl rfl ds m Q hs
  | 9, r, h, ds, m, Q, hl, hs => by cases h; exact law_take ds m Q hs
  | 10, r, h, ds, m, Q, hl, hs => by cases h; exact law_of rfl ds m Q hs
  | 11, r, h, ds, m, Q, hl, hs => by cases h; exact law_worth rfl rfl rfl ds m Q hs
  | 12, r, h, ds, m, Q, hl, hs => by cases h; exact law_row rfl rfl ds m Q hs
  | 13, r, h, ds, m, Q, hl, hs => by cases h; exact law_num_sum rfl ds m Q hs
  | 14, r, h, ds, m, Q, hl, hs => by cases h; exact law_span_mixed rfl rfl ds m Q hs
  | 15, r, h, ds, m, Q, hl, hs => by cases h; exact law_more rfl rfl rfl rfl rfl ds m Q hs
  | 16, r, h, ds, m, Q, hl, hs => by cases h; exact law_rows rfl ds m Q hs
  | 17, r, h, ds, m, Q, hl, hs => by cases h; exact law_is_whole ds m Q hs
  | 18, r, h, ds, m, Q, hl, hs => by cases h; exact law_is_by rfl rfl ds m Q hs
  | 19, r, h, ds, m, Q, hl, hs => by cases h; exact law_is_tuple ds m Q hs
  | 20, r, h, ds, m, Q, hl, hs => by cases h; exact law_common ds m Q hs
  | 21, r, h, ds, m, Q, hl, hs => by cases h; exact law_is_worth rfl rfl rfl rfl ds m Q hs
  | 22, r, h, ds, m, Q, hl, hs => by cases h; exact law_are_worths rfl rfl ds m Q hs
  | 23, r, h, ds, m, Q, hl, hs => by cases h; exact law_is_matrix rfl rfl rfl ds m Q hs
  | 24, r, h, ds, m, Q, hl, hs => by cases h; exact law_check_matrix rfl rfl ds m Q hs
  | 25, r, h, ds, m, Q, hl, hs => by cases h; exact law_least rfl ds m Q hs
  | 26, r, h, ds, m, Q, hl, hs => by cases h; exact law_inverse ds m Q hs
  | 27, r, h, ds, m, Q, hl, hs => by cases h; exact law_worth_of rfl rfl ds m Q hs
  | 28, r, h, ds, m, Q, hl, hs => by cases h; exact law_times rfl ds m Q hs
  | 29, r, h, ds, m, Q, hl, hs => by cases h; exact law_turned rfl ds m Q hs
  | 30, r, h, ds, m, Q, hl, hs => by cases h; exact law_neg rfl ds m Q hs
  | 31, r, h, ds, m, Q, hl, hs => by cases h; exact law_plus rfl ds m Q hs
  | 32, r, h, ds, m, Q, hl, hs => by cases h; exact law_row_plus rfl rfl ds m Q hs
  | 33, r, h, ds, m, Q, hl, hs => by cases h; exact law_det rfl rfl rfl rfl rfl rfl ds m Q hs
  | 34, r, h, ds, m, Q, hl, hs => by cases h; exact law_moves rfl rfl rfl rfl rfl rfl rfl ds m Q hs
  | 35, r, h, ds, m, Q, hl, hs => by cases h; exact law_cleared rfl rfl ds m Q hs
  | 36, r, h, ds, m, Q, hl, hs => by cases h; exact law_leading ds m Q hs
  | 37, r, h, ds, m, Q, hl, hs => by cases h; exact law_row_times rfl ds m Q hs
  | 38, r, h, ds, m, Q, hl, hs => by cases h; exact law_stake rfl rfl rfl rfl rfl ds m Q hs
  | 39, r, h, ds, m, Q, hl, hs => by cases h; exact law_init rfl rfl rfl ds m Q hs
  | 40, r, h, ds, m, Q, hl, hs => by cases h; exact law_kernel rfl rfl ds m Q hs
  | 41, r, h, ds, m, Q, hl, hs => by cases h; exact law_together rfl ds m Q hs
  | 42, r, h, ds, m, Q, hl, hs => by cases h; exact law_right rfl rfl rfl rfl rfl rfl rfl rfl rfl ds m Q hs
  | 43, r, h, ds, m, Q, hl, hs => by cases h; exact law_pot ds m Q hs
  | 44, r, h, ds, m, Q, hl, hs => by cases h; exact law_cells ds m Q hs
  | 45, r, h, ds, m, Q, hl, hs => by cases h; exact law_law rfl rfl rfl ds m Q hs
  | _ + 46, r, h, ds, m, Q, hl, hs => by cases h
end Og.Lk44
end
section
set_option autoImplicit true
set_option maxHeartbeats 0
namespace Og.Lk44
open PySem PySem.Spec PyProof.Rows L2 Og
theorem tree : (PySem.Challenge.rw_opengates_k44_whole_determinants).prog.given.tree = none := by rfl
end Og.Lk44
open PySem PySem.W PySem.Calls PyProof.Rows
theorem PySem.Challenge.cw_opengates_k44_whole_determinants_holds : PySem.Challenge.rw_opengates_k44_whole_determinants.Holds := by
  w_on; o_law
  refine HandSHeadRun.head_any (r := OpenLaw.row PySem.Challenge.rw_opengates_k44_whole_determinants) (q := view (OpenLaw.row PySem.Challenge.rw_opengates_k44_whole_determinants).prog [57]) (H := Og.Lk44.hk) (ob := Og.Lk44.ob) (M := 4000) (loose := Og.Lk44.loose) (d := HandSHeadRun.topDef (OpenLaw.row PySem.Challenge.rw_opengates_k44_whole_determinants).prog 57) (kwd := []) Og.Lk44.ob_eq
    (by kernel_rfl) (fun s => by kernel_rfl) Og.Lk44.run (by kernel_rfl) (by kernel_rfl) (by kernel_rfl) (by rfl) (by first | assumption | decide +kernel) (by decide +kernel) ⟨rfl, rfl, rfl, rfl, rfl, by decide +kernel⟩ ?hw ?hc
  case hw => w_witness2
  case hc =>
    refine Og.walk_top (l := PySem.Challenge.rw_opengates_k44_whole_determinants) (n := 63) (k := 132) (x := "script") rfl (by decide) (by kernel_rfl) ⟨rfl, by decide, by decide⟩ ?F
    intro w mg fa h Y G hmg0
    obtain ⟨K, KX, c, e⟩ := Y
    have hmg : mg ("law" : PySem.Str) = some (.ref fa) := by
      have e : (HandSHeadRun.topDef (OpenLaw.row PySem.Challenge.rw_opengates_k44_whole_determinants).prog 57).name = ("law" : PySem.Str) := by kernel_rfl
      rw [← e]
      exact hmg0
    obtain ⟨fd, hb, hF⟩ := Og.law_end (P := (PySem.Challenge.rw_opengates_k44_whole_determinants).prog) (w := w) (spec := Og.Lk44.spec) KX G c e Og.Lk44.tf Og.Lk44.rows_ok Og.Lk44.binds Og.Lk44.kws Og.Lk44.tree Og.Lk44.law_all (j := 45) (r := Og.Lk44.r45) rfl rfl rfl rfl hmg
    exact ⟨K, fd, _, KX, hb, fun H a ns hl _ hS => Og.law_sp hl hS (fun _ _ _ z => by show Og.Lk44.spec _ 45 _ _ _; exact z), hF⟩
end
