import PyProof.Rows.All
import Wide.All
import OpenK.AllK
import Wide.FinOn
import HandS.ForMost
import HandS.ForExc
import HandS.SortInts
import HandS.SortKw
import HandS.TupAny
import HandS.TupMul
import HandS.Wide
import HandS.WideBits
import HandS.TupLe
import HandS.Deep
import HandS.IsInst
import HandS.Zip
import HandS.Style
import HandS.Conv
import HandS.Walk
import HandS.ExcOwn
import HandS.Words
import HandS.WordsExc
import HandS.EndBits
import PySem.Challenge.RW_nearrows_k81_whole_factors
set_option Elab.async false
set_option linter.all false
set_option maxRecDepth 100000
set_option maxHeartbeats 4000000
/-! Ev, part A: plain data, what a variable holds, how it stands in the abstract heap. -/
namespace Ev
open PySem L2

abbrev D := PyData
/-- an exception: its class's name; NotCovering's row -/
structure Xc where
  c : Str
  row : Option D
/-- what a variable owns alone -/
inductive Cel where
  | lst (ds : List D)
  | dic (kvs : List (D × D))
def Cel.d : Cel → D
  | .lst ds => .list ds
  | .dic kvs => .dict kvs
inductive Slot where
  | val (d : D)
  | own (c : Cel)
  | bor (c : Cel)
abbrev En := List (Option Slot)
/-- a result: a value, or a new cell -/
inductive R where
  | v (d : D)
  | o (c : Cel)
def R.d : R → D
  | .v d => d
  | .o c => c.d
inductive Rs (α : Type) where
  | no
  | ok (a : α) (e : En)
  | ex (x : Xc) (e : En)
def Rs.bind {α β : Type} (r : Rs α) (f : α → En → Rs β) : Rs β :=
  match r with
  | .no => .no
  | .ok a e => f a e
  | .ex x e => .ex x e
@[simp] theorem Rs.bind_no {α β : Type} (f : α → En → Rs β) : Rs.bind (.no : Rs α) f = .no := rfl
@[simp] theorem Rs.bind_ok {α β : Type} (a : α) (e : En) (f : α → En → Rs β) : Rs.bind (.ok a e) f = f a e := rfl
@[simp] theorem Rs.bind_ex {α β : Type} (x : Xc) (e : En) (f : α → En → Rs β) : Rs.bind (.ex x e : Rs α) f = .ex x e := rfl
/-- an operand: a variable's cell looked at, or a result -/
inductive PV where
  | sl (i : Nat)
  | r (x : R)
def Slot.d : Slot → D
  | .val d => d
  | .own c => c.d
  | .bor c => c.d
def PV.get : PV → En → Option D
  | .sl i, e => match e[i]? with
    | some (some s) => some s.d
    | _ => none
  | .r x, _ => some x.d

/-! ### avoided addresses -/
abbrev AS := Addr → Prop
def AV (W : AS) (F : Nat → AS) : AS := fun b => W b ∨ ∃ i, F i b
def plus (W fp : AS) : AS := fun b => W b ∨ fp b
/-- from (A, H) to (A', H'): what isn't avoided is kept -/
structure Step (A : AS) (H : Hp) (A' : AS) (H' : Hp) : Prop where
  keep : ∀ b o, H b = some o → ¬ A b → H' b = some o
  trk : ∀ b, H b ≠ none → H' b ≠ none
  sub : ∀ b, A' b → H b ≠ none → A b
theorem Step.refl {A : AS} {H : Hp} : Step A H A H := ⟨fun _ _ e _ => e, fun _ e => e, fun _ a _ => a⟩
theorem Step.trans {A A1 A2 : AS} {H H1 H2 : Hp} (a : Step A H A1 H1) (b : Step A1 H1 A2 H2) : Step A H A2 H2 where
  keep := fun c o e n => b.keep c o (a.keep c o e n) fun z => n (a.sub c z (by rw [e]; simp))
  trk := fun c e => b.trk c (a.trk c e)
  sub := fun c z e => a.sub c (b.sub c z (a.trk c e)) e
theorem Step.weak {A A1 A2 : AS} {H H1 : Hp} (a : Step A H A1 H1) (h : ∀ b, A2 b → A1 b) : Step A H A2 H1 :=
  ⟨a.keep, a.trk, fun b z e => a.sub b (h b z) e⟩

/-- the same with what may be changed: the variables' own places -/
structure Stp (W : AS) (F : Nat → AS) (H : Hp) (W' : AS) (F' : Nat → AS) (H' : Hp) : Prop where
  keep : ∀ b o, H b = some o → ¬ (∃ i, F i b) → H' b = some o
  trk : ∀ b, H b ≠ none → H' b ≠ none
  sub : ∀ b, AV W' F' b → H b ≠ none → AV W F b
  subM : ∀ i b, F' i b → H b ≠ none → ∃ j, F j b
theorem Stp.step {W W' : AS} {F F' : Nat → AS} {H H' : Hp} (s : Stp W F H W' F' H') : Step (AV W F) H (AV W' F') H' :=
  ⟨fun b o e n => s.keep b o e fun z => n (.inr z), s.trk, s.sub⟩
theorem Stp.refl {W : AS} {F : Nat → AS} {H : Hp} : Stp W F H W F H := ⟨fun _ _ e _ => e, fun _ e => e, fun _ a _ => a, fun i _ a _ => ⟨i, a⟩⟩
theorem Stp.trans {W W1 W2 : AS} {F F1 F2 : Nat → AS} {H H1 H2 : Hp} (a : Stp W F H W1 F1 H1) (b : Stp W1 F1 H1 W2 F2 H2) : Stp W F H W2 F2 H2 where
  keep := fun c o e n => b.keep c o (a.keep c o e n) fun ⟨i, z⟩ => n (a.subM i c z (by rw [e]; simp))
  trk := fun c e => b.trk c (a.trk c e)
  sub := fun c z e => a.sub c (b.sub c z (a.trk c e)) e
  subM := fun i c z e => let ⟨j, y⟩ := b.subM i c z (a.trk c e); a.subM j c y e
theorem Stp.weak {W W1 W2 : AS} {F F1 : Nat → AS} {H H1 : Hp} (a : Stp W F H W1 F1 H1) (h : ∀ b, AV W2 F1 b → AV W1 F1 b) : Stp W F H W2 F1 H1 :=
  ⟨a.keep, a.trk, fun b z e => a.sub b (h b z) e, a.subM⟩
theorem Stp.less {W W1 : AS} {F F1 : Nat → AS} {H : Hp} (h : ∀ b, AV W1 F1 b → AV W F b) (hm : ∀ i b, F1 i b → ∃ j, F j b) : Stp W F H W1 F1 H :=
  ⟨fun _ _ e _ => e, fun _ e => e, fun b z _ => h b z, fun i b z _ => hm i b z⟩

/-! ### data in the heap, none of it avoided -/
def WrL (K : PySem.W.Frag) (a : Addr) (xs : List V) : Prop :=
  ∃ (ob : Obj) (its : Array Value) (n : Nat), K.lookup a = some ob ∧ ob.cls = .type "list" ∧ ob.dict = none ∧
    ob.data = .seq its n ∧ its.size ≤ sizeLine ∧ Vals xs its.toList
def WrT (K : PySem.W.Frag) (a : Addr) (xs : List V) : Prop :=
  ∃ (ob : Obj) (its : Array Value) (n : Nat), K.lookup a = some ob ∧ ob.cls = .type "tuple" ∧
    ob.data = .seq its n ∧ its.size ≤ sizeLine ∧ Vals xs its.toList
def SqLA (K : PySem.W.Frag) (A : AS) (H : Hp) (a : Addr) (xs : List V) : Prop := (Rd H a (.lst xs) ∧ ¬ A a) ∨ WrL K a xs
def SqTA (K : PySem.W.Frag) (A : AS) (H : Hp) (a : Addr) (xs : List V) : Prop := (Rd H a (.tup xs) ∧ ¬ A a) ∨ WrT K a xs
/-- a list that is only read (the script) -/
abbrev roL (ds : List D) : D := .dict [(.none, .list ds)]
def keyD : Key → D
  | .inl i => .int i
  | .inr x => .str x
mutual
inductive DpA (K : PySem.W.Frag) (A : AS) (H : Hp) : V → D → Prop
  | non : DpA K A H .non .none
  | bl (b : Bool) : DpA K A H (.bl b) (.bool b)
  | int (i : Int) : DpA K A H (.int i) (.int i)
  | str (x : Str) : DpA K A H (.str x) (.str x)
  | lst {a : Addr} {xs : List V} {ds : List D} : Rd H a (.lst xs) → ¬ A a → DpAs K A H xs ds → DpA K A H (.ref a) (.list ds)
  | ro {a : Addr} {xs : List V} {ds : List D} : SqLA K A H a xs → DpAs K A H xs ds → DpA K A H (.ref a) (roL ds)
  | tup {a : Addr} {xs : List V} {ds : List D} : SqTA K A H a xs → DpAs K A H xs ds → DpA K A H (.ref a) (.tuple ds)
  | dK {a : Addr} {kv : List (Key × V)} {kvs : List (D × D)} : H a = some (.dK kv) → ¬ A a → DpKs K A H kv kvs → DpA K A H (.ref a) (.dict kvs)
  | dT {a : Addr} {kv : List (List Key × V)} {kvs : List (D × D)} : H a = some (.dT kv) → ¬ A a → DpTs K A H kv kvs → DpA K A H (.ref a) (.dict kvs)
inductive DpKs (K : PySem.W.Frag) (A : AS) (H : Hp) : List (Key × V) → List (D × D) → Prop
  | nil : DpKs K A H [] []
  | cons {k : Key} {v : V} {kv : List (Key × V)} {d : D} {kvs : List (D × D)} : DpA K A H v d → DpKs K A H kv kvs → DpKs K A H ((k, v) :: kv) ((keyD k, d) :: kvs)
inductive DpTs (K : PySem.W.Frag) (A : AS) (H : Hp) : List (List Key × V) → List (D × D) → Prop
  | nil : DpTs K A H [] []
  | cons {k : List Key} {v : V} {kv : List (List Key × V)} {d : D} {kvs : List (D × D)} : DpA K A H v d → DpTs K A H kv kvs → DpTs K A H ((k, v) :: kv) ((.tuple (k.map keyD), d) :: kvs)
inductive DpAs (K : PySem.W.Frag) (A : AS) (H : Hp) : List V → List D → Prop
  | nil : DpAs K A H [] []
  | cons {v : V} {vs : List V} {d : D} {ds : List D} : DpA K A H v d → DpAs K A H vs ds → DpAs K A H (v :: vs) (d :: ds)
end
section
variable {K : PySem.W.Frag} {A A' : AS} {H H' : Hp}
theorem Rd.some {a : Addr} {u : HO} (h : Rd H a u) : ∃ o, H a = Option.some o := by
  rcases h with h | ⟨o, h⟩
  · exact ⟨_, h⟩
  · exact ⟨_, h⟩
theorem rd_step (s : Step A H A' H') {a : Addr} {u : HO} (h : Rd H a u) (n : ¬ A a) : Rd H' a u ∧ ¬ A' a := by
  obtain ⟨o, e⟩ := Rd.some h
  refine ⟨?_, fun z => n (s.sub a z (by rw [e]; simp))⟩
  rcases h with h | ⟨o, h⟩
  · exact .inl (s.keep a _ h n)
  · exact .inr ⟨o, s.keep a _ h n⟩
theorem SqLA.step (s : Step A H A' H') {a : Addr} {xs : List V} (h : SqLA K A H a xs) : SqLA K A' H' a xs := by
  rcases h with ⟨h, n⟩ | h
  · exact .inl (rd_step s h n)
  · exact .inr h
theorem SqTA.step (s : Step A H A' H') {a : Addr} {xs : List V} (h : SqTA K A H a xs) : SqTA K A' H' a xs := by
  rcases h with ⟨h, n⟩ | h
  · exact .inl (rd_step s h n)
  · exact .inr h
theorem SqLA.sq {a : Addr} {xs : List V} (h : SqLA K A H a xs) : SqL K H a xs := by
  rcases h with ⟨h, _⟩ | h
  · exact .inl h
  · exact .inr h
theorem SqTA.sq {a : Addr} {xs : List V} (h : SqTA K A H a xs) : SqT K H a xs := by
  rcases h with ⟨h, _⟩ | h
  · exact .inl h
  · exact .inr h
mutual
theorem DpA.step (s : Step A H A' H') : ∀ {v : V} {d : D}, DpA K A H v d → DpA K A' H' v d
  | _, _, .non => .non
  | _, _, .bl b => .bl b
  | _, _, .int i => .int i
  | _, _, .str x => .str x
  | _, _, .lst h n hs => .lst (rd_step s h n).1 (rd_step s h n).2 (DpAs.step s hs)
  | _, _, .ro h hs => .ro (h.step s) (DpAs.step s hs)
  | _, _, .tup h hs => .tup (h.step s) (DpAs.step s hs)
  | _, _, .dK h n hs => .dK (s.keep _ _ h n) (fun z => n (s.sub _ z (by rw [h]; simp))) (DpKs.step s hs)
  | _, _, .dT h n hs => .dT (s.keep _ _ h n) (fun z => n (s.sub _ z (by rw [h]; simp))) (DpTs.step s hs)
theorem DpKs.step (s : Step A H A' H') : ∀ {kv : List (Key × V)} {kvs : List (D × D)}, DpKs K A H kv kvs → DpKs K A' H' kv kvs
  | _, _, .nil => .nil
  | _, _, .cons h hs => .cons (DpA.step s h) (DpKs.step s hs)
theorem DpTs.step (s : Step A H A' H') : ∀ {kv : List (List Key × V)} {kvs : List (D × D)}, DpTs K A H kv kvs → DpTs K A' H' kv kvs
  | _, _, .nil => .nil
  | _, _, .cons h hs => .cons (DpA.step s h) (DpTs.step s hs)
theorem DpAs.step (s : Step A H A' H') : ∀ {vs : List V} {ds : List D}, DpAs K A H vs ds → DpAs K A' H' vs ds
  | _, _, .nil => .nil
  | _, _, .cons h hs => .cons (DpA.step s h) (DpAs.step s hs)
end
mutual
theorem DpA.dp : ∀ {v : V} {d : D}, DpA K A H v d → d.canLay0 = true → Dp K H v d
  | _, _, .non, _ => .non
  | _, _, .bl b, _ => .bl b
  | _, _, .int i, _ => .int i
  | _, _, .str x, _ => .str x
  | _, _, .lst h n hs, z => .lst (.inl h) (DpAs.dp hs (by simpa [PyData.canLay0] using z))
  | _, _, .ro _ _, z => by simp [PyData.canLay0] at z
  | _, _, .tup h hs, z => .tup h.sq (DpAs.dp hs (by simpa [PyData.canLay0] using z))
  | _, _, .dK _ _ _, z => by simp [PyData.canLay0] at z
  | _, _, .dT _ _ _, z => by simp [PyData.canLay0] at z
theorem DpAs.dp : ∀ {vs : List V} {ds : List D}, DpAs K A H vs ds → PyData.canLayAll0 ds = true → DpAll K H vs ds
  | _, _, .nil, _ => .nil
  | _, _, .cons h hs, z => by
    simp only [PyData.canLayAll0, Bool.and_eq_true] at z
    exact .cons (DpA.dp h z.1) (DpAs.dp hs z.2)
end
theorem DpAs.length : ∀ {vs : List V} {ds : List D}, DpAs K A H vs ds → vs.length = ds.length
  | _, _, .nil => rfl
  | _, _, .cons _ t => by rw [List.length_cons, List.length_cons, DpAs.length t]
theorem DpAs.get : ∀ {vs : List V} {ds : List D} {i : Nat} {d : D}, DpAs K A H vs ds → ds[i]? = some d → ∃ v, vs[i]? = some v ∧ DpA K A H v d
  | _, _, _, _, .nil, e => by simp at e
  | _, _, 0, _, .cons h _, e => by simp at e; subst e; exact ⟨_, rfl, h⟩
  | _, _, i + 1, d, .cons _ t, e => by
    obtain ⟨v, h1, h2⟩ := DpAs.get (i := i) (d := d) t (by simpa using e)
    exact ⟨v, by simpa using h1, h2⟩
theorem DpAs.getV : ∀ {vs : List V} {ds : List D} {i : Nat} {v : V}, DpAs K A H vs ds → vs[i]? = some v → ∃ d, ds[i]? = some d ∧ DpA K A H v d
  | _, _, _, _, .nil, e => by simp at e
  | _, _, 0, _, .cons h _, e => by simp at e; subst e; exact ⟨_, rfl, h⟩
  | _, _, i + 1, d, .cons _ t, e => by
    obtain ⟨v, h1, h2⟩ := DpAs.getV (i := i) (v := d) t (by simpa using e)
    exact ⟨v, by simpa using h1, h2⟩
theorem DpAs.append : ∀ {vs ws : List V} {ds es : List D}, DpAs K A H vs ds → DpAs K A H ws es → DpAs K A H (vs ++ ws) (ds ++ es)
  | _, _, _, _, .nil, h => h
  | _, _, _, _, .cons h t, h' => .cons h (DpAs.append t h')
theorem DpAs.take : ∀ {vs : List V} {ds : List D} (n : Nat), DpAs K A H vs ds → DpAs K A H (vs.take n) (ds.take n)
  | _, _, 0, _ => .nil
  | _, _, _ + 1, .nil => .nil
  | _, _, n + 1, .cons h t => .cons h (DpAs.take n t)
theorem DpAs.drop : ∀ {vs : List V} {ds : List D} (n : Nat), DpAs K A H vs ds → DpAs K A H (vs.drop n) (ds.drop n)
  | _, _, 0, h => h
  | _, _, _ + 1, .nil => .nil
  | _, _, n + 1, .cons _ t => DpAs.drop n t
theorem DpAs.set {v : V} {d : D} (h : DpA K A H v d) : ∀ {vs : List V} {ds : List D} (n : Nat), DpAs K A H vs ds → DpAs K A H (vs.set n v) (ds.set n d)
  | _, _, _, .nil => .nil
  | _, _, 0, .cons _ t => .cons h t
  | _, _, n + 1, .cons g t => .cons g (DpAs.set h n t)
theorem DpAs.reverse : ∀ {vs : List V} {ds : List D}, DpAs K A H vs ds → DpAs K A H vs.reverse ds.reverse
  | _, _, .nil => .nil
  | _, _, .cons h t => by
    rw [List.reverse_cons, List.reverse_cons]
    exact (DpAs.reverse t).append (.cons h .nil)
theorem DpAs.eraseIdx : ∀ {vs : List V} {ds : List D} (n : Nat), DpAs K A H vs ds → DpAs K A H (vs.eraseIdx n) (ds.eraseIdx n)
  | _, _, _, .nil => .nil
  | _, _, 0, .cons _ t => t
  | _, _, n + 1, .cons h t => .cons h (DpAs.eraseIdx n t)
theorem DpAs.ints : ∀ {vs : List V} {ns : List Int}, DpAs K A H vs (ns.map PyData.int) → vs = ns.map V.int
  | _, [], h => by cases h; rfl
  | _, n :: ns, h => by
    rw [List.map_cons] at h
    cases h with
    | cons h t =>
      cases h
      rw [List.map_cons, ← DpAs.ints t]
theorem DpAs.of_ints : ∀ (ns : List Int), DpAs K A H (ns.map V.int) (ns.map PyData.int)
  | [] => .nil
  | n :: ns => .cons (.int n) (DpAs.of_ints ns)
theorem DpAs.bools : ∀ {vs : List V} {ns : List Bool}, DpAs K A H vs (ns.map PyData.bool) → vs = ns.map V.bl
  | _, [], h => by cases h; rfl
  | _, n :: ns, h => by
    rw [List.map_cons] at h
    cases h with
    | cons h t =>
      cases h
      rw [List.map_cons, ← DpAs.bools t]
theorem DpAs.strs : ∀ {vs : List V} {ns : List Str}, DpAs K A H vs (ns.map PyData.str) → vs = ns.map V.str
  | _, [], h => by cases h; rfl
  | _, n :: ns, h => by
    rw [List.map_cons] at h
    cases h with
    | cons h t =>
      cases h
      rw [List.map_cons, ← DpAs.strs t]
/-- the avoided ones made fewer -/
theorem DpA.fewer {v : V} {d : D} (h : DpA K A H v d) (s : ∀ b, A' b → A b) : DpA K A' H v d := h.step (Step.refl.weak s)
theorem DpAs.fewer {v : List V} {d : List D} (h : DpAs K A H v d) (s : ∀ b, A' b → A b) : DpAs K A' H v d := h.step (Step.refl.weak s)
end

/-! ### cells -/
def CelAt (K : PySem.W.Frag) (A : AS) (H : Hp) (a : Addr) : Cel → Prop
  | .lst ds => ∃ xs, H a = some (.lst xs) ∧ DpAs K A H xs ds
  | .dic kvs => (∃ kv : List (Key × V), H a = some (.dK kv) ∧ DpKs K A H kv kvs) ∨ ∃ kv : List (List Key × V), H a = some (.dT kv) ∧ DpTs K A H kv kvs
section
variable {K : PySem.W.Frag} {A A' : AS} {H H' : Hp} {a : Addr} {c : Cel}
theorem CelAt.step (h : CelAt K A H a c) (s : Step A H A' H') (e : ∀ o, H a = some o → H' a = some o) : CelAt K A' H' a c := by
  cases c with
  | lst ds =>
    obtain ⟨xs, h1, h2⟩ := h
    exact ⟨xs, e _ h1, h2.step s⟩
  | dic kvs =>
    rcases h with ⟨kv, h1, h2⟩ | ⟨kv, h1, h2⟩
    · exact .inl ⟨kv, e _ h1, h2.step s⟩
    · exact .inr ⟨kv, e _ h1, h2.step s⟩
theorem CelAt.there (h : CelAt K A H a c) : H a ≠ none := by
  cases c with
  | lst ds =>
    obtain ⟨xs, h1, h2⟩ := h
    rw [h1]; simp
  | dic kvs =>
    rcases h with ⟨kv, h1, h2⟩ | ⟨kv, h1, h2⟩ <;> (rw [h1]; simp)
theorem CelAt.mut (h : CelAt K A H a c) : Mut (H a) := by
  cases c with
  | lst ds =>
    obtain ⟨xs, h1, h2⟩ := h
    rw [h1]; trivial
  | dic kvs =>
    rcases h with ⟨kv, h1, h2⟩ | ⟨kv, h1, h2⟩ <;> (rw [h1]; trivial)
/-- what stands at a variable -/
def SlotR (K : PySem.W.Frag) (A G : AS) (B : AS × AS) (H : Hp) (fp : AS) (v : V) : Slot → Prop
  | .val d => DpA K A H v d
  | .own c => ∃ a, v = .ref a ∧ CelAt K A H a c ∧ fp a ∧ ∀ b, fp b → ¬ G b
  | .bor c => ∃ a, v = .ref a ∧ CelAt K A H a c ∧ fp a ∧ (∀ b, B.1 b ↔ b = a) ∧ ∀ b, fp b → B.2 b ∨ ¬ G b
/-- W: owned by others; G: stood at the entry; B: the borrowed ones' places; F: each variable's own places -/
structure Rel (K : PySem.W.Frag) (W G : AS) (B : Nat → AS × AS) (F : Nat → AS) (H : Hp) (σ : St) (e : En) : Prop where
  len : σ.length = e.length
  wt : ∀ b, W b → H b ≠ none
  gt : ∀ b, G b → H b ≠ none
  ft : ∀ i b, F i b → H b ≠ none
  fw : ∀ i b, F i b → ¬ W b
  ff : ∀ i j b, F i b → F j b → i = j
  slot : ∀ (i : Nat) (s : Slot), e[i]? = some (some s) → ∃ v, σ[i]? = some (some v) ∧ SlotR K (AV W F) G (B i) H (F i) v s
end
section
variable {K : PySem.W.Frag} {W W' G : AS} {B : Nat → AS × AS} {F F' : Nat → AS} {H H' : Hp} {σ : St} {e : En} {i : Nat} {s : Slot} {v : V}
theorem Rel.at (r : Rel K W G B F H σ e) : ∀ b, AV W F b → H b ≠ none := fun b h => by
  rcases h with h | ⟨i, h⟩
  · exact r.wt b h
  · exact r.ft i b h
/-- all tracked objects are as they were; new ones owned by others may be more -/
theorem Rel.ext (r : Rel K W G B F H σ e) (hs : Same H H') (hw : ∀ b, W' b → W b ∨ (H b = none ∧ H' b ≠ none)) : Rel K W' G B F H' σ e := by
  have trk : ∀ b, H b ≠ none → H' b ≠ none := fun b h => by
    cases q : H b with
    | none => exact absurd q h
    | some o => rw [hs b o q]; simp
  have st : Step (AV W F) H (AV W' F) H' := ⟨fun b o q _ => hs b o q, trk, fun b z q => by
    rcases z with z | z
    · rcases hw b z with z | ⟨z, _⟩
      · exact .inl z
      · exact absurd z q
    · exact .inr z⟩
  refine ⟨r.len, fun b z => ?_, fun b z => trk b (r.gt b z), fun i b z => trk b (r.ft i b z), fun i b z w => ?_, r.ff, fun i s h => ?_⟩
  · rcases hw b z with z | z
    · exact trk b (r.wt b z)
    · exact z.2
  · rcases hw b w with w | w
    · exact r.fw i b z w
    · exact r.ft i b z w.1
  · obtain ⟨v, h1, h2⟩ := r.slot i s h
    refine ⟨v, h1, ?_⟩
    cases s with
    | val d => exact h2.step st
    | own c =>
      obtain ⟨a, h3, h4, h5, h6⟩ := h2
      exact ⟨a, h3, h4.step st fun o q => hs a o q, h5, h6⟩
    | bor c =>
      obtain ⟨a, h3, h4, h5, h6⟩ := h2
      exact ⟨a, h3, h4.step st fun o q => hs a o q, h5, h6⟩
theorem Rel.fewer (r : Rel K W G B F H σ e) (hw : ∀ b, W' b → W b) : Rel K W' G B F H σ e := r.ext (fun _ _ q => q) fun b z => .inl (hw b z)
theorem step_of (hs : Same H H') {A A' : AS} (h : ∀ b, A' b → H b ≠ none → A b) : Step A H A' H' :=
  ⟨fun b o q _ => hs b o q, fun b q => by
    cases z : H b with
    | none => exact absurd z q
    | some o => rw [hs b o z]; simp, h⟩
theorem stp_of (hs : Same H H') (h : ∀ b, AV W' F' b → H b ≠ none → AV W F b) (hm : ∀ i b, F' i b → H b ≠ none → ∃ j, F j b) : Stp W F H W' F' H' :=
  ⟨fun b o q _ => hs b o q, (step_of hs h).trk, h, hm⟩
theorem same_upd {p : Addr} {o : HO} (h : H p = none) : Same H (upd H p o) := fun b u q => by
  rw [upd_ne (ne_of_none q h)]
  exact q

/-- an operand as it stands behind its evaluation -/
def Opv (K : PySem.W.Frag) (A : AS) (H : Hp) (σ : St) (v : V) : PV → Prop
  | .sl i => σ[i]? = some (some v)
  | .r x => DpA K A H v x.d
/-- a value that is looked at: data, or a variable's own cell -/
def PK (K : PySem.W.Frag) (A : AS) (H : Hp) (v : V) (d : D) : Prop := DpA K A H v d ∨ ∃ a c, v = .ref a ∧ d = c.d ∧ CelAt K A H a c
theorem Opv.step {A A' : AS} {pv : PV} (h : Opv K A H σ v pv) (s : Step A H A' H') : Opv K A' H' σ v pv := by
  cases pv with
  | sl i => exact h
  | r x => exact DpA.step s h
theorem Opv.pk {pv : PV} {d : D} (h : Opv K (AV W F) H σ v pv) (r : Rel K W G B F H σ e) (g : pv.get e = some d) : PK K (AV W F) H v d := by
  cases pv with
  | r x =>
    simp only [PV.get, Option.some.injEq] at g
    subst g
    exact .inl h
  | sl i =>
    simp only [PV.get] at g
    split at g
    · rename_i s hs
      obtain ⟨u, h1, h2⟩ := r.slot i s hs
      have hv : σ[i]? = some (some v) := h
      rw [hv] at h1
      cases h1
      cases g
      cases s with
      | val d => exact .inl h2
      | own c =>
        obtain ⟨a, h3, h4, h5, h6⟩ := h2
        exact .inr ⟨a, c, h3, rfl, h4⟩
      | bor c =>
        obtain ⟨a, h3, h4, h5, h6⟩ := h2
        exact .inr ⟨a, c, h3, rfl, h4⟩
    · cases g
section
variable {A : AS} {ds : List D}
theorem PK.list (h : PK K A H v (.list ds)) : ∃ a xs, v = .ref a ∧ Rd H a (.lst xs) ∧ DpAs K A H xs ds := by
  rcases h with h | ⟨a, c, h1, h2, h3⟩
  · cases h with
    | lst h n hs => exact ⟨_, _, rfl, h, hs⟩
  · cases c with
    | lst es =>
      cases h2
      obtain ⟨xs, h4, h5⟩ := h3
      exact ⟨a, xs, h1, .of h4, h5⟩
    | dic kvs => cases h2
theorem DpKs.keys : ∀ {kv : List (Key × V)} {kvs : List (D × D)}, DpKs K A H kv kvs → ∀ p ∈ kvs, p.1 ≠ .none
  | _, _, .nil => fun p hp => by cases hp
  | _, _, .cons (k := k) h t => fun p hp => by
    rcases List.mem_cons.mp hp with e | hp
    · subst e
      cases k <;> simp [keyD]
    · exact DpKs.keys t p hp
theorem DpTs.keys : ∀ {kv : List (List Key × V)} {kvs : List (D × D)}, DpTs K A H kv kvs → ∀ p ∈ kvs, p.1 ≠ .none
  | _, _, .nil => fun p hp => by cases hp
  | _, _, .cons h t => fun p hp => by
    rcases List.mem_cons.mp hp with e | hp
    · subst e
      simp
    · exact DpTs.keys t p hp
theorem PK.rol (h : PK K A H v (Ev.roL ds)) : ∃ a xs, v = .ref a ∧ SqL K H a xs ∧ DpAs K A H xs ds := by
  generalize e : Ev.roL ds = d at h
  rcases h with h | ⟨a, c, h1, h2, h3⟩
  · cases h with
    | ro h hs =>
      cases e
      exact ⟨_, _, rfl, h.sq, hs⟩
    | dK h n hs =>
      cases e
      exact absurd rfl (hs.keys _ List.mem_cons_self)
    | dT h n hs =>
      cases e
      exact absurd rfl (hs.keys _ List.mem_cons_self)
    | _ => cases e
  · subst h2
    cases c with
    | lst es => cases e
    | dic kvs =>
      cases e
      rcases h3 with ⟨kv, h4, h5⟩ | ⟨kv, h4, h5⟩
      · exact absurd rfl (h5.keys _ List.mem_cons_self)
      · exact absurd rfl (h5.keys _ List.mem_cons_self)
theorem PK.tup (h : PK K A H v (.tuple ds)) : ∃ a xs, v = .ref a ∧ SqTA K A H a xs ∧ DpAs K A H xs ds := by
  rcases h with h | ⟨a, c, h1, h2, h3⟩
  · cases h with
    | tup h hs => exact ⟨_, _, rfl, h, hs⟩
  · cases c <;> cases h2
theorem PK.int {k : Int} (h : PK K A H v (.int k)) : v = .int k := by
  rcases h with h | ⟨a, c, h1, h2, h3⟩
  · cases h; rfl
  · cases c <;> cases h2
theorem PK.str {k : Str} (h : PK K A H v (.str k)) : v = .str k := by
  rcases h with h | ⟨a, c, h1, h2, h3⟩
  · cases h; rfl
  · cases c <;> cases h2
theorem PK.bool {k : Bool} (h : PK K A H v (.bool k)) : v = .bl k := by
  rcases h with h | ⟨a, c, h1, h2, h3⟩
  · cases h; rfl
  · cases c <;> cases h2
theorem PK.none (h : PK K A H v .none) : v = .non := by
  rcases h with h | ⟨a, c, h1, h2, h3⟩
  · cases h; rfl
  · cases c <;> cases h2
theorem PK.dp {d : D} (h : PK K A H v d) (nd : d.canLay0 = true) : Dp K H v d := by
  rcases h with h | ⟨a, c, h1, h2, h3⟩
  · exact h.dp nd
  · cases c with
    | lst es =>
      cases h2
      obtain ⟨xs, h4, h5⟩ := h3
      subst h1
      exact .lst (.of h4) (h5.dp (by simpa [PyData.canLay0, Cel.d] using nd))
    | dic kvs => subst h2; simp [PyData.canLay0, Cel.d] at nd
/-- a cell, let go -/
theorem CelAt.dat {a : Addr} {c : Cel} {A' : AS} (h : CelAt K A H a c) (n : ¬ A' a) (hs : ∀ b, A' b → A b) : DpA K A' H (.ref a) c.d := by
  cases c with
  | lst ds =>
    obtain ⟨xs, h6, h7⟩ := h
    exact .lst (.of h6) n (h7.fewer hs)
  | dic kvs =>
    rcases h with ⟨kv, h6, h7⟩ | ⟨kv, h6, h7⟩
    · exact .dK h6 n (h7.step (Step.refl.weak hs))
    · exact .dT h6 n (h7.step (Step.refl.weak hs))
end
end
end Ev

/-! Ev, part B: the embedded language and its evaluator over plain data. -/
namespace Ev
open PySem L2

def PV.isR : PV → Bool
  | .r _ => true
  | .sl _ => false
/-! ### operations on data -/
def charD (c : Nat) : D := .str ⟨#[c]⟩
def bopD : Operator → D → D → Option R
  | .Add, .int i, .int j => some (.v (.int (i + j)))
  | .Add, .str x, .str y => if x.length + y.length ≤ sizeLine then some (.v (.str (x ++ y))) else none
  | .Add, .list xs, .list ys => if xs.length + ys.length ≤ sizeLine then some (.o (.lst (xs ++ ys))) else none
  | .Add, .tuple xs, .tuple ys => if xs.length + ys.length ≤ sizeLine then some (.v (.tuple (xs ++ ys))) else none
  | .Sub, .int i, .int j => some (.v (.int (i - j)))
  | .Mult, .int i, .int j => if (i.natAbs < 2 ^ 200 ∧ j.natAbs < 2 ^ 200) ∨ i.natAbs.log2 + j.natAbs.log2 < 1000000 then some (.v (.int (i * j))) else none
  | .Mult, .tuple xs, .int k => if xs ≠ [] ∧ 2 ≤ k ∧ k ≤ 1000 ∧ xs.length ≤ 1000 then some (.v (.tuple (List.replicate k.toNat xs).flatten)) else none
  | .FloorDiv, .int i, .int j => if 0 < j ∧ (j < 2 ^ 200 ∨ j.natAbs.log2 < 9000) then some (.v (.int (i / j))) else none
  | .Mod, .int i, .int j => if 0 < j then some (.v (.int (i % j))) else none
  | .Pow, .int i, .int j => if 0 ≤ j ∧ j ≤ 1000000 ∧ i.natAbs < 2 ^ 64 then some (.v (.int (i ^ j.toNat))) else none
  | _, _, _ => none
/-- equality of data -/
def eqD (d e : D) : Option Bool := if SeqAt.shaped d = true ∧ SeqAt.shaped e = true then some (PyData.eqv d e) else none
/-- the ints of data -/
def intsD : List D → Option (List Int)
  | [] => some []
  | .int i :: ds => (intsD ds).map (i :: ·)
  | _ :: _ => none
def boolsD : List D → Option (List Bool)
  | [] => some []
  | .bool i :: ds => (boolsD ds).map (i :: ·)
  | _ :: _ => none
def strsD : List D → Option (List Str)
  | [] => some []
  | .str i :: ds => (strsD ds).map (i :: ·)
  | _ :: _ => none
def seqD : D → Option (List D)
  | .list ds => some ds
  | .tuple ds => some ds
  | _ => none
def ltD : D → D → Option Bool
  | .int i, .int j => some (decide (i < j))
  | .tuple xs, .tuple ys => match intsD xs, intsD ys with
    | some ns, some ms => some (HT.lexLt ns ms)
    | _, _ => none
  | _, _ => none
def inD (d : D) : D → Option Bool
  | .str y => match d with
    | .str x => some (!(Builtin.Str.occurrences y x 0 y.length 1).isEmpty)
    | _ => none
  | .list ds => if SeqAt.shaped d = true ∧ SeqAt.shaped (.list ds) = true then some (ds.any fun x => PyData.eqv x d) else none
  | _ => none
def isNoneD : D → Bool
  | .none => true
  | _ => false
def cmpD : CmpOp → D → D → Option Bool
  | .Eq, d, e => eqD d e
  | .NotEq, d, e => (eqD d e).map not
  | .Lt, d, e => ltD d e
  | .Gt, .int i, .int j => some (decide (j < i))
  | .LtE, .int i, .int j => some (decide (i ≤ j))
  | .GtE, .int i, .int j => some (decide (j ≤ i))
  | .Is, d, .none => some (isNoneD d)
  | .IsNot, d, .none => some (!isNoneD d)
  | .Is, .bool a, .bool b => some (a == b)
  | .IsNot, .bool a, .bool b => some (a != b)
  | .In, d, e => inD d e
  | .NotIn, d, e => (inD d e).map not
  | _, _, _ => none
def cmpR (op : CmpOp) (d e : D) : Option R := (cmpD op d e).map fun b => .v (.bool b)
/-- a[i] -/
def idxD : D → D → Option R
  | .list ds, .int i => (atI ds i).map .v
  | .tuple ds, .int i => (atI ds i).map .v
  | .dict [(.none, .list ds)], .int i => (atI ds i).map .v
  | .str z, .int i => if z.length ≤ sizeLine then (atI z.cps.toList i).map fun c => .v (charD c) else none
  | _, _ => none
def cutD (ds : List D) (lo hi : Option Int) : List D := (ds.drop (HT.sIx ds.length 0 lo)).take (HT.sIx ds.length ds.length hi - HT.sIx ds.length 0 lo)
def slcD : D → Option Int → Option Int → Option R
  | .list ds, lo, hi => some (.o (.lst (cutD ds lo hi)))
  | .tuple ds, lo, hi => some (.v (.tuple (cutD ds lo hi)))
  | .dict [(.none, .list ds)], lo, hi => some (.o (.lst (cutD ds lo hi)))
  | _, _, _ => none
def revD : D → Option R
  | .list ds => some (.o (.lst ds.reverse))
  | _ => none
/-- built-in functions -/
inductive Bi where
  | len | all | any | max | min | sum | list | tuple | sorted | sortedR | int | str | abs | divmod | repr | listRange | setLen
  deriving DecidableEq
def insI (n : Int) : List Int → List Int
  | [] => [n]
  | m :: ms => if n ≤ m then n :: m :: ms else m :: insI n ms
def sortI : List Int → List Int
  | [] => []
  | n :: ns => insI n (sortI ns)
def maxI : List Int → Option Int
  | [] => none
  | n :: ns => some (ns.foldl (fun a b => if b > a then b else a) n)
def minI : List Int → Option Int
  | [] => none
  | n :: ns => some (ns.foldl (fun a b => if b < a then b else a) n)
def biD : Bi → List D → Option R
  | .len, [.str z] => if z.length ≤ sizeLine then some (.v (.int z.length)) else none
  | .len, [.list ds] => some (.v (.int ds.length))
  | .len, [.dict [(.none, .list ds)]] => some (.v (.int ds.length))
  | .len, [.tuple ds] => some (.v (.int ds.length))
  | .all, [.list ds] => (boolsD ds).map fun bs => .v (.bool (bs.all id))
  | .any, [.list ds] => (boolsD ds).map fun bs => .v (.bool (bs.any id))
  | .max, [.int i, .int j] => some (.v (.int (if j > i then j else i)))
  | .min, [.int i, .int j] => some (.v (.int (if j < i then j else i)))
  | .max, [.list ds] => (intsD ds).bind fun ns => (maxI ns).map fun m => .v (.int m)
  | .min, [.list ds] => (intsD ds).bind fun ns => (minI ns).map fun m => .v (.int m)
  | .sum, [.list ds] => (intsD ds).map fun ns => .v (.int ns.sum)
  | .list, [.list ds] => some (.o (.lst ds))
  | .list, [.tuple ds] => some (.o (.lst ds))
  | .tuple, [.list ds] => some (.v (.tuple ds))
  | .tuple, [.tuple ds] => some (.v (.tuple ds))
  | .sorted, [.list ds] => (intsD ds).map fun ns => .o (.lst ((sortI ns).map .int))
  | .sorted, [.tuple ds] => (intsD ds).map fun ns => .o (.lst ((sortI ns).map .int))
  | .sortedR, [.list ds] => (intsD ds).map fun ns => .o (.lst ((sortI ns).reverse.map .int))
  | .sortedR, [.tuple ds] => (intsD ds).map fun ns => .o (.lst ((sortI ns).reverse.map .int))
  | .int, [.bool b] => some (.v (.int (if b then 1 else 0)))
  | .int, [.int i] => some (.v (.int i))
  | .abs, [.int i] => some (.v (.int (if i < 0 then -i else i)))
  | .divmod, [.int i, .int j] => if 0 < j ∧ j < 1073741824 then some (.v (.tuple [.int (i / j), .int (i % j)])) else none
  | .listRange, [.int n] => if 0 ≤ n ∧ n ≤ 1000000 then some (.o (.lst ((List.range n.toNat).map fun (k : Nat) => .int (k : Int)))) else none
  | _, _ => none
/-- isinstance of a built-in type -/
inductive Ty where
  | int | bool | str | tuple | list
  deriving DecidableEq
def isRo : D → Bool
  | .dict [(.none, _)] => true
  | _ => false
def isTy : Ty → D → Bool
  | .int, .int _ => true
  | .int, .bool _ => true
  | .bool, .bool _ => true
  | .str, .str _ => true
  | .tuple, .tuple _ => true
  | .list, .list _ => true
  | _, _ => false
def isiD (t : Ty) (d : D) : Option R := if isRo d then none else some (.v (.bool (isTy t d)))
/-- methods that change a cell -/
inductive Mu where
  | append | extend | pop | popAt | clear
  deriving DecidableEq
def muD : Mu → List D → List D → Option (D × List D)
  | .append, xs, [d] => if xs.length < sizeLine then some (.none, xs ++ [d]) else none
  | .extend, xs, [.list ds] => if xs.length + ds.length ≤ sizeLine then some (.none, xs ++ ds) else none
  | .pop, xs, [] => match xs[xs.length - 1]? with
    | some d => some (d, xs.dropLast)
    | none => none
  | .popAt, xs, [.int i] => if xs.length ≤ sizeLine then (match ixN xs.length i with
    | some k => (xs[k]?).map fun d => (d, xs.eraseIdx k)
    | none => none) else none
  | .clear, _, [] => some (.none, [])
  | _, _, _ => none

/-! ### the embedded language -/
mutual
inductive Tg where
  | nm (i : Nat)
  | tup (ts : Tgs)
inductive Tgs where
  | nil
  | cons (t : Tg) (ts : Tgs)
end
mutual
inductive CE where
  | var (i : Nat)
  | mov (i : Nat)
  | con (d : D)
  | glob (k : Nat)
  | tup (es : CEs)
  | lst (es : CEs)
  | bin (op : Operator) (a b : CE)
  | neg (a : CE)
  | cmp (op : CmpOp) (a b : CE)
  | chn (o1 o2 : CmpOp) (a b c : CE)
  | not (a : CE)
  | bo (an : Bool) (es : CEs)
  | ite (c a b : CE)
  | idx (a i : CE)
  | slc (a : CE) (lo hi : CEo)
  | rev (a : CE)
  | bi (f : Bi) (es : CEs)
  | sortedR (a : CE)
  | lstRange (a : CE)
  | isi (a : CE) (t : Ty)
  | call (k : Nat) (ms : List Bool) (es : CEs)
  | mut (m : Mu) (i : Nat) (es : CEs)
  | lc (own : List Nat) (tg : Tg) (it : IT) (c : CEo) (e : CE)
inductive CEs where
  | nil
  | cons (e : CE) (es : CEs)
inductive CEo where
  | none
  | some (e : CE)
inductive IT where
  | val (e : CE)
  | range1 (a : CE)
  | range2 (a b : CE)
  | zip (a b : CE)
  | enum (a : CE)
end
abbrev Sum := En → Rs R
/-- a def as its callers see it: how many arguments, what it does -/
structure Fn where
  np : Nat
  S : Sum

/-! ### the evaluator -/
def app1 (f : D → Option R) (x : PV) (e : En) : Rs PV :=
  match x.get e with
  | some d => match f d with
    | some r => .ok (.r r) e
    | none => .no
  | none => .no
def app2 (f : D → D → Option R) (x y : PV) (e : En) : Rs PV :=
  match x.get e, y.get e with
  | some d, some d' => match f d d' with
    | some r => .ok (.r r) e
    | none => .no
  | _, _ => .no
def gets : List PV → En → Option (List D)
  | [], _ => some []
  | x :: xs, e => match x.get e, gets xs e with
    | some d, some ds => some (d :: ds)
    | _, _ => none
def appN (f : List D → Option R) (xs : List PV) (e : En) : Rs PV :=
  match gets xs e with
  | some ds => match f ds with
    | some r => .ok (.r r) e
    | none => .no
  | none => .no
def rdVar (i : Nat) (pk : Bool) (e : En) : Rs PV :=
  match e[i]? with
  | some (some (.val d)) => .ok (.r (.v d)) e
  | some (some (.own c)) => match pk with
    | true => .ok (.sl i) e
    | false => .ok (.r (.v c.d)) (e.set i (some (.val c.d)))
  | some (some (.bor c)) => match pk with
    | true => .ok (.sl i) e
    | false => .no
  | _ => .no
def mvVar (i : Nat) (e : En) : Rs PV :=
  match e[i]? with
  | some (some (.val d)) => .ok (.r (.v d)) e
  | some (some (.own c)) => .ok (.r (.o c)) (e.set i none)
  | _ => .no
mutual
def putTg : Tg → D → En → Option En
  | .nm i, d, e => match e[i]? with
    | some (some (.bor _)) => none
    | some _ => some (e.set i (some (.val d)))
    | none => none
  | .tup ts, .tuple ds, e => putTgs ts ds e
  | .tup _, _, _ => none
def putTgs : Tgs → List D → En → Option En
  | .nil, [], e => some e
  | .cons t ts, d :: ds, e => match putTg t d e with
    | some e => putTgs ts ds e
    | none => none
  | _, _, _ => none
end
/-- arguments: a value, or a variable's cell lent -/
inductive Ar where
  | d (d : D)
  | b (i : Nat)
def mkArg : Ar → En → Option Slot
  | .d d, _ => some (.val d)
  | .b i, e => match e[i]? with
    | some (some (.own c)) => some (.bor c)
    | some (some (.bor c)) => some (.bor c)
    | _ => none
def mkArgs : List Ar → En → Option En
  | [], _ => some []
  | a :: as, e => match mkArg a e, mkArgs as e with
    | some s, some t => some (some s :: t)
    | _, _ => none
def putBack1 (i : Nat) (c : Cel) (e : En) : Option En :=
  match e[i]? with
  | some (some (.own _)) => some (e.set i (some (.own c)))
  | some (some (.bor _)) => some (e.set i (some (.bor c)))
  | _ => none
def putBack : List Ar → En → En → Option En
  | [], _, e => some e
  | .b i :: as, some (.bor c) :: t, e => match putBack1 i c e with
    | some e => putBack as t e
    | none => none
  | .d _ :: as, _ :: t, e => putBack as t e
  | _, _, _ => none
def lentOnce : List Ar → Bool
  | [] => true
  | .d _ :: as => lentOnce as
  | .b i :: as => (as.all fun a => match a with | .b j => j != i | _ => true) && lentOnce as
def callS (f : Fn) (as : List Ar) (e : En) : Rs PV :=
  match mkArgs as e, lentOnce as && as.length == f.np with
  | some t, true => match f.S t with
    | .no => .no
    | .ok r t' => (match putBack as t' e with
      | some e => .ok (.r r) e
      | none => .no)
    | .ex x t' => (match putBack as t' e with
      | some e => .ex x e
      | none => .no)
  | _, _ => .no
/-- what a walk gives -/
def itemsD : D → Option (List D)
  | .list ds => some ds
  | .tuple ds => some ds
  | .str z => some (z.cps.toList.map charD)
  | _ => none
def rangeD (lo hi : Int) : List D := (List.range (hi - lo).toNat).map fun (k : Nat) => .int (lo + (k : Int))
def inR62 (i : Int) : Prop := -(2 ^ 62) ≤ i ∧ i < 2 ^ 62
instance (i : Int) : Decidable (inR62 i) := inferInstanceAs (Decidable (_ ∧ _))
def range1D : D → Option (List D)
  | .int n => if inR62 n then some (rangeD 0 n) else none
  | _ => none
def range2D : D → D → Option (List D)
  | .int lo, .int hi => if inR62 lo ∧ inR62 hi then some (rangeD lo hi) else none
  | _, _ => none
def zipD (xs ys : List D) : List D := (xs.zip ys).map fun p => .tuple [p.1, p.2]
def enumD (xs : List D) : List D := (xs.zipIdx).map fun p => .tuple [.int (p.2 : Int), p.1]
def zipItems : D → D → Option (List D)
  | .list xs, .list ys => some (zipD xs ys)
  | .tuple xs, .tuple ys => some (zipD xs ys)
  | _, _ => none
def enumItems : D → Option (List D)
  | .list ds => some (enumD ds)
  | _ => none
/-- the cells that a walk looks at stand as they stood -/
def stands (e0 : En) : List PV → En → Prop
  | [], _ => True
  | .sl i :: ps, e => e[i]? = e0[i]? ∧ stands e0 ps e
  | .r _ :: ps, e => stands e0 ps e
open Classical in
noncomputable def compL (turn : D → En → Rs (Option D)) (g : En → Prop) : List D → List D → En → Rs (List D)
  | [], acc, e => if g e then .ok acc e else .no
  | x :: xs, acc, e => if g e then (turn x e).bind fun r e => match r with
      | none => compL turn g xs acc e
      | some d => if acc.length < sizeLine then compL turn g xs (acc ++ [d]) e else .no
    else .no
/-- no exception leaves a comprehension -/
def Rs.noEx {α : Type} : Rs α → Rs α
  | .ex _ _ => .no
  | r => r
/-- the block's own variables forgotten; put back -/
def wipeE (e : En) : List Nat → En
  | [] => e
  | i :: is => (wipeE e is).set i none
def backE (e0 : En) : List Nat → En → En
  | [], e => e
  | i :: is, e => match e0[i]? with
    | some s => (backE e0 is e).set i s
    | none => backE e0 is e
def mayWipe (e : En) : List Nat → Bool
  | [] => true
  | i :: is => (match e[i]? with
    | some (some (.own _)) => false
    | some (some (.bor _)) => false
    | _ => true) && mayWipe e is
def lstSlot (e : En) (i : Nat) : Bool := match e[i]? with
  | some (some (.own (.lst _))) => true
  | some (some (.bor (.lst _))) => true
  | _ => false
def mutS (m : Mu) (i : Nat) (ds : List D) (e : En) : Rs PV := match e[i]? with
  | some (some (.own (.lst xs))) => (match muD m xs ds with
    | some (d, ys) => .ok (.r (.v d)) (e.set i (some (.own (.lst ys))))
    | none => .no)
  | some (some (.bor (.lst xs))) => (match muD m xs ds with
    | some (d, ys) => .ok (.r (.v d)) (e.set i (some (.bor (.lst ys))))
    | none => .no)
  | _ => .no
def boolOf : PV → Option Bool
  | .r (.v (.bool b)) => some b
  | _ => none
def intOf : PV → Option Int
  | .r (.v (.int b)) => some b
  | _ => none
def testB (r : Rs PV) (f : Bool → En → Rs α) : Rs α := r.bind fun x e => match boolOf x with
  | some b => f b e
  | none => .no
/-- a turn of a comprehension -/
def lcTurn (own : List Nat) (tg : Tg) (mc : En → Rs Bool) (me : En → Rs PV) (d : D) (e : En) : Rs (Option D) :=
  match putTg tg d e with
  | none => .no
  | some e => (mc e).noEx.bind fun k e => match k with
    | false => .ok none (wipeE e own)
    | true => (me e).noEx.bind fun y e => match y with
      | .r y => .ok (some y.d) (wipeE e own)
      | .sl _ => .no
end Ev
namespace Ev
open PySem L2
mutual
noncomputable def evM (cs : Nat → Option D) (FT : Nat → Fn) : CE → Bool → En → Rs PV
  | .var i, pk, e => rdVar i pk e
  | .mov i, _, e => mvVar i e
  | .con d, _, e => .ok (.r (.v d)) e
  | .glob k, _, e => match cs k with
    | some d => .ok (.r (.v d)) e
    | none => .no
  | .tup es, _, e => (evVs cs FT es e).bind fun ds e => if ds.length ≤ sizeLine then .ok (.r (.v (.tuple ds))) e else .no
  | .lst es, _, e => (evVs cs FT es e).bind fun ds e => if ds.length ≤ sizeLine then .ok (.r (.o (.lst ds))) e else .no
  | .bin op a b, _, e => (evM cs FT a true e).bind fun x e => (evM cs FT b true e).bind fun y e => app2 (bopD op) x y e
  | .neg a, _, e => (evM cs FT a false e).bind fun x e => match intOf x with
    | some i => .ok (.r (.v (.int (-i)))) e
    | none => .no
  | .cmp op a b, _, e => (evM cs FT a true e).bind fun x e => (evM cs FT b true e).bind fun y e => app2 (cmpR op) x y e
  | .chn o1 o2 a b c, _, e => (evM cs FT a true e).bind fun x e => (evM cs FT b true e).bind fun y e => testB (app2 (cmpR o1) x y e) fun k e =>
      match k with
      | false => .ok (.r (.v (.bool false))) e
      | true => (evM cs FT c true e).bind fun z e => app2 (cmpR o2) y z e
  | .not a, _, e => testB (evM cs FT a false e) fun k e => .ok (.r (.v (.bool (!k)))) e
  | .bo an es, _, e => evB cs FT an es e
  | .ite c a b, _, e => testB (evM cs FT c false e) fun k e => match k with
      | true => evM cs FT a false e
      | false => evM cs FT b false e
  | .idx a i, _, e => (evM cs FT a true e).bind fun x e => (evM cs FT i true e).bind fun y e => app2 idxD x y e
  | .slc a lo hi, _, e => (evM cs FT a true e).bind fun x e => (evO cs FT lo e).bind fun l e => (evO cs FT hi e).bind fun h e => app1 (fun d => slcD d l h) x e
  | .rev a, _, e => (evM cs FT a true e).bind fun x e => app1 revD x e
  | .bi f es, _, e => (evPs cs FT es e).bind fun xs e => appN (biD f) xs e
  | .sortedR a, _, e => (evM cs FT a true e).bind fun x e => app1 (fun d => biD .sortedR [d]) x e
  | .lstRange a, _, e => (evM cs FT a true e).bind fun x e => app1 (fun d => biD .listRange [d]) x e
  | .isi a t, _, e => (evM cs FT a true e).bind fun x e => app1 (isiD t) x e
  | .call k ms es, _, e => (evAs cs FT ms es e).bind fun as e => callS (FT k) as e
  | .mut m i es, _, e => match lstSlot e i with
    | false => .no
    | true => (evVs cs FT es e).bind fun ds e => mutS m i ds e
  | .lc own tg it c x, _, e => (evI cs FT true it e).bind fun p e => match mayWipe e own with
    | false => .no
    | true => (compL (fun d e => lcTurn own tg (fun e => evC cs FT c e) (fun e => evM cs FT x false e) d e) (stands (wipeE e own) p.1) p.2 [] (wipeE e own)).bind fun ds e' => .ok (.r (.o (.lst ds))) (backE e own e')
/-- values, handed on -/
noncomputable def evVs (cs : Nat → Option D) (FT : Nat → Fn) : CEs → En → Rs (List D)
  | .nil, e => .ok [] e
  | .cons x xs, e => (evM cs FT x false e).bind fun y e => match y with
    | .r y => (evVs cs FT xs e).bind fun ys e => .ok (y.d :: ys) e
    | .sl _ => .no
/-- operands, looked at -/
noncomputable def evPs (cs : Nat → Option D) (FT : Nat → Fn) : CEs → En → Rs (List PV)
  | .nil, e => .ok [] e
  | .cons x xs, e => (evM cs FT x true e).bind fun y e => (evPs cs FT xs e).bind fun ys e => .ok (y :: ys) e
/-- arguments of a def -/
noncomputable def evAs (cs : Nat → Option D) (FT : Nat → Fn) : List Bool → CEs → En → Rs (List Ar)
  | [], .nil, e => .ok [] e
  | false :: ms, .cons x xs, e => (evM cs FT x false e).bind fun y e => match y with
    | .r y => (evAs cs FT ms xs e).bind fun ys e => .ok (.d y.d :: ys) e
    | .sl _ => .no
  | true :: ms, .cons x xs, e => (evM cs FT x true e).bind fun y e => match y with
    | .sl i => (evAs cs FT ms xs e).bind fun ys e => .ok (.b i :: ys) e
    | .r _ => .no
  | _, _, _ => .no
noncomputable def evO (cs : Nat → Option D) (FT : Nat → Fn) : CEo → En → Rs (Option Int)
  | .none, e => .ok none e
  | .some x, e => (evM cs FT x false e).bind fun y e => match intOf y with
    | some i => .ok (some i) e
    | none => .no
noncomputable def evC (cs : Nat → Option D) (FT : Nat → Fn) : CEo → En → Rs Bool
  | .none, e => .ok true e
  | .some x, e => testB (evM cs FT x false e) fun k e => .ok k e
noncomputable def evB (cs : Nat → Option D) (FT : Nat → Fn) (an : Bool) : CEs → En → Rs PV
  | .nil, _ => .no
  | .cons x .nil, e => evM cs FT x false e
  | .cons x (.cons y ys), e => testB (evM cs FT x false e) fun k e => if k = an then evB cs FT an (.cons y ys) e else .ok (.r (.v (.bool k))) e
noncomputable def evI (cs : Nat → Option D) (FT : Nat → Fn) (pk : Bool) : IT → En → Rs (List PV × List D)
  | .val x, e => (evM cs FT x pk e).bind fun p e => match (p.get e).bind itemsD with
    | some ds => .ok ([p], ds) e
    | none => .no
  | .range1 a, e => (evM cs FT a pk e).bind fun p e => match (p.get e).bind range1D with
    | some ds => .ok ([], ds) e
    | none => .no
  | .range2 a b, e => (evM cs FT a pk e).bind fun p e => (evM cs FT b pk e).bind fun q e => match p.get e, q.get e with
    | some x, some y => (match range2D x y with
      | some ds => .ok ([], ds) e
      | none => .no)
    | _, _ => .no
  | .zip a b, e => (evM cs FT a pk e).bind fun p e => (evM cs FT b pk e).bind fun q e => match p.get e, q.get e with
    | some x, some y => (match zipItems x y with
      | some ds => .ok ([p, q], ds) e
      | none => .no)
    | _, _ => .no
  | .enum a, e => (evM cs FT a pk e).bind fun p e => match (p.get e).bind enumItems with
    | some ds => .ok ([p], ds) e
    | none => .no
end

/-! ### statements -/
inductive ST where
  | tg (t : Tg)
  | ix (i : Nat) (k : Int)
mutual
inductive CS where
  | expr (e : CE)
  | asg (i : Nat) (e : CE)
  | par (i j : Nat) (es : CEs)
  | asgTg (ts : Tgs) (e : CE)
  | asgT (ts : List ST) (e : CE)
  | set (i : Nat) (k e : CE)
  | iff (c : CE) (a b : CSs)
  | forr (tg : Tg) (it : IT) (b : CSs)
  | whl (c : CE) (b : CSs)
  | ret (e : CE)
  | retN
  | rais (x : Str)
  | pas | brk | cnt
inductive CSs where
  | nil
  | cons (s : CS) (ss : CSs)
end
inductive SR where
  | no
  | nx (e : En)
  | rt (r : R) (e : En)
  | bk (e : En)
  | ct (e : En)
  | ex (x : Xc) (e : En)
def Rs.thn {α : Type} (r : Rs α) (f : α → En → SR) : SR :=
  match r with
  | .no => .no
  | .ok a e => f a e
  | .ex x e => .ex x e
@[simp] theorem Rs.thn_no {α : Type} (f : α → En → SR) : Rs.thn (.no : Rs α) f = .no := rfl
@[simp] theorem Rs.thn_ok {α : Type} (a : α) (e : En) (f : α → En → SR) : Rs.thn (.ok a e) f = f a e := rfl
@[simp] theorem Rs.thn_ex {α : Type} (x : Xc) (e : En) (f : α → En → SR) : Rs.thn (.ex x e : Rs α) f = .ex x e := rfl
def putR (i : Nat) : R → En → Option En
  | .v d, e => match e[i]? with
    | some (some (.bor _)) => none
    | some _ => some (e.set i (some (.val d)))
    | none => none
  | .o c, e => match e[i]? with
    | some (some (.bor _)) => none
    | some _ => some (e.set i (some (.own c)))
    | none => none
/-- x[k] = d -/
def setIx (i : Nat) (k : D) (d : D) (e : En) : Option En :=
  match e[i]?, k with
  | some (some (.own (.lst xs))), .int k => (ixN xs.length k).map fun j => e.set i (some (.own (.lst (xs.set j d))))
  | some (some (.bor (.lst xs))), .int k => (ixN xs.length k).map fun j => e.set i (some (.bor (.lst (xs.set j d))))
  | _, _ => none
def putST : ST → D → En → Option En
  | .tg t, d, e => putTg t d e
  | .ix i k, d, e => setIx i (.int k) d e
def putSTs : List ST → List D → En → Option En
  | [], [], e => some e
  | t :: ts, d :: ds, e => match putST t d e with
    | some e => putSTs ts ds e
    | none => none
  | _, _, _ => none
def forL (turn : D → En → SR) : List D → En → SR
  | [], e => .nx e
  | x :: xs, e => match turn x e with
    | .nx e => forL turn xs e
    | .ct e => forL turn xs e
    | .bk e => .nx e
    | .rt r e => .rt r e
    | .ex x e => .ex x e
    | .no => .no
def whlL (test : En → Rs PV) (body : En → SR) : Nat → En → SR
  | 0, _ => .no
  | n + 1, e => (testB (test e) fun k e => .ok k e).thn fun k e => match k with
    | false => .nx e
    | true => match body e with
      | .nx e => whlL test body n e
      | .ct e => whlL test body n e
      | .bk e => .nx e
      | .rt r e => .rt r e
      | .ex x e => .ex x e
      | .no => .no
mutual
noncomputable def evS (cs : Nat → Option D) (FT : Nat → Fn) (fu : Nat) : CS → En → SR
  | .expr x, e => (evM cs FT x false e).thn fun _ e => .nx e
  | .asg i x, e => (evM cs FT x false e).thn fun y e => match y with
    | .r y => match putR i y e with
      | some e => .nx e
      | none => .no
    | .sl _ => .no
  | .par i j xs, e => (evVs cs FT xs e).thn fun ds e => match ds with
    | [d, d'] => match putR i (.v d) e with
      | some e => match putR j (.v d') e with
        | some e => .nx e
        | none => .no
      | none => .no
    | _ => .no
  | .asgTg ts x, e => (evM cs FT x false e).thn fun y e => match y with
    | .r y => match y.d with
      | .tuple ds => match putTgs ts ds e with
        | some e => .nx e
        | none => .no
      | _ => .no
    | .sl _ => .no
  | .asgT ts x, e => (evM cs FT x false e).thn fun y e => match y with
    | .r y => match y.d with
      | .tuple ds => match putSTs ts ds e with
        | some e => .nx e
        | none => .no
      | _ => .no
    | .sl _ => .no
  | .set i k x, e => (evM cs FT x false e).thn fun y e => match lstSlot e i, y with
    | true, .r y => (evM cs FT k false e).thn fun z e => match z with
      | .r z => match setIx i z.d y.d e with
        | some e => .nx e
        | none => .no
      | .sl _ => .no
    | _, _ => .no
  | .iff c a b, e => (testB (evM cs FT c false e) fun k e => .ok k e).thn fun k e => match k with
    | true => evSs cs FT fu a e
    | false => evSs cs FT fu b e
  | .forr tg it b, e => (evI cs FT false it e).thn fun p e => match p.1.all PV.isR with
    | false => .no
    | true => forL (fun d e => match putTg tg d e with
      | none => .no
      | some e => evSs cs FT fu b e) p.2 e
  | .whl c b, e => whlL (fun e => evM cs FT c false e) (fun e => evSs cs FT fu b e) fu e
  | .ret x, e => (evM cs FT x false e).thn fun y e => match y with
    | .r y => .rt y e
    | .sl _ => .no
  | .retN, e => .rt (.v .none) e
  | .rais x, e => .ex ⟨x, none⟩ e
  | .pas, e => .nx e
  | .brk, e => .bk e
  | .cnt, e => .ct e
noncomputable def evSs (cs : Nat → Option D) (FT : Nat → Fn) (fu : Nat) : CSs → En → SR
  | .nil, e => .nx e
  | .cons s ss, e => match evS cs FT fu s e with
    | .nx e => evSs cs FT fu ss e
    | .rt r e => .rt r e
    | .bk e => .bk e
    | .ct e => .ct e
    | .ex x e => .ex x e
    | .no => .no
end
def isArg : Option Slot → Bool
  | some (.val _) => true
  | some (.bor _) => true
  | _ => false
/-- the lent cells behind a def's body -/
def backArgs : En → En → Option En
  | [], _ => some []
  | some (.bor _) :: as, some (.bor c) :: e => (backArgs as e).map (some (.bor c) :: ·)
  | some (.bor _) :: _, _ => none
  | a :: as, _ :: e => (backArgs as e).map (a :: ·)
  | _ :: _, [] => none
noncomputable def runF (cs : Nat → Option D) (FT : Nat → Fn) (fu : Nat) (np n : Nat) (body : CSs) : Fn := ⟨np, fun args =>
  if args.length = np ∧ args.all isArg = true then
    match evSs cs FT fu body (args ++ List.replicate n none) with
    | .nx e => (match backArgs args e with
      | some t => .ok (.v .none) t
      | none => .no)
    | .rt r e => (match backArgs args e with
      | some t => .ok r t
      | none => .no)
    | .ex x e => (match backArgs args e with
      | some t => .ex x t
      | none => .no)
    | _ => .no
  else .no⟩
end Ev

/-! Ev, part U: sorted(a tuple of ints), either way round. -/
namespace TupSort
open PySem PyProof.Rows Srt SrtO SrtR
section
variable {pg : Program} {wd : World} {B : Around} {Ex : Value → Shared → Prop} {st : Shared}
/-- the heap with the items gathered -/
def gat (hp : Heap) (us : List Value) : Heap := (hp.push (seqObj "list" #[] 0)).update hp.objs.size (Obj.mapSeq (· ++ us.toArray))
theorem gather {t : Addr} {us : List Value} {P : List Value → Shared → Prop} (ht : st.heap.IsTuple t us.toArray) (hz : us.length ≤ sizeLine) (fin : P us { st with heap := gat st.heap us }) : wpAny (model pg wd) B (collect (.ref t)) P Ex st := by
  obtain ⟨ob, hob, hcl, m, hdt⟩ := ht
  have hnew : (st.heap.push (seqObj "list" #[] 0)).get? st.heap.objs.size = some (seqObj "list" #[] 0) := Heap.get?_push_size _ rfl
  have hold : (st.heap.push (seqObj "list" #[] 0)).get? t = some ob := Heap.get?_push_of_some _ hob
  unfold collect
  refine wpAny_bind (wpAny_runValue (codeAny_builtin PyProof.Rows.entry_proto_collect' ?_))
  show wpAny _ _ (do again (.builtin "list.__iadd__" ⟨[← newList [], .ref t], []⟩)) _ _ st
  refine wpAny_bind (wpAny_newList (wpAny_pure ⟨Code.quiet_builtin _ (by decide +kernel), codeAny_builtin PyProof.Rows.entry_list_iadd' ?_⟩))
  show wpAny _ _ (Builtin.List.listExtendWith (.ref st.heap.objs.size) (.ref t) (.ref st.heap.objs.size)) _ _ ({ st with heap := (st.heap).push (seqObj "list" #[] 0) })
  unfold Builtin.List.listExtendWith
  refine wpAny_bind (wpAny_typeOf (T := "tuple") ⟨ob, hold, hcl⟩ ?_)
  have hty : (Value.type "tuple" == Value.type "tuple") = true := by rfl
  rw [if_pos (by rw [hty, Bool.or_true])]
  refine wpAny_bind (listItems_at hold hdt (wpAny_bind (listItems_at (xs := #[]) (n := 0) hnew rfl ?_)))
  rw [if_neg (by simp)]
  have room : (#[] ++ us.toArray : Array Value).size ≤ sizeLine + 1 := by
    rw [Array.size_append, List.size_toArray]
    simp
    omega
  refine wpAny_bind (listUpdate_at (xs := #[]) (n := 0) hnew rfl ?_ (Nat.zero_le _) room)
  refine wpAny_pure ?_
  show wpAny (model pg wd) B (do let q ← load st.heap.objs.size; match q.data with | .seq ys _ => pure ys.toList | _ => unsupported "internal:collect") P Ex ({ st with heap := gat st.heap us })
  refine wpAny_bind (wpAny_load (get?_update_seq hnew _) ?_)
  show wpAny _ _ (pure ((#[] : Array Value) ++ us.toArray).toList) P Ex _
  have el : ((#[] : Array Value) ++ us.toArray).toList = us := by simp
  rw [el]
  exact wpAny_pure fin
theorem sorted_tk {t : Addr} {us : List Value} {r : Bool} {kws : List (Str × Value)} {lt : Value → Value → Bool} {P : Value → Shared → Prop} (same : ∀ c, Builtin.«list.sort» ⟨[.ref c], kws⟩ = Builtin.«list.sort» ⟨[.ref c], [(Str.ofString "reverse", .bool r)]⟩)
    (o1 : argsOk "sorted" ⟨[.ref t], kws⟩) (o2 : ∀ c, argsOk "list.sort" ⟨[c], kws⟩) (O : Swo lt) (ht : st.heap.IsTuple t us.toArray) (hz : us.length ≤ sizeLine)
    (hS : 2 ≤ us.length → ∀ (hp : Heap) (c : Addr), SortableO pg wd B.in1.in1 { st with heap := hp } c us lt)
    (fin : ∀ out : List Value, Srtd lt out → Stb lt out (if r = true then us.reverse else us) → P (.ref (st.heap.objs.size + 1)) { st with heap := sortedAll st.heap us (if r = true then out.toArray.reverse else out.toArray) }) :
    wpAny (model pg wd) B (call (.builtin "sorted") [.ref t] kws) P Ex st := by
  refine call_function_entry_kw PyProof.Rows.kind_sorted PyProof.Rows.plain_sorted PyProof.Rows.entry_sorted o1 ?_
  unfold Builtin.«sorted»
  refine wpAny_bind (m := checkCount "sorted" 1 1 _) (wpAny_pure (wpAny_bind (gather ht hz (wpAny_bind (wpAny_newList ?_ hz)))))
  have en : (gat st.heap us).objs.size = st.heap.objs.size + 1 := by unfold gat; rw [Heap.size_update, PyProof.Rows.size_push']
  have hnw : ((gat st.heap us).push (seqObj "list" us.toArray 0)).get? (st.heap.objs.size + 1) = some (seqObj "list" us.toArray 0) := by
    rw [← en]
    exact Heap.get?_push_size _ rfl
  show wpAny _ _ _ _ _ ({ st with heap := (gat st.heap us).push (seqObj "list" us.toArray 0) })
  rw [en]
  refine wpAny_bind (wpAny_holding (wpAny_call_entry_kw PyProof.Rows.slot_list_sort ⟨_, hnw, rfl⟩ PyProof.Rows.entry_list_sort ?_ (o2 _)))
  rw [same]
  exact list_sort_ordR O hnw hz (fun two => hS two _ _) fun out k1 k2 => ⟨_, rfl, wpAny_pure ⟨_, rfl, fin out k1 k2⟩⟩
theorem kw0 (c : Addr) : Builtin.«list.sort» ⟨[.ref c], []⟩ = Builtin.«list.sort» ⟨[.ref c], [(Str.ofString "reverse", .bool false)]⟩ := by
  rw [list_sort_rev]
  first | rfl | kernel_rfl
end
end TupSort
namespace Ev
open PySem L2
section
variable {X : Cx}
theorem tup_run {r : Bool} {kws : List (Str × Value)} {pins : List (Addr × Obj)} {s : Shared} {σ : St} {H : Hp} {t : Addr} {ns : List Int} {Q : VK} (I : Inv X pins σ H s) (ht : SqT X.K H t (ns.map V.int))
    (same : ∀ c, Builtin.«list.sort» ⟨[.ref c], kws⟩ = Builtin.«list.sort» ⟨[.ref c], [(Str.ofString "reverse", .bool r)]⟩) (o1 : argsOk "sorted" ⟨[.ref t], kws⟩) (o2 : ∀ c, argsOk "list.sort" ⟨[c], kws⟩)
    (q : ∀ (ms : List Int) (p : Addr), ms.Perm ns → OrdB r ms → H p = none → Q (.ref p) (upd H p (.lst (ms.map V.int)))) : wpAny (model X.prog X.w) X.A (call (.builtin "sorted") [.ref t] kws) (EP X pins σ Q) X.xe s := by
  obtain ⟨its, rv, pl, hz⟩ := I.tuple ht
  have ia := rv.ints
  have hz' : its.length ≤ sizeLine := by rw [← rv.length]; exact hz
  refine TupSort.sorted_tk same o1 o2 SrtO.swo_int (show s.heap.IsTuple t its.toArray from pl) hz' (fun two hp c => SrtO.ints_sortable ia two) fun out k1 k2 => ?_
  obtain ⟨ms, m1, m2, m3⟩ := SrtR.ints_outR ia k1 k2
  obtain ⟨ep, he⟩ := PyProof.Rows.sortedAll_at s.heap its (if r = true then out.toArray.reverse else out.toArray)
  have hm : (ms.map V.int).length ≤ sizeLine := by
    rw [List.length_map, m2.length_eq, ← List.length_map (f := V.int)]
    exact hz
  have ea : ((if r = true then out.toArray.reverse else out.toArray).toList).toArray = (if r = true then out.toArray.reverse else out.toArray) := Array.toArray_toList
  have ho : ObjOk X.prog X.w (upd H (s.heap.objs.size + 1) (.lst (ms.map V.int))) (PyProof.Rows.sortedAll s.heap its (if r = true then out.toArray.reverse else out.toArray)) (s.heap.objs.size + 1) (.lst (ms.map V.int)) := ⟨hm, _, ep, vals_of_ints m1, by rw [ea]; exact he⟩
  have fr : H (s.heap.objs.size + 1) = none := I.hok.fresh (Nat.le_succ _)
  exact ⟨.ref (s.heap.objs.size + 1), _, I.laid (t' := s.toks) (fun b o e => PyProof.Rows.sortedAll_old e) (Nat.le_succ _) ho, rfl, q ms _ m2 m3 fr⟩
theorem cr_tupS : CallR X (.builtin "sorted") (fun vs H Q => ∃ (a : Addr) (ns : List Int), vs = [V.ref a] ∧ SqT X.K H a (ns.map V.int) ∧
    ∀ (ms : List Int) (p : Addr), ms.Perm ns → ms.Pairwise (· ≤ ·) → H p = none → Q (.ref p) (upd H p (.lst (ms.map V.int)))) := by
  intro pins s σ H vs us Q I rv h
  obtain ⟨a, ns, rfl, ht, q⟩ := h
  rw [Vals.ref1 rv]
  exact tup_run (r := false) I ht TupSort.kw0 (PyProof.Rows.args_sorted1 _) (fun c => PyProof.Rows.args_list_sort c) fun ms p h1 h2 h3 => q ms p h1 h2 h3
theorem cr_tupR : CallRK X (.builtin "sorted") [Str.ofString "reverse"] (fun vs zs H Q => ∃ (a : Addr) (ns : List Int), vs = [V.ref a] ∧ zs = [.bl true] ∧ SqT X.K H a (ns.map V.int) ∧
    ∀ (ms : List Int) (p : Addr), ms.Perm ns → ms.Pairwise (· ≥ ·) → H p = none → Q (.ref p) (upd H p (.lst (ms.map V.int)))) := by
  intro pins s σ H vs zs us ws Q I rv rz h
  obtain ⟨a, ns, rfl, rfl, ht, q⟩ := h
  obtain rfl := Vals.ref1 rv
  obtain ⟨w1, rfl, e1⟩ := vals1 rz
  obtain rfl : w1 = Value.bool true := e1
  exact tup_run (r := true) I ht (fun _ => rfl) (PyProof.Rows.args_sorted_rev _ _) (fun c => PyProof.Rows.args_list_sort_rev c _) fun ms p h1 h2 h3 => q ms p h1 h2 h3
end
end Ev

/-! Ev, part C: readings by the evaluator; operations by values. -/
namespace Ev
open PySem L2

section
variable (K : PySem.W.Frag) (mg : Str → Option Value)
/-- an exception as it flies -/
def XcR (A : AS) (H : Hp) (x : Xc) (cls : Value) (d : Option Addr) : Prop :=
  ∃ C, mg x.c = some (.ref C) ∧ cls = .ref C ∧ match x.row with
    | none => d = none
    | some r => ∃ dx v, d = some dx ∧ H dx = some (.xd [("row", v)]) ∧ DpA K A H v r
/-- behind an expression: from (F, H) to (F', H') -/
def Out (W G : AS) (B : Nat → AS × AS) (F : Nat → AS) (H : Hp) (σ : St) (F' : Nat → AS) (H' : Hp) (e' : En) (v : V) : PV → Prop
  | .sl i => Rel K W G B F' H' σ e' ∧ Stp W F H W F' H' ∧ σ[i]? = some (some v)
  | .r (.v d) => Rel K W G B F' H' σ e' ∧ Stp W F H W F' H' ∧ DpA K (AV W F') H' v d
  | .r (.o c) => ∃ a fp, v = .ref a ∧ fp a ∧ (∀ b, fp b → ¬ G b ∧ (H b = none ∨ ∃ i, F i b)) ∧ Rel K (plus W fp) G B F' H' σ e' ∧
      Stp W F H (plus W fp) F' H' ∧ CelAt K (AV (plus W fp) F') H' a c
def XOut (W G : AS) (B : Nat → AS × AS) (F : Nat → AS) (H : Hp) (σ : St) (F' : Nat → AS) (H' : Hp) (e' : En) (x : Xc) (cls : Value) (d : Option Addr) : Prop :=
  Rel K W G B F' H' σ e' ∧ Stp W F H W F' H' ∧ XcR K mg (AV W F') H' x cls d
/-- operands, values: what they are known by -/
def OutOf {α β : Type} (O : AS → Hp → St → β → α → Prop) (W G : AS) (B : Nat → AS × AS) (F : Nat → AS) (H : Hp) (σ : St) (F' : Nat → AS) (H' : Hp) (e' : En) (b : β) (a : α) : Prop :=
  Rel K W G B F' H' σ e' ∧ Stp W F H W F' H' ∧ O (AV W F') H' σ b a
def Res {α β : Type} (XW : WX) (O : (Nat → AS) → Hp → (Nat → AS) → Hp → En → β → α → Prop) (W G : AS) (B : Nat → AS × AS) (F : Nat → AS) (H : Hp) (σ : St) (r : Rs α) (Q : β → Hp → Prop) : Prop :=
  match r with
  | .no => False
  | .ok a e' => ∀ b H' F', O F H F' H' e' b a → Q b H'
  | .ex x e' => ∀ cls d H' F', XOut K mg W G B F H σ F' H' e' x cls d → XW cls d σ H'
end
section
variable {K : PySem.W.Frag} {mg : Str → Option Value} {W G : AS} {B : Nat → AS × AS} {F F1 F' : Nat → AS} {H H1 H' : Hp} {σ : St} {e e1 e' : En} {v : V} {pv : PV} {XW : WX}
theorem plus_sub {W fp : AS} : ∀ b, AV W F b → AV (plus W fp) F b := fun b z => z.elim (fun z => .inl (.inl z)) .inr
theorem Out.opv (o : Out K W G B F H σ F' H' e' v pv) (r0 : Rel K W G B F H σ e) : OutOf K (Opv K) W G B F H σ F' H' e' v pv := by
  cases pv with
  | sl i => exact o
  | r x =>
    cases x with
    | v d => exact o
    | o c =>
      obtain ⟨a, fp, rfl, h1, h2, h3, h4, h5⟩ := o
      refine ⟨h3.fewer fun b z => .inl z, h4.weak plus_sub, ?_⟩
      refine h5.dat (fun z => ?_) plus_sub
      rcases z with z | ⟨i, z⟩
      · rcases (h2 a h1).2 with w | ⟨j, w⟩
        · exact r0.wt a z w
        · exact r0.fw j a w z
      · exact h3.fw i a z (.inr h1)
theorem Out.rebase (r0 : Rel K W G B F H σ e) (r1 : Rel K W G B F1 H1 σ e1) (st : Stp W F H W F1 H1) (o : Out K W G B F1 H1 σ F' H' e' v pv) : Out K W G B F H σ F' H' e' v pv := by
  cases pv with
  | sl i => exact ⟨o.1, st.trans o.2.1, o.2.2⟩
  | r x =>
    cases x with
    | v d => exact ⟨o.1, st.trans o.2.1, o.2.2⟩
    | o c =>
      obtain ⟨a, fp, rfl, h1, h2, h3, h4, h5⟩ := o
      refine ⟨a, fp, rfl, h1, fun b z => ⟨(h2 b z).1, ?_⟩, h3, st.trans h4, h5⟩
      by_cases q : H b = none
      · exact .inl q
      · rcases (h2 b z).2 with w | ⟨i, w⟩
        · exact absurd w (st.trk b q)
        · rcases st.sub b (.inr ⟨i, w⟩) q with u | u
          · exact absurd u (r1.fw i b w)
          · exact .inr u
end
end Ev

/-! ### operations by values -/
namespace Ev
open PySem L2
def POut (K : PySem.W.Frag) (A : AS) (H : Hp) (v : V) (H' : Hp) : R → Prop
  | .v d => Same H H' ∧ DpA K A H' v d
  | .o c => ∃ p, v = .ref p ∧ H p = none ∧ Same H H' ∧ CelAt K (plus A fun b => b = p) H' p c
def rD (K : PySem.W.Frag) (f : D → D → Option R) : R2 := fun x y H Q =>
  ∃ A d e r, (∀ b, A b → H b ≠ none) ∧ PK K A H x d ∧ PK K A H y e ∧ f d e = some r ∧ ∀ v H', POut K A H v H' r → Q v H'
section
variable {K : PySem.W.Frag} {A A' : AS} {H H' : Hp} {xs : List V} {ds : List D} {v : V} {d : D} {p : Addr}
theorem step_new (n : H p = none) (o : HO) (ha : ∀ b, A b → H b ≠ none) : Step A H (plus A fun b => b = p) (upd H p o) :=
  ⟨fun b u q _ => same_upd n b u q, fun b q => by
    cases z : H b with
    | none => exact absurd z q
    | some u => rw [same_upd n b u z]; simp, fun b z q => by
    rcases z with z | z
    · exact z
    · subst z; exact absurd n q⟩
theorem pout_same (h : DpA K A H v d) : POut K A H v H (.v d) := ⟨Same.refl H, h⟩
theorem pout_tup (n : H p = none) (ha : ∀ b, A b → H b ≠ none) (h : DpAs K A H xs ds) : POut K A H (.ref p) (upd H p (.tup xs)) (.v (.tuple ds)) :=
  ⟨same_upd n, .tup (.inl ⟨.of upd_same, fun z => ha p z n⟩) ((h.step (step_new n _ ha)).fewer fun b z => .inl z)⟩
theorem pout_lst (n : H p = none) (ha : ∀ b, A b → H b ≠ none) (h : DpAs K A H xs ds) : POut K A H (.ref p) (upd H p (.lst xs)) (.o (.lst ds)) :=
  ⟨p, rfl, n, same_upd n, xs, upd_same, h.step (step_new n _ ha)⟩
end
section
variable {X : Cx}
/-- list + list, both that are read -/
theorem op_catR : OpR X (binaryOp .Add) (fun x y H Q => ∃ l b xs zs, x = .ref l ∧ y = .ref b ∧ Rd H l (.lst xs) ∧ Rd H b (.lst zs) ∧ xs.length + zs.length ≤ sizeLine ∧ ∀ p, H p = none → Q (.ref p) (upd H p (.lst (xs ++ zs)))) := by
  intro pins s σ H x y v u Q I rx ry h
  obtain ⟨l, b, xs, zs, rfl, rfl, hl, hb, hz, q⟩ := h
  cases rx
  cases ry
  obtain ⟨_, its, n, r, e⟩ := hl.ok I.hok
  obtain ⟨_, its2, n2, r2, e2⟩ := hb.ok I.hok
  have z1 := r.length
  have z2 := r2.length
  refine PySem.P.add_list e e2 ?_ (by rw [List.size_toArray, List.size_toArray] <;> omega)
  rw [show its.toArray ++ its2.toArray = (its ++ its2).toArray by simp]
  exact ⟨.ref _, _, I.lnew (t' := s.toks) (r.append r2) (by rw [List.length_append] <;> omega), rfl, q _ I.fresh⟩
theorem flat_rep {K : PySem.W.Frag} {A : AS} {H : Hp} {xs : List V} {ds : List D} (h : DpAs K A H xs ds) : ∀ n : Nat, DpAs K A H (List.replicate n xs).flatten (List.replicate n ds).flatten
  | 0 => .nil
  | n + 1 => by
    rw [List.replicate_succ, List.replicate_succ, List.flatten_cons, List.flatten_cons]
    exact h.append (flat_rep h n)
theorem DpAs.nil_iff {K : PySem.W.Frag} {A : AS} {H : Hp} {xs : List V} {ds : List D} (h : DpAs K A H xs ds) : xs = [] ↔ ds = [] := by
  cases h with
  | nil => simp
  | cons _ _ => simp
theorem mulw_ok {i j : Int} (h : (i.natAbs < 2 ^ 200 ∧ j.natAbs < 2 ^ 200) ∨ i.natAbs.log2 + j.natAbs.log2 < 1000000) : CMulW i j := by
  rcases h with ⟨h1, h2⟩ | h
  · exact wide_mul h1 h2 (by decide) (by decide) (by decide)
  · exact h
theorem divw_ok {i j : Int} (h : 0 < j ∧ (j < 2 ^ 200 ∨ j.natAbs.log2 < 9000)) : CDivW i j := by
  rcases h with ⟨h0, h1 | h1⟩
  · refine wide_div (b := 200) h0 ?_ (by decide) (by decide)
    have : (2 : Int) ^ 200 = ((2 ^ 200 : Nat) : Int) := by norm_cast
    rw [this] at h1
    omega
  · exact ⟨h0, h1⟩
theorem op_catD : OpR X (binaryOp .Add) (rD X.K (bopD .Add)) := by
  intro pins s σ H x y v u Q I rx ry h
  obtain ⟨A, d, e, r, ha, px, py, h, q⟩ := h
  unfold bopD at h
  split at h
  · rename_i i j _
    cases h
    cases px.int
    cases py.int
    exact op_add pins s σ H _ _ v u Q I rx ry ⟨i, j, rfl, rfl, q _ _ (pout_same (.int _))⟩
  · rename_i i j _
    split at h
    · rename_i hz
      cases h
      cases px.str
      cases py.str
      exact op_add_str pins s σ H _ _ v u Q I rx ry ⟨i, j, rfl, rfl, hz, q _ _ (pout_same (.str _))⟩
    · cases h
  · split at h
    · rename_i hz
      cases h
      obtain ⟨a, xs, rfl, h1, h2⟩ := px.list
      obtain ⟨b, ys, rfl, h3, h4⟩ := py.list
      exact op_catR pins s σ H _ _ v u Q I rx ry ⟨a, b, xs, ys, rfl, rfl, h1, h3, by rw [h2.length, h4.length]; exact hz, fun p n => q _ _ (pout_lst n ha (h2.append h4))⟩
    · cases h
  · split at h
    · rename_i hz
      cases h
      obtain ⟨a, xs, rfl, h1, h2⟩ := px.tup
      obtain ⟨b, ys, rfl, h3, h4⟩ := py.tup
      refine op_catA pins s σ H _ _ v u Q I rx ry ⟨a, b, xs, ys, rfl, rfl, h1.sq, h3.sq, by rw [h2.length, h4.length]; exact hz, fun z => ?_, fun _ z => ?_, fun _ _ p n => q _ _ (pout_tup n ha (h2.append h4))⟩
      · have := h2.nil_iff.mp z
        subst this
        rw [List.nil_append] at q
        exact q _ _ (pout_same (.tup h3 h4))
      · have := h4.nil_iff.mp z
        subst this
        rw [List.append_nil] at q
        exact q _ _ (pout_same (.tup h1 h2))
    · cases h
  all_goals first | (cases h; done) | contradiction
theorem op_subD : OpR X (binaryOp .Sub) (rD X.K (bopD .Sub)) := by
  intro pins s σ H x y v u Q I rx ry h
  obtain ⟨A, d, e, r, ha, px, py, h, q⟩ := h
  unfold bopD at h
  split at h
  all_goals first | (cases h; done) | contradiction | skip
  rename_i i j _
  cases h
  cases px.int
  cases py.int
  exact op_sub pins s σ H _ _ v u Q I rx ry ⟨i, j, rfl, rfl, q _ _ (pout_same (.int _))⟩
theorem op_fdivD : OpR X (binaryOp .FloorDiv) (rD X.K (bopD .FloorDiv)) := by
  intro pins s σ H x y v u Q I rx ry h
  obtain ⟨A, d, e, r, ha, px, py, h, q⟩ := h
  unfold bopD at h
  split at h
  all_goals first | (cases h; done) | contradiction | skip
  rename_i i j _
  split at h
  · rename_i hz
    cases h
    cases px.int
    cases py.int
    exact op_fdivW pins s σ H _ _ v u Q I rx ry ⟨i, j, rfl, rfl, divw_ok hz, q _ _ (pout_same (.int _))⟩
  · cases h
theorem op_modD : OpR X (binaryOp .Mod) (rD X.K (bopD .Mod)) := by
  intro pins s σ H x y v u Q I rx ry h
  obtain ⟨A, d, e, r, ha, px, py, h, q⟩ := h
  unfold bopD at h
  split at h
  all_goals first | (cases h; done) | contradiction | skip
  rename_i i j _
  split at h
  · rename_i hz
    cases h
    cases px.int
    cases py.int
    exact op_mod pins s σ H _ _ v u Q I rx ry ⟨i, j, rfl, rfl, hz, q _ _ (pout_same (.int _))⟩
  · cases h
theorem op_powD : OpR X (binaryOp .Pow) (rD X.K (bopD .Pow)) := by
  intro pins s σ H x y v u Q I rx ry h
  obtain ⟨A, d, e, r, ha, px, py, h, q⟩ := h
  unfold bopD at h
  split at h
  all_goals first | (cases h; done) | contradiction | skip
  rename_i i j _
  split at h
  · rename_i hz
    cases h
    cases px.int
    cases py.int
    exact op_pow pins s σ H _ _ v u Q I rx ry ⟨i, j, rfl, rfl, hz, q _ _ (pout_same (.int _))⟩
  · cases h
end
end Ev
namespace Ev
open PySem L2
section
variable {X : Cx}
theorem op_mulD : OpR X (binaryOp .Mult) (rD X.K (bopD .Mult)) := by
  intro pins s σ H x y v u Q I rx ry h
  obtain ⟨A, d, e, r, ha, px, py, h, q⟩ := h
  unfold bopD at h
  split at h
  all_goals first | (cases h; done) | contradiction | skip
  · rename_i i j _
    split at h
    · rename_i hz
      cases h
      cases px.int
      cases py.int
      exact op_mulW pins s σ H _ _ v u Q I rx ry ⟨i, j, rfl, rfl, mulw_ok hz, q _ _ (pout_same (.int _))⟩
    · cases h
  · rename_i ds k _
    split at h
    · rename_i hz
      cases h
      obtain ⟨a, xs, rfl, h1, h2⟩ := px.tup
      cases py.int
      exact op_repT pins s σ H _ _ v u Q I rx ry ⟨a, k, xs, rfl, rfl, h1.sq, fun e => hz.1 (h2.nil_iff.mp e), hz.2.1, hz.2.2.1, by rw [h2.length]; exact hz.2.2.2, fun p n => q _ _ (pout_tup n ha (flat_rep h2 _))⟩
    · cases h
theorem op_binD (op : Operator) : OpR X (binaryOp op) (rD X.K (bopD op)) := by
  cases op with
  | Add => exact op_catD
  | Sub => exact op_subD
  | Mult => exact op_mulD
  | FloorDiv => exact op_fdivD
  | Mod => exact op_modD
  | Pow => exact op_powD
  | _ =>
    intro pins s σ H x y v u Q I rx ry h
    obtain ⟨A, d, e, r, ha, px, py, h, q⟩ := h
    cases h
/-! comparisons -/
theorem eqD_some {d e : D} {b : Bool} (h : eqD d e = some b) : SeqAt.shaped d = true ∧ SeqAt.shaped e = true ∧ b = PyData.eqv d e := by
  unfold eqD at h
  split at h
  · rename_i z
    cases h
    exact ⟨z.1, z.2, rfl⟩
  · cases h
theorem intsD_map : ∀ {ds : List D} {ns : List Int}, intsD ds = some ns → ds = ns.map PyData.int
  | [], ns, h => by cases h; rfl
  | d :: ds, ns, h => by
    cases d <;> first | (simp [intsD] at h; done) | skip
    rename_i i
    simp only [intsD, Option.map_eq_some_iff] at h
    obtain ⟨ms, h1, h2⟩ := h
    subst h2
    rw [intsD_map h1]
    rfl
theorem boolsD_map : ∀ {ds : List D} {ns : List Bool}, boolsD ds = some ns → ds = ns.map PyData.bool
  | [], ns, h => by cases h; rfl
  | d :: ds, ns, h => by
    cases d <;> first | (simp [boolsD] at h; done) | skip
    rename_i i
    simp only [boolsD, Option.map_eq_some_iff] at h
    obtain ⟨ms, h1, h2⟩ := h
    subst h2
    rw [boolsD_map h1]
    rfl
@[simp] theorem intsD_of (ns : List Int) : intsD (ns.map PyData.int) = some ns := by
  induction ns with
  | nil => rfl
  | cons n ns ih => simp [intsD, ih]
@[simp] theorem boolsD_of (ns : List Bool) : boolsD (ns.map PyData.bool) = some ns := by
  induction ns with
  | nil => rfl
  | cons n ns ih => simp [boolsD, ih]
theorem PK.ints {K : PySem.W.Frag} {A : AS} {H : Hp} {v : V} {ds : List D} {ns : List Int} (h : PK K A H v (.tuple ds)) (e : intsD ds = some ns) : ∃ a, v = .ref a ∧ SqT K H a (ns.map V.int) := by
  obtain ⟨a, xs, rfl, h1, h2⟩ := h.tup
  rw [intsD_map e] at h2
  cases h2.ints
  exact ⟨a, rfl, h1.sq⟩
theorem PK.intsL {K : PySem.W.Frag} {A : AS} {H : Hp} {v : V} {ds : List D} {ns : List Int} (h : PK K A H v (.list ds)) (e : intsD ds = some ns) : ∃ a, v = .ref a ∧ SqL K H a (ns.map V.int) := by
  obtain ⟨a, xs, rfl, h1, h2⟩ := h.list
  rw [intsD_map e] at h2
  cases h2.ints
  exact ⟨a, rfl, .inl h1⟩
theorem PK.boolsL {K : PySem.W.Frag} {A : AS} {H : Hp} {v : V} {ds : List D} {ns : List Bool} (h : PK K A H v (.list ds)) (e : boolsD ds = some ns) : ∃ a, v = .ref a ∧ SqL K H a (ns.map V.bl) := by
  obtain ⟨a, xs, rfl, h1, h2⟩ := h.list
  rw [boolsD_map e] at h2
  cases h2.bools
  exact ⟨a, rfl, .inl h1⟩
theorem PK.isNone {K : PySem.W.Frag} {A : AS} {H : Hp} {v : V} {d : D} (h : PK K A H v d) : decide (v = .non) = isNoneD d := by
  rcases h with h | ⟨a, c, h1, h2, h3⟩
  · cases h <;> simp [isNoneD]
  · subst h1 h2
    cases c <;> simp [isNoneD, Cel.d]
theorem op_cmpD (hu : X.A.units + 65 < cLine) (op : CmpOp) : OpR X (compareOp op) (rD X.K (cmpR op)) := by
  intro pins s σ H x y v u Q I rx ry h
  obtain ⟨A, d, e, r, ha, px, py, h, q⟩ := h
  obtain ⟨b, h', hr⟩ := Option.map_eq_some_iff.mp h
  clear h
  subst hr
  have h := h'
  clear h'
  have q : Q (.bl b) H := q _ _ (pout_same (.bl b))
  have hu64 : X.A.units + 64 < cLine := by omega
  have hu0 : X.A.units < cLine := by omega
  unfold cmpD at h
  split at h
  · obtain ⟨h1, h2, rfl⟩ := eqD_some h
    exact op_eqD hu64 pins s σ H _ _ v u Q I rx ry ⟨d, e, px.dp (SeqAt.canLay_of_shaped h1), py.dp (SeqAt.canLay_of_shaped h2), h1, h2, q⟩
  · obtain ⟨c, h', e1⟩ := Option.map_eq_some_iff.mp h
    clear h
    subst e1
    have h := h'
    clear h'
    obtain ⟨h1, h2, rfl⟩ := eqD_some h
    exact op_neD hu64 pins s σ H _ _ v u Q I rx ry ⟨d, e, px.dp (SeqAt.canLay_of_shaped h1), py.dp (SeqAt.canLay_of_shaped h2), h1, h2, q⟩
  · unfold ltD at h
    split at h
    · rename_i i j
      cases h
      cases px.int
      cases py.int
      exact op_lt pins s σ H _ _ v u Q I rx ry ⟨i, j, rfl, rfl, q⟩
    · split at h
      · rename_i ns ms h1 h2
        cases h
        obtain ⟨a, rfl, z1⟩ := px.ints h1
        obtain ⟨b, rfl, z2⟩ := py.ints h2
        exact op_ltT hu0 pins s σ H _ _ v u Q I rx ry ⟨a, b, ns, ms, rfl, rfl, z1, z2, q⟩
      · cases h
    · cases h
  · rename_i i j
    cases h
    cases px.int
    cases py.int
    exact op_gt pins s σ H _ _ v u Q I rx ry ⟨i, j, rfl, rfl, q⟩
  · rename_i i j
    cases h
    cases px.int
    cases py.int
    exact op_le pins s σ H _ _ v u Q I rx ry ⟨i, j, rfl, rfl, q⟩
  · rename_i i j
    cases h
    cases px.int
    cases py.int
    exact op_ge pins s σ H _ _ v u Q I rx ry ⟨i, j, rfl, rfl, q⟩
  · cases h
    cases py.none
    exact op_isN pins s σ H _ _ v u Q I rx ry ⟨rfl, by rw [px.isNone]; exact q⟩
  · cases h
    cases py.none
    exact op_notN pins s σ H _ _ v u Q I rx ry ⟨rfl, by rw [px.isNone]; exact q⟩
  · rename_i i j
    cases h
    cases px.bool
    cases py.bool
    refine op_is_bl pins s σ H _ _ v u Q I rx ry ⟨i, j, rfl, rfl, ?_⟩
    rw [show decide (i = j) = (i == j) by cases i <;> cases j <;> rfl]
    exact q
  · rename_i i j
    cases h
    cases px.bool
    cases py.bool
    refine op_isnot_bl pins s σ H _ _ v u Q I rx ry ⟨i, j, rfl, rfl, ?_⟩
    rw [show (!decide (i = j)) = (i != j) by cases i <;> cases j <;> rfl]
    exact q
  · unfold inD at h
    split at h
    · split at h
      · rename_i x' _
        cases h
        cases px.str
        cases py.str
        exact op_in_str pins s σ H _ _ v u Q I rx ry ⟨_, _, rfl, rfl, q⟩
      · cases h
    · split at h
      · rename_i z
        cases h
        exact op_inD hu pins s σ H _ _ v u Q I rx ry ⟨_, _, px.dp (SeqAt.canLay_of_shaped z.1), py.dp (SeqAt.canLay_of_shaped z.2), z.1, z.2, q⟩
      · cases h
    · cases h
  · obtain ⟨c, h', e1⟩ := Option.map_eq_some_iff.mp h
    clear h
    subst e1
    have h := h'
    clear h'
    unfold inD at h
    split at h
    · split at h
      · rename_i x' _
        cases h
        cases px.str
        cases py.str
        exact op_notin_str pins s σ H _ _ v u Q I rx ry ⟨_, _, rfl, rfl, q⟩
      · cases h
    · split at h
      · rename_i z
        cases h
        exact op_notInD hu pins s σ H _ _ v u Q I rx ry ⟨_, _, px.dp (SeqAt.canLay_of_shaped z.1), py.dp (SeqAt.canLay_of_shaped z.2), z.1, z.2, q⟩
      · cases h
    · cases h
  · cases h
end
end Ev

/-! Ev, part D: more operations by values: items, slices, built-in functions, isinstance. -/
namespace Ev
open PySem L2
section
variable {K : PySem.W.Frag} {A : AS} {H : Hp}
theorem DpAs.at {xs : List V} {ds : List D} {i : Int} {d : D} (h : DpAs K A H xs ds) (e : atI ds i = some d) : ∃ v, atI xs i = some v ∧ DpA K A H v d := by
  unfold atI at e ⊢
  rw [← h.length] at e
  cases q : ixN xs.length i with
  | none => rw [q] at e; cases e
  | some j =>
    rw [q] at e
    exact h.get e
theorem DpAs.cut {xs : List V} {ds : List D} (h : DpAs K A H xs ds) (lo hi : Option Int) : DpAs K A H (cutV xs lo hi) (cutD ds lo hi) := by
  unfold cutV cutD
  rw [h.length]
  exact (h.drop _).take _
/-- values called with, looked at -/
def rN (K : PySem.W.Frag) (f : List D → Option R) : List V → Hp → VK → Prop := fun vs H Q =>
  ∃ A ds r, (∀ b, A b → H b ≠ none) ∧ Paired (PK K A H) vs ds ∧ f ds = some r ∧ ∀ v H', POut K A H v H' r → Q v H'
theorem two_fits : (2 : Nat) ≤ sizeLine := by decide
end
section
variable {X : Cx}
theorem ix_D : IxR X (rD X.K idxD) := by
  intro value slice pins s σ H x y v u Q I rx ry h hs
  obtain ⟨A, d, e, r, ha, px, py, h, q⟩ := h
  unfold idxD at h
  split at h
  · rename_i ds i
    obtain ⟨z, h1, rfl⟩ := Option.map_eq_some_iff.mp h
    obtain ⟨a, xs, rfl, h2, h3⟩ := px.list
    cases py.int
    obtain ⟨w, h4, h5⟩ := h3.at h1
    exact ix_list value slice pins s σ H _ _ v u Q I rx ry ⟨a, xs, i, w, rfl, rfl, .inl h2, h4, q _ _ (pout_same h5)⟩ hs
  · rename_i ds i
    obtain ⟨z, h1, rfl⟩ := Option.map_eq_some_iff.mp h
    obtain ⟨a, xs, rfl, h2, h3⟩ := px.tup
    cases py.int
    obtain ⟨w, h4, h5⟩ := h3.at h1
    exact ix_tup value slice pins s σ H _ _ v u Q I rx ry ⟨a, xs, i, w, rfl, rfl, h2.sq, h4, q _ _ (pout_same h5)⟩ hs
  · rename_i ds i
    obtain ⟨z, h1, rfl⟩ := Option.map_eq_some_iff.mp h
    obtain ⟨a, xs, rfl, h2, h3⟩ := px.rol
    cases py.int
    obtain ⟨w, h4, h5⟩ := h3.at h1
    exact ix_list value slice pins s σ H _ _ v u Q I rx ry ⟨a, xs, i, w, rfl, rfl, h2, h4, q _ _ (pout_same h5)⟩ hs
  · rename_i z i
    split at h
    · rename_i hz
      obtain ⟨c, h1, rfl⟩ := Option.map_eq_some_iff.mp h
      cases px.str
      cases py.int
      exact ix_str value slice pins s σ H _ _ v u Q I rx ry ⟨z, i, c, rfl, rfl, hz, h1, q _ _ (pout_same (.str _))⟩ hs
    · cases h
  · cases h
theorem sl_D : SlR X (fun x lo hi H Q => ∃ A d r, (∀ b, A b → H b ≠ none) ∧ PK X.K A H x d ∧ slcD d lo hi = some r ∧ ∀ v H', POut X.K A H v H' r → Q v H') := by
  intro pins s σ H x v vl vu lo hi sl Q I rx hs pl pu h
  obtain ⟨A, d, r, ha, px, h, q⟩ := h
  unfold slcD at h
  split at h
  · cases h
    obtain ⟨a, xs, rfl, h2, h3⟩ := px.list
    exact sl_list pins s σ H _ v vl vu lo hi sl Q I rx hs pl pu ⟨a, xs, rfl, .inl h2, fun p n => q _ _ (pout_lst n ha (h3.cut lo hi))⟩
  · rename_i ds
    cases h
    obtain ⟨a, xs, rfl, h2, h3⟩ := px.tup
    refine sl_tupA pins s σ H _ v vl vu lo hi sl Q I rx hs pl pu ⟨a, xs, rfl, h2.sq, fun z => ?_, fun _ p n => q _ _ (pout_tup n ha (h3.cut lo hi))⟩
    have e : cutD ds lo hi = ds := by
      unfold cutD
      rw [← h3.length, z.1, z.2, h3.length]
      simp
    rw [e] at q
    exact q _ _ (pout_same (.tup h2 h3))
  · cases h
    obtain ⟨a, xs, rfl, h2, h3⟩ := px.rol
    exact sl_list pins s σ H _ v vl vu lo hi sl Q I rx hs pl pu ⟨a, xs, rfl, h2, fun p n => q _ _ (pout_lst n ha (h3.cut lo hi))⟩
  · cases h

/-! ### built-in functions -/
theorem pk1 {K : PySem.W.Frag} {A : AS} {H : Hp} {vs : List V} {d : D} (h : Paired (PK K A H) vs [d]) : ∃ v, vs = [v] ∧ PK K A H v d := by
  cases h with
  | cons h t => cases t; exact ⟨_, rfl, h⟩
theorem pk2 {K : PySem.W.Frag} {A : AS} {H : Hp} {vs : List V} {d e : D} (h : Paired (PK K A H) vs [d, e]) : ∃ v w, vs = [v, w] ∧ PK K A H v d ∧ PK K A H w e := by
  cases h with
  | cons h t =>
    cases t with
    | cons h2 t => cases t; exact ⟨_, _, rfl, h, h2⟩
theorem maxI_spec : ∀ (ns : List Int) (a : Int), (ns.foldl (fun a b => if b > a then b else a) a = a ∨ ns.foldl (fun a b => if b > a then b else a) a ∈ ns) ∧ a ≤ ns.foldl (fun a b => if b > a then b else a) a ∧ ∀ y ∈ ns, y ≤ ns.foldl (fun a b => if b > a then b else a) a
  | [], a => ⟨.inl rfl, Int.le_refl _, fun y hy => by cases hy⟩
  | n :: ns, a => by
    obtain ⟨h1, h2, h3⟩ := maxI_spec ns (if n > a then n else a)
    rw [List.foldl_cons]
    refine ⟨?_, ?_, fun y hy => ?_⟩
    · rcases h1 with h1 | h1
      · rw [h1]
        split
        · exact .inr List.mem_cons_self
        · exact .inl rfl
      · exact .inr (List.mem_cons_of_mem _ h1)
    · refine Int.le_trans ?_ h2
      split <;> omega
    · rcases List.mem_cons.mp hy with e | hy
      · subst e
        refine Int.le_trans ?_ h2
        split <;> omega
      · exact h3 y hy
theorem minI_spec : ∀ (ns : List Int) (a : Int), (ns.foldl (fun a b => if b < a then b else a) a = a ∨ ns.foldl (fun a b => if b < a then b else a) a ∈ ns) ∧ ns.foldl (fun a b => if b < a then b else a) a ≤ a ∧ ∀ y ∈ ns, ns.foldl (fun a b => if b < a then b else a) a ≤ y
  | [], a => ⟨.inl rfl, Int.le_refl _, fun y hy => by cases hy⟩
  | n :: ns, a => by
    obtain ⟨h1, h2, h3⟩ := minI_spec ns (if n < a then n else a)
    rw [List.foldl_cons]
    refine ⟨?_, ?_, fun y hy => ?_⟩
    · rcases h1 with h1 | h1
      · rw [h1]
        split
        · exact .inr List.mem_cons_self
        · exact .inl rfl
      · exact .inr (List.mem_cons_of_mem _ h1)
    · refine Int.le_trans h2 ?_
      split <;> omega
    · rcases List.mem_cons.mp hy with e | hy
      · subst e
        refine Int.le_trans h2 ?_
        split <;> omega
      · exact h3 y hy
theorem maxI_mem {ns : List Int} {m : Int} (h : maxI ns = some m) : m ∈ ns ∧ ∀ y ∈ ns, y ≤ m := by
  cases ns with
  | nil => cases h
  | cons n ns =>
    simp only [maxI, Option.some.injEq] at h
    subst h
    obtain ⟨h1, h2, h3⟩ := maxI_spec ns n
    refine ⟨?_, fun y hy => ?_⟩
    · rcases h1 with h1 | h1
      · rw [h1]; exact List.mem_cons_self
      · exact List.mem_cons_of_mem _ h1
    · rcases List.mem_cons.mp hy with e | hy
      · subst e; exact h2
      · exact h3 y hy
theorem minI_mem {ns : List Int} {m : Int} (h : minI ns = some m) : m ∈ ns ∧ ∀ y ∈ ns, m ≤ y := by
  cases ns with
  | nil => cases h
  | cons n ns =>
    simp only [minI, Option.some.injEq] at h
    subst h
    obtain ⟨h1, h2, h3⟩ := minI_spec ns n
    refine ⟨?_, fun y hy => ?_⟩
    · rcases h1 with h1 | h1
      · rw [h1]; exact List.mem_cons_self
      · exact List.mem_cons_of_mem _ h1
    · rcases List.mem_cons.mp hy with e | hy
      · subst e; exact h2
      · exact h3 y hy
theorem insI_perm (n : Int) : ∀ ms : List Int, (insI n ms).Perm (n :: ms)
  | [] => List.Perm.refl _
  | m :: ms => by
    unfold insI
    split
    · exact List.Perm.refl _
    · exact ((insI_perm n ms).cons m).trans (List.Perm.swap n m ms)
theorem sortI_perm : ∀ ns : List Int, (sortI ns).Perm ns
  | [] => List.Perm.refl _
  | n :: ns => (insI_perm n (sortI ns)).trans ((sortI_perm ns).cons n)
theorem insI_sorted (n : Int) : ∀ ms : List Int, ms.Pairwise (· ≤ ·) → (insI n ms).Pairwise (· ≤ ·)
  | [], _ => List.pairwise_singleton _ _
  | m :: ms, h => by
    obtain ⟨h1, h2⟩ := List.pairwise_cons.mp h
    unfold insI
    split
    · rename_i hz
      refine List.pairwise_cons.mpr ⟨fun y hy => ?_, h⟩
      rcases List.mem_cons.mp hy with e | hy
      · subst e; exact hz
      · exact Int.le_trans hz (h1 y hy)
    · rename_i hz
      refine List.pairwise_cons.mpr ⟨fun y hy => ?_, insI_sorted n ms h2⟩
      rcases List.mem_cons.mp ((insI_perm n ms).mem_iff.mp hy) with e | hy
      · subst e; omega
      · exact h1 y hy
theorem sortI_sorted : ∀ ns : List Int, (sortI ns).Pairwise (· ≤ ·)
  | [] => List.Pairwise.nil
  | n :: ns => insI_sorted n _ (sortI_sorted ns)
theorem sorted_uniq : ∀ {xs ys : List Int}, xs.Perm ys → xs.Pairwise (· ≤ ·) → ys.Pairwise (· ≤ ·) → xs = ys
  | [], ys, p, _, _ => p.nil_eq
  | x :: xs, [], p, _, _ => absurd p.symm.nil_eq (by simp)
  | x :: xs, y :: ys, p, h1, h2 => by
    obtain ⟨a1, a2⟩ := List.pairwise_cons.mp h1
    obtain ⟨b1, b2⟩ := List.pairwise_cons.mp h2
    have e : x = y := by
      have m1 : x ∈ y :: ys := p.mem_iff.mp List.mem_cons_self
      have m2 : y ∈ x :: xs := p.mem_iff.mpr List.mem_cons_self
      rcases List.mem_cons.mp m1 with e | m1
      · exact e
      · rcases List.mem_cons.mp m2 with e | m2
        · exact e.symm
        · have := a1 y m2
          have := b1 x m1
          omega
    subst e
    rw [sorted_uniq (List.Perm.cons_inv p) a2 b2]
theorem sorted_dn {ms ns : List Int} (p : ms.Perm ns) (h : ms.Pairwise (· ≥ ·)) : ms = (sortI ns).reverse := by
  have h1 : ms.reverse.Pairwise (· ≤ ·) := by
    rw [List.pairwise_reverse]
    exact h
  have := sorted_uniq (((List.reverse_perm ms).trans p).trans (sortI_perm ns).symm) h1 (sortI_sorted ns)
  rw [← this, List.reverse_reverse]
/-- which built-in -/
def biV : Bi → Value
  | .len => .builtin "len"
  | .all => .builtin "all"
  | .any => .builtin "any"
  | .max => .builtin "max"
  | .min => .builtin "min"
  | .sum => .builtin "sum"
  | .list => .type "list"
  | .tuple => .type "tuple"
  | .sorted => .builtin "sorted"
  | .sortedR => .none
  | .int => .type "int"
  | .str => .type "str"
  | .abs => .builtin "abs"
  | .divmod => .builtin "divmod"
  | .repr => .builtin "repr"
  | .listRange => .none
  | .setLen => .none
theorem seq_of {K : PySem.W.Frag} {A : AS} {H : Hp} {v : V} {d : D} {ds : List D} (h : PK K A H v d) (e : seqD d = some ds) : ∃ a xs, v = .ref a ∧ (SqL K H a xs ∨ SqT K H a xs) ∧ DpAs K A H xs ds := by
  cases d <;> cases e
  · obtain ⟨a, xs, h1, h2, h3⟩ := h.list
    exact ⟨a, xs, h1, .inl (.inl h2), h3⟩
  · obtain ⟨a, xs, h1, h2, h3⟩ := h.tup
    exact ⟨a, xs, h1, .inr h2.sq, h3⟩
theorem call_biD (hc : X.calm = true) (f : Bi) (hf : f ≠ .sortedR ∧ f ≠ .listRange ∧ f ≠ .setLen) : CallR X (biV f) (rN X.K (biD f)) := by
  intro pins s σ H vs us Q I rv h
  obtain ⟨A, ds, r, ha, pk, h, q⟩ := h
  unfold biD at h
  split at h
  · split at h
    · rename_i hz
      cases h
      obtain ⟨v, rfl, p⟩ := pk1 pk
      cases p.str
      exact call_len_str pins s σ H _ us Q I rv ⟨_, rfl, hz, q _ _ (pout_same (.int _))⟩
    · cases h
  · cases h
    obtain ⟨v, rfl, p⟩ := pk1 pk
    obtain ⟨a, xs, rfl, h1, h2⟩ := p.list
    exact call_len_seq pins s σ H _ us Q I rv ⟨a, xs, rfl, .inl (.inl h1), by rw [h2.length]; exact q _ _ (pout_same (.int _))⟩
  · cases h
    obtain ⟨v, rfl, p⟩ := pk1 pk
    obtain ⟨a, xs, rfl, h1, h2⟩ := p.rol
    exact call_len_seq pins s σ H _ us Q I rv ⟨a, xs, rfl, .inl h1, by rw [h2.length]; exact q _ _ (pout_same (.int _))⟩
  · cases h
    obtain ⟨v, rfl, p⟩ := pk1 pk
    obtain ⟨a, xs, rfl, h1, h2⟩ := p.tup
    exact call_len_seq pins s σ H _ us Q I rv ⟨a, xs, rfl, .inr h1.sq, by rw [h2.length]; exact q _ _ (pout_same (.int _))⟩
  · obtain ⟨bs, h1, rfl⟩ := Option.map_eq_some_iff.mp h
    obtain ⟨v, rfl, p⟩ := pk1 pk
    obtain ⟨a, rfl, h2⟩ := p.boolsL h1
    exact cr_all hc pins s σ H _ us Q I rv ⟨a, bs, rfl, h2, q _ _ (pout_same (.bl _))⟩
  · obtain ⟨bs, h1, rfl⟩ := Option.map_eq_some_iff.mp h
    obtain ⟨v, rfl, p⟩ := pk1 pk
    obtain ⟨a, rfl, h2⟩ := p.boolsL h1
    exact cr_any hc pins s σ H _ us Q I rv ⟨a, bs, rfl, h2, q _ _ (pout_same (.bl _))⟩
  · rename_i i j
    cases h
    obtain ⟨v, w, rfl, p1, p2⟩ := pk2 pk
    cases p1.int
    cases p2.int
    exact call_max2 hc pins s σ H _ us Q I rv ⟨i, j, rfl, q _ _ (pout_same (.int _))⟩
  · rename_i i j
    cases h
    obtain ⟨v, w, rfl, p1, p2⟩ := pk2 pk
    cases p1.int
    cases p2.int
    exact call_min2 hc pins s σ H _ us Q I rv ⟨i, j, rfl, q _ _ (pout_same (.int _))⟩
  · obtain ⟨ns, h1, h⟩ := Option.bind_eq_some_iff.mp h
    obtain ⟨m, h2, rfl⟩ := Option.map_eq_some_iff.mp h
    obtain ⟨v, rfl, p⟩ := pk1 pk
    obtain ⟨a, rfl, h3⟩ := p.intsL h1
    obtain ⟨z1, z2⟩ := maxI_mem h2
    refine cr_max hc pins s σ H _ us Q I rv ⟨a, ns, rfl, h3, List.length_pos_of_mem z1, fun m' y1 y2 => ?_⟩
    have e : m' = m := Int.le_antisymm (z2 m' y1) (y2 m z1)
    subst e
    exact q _ _ (pout_same (.int _))
  · obtain ⟨ns, h1, h⟩ := Option.bind_eq_some_iff.mp h
    obtain ⟨m, h2, rfl⟩ := Option.map_eq_some_iff.mp h
    obtain ⟨v, rfl, p⟩ := pk1 pk
    obtain ⟨a, rfl, h3⟩ := p.intsL h1
    obtain ⟨z1, z2⟩ := minI_mem h2
    refine cr_min hc pins s σ H _ us Q I rv ⟨a, ns, rfl, h3, List.length_pos_of_mem z1, fun m' y1 y2 => ?_⟩
    have e : m' = m := Int.le_antisymm (y2 m z1) (z2 m' y1)
    subst e
    exact q _ _ (pout_same (.int _))
  · obtain ⟨ns, h1, rfl⟩ := Option.map_eq_some_iff.mp h
    obtain ⟨v, rfl, p⟩ := pk1 pk
    obtain ⟨a, rfl, h3⟩ := p.intsL h1
    exact cr_sum hc pins s σ H _ us Q I rv ⟨a, ns, rfl, h3, q _ _ (pout_same (.int _))⟩
  · cases h
    obtain ⟨v, rfl, p⟩ := pk1 pk
    obtain ⟨a, xs, rfl, h1, h2⟩ := p.list
    exact call_list_of pins s σ H _ us Q I rv ⟨a, xs, rfl, .inl (.inl h1), fun l n => q _ _ (pout_lst n ha h2)⟩
  · cases h
    obtain ⟨v, rfl, p⟩ := pk1 pk
    obtain ⟨a, xs, rfl, h1, h2⟩ := p.tup
    exact call_list_of pins s σ H _ us Q I rv ⟨a, xs, rfl, .inr h1.sq, fun l n => q _ _ (pout_lst n ha h2)⟩
  · cases h
    obtain ⟨v, rfl, p⟩ := pk1 pk
    obtain ⟨a, xs, rfl, h1, h2⟩ := p.list
    exact call_tuple_of pins s σ H _ us Q I rv ⟨a, xs, rfl, .inl ⟨.inl h1, fun l n => q _ _ (pout_tup n ha h2)⟩⟩
  · cases h
    obtain ⟨v, rfl, p⟩ := pk1 pk
    obtain ⟨a, xs, rfl, h1, h2⟩ := p.tup
    exact call_tuple_of pins s σ H _ us Q I rv ⟨a, xs, rfl, .inr ⟨h1.sq, q _ _ (pout_same (.tup h1 h2))⟩⟩
  · obtain ⟨ns, h1, rfl⟩ := Option.map_eq_some_iff.mp h
    obtain ⟨v, rfl, p⟩ := pk1 pk
    obtain ⟨a, rfl, h3⟩ := p.intsL h1
    refine cr_sortedI pins s σ H _ us Q I rv ⟨a, ns, rfl, h3, fun ns' p k1 k2 n => ?_⟩
    rw [sorted_uniq (k1.trans (sortI_perm ns).symm) k2 (sortI_sorted ns)]
    exact q _ _ (pout_lst n ha (.of_ints _))
  · obtain ⟨ns, h1, rfl⟩ := Option.map_eq_some_iff.mp h
    obtain ⟨v, rfl, p⟩ := pk1 pk
    obtain ⟨a, rfl, h3⟩ := p.ints h1
    refine cr_tupS pins s σ H _ us Q I rv ⟨a, ns, rfl, h3, fun ns' p k1 k2 n => ?_⟩
    rw [sorted_uniq (k1.trans (sortI_perm ns).symm) k2 (sortI_sorted ns)]
    exact q _ _ (pout_lst n ha (.of_ints _))
  · exact absurd rfl hf.1
  · exact absurd rfl hf.1
  · rename_i b
    cases h
    obtain ⟨v, rfl, p⟩ := pk1 pk
    cases p.bool
    exact call_int1 pins s σ H _ us Q I rv (.inr ⟨b, rfl, q _ _ (pout_same (.int _))⟩)
  · rename_i i
    cases h
    obtain ⟨v, rfl, p⟩ := pk1 pk
    cases p.int
    exact call_int1 pins s σ H _ us Q I rv (.inl ⟨i, rfl, q _ _ (pout_same (.int _))⟩)
  · rename_i i
    cases h
    obtain ⟨v, rfl, p⟩ := pk1 pk
    cases p.int
    exact call_abs pins s σ H _ us Q I rv ⟨i, rfl, q _ _ (pout_same (.int _))⟩
  · rename_i i j
    split at h
    · rename_i hz
      cases h
      obtain ⟨v, w, rfl, p1, p2⟩ := pk2 pk
      cases p1.int
      cases p2.int
      exact call_divmod pins s σ H _ us Q I rv ⟨i, j, rfl, hz, fun p n => q _ _ (pout_tup n ha (.cons (.int _) (.cons (.int _) .nil)))⟩
    · cases h
  · exact absurd rfl hf.2.1
  · cases h
/-! ### isinstance -/
def tyN : Ty → String
  | .int => "int"
  | .bool => "bool"
  | .str => "str"
  | .tuple => "tuple"
  | .list => "list"
theorem PK.ty {K : PySem.W.Frag} {A : AS} {H : Hp} {v : V} {d : D} (h : PK K A H v d) (nr : isRo d = false) : ∃ n, TyX K H v (.type n) ∧ ∀ t, kitB n (tyN t) = some (isTy t d) := by
  rcases h with h | ⟨a, c, rfl, rfl, h3⟩
  · cases h with
    | non => exact ⟨_, .base .non, fun t => by cases t <;> decide +kernel⟩
    | bl b => exact ⟨_, .base (.bl b), fun t => by cases t <;> (simp only [isTy]; decide +kernel)⟩
    | int i => exact ⟨_, .base (.int i), fun t => by cases t <;> (simp only [isTy]; decide +kernel)⟩
    | str x => exact ⟨_, .base (.str x), fun t => by cases t <;> (simp only [isTy]; decide +kernel)⟩
    | lst h n hs =>
      refine ⟨"list", ?_, fun t => by cases t <;> (simp only [isTy]; decide +kernel)⟩
      rcases h with h | ⟨o, h⟩
      · exact .base (.lst h)
      · exact .base (.frz h)
    | tup h hs =>
      refine ⟨"tuple", ?_, fun t => by cases t <;> (simp only [isTy]; decide +kernel)⟩
      rcases h with ⟨h | ⟨o, h⟩, n⟩ | ⟨ob, its, n, h1, h2, h3⟩
      · exact .base (.tup h)
      · exact .fTuple h
      · exact .kTuple h1 h2
    | ro h hs => simp [isRo] at nr
    | dK h n hs => exact ⟨"dict", .base (.dK h), fun t => by cases t <;> (simp only [isTy]; decide +kernel)⟩
    | dT h n hs => exact ⟨"dict", .base (.dT h), fun t => by cases t <;> (simp only [isTy]; decide +kernel)⟩
  · cases c with
    | lst ds =>
      obtain ⟨xs, h4, h5⟩ := h3
      exact ⟨"list", .base (.lst h4), fun t => by cases t <;> (simp only [isTy, Cel.d]; decide +kernel)⟩
    | dic kvs =>
      rcases h3 with ⟨kv, h4, h5⟩ | ⟨kv, h4, h5⟩
      · exact ⟨"dict", .base (.dK h4), fun t => by cases t <;> (simp only [isTy, Cel.d]; decide +kernel)⟩
      · exact ⟨"dict", .base (.dT h4), fun t => by cases t <;> (simp only [isTy, Cel.d]; decide +kernel)⟩
theorem call_isiD (t : Ty) : CallR X (.builtin "isinstance") (fun vs H Q => ∃ A x d, vs = [x, .ty (tyN t)] ∧ PK X.K A H x d ∧ isRo d = false ∧ Q (.bl (isTy t d)) H) := by
  intro pins s σ H vs us Q I rv h
  obtain ⟨A, x, d, rfl, p, nr, q⟩ := h
  obtain ⟨n, h1, h2⟩ := p.ty nr
  exact call_isi pins s σ H _ us Q I rv ⟨x, .ty (tyN t), .type n, .type (tyN t), isTy t d, rfl, .ty _, h1, kit_ty (h2 t), q⟩
end
end Ev

/-! Ev, part E: readings by the evaluator, one rule a construct. -/
namespace Ev
open PySem L2

/-- how an outcome is known: from (F, H) to (F', H') -/
abbrev OT (α β : Type) := AS → AS → (Nat → AS × AS) → St → (Nat → AS) → Hp → (Nat → AS) → Hp → En → β → α → Prop
section
variable (K : PySem.W.Frag) (mg : Str → Option Value)
def OOut : OT PV V := fun W G B σ F H F' H' e' v pv => Out K W G B F H σ F' H' e' v pv
def OOf {α β : Type} (O : AS → Hp → St → β → α → Prop) : OT α β := fun W G B σ F H F' H' e' b a => OutOf K O W G B F H σ F' H' e' b a
def Reb {α β : Type} (O : OT α β) : Prop := ∀ W G B σ F H F1 H1 e e1 F' H' e' b a, Rel K W G B F H σ e → Rel K W G B F1 H1 σ e1 → Stp W F H W F1 H1 →
  O W G B σ F1 H1 F' H' e' b a → O W G B σ F H F' H' e' b a
def Adv {α β : Type} (O : OT α β) (P : AS → Hp → St → β → α → Prop) : Prop := ∀ W G B σ F H e F' H' e' b a, Rel K W G B F H σ e → O W G B σ F H F' H' e' b a →
  Rel K W G B F' H' σ e' ∧ Stp W F H W F' H' ∧ P (AV W F') H' σ b a
def tR {α β : Type} (O : OT α β) (XW : WX) (m : En → Rs α) (σ : St) (H : Hp) (Q : β → Hp → Prop) : Prop :=
  ∃ W G B F e, Rel K W G B F H σ e ∧ Res K mg XW (O W G B σ) W G B F H σ (m e) Q
def tE (XW : WX) (m : En → Rs PV) : TE := tR K mg (OOut K) XW m
/-- a test -/
def OBool : AS → Hp → St → Bool → Bool → Prop := fun _ _ _ b a => b = a
def tTst (XW : WX) (m : En → Rs Bool) : TT := tR K mg (OOf K (OBool)) XW m
def OPs : AS → Hp → St → List V → List PV → Prop := fun A H σ vs ps => Paired (fun v p => Opv K A H σ v p) vs ps
def OVs : AS → Hp → St → List V → List D → Prop := fun A H _ vs ds => DpAs K A H vs ds
def OAs : AS → Hp → St → List V → List Ar → Prop := fun A H σ vs as => Paired (fun v a => match a with
  | .d d => DpA K A H v d
  | .b i => σ[i]? = some (some v)) vs as
end
section
variable {K : PySem.W.Frag} {mg : Str → Option Value}
theorem reb_out : Reb K (OOut K) := fun W G B σ F H F1 H1 e e1 F' H' e' b a r0 r1 st o => Out.rebase r0 r1 st o
theorem reb_of {α β : Type} {O : AS → Hp → St → β → α → Prop} : Reb K (OOf K O) := fun W G B σ F H F1 H1 e e1 F' H' e' b a r0 r1 st o => ⟨o.1, st.trans o.2.1, o.2.2⟩
theorem adv_out : Adv K (OOut K) (Opv K) := fun W G B σ F H e F' H' e' b a r o => Out.opv o r
theorem adv_of {α β : Type} {O : AS → Hp → St → β → α → Prop} : Adv K (OOf K O) O := fun W G B σ F H e F' H' e' b a r o => o
variable {W G : AS} {B : Nat → AS × AS} {F F1 : Nat → AS} {H H1 : Hp} {σ : St} {e e1 : En} {XW : WX}
/-- a part first, then what follows it -/
theorem seq {α α' β β' : Type} {O1 : OT α' β'} {P1 : AS → Hp → St → β' → α' → Prop} {O : OT α β} (adv : Adv K O1 P1) (reb : Reb K O) {m : Rs α'} {f : α' → En → Rs α} {Q : β → Hp → Prop} {P : β' → Hp → Prop} (r : Rel K W G B F H σ e)
    (h : Res K mg XW (O W G B σ) W G B F H σ (m.bind f) Q)
    (k : ∀ a e1 b H1 F1, Rel K W G B F1 H1 σ e1 → Stp W F H W F1 H1 → P1 (AV W F1) H1 σ b a → Res K mg XW (O W G B σ) W G B F1 H1 σ (f a e1) Q → P b H1) :
    Res K mg XW (O1 W G B σ) W G B F H σ m P := by
  cases m with
  | no => exact h
  | ex x e1 => exact h
  | ok a e1 =>
    intro b H1 F1 o
    obtain ⟨r1, st, p⟩ := adv W G B σ F H e F1 H1 e1 b a r o
    refine k a e1 b H1 F1 r1 st p ?_
    have h' : Res K mg XW (O W G B σ) W G B F H σ (f a e1) Q := h
    cases q : f a e1 with
    | no => rw [q] at h'; exact h'
    | ok c e2 =>
      rw [q] at h'
      intro b2 H2 F2 o2
      exact h' b2 H2 F2 (reb W G B σ F H F1 H1 e e1 F2 H2 e2 b2 c r r1 st o2)
    | ex x e2 =>
      rw [q] at h'
      intro cls d H2 F2 o2
      exact h' cls d H2 F2 ⟨o2.1, st.trans o2.2.1, o2.2.2⟩
theorem PE.imp {X : Cx} {a : Expr} {t t' : TE} (h : PE X a t) (i : ∀ σ H Q, t' σ H Q → t σ H Q) : PE X a t' := ⟨fun pins s σ H Q I q => h.run pins s σ H Q I (i σ H Q q)⟩
theorem PT.imp {X : Cx} {a : Expr} {t t' : TT} (h : PT X a t) (i : ∀ σ H Q, t' σ H Q → t σ H Q) : PT X a t' := ⟨fun pins s σ H Q I q => h.run pins s σ H Q I (i σ H Q q)⟩
theorem PAimp {X : Cx} {a : List Expr} {t t' : TA} (h : PA X a t) (i : ∀ σ H Q, t' σ H Q → t σ H Q) : PA X a t' := ⟨fun pos pins s σ H Q I q => h.run pos pins s σ H Q I (i σ H Q q)⟩
/-- a result that an operation lays -/
theorem out_of {r : R} {v : V} {H' : Hp} (rel : Rel K W G B F H σ e) (p : POut K (AV W F) H v H' r) : Out K W G B F H σ F H' e v (.r r) := by
  cases r with
  | v d =>
    obtain ⟨h1, h2⟩ := p
    exact ⟨rel.ext h1 fun b z => .inl z, stp_of h1 (fun _ z _ => z) fun i _ z _ => ⟨i, z⟩, h2⟩
  | o c =>
    obtain ⟨p, rfl, n, h1, h2⟩ := p
    have there : H' p ≠ none := h2.there
    have e1 : ∀ b, AV (plus W fun b => b = p) F b ↔ plus (AV W F) (fun b => b = p) b := fun b =>
      ⟨fun z => z.elim (fun z => z.elim (fun z => .inl (.inl z)) .inr) fun z => .inl (.inr z), fun z => z.elim (fun z => z.elim (fun z => .inl (.inl z)) .inr) fun z => .inl (.inr z)⟩
    refine ⟨p, fun b => b = p, rfl, rfl, fun b z => ?_, rel.ext h1 fun b z => ?_, stp_of h1 (fun b z q => ?_) (fun i b z _ => ⟨i, z⟩), ?_⟩
    · subst z
      exact ⟨fun g => rel.gt _ g n, .inl n⟩
    · rcases z with z | z
      · exact .inl z
      · subst z; exact .inr ⟨n, there⟩
    · rcases (e1 b).mp z with z | z
      · exact z
      · subst z; exact absurd n q
    · exact h2.step (step_of (Same.refl H') fun b z _ => (e1 b).mp z) fun o q => q
theorem app2_out {f : D → D → Option R} {x y : PV} {v w : V} {Q : V → Hp → Prop} (rel : Rel K W G B F H σ e) (o1 : Opv K (AV W F) H σ v x) (o2 : Opv K (AV W F) H σ w y)
    (h : Res K mg XW (OOut K W G B σ) W G B F H σ (app2 f x y e) Q) : rD K f v w H Q := by
  unfold app2 at h
  split at h
  · rename_i d d' h1 h2
    split at h
    · rename_i r hr
      exact ⟨AV W F, d, d', r, rel.at, o1.pk rel h1, o2.pk rel h2, hr, fun v H' p => h v H' F (out_of rel p)⟩
    · exact h.elim
  · exact h.elim
theorem app1_out {f : D → Option R} {x : PV} {v : V} {Q : V → Hp → Prop} (rel : Rel K W G B F H σ e) (o1 : Opv K (AV W F) H σ v x)
    (h : Res K mg XW (OOut K W G B σ) W G B F H σ (app1 f x e) Q) : ∃ d r, (∀ b, AV W F b → H b ≠ none) ∧ PK K (AV W F) H v d ∧ f d = some r ∧ ∀ v H', POut K (AV W F) H v H' r → Q v H' := by
  unfold app1 at h
  split at h
  · rename_i d h1
    split at h
    · rename_i r hr
      exact ⟨d, r, rel.at, o1.pk rel h1, hr, fun v H' p => h v H' F (out_of rel p)⟩
    · exact h.elim
  · exact h.elim
theorem gets_pk {ps : List PV} {vs : List V} {ds : List D} (rel : Rel K W G B F H σ e) (o : OPs K (AV W F) H σ vs ps) (h : gets ps e = some ds) : Paired (PK K (AV W F) H) vs ds := by
  induction o generalizing ds with
  | nil => cases h; exact .nil
  | cons o1 os ih =>
    unfold gets at h
    split at h
    · rename_i d ds' h1 h2
      cases h
      exact .cons (o1.pk rel h1) (ih h2)
    · cases h
theorem appN_out {f : List D → Option R} {ps : List PV} {vs : List V} {Q : V → Hp → Prop} (rel : Rel K W G B F H σ e) (o1 : OPs K (AV W F) H σ vs ps)
    (h : Res K mg XW (OOut K W G B σ) W G B F H σ (appN f ps e) Q) : rN K f vs H Q := by
  unfold appN at h
  split at h
  · rename_i ds h1
    split at h
    · rename_i r hr
      exact ⟨AV W F, ds, r, rel.at, gets_pk rel o1 h1, hr, fun v H' p => h v H' F (out_of rel p)⟩
    · exact h.elim
  · exact h.elim
theorem boolOf_opv {p : PV} {b : Bool} {A : AS} {v : V} (h : boolOf p = some b) (o : Opv K A H σ v p) : v = .bl b := by
  unfold boolOf at h
  split at h
  · cases h
    cases o
    rfl
  · cases h
theorem intOf_opv {p : PV} {b : Int} {A : AS} {v : V} (h : intOf p = some b) (o : Opv K A H σ v p) : v = .int b := by
  unfold intOf at h
  split at h
  · cases h
    cases o
    rfl
  · cases h
theorem dpa_bool {A : AS} {b : Bool} : DpA K A H (.bl b) (.bool b) := .bl b
/-- the end of an expression whose value is at hand -/
theorem out_v {d : D} {v : V} (rel : Rel K W G B F H σ e) (p : DpA K (AV W F) H v d) : Out K W G B F H σ F H e v (.r (.v d)) := ⟨rel, .refl, p⟩
end

section
variable {X : Cx} {mg : Str → Option Value} {XW : WX} {a b c : Expr} {pos : Pos} {ma mb mc : En → Rs PV}
theorem snd_bin {op : Operator} (ha : PE X a (tE X.K mg XW ma)) (hb : PE X b (tE X.K mg XW mb)) :
    PE X (.BinOp a op b pos) (tE X.K mg XW fun e => (ma e).bind fun x e => (mb e).bind fun y e => app2 (bopD op) x y e) := by
  refine PE.imp (pe_op (op_binD op) ha hb) fun σ H Q h => ?_
  obtain ⟨W, G, B, F, e, rel, h⟩ := h
  refine ⟨W, G, B, F, e, rel, seq adv_out reb_out rel h fun x e1 v H1 F1 r1 s1 o1 h => ?_⟩
  refine ⟨W, G, B, F1, e1, r1, seq adv_out reb_out r1 h fun y e2 w H2 F2 r2 s2 o2 h => ?_⟩
  exact app2_out r2 (o1.step s2.step) o2 h
theorem snd_cmp {op : CmpOp} (hu : X.A.units + 65 < cLine) (hm : behindInMarks op b = false) (ha : PE X a (tE X.K mg XW ma)) (hb : PE X b (tE X.K mg XW mb)) :
    PE X (.Compare a [op] [b] pos) (tE X.K mg XW fun e => (ma e).bind fun x e => (mb e).bind fun y e => app2 (cmpR op) x y e) := by
  refine PE.imp (pe_cmpR (op_cmpD hu op) ha hb hm) fun σ H Q h => ?_
  obtain ⟨W, G, B, F, e, rel, h⟩ := h
  refine ⟨W, G, B, F, e, rel, seq adv_out reb_out rel h fun x e1 v H1 F1 r1 s1 o1 h => ?_⟩
  refine ⟨W, G, B, F1, e1, r1, seq adv_out reb_out r1 h fun y e2 w H2 F2 r2 s2 o2 h => ?_⟩
  exact app2_out r2 (o1.step s2.step) o2 h
theorem snd_idx (ha : PE X a (tE X.K mg XW ma)) (hb : PE X b (tE X.K mg XW mb)) (hp : PlainIx b) :
    PE X (.Subscript a b pos) (tE X.K mg XW fun e => (ma e).bind fun x e => (mb e).bind fun y e => app2 idxD x y e) := by
  refine PE.imp (pe_ix ix_D ha hb hp) fun σ H Q h => ?_
  obtain ⟨W, G, B, F, e, rel, h⟩ := h
  refine ⟨W, G, B, F, e, rel, seq adv_out reb_out rel h fun x e1 v H1 F1 r1 s1 o1 h => ?_⟩
  refine ⟨W, G, B, F1, e1, r1, seq adv_out reb_out r1 h fun y e2 w H2 F2 r2 s2 o2 h => ?_⟩
  exact app2_out r2 (o1.step s2.step) o2 h
theorem snd_neg (ha : PE X a (tE X.K mg XW ma)) :
    PE X (.UnaryOp .USub a pos) (tE X.K mg XW fun e => (ma e).bind fun x e => match intOf x with
      | some i => .ok (.r (.v (.int (-i)))) e
      | none => .no) := by
  refine PE.imp (pe_un un_neg ha) fun σ H Q h => ?_
  obtain ⟨W, G, B, F, e, rel, h⟩ := h
  refine ⟨W, G, B, F, e, rel, seq adv_out reb_out rel h fun x e1 v H1 F1 r1 s1 o1 h => ?_⟩
  split at h
  · rename_i i hi
    exact ⟨i, intOf_opv hi o1, h _ _ _ (out_v r1 (.int _))⟩
  · exact h.elim
theorem snd_not (ha : PE X a (tE X.K mg XW ma)) :
    PE X (.UnaryOp .Not a pos) (tE X.K mg XW fun e => testB (ma e) fun k e => .ok (.r (.v (.bool (!k)))) e) := by
  refine PE.imp (pe_not ha) fun σ H Q h => ?_
  obtain ⟨W, G, B, F, e, rel, h⟩ := h
  refine ⟨W, G, B, F, e, rel, seq adv_out reb_out rel h fun x e1 v H1 F1 r1 s1 o1 h => ?_⟩
  split at h
  · rename_i k hk
    exact ⟨k, boolOf_opv hk o1, h _ _ _ (out_v r1 (.bl _))⟩
  · exact h.elim
theorem snd_chn {o1 o2 : CmpOp} (hu : X.A.units + 65 < cLine) (hm : lastMarks [o1, o2] [b, c] = false) (ha : PE X a (tE X.K mg XW ma)) (hb : PE X b (tE X.K mg XW mb)) (hc : PE X c (tE X.K mg XW mc)) :
    PE X (.Compare a [o1, o2] [b, c] pos) (tE X.K mg XW fun e => (ma e).bind fun x e => (mb e).bind fun y e => testB (app2 (cmpR o1) x y e) fun k e => match k with
      | false => .ok (.r (.v (.bool false))) e
      | true => (mc e).bind fun z e => app2 (cmpR o2) y z e) := by
  refine PE.imp (pe_chain (op_cmpD hu o1) (op_cmpD hu o2) ha hb hc hm) fun σ H Q h => ?_
  obtain ⟨W, G, B, F, e, rel, h⟩ := h
  refine ⟨W, G, B, F, e, rel, seq adv_out reb_out rel h fun x e1 v H1 F1 r1 s1 o1 h => ?_⟩
  refine ⟨W, G, B, F1, e1, r1, seq adv_out reb_out r1 h fun y e2 w H2 F2 r2 s2 o2 h => ?_⟩
  refine app2_out r2 (o1.step s2.step) o2 (seq adv_out reb_out r2 h fun p e3 u H3 F3 r3 s3 o3 h => ?_)
  split at h
  · rename_i k hk
    refine ⟨k, boolOf_opv hk o3, ?_⟩
    cases k with
    | false => exact iteF (h _ _ _ (out_v r3 (.bl _)))
    | true =>
      refine iteT ⟨W, G, B, F3, e3, r3, seq adv_out reb_out r3 h fun z e4 w' H4 F4 r4 s4 o4 h => ?_⟩
      exact app2_out r4 (o2.step (s3.trans s4).step) o4 h
  · exact h.elim
theorem snd_ite {mt : En → Rs Bool} (hc : PT X c (tTst X.K mg XW mt)) (ha : PE X a (tE X.K mg XW ma)) (hb : PE X b (tE X.K mg XW mb)) :
    PE X (.IfExp c a b pos) (tE X.K mg XW fun e => (mt e).bind fun k e => match k with
      | true => ma e
      | false => mb e) := by
  refine PE.imp (pe_ifExp hc ha hb) fun σ H Q h => ?_
  obtain ⟨W, G, B, F, e, rel, h⟩ := h
  refine ⟨W, G, B, F, e, rel, seq adv_of reb_out rel h fun k e1 b' H1 F1 r1 s1 o1 h => ?_⟩
  have o1 : b' = k := o1
  subst o1
  cases b' with
  | true => exact iteT ⟨W, G, B, F1, e1, r1, h⟩
  | false => exact iteF ⟨W, G, B, F1, e1, r1, h⟩
theorem snd_slc {lo hi : Option Expr} {ml mh : En → Rs (Option Int)} {p2 : Pos} (ha : PE X a (tE X.K mg XW ma)) (hl : PO X lo (tR X.K mg (OOf X.K fun _ _ _ b a => b = a) XW ml)) (hh : PO X hi (tR X.K mg (OOf X.K fun _ _ _ b a => b = a) XW mh)) :
    PE X (.Subscript a (.Slice lo hi none p2) pos) (tE X.K mg XW fun e => (ma e).bind fun x e => (ml e).bind fun l e => (mh e).bind fun h e => app1 (fun d => slcD d l h) x e) := by
  refine PE.imp (pe_slice sl_D ha hl hh) fun σ H Q h => ?_
  obtain ⟨W, G, B, F, e, rel, h⟩ := h
  refine ⟨W, G, B, F, e, rel, seq adv_out reb_out rel h fun x e1 v H1 F1 r1 s1 o1 h => ?_⟩
  refine ⟨W, G, B, F1, e1, r1, seq adv_of reb_out r1 h fun l e2 l' H2 F2 r2 s2 o2 h => ?_⟩
  refine ⟨W, G, B, F2, e2, r2, seq adv_of reb_out r2 h fun u e3 u' H3 F3 r3 s3 o3 h => ?_⟩
  have o2 : l' = l := o2
  have o3 : u' = u := o3
  subst o2 o3
  obtain ⟨d, r, h1, h2, h3, h4⟩ := app1_out r3 (o1.step (s2.trans s3).step) h
  exact ⟨_, d, r, h1, h2, h3, h4⟩
end
end Ev

/-! Ev, part F: variables, displays, arguments, built-ins, cells changed. -/
namespace Ev
open PySem L2
section
variable {K : PySem.W.Frag} {mg : Str → Option Value} {W G : AS} {B : Nat → AS × AS} {F : Nat → AS} {H H' : Hp} {σ : St} {e : En} {XW : WX} {i : Nat} {c : Cel} {v : V} {d : D}
def fset (F : Nat → AS) (i : Nat) (fp : AS) : Nat → AS := fun j b => if j = i then fp b else F j b
theorem fset_same {fp : AS} {b : Addr} : fset F i fp i b ↔ fp b := by unfold fset; rw [if_pos rfl]
theorem fset_ne {fp : AS} {b : Addr} {j : Nat} (h : j ≠ i) : fset F i fp j b ↔ F j b := by unfold fset; rw [if_neg h]
theorem fset_sub {b : Addr} {j : Nat} (h : fset F i (fun _ => False) j b) : F j b := by
  unfold fset at h
  split at h
  · exact h.elim
  · exact h
theorem slot_own (r : Rel K W G B F H σ e) (h : e[i]? = some (some (.own c))) : ∃ a, σ[i]? = some (some (.ref a)) ∧ CelAt K (AV W F) H a c ∧ F i a ∧ ∀ b, F i b → ¬ G b := by
  obtain ⟨v, h1, a, rfl, h2, h3, h4⟩ := r.slot i _ h
  exact ⟨a, h1, h2, h3, h4⟩
theorem slot_bor (r : Rel K W G B F H σ e) (h : e[i]? = some (some (.bor c))) : ∃ a, σ[i]? = some (some (.ref a)) ∧ CelAt K (AV W F) H a c ∧ F i a ∧ (∀ b, (B i).1 b ↔ b = a) ∧ ∀ b, F i b → (B i).2 b ∨ ¬ G b := by
  obtain ⟨v, h1, a, rfl, h2, h3, h4⟩ := r.slot i _ h
  exact ⟨a, h1, h2, h3, h4⟩
theorem lt_of_slot {s : Option Slot} (h : e[i]? = some s) : i < e.length := (List.getElem?_eq_some_iff.mp h).1
theorem get_set {s : Option Slot} {j : Nat} {t : Option Slot} (h : (e.set i s)[j]? = some t) : (j = i ∧ t = s) ∨ (j ≠ i ∧ e[j]? = some t) := by
  by_cases hj : j = i
  · subst hj
    by_cases hl : j < e.length
    · rw [List.getElem?_set_self hl] at h
      cases h
      exact .inl ⟨rfl, rfl⟩
    · rw [List.getElem?_eq_none (by rw [List.length_set]; omega)] at h
      cases h
  · rw [List.getElem?_set_ne (Ne.symm hj)] at h
    exact .inr ⟨hj, h⟩
theorem slotR_fewer {A A' Gs : AS} {Bs : AS × AS} {fp fp' : AS} {s : Slot} (h : SlotR K A Gs Bs H fp v s) (hs : ∀ b, A' b → A b) (hf : ∀ b, fp' b ↔ fp b) : SlotR K A' Gs Bs H fp' v s := by
  have st : Step A H A' H := Step.refl.weak hs
  cases s with
  | val d => exact DpA.fewer h hs
  | own c =>
    obtain ⟨a, h1, h2, h3, h4⟩ := h
    exact ⟨a, h1, h2.step st fun _ q => q, (hf a).mpr h3, fun b z => h4 b ((hf b).mp z)⟩
  | bor c =>
    obtain ⟨a, h1, h2, h3, h4⟩ := h
    exact ⟨a, h1, h2.step st fun _ q => q, (hf a).mpr h3, h4.1, fun b z => h4.2 b ((hf b).mp z)⟩
/-- a cell becomes a value -/
theorem Rel.freeze (r : Rel K W G B F H σ e) (h : e[i]? = some (some (.own c))) : ∃ a, σ[i]? = some (some (.ref a)) ∧ DpA K (AV W (fset F i fun _ => False)) H (.ref a) c.d ∧ Rel K W G B (fset F i fun _ => False) H σ (e.set i (some (.val c.d))) := by
  obtain ⟨a, h1, h2, h3, h4⟩ := slot_own r h
  have sub : ∀ b, AV W (fset F i fun _ => False) b → AV W F b := fun b z => z.elim .inl fun ⟨j, z⟩ => .inr ⟨j, fset_sub z⟩
  have na : ¬ AV W (fset F i fun _ => False) a := fun z => by
    rcases z with z | ⟨j, z⟩
    · exact r.fw i a h3 z
    · have hj : j = i := r.ff j i a (fset_sub z) h3
      subst hj
      exact fset_same.mp z
  have d : DpA K (AV W (fset F i fun _ => False)) H (.ref a) c.d := h2.dat na sub
  refine ⟨a, h1, d, by rw [List.length_set]; exact r.len, r.wt, r.gt, fun j b z => r.ft j b (fset_sub z), fun j b z => r.fw j b (fset_sub z), fun j k b y z => r.ff j k b (fset_sub y) (fset_sub z), fun j s z => ?_⟩
  rcases get_set z with ⟨rfl, q⟩ | ⟨hj, q⟩
  · cases q
    exact ⟨_, h1, d⟩
  · obtain ⟨v, h5, h6⟩ := r.slot j s q
    exact ⟨v, h5, slotR_fewer h6 sub fun b => fset_ne hj⟩
/-- a cell is taken out -/
theorem Rel.take (r : Rel K W G B F H σ e) (h : e[i]? = some (some (.own c))) : Rel K (plus W (F i)) G B (fset F i fun _ => False) H σ (e.set i none) ∧ ∀ b, AV (plus W (F i)) (fset F i fun _ => False) b ↔ AV W F b := by
  have same : ∀ b, AV (plus W (F i)) (fset F i fun _ => False) b ↔ AV W F b := fun b => by
    constructor
    · rintro ((z | z) | ⟨j, z⟩)
      · exact .inl z
      · exact .inr ⟨i, z⟩
      · exact .inr ⟨j, fset_sub z⟩
    · rintro (z | ⟨j, z⟩)
      · exact .inl (.inl z)
      · by_cases hj : j = i
        · subst hj; exact .inl (.inr z)
        · exact .inr ⟨j, (fset_ne hj).mpr z⟩
  refine ⟨⟨by rw [List.length_set]; exact r.len, fun b z => z.elim (r.wt b) (r.ft i b), r.gt, fun j b z => r.ft j b (fset_sub z), fun j b z w => ?_, fun j k b y z => r.ff j k b (fset_sub y) (fset_sub z), fun j s z => ?_⟩, same⟩
  · rcases w with w | w
    · exact r.fw j b (fset_sub z) w
    · have hj := r.ff j i b (fset_sub z) w
      subst hj
      exact fset_same.mp z
  · rcases get_set z with ⟨rfl, q⟩ | ⟨hj, q⟩
    · cases q
    · obtain ⟨v, h5, h6⟩ := r.slot j s q
      exact ⟨v, h5, slotR_fewer h6 (fun b => (same b).mp) fun b => fset_ne hj⟩
/-- a value is stored -/
theorem Rel.putVal (r : Rel K W G B F H σ e) (p : DpA K (AV W F) H v d) (hi : i < e.length) : Rel K W G B F H (σ.set i (some v)) (e.set i (some (.val d))) := by
  refine ⟨by rw [List.length_set, List.length_set]; exact r.len, r.wt, r.gt, r.ft, r.fw, r.ff, fun j s z => ?_⟩
  rcases get_set z with ⟨rfl, q⟩ | ⟨hj, q⟩
  · cases q
    exact ⟨v, List.getElem?_set_self (by rw [r.len]; exact hi), p⟩
  · obtain ⟨u, h5, h6⟩ := r.slot j s q
    exact ⟨u, by rw [List.getElem?_set_ne (Ne.symm hj)]; exact h5, h6⟩
/-- a cell is stored -/
theorem Rel.putOwn {fp : AS} {a : Addr} (r : Rel K (plus W fp) G B F H σ e) (hc : CelAt K (AV (plus W fp) F) H a c) (ha : fp a) (hg : ∀ b, fp b → ¬ G b) (hw : ∀ b, fp b → ¬ W b) (hi : i < e.length) :
    Rel K W G B (fset F i fp) H (σ.set i (some (.ref a))) (e.set i (some (.own c))) ∧ ∀ b, AV W (fset F i fp) b → AV (plus W fp) F b := by
  have sub : ∀ b, AV W (fset F i fp) b → AV (plus W fp) F b := by
    rintro b (z | ⟨j, z⟩)
    · exact .inl (.inl z)
    · by_cases hj : j = i
      · subst hj; exact .inl (.inr (fset_same.mp z))
      · exact .inr ⟨j, (fset_ne hj).mp z⟩
  refine ⟨⟨by rw [List.length_set, List.length_set]; exact r.len, fun b z => r.wt b (.inl z), r.gt, fun j b z => ?_, fun j b z w => ?_, fun j k b y z => ?_, fun j s z => ?_⟩, sub⟩
  · by_cases hj : j = i
    · subst hj; exact r.wt b (.inr (fset_same.mp z))
    · exact r.ft j b ((fset_ne hj).mp z)
  · by_cases hj : j = i
    · subst hj; exact hw b (fset_same.mp z) w
    · exact r.fw j b ((fset_ne hj).mp z) (.inl w)
  · by_cases hj : j = i
    · by_cases hk : k = i
      · rw [hj, hk]
      · subst hj; exact absurd (.inr (fset_same.mp y)) (r.fw k b ((fset_ne hk).mp z))
    · by_cases hk : k = i
      · subst hk; exact absurd (.inr (fset_same.mp z)) (r.fw j b ((fset_ne hj).mp y))
      · exact r.ff j k b ((fset_ne hj).mp y) ((fset_ne hk).mp z)
  · rcases get_set z with ⟨rfl, q⟩ | ⟨hj, q⟩
    · cases q
      exact ⟨_, List.getElem?_set_self (by rw [r.len]; exact hi), a, rfl, hc.step (Step.refl.weak sub) (fun _ q => q), fset_same.mpr ha, fun b z => hg b (fset_same.mp z)⟩
    · obtain ⟨u, h5, h6⟩ := r.slot j s q
      exact ⟨u, by rw [List.getElem?_set_ne (Ne.symm hj)]; exact h5, slotR_fewer h6 sub fun b => fset_ne hj⟩
/-- a cell changes in its place -/
theorem Rel.write {a : Addr} {o : HO} (r : Rel K W G B F H σ e) (hi : F i a) (mu : Mut (H a)) (c' : Cel) {s' : Slot} (hs : ∃ s, e[i]? = some (some s) ∧ ((∃ c, s = .own c ∧ s' = .own c') ∨ ∃ c, s = .bor c ∧ s' = .bor c')) (hv : σ[i]? = some (some (.ref a)))
    (hc : CelAt K (AV W F) (upd H a o) a c') : Rel K W G B F (upd H a o) σ (e.set i (some s')) ∧ Stp W F H W F (upd H a o) := by
  have ne : ∀ b, b ≠ a → upd H a o b = H b := fun b h => upd_ne h
  have trk : ∀ b, H b ≠ none → upd H a o b ≠ none := fun b h => by
    by_cases q : b = a
    · subst q; rw [upd_same]; simp
    · rw [ne b q]; exact h
  have st : Stp W F H W F (upd H a o) := ⟨fun b u q n => by
    rw [ne b fun z => n (by subst z; exact ⟨i, hi⟩)]
    exact q, trk, fun b z _ => z, fun i b z _ => ⟨i, z⟩⟩
  obtain ⟨s, hes, hs⟩ := hs
  refine ⟨⟨by rw [List.length_set]; exact r.len, fun b z => trk b (r.wt b z), fun b z => trk b (r.gt b z), fun j b z => trk b (r.ft j b z), r.fw, r.ff, fun j t z => ?_⟩, st⟩
  rcases get_set z with ⟨rfl, q⟩ | ⟨hj, q⟩
  · cases q
    refine ⟨_, hv, ?_⟩
    rcases hs with ⟨c, rfl, rfl⟩ | ⟨c, rfl, rfl⟩
    · obtain ⟨a', h1, h2, h3, h4⟩ := slot_own r hes
      rw [hv] at h1
      cases h1
      exact ⟨a, rfl, hc, hi, h4⟩
    · obtain ⟨a', h1, h2, h3, h4⟩ := slot_bor r hes
      rw [hv] at h1
      cases h1
      exact ⟨a, rfl, hc, hi, h4⟩
  · obtain ⟨u, h5, h6⟩ := r.slot j t q
    refine ⟨u, h5, ?_⟩
    cases t with
    | val d => exact DpA.step st.step h6
    | own c =>
      obtain ⟨a', h1, h2, h3, h4⟩ := h6
      refine ⟨a', h1, h2.step st.step fun o' q' => ?_, h3, h4⟩
      rw [ne a' fun z => hj (r.ff j i a' h3 (by rw [z]; exact hi))]
      exact q'
    | bor c =>
      obtain ⟨a', h1, h2, h3, h4⟩ := h6
      refine ⟨a', h1, h2.step st.step fun o' q' => ?_, h3, h4⟩
      rw [ne a' fun z => hj (r.ff j i a' h3 (by rw [z]; exact hi))]
      exact q'
theorem step_sub {A A' : AS} (h : ∀ b, A' b → A b) : Step A H A' H := Step.refl.weak h
end

section
variable {X : Cx} {mg : Str → Option Value} {XW : WX} {a b c : Expr} {pos : Pos} {ma mb mc : En → Rs PV} {x : Str}
theorem snd_var {i : Nat} {pk : Bool} (h : PE X (.Name x pos) (tVar i)) : PE X (.Name x pos) (tE X.K mg XW fun e => rdVar i pk e) := by
  refine PE.imp h fun σ H Q h => ?_
  obtain ⟨W, G, B, F, e, rel, h⟩ := h
  dsimp only [rdVar] at h
  cases hs : e[i]? with
  | none => rw [hs] at h; exact h.elim
  | some s =>
    cases s with
    | none => rw [hs] at h; exact h.elim
    | some s =>
      rw [hs] at h
      cases s with
      | val d =>
        obtain ⟨v, h1, h2⟩ := rel.slot i _ hs
        exact ⟨v, h1, h _ _ _ (out_v rel h2)⟩
      | own c =>
        cases pk with
        | true =>
          obtain ⟨a, h1, h2⟩ := slot_own rel hs
          exact ⟨_, h1, h (.ref a) H F ⟨rel, .refl, h1⟩⟩
        | false =>
          obtain ⟨a, h1, h2, h3⟩ := rel.freeze hs
          exact ⟨_, h1, h (.ref a) H (fset F i fun _ => False) ⟨h3, .less (fun b z => z.elim .inl fun ⟨j, z⟩ => .inr ⟨j, fset_sub z⟩) fun j b z => ⟨j, fset_sub z⟩, h2⟩⟩
      | bor c =>
        cases pk with
        | true =>
          obtain ⟨a, h1, h2⟩ := slot_bor rel hs
          exact ⟨_, h1, h (.ref a) H F ⟨rel, .refl, h1⟩⟩
        | false => exact h.elim
theorem snd_mov {i : Nat} (h : PE X (.Name x pos) (tVar i)) : PE X (.Name x pos) (tE X.K mg XW fun e => mvVar i e) := by
  refine PE.imp h fun σ H Q h => ?_
  obtain ⟨W, G, B, F, e, rel, h⟩ := h
  dsimp only [mvVar] at h
  cases hs : e[i]? with
  | none => rw [hs] at h; exact h.elim
  | some s =>
    cases s with
    | none => rw [hs] at h; exact h.elim
    | some s =>
      rw [hs] at h
      cases s with
      | val d =>
        obtain ⟨v, h1, h2⟩ := rel.slot i _ hs
        exact ⟨v, h1, h _ _ _ (out_v rel h2)⟩
      | own c =>
        obtain ⟨a, h1, h2, h3, h4⟩ := slot_own rel hs
        obtain ⟨h5, h6⟩ := rel.take hs
        exact ⟨_, h1, h (.ref a) H (fset F i fun _ => False) ⟨a, F i, rfl, h3, fun b z => ⟨h4 b z, .inr ⟨i, z⟩⟩, h5, .less (fun b => (h6 b).mp) fun j b z => ⟨j, fset_sub z⟩, h2.step (step_sub fun b => (h6 b).mp) fun _ q => q⟩⟩
      | bor c => exact h.elim
/-- a constant -/
theorem snd_con {v : V} {d : D} {ex : Expr} (h : PE X ex (tC v)) (hd : ∀ A H, DpA X.K A H v d) : PE X ex (tE X.K mg XW fun e => .ok (.r (.v d)) e) := by
  refine PE.imp h fun σ H Q h => ?_
  obtain ⟨W, G, B, F, e, rel, h⟩ := h
  exact h _ _ _ (out_v rel (hd _ _))

/-! ### argument lists -/
theorem sndV_nil : L2.PA X [] (tR X.K mg (OOf X.K (OVs X.K)) XW fun e => .ok [] e) := by
  refine PAimp pa_nil fun σ H Q h => ?_
  obtain ⟨W, G, B, F, e, rel, h⟩ := h
  exact h [] H F ⟨rel, .refl, .nil⟩
theorem sndV_cons {es : List Expr} {ms : En → Rs (List D)} (hs : starEach (a :: es) X.env = (false, eval a X.env) :: starEach es X.env) (ha : PE X a (tE X.K mg XW ma)) (hm : L2.PA X es (tR X.K mg (OOf X.K (OVs X.K)) XW ms)) :
    L2.PA X (a :: es) (tR X.K mg (OOf X.K (OVs X.K)) XW fun e => (ma e).bind fun y e => match y with
      | .r y => (ms e).bind fun ys e => .ok (y.d :: ys) e
      | .sl _ => .no) := by
  refine PAimp (pa_cons ha hm hs) fun σ H Q h => ?_
  obtain ⟨W, G, B, F, e, rel, h⟩ := h
  refine ⟨W, G, B, F, e, rel, seq adv_out reb_of rel h fun y e1 v H1 F1 r1 s1 o1 h => ?_⟩
  cases y with
  | sl _ => exact h.elim
  | r y =>
    refine ⟨W, G, B, F1, e1, r1, seq adv_of reb_of r1 h fun ys e2 vs H2 F2 r2 s2 o2 h => ?_⟩
    exact h (v :: vs) H2 F2 ⟨r2, .refl, .cons (DpA.step s2.step o1) o2⟩
theorem sndP_nil : L2.PA X [] (tR X.K mg (OOf X.K (OPs X.K)) XW fun e => .ok [] e) := by
  refine PAimp pa_nil fun σ H Q h => ?_
  obtain ⟨W, G, B, F, e, rel, h⟩ := h
  exact h [] H F ⟨rel, .refl, .nil⟩
theorem ops_step {K : PySem.W.Frag} {A A' : AS} {H H' : Hp} {σ : St} {vs : List V} {ps : List PV} (h : OPs K A H σ vs ps) (s : Step A H A' H') : OPs K A' H' σ vs ps := Paired.mapP h fun _ _ z => z.step s
theorem sndP_cons {es : List Expr} {ms : En → Rs (List PV)} (hs : starEach (a :: es) X.env = (false, eval a X.env) :: starEach es X.env) (ha : PE X a (tE X.K mg XW ma)) (hm : L2.PA X es (tR X.K mg (OOf X.K (OPs X.K)) XW ms)) :
    L2.PA X (a :: es) (tR X.K mg (OOf X.K (OPs X.K)) XW fun e => (ma e).bind fun y e => (ms e).bind fun ys e => .ok (y :: ys) e) := by
  refine PAimp (pa_cons ha hm hs) fun σ H Q h => ?_
  obtain ⟨W, G, B, F, e, rel, h⟩ := h
  refine ⟨W, G, B, F, e, rel, seq adv_out reb_of rel h fun y e1 v H1 F1 r1 s1 o1 h => ?_⟩
  refine ⟨W, G, B, F1, e1, r1, seq adv_of reb_of r1 h fun ys e2 vs H2 F2 r2 s2 o2 h => ?_⟩
  exact h (v :: vs) H2 F2 ⟨r2, .refl, .cons (o1.step s2.step) o2⟩
theorem sndA_nil : L2.PA X [] (tR X.K mg (OOf X.K (OAs X.K)) XW fun e => .ok [] e) := by
  refine PAimp pa_nil fun σ H Q h => ?_
  obtain ⟨W, G, B, F, e, rel, h⟩ := h
  exact h [] H F ⟨rel, .refl, .nil⟩
theorem sndA_d {es : List Expr} {ms : En → Rs (List Ar)} (hs : starEach (a :: es) X.env = (false, eval a X.env) :: starEach es X.env) (ha : PE X a (tE X.K mg XW ma)) (hm : L2.PA X es (tR X.K mg (OOf X.K (OAs X.K)) XW ms)) :
    L2.PA X (a :: es) (tR X.K mg (OOf X.K (OAs X.K)) XW fun e => (ma e).bind fun y e => match y with
      | .r y => (ms e).bind fun ys e => .ok (.d y.d :: ys) e
      | .sl _ => .no) := by
  refine PAimp (pa_cons ha hm hs) fun σ H Q h => ?_
  obtain ⟨W, G, B, F, e, rel, h⟩ := h
  refine ⟨W, G, B, F, e, rel, seq adv_out reb_of rel h fun y e1 v H1 F1 r1 s1 o1 h => ?_⟩
  cases y with
  | sl _ => exact h.elim
  | r y =>
    refine ⟨W, G, B, F1, e1, r1, seq adv_of reb_of r1 h fun ys e2 vs H2 F2 r2 s2 o2 h => ?_⟩
    exact h (v :: vs) H2 F2 ⟨r2, .refl, .cons (DpA.step s2.step o1) o2⟩
theorem sndA_b {es : List Expr} {ms : En → Rs (List Ar)} (hs : starEach (a :: es) X.env = (false, eval a X.env) :: starEach es X.env) (ha : PE X a (tE X.K mg XW ma)) (hm : L2.PA X es (tR X.K mg (OOf X.K (OAs X.K)) XW ms)) :
    L2.PA X (a :: es) (tR X.K mg (OOf X.K (OAs X.K)) XW fun e => (ma e).bind fun y e => match y with
      | .sl i => (ms e).bind fun ys e => .ok (.b i :: ys) e
      | .r _ => .no) := by
  refine PAimp (pa_cons ha hm hs) fun σ H Q h => ?_
  obtain ⟨W, G, B, F, e, rel, h⟩ := h
  refine ⟨W, G, B, F, e, rel, seq adv_out reb_of rel h fun y e1 v H1 F1 r1 s1 o1 h => ?_⟩
  cases y with
  | r _ => exact h.elim
  | sl y =>
    refine ⟨W, G, B, F1, e1, r1, seq adv_of reb_of r1 h fun ys e2 vs H2 F2 r2 s2 o2 h => ?_⟩
    exact h (v :: vs) H2 F2 ⟨r2, .refl, .cons o1 o2⟩

/-! ### displays, built-ins -/
theorem snd_tup {es : List Expr} {k : Nat} {ms : En → Rs (List D)} (hm : L2.PA X es (tR X.K mg (OOf X.K (OVs X.K)) XW ms)) :
    PE X (.Tuple es k pos) (tE X.K mg XW fun e => (ms e).bind fun ds e => if ds.length ≤ sizeLine then .ok (.r (.v (.tuple ds))) e else .no) := by
  refine PE.imp (pe_tup hm) fun σ H Q h => ?_
  obtain ⟨W, G, B, F, e, rel, h⟩ := h
  refine ⟨W, G, B, F, e, rel, seq adv_of reb_out rel h fun ds e1 vs H1 F1 r1 s1 o1 h => ?_⟩
  split at h
  · rename_i hz
    have o1 : DpAs X.K (AV W F1) H1 vs ds := o1
    exact ⟨by rw [o1.length]; exact hz, fun p n => h _ _ _ (out_of r1 (pout_tup n r1.at o1))⟩
  · exact h.elim
theorem snd_lst {es : List Expr} {ms : En → Rs (List D)} (hm : L2.PA X es (tR X.K mg (OOf X.K (OVs X.K)) XW ms)) :
    PE X (.List es pos) (tE X.K mg XW fun e => (ms e).bind fun ds e => if ds.length ≤ sizeLine then .ok (.r (.o (.lst ds))) e else .no) := by
  refine PE.imp (pe_lst hm) fun σ H Q h => ?_
  obtain ⟨W, G, B, F, e, rel, h⟩ := h
  refine ⟨W, G, B, F, e, rel, seq adv_of reb_out rel h fun ds e1 vs H1 F1 r1 s1 o1 h => ?_⟩
  split at h
  · rename_i hz
    have o1 : DpAs X.K (AV W F1) H1 vs ds := o1
    exact ⟨by rw [o1.length]; exact hz, fun p n => h _ _ _ (out_of r1 (pout_lst n r1.at o1))⟩
  · exact h.elim
/-- a built-in's call -/
theorem snd_bi {ex : Expr} {f : List D → Option R} {es : List Expr} {ms : En → Rs (List PV)} {ta : TA → TE} (h : ∀ t, L2.PA X es t → PE X ex (tCB (rN X.K f) t)) (hm : L2.PA X es (tR X.K mg (OOf X.K (OPs X.K)) XW ms)) :
    PE X ex (tE X.K mg XW fun e => (ms e).bind fun xs e => appN f xs e) := by
  refine PE.imp (h _ hm) fun σ H Q h => ?_
  obtain ⟨W, G, B, F, e, rel, h⟩ := h
  refine ⟨W, G, B, F, e, rel, seq adv_of reb_out rel h fun ds e1 vs H1 F1 r1 s1 o1 h => ?_⟩
  exact appN_out r1 o1 h
end
end Ev

/-! Ev, part G: calls of defs. -/
namespace Ev
open PySem L2

/-- a def's promise by its summary -/
def Spec (K : PySem.W.Frag) (mg : Str → Option Value) (f : Fn) : Sp := fun vs H Q E => vs.length = f.np ∧ ∃ W G B F t, Rel K W G B F H (vs.map some) t ∧ (∀ b, H b ≠ none → G b) ∧
  Res K mg (fun cls d _ H' => E cls d H') (fun F H F' H' t' v r => Out K W G B F H (vs.map some) F' H' t' v (.r r)) W G B F H (vs.map some) (f.S t) Q
/-- as the layer's, with what stands around known to repr -/
structure FnX (gk : Bool) (P : Program) (w : World) (K : PySem.W.Frag) (mg : Str → Option Value) (base : Heap) (k : Nat) (f : Addr) (fd : FuncData) (ps : List Str) (sp : Sp) : Prop where
  len : ∀ vs H Q E, sp vs H Q E → vs.length = ps.length
  run : ∀ (A : Around) (outer : List PySem.Env) (s : Shared) (H : Hp) (args : Args) (us : List Value) (vs : List V) (Q : VK) (E : XK), (gk = true → A.guards = some []) → Room k A → Env0 P w K mg base A outer s H →
    BindsTo s fd args (ps.zip us) → Vals vs us → sp vs H Q E → codeAny (model P w) A (.call (.ref f) args) (CR (L2.CX P w) outer P w H s Q E) s
theorem FnX.mono {gk : Bool} {P : Program} {w : World} {K : PySem.W.Frag} {mg : Str → Option Value} {base : Heap} {j k : Nat} {f : Addr} {fd : FuncData} {ps : List Str} {sp : Sp} (F : FnX gk P w K mg base j f fd ps sp) (h : j ≤ k) : FnX gk P w K mg base k f fd ps sp :=
  ⟨F.len, fun A outer s H args us vs Q E g hr => F.run A outer s H args us vs Q E g (hr.mono h)⟩
theorem FnX.ofOk {gk : Bool} {P : Program} {w : World} {K : PySem.W.Frag} {mg : Str → Option Value} {base : Heap} {k : Nat} {f : Addr} {fd : FuncData} {ps : List Str} {sp : Sp} (F : FnOk P w K mg base (L2.CX P w) k f fd ps sp) : FnX gk P w K mg base k f fd ps sp :=
  ⟨F.len, fun A outer s H args us vs Q E _ => F.run A outer s H args us vs Q E⟩
theorem FnX.ok {P : Program} {w : World} {K : PySem.W.Frag} {mg : Str → Option Value} {base : Heap} {k : Nat} {f : Addr} {fd : FuncData} {ps : List Str} {sp : Sp} (F : FnX false P w K mg base k f fd ps sp) : FnOk P w K mg base (L2.CX P w) k f fd ps sp :=
  ⟨F.len, fun A outer s H args us vs Q E => F.run A outer s H args us vs Q E (fun z => nomatch z)⟩
/-- what a caller knows of a def -/
def Known (gk : Bool) (X : Cx) (x : Str) (S : Fn) (k : Nat) : Prop :=
  ∃ f fd ps, X.mg x = some (.ref f) ∧ PySem.W.keepIn X.K (.ref f) = true ∧ Binds X.K fd ps [] ∧ FnX gk X.prog X.w X.K X.mg X.base k f fd ps (Spec X.K X.mg S)

section
variable {K : PySem.W.Frag} {mg : Str → Option Value} {W G : AS} {B : Nat → AS × AS} {F : Nat → AS} {H H' : Hp} {σ : St} {e e' t t' : En} {as : List Ar} {vs : List V}
theorem lent_ne {i : Nat} : ∀ {as : List Ar}, lentOnce (.b i :: as) = true → ∀ j : Nat, as[j]? ≠ some (Ar.b i) := fun {as} h j z => by
  unfold lentOnce at h
  rw [Bool.and_eq_true, List.all_eq_true] at h
  have := h.1 _ (List.mem_of_getElem? z)
  simp at this
theorem lent_tl {a : Ar} {as : List Ar} (h : lentOnce (a :: as) = true) : lentOnce as = true := by
  cases a with
  | d _ => exact h
  | b i =>
    unfold lentOnce at h
    rw [Bool.and_eq_true] at h
    exact h.2
theorem lent_inj {i : Nat} : ∀ {as : List Ar} {j k : Nat}, lentOnce as = true → as[j]? = some (Ar.b i) → as[k]? = some (Ar.b i) → j = k
  | [], j, k, _, h, _ => by simp at h
  | a :: as, 0, 0, _, _, _ => rfl
  | a :: as, 0, k + 1, h, h1, h2 => by
    simp at h1
    subst h1
    exact absurd (by simpa using h2) (lent_ne h k)
  | a :: as, j + 1, 0, h, h1, h2 => by
    simp at h2
    subst h2
    exact absurd (by simpa using h1) (lent_ne h j)
  | a :: as, j + 1, k + 1, h, h1, h2 => by
    have := lent_inj (j := j) (k := k) (lent_tl h) (by simpa using h1) (by simpa using h2)
    omega
theorem putBack1_at {i : Nat} {c : Cel} (h : putBack1 i c e = some e') : e'.length = e.length ∧ ((∃ c0, e[i]? = some (some (.own c0)) ∧ e'[i]? = some (some (Slot.own c))) ∨ ∃ c0, e[i]? = some (some (.bor c0)) ∧ e'[i]? = some (some (Slot.bor c))) ∧ ∀ k, k ≠ i → e'[k]? = e[k]? := by
  unfold putBack1 at h
  split at h
  · rename_i c0 h0
    cases h
    exact ⟨List.length_set, .inl ⟨c0, h0, List.getElem?_set_self (lt_of_slot h0)⟩, fun k hk => List.getElem?_set_ne (Ne.symm hk)⟩
  · rename_i c0 h0
    cases h
    exact ⟨List.length_set, .inr ⟨c0, h0, List.getElem?_set_self (lt_of_slot h0)⟩, fun k hk => List.getElem?_set_ne (Ne.symm hk)⟩
  · cases h
theorem putBack_at : ∀ {as : List Ar} {t e e' : En}, lentOnce as = true → putBack as t e = some e' → e'.length = e.length ∧ ∀ (i : Nat) (s : Slot), e'[i]? = some (some s) →
    (∃ (j : Nat) (c' : Cel), as[j]? = some (Ar.b i) ∧ t[j]? = some (some (Slot.bor c')) ∧ ((∃ c, e[i]? = some (some (Slot.own c)) ∧ s = .own c') ∨ ∃ c, e[i]? = some (some (Slot.bor c)) ∧ s = .bor c')) ∨ ((∀ j : Nat, as[j]? ≠ some (Ar.b i)) ∧ e[i]? = some (some s))
  | [], t, e, e', _, h => by
    unfold putBack at h
    cases h
    exact ⟨rfl, fun i s q => .inr ⟨fun j => by simp, q⟩⟩
  | .d d :: as, [], e, e', _, h => by simp [putBack] at h
  | .b i :: as, [], e, e', _, h => by simp [putBack] at h
  | .d d :: as, o :: t, e, e', hl, h => by
    have h : putBack as t e = some e' := by
      unfold putBack at h
      exact h
    obtain ⟨h1, h2⟩ := putBack_at (lent_tl hl) h
    refine ⟨h1, fun i s q => ?_⟩
    rcases h2 i s q with ⟨j, c', z1, z2, z3⟩ | ⟨z1, z2⟩
    · exact .inl ⟨j + 1, c', by simpa using z1, by simpa using z2, z3⟩
    · refine .inr ⟨fun j => ?_, z2⟩
      cases j with
      | zero => simp
      | succ j => simpa using z1 j
  | .b i0 :: as, none :: t, e, e', _, h => by simp [putBack] at h
  | .b i0 :: as, some (.val _) :: t, e, e', _, h => by simp [putBack] at h
  | .b i0 :: as, some (.own _) :: t, e, e', _, h => by simp [putBack] at h
  | .b i0 :: as, some (.bor c0) :: t, e, e', hl, h => by
    unfold putBack at h
    split at h
    · rename_i e1 h0
      obtain ⟨l1, o1, n1⟩ := putBack1_at h0
      obtain ⟨h1, h2⟩ := putBack_at (lent_tl hl) h
      refine ⟨h1.trans l1, fun i s q => ?_⟩
      rcases h2 i s q with ⟨j, c', z1, z2, z3⟩ | ⟨z1, z2⟩
      · have hne : i ≠ i0 := fun z => by subst z; exact lent_ne hl j z1
        rw [n1 i hne] at z3
        exact .inl ⟨j + 1, c', by simpa using z1, by simpa using z2, z3⟩
      · by_cases hi : i = i0
        · subst hi
          refine .inl ⟨0, c0, by simp, by simp, ?_⟩
          rcases o1 with ⟨c, y1, y2⟩ | ⟨c, y1, y2⟩
          · rw [y2] at z2
            cases z2
            exact .inl ⟨c, y1, rfl⟩
          · rw [y2] at z2
            cases z2
            exact .inr ⟨c, y1, rfl⟩
        · rw [n1 i hi] at z2
          refine .inr ⟨fun j => ?_, z2⟩
          cases j with
          | zero =>
            simp
            exact fun z => hi z.symm
          | succ j => simpa using z1 j
    · cases h
theorem mkArgs_at : ∀ {as : List Ar} {t : En}, mkArgs as e = some t → t.length = as.length ∧ ∀ (j : Nat) (a : Ar), as[j]? = some a → ∃ s, t[j]? = some (some s) ∧ mkArg a e = some s
  | [], t, h => by cases h; exact ⟨rfl, fun j a q => by simp at q⟩
  | a :: as, t, h => by
    unfold mkArgs at h
    split at h
    · rename_i s t' h1 h2
      cases h
      obtain ⟨z1, z2⟩ := mkArgs_at h2
      refine ⟨by simp [z1], fun j b q => ?_⟩
      cases j with
      | zero =>
        simp at q
        subst q
        exact ⟨s, by simp, h1⟩
      | succ j => simpa using z2 j b (by simpa using q)
    · cases h
theorem paired_get {α β : Type} {P : α → β → Prop} : ∀ {l : List α} {l' : List β} {j : Nat} {b : β}, Paired P l l' → l'[j]? = some b → ∃ a, l[j]? = some a ∧ P a b
  | _, _, _, _, .nil, h => by simp at h
  | _, _, 0, _, .cons p _, h => by simp at h; subst h; exact ⟨_, by simp, p⟩
  | _, _, j + 1, _, .cons _ q, h => by
    obtain ⟨a, h1, h2⟩ := paired_get (j := j) q (by simpa using h)
    exact ⟨a, by simpa using h1, h2⟩
/-- the avoided places of a callee: all but the lent cells' -/
def lentF (as : List Ar) (F : Nat → AS) : Nat → AS := fun j b => ∃ i, as[j]? = some (Ar.b i) ∧ F i b
def restW (as : List Ar) (W : AS) (F : Nat → AS) : AS := fun b => W b ∨ ∃ i, (∀ j : Nat, as[j]? ≠ some (Ar.b i)) ∧ F i b
def backF (as : List Ar) (F F' : Nat → AS) : Nat → AS := fun i b => (∃ j : Nat, as[j]? = some (Ar.b i) ∧ F' j b) ∨ ((∀ j : Nat, as[j]? ≠ some (Ar.b i)) ∧ F i b)
theorem av_lent (b : Addr) : AV (restW as W F) (lentF as F) b ↔ AV W F b := by
  constructor
  · rintro ((z | ⟨i, _, z⟩) | ⟨j, i, _, z⟩)
    · exact .inl z
    · exact .inr ⟨i, z⟩
    · exact .inr ⟨i, z⟩
  · rintro (z | ⟨i, z⟩)
    · exact .inl (.inl z)
    · by_cases q : ∃ j : Nat, as[j]? = some (Ar.b i)
      · obtain ⟨j, q⟩ := q
        exact .inr ⟨j, i, q, z⟩
      · exact .inl (.inr ⟨i, fun j y => q ⟨j, y⟩, z⟩)
/-- the callee's view -/
theorem Rel.lend (r : Rel K W G B F H σ e) (o : OAs K (AV W F) H σ vs as) (hm : mkArgs as e = some t) (hl : lentOnce as = true) :
    Rel K (restW as W F) (fun b => H b ≠ none) (fun j => (fun b => vs[j]? = some (.ref b), lentF as F j)) (lentF as F) H (vs.map some) t := by
  obtain ⟨z1, z2⟩ := mkArgs_at hm
  have hlen : vs.length = as.length := Paired.length o
  refine ⟨by rw [List.length_map, hlen, z1], fun b z => ?_, fun b z => z, fun j b ⟨i, _, z⟩ => r.ft i b z, ?_, ?_, ?_⟩
  · rcases z with z | ⟨i, _, z⟩
    · exact r.wt b z
    · exact r.ft i b z
  · rintro j b ⟨i, q, z⟩ (w | ⟨i', n, w⟩)
    · exact r.fw i b z w
    · have := r.ff i i' b z w
      subst this
      exact n j q
  · rintro j k b ⟨i, q, z⟩ ⟨i', q', z'⟩
    have := r.ff i i' b z z'
    subst this
    exact lent_inj hl q q'
  · intro j s hs
    have hj : j < as.length := by rw [← z1]; exact lt_of_slot hs
    obtain ⟨s', h1, h2⟩ := z2 j as[j] (by simp [hj])
    rw [hs] at h1
    cases h1
    obtain ⟨v, h3, h4⟩ := paired_get o (show as[j]? = some as[j] by simp [hj])
    refine ⟨v, by rw [List.getElem?_map, h3]; rfl, ?_⟩
    generalize ea : as[j] = a at h2 h4
    have ea' : as[j]? = some a := by rw [← ea]; simp [hj]
    cases a with
    | d d =>
      cases h2
      exact DpA.fewer h4 fun b => (av_lent b).mp
    | b i =>
      have h4 : σ[i]? = some (some v) := h4
      have fin : ∀ a c, v = .ref a → CelAt K (AV W F) H a c → F i a → SlotR K (AV (restW as W F) (lentF as F)) (fun b => H b ≠ none) (fun b => vs[j]? = some (.ref b), lentF as F j) H (lentF as F j) v (.bor c) := fun a c e1 e2 e3 => by
        refine ⟨a, e1, e2.step (step_sub fun b => (av_lent b).mp) fun _ q => q, ⟨i, ea', e3⟩, fun b => ?_, fun b z => .inl z⟩
        subst e1
        rw [h3]
        simp
        exact ⟨fun z => z.symm, fun z => z.symm⟩
      simp only [mkArg] at h2
      cases hc : e[i]? with
      | none => rw [hc] at h2; cases h2
      | some s0 =>
        rw [hc] at h2
        cases s0 with
        | none => cases h2
        | some s0 =>
          cases s0 with
          | val d => cases h2
          | own c =>
            cases h2
            obtain ⟨a, y1, y2, y3, y4⟩ := slot_own r hc
            rw [h4] at y1
            cases y1
            exact fin a c rfl y2 y3
          | bor c =>
            cases h2
            obtain ⟨a, y1, y2, y3, y4⟩ := slot_bor r hc
            rw [h4] at y1
            cases y1
            exact fin a c rfl y2 y3
/-- back at the caller -/
theorem Rel.unlend {F' : Nat → AS} {fp : AS} (r : Rel K W G B F H σ e) (o : OAs K (AV W F) H σ vs as) (hl : lentOnce as = true)
    (r' : Rel K (plus (restW as W F) fp) (fun b => H b ≠ none) (fun j => (fun b => vs[j]? = some (.ref b), lentF as F j)) F' H' (vs.map some) t')
    (st : Stp (restW as W F) (lentF as F) H (plus (restW as W F) fp) F' H') (hp : putBack as t' e = some e') (hfp : ∀ b, fp b → ¬ W b ∧ ∀ i, F i b → ∃ j : Nat, as[j]? = some (Ar.b i)) :
    Rel K (plus W fp) G B (backF as F F') H' σ e' ∧ Stp W F H (plus W fp) (backF as F F') H' ∧ ∀ b, AV (plus W fp) (backF as F F') b → AV (plus (restW as W F) fp) F' b := by
  have sub : ∀ b, AV (plus W fp) (backF as F F') b → AV (plus (restW as W F) fp) F' b := by
    rintro b ((z | z) | ⟨i, (⟨j, q, z⟩ | ⟨n, z⟩)⟩)
    · exact .inl (.inl (.inl z))
    · exact .inl (.inr z)
    · exact .inr ⟨j, z⟩
    · exact .inl (.inl (.inr ⟨i, n, z⟩))
  have st' : Stp W F H (plus W fp) (backF as F F') H' := by
    refine ⟨fun b ob q n => st.keep b ob q fun ⟨j, i, y, z⟩ => n ⟨i, z⟩, st.trk, fun b z q => (av_lent b).mp (st.sub b (sub b z) q), ?_⟩
    rintro i b (⟨j, q, z⟩ | ⟨n, z⟩) h
    · obtain ⟨k, i', y, w⟩ := st.subM j b z h
      exact ⟨i', w⟩
    · exact ⟨i, z⟩
  obtain ⟨l1, pb⟩ := putBack_at hl hp
  refine ⟨⟨r.len.trans l1.symm, fun b z => ?_, fun b z => st.trk b (r.gt b z), ?_, ?_, ?_, fun i s hs => ?_⟩, st', sub⟩
  · rcases z with z | z
    · exact st.trk b (r.wt b z)
    · exact r'.wt b (.inr z)
  · rintro i b (⟨j, q, z⟩ | ⟨n, z⟩)
    · exact r'.ft j b z
    · exact st.trk b (r.ft i b z)
  · rintro i b (⟨j, q, z⟩ | ⟨n, z⟩) (w | w)
    · exact r'.fw j b z (.inl (.inl w))
    · exact r'.fw j b z (.inr w)
    · exact r.fw i b z w
    · obtain ⟨j, y⟩ := (hfp b w).2 i z
      exact n j y
  · rintro i k b (⟨j, q, z⟩ | ⟨n, z⟩) (⟨j', q', z'⟩ | ⟨n', z'⟩)
    · have := r'.ff j j' b z z'
      subst this
      rw [q] at q'
      cases q'
      rfl
    · exact absurd (.inl (.inr ⟨k, n', z'⟩)) (r'.fw j b z)
    · exact absurd (.inl (.inr ⟨i, n, z⟩)) (r'.fw j' b z')
    · exact r.ff i k b z z'
  · rcases pb i s hs with ⟨j, c', y1, y2, y3⟩ | ⟨y1, y2⟩
    · -- a lent cell
      obtain ⟨v, h1, h2⟩ := paired_get o y1
      have h2 : σ[i]? = some (some v) := h2
      obtain ⟨v', h3, a, e1, h4, h5, h6, h7⟩ := r'.slot j _ y2
      rw [List.getElem?_map, h1] at h3
      have h3 : v = v' := by simpa using h3
      subst h3
      subst e1
      refine ⟨_, h2, ?_⟩
      have cel := h4.step (step_sub sub) fun _ q => q
      rcases y3 with ⟨c, q1, rfl⟩ | ⟨c, q1, rfl⟩
      · obtain ⟨a', w1, w2, w3, w4⟩ := slot_own r q1
        rw [h2] at w1
        cases w1
        refine ⟨a, rfl, cel, .inl ⟨j, y1, h5⟩, ?_⟩
        rintro b (⟨j', q, z⟩ | ⟨n, z⟩)
        · have := lent_inj hl y1 q
          subst this
          rcases h7 b z with ⟨i', q', z'⟩ | z'
          · rw [y1] at q'
            cases q'
            exact w4 b z'
          · exact fun g => z' (r.gt b g)
        · exact w4 b z
      · obtain ⟨a', w1, w2, w3, w4, w5⟩ := slot_bor r q1
        rw [h2] at w1
        cases w1
        refine ⟨a, rfl, cel, .inl ⟨j, y1, h5⟩, w4, ?_⟩
        rintro b (⟨j', q, z⟩ | ⟨n, z⟩)
        · have := lent_inj hl y1 q
          subst this
          rcases h7 b z with ⟨i', q', z'⟩ | z'
          · rw [y1] at q'
            cases q'
            exact w5 b z'
          · exact .inr fun g => z' (r.gt b g)
        · exact w5 b z
    · -- another variable
      obtain ⟨v, h1, h2⟩ := r.slot i s y2
      refine ⟨v, h1, ?_⟩
      have kp : ∀ a, F i a → ∀ ob, H a = some ob → H' a = some ob := fun a fa ob q => st.keep a ob q fun ⟨j, i', y, z⟩ => by
        have := r.ff i i' a fa z
        subst this
        exact y1 j y
      have fi : ∀ b, backF as F F' i b → F i b := by
        rintro b (⟨j, q, z⟩ | ⟨n, z⟩)
        · exact absurd q (y1 j)
        · exact z
      cases s with
      | val d => exact DpA.step st'.step h2
      | own c =>
        obtain ⟨a, w1, w2, w3, w4⟩ := h2
        exact ⟨a, w1, w2.step st'.step (kp a w3), .inr ⟨y1, w3⟩, fun b z => w4 b (fi b z)⟩
      | bor c =>
        obtain ⟨a, w1, w2, w3, w4, w5⟩ := h2
        exact ⟨a, w1, w2.step st'.step (kp a w3), .inr ⟨y1, w3⟩, w4, fun b z => w5 b (fi b z)⟩
end
end Ev
namespace Ev
open PySem L2
section
variable {K : PySem.W.Frag} {mg : Str → Option Value} {W G : AS} {B : Nat → AS × AS} {F : Nat → AS} {H : Hp} {σ : St} {e : En} {as : List Ar} {vs : List V} {XW : WX} {S : Fn} {Q : VK}
theorem plusF {W : AS} : ∀ b, plus W (fun _ => False) b → W b := fun b z => z.elim id False.elim
theorem avF {W : AS} {F : Nat → AS} (b : Addr) : AV (plus W fun _ => False) F b ↔ AV W F b := ⟨fun z => z.elim (fun z => .inl (plusF b z)) .inr, fun z => z.elim (fun z => .inl (.inl z)) .inr⟩
theorem callS_out (rel : Rel K W G B F H σ e) (o : OAs K (AV W F) H σ vs as) (h : Res K mg XW (OOut K W G B σ) W G B F H σ (callS S as e) Q) :
    Spec K mg S vs H Q fun cls d H' => XW cls d σ H' := by
  unfold callS at h
  split at h
  · rename_i t hm hl
    rw [Bool.and_eq_true] at hl
    obtain ⟨hl, hn⟩ := hl
    have hn : vs.length = S.np := (Paired.length o).trans (beq_iff_eq.mp hn)
    have r0 := rel.lend o hm hl
    refine ⟨hn, _, _, _, _, t, r0, fun b z => z, ?_⟩
    cases hS : S.S t with
    | no => rw [hS] at h; exact h
    | ok r t' =>
      rw [hS] at h
      dsimp only at h
      intro v H' F' out
      split at h
      · rename_i e' hp
        refine h v H' (backF as F F') ?_
        cases r with
        | v d =>
          obtain ⟨r1, st, p⟩ := out
          have st1 : Stp (restW as W F) (lentF as F) H (plus (restW as W F) fun _ => False) F' H' := st.weak fun b => (avF b).mp
          obtain ⟨r2, st2, sub⟩ := rel.unlend o hl (r1.fewer plusF) st1 hp fun b z => z.elim
          exact ⟨r2.fewer fun b z => .inl z, st2.weak fun b => (avF b).mpr, p.fewer fun b z => (avF b).mp (sub b ((avF b).mpr z))⟩
        | o c =>
          obtain ⟨a, fp, rfl, h1, h2, r1, st, p⟩ := out
          have hfp : ∀ b, fp b → H b = none := fun b z => Classical.byContradiction fun q => (h2 b z).1 q
          obtain ⟨r2, st2, sub⟩ := rel.unlend o hl r1 st hp fun b z => ⟨fun w => rel.wt b w (hfp b z), fun i w => absurd (hfp b z) (rel.ft i b w)⟩
          exact ⟨a, fp, rfl, h1, fun b z => ⟨fun g => rel.gt b g (hfp b z), .inl (hfp b z)⟩, r2, st2, p.step (step_sub sub) fun _ q => q⟩
      · exact h.elim
    | ex x t' =>
      rw [hS] at h
      dsimp only at h
      intro cls d H' F' out
      split at h
      · rename_i e' hp
        refine h cls d H' (backF as F F') ?_
        obtain ⟨r1, st, C, p1, p2, p3⟩ := out
        have st1 : Stp (restW as W F) (lentF as F) H (plus (restW as W F) fun _ => False) F' H' := st.weak fun b => (avF b).mp
        obtain ⟨r2, st2, sub⟩ := rel.unlend o hl (r1.fewer plusF) st1 hp fun b z => z.elim
        refine ⟨r2.fewer fun b z => .inl z, st2.weak fun b => (avF b).mpr, C, p1, p2, ?_⟩
        cases q : x.row with
        | none => rw [q] at p3; exact p3
        | some rw' =>
          rw [q] at p3
          obtain ⟨dx, v, y1, y2, y3⟩ := p3
          exact ⟨dx, v, y1, y2, y3.fewer fun b z => (avF b).mp (sub b ((avF b).mpr z))⟩
      · exact h.elim
  · exact h.elim
end
section
variable {X : Cx} {XW : WX} {x : Str} {p pos : Pos} {e : Expr} {es : List Expr}
/-- a def's call -/
theorem snd_call {gk : Bool} {S : Fn} {k : Nat} {ms : En → Rs (List Ar)} (kn : Known gk X x S k) (tk : Takes X XW) (hg : gk = true → X.A.guards = some []) (hr : Room k X.A) (hgl : Gl X x) (hdb : (x == ("__debug__" : Str)) = false)
    (he : starEach (e :: es) X.env = (false, eval e X.env) :: starEach es X.env) (hpl : (backTo pos (starEach es X.env)).any (·.1) = false) (hm : L2.PA X (e :: es) (tR X.K X.mg (OOf X.K (OAs X.K)) XW ms)) :
    PE X (.Call (.Name x p) (e :: es) [] pos) (tE X.K X.mg XW fun en => (ms en).bind fun as en => callS S as en) := by
  obtain ⟨f, fd, ps, hmg, hk, hb, F⟩ := kn
  refine ⟨fun pins s σ H Q I h => ?_⟩
  refine wpAny_Call_Name_kw (ld_glob I hgl hmg ?_ hdb)
  refine PySem.W.callWith_K (h₀ := X.base) I.ok.mod.kin hk (thn (hm.run pos pins s σ H (fun vs H1 => Spec X.K X.mg S vs H1 Q fun cls d H' => XW cls d σ H') I ?_) fun us s1 ⟨vs, H1, I1, r, q⟩ => ⟨I1.kIn, ?_⟩) he hpl
  · obtain ⟨W, G, B, F, en, rel, h⟩ := h
    refine ⟨W, G, B, F, en, rel, seq adv_of reb_out rel h fun as e1 vs H1 F1 r1 s1 o1 h => ?_⟩
    exact callS_out r1 o1 h
  · have hl : us.length = ps.length := by rw [← r.length]; exact F.len _ _ _ _ q
    have hb1 := hb s1 us I1.kIn (by rw [List.append_nil]; exact hl)
    rw [List.append_nil] at hb1
    refine wpAny_call (codeAny_mono (F.run X.A X.stack s1 H1 ⟨us, []⟩ us vs Q _ hg hr I1.env0 hb1 r q) fun rs s' hq => ?_)
    cases rs with
    | error ev => exact tk ev s' (XE.of_call I1 (fun _ _ _ z => z) hq)
    | ok fl =>
      cases fl with
      | ret u => exact I1.after hq
      | next => exact False.elim hq
      | brk => exact False.elim hq
      | cont => exact False.elim hq
end
end Ev

/-! Ev, part H: what is walked; comprehensions. -/
namespace Ev
open PySem L2 RZ
/-- a walk gives these items while its sources stand -/
def ItOk (K : PySem.W.Frag) (J : It) (vs : List V) (ds0 items : List D) : Prop :=
  ∀ A H, (∀ b, A b → H b ≠ none) → Paired (PK K A H) vs ds0 → (∀ i, i < items.length → J.go i H) ∧ J.stop items.length H ∧
    ∀ i x H', i < items.length → J.yld i H x H' → Same H H' ∧ ∃ d, items[i]? = some d ∧ DpA K A H' x d
def OIt (K : PySem.W.Frag) : OT (List PV × List D) It := fun W G B σ F H F' H' e' J p =>
  Rel K W G B F' H' σ e' ∧ Stp W F H W F' H' ∧ ∃ vs ds0, OPs K (AV W F') H' σ vs p.1 ∧ gets p.1 e' = some ds0 ∧ ItOk K J vs ds0 p.2
theorem reb_it {K : PySem.W.Frag} : Reb K (OIt K) := fun W G B σ F H F1 H1 e e1 F' H' e' b a r0 r1 st o => ⟨o.1, st.trans o.2.1, o.2.2⟩
theorem Paired.len {α β : Type} {P : α → β → Prop} {l : List α} {l' : List β} (h : Paired P l l') : l.length = l'.length := Paired.length h
section
variable {K : PySem.W.Frag} {a b : Addr} {ds es : List D}
theorem PK.listI {A : AS} {H : Hp} (h : PK K A H (.ref a) (.list ds)) : ∃ xs, SqL K H a xs ∧ DpAs K A H xs ds := by
  obtain ⟨a', xs, e, h1, h2⟩ := h.list
  cases e
  exact ⟨xs, .inl h1, h2⟩
theorem PK.tupI {A : AS} {H : Hp} (h : PK K A H (.ref a) (.tuple ds)) : ∃ xs, SqT K H a xs ∧ DpAs K A H xs ds := by
  obtain ⟨a', xs, e, h1, h2⟩ := h.tup
  cases e
  exact ⟨xs, h1.sq, h2⟩
theorem itOk_list : ItOk K (Itl K a) [.ref a] [.list ds] ds := by
  intro A H ha h
  cases h with
  | cons h _ =>
    obtain ⟨xs, h1, h2⟩ := h.listI
    have w := walk_list (K := K) (a := a) (xs := xs)
    rw [h2.length] at w
    refine ⟨fun i hi => w.goes i H hi h1, w.stops H h1, fun i x H' hi y => ?_⟩
    obtain ⟨e, y2⟩ := w.yields i H x H' hi h1 y
    subst e
    obtain ⟨d, h3, h4⟩ := h2.getV y2
    exact ⟨Same.refl _, d, h3, h4⟩
theorem itOk_tup : ItOk K (Itt K a) [.ref a] [.tuple ds] ds := by
  intro A H ha h
  cases h with
  | cons h _ =>
    obtain ⟨xs, h1, h2⟩ := h.tupI
    have w := walk_tup (K := K) (a := a) (xs := xs)
    rw [h2.length] at w
    refine ⟨fun i hi => w.goes i H hi h1, w.stops H h1, fun i x H' hi y => ?_⟩
    obtain ⟨e, y2⟩ := w.yields i H x H' hi h1 y
    subst e
    obtain ⟨d, h3, h4⟩ := h2.getV y2
    exact ⟨Same.refl _, d, h3, h4⟩
theorem itOk_str {z : Str} {vs : List V} {ds0 : List D} : ItOk K (Its z) vs ds0 (z.cps.toList.map charD) := by
  intro A H ha h
  have w := walk_str (z := z)
  have el : (z.cps.toList.map charD).length = z.cps.size := by simp
  rw [el]
  refine ⟨fun i hi => w.goes i H hi trivial, w.stops H trivial, fun i x H' hi y => ?_⟩
  obtain ⟨e, c, h1, h2⟩ := w.yields i H x H' hi trivial y
  subst e h2
  exact ⟨Same.refl _, charD c, by rw [List.getElem?_map, Array.getElem?_toList, h1]; rfl, .str _⟩
theorem itOk_range {lo hi : Int} {vs : List V} {ds0 : List D} : ItOk K (Itr lo (hi - lo).toNat) vs ds0 (rangeD lo hi) := by
  intro A H ha h
  have w := walk_range (lo := lo) (n := (hi - lo).toNat)
  have el : (rangeD lo hi).length = (hi - lo).toNat := by simp [rangeD]
  rw [el]
  refine ⟨fun i hi => w.goes i H hi trivial, w.stops H trivial, fun i x H' hi' y => ?_⟩
  obtain ⟨e, h1⟩ := w.yields i H x H' hi' trivial y
  subst e h1
  refine ⟨Same.refl _, .int (lo + i), ?_, .int _⟩
  unfold rangeD
  rw [List.getElem?_map, List.getElem?_range hi']
  rfl
theorem pair_new {A : AS} {H : Hp} {T : Addr} {x y : V} {d e : D} (n : H T = none) (ha : ∀ b, A b → H b ≠ none) (hx : DpA K A H x d) (hy : DpA K A H y e) : Same H (upd H T (.tup [x, y])) ∧ DpA K A (upd H T (.tup [x, y])) (.ref T) (.tuple [d, e]) :=
  pout_tup n ha (.cons hx (.cons hy .nil))
theorem itOk_enum : ItOk K (Ite K a) [.ref a] [.list ds] (enumD ds) := by
  intro A H ha h
  cases h with
  | cons h _ =>
    obtain ⟨xs, h1, h2⟩ := h.listI
    have w := walk_enum (K := K) (a := a) (xs := xs)
    have el : (enumD ds).length = xs.length := by simp [enumD, h2.length]
    rw [el]
    refine ⟨fun i hi => w.goes i H hi h1, w.stops H h1, fun i x H' hi y => ?_⟩
    obtain ⟨T, v, u, rfl, n, rfl, e1, e2⟩ := w.yields i H x H' hi h1 y
    cases e1
    obtain ⟨d, h3, h4⟩ := h2.getV e2
    obtain ⟨z1, z2⟩ := pair_new n ha (.int i) h4
    refine ⟨z1, _, ?_, z2⟩
    unfold enumD
    rw [List.getElem?_map, List.getElem?_zipIdx, h3]
    simp
theorem zip_at {i : Nat} {d e : D} (h1 : ds[i]? = some d) (h2 : es[i]? = some e) : (zipD ds es)[i]? = some (.tuple [d, e]) := by
  unfold zipD
  rw [List.getElem?_map, show (ds.zip es)[i]? = some (d, e) from List.getElem?_zip_eq_some.mpr ⟨h1, h2⟩]
  rfl
theorem itOk_zip : ItOk K (Itz K a b) [.ref a, .ref b] [.list ds, .list es] (zipD ds es) := by
  intro A H ha h
  cases h with
  | cons h h' =>
    cases h' with
    | cons h' _ =>
      obtain ⟨xs, h1, h2⟩ := h.listI
      obtain ⟨ys, h3, h4⟩ := h'.listI
      have w := walk_zip (K := K) (a := a) (b := b) (xs := xs) (ys := ys) rfl
      have el : (zipD ds es).length = min xs.length ys.length := by simp [zipD, h2.length, h4.length]
      rw [el]
      refine ⟨fun i hi => w.goes i H hi ⟨h1, h3⟩, w.stops H ⟨h1, h3⟩, fun i x H' hi y => ?_⟩
      obtain ⟨T, v, u, rfl, n, rfl, e1, e2⟩ := w.yields i H x H' hi ⟨h1, h3⟩ y
      obtain ⟨d, h5, h6⟩ := h2.getV e1
      obtain ⟨d', h7, h8⟩ := h4.getV e2
      obtain ⟨z1, z2⟩ := pair_new n ha h6 h8
      exact ⟨z1, _, zip_at h5 h7, z2⟩
theorem itOk_zipT : ItOk K (ItzT K a b) [.ref a, .ref b] [.tuple ds, .tuple es] (zipD ds es) := by
  intro A H ha h
  cases h with
  | cons h h' =>
    cases h' with
    | cons h' _ =>
      obtain ⟨xs, h1, h2⟩ := h.tupI
      obtain ⟨ys, h3, h4⟩ := h'.tupI
      have el : (zipD ds es).length = min xs.length ys.length := by simp [zipD, h2.length, h4.length]
      rw [el]
      refine ⟨fun i hi => ⟨xs, ys, xs[i]'(by omega), ys[i]'(by omega), h1, h3, by simp [show i < xs.length by omega], by simp [show i < ys.length by omega]⟩, ⟨xs, ys, h1, h3, by omega⟩, fun i x H' hi y => ?_⟩
      obtain ⟨T, v, u, rfl, n, rfl, e1, e2⟩ := y
      obtain ⟨d, h5, h6⟩ := h2.getV (e1 xs h1)
      obtain ⟨d', h7, h8⟩ := h4.getV (e2 ys h3)
      obtain ⟨z1, z2⟩ := pair_new n ha h6 h8
      exact ⟨z1, _, zip_at h5 h7, z2⟩
end
section
variable {X : Cx} {mg : Str → Option Value} {XW : WX} {tg ex ex2 : Expr} {te : TE} {m m2 : En → Rs PV} {p pos tpos : Pos} {elts : List Expr} {kk : Nat}
theorem PIimp {t t' : TI} (h : PI X tg ex t) (i : ∀ σ H R, t' σ H R → t σ H R) : PI X tg ex t' := ⟨fun pins s σ H R I q => h.run pins s σ H R I (i σ H R q)⟩
/-- a list, a tuple or a text, whichever it is -/
theorem pi_any (he : PE X ex te) : PI X tg ex (fun σ H R => te σ H fun x H1 => (∃ a, x = .ref a ∧ (∃ xs, SqL X.K H1 a xs) ∧ R (Itl X.K a) H1) ∨ (∃ a, x = .ref a ∧ (∃ xs, SqT X.K H1 a xs) ∧ R (Itt X.K a) H1) ∨ ∃ z, x = .str z ∧ R (Its z) H1) := by
  refine ⟨fun pins s σ H R I h => thn (he.run pins s σ H _ I h) fun v s1 ⟨x, H1, I1, r1, q1⟩ => ?_⟩
  have mk : ∀ {tn : Nat → Heap → Prop} {J : It} (ob : Obj), Turn X.prog X.w X.K tg J [s1.heap.objs.size] s1.heap.objs.size tn → tn 0 (s1.heap.push ob) → R J H1 →
      PIE X pins σ tg R (.ref s1.heap.objs.size) { s1 with heap := s1.heap.push ob } := fun {tn J} ob T h0 q => by
    refine ⟨s1.heap.objs.size, [s1.heap.objs.size], tn, J, H1, rfl, I1.kept (t' := s1.toks) (fun _ _ e => Heap.get?_push_of_some _ e), T, h0, fun c hc => ?_, q⟩
    obtain rfl : c = s1.heap.objs.size := by simpa using hc
    exact I1.fpOk (Nat.le_refl _) (I1.hok.fresh (Nat.le_refl _))
  rcases q1 with ⟨a, rfl, ⟨xs, hq⟩, q⟩ | ⟨a, rfl, ⟨xs, hq⟩, q⟩ | ⟨z, rfl, q⟩
  · cases r1
    obtain ⟨its, rv, pl, hz⟩ := I1.list hq
    exact wpAny_pyIter_list pl.isList (mk _ (turn_list a _) ⟨_, Heap.get?_push_size _ rfl, rfl, rfl⟩ q)
  · cases r1
    obtain ⟨its, rv, pl, hz⟩ := I1.tuple hq
    exact wpAny_pyIter_tuple (show s1.heap.IsTuple a its.toArray from pl) (mk _ (turn_tuple a _) ⟨_, Heap.get?_push_size _ rfl, rfl, rfl⟩ q)
  · obtain ⟨t, rfl⟩ := r1
    cases ha : z.cps.all (· < 128)
    · exact wpAny_pyIter_wide ha (mk _ (turn_str _ z t "str_iterator" (.inr rfl)) ⟨_, Heap.get?_push_size _ rfl, rfl, rfl⟩ q)
    · exact wpAny_pyIter_ascii ha (mk _ (turn_str _ z t "str_ascii_iterator" (.inl rfl)) ⟨_, Heap.get?_push_size _ rfl, rfl, rfl⟩ q)
theorem gets1 {x : PV} {e : En} {d : D} (h : x.get e = some d) : gets [x] e = some [d] := by
  unfold gets
  rw [h]
  rfl
theorem gets2 {x y : PV} {e : En} {d d' : D} (h : x.get e = some d) (h' : y.get e = some d') : gets [x, y] e = some [d, d'] := by
  unfold gets
  rw [h, gets1 h']
theorem sndI_val (he : PE X ex (tE X.K mg XW m)) : PI X tg ex (tR X.K mg (OIt X.K) XW fun e => (m e).bind fun p e => match (p.get e).bind itemsD with
      | some ds => .ok ([p], ds) e
      | none => .no) := by
  refine PIimp (pi_any he) fun σ H R h => ?_
  obtain ⟨W, G, B, F, e, rel, h⟩ := h
  refine ⟨W, G, B, F, e, rel, seq adv_out reb_it rel h fun p e1 v H1 F1 r1 s1 o1 h => ?_⟩
  split at h
  · rename_i ds hd
    obtain ⟨d, h1, h2⟩ := Option.bind_eq_some_iff.mp hd
    have pk := o1.pk r1 h1
    unfold itemsD at h2
    split at h2
    · cases h2
      obtain ⟨a, xs, rfl, h3, h4⟩ := pk.list
      exact .inl ⟨a, rfl, ⟨xs, .inl h3⟩, h _ _ _ ⟨r1, .refl, [.ref a], _, .cons o1 .nil, gets1 h1, itOk_list⟩⟩
    · cases h2
      obtain ⟨a, xs, rfl, h3, h4⟩ := pk.tup
      exact .inr (.inl ⟨a, rfl, ⟨xs, h3.sq⟩, h _ _ _ ⟨r1, .refl, [.ref a], _, .cons o1 .nil, gets1 h1, itOk_tup⟩⟩)
    · rename_i z
      cases h2
      cases pk.str
      exact .inr (.inr ⟨z, rfl, h _ _ _ ⟨r1, .refl, [.str z], _, .cons o1 .nil, gets1 h1, itOk_str⟩⟩)
    · cases h2
  · exact h.elim
theorem sndI_range1 (hg : Gl X "range") (hm : X.mg "range" = none) (hs : starEach [ex] X.env = [(false, eval ex X.env)]) (ha : PE X ex (tE X.K mg XW m)) :
    PI X tg (.Call (.Name "range" p) [ex] [] pos) (tR X.K mg (OIt X.K) XW fun e => (m e).bind fun p e => match (p.get e).bind range1D with
      | some ds => .ok ([], ds) e
      | none => .no) := by
  refine PIimp (pi_range1 hg hm (pa_cons ha pa_nil hs) hs) fun σ H R h => ?_
  obtain ⟨W, G, B, F, e, rel, h⟩ := h
  refine ⟨W, G, B, F, e, rel, seq adv_out reb_it rel h fun x e1 v H1 F1 r1 s1 o1 h => ?_⟩
  split at h
  · rename_i ds hd
    obtain ⟨d, h1, h2⟩ := Option.bind_eq_some_iff.mp hd
    have pk := o1.pk r1 h1
    unfold range1D at h2
    split at h2
    · rename_i n
      split at h2
      · rename_i hz
        cases h2
        cases pk.int
        refine ⟨n, rfl, hz.1, hz.2, h _ _ _ ⟨r1, .refl, [], [], .nil, rfl, ?_⟩⟩
        have q := itOk_range (K := X.K) (lo := 0) (hi := n) (vs := []) (ds0 := [])
        rw [Int.sub_zero] at q
        exact q
      · cases h2
    · cases h2
  · exact h.elim
theorem sndI_range2 (hg : Gl X "range") (hm : X.mg "range" = none) (hs : starEach [ex, ex2] X.env = [(false, eval ex X.env), (false, eval ex2 X.env)]) (hs2 : starEach [ex2] X.env = [(false, eval ex2 X.env)])
    (ha : PE X ex (tE X.K mg XW m)) (hb : PE X ex2 (tE X.K mg XW m2)) :
    PI X tg (.Call (.Name "range" p) [ex, ex2] [] pos) (tR X.K mg (OIt X.K) XW fun e => (m e).bind fun p e => (m2 e).bind fun q e => match p.get e, q.get e with
      | some x, some y => (match range2D x y with
        | some ds => .ok ([], ds) e
        | none => .no)
      | _, _ => .no) := by
  refine PIimp (pi_range2 hg hm (pa_cons ha (pa_cons hb pa_nil hs2) (by rw [hs, hs2])) hs hs2) fun σ H R h => ?_
  obtain ⟨W, G, B, F, e, rel, h⟩ := h
  refine ⟨W, G, B, F, e, rel, seq adv_out reb_it rel h fun x e1 v H1 F1 r1 s1 o1 h => ?_⟩
  refine ⟨W, G, B, F1, e1, r1, seq adv_out reb_it r1 h fun y e2 w H2 F2 r2 s2 o2 h => ?_⟩
  have o1 := o1.step s2.step
  split at h
  · rename_i d d' h1 h2
    split at h
    · rename_i ds hd
      have p1 := o1.pk r2 h1
      have p2 := o2.pk r2 h2
      unfold range2D at hd
      split at hd
      · rename_i lo hi
        split at hd
        · rename_i hz
          cases hd
          cases p1.int
          cases p2.int
          exact ⟨lo, hi, rfl, ⟨hz.1.1, hz.1.2, hz.2.1, hz.2.2⟩, h _ _ _ ⟨r2, .refl, [], [], .nil, rfl, itOk_range⟩⟩
        · cases hd
      · cases hd
    · exact h.elim
  · exact h.elim
theorem sndI_zip (hg : Gl X "zip") (hm : X.mg "zip" = none) (hs : starEach [ex, ex2] X.env = (false, eval ex X.env) :: starEach [ex2] X.env) (hs2 : starEach [ex2] X.env = (false, eval ex2 X.env) :: starEach [] X.env) (hpl : (backTo pos (starEach [ex2] X.env)).any (·.1) = false)
    (ha : PE X ex (tE X.K mg XW m)) (hb : PE X ex2 (tE X.K mg XW m2)) :
    PI X (.Tuple elts kk tpos) (.Call (.Name "zip" p) [ex, ex2] [] pos) (tR X.K mg (OIt X.K) XW fun e => (m e).bind fun p e => (m2 e).bind fun q e => match p.get e, q.get e with
      | some x, some y => (match zipItems x y with
        | some ds => .ok ([p, q], ds) e
        | none => .no)
      | _, _ => .no) := by
  refine PIimp (pi_zipA hg hm (pa_cons ha (pa_cons hb pa_nil hs2) hs) hs hpl) fun σ H R h => ?_
  obtain ⟨W, G, B, F, e, rel, h⟩ := h
  refine ⟨W, G, B, F, e, rel, seq adv_out reb_it rel h fun x e1 v H1 F1 r1 s1 o1 h => ?_⟩
  refine ⟨W, G, B, F1, e1, r1, seq adv_out reb_it r1 h fun y e2 w H2 F2 r2 s2 o2 h => ?_⟩
  have o1 := o1.step s2.step
  split at h
  · rename_i d d' h1 h2
    split at h
    · rename_i ds hd
      have p1 := o1.pk r2 h1
      have p2 := o2.pk r2 h2
      unfold zipItems at hd
      split at hd
      · cases hd
        obtain ⟨a, xs, rfl, h3, h4⟩ := p1.list
        obtain ⟨b, ys, rfl, h5, h6⟩ := p2.list
        exact ⟨a, b, xs, ys, rfl, .inl ⟨.inl h3, .inl h5, h _ _ _ ⟨r2, .refl, [.ref a, .ref b], _, .cons o1 (.cons o2 .nil), gets2 h1 h2, itOk_zip⟩⟩⟩
      · cases hd
        obtain ⟨a, xs, rfl, h3, h4⟩ := p1.tup
        obtain ⟨b, ys, rfl, h5, h6⟩ := p2.tup
        exact ⟨a, b, xs, ys, rfl, .inr ⟨h3.sq, h5.sq, h _ _ _ ⟨r2, .refl, [.ref a, .ref b], _, .cons o1 (.cons o2 .nil), gets2 h1 h2, itOk_zipT⟩⟩⟩
      · cases hd
    · exact h.elim
  · exact h.elim
theorem sndI_enum (hg : Gl X "enumerate") (hm : X.mg "enumerate" = none) (hs : starEach [ex] X.env = [(false, eval ex X.env)]) (ha : PE X ex (tE X.K mg XW m)) :
    PI X (.Tuple elts kk tpos) (.Call (.Name "enumerate" p) [ex] [] pos) (tR X.K mg (OIt X.K) XW fun e => (m e).bind fun p e => match (p.get e).bind enumItems with
      | some ds => .ok ([p], ds) e
      | none => .no) := by
  refine PIimp (pi_enum hg hm (pa_cons ha pa_nil hs) hs) fun σ H R h => ?_
  obtain ⟨W, G, B, F, e, rel, h⟩ := h
  refine ⟨W, G, B, F, e, rel, seq adv_out reb_it rel h fun x e1 v H1 F1 r1 s1 o1 h => ?_⟩
  split at h
  · rename_i ds hd
    obtain ⟨d, h1, h2⟩ := Option.bind_eq_some_iff.mp hd
    have pk := o1.pk r1 h1
    cases d <;> cases h2
    obtain ⟨a, xs, rfl, h5, h6⟩ := pk.list
    exact ⟨a, xs, rfl, .inl h5, h _ _ _ ⟨r1, .refl, [.ref a], _, .cons o1 .nil, gets1 h1, itOk_enum⟩⟩
  · exact h.elim
end
end Ev

/-! Ev, part I: targets, comprehensions. -/
namespace Ev
open PySem L2 RZ
mutual
def tgS : Tg → List Nat
  | .nm i => [i]
  | .tup ts => tgsS ts
def tgsS : Tgs → List Nat
  | .nil => []
  | .cons t ts => tgS t ++ tgsS ts
end
def tgsN : Tgs → Nat
  | .nil => 0
  | .cons _ ts => tgsN ts + 1
def gT (K : PySem.W.Frag) (t : Tg) : TG := fun v σ H Q => ∃ W G B F e d e', Rel K W G B F H σ e ∧ DpA K (AV W F) H v d ∧ putTg t d e = some e' ∧
  ∀ σ', Rel K W G B F H σ' e' → σ'.length = σ.length → (∀ j, j ∉ tgS t → σ'[j]? = σ[j]?) → Q σ' H
def gTs (K : PySem.W.Frag) (t : Tgs) : TGs := fun vs σ H Q => ∃ W G B F e ds e', Rel K W G B F H σ e ∧ DpAs K (AV W F) H vs ds ∧ putTgs t ds e = some e' ∧
  ∀ σ', Rel K W G B F H σ' e' → σ'.length = σ.length → (∀ j, j ∉ tgsS t → σ'[j]? = σ[j]?) → Q σ' H
theorem PGimp {X : Cx} {a : Expr} {t t' : TG} (h : PG X a t) (i : ∀ v σ H Q, t' v σ H Q → t v σ H Q) : PG X a t' := ⟨fun pins s σ H v u Q I r q => h.run pins s σ H v u Q I r (i v σ H Q q)⟩
theorem PGsimp {X : Cx} {a : List Expr} {t t' : TGs} (h : PGs X a t) (i : ∀ v σ H Q, t' v σ H Q → t v σ H Q) : PGs X a t' := ⟨fun pins s σ H v u Q I r q => h.run pins s σ H v u Q I r (i v σ H Q q)⟩
theorem putTgs_len : ∀ {ts : Tgs} {ds : List D} {e e' : En}, putTgs ts ds e = some e' → ds.length = tgsN ts
  | .nil, [], _, _, _ => rfl
  | .nil, _ :: _, _, _, h => by simp [putTgs] at h
  | .cons t ts, [], _, _, h => by simp [putTgs] at h
  | .cons t ts, d :: ds, e, e', h => by
    unfold putTgs at h
    split at h
    · rw [List.length_cons, putTgs_len h]; rfl
    · cases h
section
variable {X : Cx}
theorem sndG_nm {i : Nat} {ex : Expr} (h : PG X ex (gName i)) : PG X ex (gT X.K (.nm i)) := by
  refine PGimp h fun v σ H Q q => ?_
  obtain ⟨W, G, B, F, e, d, e', rel, p, hp, q⟩ := q
  simp only [putTg] at hp
  have fin : ∀ (hi : i < e.length), e' = e.set i (some (.val d)) → Q (σ.set i (some v)) H := fun hi ee => by
    subst ee
    exact q _ (rel.putVal p hi) List.length_set fun j hj => List.getElem?_set_ne fun z => hj (by simp [tgS, z])
  cases hs : e[i]? with
  | none => rw [hs] at hp; cases hp
  | some s =>
    have hi := lt_of_slot hs
    rw [hs] at hp
    cases s with
    | none => cases hp; exact fin hi rfl
    | some s =>
      cases s with
      | bor c => cases hp
      | val c => cases hp; exact fin hi rfl
      | own c => cases hp; exact fin hi rfl
theorem sndG_tup {ts : Tgs} {es : List Expr} {k : Nat} {pos : Pos} (hc : X.calm = true) (h : PGs X es (gTs X.K ts)) (hn : (assignEach es X.env).length = tgsN ts) (hst : (assignEach es X.env).findIdx? (·.1) = none) :
    PG X (.Tuple es k pos) (gT X.K (.tup ts)) := by
  refine PGimp (pg_tup hc h hn hst) fun v σ H Q q => ?_
  obtain ⟨W, G, B, F, e, d, e', rel, p, hp, q⟩ := q
  cases d <;> first | (simp [putTg] at hp; done) | skip
  rename_i ds
  have hp : putTgs ts ds e = some e' := by simpa [putTg] using hp
  cases p with
  | tup h1 h2 => exact ⟨_, _, rfl, h1.sq, h2.length.trans (putTgs_len hp), W, G, B, F, e, ds, e', rel, h2, hp, q⟩
theorem sndGs_nil : PGs X [] (gTs X.K .nil) := by
  refine PGsimp pgs_nil fun vs σ H Q q => ?_
  obtain ⟨W, G, B, F, e, ds, e', rel, p, hp, q⟩ := q
  cases ds with
  | nil =>
    cases p
    simp [putTgs] at hp
    subst hp
    exact ⟨rfl, q σ rel rfl fun _ _ => rfl⟩
  | cons d ds => simp [putTgs] at hp
theorem sndGs_cons {t : Tg} {ts : Tgs} {a : Expr} {es : List Expr} (hs : (assignEach (a :: es) X.env).map (·.2) = assign a X.env :: (assignEach es X.env).map (·.2)) (h : PG X a (gT X.K t)) (h2 : PGs X es (gTs X.K ts)) : PGs X (a :: es) (gTs X.K (.cons t ts)) := by
  refine PGsimp (pgs_cons h h2 hs) fun vs σ H Q q => ?_
  obtain ⟨W, G, B, F, e, ds, e', rel, p, hp, q⟩ := q
  cases ds with
  | nil => simp [putTgs] at hp
  | cons d ds =>
    cases p with
    | cons p ps =>
      unfold putTgs at hp
      split at hp
      · rename_i e1 h1
        refine ⟨_, _, rfl, W, G, B, F, e, d, e1, rel, p, h1, fun σ1 r1 l1 n1 => ?_⟩
        refine ⟨W, G, B, F, e1, ds, e', r1, ps, hp, fun σ2 r2 l2 n2 => ?_⟩
        exact q σ2 r2 (l2.trans l1) fun j hj => by
          simp only [tgsS, List.mem_append, not_or] at hj
          exact (n2 j hj.2).trans (n1 j hj.1)
      · cases hp
end

/-! ### the block's own variables -/
theorem wipeE_len (e : En) : ∀ own : List Nat, (wipeE e own).length = e.length
  | [] => rfl
  | i :: is => by unfold wipeE; rw [List.length_set, wipeE_len e is]
theorem wipeE_out {e : En} {j : Nat} : ∀ {own : List Nat}, j ∉ own → (wipeE e own)[j]? = e[j]?
  | [], _ => rfl
  | i :: is, h => by
    simp only [List.mem_cons, not_or] at h
    unfold wipeE
    rw [List.getElem?_set_ne (Ne.symm h.1), wipeE_out h.2]
theorem wipeE_in {e : En} {j : Nat} {s : Slot} : ∀ {own : List Nat}, j ∈ own → (wipeE e own)[j]? ≠ some (some s)
  | [], h => by cases h
  | i :: is, h => by
    unfold wipeE
    intro z
    rcases get_set z with ⟨_, q⟩ | ⟨n, q⟩
    · cases q
    · rcases List.mem_cons.mp h with e | h
      · exact n e
      · exact wipeE_in h q
theorem backE_len (e0 e : En) : ∀ own : List Nat, (backE e0 own e).length = e.length
  | [] => rfl
  | i :: is => by
    unfold backE
    split
    · rw [List.length_set, backE_len e0 e is]
    · exact backE_len e0 e is
theorem backE_out {e0 e : En} {j : Nat} : ∀ {own : List Nat}, j ∉ own → (backE e0 own e)[j]? = e[j]?
  | [], _ => rfl
  | i :: is, h => by
    simp only [List.mem_cons, not_or] at h
    unfold backE
    split
    · rw [List.getElem?_set_ne (Ne.symm h.1), backE_out h.2]
    · exact backE_out h.2
theorem backE_in {e0 e : En} {j : Nat} (hl : e.length = e0.length) : ∀ {own : List Nat}, j ∈ own → (backE e0 own e)[j]? = e0[j]?
  | [], h => by cases h
  | i :: is, h => by
    unfold backE
    by_cases hj : j = i
    · subst hj
      split
      · rename_i s hs
        rw [List.getElem?_set_self (by rw [backE_len, hl]; exact lt_of_slot hs), hs]
      · rename_i hs
        rw [hs]
        have : ¬ j < e0.length := fun z => by rw [List.getElem?_eq_getElem z] at hs; cases hs
        exact List.getElem?_eq_none (by rw [backE_len, hl]; omega)
    · have h : j ∈ is := by
        rcases List.mem_cons.mp h with e | h
        · exact absurd e hj
        · exact h
      split
      · rw [List.getElem?_set_ne (Ne.symm hj), backE_in hl h]
      · exact backE_in hl h
theorem wipe_get_out {σ : St} {j : Nat} : ∀ {own : List Nat}, j ∉ own → (wipe σ own)[j]? = σ[j]?
  | [], _ => rfl
  | i :: is, h => by
    simp only [List.mem_cons, not_or] at h
    unfold wipe
    rw [List.getElem?_set_ne (Ne.symm h.1), wipe_get_out h.2]
theorem wipe_get_in {σ : St} {j : Nat} (hj : j < σ.length) : ∀ {own : List Nat}, j ∈ own → (wipe σ own)[j]? = some none
  | [], h => by cases h
  | i :: is, h => by
    unfold wipe
    by_cases hi : j = i
    · subst hi
      exact List.getElem?_set_self (by rw [wipe_length]; exact hj)
    · rw [List.getElem?_set_ne (Ne.symm hi)]
      rcases List.mem_cons.mp h with e | h
      · exact absurd e hi
      · exact wipe_get_in hj h
theorem wipe_same {σ σ' : St} {own : List Nat} (hl : σ'.length = σ.length) (h : ∀ j, j ∉ own → σ'[j]? = σ[j]?) : wipe σ' own = wipe σ own := by
  refine List.ext_getElem? fun j => ?_
  by_cases hj : j ∈ own
  · by_cases hlt : j < σ.length
    · rw [wipe_get_in (by rw [hl]; exact hlt) hj, wipe_get_in hlt hj]
    · rw [List.getElem?_eq_none (by rw [wipe_length]; omega), List.getElem?_eq_none (by rw [wipe_length]; omega)]
  · rw [wipe_get_out hj, wipe_get_out hj, h j hj]
theorem mayWipe_at {e : En} {j : Nat} : ∀ {own : List Nat}, mayWipe e own = true → j ∈ own → (∀ c, e[j]? ≠ some (some (.own c))) ∧ ∀ c, e[j]? ≠ some (some (.bor c))
  | [], _, h => by cases h
  | i :: is, hm, h => by
    unfold mayWipe at hm
    rw [Bool.and_eq_true] at hm
    rcases List.mem_cons.mp h with q | h
    · subst q
      refine ⟨fun c z => ?_, fun c z => ?_⟩
      · rw [z] at hm; simp at hm
      · rw [z] at hm; simp at hm
    · exact mayWipe_at hm.2 h
section
variable {K : PySem.W.Frag} {W W' G : AS} {B : Nat → AS × AS} {F F' : Nat → AS} {H H' : Hp} {σ : St} {e e1 : En} {own : List Nat}
theorem Rel.wipe (r : Rel K W G B F H σ e) (own : List Nat) : Rel K W G B F H (L2.wipe σ own) (wipeE e own) := by
  refine ⟨by rw [wipe_length, wipeE_len]; exact r.len, r.wt, r.gt, r.ft, r.fw, r.ff, fun j s h => ?_⟩
  by_cases hj : j ∈ own
  · exact absurd h (wipeE_in hj)
  · rw [wipeE_out hj] at h
    rw [wipe_get_out hj]
    exact r.slot j s h
theorem Rel.back (r0 : Rel K W G B F H σ e1) (st : Stp W F H W' F' H') (r : Rel K W' G B F' H' (L2.wipe σ own) e) (hm : mayWipe e1 own = true) : Rel K W' G B F' H' σ (backE e1 own e) := by
  have hl : e.length = e1.length := by rw [← r.len, ← r0.len, wipe_length]
  refine ⟨by rw [backE_len, hl]; exact r0.len, r.wt, r.gt, r.ft, r.fw, r.ff, fun j s h => ?_⟩
  by_cases hj : j ∈ own
  · rw [backE_in hl hj] at h
    obtain ⟨v, h1, h2⟩ := r0.slot j s h
    obtain ⟨m1, m2⟩ := mayWipe_at hm hj
    cases s with
    | val d => exact ⟨v, h1, DpA.step st.step h2⟩
    | own c => exact absurd h (m1 c)
    | bor c => exact absurd h (m2 c)
  · rw [backE_out hj] at h
    obtain ⟨v, h1, h2⟩ := r.slot j s h
    rw [wipe_get_out hj] at h1
    exact ⟨v, h1, h2⟩
/-- others' cell changes -/
theorem Rel.writeW {a : Addr} {o : HO} (r : Rel K W G B F H σ e) (ha : W a) : Rel K W G B F (upd H a o) σ e ∧ Step (AV W F) H (AV W F) (upd H a o) := by
  have trk : ∀ b, H b ≠ none → upd H a o b ≠ none := fun b h => by
    by_cases q : b = a
    · subst q; rw [upd_same]; simp
    · rw [upd_ne q]; exact h
  have st : Step (AV W F) H (AV W F) (upd H a o) := ⟨fun b u q n => by
    rw [upd_ne fun z => n (by subst z; exact .inl ha)]
    exact q, trk, fun b z _ => z⟩
  refine ⟨⟨r.len, fun b z => trk b (r.wt b z), fun b z => trk b (r.gt b z), fun j b z => trk b (r.ft j b z), r.fw, r.ff, fun j s h => ?_⟩, st⟩
  obtain ⟨v, h1, h2⟩ := r.slot j s h
  refine ⟨v, h1, ?_⟩
  cases s with
  | val d => exact DpA.step st h2
  | own c =>
    obtain ⟨a', y1, y2, y3, y4⟩ := h2
    exact ⟨a', y1, y2.step st fun u q => by rw [upd_ne fun z => r.fw j a' y3 (by rw [z]; exact ha)]; exact q, y3, y4⟩
  | bor c =>
    obtain ⟨a', y1, y2, y3, y4⟩ := h2
    exact ⟨a', y1, y2.step st fun u q => by rw [upd_ne fun z => r.fw j a' y3 (by rw [z]; exact ha)]; exact q, y3, y4⟩
theorem Stp.writeNew {a : Addr} {o : HO} (st : Stp W F H W' F' H') (n : H a = none) : Stp W F H W' F' (upd H' a o) :=
  ⟨fun b u q m => by rw [upd_ne (ne_of_none q n)]; exact st.keep b u q m, fun b q => by
    by_cases z : b = a
    · subst z; rw [upd_same]; simp
    · rw [upd_ne z]; exact st.trk b q, st.sub, st.subM⟩
/-- the sources of a walk stand -/
theorem stands_pk {ps : List PV} {vs : List V} {ds0 : List D} (r0 : Rel K W G B F H σ e1) (st : Stp W F H W' F' H') (r : Rel K W' G B F' H' (L2.wipe σ own) e) (hm : mayWipe e1 own = true) (o : OPs K (AV W F) H σ vs ps) (g : gets ps e1 = some ds0)
    (hs : stands (wipeE e1 own) ps e) : Paired (PK K (AV W' F') H') vs ds0 := by
  induction o generalizing ds0 with
  | nil => cases g; exact .nil
  | @cons v p vs ps o1 os ih =>
    unfold gets at g
    split at g
    · rename_i d ds' h1 h2
      cases g
      cases p with
      | r x =>
        have hs : stands (wipeE e1 own) ps e := hs
        refine .cons ?_ (ih h2 hs)
        simp only [PV.get, Option.some.injEq] at h1
        subst h1
        exact .inl (DpA.step st.step o1)
      | sl i =>
        obtain ⟨q, hs⟩ : e[i]? = (wipeE e1 own)[i]? ∧ stands (wipeE e1 own) ps e := hs
        refine .cons ?_ (ih h2 hs)
        have o1 : σ[i]? = some (some v) := o1
        simp only [PV.get] at h1
        split at h1
        · rename_i s hsl
          cases h1
          obtain ⟨u, y1, y2⟩ := r0.slot i s hsl
          rw [o1] at y1
          cases y1
          have notIn : (∀ d, s ≠ .val d) → i ∉ own := fun nv hi => by
            obtain ⟨m1, m2⟩ := mayWipe_at hm hi
            cases s with
            | val d => exact nv d rfl
            | own c => exact m1 c hsl
            | bor c => exact m2 c hsl
          cases s with
          | val d => exact .inl (DpA.step st.step y2)
          | own c =>
            have ni := notIn fun _ z => nomatch z
            rw [wipeE_out ni, hsl] at q
            obtain ⟨u, z1, z2⟩ := r.slot i _ q
            rw [wipe_get_out ni, o1] at z1
            cases z1
            obtain ⟨a, w1, w2, _⟩ := z2
            exact .inr ⟨a, c, w1, rfl, w2⟩
          | bor c =>
            have ni := notIn fun _ z => nomatch z
            rw [wipeE_out ni, hsl] at q
            obtain ⟨u, z1, z2⟩ := r.slot i _ q
            rw [wipe_get_out ni, o1] at z1
            cases z1
            obtain ⟨a, w1, w2, _⟩ := z2
            exact .inr ⟨a, c, w1, rfl, w2⟩
        · cases h1
    · cases g
end
end Ev

/-! Ev, part J: comprehensions; tests; cells changed; further forms. -/
namespace Ev
open PySem L2 RZ
abbrev XWF : WX := fun _ _ _ _ => False
noncomputable def lcM (own : List Nat) (tg : Tg) (mi : En → Rs (List PV × List D)) (mc : En → Rs Bool) (me : En → Rs PV) (e : En) : Rs PV :=
  (mi e).bind fun p e => match mayWipe e own with
    | false => .no
    | true => (compL (fun d e => lcTurn own tg mc me d e) (stands (wipeE e own) p.1) p.2 [] (wipeE e own)).bind fun ds e' => .ok (.r (.o (.lst ds))) (backE e own e')
section
variable {K : PySem.W.Frag} {mg : Str → Option Value} {XW : WX}
theorem av_plus {W fp : AS} {F : Nat → AS} (b : Addr) (h : AV (plus W fp) F b) : AV W F b ∨ fp b := by
  rcases h with (h | h) | h
  · exact .inl (.inl h)
  · exact .inr h
  · exact .inl (.inr h)
theorem noEx_ok {α : Type} {r : Rs α} {a : α} {e : En} (h : r.noEx = .ok a e) : r = .ok a e := by
  cases r <;> first | exact h | cases h
theorem lc_read {own : List Nat} {tg : Tg} {mi : En → Rs (List PV × List D)} {mc : En → Rs Bool} {me : En → Rs PV} {σ : St} {H : Hp} {Q : VK} (htg : ∀ j, j ∈ tgS tg → j ∈ own) (h : tE K mg XW (lcM own tg mi mc me) σ H Q) :
    tLc (tR K mg (OIt K) XW mi) (gT K tg) (tTst K mg XWF mc) (tE K mg XWF me) own σ H Q := by
  obtain ⟨W, G, B, F, e, rel, h⟩ := h
  have adv : Adv K (OIt K) fun _ _ _ _ _ => True := fun W G B σ F H e F' H' e' b a r o => ⟨o.1, o.2.1, trivial⟩
  refine ⟨W, G, B, F, e, rel, ?_⟩
  have h : Res K mg XW (OOut K W G B σ) W G B F H σ ((mi e).bind fun p e => match mayWipe e own with
    | false => .no
    | true => (compL (fun d e => lcTurn own tg mc me d e) (stands (wipeE e own) p.1) p.2 [] (wipeE e own)).bind fun ds e' => .ok (.r (.o (.lst ds))) (backE e own e')) Q := h
  cases hmi : mi e with
  | no => rw [hmi] at h; exact h
  | ex x e1 => rw [hmi] at h; exact h
  | ok p e1 =>
    rw [hmi] at h
    intro J H1 F1 o
    obtain ⟨r1, st1, vs0, ds0, ops, gs, itok⟩ := o
    rw [Rs.bind_ok] at h
    cases hm : mayWipe e1 own with
    | false => rw [hm] at h; exact h.elim
    | true =>
      rw [hm] at h
      dsimp only at h
      intro Dn hDn
      generalize hg : stands (wipeE e1 own) p.1 = g at h
      -- the outcome, from a turn on
      refine ⟨fun i m Hi => m = p.2.length - i ∧ i ≤ p.2.length ∧ ∃ Fi ei acc accD, Rel K (plus W fun b => b = Dn) G B Fi Hi (wipe σ own) ei ∧ Stp W F1 H1 (plus W fun b => b = Dn) Fi Hi ∧ Hi Dn = some (.lst acc) ∧
          DpAs K (AV (plus W fun b => b = Dn) Fi) Hi acc accD ∧ Res K mg XW (OOut K W G B σ) W G B F1 H1 σ ((compL (fun d e => lcTurn own tg mc me d e) g (p.2.drop i) accD ei).bind fun ds e' => .ok (.r (.o (.lst ds))) (backE e1 own e')) Q,
        ⟨_, rfl, Nat.zero_le _, F1, wipeE e1 own, [], [], (r1.wipe own).ext (same_upd hDn) (fun b z => ?_), stp_of (same_upd hDn) (fun b z q => ?_) (fun i b z _ => ⟨i, z⟩), upd_same, .nil, ?_⟩, ?_⟩
      · rcases z with z | z
        · exact .inl z
        · subst z; exact .inr ⟨hDn, by rw [upd_same]; simp⟩
      · rcases av_plus b z with z | z
        · exact z
        · subst z; exact absurd hDn q
      · rw [List.drop_zero]
        cases hr : (compL (fun d e => lcTurn own tg mc me d e) g p.2 [] (wipeE e1 own)).bind fun ds e' => Rs.ok (PV.r (.o (.lst ds))) (backE e1 own e') with
        | no => rw [hr] at h; exact h
        | ok a e2 =>
          rw [hr] at h
          exact fun b H2 F2 o2 => h b H2 F2 (Out.rebase rel r1 st1 o2)
        | ex x e2 =>
          rw [hr] at h
          exact fun cls d H2 F2 o2 => h cls d H2 F2 ⟨o2.1, st1.trans o2.2.1, o2.2.2⟩
      · rintro i m Hi ⟨rfl, hi, Fi, ei, acc, accD, ri, sti, hD, ha, hres⟩
        have turns : g ei → (∀ k, k < p.2.length → J.go k Hi) ∧ J.stop p.2.length Hi ∧ ∀ k x H', k < p.2.length → J.yld k Hi x H' → Same Hi H' ∧ ∃ d, p.2[k]? = some d ∧ DpA K (AV (plus W fun b => b = Dn) Fi) H' x d := fun gi => by
          subst hg
          exact itok _ Hi ri.at (stands_pk r1 sti ri hm ops gs gi)
        by_cases hlt : i < p.2.length
        · obtain ⟨d, rest, hdrop⟩ : ∃ d rest, p.2.drop i = d :: rest := ⟨_, _, List.drop_eq_getElem_cons hlt⟩
          have hd : p.2[i]? = some d := by
            have := congrArg (fun l => l[0]?) hdrop
            simpa using this
          have hrest : p.2.drop (i + 1) = rest := by
            rw [← List.drop_drop, hdrop]; rfl
          rw [hdrop] at hres
          unfold compL at hres
          split at hres
          case isFalse => exact hres.elim
          rename_i gi
          obtain ⟨go, _, yl⟩ := turns gi
          refine .inr ⟨go i hlt, fun H' => ∃ Fi ei acc accD, Rel K (plus W fun b => b = Dn) G B Fi H' (wipe σ own) ei ∧ Stp W F1 H1 (plus W fun b => b = Dn) Fi H' ∧ H' Dn = some (.lst acc) ∧
              DpAs K (AV (plus W fun b => b = Dn) Fi) H' acc accD ∧ Res K mg XW (OOut K W G B σ) W G B F1 H1 σ ((compL (fun d e => lcTurn own tg mc me d e) g (p.2.drop (i + 1)) accD ei).bind fun ds e' => .ok (.r (.o (.lst ds))) (backE e1 own e')) Q,
            fun H' q => ⟨_, by omega, rfl, hlt, q⟩, fun x H' y => ?_⟩
          obtain ⟨sm, d', hd', px⟩ := yl i x H' hlt y
          rw [hd] at hd'
          cases hd'
          have ri' := ri.ext sm fun b z => .inl z
          have stS : Stp (plus W fun b => b = Dn) Fi Hi (plus W fun b => b = Dn) Fi H' := stp_of sm (fun b z _ => z) fun k b z _ => ⟨k, z⟩
          unfold lcTurn at hres
          cases hput : putTg tg d ei with
          | none => rw [hput] at hres; exact hres.elim
          | some e2 =>
            rw [hput] at hres
            dsimp only at hres
            refine ⟨_, G, B, Fi, ei, d, e2, ri', px, hput, fun σ' r2 l2 n2 => ?_⟩
            have hw : wipe σ' own = wipe σ own := by
              have e1' : wipe σ' own = wipe (wipe σ own) own := wipe_same l2 fun j hj => n2 j fun z => hj (htg j z)
              have e2' : wipe (wipe σ own) own = wipe σ own := wipe_same (wipe_length _ _) fun j hj => wipe_get_out hj
              exact e1'.trans e2'
            have hw2 : wipe σ' own = wipe (wipe σ own) own := by
              rw [hw]
              exact (wipe_same (wipe_length _ _) fun j hj => wipe_get_out hj).symm
            refine ⟨hw, _, G, B, Fi, e2, r2, ?_⟩
            -- the test
            cases hmc : mc e2 with
            | no => rw [hmc] at hres; exact hres
            | ex xx e3 => rw [hmc] at hres; exact hres.elim
            | ok k e3 =>
              rw [hmc] at hres
              intro b H3 F3 o3
              obtain ⟨r3, s3, eb⟩ := o3
              have eb : b = k := eb
              subst eb
              have keepD : ∀ {H4 : Hp} {F4 : Nat → AS}, Stp (plus W fun b => b = Dn) Fi H' (plus W fun b => b = Dn) F4 H4 → H4 Dn = some (.lst acc) := fun st => st.keep Dn _ (sm _ _ hD) fun ⟨k, z⟩ => ri.fw k Dn z (.inr rfl)
              cases b with
              | false =>
                refine iteF ⟨F3, wipeE e3 own, acc, accD, ?_, sti.trans (stS.trans s3), keepD s3, ha.step (stS.trans s3).step, ?_⟩
                · rw [← hw]; exact r3.wipe own
                · rw [hrest]; exact hres
              | true =>
                refine iteT ⟨_, G, B, F3, e3, r3, ?_⟩
                cases hme : me e3 with
                | no =>
                  simp only [Rs.noEx, Rs.bind_ok, hme] at hres
                  exact hres
                | ex xx e4 =>
                  simp only [Rs.noEx, Rs.bind_ok, hme] at hres
                  exact hres.elim
                | ok y e4 =>
                  simp only [Rs.noEx, Rs.bind_ok, hme] at hres
                  intro v H4 F4 o4
                  obtain ⟨r4, s4, p4⟩ := Out.opv o4 r3
                  cases y with
                  | sl _ => exact hres.elim
                  | r y =>
                    simp only [Rs.bind_ok] at hres
                    split at hres
                    case isFalse => exact hres.elim
                    rename_i hz
                    have st34 : Stp (plus W fun b => b = Dn) Fi Hi (plus W fun b => b = Dn) F4 H4 := stS.trans (s3.trans s4)
                    obtain ⟨r5, st5⟩ := r4.writeW (o := .lst (acc ++ [v])) (.inr rfl)
                    refine ⟨acc, keepD (s3.trans s4), by rw [ha.length]; exact hz, F4, wipeE e4 own, acc ++ [v], accD ++ [y.d], ?_, (sti.trans st34).writeNew hDn, upd_same, ((ha.step st34.step).step st5).append (.cons (DpA.step st5 p4) .nil), ?_⟩
                    · rw [← hw]; exact r5.wipe own
                    · rw [hrest]; exact hres
        · have hil : i = p.2.length := by omega
          subst hil
          rw [List.drop_length] at hres
          unfold compL at hres
          split at hres
          case isFalse => exact hres.elim
          rename_i gi
          obtain ⟨_, stop, _⟩ := turns gi
          refine .inl ⟨stop, hres (.ref Dn) Hi Fi ?_⟩
          exact ⟨Dn, fun b => b = Dn, rfl, rfl, fun b z => by subst z; exact ⟨fun g => r1.gt _ g hDn, .inl hDn⟩, Rel.back r1 sti ri hm, sti, acc, hD, ha⟩
end
end Ev
namespace Ev
open PySem L2 RZ
section
variable {K : PySem.W.Frag} {mg : Str → Option Value} {XW : WX}
def okB (m : En → Rs PV) (e : En) : Rs Bool := testB (m e) fun k e => .ok k e
/-- a value's reading as a test -/
theorem test_imp {m : En → Rs PV} {t : TE} (i : ∀ σ H Q, tE K mg XW m σ H Q → t σ H Q) {σ : St} {H : Hp} {Q : Bool → Hp → Prop} (h : tTst K mg XW (okB m) σ H Q) : t σ H fun x H1 => ∃ k, x = .bl k ∧ Q k H1 := by
  refine i σ H _ ?_
  obtain ⟨W, G, B, F, e, rel, h⟩ := h
  refine ⟨W, G, B, F, e, rel, seq adv_out reb_of rel h fun x e1 v H1 F1 r1 s1 o1 h => ?_⟩
  split at h
  · rename_i k hk
    exact ⟨k, boolOf_opv hk o1, h k H1 F1 ⟨r1, .refl, rfl⟩⟩
  · exact h.elim
theorem imp_cmp {op : CmpOp} {ma mb : En → Rs PV} {σ : St} {H : Hp} {Q : VK} (h : tE K mg XW (fun e => (ma e).bind fun x e => (mb e).bind fun y e => app2 (cmpR op) x y e) σ H Q) : tOp (rD K (cmpR op)) (tE K mg XW ma) (tE K mg XW mb) σ H Q := by
  obtain ⟨W, G, B, F, e, rel, h⟩ := h
  refine ⟨W, G, B, F, e, rel, seq adv_out reb_out rel h fun x e1 v H1 F1 r1 s1 o1 h => ?_⟩
  refine ⟨W, G, B, F1, e1, r1, seq adv_out reb_out r1 h fun y e2 w H2 F2 r2 s2 o2 h => ?_⟩
  exact app2_out r2 (o1.step s2.step) o2 h
def chnM (o1 o2 : CmpOp) (ma mb mc : En → Rs PV) (e : En) : Rs PV := (ma e).bind fun x e => (mb e).bind fun y e => testB (app2 (cmpR o1) x y e) fun k e => match k with
  | false => .ok (.r (.v (.bool false))) e
  | true => (mc e).bind fun z e => app2 (cmpR o2) y z e
theorem imp_chn {o1 o2 : CmpOp} {ma mb mc : En → Rs PV} {σ : St} {H : Hp} {Q : VK} (h : tE K mg XW (chnM o1 o2 ma mb mc) σ H Q) : tChain (rD K (cmpR o1)) (rD K (cmpR o2)) (tE K mg XW ma) (tE K mg XW mb) (tE K mg XW mc) σ H Q := by
  obtain ⟨W, G, B, F, e, rel, h⟩ := h
  refine ⟨W, G, B, F, e, rel, seq adv_out reb_out rel h fun x e1 v H1 F1 r1 s1 o1 h => ?_⟩
  refine ⟨W, G, B, F1, e1, r1, seq adv_out reb_out r1 h fun y e2 w H2 F2 r2 s2 o2 h => ?_⟩
  refine app2_out r2 (o1.step s2.step) o2 (seq adv_out reb_out r2 h fun p e3 u H3 F3 r3 s3 o3 h => ?_)
  split at h
  · rename_i k hk
    refine ⟨k, boolOf_opv hk o3, ?_⟩
    cases k with
    | false => exact iteF (h _ _ _ (out_v r3 (.bl _)))
    | true =>
      refine iteT ⟨W, G, B, F3, e3, r3, seq adv_out reb_out r3 h fun z e4 w' H4 F4 r4 s4 o4 h => ?_⟩
      exact app2_out r4 (o2.step (s3.trans s4).step) o4 h
  · exact h.elim
end
section
variable {X : Cx} {mg : Str → Option Value} {XW : WX} {a b c : Expr} {pos : Pos} {ma mb mc : En → Rs PV}
theorem sndT_val {ex : Expr} {m : En → Rs PV} (h : PE X ex (tE X.K mg XW m)) (he : ∀ whole, isTrue ex X.env whole = (do let v ← whole; standAt ex.pos; holding [v] (truthy v))) : PT X ex (tTst X.K mg XW (okB m)) :=
  PT.imp (pt_val h he) fun σ H Q q => test_imp (t := tE X.K mg XW m) (fun _ _ _ z => z) q
theorem sndT_cmp {op : CmpOp} (hu : X.A.units + 65 < cLine) (hm : behindInMarks op b = false) (ha : PE X a (tE X.K mg XW ma)) (hb : PE X b (tE X.K mg XW mb)) :
    PT X (.Compare a [op] [b] pos) (tTst X.K mg XW (okB fun e => (ma e).bind fun x e => (mb e).bind fun y e => app2 (cmpR op) x y e)) :=
  PT.imp (pt_cmpR (op_cmpD hu op) ha hb hm) fun σ H Q q => test_imp (t := tOp (rD X.K (cmpR op)) (tE X.K mg XW ma) (tE X.K mg XW mb)) (fun _ _ _ z => imp_cmp z) q
theorem sndT_chn {o1 o2 : CmpOp} (hu : X.A.units + 65 < cLine) (hm : lastMarks [o1, o2] [b, c] = false) (ha : PE X a (tE X.K mg XW ma)) (hb : PE X b (tE X.K mg XW mb)) (hc : PE X c (tE X.K mg XW mc)) :
    PT X (.Compare a [o1, o2] [b, c] pos) (tTst X.K mg XW (okB (chnM o1 o2 ma mb mc))) :=
  PT.imp (pt_chain (op_cmpD hu o1) (op_cmpD hu o2) ha hb hc hm) fun σ H Q q => test_imp (t := tChain (rD X.K (cmpR o1)) (rD X.K (cmpR o2)) (tE X.K mg XW ma) (tE X.K mg XW mb) (tE X.K mg XW mc)) (fun _ _ _ z => imp_chn z) q
theorem sndT_not (ha : PT X a (tTst X.K mg XW (okB ma))) : PT X (.UnaryOp .Not a pos) (tTst X.K mg XW (okB fun e => testB (ma e) fun k e => .ok (.r (.v (.bool (!k)))) e)) := by
  refine PT.imp (pt_not ha) fun σ H Q h => ?_
  obtain ⟨W, G, B, F, e, rel, h⟩ := h
  refine ⟨W, G, B, F, e, rel, ?_⟩
  dsimp only [okB, testB] at h ⊢
  cases hm : ma e with
  | no => rw [hm] at h; exact h
  | ex x e1 => rw [hm] at h; exact h
  | ok x e1 =>
    rw [hm] at h
    simp only [Rs.bind_ok] at h ⊢
    cases hb : boolOf x with
    | none => rw [hb] at h; exact h
    | some k =>
      rw [hb] at h
      intro b H1 F1 o
      obtain ⟨o1, o2, o3⟩ := o
      have o3 : b = k := o3
      subst o3
      exact h (!b) H1 F1 ⟨o1, o2, rfl⟩
/-! and, or -/
theorem PWimp {t t' : TT} (h : PW X a t) (i : ∀ σ H Q, t' σ H Q → t σ H Q) : PW X a t' := ⟨fun wh pins s σ H Q I q => h.run wh pins s σ H Q I (i σ H Q q)⟩
def boM (an : Bool) (ma mb : En → Rs PV) (e : En) : Rs PV := testB (ma e) fun k e => if k = an then mb e else .ok (.r (.v (.bool k))) e
theorem testB_ok {α : Type} {m : Rs PV} {f : Bool → En → Rs α} {O : (Nat → AS) → Hp → (Nat → AS) → Hp → En → β → α → Prop} {K : PySem.W.Frag} {W G : AS} {B : Nat → AS × AS} {F : Nat → AS} {H : Hp} {σ : St} {Q : β → Hp → Prop}
    (h : Res K mg XW O W G B F H σ (testB m f) Q) : (∃ x e k, m = .ok x e ∧ boolOf x = some k ∧ Res K mg XW O W G B F H σ (f k e) Q) ∨ ∃ x e, m = .ex x e ∧ Res K mg XW O W G B F H σ (.ex x e : Rs α) Q := by
  unfold testB at h
  cases m with
  | no => exact h.elim
  | ex x e => exact .inr ⟨x, e, rfl, h⟩
  | ok x e =>
    simp only [Rs.bind_ok] at h
    cases hb : boolOf x with
    | none => rw [hb] at h; exact h.elim
    | some k => rw [hb] at h; exact .inl ⟨x, e, k, rfl, hb, h⟩
theorem sndBv_cons {op : BoolOp} {y : Expr} {rest : List Expr} {an : Bool} (hop : an = (op == .And)) (ha : PE X a (tE X.K mg XW ma)) (hr : PE X (.BoolOp op (y :: rest) pos) (tE X.K mg XW mb)) :
    PE X (.BoolOp op (a :: y :: rest) pos) (tE X.K mg XW (boM an ma mb)) := by
  have val : ∀ {σ : St} {H : Hp} {Q : VK}, tE X.K mg XW (boM an ma mb) σ H Q → tE X.K mg XW ma σ H fun x H1 => ∃ c, x = .bl c ∧ if c = an then tE X.K mg XW mb σ H1 Q else Q (.bl c) H1 := fun {σ H Q} h => by
    obtain ⟨W, G, B, F, e, rel, h⟩ := h
    refine ⟨W, G, B, F, e, rel, seq adv_out reb_out rel h fun x e1 v H1 F1 r1 s1 o1 h => ?_⟩
    split at h
    · rename_i k hk
      refine ⟨k, boolOf_opv hk o1, ?_⟩
      dsimp only at h
      split at h
      · rename_i he
        rw [if_pos he]
        exact ⟨W, G, B, F1, e1, r1, h⟩
      · rename_i he
        rw [if_neg he]
        exact h _ _ _ (out_v r1 (.bl _))
    · exact h.elim
  have go : ∀ {σ : St} {H : Hp} {Q P : VK}, (∀ x H1, (∃ c, x = .bl c ∧ if c = an then tE X.K mg XW mb σ H1 Q else Q (.bl c) H1) → P x H1) → tE X.K mg XW (boM an ma mb) σ H Q → tE X.K mg XW ma σ H P := fun {σ H Q P} w h => by
    obtain ⟨W, G, B, F, e, rel, h⟩ := val h
    refine ⟨W, G, B, F, e, rel, ?_⟩
    cases hm : ma e with
    | no => rw [hm] at h; exact h
    | ex x e1 => rw [hm] at h; exact h
    | ok x e1 =>
      rw [hm] at h
      exact fun v H1 F1 o => w v H1 (h v H1 F1 o)
  cases op with
  | And =>
    have : an = true := hop
    subst this
    refine PE.imp (pe_and ha hr) fun σ H Q h => go (fun x H1 q => ?_) h
    obtain ⟨c, q1, q2⟩ := q
    refine ⟨c, q1, ?_⟩
    cases c with
    | true => exact iteT (by simpa using q2)
    | false => exact iteF (by simpa using q2)
  | Or =>
    have : an = false := hop
    subst this
    refine PE.imp (pe_or ha hr) fun σ H Q h => go (fun x H1 q => ?_) h
    obtain ⟨c, q1, q2⟩ := q
    refine ⟨c, q1, ?_⟩
    cases c with
    | true => exact iteT (by simpa using q2)
    | false => exact iteF (by simpa using q2)
theorem sndBt_cons {op : BoolOp} {y : Expr} {rest : List Expr} {an : Bool} (hop : an = (op == .And)) (ht : PT X a (tTst X.K mg XW (okB ma))) (hr : PW X (.BoolOp op (y :: rest) pos) (tTst X.K mg XW (okB mb))) :
    PW X (.BoolOp op (a :: y :: rest) pos) (tTst X.K mg XW (okB (boM an ma mb))) := by
  have tst : ∀ {σ : St} {H : Hp} {Q : Bool → Hp → Prop}, tTst X.K mg XW (okB (boM an ma mb)) σ H Q → tTst X.K mg XW (okB ma) σ H fun c H1 => if c = an then tTst X.K mg XW (okB mb) σ H1 Q else Q c H1 := fun {σ H Q} h => by
    obtain ⟨W, G, B, F, e, rel, h⟩ := h
    refine ⟨W, G, B, F, e, rel, ?_⟩
    unfold okB boM at h
    rcases testB_ok h with ⟨x, e2, k2, q1, q2, h⟩ | ⟨x, e2, q1, h⟩
    · -- the whole ended
      unfold testB at q1
      cases hm : ma e with
      | no => rw [hm] at q1; cases q1
      | ex x e1 => rw [hm] at q1; cases q1
      | ok x1 e1 =>
        rw [hm] at q1
        simp only [Rs.bind_ok] at q1
        cases hb : boolOf x1 with
        | none => rw [hb] at q1; cases q1
        | some k =>
          rw [hb] at q1
          dsimp only at q1
          have e0 : okB ma e = .ok k e1 := by
            unfold okB testB
            rw [hm]
            simp only [Rs.bind_ok, hb]
          rw [e0]
          intro b H1 F1 o
          obtain ⟨o1, o2, o3⟩ := o
          have o3 : b = k := o3
          subst o3
          split at q1
          · rename_i hk
            rw [if_pos hk]
            refine ⟨W, G, B, F1, e1, o1, ?_⟩
            unfold okB testB
            rw [q1]
            simp only [Rs.bind_ok, q2]
            exact fun b2 H2 F2 p => h b2 H2 F2 ⟨p.1, o2.trans p.2.1, p.2.2⟩
          · rename_i hk
            rw [if_neg hk]
            cases q1
            simp only [boolOf, Option.some.injEq] at q2
            subst q2
            exact h b H1 F1 ⟨o1, o2, rfl⟩
    · unfold testB at q1
      cases hm : ma e with
      | no => rw [hm] at q1; cases q1
      | ex x' e1 =>
        rw [hm] at q1
        cases q1
        have e0 : okB ma e = .ex x e2 := by
          unfold okB testB
          rw [hm]
          rfl
        rw [e0]
        exact h
      | ok x1 e1 =>
        rw [hm] at q1
        simp only [Rs.bind_ok] at q1
        cases hb : boolOf x1 with
        | none => rw [hb] at q1; cases q1
        | some k =>
          rw [hb] at q1
          dsimp only at q1
          have e0 : okB ma e = .ok k e1 := by
            unfold okB testB
            rw [hm]
            simp only [Rs.bind_ok, hb]
          rw [e0]
          intro b H1 F1 o
          obtain ⟨o1, o2, o3⟩ := o
          have o3 : b = k := o3
          subst o3
          split at q1
          · rename_i hk
            rw [if_pos hk]
            refine ⟨W, G, B, F1, e1, o1, ?_⟩
            unfold okB testB
            rw [q1]
            exact fun cls d H2 F2 p => h cls d H2 F2 ⟨p.1, o2.trans p.2.1, p.2.2⟩
          · cases q1
  have go : ∀ {σ : St} {H : Hp} {Q P : Bool → Hp → Prop}, (∀ c H1, (if c = an then tTst X.K mg XW (okB mb) σ H1 Q else Q c H1) → P c H1) → tTst X.K mg XW (okB (boM an ma mb)) σ H Q → tTst X.K mg XW (okB ma) σ H P := fun {σ H Q P} w h => by
    obtain ⟨W, G, B, F, e, rel, h⟩ := tst h
    refine ⟨W, G, B, F, e, rel, ?_⟩
    cases hm : okB ma e with
    | no => rw [hm] at h; exact h
    | ex x e1 => rw [hm] at h; exact h
    | ok x e1 =>
      rw [hm] at h
      exact fun v H1 F1 o => w v H1 (h v H1 F1 o)
  cases op with
  | And =>
    have : an = true := hop
    subst this
    refine PWimp (pw_and ht hr) fun σ H Q h => go (fun c H1 q => ?_) h
    cases c with
    | true => exact iteT (by simpa using q)
    | false => exact iteF (by simpa using q)
  | Or =>
    have : an = false := hop
    subst this
    refine PWimp (pw_or ht hr) fun σ H Q h => go (fun c H1 q => ?_) h
    cases c with
    | true => exact iteT (by simpa using q)
    | false => exact iteF (by simpa using q)
theorem sndBt_one {op : BoolOp} (ht : PT X a (tTst X.K mg XW (okB ma))) : PW X (.BoolOp op [a] pos) (tTst X.K mg XW (okB ma)) := by
  cases op with
  | And => exact pw_and1 ht
  | Or => exact pw_or1 ht
end
end Ev

/-! Ev, part K: cells changed; isinstance; built-ins with keywords; comprehensions as values and as statements. -/
namespace Ev
open PySem L2 RZ
section
variable {X : Cx} {mg : Str → Option Value} {XW : WX} {a b c : Expr} {pos : Pos} {ma mb mc : En → Rs PV}
/-- list.extend by a list that is read -/
theorem mt_extendR : MtM X "list.extend" (fun x vs H Q => ∃ l b xs zs, x = .ref l ∧ vs = [.ref b] ∧ H l = some (.lst xs) ∧ Rd H b (.lst zs) ∧ xs.length + zs.length ≤ sizeLine ∧ Q .non (upd H l (.lst (xs ++ zs)))) := by
  intro pins s σ H x vs v us Q I rx rv h
  obtain ⟨l, b, xs, zs, rfl, rfl, hl, hb, hz, q⟩ := h
  cases rx
  obtain ⟨u, rfl, ru⟩ := rv.one
  cases ru
  obtain ⟨z, its, n, r, el, e⟩ := I.lstM hl
  obtain ⟨z2, its2, n2, r2, e2⟩ := hb.ok I.hok
  have el2 := r2.length
  have hs : its.toArray.size + its2.toArray.size ≤ sizeLine := by rw [List.size_toArray, List.size_toArray] <;> omega
  refine call_meets F.slot_list_extend ⟨_, e, rfl⟩ F.entry_list_extend (F.args_list_extend_2 _ _)
    (AutoSeq1.list_extend_list_list_0 l its.toArray n b its2.toArray n2 (by rw [notLongL hs, Bool.and_false]; exact Bool.false_ne_true) (by rw [List.size_toArray] <;> omega) (by omega)) ⟨e, e2, .non, _, I.lset (its' := its ++ its2) hl e (by simp) (r.append r2) ?_, rfl, q⟩
  rw [List.length_append] <;> omega
/-- a method's rule fits what the evaluator says of it -/
def MuOk (K : PySem.W.Frag) (m : Mu) (r : V → List V → Hp → VK → Prop) : Prop :=
  ∀ A H a xs cs vs ds d ys (Q : VK), H a = some (.lst xs) → DpAs K A H xs cs → DpAs K A H vs ds → muD m cs ds = some (d, ys) → (∀ v xs', DpA K A H v d → DpAs K A H xs' ys → Q v (upd H a (.lst xs'))) → r (.ref a) vs H Q
def muR (K : PySem.W.Frag) : Mu → V → List V → Hp → VK → Prop
  | .append => rAppend
  | .extend => fun x vs H Q => ∃ l b xs zs, x = .ref l ∧ vs = [.ref b] ∧ H l = some (.lst xs) ∧ Rd H b (.lst zs) ∧ xs.length + zs.length ≤ sizeLine ∧ Q .non (upd H l (.lst (xs ++ zs)))
  | .pop => rPop
  | .popAt => rPopAt
  | .clear => rClear
theorem dropLast_take {α : Type} (xs : List α) : xs.dropLast = xs.take (xs.length - 1) := List.dropLast_eq_take
theorem muOk (K : PySem.W.Frag) (m : Mu) : MuOk K m (muR K m) := by
  intro A H a xs cs vs ds d ys Q hH hx hv h q
  unfold muD at h
  split at h
  · split at h
    · rename_i hz
      cases h
      cases hv with
      | cons h1 h2 =>
        cases h2
        exact ⟨a, xs, _, rfl, rfl, hH, by rw [hx.length]; exact hz, q _ _ .non (hx.append (.cons h1 .nil))⟩
    · cases h
  · split at h
    · rename_i hz
      cases h
      cases hv with
      | cons h1 h2 =>
        cases h2
        cases h1 with
        | lst z1 z2 z3 => exact ⟨a, _, xs, _, rfl, rfl, hH, z1, by rw [hx.length, z3.length]; exact hz, q _ _ .non (hx.append z3)⟩
    · cases h
  · split at h
    · rename_i z hz
      cases h
      cases hv
      rw [← hx.length] at hz
      obtain ⟨y, h1, h2⟩ := hx.get hz
      refine ⟨a, xs, y, rfl, rfl, hH, h1, q y _ h2 ?_⟩
      rw [dropLast_take, dropLast_take, hx.length]
      exact hx.take _
    · cases h
  · split at h
    · rename_i hz
      split at h
      · rename_i k hk
        obtain ⟨z, h1, h2⟩ := Option.map_eq_some_iff.mp h
        cases h2
        cases hv with
        | cons g1 g2 =>
          cases g2
          cases g1
          rw [← hx.length] at hk hz
          obtain ⟨y, h3, h4⟩ := hx.get h1
          obtain ⟨i1, i2, i3, i4⟩ := ixN_seq hk
          have : (sizeLine : Int) < 2 ^ 63 := by decide
          exact ⟨a, xs, _, k, y, rfl, rfl, hH, by omega, by omega, i1, h3, q y _ h4 (hx.eraseIdx k)⟩
      · cases h
    · cases h
  · cases h
    cases hv
    exact ⟨a, xs, rfl, rfl, hH, q _ _ .non .nil⟩
  · cases h
theorem snd_mut {ex : Expr} {m : Mu} {i : Nat} {es : List Expr} {ms : En → Rs (List D)} (h : PE X ex (tBM X.K "list" (muR X.K m) (tVar i) (tR X.K mg (OOf X.K (OVs X.K)) XW ms)) ∨ (es = [] ∧ ms = (fun e => .ok [] e) ∧ PE X ex (tBM0 X.K "list" (muR X.K m) (tVar i)))) :
    PE X ex (tE X.K mg XW fun e => match lstSlot e i with
      | false => .no
      | true => (ms e).bind fun ds e => mutS m i ds e) := by
  have key : ∀ {σ : St} {H : Hp} {Q : VK}, tE X.K mg XW (fun e => match lstSlot e i with
      | false => .no
      | true => (ms e).bind fun ds e => mutS m i ds e) σ H Q → ∃ a, σ[i]? = some (some (.ref a)) ∧ (∃ xs, H a = some (.lst xs)) ∧ tR X.K mg (OOf X.K (OVs X.K)) XW ms σ H fun vs H2 => muR X.K m (.ref a) vs H2 Q := fun {σ H Q} q => by
    obtain ⟨W, G, B, F, e, rel, q⟩ := q
    dsimp only at q
    have lst : lstSlot e i = true → ∃ a, σ[i]? = some (some (.ref a)) ∧ ∃ xs, H a = some (.lst xs) := fun hl => by
      unfold lstSlot at hl
      split at hl
      · rename_i ds hs
        obtain ⟨a, h1, ⟨xs, h2, _⟩, _⟩ := slot_own rel hs
        exact ⟨a, h1, xs, h2⟩
      · rename_i ds hs
        obtain ⟨a, h1, ⟨xs, h2, _⟩, _⟩ := slot_bor rel hs
        exact ⟨a, h1, xs, h2⟩
      · cases hl
    cases hl : lstSlot e i with
    | false => rw [hl] at q; exact q.elim
    | true =>
      rw [hl] at q
      obtain ⟨a, h1, h2⟩ := lst hl
      refine ⟨a, h1, h2, W, G, B, F, e, rel, seq adv_of reb_out rel q fun ds e1 vs H1 F1 r1 s1 o1 q => ?_⟩
      have o1 : DpAs X.K (AV W F1) H1 vs ds := o1
      have fin : ∀ (c : List D) (s : Slot) (mk : Cel → Slot), e1[i]? = some (some s) → (s = mk (.lst c)) → ((∀ c', (∃ c, s = .own c ∧ mk c' = .own c') ∨ ∃ c, s = .bor c ∧ mk c' = .bor c')) → (∃ b, σ[i]? = some (some (.ref b)) ∧ CelAt X.K (AV W F1) H1 b (.lst c) ∧ F1 i b) →
          Res X.K mg XW (OOut X.K W G B σ) W G B F1 H1 σ (match muD m c ds with
            | some (d, ys) => .ok (.r (.v d)) (e1.set i (some (mk (.lst ys))))
            | none => .no) Q → muR X.K m (.ref a) vs H1 Q := fun c s mk hs hm hk ⟨b, y1, ⟨xs, y2, y3⟩, y4⟩ q => by
        rw [h1] at y1
        cases y1
        split at q
        · rename_i d ys hd
          refine muOk X.K m _ H1 a xs c vs ds d ys Q y2 y3 o1 hd fun v xs' p ps => ?_
          have mu : Mut (H1 a) := by rw [y2]; trivial
          have trk : Step (AV W F1) H1 (AV W F1) (upd H1 a (.lst xs')) := ⟨fun b u z n => by
            rw [upd_ne fun w => n (by subst w; exact .inr ⟨i, y4⟩)]
            exact z, fun b z => by
            by_cases w : b = a
            · subst w; rw [upd_same]; simp
            · rw [upd_ne w]; exact z, fun b z _ => z⟩
          obtain ⟨r2, s2⟩ := r1.write (o := .lst xs') y4 mu (.lst ys) (s' := mk (.lst ys)) ⟨s, hs, hk _⟩ h1 ⟨xs', upd_same, ps.step trk⟩
          exact q v _ F1 ⟨r2, s2, p.step trk⟩
        · exact q.elim
      unfold mutS at q
      split at q
      · rename_i c hs
        obtain ⟨b, y1, y2, y3, _⟩ := slot_own r1 hs
        exact fin c _ Slot.own hs rfl (fun c' => .inl ⟨_, rfl, rfl⟩) ⟨b, y1, y2, y3⟩ q
      · rename_i c hs
        obtain ⟨b, y1, y2, y3, _⟩ := slot_bor r1 hs
        exact fin c _ Slot.bor hs rfl (fun c' => .inr ⟨_, rfl, rfl⟩) ⟨b, y1, y2, y3⟩ q
      · exact q.elim
  rcases h with h | ⟨rfl, rfl, h⟩
  · refine PE.imp h fun σ H Q q => ?_
    obtain ⟨a, h1, ⟨xs, h2⟩, h3⟩ := key q
    exact ⟨_, h1, .inl ⟨rfl, xs, .of h2⟩, h3⟩
  · refine PE.imp h fun σ H Q q => ?_
    obtain ⟨a, h1, ⟨xs, h2⟩, W, G, B, F, e, rel, h3⟩ := key q
    exact ⟨_, h1, .inl ⟨rfl, xs, .of h2⟩, h3 [] H F ⟨rel, .refl, .nil⟩⟩
/-- isinstance -/
theorem snd_isi {ex : Expr} {t : Ty} {ty : Expr} (h : ∀ ta, L2.PA X [a, ty] ta → PE X ex (tCB (fun vs H Q => ∃ A x d, vs = [x, .ty (tyN t)] ∧ PK X.K A H x d ∧ isRo d = false ∧ Q (.bl (isTy t d)) H) ta)) (hty : PE X ty (tC (.ty (tyN t))))
    (hs : starEach [a, ty] X.env = (false, eval a X.env) :: starEach [ty] X.env) (hs2 : starEach [ty] X.env = (false, eval ty X.env) :: starEach [] X.env) (ha : PE X a (tE X.K mg XW ma)) :
    PE X ex (tE X.K mg XW fun e => (ma e).bind fun x e => app1 (isiD t) x e) := by
  refine PE.imp (h _ (pa_cons ha (pa_cons hty pa_nil hs2) hs)) fun σ H Q q => ?_
  obtain ⟨W, G, B, F, e, rel, q⟩ := q
  refine ⟨W, G, B, F, e, rel, seq adv_out reb_out rel q fun x e1 v H1 F1 r1 s1 o1 q => ?_⟩
  obtain ⟨d, r, z1, z2, z3, z4⟩ := app1_out r1 o1 q
  unfold isiD at z3
  split at z3
  · cases z3
  · rename_i hr
    cases z3
    exact ⟨AV W F1, v, d, rfl, z2, by simpa using hr, z4 _ _ (pout_same (.bl _))⟩
theorem snd_rev {k : Nat} {p1 p2 p3 : Pos} (ha : PE X a (tE X.K mg XW ma)) : PE X (.Subscript a (.Slice none none (some (.UnaryOp .USub (.Constant (.int 1) k p1) p2)) p3) pos) (tE X.K mg XW fun e => (ma e).bind fun x e => app1 revD x e) := by
  refine PE.imp (pe_revL ha) fun σ H Q q => ?_
  obtain ⟨W, G, B, F, e, rel, q⟩ := q
  refine ⟨W, G, B, F, e, rel, seq adv_out reb_out rel q fun x e1 v H1 F1 r1 s1 o1 q => ?_⟩
  obtain ⟨d, r, z1, z2, z3, z4⟩ := app1_out r1 o1 q
  unfold revD at z3
  split at z3
  · cases z3
    obtain ⟨a, xs, rfl, h1, h2⟩ := z2.list
    exact ⟨a, xs, rfl, .inl h1, fun p n => z4 _ _ (pout_lst n z1 h2.reverse)⟩
  · cases z3
theorem rg_dpa {K : PySem.W.Frag} {A : AS} {H : Hp} : ∀ (l : List Nat), DpAs K A H (l.map fun i => V.int (0 + (i : Nat))) (l.map fun (k : Nat) => .int (k : Int))
  | [] => .nil
  | n :: l => by
    rw [List.map_cons, List.map_cons, Int.zero_add]
    exact .cons (.int _) (rg_dpa l)
theorem snd_listRange {p p2 pos2 : Pos} (hc : X.calm = true) (hg : Gl X "list") (hm : X.mg "list" = none) (hg2 : Gl X "range") (hm2 : X.mg "range" = none) (hs : starEach [a] X.env = (false, eval a X.env) :: starEach [] X.env) (ha : PE X a (tE X.K mg XW ma)) :
    PE X (.Call (.Name "list" p) [.Call (.Name "range" p2) [a] [] pos2] [] pos) (tE X.K mg XW fun e => (ma e).bind fun x e => app1 (fun d => biD .listRange [d]) x e) := by
  refine PE.imp (pe_listRg hc hg hm (prg_1 hg2 hm2 ha hs)) fun σ H Q q => ?_
  obtain ⟨W, G, B, F, e, rel, q⟩ := q
  refine ⟨W, G, B, F, e, rel, seq adv_out reb_out rel q fun x e1 v H1 F1 r1 s1 o1 q => ?_⟩
  obtain ⟨d, r, z1, z2, z3, z4⟩ := app1_out r1 o1 q
  cases d <;> first | (simp [biD] at z3; done) | skip
  rename_i n
  simp only [biD] at z3
  split at z3
  · rename_i hz
    cases z3
    cases z2.int
    refine ⟨n, rfl, ⟨by omega, by omega, by omega, by omega, by omega⟩, fun q n' => z4 _ _ ?_⟩
    unfold rgV
    rw [Int.sub_zero]
    exact pout_lst n' z1 (rg_dpa _)
  · cases z3
theorem snd_sortedR {p pk : Pos} {k : Nat} {kp : Pos} (hg : Gl X "sorted") (hm : X.mg "sorted" = none) (hs : starEach [a] X.env = (false, eval a X.env) :: starEach [] X.env) (ha : PE X a (tE X.K mg XW ma)) :
    PE X (.Call (.Name "sorted" p) [a] [⟨some "reverse", .Constant (.bool true) k kp, pk⟩] pos) (tE X.K mg XW fun e => (ma e).bind fun x e => app1 (fun d => biD .sortedR [d]) x e) := by
  have hp : backTo pos (starEach [a] X.env) = (false, eval a X.env) :: backTo pos (starEach [] X.env) := by rw [hs]; rfl
  have cr : CallRK X (.builtin "sorted") [Str.ofString "reverse"] (fun vs zs H Q => rSortedKw X.K true [.bl true] vs zs H Q ∨ ∃ (a : Addr) (ns : List Int), vs = [V.ref a] ∧ zs = [.bl true] ∧ SqT X.K H a (ns.map V.int) ∧
      ∀ (ms : List Int) (p : Addr), ms.Perm ns → ms.Pairwise (· ≥ ·) → H p = none → Q (.ref p) (upd H p (.lst (ms.map V.int)))) := fun pins s σ H xs zs us ws Q I r1 r2 h =>
    h.elim (cr_sortedRev pins s σ H xs zs us ws Q I r1 r2) (cr_tupR pins s σ H xs zs us ws Q I r1 r2)
  refine PE.imp (pe_callBK cr hg hm (by decide +kernel) (pa_cons ha pa_nil hs) (pk_cons pe_bl pk_nil) (he := hp) (hpl := by rw [hp]; rfl)) fun σ H Q q => ?_
  obtain ⟨W, G, B, F, e, rel, q⟩ := q
  refine ⟨W, G, B, F, e, rel, seq adv_out reb_out rel q fun x e1 v H1 F1 r1 s1 o1 q => ?_⟩
  obtain ⟨d, r, z1, z2, z3, z4⟩ := app1_out r1 o1 q
  cases d <;> first | (simp [biD] at z3; done) | skip
  · obtain ⟨ns, h1, rfl⟩ := Option.map_eq_some_iff.mp z3
    obtain ⟨t, rfl, h3⟩ := z2.intsL h1
    refine .inl ⟨t, ns, rfl, rfl, h3, fun ms p k1 k2 n => ?_⟩
    rw [sorted_dn k1 k2]
    exact z4 _ _ (pout_lst n z1 (.of_ints _))
  · obtain ⟨ns, h1, rfl⟩ := Option.map_eq_some_iff.mp z3
    obtain ⟨t, rfl, h3⟩ := z2.ints h1
    refine .inr ⟨t, ns, rfl, rfl, h3, fun ms p k1 k2 n => ?_⟩
    rw [sorted_dn k1 k2]
    exact z4 _ _ (pout_lst n z1 (.of_ints _))
/-! comprehensions -/
theorem tgOwn {N : List Str} {own : List Nat} {own' : List (Str × Nat)} (h : own'.map (·.2) = own) : True := trivial
theorem snd_lc {elt tg iter : Expr} {ifs : List Expr} {scope : Scope} {own : List (Str × Nat)} {t : Tg} {mi : En → Rs (List PV × List D)} {mt : En → Rs Bool} {me : En → Rs PV} (htg : ∀ j, j ∈ tgS t → j ∈ own.map (·.2)) (hc : X.calm = true) (hN : X.N.Nodup)
    (hi : PI X tg iter (tR X.K mg (OIt X.K) XW mi)) (ok : BlkOk X.N X.env.scope scope own)
    (hg : ∀ (s : Shared) (H : Hp) (C : Addr) (cl : List (Str × Addr)) (fp : List Addr), PG (X.blk s H scope (compEnvC scope cl C X.env) fp) tg (gT X.K t))
    (ht : ∀ (s : Shared) (H : Hp) (C : Addr) (cl : List (Str × Addr)) (fp : List Addr), PTs (X.blk s H scope (compEnvC scope cl C X.env) fp) ifs (tTst X.K mg XWF mt))
    (he : ∀ (s : Shared) (H : Hp) (C : Addr) (cl : List (Str × Addr)) (fp : List Addr), PE (X.blk s H scope (compEnvC scope cl C X.env) fp) elt (tE X.K mg XWF me)) (hs : ∀ x, foldedSetIterable iter X.env x = pure x) :
    PE X (.ListComp elt [⟨tg, iter, ifs, 0⟩] scope pos) (tE X.K mg XW (lcM (own.map (·.2)) t mi mt me)) :=
  PE.imp (pe_lc hc hN hi ok hg ht he hs) fun σ H Q q => lc_read htg q
end
end Ev

/-! Ev, part L: the checker, and its soundness for expressions. -/
namespace Ev
open PySem L2 RZ
/-- what a text has: constants and defs by index, the built-ins' names that stand unshadowed -/
structure Tx where
  cs : Nat → Option D
  FT : Nat → Fn
  cn : List Str
  fs : List Str
  bl : List Str
/-- a block: all names by slot, its scope, the scope whose own names it stores -/
structure SC where
  N : List Str
  sc : Scope
  raw : Scope
def dbg (x : Str) : Bool := !(x == ("__debug__" : Str))
def visB (sc : Scope) (x : Str) : Bool := match sc.names.lookup x with
  | some .local => true
  | some .cell => true
  | some .free => true
  | _ => false
def locB (sc : Scope) (x : Str) : Bool := match sc.names.lookup x with
  | some .local => true
  | some .cell => true
  | _ => false
def glB (sc : Scope) (x : Str) : Bool := match sc.names.lookup x with
  | some .globalImplicit => true
  | _ => false
def chkV (S : SC) (i : Nat) (x : Str) : Bool := decide (S.N[i]? = some x) && visB S.sc x && dbg x && !(x == ("__classdict__" : Str))
def bltB (T : Tx) (S : SC) (n x : Str) : Bool := decide (x = n) && glB S.sc n && decide (n ∈ T.bl)
def chkC : D → Const → Bool
  | .int k, .int j => decide (k = j)
  | .bool b, .bool c => decide (b = c)
  | .none, .none => true
  | .str x, .str y => decide (x = y)
  | _, _ => false
def biN : Bi → Str
  | .len => "len"
  | .all => "all"
  | .any => "any"
  | .max => "max"
  | .min => "min"
  | .sum => "sum"
  | .list => "list"
  | .tuple => "tuple"
  | .sorted => "sorted"
  | .sortedR => "sorted"
  | .int => "int"
  | .str => "str"
  | .abs => "abs"
  | .divmod => "divmod"
  | .repr => "repr"
  | .listRange => "list"
  | .setLen => "len"
def tyS : Ty → Str
  | .int => "int"
  | .bool => "bool"
  | .str => "str"
  | .tuple => "tuple"
  | .list => "list"
def muN : Mu → Str
  | .append => "append"
  | .extend => "extend"
  | .pop => "pop"
  | .popAt => "pop"
  | .clear => "clear"
def noStars : List Expr → Bool
  | [] => true
  | .Starred _ _ :: _ => false
  | _ :: es => noStars es
mutual
/-- what may stand as a test -/
def tstOk : Expr → Bool
  | .IfExp _ _ _ _ => false
  | .UnaryOp .Not x _ => tstOk x
  | .BoolOp _ xs _ => tstOks xs
  | _ => true
def tstOks : List Expr → Bool
  | [] => true
  | x :: xs => tstOk x && tstOks xs
end
def isSet : Expr → Bool
  | .Set _ _ _ => true
  | _ => false
mutual
def chkTg (S : SC) : Tg → Expr → Bool
  | .nm i, e => match e with
    | .Name x _ => decide (S.N[i]? = some x) && locB S.raw x
    | _ => false
  | .tup ts, e => match e with
    | .Tuple es _ _ => chkTgs S ts es
    | _ => false
def chkTgs (S : SC) : Tgs → List Expr → Bool
  | .nil, es => es.isEmpty
  | .cons t ts, es => match es with
    | e :: es => chkTg S t e && chkTgs S ts es
    | [] => false
end
def ownNames (N : List Str) (own : List Nat) : List (Str × Nat) := own.filterMap fun i => (N[i]?).map fun x => (x, i)
mutual
def chkE (T : Tx) : SC → CE → Expr → Bool
  | S, .var i, e => match e with
    | .Name x _ => chkV S i x
    | _ => false
  | S, .mov i, e => match e with
    | .Name x _ => chkV S i x
    | _ => false
  | _, .con d, e => match e with
    | .Constant c _ _ => chkC d c
    | _ => false
  | S, .glob k, e => match e with
    | .Name x _ => decide (T.cn[k]? = some x) && glB S.sc x && dbg x
    | _ => false
  | S, .tup es, e => match e with
    | .Tuple xs _ _ => chkEs T S es xs
    | _ => false
  | S, .lst es, e => match e with
    | .List xs _ => chkEs T S es xs
    | _ => false
  | S, .bin op a b, e => match e with
    | .BinOp x o y _ => decide (op = o) && chkE T S a x && chkE T S b y
    | _ => false
  | S, .neg a, e => match e with
    | .UnaryOp .USub x _ => chkE T S a x
    | _ => false
  | S, .cmp op a b, e => match e with
    | .Compare x [o] [y] _ => decide (op = o) && !behindInMarks o y && chkE T S a x && chkE T S b y
    | _ => false
  | S, .chn o1 o2 a b c, e => match e with
    | .Compare x [p, q] [y, z] _ => decide (o1 = p) && decide (o2 = q) && !lastMarks [p, q] [y, z] && chkE T S a x && chkE T S b y && chkE T S c z
    | _ => false
  | S, .not a, e => match e with
    | .UnaryOp .Not x _ => chkE T S a x
    | _ => false
  | S, .bo an es, e => match e with
    | .BoolOp op xs _ => (an == (op == .And)) && chkEs T S es xs && !xs.isEmpty
    | _ => false
  | S, .ite c a b, e => match e with
    | .IfExp x y z _ => tstOk x && chkE T S c x && chkE T S a y && chkE T S b z
    | _ => false
  | S, .idx a i, e => match e with
    | .Subscript x y _ => chkE T S a x && chkE T S i y
    | _ => false
  | S, .slc a lo hi, e => match e with
    | .Subscript x (.Slice l h none _) _ => chkE T S a x && chkO T S lo l && chkO T S hi h
    | _ => false
  | S, .rev a, e => match e with
    | .Subscript x (.Slice none none (some (.UnaryOp .USub (.Constant (.int k) _ _) _)) _) _ => decide (k = 1) && chkE T S a x
    | _ => false
  | S, .bi f es, e => match e with
    | .Call (.Name x _) xs [] _ => (match f with
      | .sortedR => false
      | .setLen => false
      | .listRange => false
      | f => bltB T S (biN f) x && chkEs T S es xs && !xs.isEmpty)
    | _ => false
  | S, .sortedR a, e => match e with
    | .Call (.Name x _) [y] [⟨some kw, .Constant c _ _, _⟩] _ => bltB T S "sorted" x && decide (kw = "reverse") && decide (c = .bool true) && chkE T S a y
    | _ => false
  | S, .lstRange a, e => match e with
    | .Call (.Name x _) [.Call (.Name y _) [z] [] _] [] _ => bltB T S "list" x && bltB T S "range" y && chkE T S a z
    | _ => false
  | S, .isi a t, e => match e with
    | .Call (.Name x _) [y, .Name z _] [] _ => bltB T S "isinstance" x && bltB T S (tyS t) z && chkE T S a y
    | _ => false
  | S, .call k ms es, e => match e with
    | .Call (.Name x _) xs [] _ => decide (T.fs[k]? = some x) && glB S.sc x && dbg x && decide (ms.length = xs.length) && chkEs T S es xs && !xs.isEmpty
    | _ => false
  | S, .mut m i es, e => match e with
    | .Call (.Attribute (.Name x _) nm ap) xs [] cp => chkV S i x && decide (nm = muN m) && (ap.endLine == cp.line) && decide (xs.length ≤ 1) && (xs.isEmpty == (match m with | .pop => true | .clear => true | _ => false)) && chkEs T S es xs
    | _ => false
  | S, .lc own tg it c x, e => match e with
    | .ListComp elt [⟨t, iter, ifs, 0⟩] scope _ => blkC S.N S.sc scope (ownNames S.N own) && decide ((ownNames S.N own).map (·.2) = own) && (tgS tg).all (fun j => decide (j ∈ own)) && !isSet iter && chkI T S it t iter &&
        chkTg ⟨S.N, relS scope S.sc, scope⟩ tg t && chkCs T ⟨S.N, relS scope S.sc, scope⟩ c ifs && chkE T ⟨S.N, relS scope S.sc, scope⟩ x elt
    | _ => false
def chkEs (T : Tx) : SC → CEs → List Expr → Bool
  | _, .nil, es => es.isEmpty
  | S, .cons c cs, es => match es with
    | e :: es => chkE T S c e && chkEs T S cs es
    | [] => false
def chkO (T : Tx) : SC → CEo → Option Expr → Bool
  | _, .none, o => o.isNone
  | S, .some c, o => match o with
    | some e => chkE T S c e
    | none => false
def chkCs (T : Tx) : SC → CEo → List Expr → Bool
  | _, .none, es => es.isEmpty
  | S, .some c, es => match es with
    | [e] => tstOk e && chkE T S c e
    | _ => false
def chkI (T : Tx) : SC → IT → Expr → Expr → Bool
  | S, .val c, _, e => chkE T S c e
  | S, .range1 a, _, e => match e with
    | .Call (.Name x _) [y] [] _ => bltB T S "range" x && chkE T S a y
    | _ => false
  | S, .range2 a b, _, e => match e with
    | .Call (.Name x _) [y, z] [] _ => bltB T S "range" x && chkE T S a y && chkE T S b z
    | _ => false
  | S, .zip a b, t, e => match e, t with
    | .Call (.Name x _) [y, z] [] _, .Tuple _ _ _ => bltB T S "zip" x && chkE T S a y && chkE T S b z
    | _, _ => false
  | S, .enum a, t, e => match e, t with
    | .Call (.Name x _) [y] [] _, .Tuple _ _ _ => bltB T S "enumerate" x && chkE T S a y
    | _, _ => false
end
structure CxOk (T : Tx) (gk : Bool) (S : SC) (XW : WX) (X : Cx) : Prop where
  hN : X.N = S.N
  hs : X.env.scope = S.sc
  nd : S.N.Nodup
  calm : X.calm = true
  room : ∃ k, Room k X.A ∧ ∀ j x, T.fs[j]? = some x → Known gk X x (T.FT j) k
  gs : gk = true → X.A.guards = some []
  tk : Takes X XW
  con : ∀ k x d, T.cn[k]? = some x → T.cs k = some d → ∃ v u, X.mg x = some u ∧ RelV v u ∧ ∀ A H, DpA X.K A H v d
  bl : ∀ x ∈ T.bl, X.mg x = none
  loc : ∀ x, locB S.raw x = true → Loc X.env.scope x ∧ (X.fn x = true ∨ X.env.scope.names.lookup x = some .local)
section
variable {T : Tx} {gk : Bool} {S : SC} {XW : WX} {X : Cx}
theorem CxOk.units (c : CxOk T gk S XW X) : X.A.units + 65 < cLine := by
  obtain ⟨k, r, _⟩ := c.room
  have := r.un
  omega
theorem CxOk.var (c : CxOk T gk S XW X) {i : Nat} {x : Str} {pos : Pos} (h : chkV S i x = true) : PE X (.Name x pos) (tVar i) := by
  unfold chkV at h
  simp only [Bool.and_eq_true, decide_eq_true_eq, dbg, Bool.not_eq_true'] at h
  obtain ⟨⟨⟨h1, h2⟩, h3⟩, h4⟩ := h
  refine pe_var (by rw [c.hN]; exact h1) ?_ h3 h4
  rw [c.hs]
  unfold visB at h2
  unfold Vis
  split at h2 <;> simp_all
theorem CxOk.gl (c : CxOk T gk S XW X) {x : Str} (h : glB S.sc x = true) : Gl X x := by
  unfold glB at h
  show X.env.scope.names.lookup x = some .globalImplicit
  rw [c.hs]
  split at h
  · assumption
  · cases h
theorem CxOk.blt (c : CxOk T gk S XW X) {n x : Str} (h : bltB T S n x = true) : x = n ∧ Gl X n ∧ X.mg n = none := by
  unfold bltB at h
  simp only [Bool.and_eq_true, decide_eq_true_eq] at h
  exact ⟨h.1.1, c.gl h.1.2, c.bl n h.2⟩
theorem star_of {c : CE} {e : Expr} (h : chkE T S c e = true) (es : List Expr) (env : PySem.Env) : starEach (e :: es) env = (false, eval e env) :: starEach es env := by
  cases e <;> first | rfl | (cases c <;> simp [chkE] at h)
theorem stars_of : ∀ {cs : CEs} {es : List Expr}, chkEs T S cs es = true → ∀ env : PySem.Env, ∀ p ∈ starEach es env, p.1 = false
  | _, [], _, env => fun p hp => by simp [starEach] at hp
  | .nil, e :: es, h, _ => by simp [chkEs] at h
  | .cons c cs, e :: es, h, env => fun p hp => by
    simp only [chkEs, Bool.and_eq_true] at h
    rw [star_of h.1 es env] at hp
    rcases List.mem_cons.mp hp with q | hp
    · subst q; rfl
    · exact stars_of h.2 env p hp
theorem plain_of {pos : Pos} {l : List (Bool × Sem Value)} (h : ∀ p ∈ l, p.1 = false) : (backTo pos l).any (·.1) = false := by
  rw [List.any_eq_false]
  intro p hp
  unfold backTo at hp
  obtain ⟨q, h1, h2⟩ := List.mem_map.mp hp
  subst h2
  simp [h q h1]
theorem CxOk.blk (c : CxOk T gk S XW X) (s : Shared) (H : Hp) (scope : Scope) (C : Addr) (cl : List (Str × Addr)) (fp : List Addr) : CxOk T gk ⟨S.N, relS scope S.sc, scope⟩ XWF (X.blk s H scope (compEnvC scope cl C X.env) fp) where
  hN := c.hN
  hs := by
    show relS scope X.env.scope = relS scope S.sc
    rw [c.hs]
  nd := c.nd
  calm := c.calm
  room := c.room
  gs := c.gs
  tk := takes0
  con := c.con
  bl := c.bl
  loc := fun x h => by
    have h' : scope.names.lookup x = some .local ∨ scope.names.lookup x = some .cell := by
      unfold locB at h
      dsimp only at h
      split at h
      · exact .inl (by assumption)
      · exact .inr (by assumption)
      · cases h
    have e : (X.blk s H scope (compEnvC scope cl C X.env) fp).env.scope = relS scope X.env.scope := rfl
    rw [e]
    rcases h' with h' | h'
    · have q : (relS scope X.env.scope).names.lookup x = some .local := lookup_relS_keep (by decide) h'
      exact ⟨.inl q, .inr q⟩
    · have q : (relS scope X.env.scope).names.lookup x = some .cell := lookup_relS_keep (by decide) h'
      refine ⟨.inr q, .inl ?_⟩
      show (scope.names.lookup x == some .cell) = true
      rw [h']
      rfl
end
end Ev

/-! Ev, part M: soundness for expressions. -/
namespace Ev
open PySem L2 RZ
section
variable {T : Tx} {gk : Bool}
/-- a value's reading, and where it may be, its reading as a test -/
def SndE (T : Tx) (gk : Bool) (c : CE) : Prop := ∀ (S : SC) (XW : WX) (X : Cx) (e : Expr), CxOk T gk S XW X → chkE T S c e = true →
  (∀ pk, PE X e (tE X.K X.mg XW fun en => evM T.cs T.FT c pk en)) ∧ (tstOk e = true → PT X e (tTst X.K X.mg XW (okB fun en => evM T.cs T.FT c false en)))
def SndEs (T : Tx) (gk : Bool) (cs : CEs) : Prop := ∀ (S : SC) (XW : WX) (X : Cx) (es : List Expr), CxOk T gk S XW X → chkEs T S cs es = true →
  L2.PA X es (tR X.K X.mg (OOf X.K (OVs X.K)) XW fun en => evVs T.cs T.FT cs en) ∧ L2.PA X es (tR X.K X.mg (OOf X.K (OPs X.K)) XW fun en => evPs T.cs T.FT cs en) ∧
  (∀ ms, ms.length = es.length → L2.PA X es (tR X.K X.mg (OOf X.K (OAs X.K)) XW fun en => evAs T.cs T.FT ms cs en)) ∧
  (es ≠ [] → ∀ op an pos, an = (op == .And) → PE X (.BoolOp op es pos) (tE X.K X.mg XW fun en => evB T.cs T.FT an cs en) ∧
    (tstOks es = true → PW X (.BoolOp op es pos) (tTst X.K X.mg XW (okB fun en => evB T.cs T.FT an cs en))))
def SndO (T : Tx) (gk : Bool) (c : CEo) : Prop := (∀ (S : SC) (XW : WX) (X : Cx) (e : Option Expr), CxOk T gk S XW X → chkO T S c e = true → PO X e (tR X.K X.mg (OOf X.K fun _ _ _ b a => b = a) XW fun en => evO T.cs T.FT c en)) ∧
  ∀ (S : SC) (XW : WX) (X : Cx) (es : List Expr), CxOk T gk S XW X → chkCs T S c es = true → PTs X es (tTst X.K X.mg XW fun en => evC T.cs T.FT c en)
def SndI (T : Tx) (gk : Bool) (c : IT) : Prop := ∀ (S : SC) (XW : WX) (X : Cx) (tg e : Expr), CxOk T gk S XW X → chkI T S c tg e = true → ∀ pk, PI X tg e (tR X.K X.mg (OIt X.K) XW fun en => evI T.cs T.FT pk c en)

theorem both {X : Cx} {e : Expr} {XW : WX} {m : En → Rs PV} {c : CE} (hm : ∀ pk, (fun en => evM T.cs T.FT c pk en) = m) (h : PE X e (tE X.K X.mg XW m)) (he : tstOk e = true → ∀ whole, isTrue e X.env whole = (do let v ← whole; standAt e.pos; holding [v] (truthy v))) :
    (∀ pk, PE X e (tE X.K X.mg XW fun en => evM T.cs T.FT c pk en)) ∧ (tstOk e = true → PT X e (tTst X.K X.mg XW (okB fun en => evM T.cs T.FT c false en))) :=
  ⟨fun pk => by rw [hm pk]; exact h, fun ht => by rw [hm false]; exact sndT_val h (he ht)⟩
theorem E_var (i : Nat) : SndE T gk (.var i) := fun S XW X e c h => by
  simp only [chkE] at h
  split at h
  · exact ⟨fun pk => snd_var (c.var h), fun _ => sndT_val (snd_var (pk := false) (c.var h)) fun _ => rfl⟩
  · cases h
theorem E_mov (i : Nat) : SndE T gk (.mov i) := fun S XW X e c h => by
  simp only [chkE] at h
  split at h
  · exact both (fun _ => rfl) (snd_mov (c.var h)) fun _ _ => rfl
  · cases h
theorem E_con (d : D) : SndE T gk (.con d) := fun S XW X e c h => by
  simp only [chkE] at h
  split at h
  · unfold chkC at h
    split at h
    · obtain rfl := of_decide_eq_true h
      exact both (fun _ => rfl) (snd_con pe_int fun _ _ => .int _) fun _ _ => rfl
    · obtain rfl := of_decide_eq_true h
      exact both (fun _ => rfl) (snd_con pe_bl fun _ _ => .bl _) fun _ _ => rfl
    · exact both (fun _ => rfl) (snd_con pe_non fun _ _ => .non) fun _ _ => rfl
    · obtain rfl := of_decide_eq_true h
      exact both (fun _ => rfl) (snd_con pe_str fun _ _ => .str _) fun _ _ => rfl
    · cases h
  · cases h
theorem E_glob (k : Nat) : SndE T gk (.glob k) := fun S XW X e c h => by
  simp only [chkE] at h
  split at h
  · simp only [Bool.and_eq_true, decide_eq_true_eq, dbg, Bool.not_eq_true'] at h
    obtain ⟨⟨h1, h2⟩, h3⟩ := h
    have key : ∀ {pos : Pos}, PE X (.Name _ pos) (tE X.K X.mg XW fun en => match T.cs k with
        | some d => .ok (.r (.v d)) en
        | none => .no) := fun {pos} => by
      cases hd : T.cs k with
      | none =>
        refine ⟨fun pins s σ H Q I q => ?_⟩
        obtain ⟨W, G, B, F, en, rel, q⟩ := q
        exact q.elim
      | some d =>
        obtain ⟨v, u, q1, q2, q3⟩ := c.con k _ d h1 hd
        exact snd_con (pe_glob (c.gl h2) q1 q2 h3) q3
    exact both (fun _ => rfl) key fun _ _ => rfl
  · cases h
theorem E_tup (es : CEs) (ih : SndEs T gk es) : SndE T gk (.tup es) := fun S XW X e c h => by
  simp only [chkE] at h
  split at h
  · exact both (fun _ => rfl) (snd_tup (ih S XW X _ c h).1) fun _ _ => rfl
  · cases h
theorem E_lst (es : CEs) (ih : SndEs T gk es) : SndE T gk (.lst es) := fun S XW X e c h => by
  simp only [chkE] at h
  split at h
  · exact both (fun _ => rfl) (snd_lst (ih S XW X _ c h).1) fun _ _ => rfl
  · cases h
theorem E_bin (op : Operator) (a b : CE) (ia : SndE T gk a) (ib : SndE T gk b) : SndE T gk (.bin op a b) := fun S XW X e c h => by
  simp only [chkE] at h
  split at h
  · simp only [Bool.and_eq_true, decide_eq_true_eq] at h
    obtain ⟨⟨rfl, h1⟩, h2⟩ := h
    exact both (fun _ => rfl) (snd_bin ((ia S XW X _ c h1).1 true) ((ib S XW X _ c h2).1 true)) fun _ _ => rfl
  · cases h
theorem E_neg (a : CE) (ia : SndE T gk a) : SndE T gk (.neg a) := fun S XW X e c h => by
  simp only [chkE] at h
  split at h
  · exact both (fun _ => rfl) (snd_neg ((ia S XW X _ c h).1 false)) fun _ _ => rfl
  · cases h
theorem E_cmp (op : CmpOp) (a b : CE) (ia : SndE T gk a) (ib : SndE T gk b) : SndE T gk (.cmp op a b) := fun S XW X e c h => by
  simp only [chkE] at h
  split at h
  · simp only [Bool.and_eq_true, decide_eq_true_eq, Bool.not_eq_true'] at h
    obtain ⟨⟨⟨rfl, h0⟩, h1⟩, h2⟩ := h
    exact ⟨fun pk => snd_cmp c.units h0 ((ia S XW X _ c h1).1 true) ((ib S XW X _ c h2).1 true), fun _ => sndT_cmp c.units h0 ((ia S XW X _ c h1).1 true) ((ib S XW X _ c h2).1 true)⟩
  · cases h
theorem E_chn (o1 o2 : CmpOp) (a b d : CE) (ia : SndE T gk a) (ib : SndE T gk b) (id : SndE T gk d) : SndE T gk (.chn o1 o2 a b d) := fun S XW X e c h => by
  simp only [chkE] at h
  split at h
  · simp only [Bool.and_eq_true, decide_eq_true_eq, Bool.not_eq_true'] at h
    obtain ⟨⟨⟨⟨⟨rfl, rfl⟩, h0⟩, h1⟩, h2⟩, h3⟩ := h
    exact ⟨fun pk => snd_chn c.units h0 ((ia S XW X _ c h1).1 true) ((ib S XW X _ c h2).1 true) ((id S XW X _ c h3).1 true), fun _ => sndT_chn c.units h0 ((ia S XW X _ c h1).1 true) ((ib S XW X _ c h2).1 true) ((id S XW X _ c h3).1 true)⟩
  · cases h
theorem E_not (a : CE) (ia : SndE T gk a) : SndE T gk (.not a) := fun S XW X e c h => by
  simp only [chkE] at h
  split at h
  · exact ⟨fun pk => snd_not ((ia S XW X _ c h).1 false), fun ht => sndT_not ((ia S XW X _ c h).2 (by simpa [tstOk] using ht))⟩
  · cases h
theorem E_bo (an : Bool) (es : CEs) (ih : SndEs T gk es) : SndE T gk (.bo an es) := fun S XW X e c h => by
  simp only [chkE] at h
  split at h
  · simp only [Bool.and_eq_true, beq_iff_eq, Bool.not_eq_true'] at h
    obtain ⟨⟨h0, h1⟩, h2⟩ := h
    obtain ⟨q1, q2⟩ := (ih S XW X _ c h1).2.2.2 (by intro z; rw [z] at h2; cases h2) _ an _ h0
    exact ⟨fun pk => q1, fun ht => (q2 (by simpa [tstOk] using ht)).pt⟩
  · cases h
theorem okB_ite {ma mb mc : En → Rs PV} {e : En} : (testB (mc e) fun k e => match k with
    | true => ma e
    | false => mb e) = (okB mc e).bind fun k e => match k with
    | true => ma e
    | false => mb e := by
  unfold okB testB
  cases mc e with
  | no => rfl
  | ex x e1 => rfl
  | ok x e1 =>
    simp only [Rs.bind_ok]
    cases boolOf x <;> rfl
theorem E_ite (d a b : CE) (id : SndE T gk d) (ia : SndE T gk a) (ib : SndE T gk b) : SndE T gk (.ite d a b) := fun S XW X e c h => by
  simp only [chkE] at h
  split at h
  · simp only [Bool.and_eq_true] at h
    obtain ⟨⟨⟨h0, h1⟩, h2⟩, h3⟩ := h
    refine ⟨fun pk => ?_, fun ht => by simp [tstOk] at ht⟩
    have q := snd_ite (pos := ‹Pos›) ((id S XW X _ c h1).2 h0) ((ia S XW X _ c h2).1 false) ((ib S XW X _ c h3).1 false)
    have e1 : (fun en => evM T.cs T.FT (.ite d a b) pk en) = fun e => (okB (fun en => evM T.cs T.FT d false en) e).bind fun k e => match k with
        | true => evM T.cs T.FT a false e
        | false => evM T.cs T.FT b false e := funext fun en => okB_ite (mc := fun en => evM T.cs T.FT d false en)
    rw [e1]
    exact q
  · cases h
theorem plainIx_of {i : CE} {y : Expr} {S : SC} (h : chkE T S i y = true) : PlainIx y := fun o i' => by
  cases y <;> first | rfl | (cases i <;> simp [chkE] at h)
theorem E_idx (a i : CE) (ia : SndE T gk a) (ii : SndE T gk i) : SndE T gk (.idx a i) := fun S XW X e c h => by
  simp only [chkE] at h
  split at h
  · simp only [Bool.and_eq_true] at h
    exact both (fun _ => rfl) (snd_idx ((ia S XW X _ c h.1).1 true) ((ii S XW X _ c h.2).1 true) (plainIx_of h.2)) fun _ _ => rfl
  · cases h
theorem E_slc (a : CE) (lo hi : CEo) (ia : SndE T gk a) (il : SndO T gk lo) (ih : SndO T gk hi) : SndE T gk (.slc a lo hi) := fun S XW X e c h => by
  simp only [chkE] at h
  split at h
  · simp only [Bool.and_eq_true] at h
    exact both (fun _ => rfl) (snd_slc ((ia S XW X _ c h.1.1).1 true) (il.1 S XW X _ c h.1.2) (ih.1 S XW X _ c h.2)) fun _ _ => rfl
  · cases h
theorem E_rev (a : CE) (ia : SndE T gk a) : SndE T gk (.rev a) := fun S XW X e c h => by
  simp only [chkE] at h
  split at h
  · simp only [Bool.and_eq_true, decide_eq_true_eq] at h
    obtain ⟨rfl, h⟩ := h
    exact both (fun _ => rfl) (snd_rev ((ia S XW X _ c h).1 true)) fun _ _ => rfl
  · cases h
end
end Ev

/-! Ev, part N: soundness for expressions, the rest. -/
namespace Ev
open PySem L2 RZ
theorem bt_any : bootBuiltins "any" = some (.builtin "any") := by decide +kernel
theorem bt_all : bootBuiltins "all" = some (.builtin "all") := by decide +kernel
theorem bt_max : bootBuiltins "max" = some (.builtin "max") := by decide +kernel
theorem bt_min : bootBuiltins "min" = some (.builtin "min") := by decide +kernel
theorem bt_sum : bootBuiltins "sum" = some (.builtin "sum") := by decide +kernel
theorem bt_len : bootBuiltins "len" = some (.builtin "len") := by decide +kernel
theorem bt_abs : bootBuiltins "abs" = some (.builtin "abs") := by decide +kernel
theorem bt_sorted : bootBuiltins "sorted" = some (.builtin "sorted") := by decide +kernel
theorem bt_divmod : bootBuiltins "divmod" = some (.builtin "divmod") := by decide +kernel
theorem bt_repr : bootBuiltins "repr" = some (.builtin "repr") := by decide +kernel
theorem bt_isi : bootBuiltins "isinstance" = some (.builtin "isinstance") := by decide +kernel
theorem bt_list : bootBuiltins "list" = some (.type "list") := by decide +kernel
theorem bt_tuple : bootBuiltins "tuple" = some (.type "tuple") := by decide +kernel
theorem bt_int : bootBuiltins "int" = some (.type "int") := by decide +kernel
theorem bt_str : bootBuiltins "str" = some (.type "str") := by decide +kernel
theorem bt_bool : bootBuiltins "bool" = some (.type "bool") := by decide +kernel
section
variable {T : Tx} {gk : Bool}
theorem star1 {X : Cx} {c : CE} {S : SC} {e : Expr} (h : chkE T S c e = true) : starEach [e] X.env = (false, eval e X.env) :: starEach [] X.env := star_of h [] X.env
theorem stars_fn {X : Cx} {es : List Expr} (h : ∀ p ∈ starEach es X.env, p.1 = false) {pos : Pos} : (backTo pos (starEach es X.env)).any (·.1) = false := plain_of h
theorem bi_call {X : Cx} {f : Bi} (hc : X.calm = true) (hf : f ≠ .sortedR ∧ f ≠ .listRange ∧ f ≠ .setLen) {e : Expr} {es : List Expr} {x : Str} {p pos : Pos} (hx : x = biN f) (hg : Gl X (biN f)) (hm : X.mg (biN f) = none)
    (he : starEach (e :: es) X.env = (false, eval e X.env) :: starEach es X.env) (hpl : (backTo pos (starEach es X.env)).any (·.1) = false) (t : TA) (ha : L2.PA X (e :: es) t) : PE X (.Call (.Name x p) (e :: es) [] pos) (tCB (rN X.K (biD f)) t) := by
  subst hx
  have hc := call_biD (X := X) hc f hf
  cases f with
  | sortedR => exact absurd rfl hf.1
  | listRange => exact absurd rfl hf.2.1
  | setLen => exact absurd rfl hf.2.2
  | len => exact pe_callB hc hg hm bt_len ha (he := he) (hpl := hpl)
  | all => exact pe_callB hc hg hm bt_all ha (he := he) (hpl := hpl)
  | any => exact pe_callB hc hg hm bt_any ha (he := he) (hpl := hpl)
  | max => exact pe_callB hc hg hm bt_max ha (he := he) (hpl := hpl)
  | min => exact pe_callB hc hg hm bt_min ha (he := he) (hpl := hpl)
  | sum => exact pe_callB hc hg hm bt_sum ha (he := he) (hpl := hpl)
  | list => exact pe_callTy hc hg hm bt_list ha (he := he) (hpl := hpl)
  | tuple => exact pe_callTy hc hg hm bt_tuple ha (he := he) (hpl := hpl)
  | sorted => exact pe_callB hc hg hm bt_sorted ha (he := he) (hpl := hpl)
  | int => exact pe_callTy hc hg hm bt_int ha (he := he) (hpl := hpl)
  | str => exact pe_callTy hc hg hm bt_str ha (he := he) (hpl := hpl)
  | abs => exact pe_callB hc hg hm bt_abs ha (he := he) (hpl := hpl)
  | divmod => exact pe_callB hc hg hm bt_divmod ha (he := he) (hpl := hpl)
  | repr => exact pe_callB hc hg hm bt_repr ha (he := he) (hpl := hpl)
theorem E_bi (f : Bi) (es : CEs) (ih : SndEs T gk es) : SndE T gk (.bi f es) := fun S XW X e c h => by
  simp only [chkE] at h
  split at h
  · rename_i x p xs pos
    have key : ∀ (hf : f ≠ .sortedR ∧ f ≠ .listRange ∧ f ≠ .setLen), (bltB T S (biN f) x && chkEs T S es xs && !xs.isEmpty) = true →
        PE X (.Call (.Name x p) xs [] pos) (tE X.K X.mg XW fun en => (evPs T.cs T.FT es en).bind fun xs e => appN (biD f) xs e) := fun hf h => by
      simp only [Bool.and_eq_true, Bool.not_eq_true'] at h
      obtain ⟨⟨h1, h2⟩, h3⟩ := h
      obtain ⟨rfl, q1, q2⟩ := c.blt h1
      have st := stars_of h2 X.env
      cases xs with
      | nil => cases h3
      | cons y ys =>
        cases es with
        | nil => simp [chkEs] at h2
        | cons d ds =>
          have h2' := h2
          simp only [chkEs, Bool.and_eq_true] at h2'
          refine snd_bi (ta := fun t => tE X.K X.mg XW fun _ => .no) (fun t ht => bi_call c.calm hf rfl q1 q2 (star_of h2'.1 ys X.env) (stars_fn (stars_of h2'.2 X.env)) t ht) (ih S XW X _ c h2).2.1
    cases f <;> first
      | (cases h; done)
      | exact both (fun _ => rfl) (key ⟨nofun, nofun, nofun⟩ h) fun _ _ => rfl
  · cases h
theorem E_sortedR (a : CE) (ia : SndE T gk a) : SndE T gk (.sortedR a) := fun S XW X e c h => by
  simp only [chkE] at h
  split at h
  · simp only [Bool.and_eq_true, decide_eq_true_eq] at h
    obtain ⟨⟨⟨h1, rfl⟩, rfl⟩, h2⟩ := h
    obtain ⟨rfl, q1, q2⟩ := c.blt h1
    exact both (fun _ => rfl) (snd_sortedR q1 q2 (star1 h2) ((ia S XW X _ c h2).1 true)) fun _ _ => rfl
  · cases h
theorem E_lstRange (a : CE) (ia : SndE T gk a) : SndE T gk (.lstRange a) := fun S XW X e c h => by
  simp only [chkE] at h
  split at h
  · simp only [Bool.and_eq_true] at h
    obtain ⟨⟨h1, h3⟩, h2⟩ := h
    obtain ⟨rfl, q1, q2⟩ := c.blt h1
    obtain ⟨rfl, q3, q4⟩ := c.blt h3
    exact both (fun _ => rfl) (snd_listRange c.calm q1 q2 q3 q4 (star1 h2) ((ia S XW X _ c h2).1 true)) fun _ _ => rfl
  · cases h
theorem ty_boot (t : Ty) : bootBuiltins (tyS t) = some (.type (tyN t)) := by cases t <;> decide +kernel
theorem ty_name (t : Ty) : tyS t ≠ "__name__" ∧ (tyS t == ("__debug__" : Str)) = false := by cases t <;> decide
theorem E_isi (a : CE) (t : Ty) (ia : SndE T gk a) : SndE T gk (.isi a t) := fun S XW X e c h => by
  simp only [chkE] at h
  split at h
  · simp only [Bool.and_eq_true] at h
    obtain ⟨⟨h1, h3⟩, h2⟩ := h
    obtain ⟨rfl, q1, q2⟩ := c.blt h1
    obtain ⟨rfl, q3, q4⟩ := c.blt h3
    refine both (fun _ => rfl) (snd_isi (t := t) (fun ta hta => pe_callB (call_isiD t) q1 q2 bt_isi hta (he := star_of h2 _ X.env) (hpl := rfl)) (pe_bltn q3 q4 (ty_boot t) rfl (ty_name t).1 (ty_name t).2) (star_of h2 _ X.env) rfl ((ia S XW X _ c h2).1 true)) fun _ _ => rfl
  · cases h
theorem E_call (k : Nat) (ms : List Bool) (es : CEs) (ih : SndEs T gk es) : SndE T gk (.call k ms es) := fun S XW X e c h => by
  simp only [chkE] at h
  split at h
  · simp only [Bool.and_eq_true, decide_eq_true_eq, dbg, Bool.not_eq_true'] at h
    obtain ⟨⟨⟨⟨⟨h1, h2⟩, h3⟩, h4⟩, h5⟩, h6⟩ := h
    rename_i x p xs pos
    cases xs with
    | nil => cases h6
    | cons y ys =>
      cases es with
      | nil => simp [chkEs] at h5
      | cons d ds =>
        have h5' := h5
        simp only [chkEs, Bool.and_eq_true] at h5'
        obtain ⟨j, r, kn⟩ := c.room
        exact both (fun _ => rfl) (snd_call (kn k _ h1) c.tk c.gs r (c.gl h2) h3 (star_of h5'.1 ys X.env) (stars_fn (stars_of h5'.2 X.env)) ((ih S XW X _ c h5).2.2.1 ms h4)) fun _ _ => rfl
  · cases h
theorem pm_list {X : Cx} {m : Mu} : MtR X ("list." ++ (match m with | .append => "append" | .extend => "extend" | .pop => "pop" | .popAt => "pop" | .clear => "clear")) (muR X.K m) := by
  cases m with
  | append => exact mt_append
  | extend => exact mt_extendR
  | pop => exact mt_pop
  | popAt => exact mt_popAt
  | clear => exact mt_clear
theorem E_mut (m : Mu) (i : Nat) (es : CEs) (ih : SndEs T gk es) : SndE T gk (.mut m i es) := fun S XW X e c h => by
  simp only [chkE] at h
  split at h
  · simp only [Bool.and_eq_true, decide_eq_true_eq] at h
    rename_i x np nm ap xs cp
    obtain ⟨⟨⟨⟨⟨h1, rfl⟩, h3⟩, h4⟩, h5⟩, h6⟩ := h
    have hv := c.var (pos := np) h1
    have st := stars_of h6 X.env
    refine both (fun _ => rfl) (snd_mut (es := xs) ?_) fun _ _ => rfl
    cases xs with
    | nil =>
      cases es with
      | cons d ds => simp [chkEs] at h6
      | nil =>
        refine .inr ⟨rfl, by funext e; rfl, ?_⟩
        cases m with
        | append => simp at h5
        | extend => simp at h5
        | popAt => simp at h5
        | pop => exact pe_bm0 PySem.F.plainAttrs_list PySem.F.slot_list_pop PySem.F.type_list_pop mt_pop hv rfl h3
        | clear => exact pe_bm0 PySem.F.plainAttrs_list PySem.F.slot_list_clear PySem.F.type_list_clear mt_clear hv rfl h3
    | cons y ys =>
      cases ys with
      | cons z zs => simp at h4
      | nil =>
        cases es with
        | nil => simp [chkEs] at h6
        | cons d ds =>
          have h6' := h6
          simp only [chkEs, Bool.and_eq_true] at h6'
          have sy := star_of h6'.1 [] X.env
          have hfew : ((backTo cp (starEach [y] X.env)).all (fun x => !x.1) && (backToKw cp (keywordEach [] X.env)).all (fun x => x.1.isSome)
              && decide (([y] : List Expr).length + ([] : List Keyword).length + (if ([] : List Keyword).isEmpty then 0 else 1) < 30)) = true := by
            rw [sy]; rfl
          have ha := (ih S XW X _ c h6).1
          refine .inl ?_
          cases m with
          | pop => simp at h5
          | clear => simp at h5
          | append => exact pe_bm PySem.F.plainAttrs_list PySem.F.slot_list_append PySem.F.type_list_append mt_append hv ha rfl hfew h3 sy rfl
          | extend => exact pe_bm PySem.F.plainAttrs_list PySem.F.slot_list_extend PySem.F.type_list_extend mt_extendR hv ha rfl hfew h3 sy rfl
          | popAt => exact pe_bm PySem.F.plainAttrs_list PySem.F.slot_list_pop PySem.F.type_list_pop mt_popAt hv ha rfl hfew h3 sy rfl
  · cases h
/-! targets -/
theorem assign_tg {t : Tg} {e : Expr} {S : SC} (h : chkTg S t e = true) (es : List Expr) (env : PySem.Env) : assignEach (e :: es) env = (false, assign e env) :: assignEach es env := by
  cases e <;> first | rfl | (cases t <;> simp [chkTg] at h)
theorem chkTgs_env {S : SC} : ∀ {ts : Tgs} {es : List Expr}, chkTgs S ts es = true → ∀ env : PySem.Env, (assignEach es env).length = tgsN ts ∧ ∀ p ∈ assignEach es env, p.1 = false
  | .nil, [], _, env => ⟨rfl, fun p hp => by simp [assignEach] at hp⟩
  | .nil, e :: es, h, _ => by simp [chkTgs] at h
  | .cons t ts, [], h, _ => by simp [chkTgs] at h
  | .cons t ts, e :: es, h, env => by
    simp only [chkTgs, Bool.and_eq_true] at h
    obtain ⟨q1, q2⟩ := chkTgs_env h.2 env
    rw [assign_tg h.1 es env]
    refine ⟨by simp [tgsN, q1], fun p hp => ?_⟩
    rcases List.mem_cons.mp hp with e | hp
    · subst e; rfl
    · exact q2 p hp
theorem find_none {α : Type} {l : List (Bool × α)} (h : ∀ p ∈ l, p.1 = false) : l.findIdx? (·.1) = none := by
  rw [List.findIdx?_eq_none_iff]
  exact h
mutual
theorem tg_snd {S : SC} {XW : WX} {X : Cx} (c : CxOk T gk S XW X) : ∀ {t : Tg} {e : Expr}, chkTg S t e = true → PG X e (gT X.K t)
  | .nm i, e, h => by
    simp only [chkTg] at h
    split at h
    · simp only [Bool.and_eq_true, decide_eq_true_eq] at h
      obtain ⟨q1, q2⟩ := c.loc _ h.2
      exact sndG_nm (pg_name (by rw [c.hN]; exact c.nd) (by rw [c.hN]; exact h.1) q1 q2)
    · cases h
  | .tup ts, e, h => by
    simp only [chkTg] at h
    split at h
    · obtain ⟨q1, q2⟩ := chkTgs_env h X.env
      exact sndG_tup c.calm (tgs_snd c h) q1 (find_none q2)
    · cases h
theorem tgs_snd {S : SC} {XW : WX} {X : Cx} (c : CxOk T gk S XW X) : ∀ {ts : Tgs} {es : List Expr}, chkTgs S ts es = true → PGs X es (gTs X.K ts)
  | .nil, [], _ => sndGs_nil
  | .nil, e :: es, h => by simp [chkTgs] at h
  | .cons t ts, [], h => by simp [chkTgs] at h
  | .cons t ts, e :: es, h => by
    simp only [chkTgs, Bool.and_eq_true] at h
    exact sndGs_cons (by rw [assign_tg h.1 es X.env]; rfl) (tg_snd c h.1) (tgs_snd c h.2)
end
theorem E_lc (own : List Nat) (tg : Tg) (it : IT) (c : CEo) (x : CE) (ii : SndI T gk it) (ic : SndO T gk c) (ix : SndE T gk x) : SndE T gk (.lc own tg it c x) := fun S XW X e k h => by
  simp only [chkE] at h
  split at h
  · simp only [Bool.and_eq_true, decide_eq_true_eq, List.all_eq_true, Bool.not_eq_true'] at h
    obtain ⟨⟨⟨⟨⟨⟨⟨h1, h2⟩, h3⟩, h4⟩, h5⟩, h6⟩, h7⟩, h8⟩ := h
    rename_i elt t iter ifs scope pos
    have hb : BlkOk X.N X.env.scope scope (ownNames S.N own) := by
      rw [k.hN, k.hs]
      exact blkOk_by h1
    have q := snd_lc (mg := X.mg) (XW := XW) (X := X) (pos := pos) (elt := elt) (tg := t) (iter := iter) (ifs := ifs) (scope := scope) (own := ownNames S.N own) (t := tg) (mi := fun en => evI T.cs T.FT true it en) (mt := fun en => evC T.cs T.FT c en) (me := fun en => evM T.cs T.FT x false en)
      (fun j hj => by rw [h2]; exact h3 j hj) k.calm (by rw [k.hN]; exact k.nd) (ii S XW X t iter k h5 true) hb
      (fun s H C cl fp => tg_snd (k.blk s H scope C cl fp) h6) (fun s H C cl fp => ic.2 _ _ _ _ (k.blk s H scope C cl fp) h7) (fun s H C cl fp => (ix _ _ _ _ (k.blk s H scope C cl fp) h8).1 false)
      (fun x => by
        unfold foldedSetIterable
        cases iter <;> first | rfl | (simp [isSet] at h4))
    rw [h2] at q
    refine both (fun pk => ?_) q fun _ _ => rfl
    funext en
    simp only [evM, lcM]
    all_goals first | rfl | congr 1
  · cases h
theorem Es_nil : SndEs T gk .nil := fun S XW X es c h => by
  cases es with
  | cons e es => simp [chkEs] at h
  | nil =>
    refine ⟨sndV_nil, sndP_nil, fun ms hm => ?_, fun z => absurd rfl z⟩
    cases ms with
    | nil => exact sndA_nil
    | cons m ms => cases hm
theorem Es_cons (x : CE) (xs : CEs) (ix : SndE T gk x) (ih : SndEs T gk xs) : SndEs T gk (.cons x xs) := fun S XW X es c h => by
  cases es with
  | nil => simp [chkEs] at h
  | cons e es =>
    simp only [chkEs, Bool.and_eq_true] at h
    obtain ⟨v1, v2⟩ := ix S XW X e c h.1
    obtain ⟨r1, r2, r3, r4⟩ := ih S XW X es c h.2
    have hs := star_of h.1 es X.env
    refine ⟨sndV_cons hs (v1 false) r1, sndP_cons hs (v1 true) r2, fun ms hm => ?_, fun _ op an pos hop => ?_⟩
    · cases ms with
      | nil => cases hm
      | cons m ms =>
        have hm' : ms.length = es.length := by simpa using hm
        cases m with
        | false => exact sndA_d hs (v1 false) (r3 ms hm')
        | true => exact sndA_b hs (v1 true) (r3 ms hm')
    · cases es with
      | nil =>
        cases xs with
        | cons y ys => simp [chkEs] at h
        | nil => exact ⟨pe_one (v1 false), fun ht => sndBt_one (v2 (by simpa [tstOks] using ht))⟩
      | cons y ys =>
        cases xs with
        | nil => simp [chkEs] at h
        | cons d ds =>
          obtain ⟨q1, q2⟩ := r4 (by simp) op an pos hop
          refine ⟨sndBv_cons hop (v1 false) q1, fun ht => ?_⟩
          simp only [tstOks, Bool.and_eq_true] at ht
          refine sndBt_cons hop (v2 ht.1) (q2 ?_)
          simp only [tstOks, Bool.and_eq_true]
          exact ht.2
theorem O_none : SndO T gk .none := ⟨fun S XW X e c h => by
  cases e with
  | some e => simp [chkO] at h
  | none =>
    refine ⟨fun pins s σ H Q I q => po_none.run pins s σ H _ I ?_⟩
    obtain ⟨W, G, B, F, en, rel, q⟩ := q
    exact q none H F ⟨rel, .refl, rfl⟩, fun S XW X es c h => by
  cases es with
  | cons e es => simp [chkCs] at h
  | nil =>
    refine ⟨fun pins s σ H Q I q => pts_nil.run pins s σ H _ I ?_⟩
    obtain ⟨W, G, B, F, en, rel, q⟩ := q
    exact q true H F ⟨rel, .refl, rfl⟩⟩
theorem O_some (x : CE) (ix : SndE T gk x) : SndO T gk (.some x) := ⟨fun S XW X e c h => by
  cases e with
  | none => simp [chkO] at h
  | some e =>
    simp only [chkO] at h
    refine ⟨fun pins s σ H Q I q => (po_some ((ix S XW X e c h).1 false)).run pins s σ H _ I ?_⟩
    obtain ⟨W, G, B, F, en, rel, q⟩ := q
    refine ⟨W, G, B, F, en, rel, seq adv_out reb_of rel q fun y e1 v H1 F1 r1 s1 o1 q => ?_⟩
    split at q
    · rename_i i hi
      exact ⟨i, intOf_opv hi o1, q (some i) H1 F1 ⟨r1, .refl, rfl⟩⟩
    · exact q.elim, fun S XW X es c h => by
  cases es with
  | nil => simp [chkCs] at h
  | cons e es =>
    cases es with
    | cons y ys => simp [chkCs] at h
    | nil =>
      simp only [chkCs, Bool.and_eq_true] at h
      exact pts_one ((ix S XW X e c h.2).2 h.1)⟩
theorem I_val (x : CE) (ix : SndE T gk x) : SndI T gk (.val x) := fun S XW X tg e c h pk => by
  simp only [chkI] at h
  exact sndI_val ((ix S XW X e c h).1 pk)
theorem I_range1 (a : CE) (ia : SndE T gk a) : SndI T gk (.range1 a) := fun S XW X tg e c h pk => by
  simp only [chkI] at h
  split at h
  · simp only [Bool.and_eq_true] at h
    obtain ⟨rfl, q1, q2⟩ := c.blt h.1
    exact sndI_range1 q1 q2 (star1 h.2) ((ia S XW X _ c h.2).1 pk)
  · cases h
theorem I_range2 (a b : CE) (ia : SndE T gk a) (ib : SndE T gk b) : SndI T gk (.range2 a b) := fun S XW X tg e c h pk => by
  simp only [chkI] at h
  split at h
  · simp only [Bool.and_eq_true] at h
    obtain ⟨⟨h1, h2⟩, h3⟩ := h
    obtain ⟨rfl, q1, q2⟩ := c.blt h1
    exact sndI_range2 q1 q2 (by rw [star_of h2, star_of h3]; rfl) (star1 h3) ((ia S XW X _ c h2).1 pk) ((ib S XW X _ c h3).1 pk)
  · cases h
theorem I_zip (a b : CE) (ia : SndE T gk a) (ib : SndE T gk b) : SndI T gk (.zip a b) := fun S XW X tg e c h pk => by
  simp only [chkI] at h
  split at h
  · simp only [Bool.and_eq_true] at h
    obtain ⟨⟨h1, h2⟩, h3⟩ := h
    obtain ⟨rfl, q1, q2⟩ := c.blt h1
    exact sndI_zip q1 q2 (star_of h2 _ X.env) (star1 h3) (by rw [star1 h3]; rfl) ((ia S XW X _ c h2).1 pk) ((ib S XW X _ c h3).1 pk)
  · cases h
theorem I_enum (a : CE) (ia : SndE T gk a) : SndI T gk (.enum a) := fun S XW X tg e c h pk => by
  simp only [chkI] at h
  split at h
  · simp only [Bool.and_eq_true] at h
    obtain ⟨rfl, q1, q2⟩ := c.blt h.1
    exact sndI_enum q1 q2 (star1 h.2) ((ia S XW X _ c h.2).1 pk)
  · cases h
mutual
theorem sndE (T : Tx) (gk : Bool) : ∀ c : CE, SndE T gk c
  | .var i => E_var i
  | .mov i => E_mov i
  | .con d => E_con d
  | .glob k => E_glob k
  | .tup es => E_tup es (sndEs T gk es)
  | .lst es => E_lst es (sndEs T gk es)
  | .bin op a b => E_bin op a b (sndE T gk a) (sndE T gk b)
  | .neg a => E_neg a (sndE T gk a)
  | .cmp op a b => E_cmp op a b (sndE T gk a) (sndE T gk b)
  | .chn o1 o2 a b c => E_chn o1 o2 a b c (sndE T gk a) (sndE T gk b) (sndE T gk c)
  | .not a => E_not a (sndE T gk a)
  | .bo an es => E_bo an es (sndEs T gk es)
  | .ite c a b => E_ite c a b (sndE T gk c) (sndE T gk a) (sndE T gk b)
  | .idx a i => E_idx a i (sndE T gk a) (sndE T gk i)
  | .slc a lo hi => E_slc a lo hi (sndE T gk a) (sndO T gk lo) (sndO T gk hi)
  | .rev a => E_rev a (sndE T gk a)
  | .bi f es => E_bi f es (sndEs T gk es)
  | .sortedR a => E_sortedR a (sndE T gk a)
  | .lstRange a => E_lstRange a (sndE T gk a)
  | .isi a t => E_isi a t (sndE T gk a)
  | .call k ms es => E_call k ms es (sndEs T gk es)
  | .mut m i es => E_mut m i es (sndEs T gk es)
  | .lc own tg it c x => E_lc own tg it c x (sndI T gk it) (sndO T gk c) (sndE T gk x)
theorem sndEs (T : Tx) (gk : Bool) : ∀ cs : CEs, SndEs T gk cs
  | .nil => Es_nil
  | .cons x xs => Es_cons x xs (sndE T gk x) (sndEs T gk xs)
theorem sndO (T : Tx) (gk : Bool) : ∀ c : CEo, SndO T gk c
  | .none => O_none
  | .some x => O_some x (sndE T gk x)
theorem sndI (T : Tx) (gk : Bool) : ∀ c : IT, SndI T gk c
  | .val x => I_val x (sndE T gk x)
  | .range1 a => I_range1 a (sndE T gk a)
  | .range2 a b => I_range2 a b (sndE T gk a) (sndE T gk b)
  | .zip a b => I_zip a b (sndE T gk a) (sndE T gk b)
  | .enum a => I_enum a (sndE T gk a)
end
end
end Ev

/-! Ev, part O: statements. -/
namespace Ev
open PySem L2 RZ
section
variable (K : PySem.W.Frag) (mg : Str → Option Value) (XW : WX)
def SRes (W G : AS) (B : Nat → AS × AS) (F : Nat → AS) (H : Hp) (D : Ends) : SR → Prop
  | .no => False
  | .nx e' => ∀ σ' H' F', Rel K W G B F' H' σ' e' → Stp W F H W F' H' → D.nx σ' H'
  | .bk e' => ∀ σ' H' F', Rel K W G B F' H' σ' e' → Stp W F H W F' H' → D.bk σ' H'
  | .ct e' => ∀ σ' H' F', Rel K W G B F' H' σ' e' → Stp W F H W F' H' → D.ct σ' H'
  | .rt r e' => ∀ v σ' H' F', Out K W G B F H σ' F' H' e' v (.r r) → D.rt v H'
  | .ex x e' => ∀ cls d σ' H' F', XOut K mg W G B F H σ' F' H' e' x cls d → XW cls d σ' H'
def tS (m : En → SR) : TS := fun D σ H => ∃ W G B F e, Rel K W G B F H σ e ∧ SRes K mg XW W G B F H D (m e)
end
section
variable {K : PySem.W.Frag} {mg : Str → Option Value} {XW : WX} {W G : AS} {B : Nat → AS × AS} {F F1 : Nat → AS} {H H1 : Hp} {σ σ1 : St} {e e1 : En} {D : Ends}
theorem out_rb {F' : Nat → AS} {H' : Hp} {e' : En} {v : V} {r : R} (hw : ∀ i b, F1 i b → ¬ W b) (st : Stp W F H W F1 H1) (o : Out K W G B F1 H1 σ1 F' H' e' v (.r r)) : Out K W G B F H σ1 F' H' e' v (.r r) := by
  cases r with
  | v d => exact ⟨o.1, st.trans o.2.1, o.2.2⟩
  | o c =>
    obtain ⟨a, fp, rfl, h1, h2, h3, h4, h5⟩ := o
    refine ⟨a, fp, rfl, h1, fun b z => ⟨(h2 b z).1, ?_⟩, h3, st.trans h4, h5⟩
    by_cases q : H b = none
    · exact .inl q
    · rcases (h2 b z).2 with w | ⟨i, w⟩
      · exact absurd w (st.trk b q)
      · exact .inr (st.subM i b w q)
theorem SRes.at {r : SR} (h : SRes K mg XW W G B F H D r) (hw : ∀ i b, F1 i b → ¬ W b) (st : Stp W F H W F1 H1) : SRes K mg XW W G B F1 H1 D r := by
  cases r with
  | no => exact h
  | nx e' => exact fun σ' H' F' r s => h σ' H' F' r (st.trans s)
  | bk e' => exact fun σ' H' F' r s => h σ' H' F' r (st.trans s)
  | ct e' => exact fun σ' H' F' r s => h σ' H' F' r (st.trans s)
  | rt r e' => exact fun v σ' H' F' o => h v σ' H' F' (out_rb hw st o)
  | ex x e' => exact fun cls d σ' H' F' o => h cls d σ' H' F' ⟨o.1, st.trans o.2.1, o.2.2⟩
/-- an expression first -/
theorem seqT {α β : Type} {O1 : OT α β} {P1 : AS → Hp → St → β → α → Prop} (adv : Adv K O1 P1) {m : Rs α} {f : α → En → SR} {P : β → Hp → Prop} (r : Rel K W G B F H σ e)
    (h : SRes K mg XW W G B F H D (m.thn f))
    (k : ∀ a e1 b H1 F1, Rel K W G B F1 H1 σ e1 → Stp W F H W F1 H1 → P1 (AV W F1) H1 σ b a → SRes K mg XW W G B F1 H1 D (f a e1) → P b H1) :
    Res K mg XW (O1 W G B σ) W G B F H σ m P := by
  cases m with
  | no => exact h.elim
  | ex x e1 => exact fun cls d H' F' o => h cls d σ H' F' o
  | ok a e1 =>
    intro b H1 F1 o
    obtain ⟨r1, st, p⟩ := adv W G B σ F H e F1 H1 e1 b a r o
    exact k a e1 b H1 F1 r1 st p (SRes.at h r1.fw st)
/-- the same with the outcome as it is -/
theorem seqO {m : Rs PV} {f : PV → En → SR} {P : V → Hp → Prop} (r : Rel K W G B F H σ e)
    (h : SRes K mg XW W G B F H D (m.thn f)) (k : ∀ y e1 v H1 F1, Out K W G B F H σ F1 H1 e1 v y → SRes K mg XW W G B F H D (f y e1) → P v H1) :
    Res K mg XW (OOut K W G B σ) W G B F H σ m P := by
  cases m with
  | no => exact h.elim
  | ex x e1 => exact fun cls d H' F' o => h cls d σ H' F' o
  | ok a e1 => exact fun b H1 F1 o => k a e1 b H1 F1 o h
theorem PSimp {X : Cx} {st : Stmt} {t t' : TS} (h : PS X st t) (i : ∀ D σ H, t' D σ H → t D σ H) : PS X st t' := ⟨fun pins s σ H D I q => h.run pins s σ H D I (i D σ H q)⟩
theorem PSsimp {X : Cx} {st : List Stmt} {t t' : TS} (h : PSs X st t) (i : ∀ D σ H, t' D σ H → t D σ H) : PSs X st t' := ⟨fun pins s σ H D I q => h.run pins s σ H D I (i D σ H q)⟩
/-- a result put into a variable -/
theorem put_out {i : Nat} {r : R} {e2 : En} {v : V} (o : Out K W G B F H σ F1 H1 e1 v (.r r)) (r0 : Rel K W G B F H σ e) (hp : putR i r e1 = some e2) : ∃ F2, Rel K W G B F2 H1 (σ.set i (some v)) e2 ∧ Stp W F H W F2 H1 := by
  cases r with
  | v d =>
    obtain ⟨r1, st, p⟩ := o
    simp only [putR] at hp
    have fin : i < e1.length → e2 = e1.set i (some (.val d)) → ∃ F2, Rel K W G B F2 H1 (σ.set i (some v)) e2 ∧ Stp W F H W F2 H1 := fun hi h => ⟨F1, by subst h; exact r1.putVal p hi, st⟩
    cases hs : e1[i]? with
    | none => rw [hs] at hp; cases hp
    | some s =>
      have hi := lt_of_slot hs
      rw [hs] at hp
      cases s with
      | none => cases hp; exact fin hi rfl
      | some s =>
        cases s with
        | bor c => cases hp
        | val c => cases hp; exact fin hi rfl
        | own c => cases hp; exact fin hi rfl
  | o c =>
    obtain ⟨a, fp, rfl, h1, h2, h3, h4, h5⟩ := o
    simp only [putR] at hp
    have hw : ∀ b, fp b → ¬ W b := fun b z w => by
      rcases (h2 b z).2 with q | ⟨j, q⟩
      · exact r0.wt b w q
      · exact r0.fw j b q w
    have fin : i < e1.length → e2 = e1.set i (some (.own c)) → ∃ F2, Rel K W G B F2 H1 (σ.set i (some (.ref a))) e2 ∧ Stp W F H W F2 H1 := fun hi h => by
      subst h
      obtain ⟨r2, sub⟩ := h3.putOwn h5 h1 (fun b z => (h2 b z).1) hw hi
      refine ⟨_, r2, h4.keep, h4.trk, fun b z q => h4.sub b (sub b z) q, fun j b z q => ?_⟩
      by_cases hj : j = i
      · subst hj
        rcases (h2 b (fset_same.mp z)).2 with w | w
        · exact absurd w q
        · exact w
      · exact h4.subM j b ((fset_ne hj).mp z) q
    cases hs : e1[i]? with
    | none => rw [hs] at hp; cases hp
    | some s =>
      have hi := lt_of_slot hs
      rw [hs] at hp
      cases s with
      | none => cases hp; exact fin hi rfl
      | some s =>
        cases s with
        | bor c => cases hp
        | val c => cases hp; exact fin hi rfl
        | own c => cases hp; exact fin hi rfl
end
section
variable {X : Cx} {mg : Str → Option Value} {XW : WX} {pos : Pos} {ex : Expr} {m : En → Rs PV} {st : Stmt}
theorem sndS_expr (h : PS X st (tDrop (tE X.K mg XW m))) : PS X st (tS X.K mg XW fun e => (m e).thn fun _ e => .nx e) := by
  refine PSimp h fun D σ H q => ?_
  obtain ⟨W, G, B, F, e, rel, q⟩ := q
  exact ⟨W, G, B, F, e, rel, seqT adv_out rel q fun y e1 v H1 F1 r1 s1 o1 q => q σ H1 F1 r1 .refl⟩
theorem sndS_asg {i : Nat} (h : PS X st (tAsg (tE X.K mg XW m) (gName i))) : PS X st (tS X.K mg XW fun e => (m e).thn fun y e => match y with
    | .r y => match putR i y e with
      | some e => .nx e
      | none => .no
    | .sl _ => .no) := by
  refine PSimp h fun D σ H q => ?_
  obtain ⟨W, G, B, F, e, rel, q⟩ := q
  refine ⟨W, G, B, F, e, rel, seqO rel q fun y e1 v H1 F1 o q => ?_⟩
  cases y with
  | sl _ => exact q.elim
  | r r =>
    dsimp only at q
    split at q
    · rename_i e2 hp
      obtain ⟨F2, r2, s2⟩ := put_out o rel hp
      exact q _ H1 F2 r2 s2
    · exact q.elim
theorem sndS_asgTg {ts : Tgs} (h : PS X st (tAsg (tE X.K mg XW m) (gT X.K (.tup ts)))) : PS X st (tS X.K mg XW fun e => (m e).thn fun y e => match y with
    | .r y => match y.d with
      | .tuple ds => match putTgs ts ds e with
        | some e => .nx e
        | none => .no
      | _ => .no
    | .sl _ => .no) := by
  refine PSimp h fun D σ H q => ?_
  obtain ⟨W, G, B, F, e, rel, q⟩ := q
  refine ⟨W, G, B, F, e, rel, seqT adv_out rel q fun y e1 v H1 F1 r1 s1 o1 q => ?_⟩
  cases y with
  | sl _ => exact q.elim
  | r r =>
    dsimp only at q
    split at q
    · rename_i ds hd
      split at q
      · rename_i e2 hp
        have o1 : DpA X.K (AV W F1) H1 v r.d := o1
        rw [hd] at o1
        exact ⟨W, G, B, F1, e1, .tuple ds, e2, r1, o1, by simpa [putTg] using hp, fun σ' r' l n => q σ' H1 F1 r' .refl⟩
      · exact q.elim
    · exact q.elim
theorem sndS_ret (h : PE X ex (tE X.K mg XW m)) : PS X (.Return (some ex) pos) (tS X.K mg XW fun e => (m e).thn fun y e => match y with
    | .r y => .rt y e
    | .sl _ => .no) := by
  refine PSimp (ps_ret h) fun D σ H q => ?_
  obtain ⟨W, G, B, F, e, rel, q⟩ := q
  refine ⟨W, G, B, F, e, rel, seqO rel q fun y e1 v H1 F1 o q => ?_⟩
  cases y with
  | sl _ => exact q.elim
  | r r => exact q v σ H1 F1 o
theorem sndS_retN : PS X (.Return none pos) (tS X.K mg XW fun e => .rt (.v .none) e) := by
  refine PSimp ps_retN fun D σ H q => ?_
  obtain ⟨W, G, B, F, e, rel, q⟩ := q
  exact q .non σ H F ⟨rel, .refl, .non⟩
theorem sndS_nx (h : PS X st tNext) : PS X st (tS X.K mg XW fun e => .nx e) := by
  refine PSimp h fun D σ H q => ?_
  obtain ⟨W, G, B, F, e, rel, q⟩ := q
  exact q σ H F rel .refl
theorem sndS_brk : PS X (.Break pos) (tS X.K mg XW fun e => .bk e) := by
  refine PSimp ps_break fun D σ H q => ?_
  obtain ⟨W, G, B, F, e, rel, q⟩ := q
  exact q σ H F rel .refl
theorem sndS_cnt : PS X (.Continue pos) (tS X.K mg XW fun e => .ct e) := by
  refine PSimp ps_continue fun D σ H q => ?_
  obtain ⟨W, G, B, F, e, rel, q⟩ := q
  exact q σ H F rel .refl
theorem sndS_if {a b : List Stmt} {ma mb : En → SR} (hc : PT X ex (tTst X.K mg XW (okB m))) (ha : PSs X a (tS X.K mg XW ma)) (hb : PSs X b (tS X.K mg XW mb)) :
    PS X (.If ex a b pos) (tS X.K mg XW fun e => (testB (m e) fun k e => .ok k e).thn fun k e => match k with
      | true => ma e
      | false => mb e) := by
  refine PSimp (ps_if hc ha hb) fun D σ H q => ?_
  obtain ⟨W, G, B, F, e, rel, q⟩ := q
  refine ⟨W, G, B, F, e, rel, seqT (m := okB m e) adv_of rel q fun k e1 b' H1 F1 r1 s1 o1 q => ?_⟩
  have o1 : b' = k := o1
  subst o1
  cases b' with
  | true => exact iteT ⟨W, G, B, F1, e1, r1, q⟩
  | false => exact iteF ⟨W, G, B, F1, e1, r1, q⟩
theorem sndSs_nil : PSs X [] (tS X.K mg XW fun e => .nx e) := by
  refine PSsimp pss_nil fun D σ H q => ?_
  obtain ⟨W, G, B, F, e, rel, q⟩ := q
  exact q σ H F rel .refl
theorem sndSs_cons {rest : List Stmt} {ms mr : En → SR} (h : PS X st (tS X.K mg XW ms)) (hr : PSs X rest (tS X.K mg XW mr)) : PSs X (st :: rest) (tS X.K mg XW fun e => match ms e with
    | .nx e => mr e
    | .rt r e => .rt r e
    | .bk e => .bk e
    | .ct e => .ct e
    | .ex x e => .ex x e
    | .no => .no) := by
  refine PSsimp (pss_cons h hr) fun D σ H q => ?_
  obtain ⟨W, G, B, F, e, rel, q⟩ := q
  refine ⟨W, G, B, F, e, rel, ?_⟩
  dsimp only at q
  cases hm : ms e with
  | no => rw [hm] at q; exact q
  | nx e1 =>
    rw [hm] at q
    exact fun σ' H' F' r' s' => ⟨W, G, B, F', e1, r', SRes.at q r'.fw s'⟩
  | bk e1 => rw [hm] at q; exact q
  | ct e1 => rw [hm] at q; exact q
  | rt r e1 => rw [hm] at q; exact q
  | ex x e1 => rw [hm] at q; exact q
theorem allR {K : PySem.W.Frag} {A : AS} {H : Hp} {σ : St} {ps : List PV} {vs : List V} (o : OPs K A H σ vs ps) : ∀ {ds : List D} {e : En}, ps.all PV.isR = true → gets ps e = some ds → DpAs K A H vs ds := by
  induction o with
  | nil => exact fun {ds e} _ g => by cases g; exact .nil
  | @cons v p vs ps o os ih =>
    intro ds e h g
    rw [List.all_cons, Bool.and_eq_true] at h
    cases p with
    | sl i => exact absurd h.1 (by simp [PV.isR])
    | r x =>
      unfold gets at g
      split at g
      · rename_i d ds' h3 h4
        cases g
        simp only [PV.get, Option.some.injEq] at h3
        subst h3
        exact .cons o (ih h.2 h4)
      · cases g
theorem pk_of {K : PySem.W.Frag} {A : AS} {H : Hp} : ∀ {vs : List V} {ds : List D}, DpAs K A H vs ds → Paired (PK K A H) vs ds
  | _, _, .nil => .nil
  | _, _, .cons h t => .cons (.inl h) (pk_of t)
theorem sndS_for {tg iter : Expr} {t : Tg} {body : List Stmt} {mi : En → Rs (List PV × List D)} {mb : En → SR} (hp : PassesOwn (model X.prog X.w) X.A X.env X.xe) (hc : X.calm = true) (hi : PI X tg iter (tR X.K mg (OIt X.K) XW mi)) (hg : PG X tg (gT X.K t)) (hb : PSs X body (tS X.K mg XW mb))
    (hs : ∀ x, foldedSetIterable iter X.env x = pure x) : PS X (.For tg iter body [] pos) (tS X.K mg XW fun e => (mi e).thn fun p e => match p.1.all PV.isR with
      | false => .no
      | true => forL (fun d e => match putTg t d e with
        | none => .no
        | some e => mb e) p.2 e) := by
  refine PSimp (ps_for hp hc hi hg hb hs) fun D σ H q => ?_
  obtain ⟨W, G, B, F, e, rel, q⟩ := q
  refine ⟨W, G, B, F, e, rel, ?_⟩
  dsimp only at q
  cases hm : mi e with
  | no => rw [hm] at q; exact q.elim
  | ex x e1 => rw [hm] at q; exact fun cls d H' F' o => q cls d σ H' F' o
  | ok p e1 =>
    rw [hm] at q
    intro J H1 F1 o
    obtain ⟨r1, s1, vs, ds0, o1, g1, ok⟩ := o
    dsimp only [Rs.thn] at q
    cases hr : p.1.all PV.isR with
    | false => rw [hr] at q; exact q.elim
    | true =>
      rw [hr] at q
      have q := SRes.at q r1.fw s1
      have src := allR o1 hr g1
      generalize hit : p.2 = items at q ok
      refine ⟨fun i m σ H => m = items.length - i ∧ i ≤ items.length ∧ ∃ F' e', Rel X.K W G B F' H σ e' ∧ Stp W F1 H1 W F' H ∧ SRes X.K mg XW W G B F' H D (forL (fun d e => match putTg t d e with
        | none => .no
        | some e => mb e) (items.drop i) e'), ⟨_, rfl, Nat.zero_le _, F1, e1, r1, .refl, q⟩, ?_⟩
      rintro i m σ2 H2 ⟨rfl, hi, F2, e2, r2, s2, q2⟩
      obtain ⟨k1, k2, k3⟩ := ok (AV W F2) H2 r2.at (pk_of (src.step s2.step))
      by_cases hlt : i < items.length
      · refine .inr ⟨k1 i hlt, fun σ' H' => (i + 1 ≤ items.length ∧ ∃ F' e', Rel X.K W G B F' H' σ' e' ∧ Stp W F1 H1 W F' H' ∧ SRes X.K mg XW W G B F' H' D (forL (fun d e => match putTg t d e with
          | none => .no
          | some e => mb e) (items.drop (i + 1)) e')), fun σ' H' n => ⟨items.length - (i + 1), by omega, rfl, n⟩, fun x H' y => ?_⟩
        obtain ⟨same, d, hd, pd⟩ := k3 i x H' hlt y
        have r3 := r2.ext (W' := W) same fun b z => .inl z
        have s3 : Stp W F2 H2 W F2 H' := stp_of same (fun _ z _ => z) fun i _ z _ => ⟨i, z⟩
        have hdr : items.drop i = d :: items.drop (i + 1) := by
          rw [List.drop_eq_getElem_cons hlt]
          rw [List.getElem?_eq_getElem hlt] at hd
          cases hd
          rfl
        rw [hdr] at q2
        unfold forL at q2
        cases hpt : putTg t d e2 with
        | none => simp only [hpt] at q2; exact q2.elim
        | some e3 =>
          simp only [hpt] at q2
          refine ⟨W, G, B, F2, e2, d, e3, r3, pd, hpt, fun σ3 r4 _ _ => ⟨W, G, B, F2, e3, r4, ?_⟩⟩
          have back : ∀ {F4 : Nat → AS} {H4 : Hp}, Stp W F2 H' W F4 H4 → Stp W F1 H1 W F4 H4 := fun z => s2.trans (s3.trans z)
          cases hb' : mb e3 with
          | no => rw [hb'] at q2; exact q2
          | nx e4 =>
            rw [hb'] at q2
            exact fun σ5 H5 F5 r5 s5 => ⟨hlt, F5, e4, r5, back s5, SRes.at q2 r5.fw (s3.trans s5)⟩
          | ct e4 =>
            rw [hb'] at q2
            exact fun σ5 H5 F5 r5 s5 => ⟨hlt, F5, e4, r5, back s5, SRes.at q2 r5.fw (s3.trans s5)⟩
          | bk e4 =>
            rw [hb'] at q2
            exact fun σ5 H5 F5 r5 s5 => q2 σ5 H5 F5 r5 (s3.trans s5)
          | rt r e4 =>
            rw [hb'] at q2
            exact fun v σ5 H5 F5 o5 => q2 v σ5 H5 F5 (out_rb r3.fw s3 o5)
          | ex x e4 =>
            rw [hb'] at q2
            exact fun cls d σ5 H5 F5 o5 => q2 cls d σ5 H5 F5 ⟨o5.1, s3.trans o5.2.1, o5.2.2⟩
      · have hi' : i = items.length := by omega
        subst hi'
        refine .inl ⟨k2, ?_⟩
        rw [List.drop_length] at q2
        exact q2 σ2 H2 F2 r2 .refl
theorem sndS_while {body : List Stmt} {mb : En → SR} {fu : Nat} (hp : PassesOwn (model X.prog X.w) X.A X.env X.xe) (hc : PT X ex (tTst X.K mg XW (okB m))) (hb : PSs X body (tS X.K mg XW mb)) :
    PS X (.While ex body [] pos) (tS X.K mg XW fun e => whlL m mb fu e) := by
  refine PSimp (ps_while hp hc hb) fun D σ H q => ?_
  obtain ⟨W, G, B, F, e, rel, q⟩ := q
  refine ⟨fun n σ H => ∃ F' e', Rel X.K W G B F' H σ e' ∧ SRes X.K mg XW W G B F' H D (whlL m mb n e'), ⟨fu, F, e, rel, q⟩, ?_⟩
  rintro n σ2 H2 ⟨F2, e2, r2, q2⟩
  cases n with
  | zero => exact q2.elim
  | succ n =>
    unfold whlL at q2
    refine ⟨W, G, B, F2, e2, r2, seqT (m := okB m e2) adv_of r2 q2 fun k e3 b' H3 F3 r3 s3 o3 q3 => ?_⟩
    have o3 : b' = k := o3
    subst o3
    cases b' with
    | false => exact iteF (q3 σ2 H3 F3 r3 .refl)
    | true =>
      refine iteT ⟨fun σ' H' => ∃ F' e', Rel X.K W G B F' H' σ' e' ∧ SRes X.K mg XW W G B F' H' D (whlL m mb n e'), fun σ' H' z => ⟨n, Nat.lt_succ_self n, z⟩, W, G, B, F3, e3, r3, ?_⟩
      dsimp only at q3
      cases hb' : mb e3 with
      | no => rw [hb'] at q3; exact q3
      | nx e4 =>
        rw [hb'] at q3
        exact fun σ5 H5 F5 r5 s5 => ⟨F5, e4, r5, SRes.at q3 r5.fw s5⟩
      | ct e4 =>
        rw [hb'] at q3
        exact fun σ5 H5 F5 r5 s5 => ⟨F5, e4, r5, SRes.at q3 r5.fw s5⟩
      | bk e4 => rw [hb'] at q3; exact q3
      | rt r e4 => rw [hb'] at q3; exact q3
      | ex x e4 => rw [hb'] at q3; exact q3
theorem sndS_raise {x : Str} {C : Addr} {pc : Expr} (hc : X.calm = true) (tk : Takes X XW) (hC : mg x = some (.ref C)) (h : PMk X pc (fun _ H Q => Q (.ref C) none H)) : PS X (.Raise (some pc) none pos) (tS X.K mg XW fun e => .ex ⟨x, none⟩ e) := by
  refine PSimp (ps_raise hc tk h) fun D σ H q => ?_
  obtain ⟨W, G, B, F, e, rel, q⟩ := q
  exact q _ _ σ H F ⟨rel, .refl, C, hC, rfl, rfl⟩
end
end Ev

/-! Ev, part P: the checker for statements, soundness, defs. -/
namespace Ev
open PySem L2 RZ
def notComp : Expr → Bool
  | .ListComp _ _ _ _ => false
  | .SetComp _ _ _ _ => false
  | .DictComp _ _ _ _ _ => false
  | _ => true
def notTup : Expr → Bool
  | .Tuple _ _ _ => false
  | _ => true
def noRest : List Stmt → Bool
  | [] => true
  | _ => false
def chkST (S : SC) : ST → Expr → Bool
  | .tg t, e => chkTg S t e
  | .ix i k, e => match e with
    | .Subscript (.Name x _) (.Constant (.int j) _ _) _ => chkV S i x && decide (k = j)
    | _ => false
def chkSTs (S : SC) : List ST → List Expr → Bool
  | [], es => es.isEmpty
  | t :: ts, es => match es with
    | e :: es => chkST S t e && chkSTs S ts es
    | [] => false
mutual
def chkS (T : Tx) (xs : List Str) (S : SC) : CS → Stmt → Bool
  | .expr c, st => match st with
    | .Expr e _ => notComp e && chkE T S c e
    | _ => false
  | .asg i c, st => match st with
    | .Assign [.Name x _] e _ => decide (S.N[i]? = some x) && locB S.raw x && chkE T S c e
    | _ => false
  | .par _ _ _, _ => false
  | .asgTg ts c, st => match st with
    | .Assign [.Tuple es _ _] e _ => chkTgs S ts es && notTup e && chkE T S c e
    | _ => false
  | .asgT ts c, st => match st with
    | .Assign [.Tuple es _ _] e _ => chkSTs S ts es && notTup e && chkE T S c e
    | _ => false
  | .set i k c, st => match st with
    | .Assign [.Subscript (.Name x _) y _] e _ => chkV S i x && notComp e && chkE T S k y && chkE T S c e
    | _ => false
  | .iff c a b, st => match st with
    | .If e p q _ => tstOk e && chkE T S c e && chkSs T xs S a p && chkSs T xs S b q
    | _ => false
  | .forr t it b, st => match st with
    | .For tg iter body [] _ => !isSet iter && chkI T S it tg iter && chkTg S t tg && chkSs T xs S b body
    | _ => false
  | .whl c b, st => match st with
    | .While e body [] _ => tstOk e && chkE T S c e && chkSs T xs S b body
    | _ => false
  | .ret c, st => match st with
    | .Return (some e) _ => chkE T S c e
    | _ => false
  | .retN, st => match st with
    | .Return none _ => true
    | _ => false
  | .rais x, st => match st with
    | .Raise (some (.Call (.Name y _) [.Constant (.str _) _ _] [] _)) none _ => decide (y = x) && decide (x ∈ xs) && glB S.sc x && dbg x
    | _ => false
  | .pas, st => match st with
    | .Pass _ => true
    | .Expr (.Constant (.str _) _ _) _ => true
    | _ => false
  | .brk, st => match st with
    | .Break _ => true
    | _ => false
  | .cnt, st => match st with
    | .Continue _ => true
    | _ => false
def chkSs (T : Tx) (xs : List Str) (S : SC) : CSs → List Stmt → Bool
  | .nil, st => match st with
    | [] => true
    | _ => false
  | .cons s ss, st => match st with
    | st :: rest => chkS T xs S s st && chkSs T xs S ss rest
    | [] => false
end
structure SxOk (T : Tx) (xs : List Str) (gk : Bool) (S : SC) (XW : WX) (X : Cx) : Prop extends CxOk T gk S XW X where
  po : PassesOwn (model X.prog X.w) X.A X.env X.xe
  fk : X.env.scope.kind = .function
  xc : ∀ x ∈ xs, ∃ C, X.mg x = some (.ref C) ∧ (Gl X x → (x == ("__debug__" : Str)) = false → ∀ p m j p2 pos, PMk X (.Call (.Name x p) [.Constant (.str m) j p2] [] pos) (fun _ H Q => Q (.ref C) none H))
section
variable {T : Tx} {xs : List Str} {gk : Bool}
def SndS (T : Tx) (xs : List Str) (gk : Bool) (fu : Nat) (c : CS) : Prop := ∀ (S : SC) (XW : WX) (X : Cx) (st : Stmt), SxOk T xs gk S XW X → chkS T xs S c st = true → PS X st (tS X.K X.mg XW fun e => evS T.cs T.FT fu c e)
def SndSs (T : Tx) (xs : List Str) (gk : Bool) (fu : Nat) (c : CSs) : Prop := ∀ (S : SC) (XW : WX) (X : Cx) (st : List Stmt), SxOk T xs gk S XW X → chkSs T xs S c st = true → PSs X st (tS X.K X.mg XW fun e => evSs T.cs T.FT fu c e)
theorem sw_no {e : Expr} {t : Option Expr} {l : Nat} {env : PySem.Env} (h : notComp e = true) : swapsWith e t l env = pure false := by
  cases e <;> first | rfl | (simp [notComp] at h)
theorem sw_tup {e : Expr} {es : List Expr} {k : Nat} {p : Pos} {l : Nat} {env : PySem.Env} : swapsWithSole [.Tuple es k p] e l env = pure false := by
  cases e <;> rfl
theorem sw_sub {e a b : Expr} {p : Pos} {l : Nat} {env : PySem.Env} : swapsWithSole [.Subscript a b p] e l env = pure false := by
  cases e <;> rfl
theorem ss_sub {e a b : Expr} {p : Pos} {env : PySem.Env} : swappedStores [.Subscript a b p] e env = pure none := by
  cases e <;> rfl
theorem ss_tup {e : Expr} {es : List Expr} {k : Nat} {p : Pos} {env : PySem.Env} (h : notTup e = true) : swappedStores [.Tuple es k p] e env = pure none := by
  cases e <;> first | rfl | (simp [notTup] at h)
theorem sw_or {elt : Expr} {gs : List Comprehension} {scope : Scope} {pos py : Pos} {y : Str} {l : Nat} {env : PySem.Env} (hk : env.scope.kind = .function) :
    (env.scope.names.lookup y = some .local ∧ swapsWith (.ListComp elt gs scope pos) (some (.Name y py)) l env = pure true) ∨ swapsWith (.ListComp elt gs scope pos) (some (.Name y py)) l env = pure false := by
  have hb : env.blockKind = .function := by unfold PySem.Env.blockKind; rw [hk]; rfl
  by_cases ky : env.kindOf y = some .local
  · cases hl : (py.line == pos.line) with
    | false =>
      refine .inr ?_
      unfold swapsWith
      simp only [hb, ky, Expr.pos, hl]
      rfl
    | true =>
      cases ha : (scope.names.any fun (n, k) => n == y && (k == .local || k == .cell)) with
      | false => exact .inl ⟨ky, sw_true hk ky hl ha⟩
      | true =>
        refine .inr ?_
        unfold swapsWith
        simp only [hb, ky, ha, Expr.pos, hl]
        rfl
  · refine .inr ?_
    have : (env.kindOf y == some .local) = false := by
      cases h : env.kindOf y with
      | none => rfl
      | some k => cases k <;> first | rfl | exact absurd h ky
    unfold swapsWith
    simp only [hb, this]
    rfl
variable {fu : Nat}
theorem S_expr (c : CE) : SndS T xs gk fu (.expr c) := fun S XW X st k h => by
  simp only [chkS] at h
  split at h
  · simp only [Bool.and_eq_true] at h
    exact sndS_expr (ps_expr ((sndE T gk c S XW X _ k.toCxOk h.2).1 false) (sw_no h.1))
  · cases h
theorem S_asg (i : Nat) (c : CE) : SndS T xs gk fu (.asg i c) := fun S XW X st k h => by
  simp only [chkS] at h
  split at h
  · rename_i x px e pos
    simp only [Bool.and_eq_true, decide_eq_true_eq] at h
    obtain ⟨⟨h1, h2⟩, h3⟩ := h
    obtain ⟨q1, q2⟩ := k.loc _ h2
    have hN : X.N.Nodup := by rw [k.hN]; exact k.nd
    have hi : X.N[i]? = some x := by rw [k.hN]; exact h1
    have he := (sndE T gk c S XW X _ k.toCxOk h3).1 false
    have plain : swapsWith e (some (.Name x px)) pos.line X.env = pure false → PS X (.Assign [.Name x px] e pos) (tS X.K X.mg XW fun e => evS T.cs T.FT fu (.asg i c) e) := fun hs =>
      sndS_asg (ps_set hN hi q1 he hs q2)
    cases hc : notComp e with
    | true => exact plain (sw_no hc)
    | false =>
      cases c with
      | lc own tg it co x2 =>
        simp only [chkE] at h3
        split at h3
        · rename_i elt t iter ifs scope p2
          rcases sw_or (elt := elt) (gs := [⟨t, iter, ifs, 0⟩]) (scope := scope) (pos := p2) (py := px) (y := x) (l := pos.line) k.fk with ⟨hyl, hsw⟩ | hsw
          · simp only [Bool.and_eq_true, decide_eq_true_eq, List.all_eq_true, Bool.not_eq_true'] at h3
            obtain ⟨⟨⟨⟨⟨⟨⟨h1, h2⟩, h3⟩, h4⟩, h5⟩, h6⟩, h7⟩, h8⟩ := h3
            have hb : BlkOk X.N X.env.scope scope (ownNames S.N own) := by
              rw [k.hN, k.hs]
              exact blkOk_by h1
            have q := ps_setLc (te := tE X.K X.mg XWF fun en => evM T.cs T.FT x2 false en) (tt := tTst X.K X.mg XWF fun en => evC T.cs T.FT co en) (g := gT X.K tg) k.calm hN hi hyl hsw (sndI T gk it S XW X t iter k.toCxOk h5 true) hb
              (fun s H C cl fp => tg_snd (k.toCxOk.blk s H scope C cl fp) h6) (fun s H C cl fp => (sndO T gk co).2 _ _ _ _ (k.toCxOk.blk s H scope C cl fp) h7) (fun s H C cl fp => (sndE T gk x2 _ _ _ _ (k.toCxOk.blk s H scope C cl fp) h8).1 false)
              (fun x => by
                unfold foldedSetIterable
                cases iter <;> first | rfl | (simp [isSet] at h4))
            rw [h2] at q
            refine sndS_asg (m := fun e => evM T.cs T.FT (.lc own tg it co x2) false e) (PSimp q fun D σ H z => ?_)
            have z : tE X.K X.mg XW (lcM own tg (fun en => evI T.cs T.FT true it en) (fun en => evC T.cs T.FT co en) fun en => evM T.cs T.FT x2 false en) σ H (fun x H1 => gName i x σ H1 D.nx) := z
            exact lc_read (fun j hj => h3 j hj) z
          · exact plain hsw
        · cases h3
      | _ => cases e <;> first | (simp [notComp] at hc; done) | (simp [chkE] at h3)
  · cases h
theorem S_asgTg (ts : Tgs) (c : CE) : SndS T xs gk fu (.asgTg ts c) := fun S XW X st k h => by
  simp only [chkS] at h
  split at h
  · simp only [Bool.and_eq_true] at h
    obtain ⟨⟨h1, h2⟩, h3⟩ := h
    exact sndS_asgTg (ps_asg ((sndE T gk c S XW X _ k.toCxOk h3).1 false) (tg_snd (t := .tup ts) k.toCxOk (by simpa [chkTg] using h1)) sw_tup (ss_tup h2) rfl)
  · cases h
def gST (K : PySem.W.Frag) (t : ST) : TG := fun v σ H Q => ∃ W G B F e d e', Rel K W G B F H σ e ∧ DpA K (AV W F) H v d ∧ putST t d e = some e' ∧
  ∀ σ' H' F', Rel K W G B F' H' σ' e' → Stp W F H W F' H' → Q σ' H'
def gSTs (K : PySem.W.Frag) (ts : List ST) : TGs := fun vs σ H Q => ∃ W G B F e ds e', Rel K W G B F H σ e ∧ DpAs K (AV W F) H vs ds ∧ putSTs ts ds e = some e' ∧
  ∀ σ' H' F', Rel K W G B F' H' σ' e' → Stp W F H W F' H' → Q σ' H'
/-- a store into a list's place -/
theorem setIx_to {K : PySem.W.Frag} {W G : AS} {B : Nat → AS × AS} {F : Nat → AS} {H : Hp} {σ : St} {e e3 : En} {i : Nat} {z d : PyData} {w v : V} {Q : Hp → Prop} (r2 : Rel K W G B F H σ e) (oz : DpA K (AV W F) H w z) (o1 : DpA K (AV W F) H v d) (hp : setIx i z d e = some e3)
    (q : ∀ H', Rel K W G B F H' σ e3 → Stp W F H W F H' → Q H') : ∃ a, σ[i]? = some (some (.ref a)) ∧ rSetL (.ref a) w v H Q := by
  have fin : ∀ (cs : List PyData) (s : Slot) (mk : Cel → Slot) (kk : Int) (j : Nat), z = .int kk → ixN cs.length kk = some j → e[i]? = some (some s) → s = mk (.lst cs) → (∀ c', (∃ c, s = .own c ∧ mk c' = .own c') ∨ ∃ c, s = .bor c ∧ mk c' = .bor c') →
      (∃ b, σ[i]? = some (some (.ref b)) ∧ CelAt K (AV W F) H b (.lst cs) ∧ F i b) → e3 = e.set i (some (mk (.lst (cs.set j d)))) → ∃ a, σ[i]? = some (some (.ref a)) ∧ rSetL (.ref a) w v H Q := fun cs s mk kk j hz hj hs hm hk ⟨a, ha, ⟨ys, y2, y3⟩, y4⟩ he3 => by
    subst hz
    cases oz
    have mu : Mut (H a) := by rw [y2]; trivial
    have trk : Step (AV W F) H (AV W F) (upd H a (.lst (ys.set j v))) := ⟨fun b u z n => by
      rw [upd_ne fun w => n (by subst w; exact .inr ⟨i, y4⟩)]
      exact z, fun b z => by
      by_cases w : b = a
      · subst w; rw [upd_same]; simp
      · rw [upd_ne w]; exact z, fun b z _ => z⟩
    obtain ⟨r3, s3⟩ := r2.write (o := .lst (ys.set j v)) y4 mu (.lst (cs.set j d)) (s' := mk (.lst (cs.set j d))) ⟨s, hs, hk _⟩ ha ⟨_, upd_same, (DpAs.set o1 j y3).step trk⟩
    refine ⟨a, ha, a, ys, kk, j, rfl, rfl, y2, by rw [y3.length]; exact hj, ?_⟩
    subst he3
    exact q _ r3 s3
  unfold setIx at hp
  split at hp
  · rename_i cs kk hs
    obtain ⟨j, h5, h6⟩ := Option.map_eq_some_iff.mp hp
    obtain ⟨b, y1, y2, y3, _⟩ := slot_own r2 hs
    exact fin cs _ Slot.own kk j rfl h5 hs rfl (fun c' => .inl ⟨_, rfl, rfl⟩) ⟨b, y1, y2, y3⟩ h6.symm
  · rename_i cs kk hs
    obtain ⟨j, h5, h6⟩ := Option.map_eq_some_iff.mp hp
    obtain ⟨b, y1, y2, y3, _⟩ := slot_bor r2 hs
    exact fin cs _ Slot.bor kk j rfl h5 hs rfl (fun c' => .inr ⟨_, rfl, rfl⟩) ⟨b, y1, y2, y3⟩ h6.symm
  · cases hp
theorem st_snd {S : SC} {XW : WX} {X : Cx} (c : CxOk T gk S XW X) {t : ST} {e : Expr} (h : chkST S t e = true) : PG X e (gST X.K t) := by
  cases t with
  | tg t =>
    refine PGimp (tg_snd c h) fun v σ H Q q => ?_
    obtain ⟨W, G, B, F, e, d, e', rel, p, hp, q⟩ := q
    exact ⟨W, G, B, F, e, d, e', rel, p, hp, fun σ' r _ _ => q σ' H F r .refl⟩
  | ix i k =>
    simp only [chkST] at h
    split at h
    · simp only [Bool.and_eq_true, decide_eq_true_eq] at h
      obtain ⟨h1, rfl⟩ := h
      refine PGimp (pg_sub (c.var h1) pe_int set_list) fun v σ H Q q => ?_
      obtain ⟨W, G, B, F, e, d, e', rel, p, hp, q⟩ := q
      obtain ⟨a, h2, h3⟩ := setIx_to (Q := fun H' => Q σ H') rel (.int _) p hp fun H' r s => q σ H' F r s
      exact ⟨_, h2, h3⟩
    · cases h
theorem assign_st {t : ST} {e : Expr} {S : SC} (h : chkST S t e = true) (es : List Expr) (env : PySem.Env) : assignEach (e :: es) env = (false, assign e env) :: assignEach es env := by
  cases t with
  | tg t => exact assign_tg h es env
  | ix i k => cases e <;> first | rfl | (simp [chkST] at h)
theorem chkSTs_env {S : SC} : ∀ {ts : List ST} {es : List Expr}, chkSTs S ts es = true → ∀ env : PySem.Env, (assignEach es env).length = ts.length ∧ ∀ p ∈ assignEach es env, p.1 = false
  | [], [], _, env => ⟨rfl, fun p hp => by simp [assignEach] at hp⟩
  | [], e :: es, h, _ => by simp [chkSTs] at h
  | t :: ts, [], h, _ => by simp [chkSTs] at h
  | t :: ts, e :: es, h, env => by
    simp only [chkSTs, Bool.and_eq_true] at h
    obtain ⟨q1, q2⟩ := chkSTs_env h.2 env
    rw [assign_st h.1 es env]
    refine ⟨by simp [q1], fun p hp => ?_⟩
    rcases List.mem_cons.mp hp with e | hp
    · subst e; rfl
    · exact q2 p hp
theorem putSTs_len : ∀ {ts : List ST} {ds : List PyData} {e e' : En}, putSTs ts ds e = some e' → ds.length = ts.length
  | [], [], _, _, _ => rfl
  | [], _ :: _, _, _, h => by simp [putSTs] at h
  | t :: ts, [], _, _, h => by simp [putSTs] at h
  | t :: ts, d :: ds, e, e', h => by
    unfold putSTs at h
    split at h
    · rw [List.length_cons, putSTs_len h]; rfl
    · cases h
theorem sts_snd {S : SC} {XW : WX} {X : Cx} (c : CxOk T gk S XW X) : ∀ {ts : List ST} {es : List Expr}, chkSTs S ts es = true → PGs X es (gSTs X.K ts)
  | [], [], _ => PGsimp pgs_nil fun vs σ H Q q => by
    obtain ⟨W, G, B, F, e, ds, e', rel, p, hp, q⟩ := q
    cases ds with
    | nil =>
      cases p
      cases hp
      exact ⟨rfl, q σ H F rel .refl⟩
    | cons d ds => simp [putSTs] at hp
  | [], e :: es, h => by simp [chkSTs] at h
  | t :: ts, [], h => by simp [chkSTs] at h
  | t :: ts, e :: es, h => by
    simp only [chkSTs, Bool.and_eq_true] at h
    refine PGsimp (pgs_cons (st_snd c h.1) (sts_snd c h.2) (by rw [assign_st h.1 es X.env]; rfl)) fun vs σ H Q q => ?_
    obtain ⟨W, G, B, F, e, ds, e', rel, p, hp, q⟩ := q
    cases ds with
    | nil => simp [putSTs] at hp
    | cons d ds =>
      cases p with
      | cons p ps =>
        unfold putSTs at hp
        split at hp
        · rename_i e1 h1
          refine ⟨_, _, rfl, W, G, B, F, e, d, e1, rel, p, h1, fun σ1 H1 F1 r1 s1 => ?_⟩
          exact ⟨W, G, B, F1, e1, ds, e', r1, ps.step s1.step, hp, fun σ2 H2 F2 r2 s2 => q σ2 H2 F2 r2 (s1.trans s2)⟩
        · cases hp
theorem S_asgT (ts : List ST) (c : CE) : SndS T xs gk fu (.asgT ts c) := fun S XW X st k h => by
  simp only [chkS] at h
  split at h
  · simp only [Bool.and_eq_true] at h
    obtain ⟨⟨h1, h2⟩, h3⟩ := h
    obtain ⟨q1, q2⟩ := chkSTs_env h1 X.env
    refine PSimp (ps_asg ((sndE T gk c S XW X _ k.toCxOk h3).1 false) (pg_tup k.calm (sts_snd k.toCxOk h1) q1 (find_none q2)) sw_tup (ss_tup h2) rfl) fun D σ H q => ?_
    obtain ⟨W, G, B, F, e, rel, q⟩ := q
    simp only [evS] at q
    refine ⟨W, G, B, F, e, rel, seqT adv_out rel q fun y e1 v H1 F1 r1 s1 o1 q => ?_⟩
    cases y with
    | sl _ => exact q.elim
    | r r =>
      dsimp only at q
      split at q
      · rename_i ds hd
        split at q
        · rename_i e2 hp
          have o1 : DpA X.K (AV W F1) H1 v r.d := o1
          rw [hd] at o1
          cases o1 with
          | tup g1 g2 => exact ⟨_, _, rfl, g1.sq, g2.length.trans (putSTs_len hp), W, G, B, F1, e1, ds, e2, r1, g2, hp, fun σ' H' F' r' s' => q σ' H' F' r' s'⟩
        · exact q.elim
      · exact q.elim
  · cases h
theorem S_set (i : Nat) (kx c : CE) : SndS T xs gk fu (.set i kx c) := fun S XW X st k h => by
  simp only [chkS] at h
  split at h
  · simp only [Bool.and_eq_true] at h
    obtain ⟨⟨⟨h1, h2⟩, h3⟩, h4⟩ := h
    refine PSimp (ps_asg ((sndE T gk c S XW X _ k.toCxOk h4).1 false) (pg_sub (k.toCxOk.var h1) ((sndE T gk kx S XW X _ k.toCxOk h3).1 false) set_list ?_) sw_sub ss_sub rfl) fun D σ H q => ?_
    · have := plainIx_of h3
      rename_i y _ e _
      intro v
      cases y <;> first | rfl | (cases kx <;> simp [chkE] at h3)
    · obtain ⟨W, G, B, F, e, rel, q⟩ := q
      simp only [evS] at q
      refine ⟨W, G, B, F, e, rel, seqT adv_out rel q fun y e1 v H1 F1 r1 s1 o1 q => ?_⟩
      cases hl : lstSlot e1 i with
      | false => simp only [hl] at q; exact q.elim
      | true =>
        cases y with
        | sl j => simp only [hl] at q; exact q.elim
        | r y =>
          simp only [hl] at q
          have lst : ∃ a, σ[i]? = some (some (.ref a)) := by
            unfold lstSlot at hl
            split at hl
            · rename_i ds hs
              obtain ⟨a, h1, _⟩ := slot_own r1 hs
              exact ⟨a, h1⟩
            · rename_i ds hs
              obtain ⟨a, h1, _⟩ := slot_bor r1 hs
              exact ⟨a, h1⟩
            · cases hl
          obtain ⟨a, ha⟩ := lst
          refine ⟨_, ha, W, G, B, F1, e1, r1, seqT adv_out r1 q fun z e2 w H2 F2 r2 s2 o2 q => ?_⟩
          cases z with
          | sl j => exact q.elim
          | r z =>
            dsimp only at q
            have o1 : DpA X.K (AV W F2) H2 v y.d := DpA.step s2.step o1
            have o2 : DpA X.K (AV W F2) H2 w z.d := o2
            cases hp : setIx i z.d y.d e2 with
            | none => rw [hp] at q; exact q.elim
            | some e3 =>
              rw [hp] at q
              obtain ⟨a', h2, h3⟩ := setIx_to (Q := fun H' => D.nx σ H') r2 o2 o1 hp fun H' r s => q σ H' F2 r s
              rw [ha] at h2
              cases h2
              exact h3
  · cases h
theorem S_par (i j : Nat) (cs : CEs) : SndS T xs gk fu (.par i j cs) := fun S XW X st k h => by
  simp only [chkS] at h
  cases h
theorem S_ret (c : CE) : SndS T xs gk fu (.ret c) := fun S XW X st k h => by
  simp only [chkS] at h
  split at h
  · exact sndS_ret ((sndE T gk c S XW X _ k.toCxOk h).1 false)
  · cases h
theorem S_retN : SndS T xs gk fu .retN := fun S XW X st k h => by
  simp only [chkS] at h
  split at h
  · exact sndS_retN
  · cases h
theorem S_pas : SndS T xs gk fu .pas := fun S XW X st k h => by
  simp only [chkS] at h
  split at h
  · exact sndS_nx ps_pass
  · exact sndS_nx ps_doc
  · cases h
theorem S_brk : SndS T xs gk fu .brk := fun S XW X st k h => by
  simp only [chkS] at h
  split at h
  · exact sndS_brk
  · cases h
theorem S_cnt : SndS T xs gk fu .cnt := fun S XW X st k h => by
  simp only [chkS] at h
  split at h
  · exact sndS_cnt
  · cases h
theorem S_rais (x : Str) : SndS T xs gk fu (.rais x) := fun S XW X st k h => by
  simp only [chkS] at h
  split at h
  · simp only [Bool.and_eq_true, decide_eq_true_eq, dbg, Bool.not_eq_true'] at h
    obtain ⟨⟨⟨rfl, h2⟩, h3⟩, h4⟩ := h
    obtain ⟨C, hC, pm⟩ := k.xc _ h2
    exact sndS_raise k.calm k.tk hC (pm (k.toCxOk.gl h3) h4 _ _ _ _ _)
  · cases h
theorem S_if (c : CE) (a b : CSs) (ia : SndSs T xs gk fu a) (ib : SndSs T xs gk fu b) : SndS T xs gk fu (.iff c a b) := fun S XW X st k h => by
  simp only [chkS] at h
  split at h
  · simp only [Bool.and_eq_true] at h
    obtain ⟨⟨⟨h1, h2⟩, h3⟩, h4⟩ := h
    have q := sndS_if (pos := ‹Pos›) ((sndE T gk c S XW X _ k.toCxOk h2).2 h1) (ia S XW X _ k h3) (ib S XW X _ k h4)
    refine PSimp q fun D σ H z => ?_
    obtain ⟨W, G, B, F, e, rel, z⟩ := z
    refine ⟨W, G, B, F, e, rel, ?_⟩
    simp only [evS] at z
    exact z
  · cases h
theorem S_for (t : Tg) (it : IT) (b : CSs) (ib : SndSs T xs gk fu b) : SndS T xs gk fu (.forr t it b) := fun S XW X st k h => by
  simp only [chkS] at h
  split at h
  · rename_i tg iter body pos
    simp only [Bool.and_eq_true, Bool.not_eq_true'] at h
    obtain ⟨⟨⟨h1, h2⟩, h3⟩, h4⟩ := h
    have q := sndS_for (pos := pos) k.po k.calm (sndI T gk it S XW X tg iter k.toCxOk h2 false) (tg_snd k.toCxOk h3) (ib S XW X _ k h4)
      (fun x => by
        unfold foldedSetIterable
        cases iter <;> first | rfl | (simp [isSet] at h1))
    refine PSimp q fun D σ H z => ?_
    obtain ⟨W, G, B, F, e, rel, z⟩ := z
    refine ⟨W, G, B, F, e, rel, ?_⟩
    simp only [evS] at z
    exact z
  · cases h
theorem S_whl (c : CE) (b : CSs) (ib : SndSs T xs gk fu b) : SndS T xs gk fu (.whl c b) := fun S XW X st k h => by
  simp only [chkS] at h
  split at h
  · simp only [Bool.and_eq_true] at h
    obtain ⟨⟨h1, h2⟩, h3⟩ := h
    have q := sndS_while (pos := ‹Pos›) (fu := fu) k.po ((sndE T gk c S XW X _ k.toCxOk h2).2 h1) (ib S XW X _ k h3)
    refine PSimp q fun D σ H z => ?_
    obtain ⟨W, G, B, F, e, rel, z⟩ := z
    refine ⟨W, G, B, F, e, rel, ?_⟩
    simp only [evS] at z
    exact z
  · cases h
mutual
theorem sndS (T : Tx) (xs : List Str) (gk : Bool) (fu : Nat) : ∀ c : CS, SndS T xs gk fu c
  | .expr c => S_expr c
  | .asg i c => S_asg i c
  | .par i j cs => S_par i j cs
  | .asgTg ts c => S_asgTg ts c
  | .asgT ts c => S_asgT ts c
  | .set i k c => S_set i k c
  | .iff c a b => S_if c a b (sndSs T xs gk fu a) (sndSs T xs gk fu b)
  | .forr t it b => S_for t it b (sndSs T xs gk fu b)
  | .whl c b => S_whl c b (sndSs T xs gk fu b)
  | .ret c => S_ret c
  | .retN => S_retN
  | .rais x => S_rais x
  | .pas => S_pas
  | .brk => S_brk
  | .cnt => S_cnt
theorem sndSs (T : Tx) (xs : List Str) (gk : Bool) (fu : Nat) : ∀ c : CSs, SndSs T xs gk fu c
  | .nil => fun S XW X st k h => by
    cases st with
    | cons s ss => simp [chkSs] at h
    | nil =>
      refine PSsimp (sndSs_nil (mg := X.mg) (XW := XW)) fun D σ H z => ?_
      obtain ⟨W, G, B, F, e, rel, z⟩ := z
      refine ⟨W, G, B, F, e, rel, ?_⟩
      simp only [evSs] at z
      exact z
  | .cons c cs => fun S XW X st k h => by
    cases st with
    | nil => simp [chkSs] at h
    | cons s ss =>
      simp only [chkSs, Bool.and_eq_true] at h
      refine PSsimp (sndSs_cons (sndS T xs gk fu c S XW X s k h.1) (sndSs T xs gk fu cs S XW X ss k h.2)) fun D σ H z => ?_
      obtain ⟨W, G, B, F, e, rel, z⟩ := z
      refine ⟨W, G, B, F, e, rel, ?_⟩
      simp only [evSs] at z
      exact z
end
end
end Ev

/-! Ev, part Q: a def by its embedded body. -/
namespace Ev
open PySem L2 RZ
section
variable {K : PySem.W.Frag} {mg : Str → Option Value} {W W' G : AS} {B : Nat → AS × AS} {F F' : Nat → AS} {H H' : Hp} {σ σ' : St}
theorem backArgs_at : ∀ {t e t' : En}, backArgs t e = some t' → t'.length = t.length ∧ ∀ (i : Nat) (s : Slot), t'[i]? = some (some s) →
    (t[i]? = some (some s) ∧ ∀ c, s ≠ .bor c) ∨ ∃ c c0, s = .bor c ∧ e[i]? = some (some (.bor c)) ∧ t[i]? = some (some (.bor c0))
  | [], e, t', h => by
    cases h
    exact ⟨rfl, fun i s q => by simp at q⟩
  | a :: t, [], t', h => by
    cases a with
    | none => simp [backArgs] at h
    | some s => cases s <;> simp [backArgs] at h
  | a :: t, o :: e, t', h => by
    have shift : ∀ (b : Option Slot) (t1 : En), backArgs t e = some t1 → (∀ s, b = some s → (a = some s ∧ ∀ c, s ≠ .bor c) ∨ ∃ c c0, s = .bor c ∧ o = some (.bor c) ∧ a = some (.bor c0)) → t' = b :: t1 →
        t'.length = (a :: t).length ∧ ∀ (i : Nat) (s : Slot), t'[i]? = some (some s) → ((a :: t)[i]? = some (some s) ∧ ∀ c, s ≠ .bor c) ∨ ∃ c c0, s = .bor c ∧ (o :: e)[i]? = some (some (.bor c)) ∧ (a :: t)[i]? = some (some (.bor c0)) := fun b t1 h1 hb e1 => by
      subst e1
      obtain ⟨l1, p1⟩ := backArgs_at h1
      refine ⟨by simp [l1], fun i s q => ?_⟩
      cases i with
      | zero =>
        have q : b = some s := by simpa using q
        rcases hb s q with ⟨z1, z2⟩ | ⟨c, c0, z1, z2, z3⟩
        · exact .inl ⟨by simp [z1], z2⟩
        · exact .inr ⟨c, c0, z1, by simp [z2], by simp [z3]⟩
      | succ i =>
        rcases p1 i s (by simpa using q) with ⟨z1, z2⟩ | ⟨c, c0, z1, z2, z3⟩
        · exact .inl ⟨by simpa using z1, z2⟩
        · exact .inr ⟨c, c0, z1, by simpa using z2, by simpa using z3⟩
    cases a with
    | none =>
      simp only [backArgs] at h
      obtain ⟨t1, h1, h2⟩ := Option.map_eq_some_iff.mp h
      exact shift none t1 h1 (fun s z => nomatch z) h2.symm
    | some sa =>
      cases sa with
      | val d =>
        simp only [backArgs] at h
        obtain ⟨t1, h1, h2⟩ := Option.map_eq_some_iff.mp h
        exact shift _ t1 h1 (fun s z => by cases z; exact .inl ⟨rfl, fun c z => nomatch z⟩) h2.symm
      | own c =>
        simp only [backArgs] at h
        obtain ⟨t1, h1, h2⟩ := Option.map_eq_some_iff.mp h
        exact shift _ t1 h1 (fun s z => by cases z; exact .inl ⟨rfl, fun c z => nomatch z⟩) h2.symm
      | bor c0 =>
        cases o with
        | none => simp [backArgs] at h
        | some so =>
          cases so with
          | val d => simp [backArgs] at h
          | own d => simp [backArgs] at h
          | bor c =>
            simp only [backArgs] at h
            obtain ⟨t1, h1, h2⟩ := Option.map_eq_some_iff.mp h
            exact shift _ t1 h1 (fun s z => by cases z; exact .inr ⟨c, c0, rfl, rfl, rfl⟩) h2.symm
theorem slot_arg {t : En} (h : t.all isArg = true) {i : Nat} {s : Slot} (q : t[i]? = some (some s)) : (∃ d, s = .val d) ∨ ∃ c, s = .bor c := by
  rw [List.all_eq_true] at h
  have := h _ (List.mem_of_getElem? q)
  cases s with
  | val d => exact .inl ⟨d, rfl⟩
  | bor c => exact .inr ⟨c, rfl⟩
  | own c => simp [isArg] at this
/-- behind the body, at the arguments -/
theorem rel_back {t e t' : En} (r0 : Rel K W G B F H σ t) (ha : t.all isArg = true) (r : Rel K W' G B F' H' σ' e) (st : Stp W F H W' F' H') (h : backArgs t e = some t') : Rel K W' G B F' H' σ t' := by
  obtain ⟨l, p⟩ := backArgs_at h
  refine ⟨r0.len.trans l.symm, r.wt, r.gt, r.ft, r.fw, r.ff, fun i s q => ?_⟩
  rcases p i s q with ⟨z1, z2⟩ | ⟨c, c0, rfl, z2, z3⟩
  · obtain ⟨v, h1, h2⟩ := r0.slot i s z1
    rcases slot_arg ha z1 with ⟨d, rfl⟩ | ⟨c, rfl⟩
    · exact ⟨v, h1, DpA.step st.step h2⟩
    · exact absurd rfl (z2 c)
  · obtain ⟨a, h1, h2, h3, h4, h5⟩ := slot_bor r z2
    obtain ⟨a0, g1, g2, g3, g4, g5⟩ := slot_bor r0 z3
    have : a = a0 := (g4 a).mp ((h4 a).mpr rfl)
    subst this
    exact ⟨_, g1, a, rfl, h2, h3, h4, h5⟩
theorem start_rel {t : En} {vs : List V} {N : List Str} (r : Rel K W G B F H (vs.map some) t) : Rel K W G B F H (L2.start N vs) (t ++ List.replicate (N.length - vs.length) none) := by
  have hl : t.length = vs.length := by rw [← r.len, List.length_map]
  refine ⟨by unfold L2.start; rw [List.length_append, List.length_append, r.len, List.length_replicate, List.length_replicate], r.wt, r.gt, r.ft, r.fw, r.ff, fun i s h => ?_⟩
  by_cases hi : i < t.length
  · rw [List.getElem?_append_left hi] at h
    obtain ⟨v, h1, h2⟩ := r.slot i s h
    refine ⟨v, ?_, h2⟩
    unfold L2.start
    rw [List.getElem?_append_left (by rw [List.length_map]; omega)]
    exact h1
  · rw [List.getElem?_append_right (by omega)] at h
    have := List.mem_of_getElem? h
    rw [List.mem_replicate] at this
    exact nomatch this.2
/-- the body's reading from the def's promise -/
theorem body_res {cs : Nat → Option D} {FT : Nat → Fn} {fu np n : Nat} {body : CSs} {vs : List V} {Q : VK} {E : XK} {N : List Str} (hn : np ≤ N.length → n = N.length - np) (hle : np ≤ N.length) (h : Spec K mg (runF cs FT fu np n body) vs H Q E) :
    tS K mg (fun cls d _ H => E cls d H) (fun e => evSs cs FT fu body e) { nx := fun _ H' => Q .non H', rt := Q } (L2.start N vs) H := by
  obtain ⟨hl, W, G, B, F, t, rel, hG, q⟩ := h
  have hl : vs.length = np := hl
  have r1 := start_rel (N := N) rel
  have en : n = N.length - vs.length := by rw [hl]; exact hn hle
  rw [← en] at r1
  refine ⟨W, G, B, F, _, r1, ?_⟩
  show SRes K mg (fun cls d _ H => E cls d H) W G B F H { nx := fun _ H' => Q .non H', rt := Q } (evSs cs FT fu body (t ++ List.replicate n none))
  dsimp only [runF] at q
  split at q
  · rename_i ha
    have fin : ∀ {e' : En} {r : R}, Res K mg (fun cls d _ H' => E cls d H') (fun F H F' H' t' v r => Out K W G B F H (vs.map some) F' H' t' v (.r r)) W G B F H (vs.map some) (match backArgs t e' with
        | some t => .ok r t
        | none => .no : Rs R) Q → ∀ (v : V) (σ' : St) (H' : Hp) (F' : Nat → AS), Out K W G B F H σ' F' H' e' v (.r r) → Q v H' := fun {e' r} q v σ' H' F' o => by
      cases hb : backArgs t e' with
      | none => rw [hb] at q; exact q.elim
      | some t' =>
        rw [hb] at q
        refine q v H' F' ?_
        cases r with
        | v d =>
          obtain ⟨o1, o2, o3⟩ := o
          exact ⟨rel_back rel ha.2 o1 o2 hb, o2, o3⟩
        | o c =>
          obtain ⟨a, fp, rfl, h1, h2, h3, h4, h5⟩ := o
          exact ⟨a, fp, rfl, h1, h2, rel_back rel ha.2 h3 h4 hb, h4, h5⟩
    cases hs : evSs cs FT fu body (t ++ List.replicate n none) with
    | no => rw [hs] at q; exact q.elim
    | bk e' => rw [hs] at q; exact q.elim
    | ct e' => rw [hs] at q; exact q.elim
    | nx e' =>
      rw [hs] at q
      exact fun σ' H' F' r' s' => fin q .non σ' H' F' ⟨r', s', .non⟩
    | rt r e' =>
      rw [hs] at q
      exact fun v σ' H' F' o => fin q v σ' H' F' o
    | ex x e' =>
      rw [hs] at q
      dsimp only at q
      intro cls d σ' H' F' o
      cases hb : backArgs t e' with
      | none => rw [hb] at q; exact q.elim
      | some t' =>
        rw [hb] at q
        obtain ⟨o1, o2, o3⟩ := o
        exact q cls d H' F' ⟨rel_back rel ha.2 o1 o2 hb, o2, o3⟩
  · exact q.elim
end
/-- what stands around a def -/
structure Top (T : Tx) (xs : List Str) (gk : Bool) (k : Nat) (P : Program) (w : World) (K : PySem.W.Frag) (mg : Str → Option Value) (base : Heap) : Prop where
  fn : ∀ j x, T.fs[j]? = some x → ∃ f fd ps, mg x = some (.ref f) ∧ PySem.W.keepIn K (.ref f) = true ∧ Binds K fd ps [] ∧ FnX gk P w K mg base k f fd ps (Spec K mg (T.FT j))
  con : ∀ k x d, T.cn[k]? = some x → T.cs k = some d → ∃ v u, mg x = some u ∧ RelV v u ∧ ∀ A H, DpA K A H v d
  bl : ∀ x ∈ T.bl, mg x = none
  xc : ∀ x ∈ xs, ∃ C, mg x = some (.ref C) ∧ ∀ X : Cx, X.K = K → X.mg = mg → X.base = base → Gl X x → (x == ("__debug__" : Str)) = false → ∀ p m j p2 pos, PMk X (.Call (.Name x p) [.Constant (.str m) j p2] [] pos) (fun _ H Q => Q (.ref C) none H)
theorem Top.sx {T : Tx} {xs : List Str} {gk : Bool} {k : Nat} {P : Program} {w : World} {K : PySem.W.Frag} {mg : Str → Option Value} {base : Heap} (tp : Top T xs gk k P w K mg base) {N ps : List Str} {qual : Str} {scope : Scope} {f : Addr} {cdv : Value} {A : Around} {outer : List PySem.Env} {s : Shared} {H : Hp} {E : XK}
    (S : FnScope N ps scope) (hr : Room k (A.deeper (PyProof.Rows.envOfC qual scope s.heap.objs.size f cdv))) (hg : gk = true → (A.deeper (PyProof.Rows.envOfC qual scope s.heap.objs.size f cdv)).guards = some []) :
    SxOk T xs gk ⟨N, scope, scope⟩ (fun cls d _ H => E cls d H) (cxOf (L2.CX P w) P w K mg base N qual scope f cdv A outer s H E) where
  hN := rfl
  hs := rfl
  nd := S.nd
  calm := rfl
  room := ⟨k, hr, fun j x h => tp.fn j x h⟩
  gs := hg
  tk := takes_of rfl rfl rfl rfl
  con := tp.con
  bl := tp.bl
  loc := fun x h => by
    unfold locB at h
    refine ⟨?_, .inl rfl⟩
    dsimp only at h
    split at h
    · exact .inl (by assumption)
    · exact .inr (by assumption)
    · cases h
  po := passes_of rfl
  fk := S.kind
  xc := fun x hx => by
    obtain ⟨C, h1, h2⟩ := tp.xc x hx
    exact ⟨C, h1, fun hg hd => h2 _ rfl rfl rfl hg hd⟩
theorem fn_ev {T : Tx} {xs : List Str} {k : Nat} {P : Program} {w : World} {K : PySem.W.Frag} {mg : Str → Option Value} {base : Heap} (tp : Top T xs false k P w K mg base) {f : Addr} {name qual : Str} {params : Arguments} {body : List Stmt} {scope : Scope} {dV kV doc pm cdv ct oc : Value} {an od : Option Addr}
    {osl : Array (Option Value)} {N ps : List Str} {b : CSs} {fu n : Nat} (lk : K.lookup f = some ⟨oc, od, .func (PySem.W.fnOf name qual params body scope dV kV doc pm an cdv ct), osl⟩) (hcd : PySem.W.codeIn K cdv qual = true) (S : FnScope N ps scope)
    (hn : N.length = ps.length + n) (hb : chkSs T xs ⟨N, scope, scope⟩ b body = true) :
    FnX false P w K mg base (k + 1) f (PySem.W.fnOf name qual params body scope dV kV doc pm an cdv ct) ps (Spec K mg (runF T.cs T.FT fu ps.length n b)) := by
  refine FnX.ofOk (L2.fn_of lk hcd S (fun vs H Q E h => h.1) fun A outer s H vs Q E hr h => ?_)
  exact ⟨_, sndSs T xs false fu b _ _ _ body (tp.sx S hr fun z => nomatch z) hb, body_res (fun _ => by omega) (by omega) h⟩
/-- no promise at the ground -/
theorem fn_no {gk : Bool} {P : Program} {w : World} {K : PySem.W.Frag} {mg : Str → Option Value} {base : Heap} {k : Nat} {f : Addr} {fd : FuncData} {ps : List Str} : FnX gk P w K mg base k f fd ps (Spec K mg ⟨ps.length, fun _ => .no⟩) :=
  ⟨fun vs H Q E h => h.1, fun A outer s H args us vs Q E _ _ _ _ _ h => by
    obtain ⟨_, _, _, _, _, _, _, _, q⟩ := h
    exact q.elim⟩
end Ev

/-! Ev, part R: a whole text. -/
namespace Ev
open PySem L2 RZ
structure Prg where
  cs : Nat → Option PyData
  cn : List Str
  fs : List Str
  bl : List Str
  xs : List Str
  st : Nat → Stmt
  N : Nat → List Str
  ps : Nat → List Str
  body : Nat → CSs
  fu : Nat
noncomputable def Prg.FT (p : Prg) : Nat → Nat → Fn
  | 0, j => ⟨(p.ps j).length, fun _ => .no⟩
  | k + 1, j => runF p.cs (p.FT k) p.fu (p.ps j).length ((p.N j).length - (p.ps j).length) (p.body j)
def Prg.T (p : Prg) (F : Nat → Fn) : Tx := ⟨p.cs, F, p.cn, p.fs, p.bl⟩
structure Prg.Ok (p : Prg) : Prop where
  sc : ∀ j x, p.fs[j]? = some x → FnScope (p.N j) (p.ps j) (defScope (p.st j)) ∧ (p.N j).length = (p.ps j).length + ((p.N j).length - (p.ps j).length)
  ck : ∀ j x, p.fs[j]? = some x → ∀ F, chkSs (p.T F) p.xs ⟨p.N j, defScope (p.st j), defScope (p.st j)⟩ (p.body j) (defBody (p.st j)) = true
  bd : ∀ j x, p.fs[j]? = some x → ∀ (kV doc pm : Value) (an : Option Addr) (cdv ct : Value) (us : List Value), us.length = (p.ps j).length → bindArgs (PySem.W.fnOf x x (defArgs (p.st j)) (defBody (p.st j)) (defScope (p.st j)) .none kV doc pm an cdv ct) ⟨us, []⟩ = pure ((p.ps j).zip us)
structure Prg.At (p : Prg) (K : PySem.W.Frag) (mg : Str → Option Value) : Prop where
  fn : ∀ j x, p.fs[j]? = some x → ∃ f fd, mg x = some (.ref f) ∧ L2.Fun K x x (p.st j) f fd
  con : ∀ k x d, p.cn[k]? = some x → p.cs k = some d → ∃ v u, mg x = some u ∧ RelV v u ∧ ∀ A H, DpA K A H v d
  bl : ∀ x ∈ p.bl, mg x = none
  xc : ∀ x ∈ p.xs, ∃ C, mg x = some (.ref C) ∧ ∀ X : Cx, X.K = K → X.mg = mg → Gl X x → (x == ("__debug__" : Str)) = false → ∀ p m j p2 pos, PMk X (.Call (.Name x p) [.Constant (.str m) j p2] [] pos) (fun _ H Q => Q (.ref C) none H)
theorem Prg.top {p : Prg} (ok : p.Ok) {P : Program} {w : World} {K : PySem.W.Frag} {mg : Str → Option Value} {base : Heap} (h : p.At K mg) : ∀ k, Top (p.T (p.FT k)) p.xs false k P w K mg base := by
  have mk : ∀ k, (∀ j x, p.fs[j]? = some x → ∀ f fd, mg x = some (.ref f) → L2.Fun K x x (p.st j) f fd → FnX false P w K mg base k f fd (p.ps j) (Spec K mg (p.FT k j))) → Top (p.T (p.FT k)) p.xs false k P w K mg base := fun k hk => {
    fn := fun j x hj => by
      obtain ⟨f, fd, h1, h2⟩ := h.fn j x hj
      exact ⟨f, fd, p.ps j, h1, h2.kp, h2.binds (ok.bd j x hj), hk j x hj f fd h1 h2⟩
    con := h.con
    bl := h.bl
    xc := fun x hx => by
      obtain ⟨C, h1, h2⟩ := h.xc x hx
      exact ⟨C, h1, fun X hK hm _ => h2 X hK hm⟩ }
  intro k
  induction k with
  | zero => exact mk 0 fun j x hj f fd _ _ => fn_no
  | succ k ih =>
    refine mk (k + 1) fun j x hj f fd _ F => ?_
    obtain ⟨oc, od, kV, doc, pm, an, cdv, ct, osl, rfl, lk, hcd⟩ := F.ex
    obtain ⟨s1, s2⟩ := ok.sc j x hj
    exact fn_ev ih lk hcd s1 s2 (ok.ck j x hj _)
/-- the script, as the law takes it -/
theorem entry {p : Prg} {K : PySem.W.Frag} {mg : Str → Option Value} {k j : Nat} {H : Hp} {a : Addr} {ns : List Int} {t : En} {Q : VK} {E : XK} (hp : (p.ps j).length = 1) (hS : SqL K H a (ns.map V.int)) (hs : (p.FT (k + 1) j).S [some (.val (roL (ns.map PyData.int)))] = .ok (.v (.bool true)) t) (hQ : ∀ H', Q (.bl true) H') :
    Spec K mg (p.FT (k + 1) j) [.ref a] H Q E := by
  refine ⟨hp.symm, fun _ => False, fun b => H b ≠ none, fun _ => (fun _ => False, fun _ => False), fun _ _ => False, [some (.val (roL (ns.map PyData.int)))], ⟨rfl, fun b z => z.elim, fun b z => z, fun i b z => z.elim, fun i b z => z.elim, fun i j b z => z.elim, fun i s q => ?_⟩, fun b z => z, ?_⟩
  · cases i with
    | succ i => simp at q
    | zero =>
      simp only [List.getElem?_cons_zero, Option.some.injEq] at q
      subst q
      refine ⟨.ref a, rfl, .ro (xs := ns.map V.int) ?_ (DpAs.of_ints ns)⟩
      rcases hS with h | h
      · exact .inl ⟨h, fun z => z.elim id fun ⟨_, z⟩ => z⟩
      · exact .inr h
  · rw [hs]
    intro v H' F' o
    obtain ⟨_, _, o⟩ := o
    cases o
    exact hQ H'
/-- what law(script) promises -/
def spLaw (K : PySem.W.Frag) : Sp := fun vs H Q _ => ∃ (a : Addr) (ns : List Int), vs = [.ref a] ∧ SqL K H a (ns.map V.int) ∧ ns.length ≤ 63 ∧ (∀ z ∈ ns, Builtin.Int.intBits z ≤ 1048576) ∧ ∀ H', Q (.bl true) H'
theorem law_ok {p : Prg} (ok : p.Ok) {P : Program} {w : World} {K : PySem.W.Frag} {mg : Str → Option Value} {base : Heap} (h : p.At K mg) {k j : Nat} {x : Str} {f : Addr} (hj : p.fs[j]? = some x) (hf : mg x = some (.ref f)) (hp : (p.ps j).length = 1)
    (hs : ∀ ns : List Int, ns.length ≤ 63 → (∀ z ∈ ns, Builtin.Int.intBits z ≤ 1048576) → ∃ t, (p.FT (k + 1) j).S [some (.val (roL (ns.map PyData.int)))] = .ok (.v (.bool true)) t) {fd : FuncData} (F : L2.Fun K x x (p.st j) f fd) : FnOk P w K mg base (L2.CX P w) (k + 1) f fd (p.ps j) (spLaw K) := by
  obtain ⟨f', fd', ps', h1, h2, h3, h4⟩ := (Prg.top ok (P := P) (w := w) (base := base) h (k + 1)).fn j x hj
  obtain ⟨oc, od, kV, doc, pm, an, cdv, ct, osl, rfl, lk, hcd⟩ := F.ex
  obtain ⟨s1, s2⟩ := ok.sc j x hj
  have X := fn_ev (Prg.top ok (P := P) (w := w) (base := base) h k) (fu := p.fu) lk hcd s1 s2 (ok.ck j x hj _)
  refine X.ok.imp fun vs H Q E q => ?_
  obtain ⟨a, ns, rfl, q1, q2, q3, q4⟩ := q
  obtain ⟨t, ht⟩ := hs ns q2 q3
  exact entry (p := p) (k := k) (j := j) hp q1 ht q4
end Ev

/-! Ev, part S: how the evaluator is reckoned: rows that fire at states that are written out. -/
namespace Ev
open PySem L2
def SR.sq (r : SR) (f : En → SR) : SR := match r with
  | .nx e => f e
  | .rt r e => .rt r e
  | .bk e => .bk e
  | .ct e => .ct e
  | .ex x e => .ex x e
  | .no => .no
section
variable {f : En → SR} {e : En} {r : R} {x : Xc}
@[simp] theorem sq_nx : SR.sq (.nx e) f = f e := rfl
@[simp] theorem sq_rt : SR.sq (.rt r e) f = .rt r e := rfl
@[simp] theorem sq_bk : SR.sq (.bk e) f = .bk e := rfl
@[simp] theorem sq_ct : SR.sq (.ct e) f = .ct e := rfl
@[simp] theorem sq_ex : SR.sq (.ex x e) f = .ex x e := rfl
@[simp] theorem sq_no : SR.sq .no f = .no := rfl
end
def nb : Option Slot → Bool
  | some (.bor _) => false
  | _ => true
@[simp] theorem nb_none : nb none = true := rfl
@[simp] theorem nb_val {d : PyData} : nb (some (.val d)) = true := rfl
@[simp] theorem nb_own {c : Cel} : nb (some (.own c)) = true := rfl
def forT (cs : Nat → Option PyData) (FT : Nat → Fn) (fu : Nat) (t : Tg) (b : CSs) (d : PyData) (e : En) : Option (En) := putTg t d e
noncomputable def turnF (cs : Nat → Option PyData) (FT : Nat → Fn) (fu : Nat) (t : Tg) (b : CSs) (d : PyData) (e : En) : SR := match putTg t d e with
  | none => .no
  | some e => evSs cs FT fu b e
noncomputable def turnC (cs : Nat → Option PyData) (FT : Nat → Fn) (own : List Nat) (t : Tg) (c : CEo) (x : CE) (d : PyData) (e : En) : Rs (Option PyData) := lcTurn own t (fun e => evC cs FT c e) (fun e => evM cs FT x false e) d e
section
variable {cs : Nat → Option PyData} {FT : Nat → Fn} {fu : Nat} {s : Option Slot} {e : En} {pk : Bool}
@[simp] theorem evSs_nil : evSs cs FT fu .nil e = .nx e := by simp only [evSs] <;> rfl
@[simp] theorem evSs_cons {c : CS} {ss : CSs} : evSs cs FT fu (.cons c ss) (s :: e) = (evS cs FT fu c (s :: e)).sq fun e => evSs cs FT fu ss e := by
  simp only [evSs]
  cases evS cs FT fu c (s :: e) <;> rfl
@[simp] theorem evS_expr {x : CE} : evS cs FT fu (.expr x) (s :: e) = (evM cs FT x false (s :: e)).thn fun _ e => .nx e := by simp only [evS] <;> rfl
@[simp] theorem evS_asg {i : Nat} {x : CE} : evS cs FT fu (.asg i x) (s :: e) = (evM cs FT x false (s :: e)).thn fun y e => match y with
    | .r y => match putR i y e with
      | some e => .nx e
      | none => .no
    | .sl _ => .no := by simp only [evS] <;> rfl
@[simp] theorem evS_par {i j : Nat} {xs : CEs} : evS cs FT fu (.par i j xs) (s :: e) = (evVs cs FT xs (s :: e)).thn fun ds e => match ds with
    | [d, d'] => match putR i (.v d) e with
      | some e => match putR j (.v d') e with
        | some e => .nx e
        | none => .no
      | none => .no
    | _ => .no := by simp only [evS] <;> rfl
@[simp] theorem evS_asgTg {ts : Tgs} {x : CE} : evS cs FT fu (.asgTg ts x) (s :: e) = (evM cs FT x false (s :: e)).thn fun y e => match y with
    | .r y => match y.d with
      | .tuple ds => match putTgs ts ds e with
        | some e => .nx e
        | none => .no
      | _ => .no
    | .sl _ => .no := by simp only [evS] <;> rfl
@[simp] theorem evS_asgT {ts : List ST} {x : CE} : evS cs FT fu (.asgT ts x) (s :: e) = (evM cs FT x false (s :: e)).thn fun y e => match y with
    | .r y => match y.d with
      | .tuple ds => match putSTs ts ds e with
        | some e => .nx e
        | none => .no
      | _ => .no
    | .sl _ => .no := by simp only [evS] <;> rfl
@[simp] theorem evS_set {i : Nat} {k x : CE} : evS cs FT fu (.set i k x) (s :: e) = (evM cs FT x false (s :: e)).thn fun y e => match lstSlot e i, y with
    | true, .r y => (evM cs FT k false e).thn fun z e => match z with
      | .r z => match setIx i z.d y.d e with
        | some e => .nx e
        | none => .no
      | .sl _ => .no
    | _, _ => .no := by simp only [evS] <;> rfl
@[simp] theorem evS_iff {c : CE} {a b : CSs} : evS cs FT fu (.iff c a b) (s :: e) = (testB (evM cs FT c false (s :: e)) fun k e => .ok k e).thn fun k e => match k with
    | true => evSs cs FT fu a e
    | false => evSs cs FT fu b e := by simp only [evS] <;> rfl
@[simp] theorem evS_forr {t : Tg} {it : IT} {b : CSs} : evS cs FT fu (.forr t it b) (s :: e) = (evI cs FT false it (s :: e)).thn fun p e => match p.1.all PV.isR with
    | false => .no
    | true => forL (turnF cs FT fu t b) p.2 e := by
  simp only [evS] <;> rfl
@[simp] theorem evS_whl {c : CE} {b : CSs} : evS cs FT fu (.whl c b) (s :: e) = whlL (fun e => evM cs FT c false e) (fun e => evSs cs FT fu b e) fu (s :: e) := by simp only [evS] <;> rfl
@[simp] theorem evS_ret {x : CE} : evS cs FT fu (.ret x) (s :: e) = (evM cs FT x false (s :: e)).thn fun y e => match y with
    | .r y => .rt y e
    | .sl _ => .no := by simp only [evS] <;> rfl
@[simp] theorem evS_retN : evS cs FT fu .retN (s :: e) = .rt (.v .none) (s :: e) := by simp only [evS] <;> rfl
@[simp] theorem evS_rais {x : Str} : evS cs FT fu (.rais x) (s :: e) = .ex ⟨x, none⟩ (s :: e) := by simp only [evS] <;> rfl
@[simp] theorem evS_pas : evS cs FT fu .pas (s :: e) = .nx (s :: e) := by simp only [evS] <;> rfl
@[simp] theorem evS_brk : evS cs FT fu .brk (s :: e) = .bk (s :: e) := by simp only [evS] <;> rfl
@[simp] theorem evS_cnt : evS cs FT fu .cnt (s :: e) = .ct (s :: e) := by simp only [evS] <;> rfl
@[simp] theorem turnF_cons {t : Tg} {b : CSs} {d : PyData} : turnF cs FT fu t b d (s :: e) = match putTg t d (s :: e) with
  | none => .no
  | some e => evSs cs FT fu b e := rfl
@[simp] theorem evM_var {i : Nat} : evM cs FT (.var i) pk (s :: e) = rdVar i pk (s :: e) := by simp only [evM] <;> rfl
@[simp] theorem evM_mov {i : Nat} : evM cs FT (.mov i) pk (s :: e) = mvVar i (s :: e) := by simp only [evM] <;> rfl
@[simp] theorem evM_con {d : PyData} : evM cs FT (.con d) pk (s :: e) = .ok (.r (.v d)) (s :: e) := by simp only [evM] <;> rfl
@[simp] theorem evM_glob {k : Nat} : evM cs FT (.glob k) pk (s :: e) = match cs k with
    | some d => .ok (.r (.v d)) (s :: e)
    | none => .no := by simp only [evM] <;> rfl
@[simp] theorem evM_tup {es : CEs} : evM cs FT (.tup es) pk (s :: e) = (evVs cs FT es (s :: e)).bind fun ds e => if ds.length ≤ sizeLine then .ok (.r (.v (.tuple ds))) e else .no := by simp only [evM] <;> rfl
@[simp] theorem evM_lst {es : CEs} : evM cs FT (.lst es) pk (s :: e) = (evVs cs FT es (s :: e)).bind fun ds e => if ds.length ≤ sizeLine then .ok (.r (.o (.lst ds))) e else .no := by simp only [evM] <;> rfl
@[simp] theorem evM_bin {op : Operator} {a b : CE} : evM cs FT (.bin op a b) pk (s :: e) = (evM cs FT a true (s :: e)).bind fun x e => (evM cs FT b true e).bind fun y e => app2 (bopD op) x y e := by simp only [evM] <;> rfl
@[simp] theorem evM_neg {a : CE} : evM cs FT (.neg a) pk (s :: e) = (evM cs FT a false (s :: e)).bind fun x e => match intOf x with
    | some i => .ok (.r (.v (.int (-i)))) e
    | none => .no := by simp only [evM] <;> rfl
@[simp] theorem evM_cmp {op : CmpOp} {a b : CE} : evM cs FT (.cmp op a b) pk (s :: e) = (evM cs FT a true (s :: e)).bind fun x e => (evM cs FT b true e).bind fun y e => app2 (cmpR op) x y e := by simp only [evM] <;> rfl
@[simp] theorem evM_chn {o1 o2 : CmpOp} {a b c : CE} : evM cs FT (.chn o1 o2 a b c) pk (s :: e) = (evM cs FT a true (s :: e)).bind fun x e => (evM cs FT b true e).bind fun y e => testB (app2 (cmpR o1) x y e) fun k e =>
      match k with
      | false => .ok (.r (.v (.bool false))) e
      | true => (evM cs FT c true e).bind fun z e => app2 (cmpR o2) y z e := by simp only [evM] <;> rfl
@[simp] theorem evM_not {a : CE} : evM cs FT (.not a) pk (s :: e) = testB (evM cs FT a false (s :: e)) fun k e => .ok (.r (.v (.bool (!k)))) e := by simp only [evM] <;> rfl
@[simp] theorem evM_bo {an : Bool} {es : CEs} : evM cs FT (.bo an es) pk (s :: e) = evB cs FT an es (s :: e) := by simp only [evM] <;> rfl
@[simp] theorem evM_ite {c a b : CE} : evM cs FT (.ite c a b) pk (s :: e) = testB (evM cs FT c false (s :: e)) fun k e => match k with
      | true => evM cs FT a false e
      | false => evM cs FT b false e := by simp only [evM] <;> rfl
@[simp] theorem evM_idx {a i : CE} : evM cs FT (.idx a i) pk (s :: e) = (evM cs FT a true (s :: e)).bind fun x e => (evM cs FT i true e).bind fun y e => app2 idxD x y e := by simp only [evM] <;> rfl
@[simp] theorem evM_slc {a : CE} {lo hi : CEo} : evM cs FT (.slc a lo hi) pk (s :: e) = (evM cs FT a true (s :: e)).bind fun x e => (evO cs FT lo e).bind fun l e => (evO cs FT hi e).bind fun h e => app1 (fun d => slcD d l h) x e := by simp only [evM] <;> rfl
@[simp] theorem evM_rev {a : CE} : evM cs FT (.rev a) pk (s :: e) = (evM cs FT a true (s :: e)).bind fun x e => app1 revD x e := by simp only [evM] <;> rfl
@[simp] theorem evM_bi {g : Bi} {es : CEs} : evM cs FT (.bi g es) pk (s :: e) = (evPs cs FT es (s :: e)).bind fun xs e => appN (biD g) xs e := by simp only [evM] <;> rfl
@[simp] theorem evM_sortedR {a : CE} : evM cs FT (.sortedR a) pk (s :: e) = (evM cs FT a true (s :: e)).bind fun x e => app1 (fun d => biD .sortedR [d]) x e := by simp only [evM] <;> rfl
@[simp] theorem evM_lstRange {a : CE} : evM cs FT (.lstRange a) pk (s :: e) = (evM cs FT a true (s :: e)).bind fun x e => app1 (fun d => biD .listRange [d]) x e := by simp only [evM] <;> rfl
@[simp] theorem evM_isi {a : CE} {t : Ty} : evM cs FT (.isi a t) pk (s :: e) = (evM cs FT a true (s :: e)).bind fun x e => app1 (isiD t) x e := by simp only [evM] <;> rfl
@[simp] theorem evM_call {k : Nat} {ms : List Bool} {es : CEs} : evM cs FT (.call k ms es) pk (s :: e) = (evAs cs FT ms es (s :: e)).bind fun as e => callS (FT k) as e := by simp only [evM] <;> rfl
@[simp] theorem evM_mut {m : Mu} {i : Nat} {es : CEs} : evM cs FT (.mut m i es) pk (s :: e) = match lstSlot (s :: e) i with
    | false => .no
    | true => (evVs cs FT es (s :: e)).bind fun ds e => mutS m i ds e := by simp only [evM] <;> rfl
@[simp] theorem evM_lc {own : List Nat} {tg : Tg} {it : IT} {c : CEo} {x : CE} : evM cs FT (.lc own tg it c x) pk (s :: e) = (evI cs FT true it (s :: e)).bind fun p e => match mayWipe e own with
    | false => .no
    | true => (compL (turnC cs FT own tg c x) (stands (wipeE e own) p.1) p.2 [] (wipeE e own)).bind fun ds e' => .ok (.r (.o (.lst ds))) (backE e own e') := by
  simp only [evM] <;> rfl
@[simp] theorem evVs_nil : evVs cs FT .nil e = .ok [] e := by simp only [evVs] <;> rfl
@[simp] theorem evVs_cons {x : CE} {xs : CEs} : evVs cs FT (.cons x xs) (s :: e) = (evM cs FT x false (s :: e)).bind fun y e => match y with
    | .r y => (evVs cs FT xs e).bind fun ys e => .ok (y.d :: ys) e
    | .sl _ => .no := by simp only [evVs] <;> rfl
@[simp] theorem evPs_nil : evPs cs FT .nil e = .ok [] e := by simp only [evPs] <;> rfl
@[simp] theorem evPs_cons {x : CE} {xs : CEs} : evPs cs FT (.cons x xs) (s :: e) = (evM cs FT x true (s :: e)).bind fun y e => (evPs cs FT xs e).bind fun ys e => .ok (y :: ys) e := by simp only [evPs] <;> rfl
@[simp] theorem evAs_nil : evAs cs FT [] .nil e = .ok [] e := by simp only [evAs] <;> rfl
@[simp] theorem evAs_d {ms : List Bool} {x : CE} {xs : CEs} : evAs cs FT (false :: ms) (.cons x xs) (s :: e) = (evM cs FT x false (s :: e)).bind fun y e => match y with
    | .r y => (evAs cs FT ms xs e).bind fun ys e => .ok (.d y.d :: ys) e
    | .sl _ => .no := by simp only [evAs] <;> rfl
@[simp] theorem evAs_b {ms : List Bool} {x : CE} {xs : CEs} : evAs cs FT (true :: ms) (.cons x xs) (s :: e) = (evM cs FT x true (s :: e)).bind fun y e => match y with
    | .sl i => (evAs cs FT ms xs e).bind fun ys e => .ok (.b i :: ys) e
    | .r _ => .no := by simp only [evAs] <;> rfl
@[simp] theorem evO_none : evO cs FT .none e = .ok none e := by simp only [evO] <;> rfl
@[simp] theorem evO_some {x : CE} : evO cs FT (.some x) (s :: e) = (evM cs FT x false (s :: e)).bind fun y e => match intOf y with
    | some i => .ok (some i) e
    | none => .no := by simp only [evO] <;> rfl
@[simp] theorem evC_none : evC cs FT .none e = .ok true e := by simp only [evC] <;> rfl
@[simp] theorem evC_some {x : CE} : evC cs FT (.some x) (s :: e) = testB (evM cs FT x false (s :: e)) fun k e => .ok k e := by simp only [evC] <;> rfl
@[simp] theorem evB_one {an : Bool} {x : CE} : evB cs FT an (.cons x .nil) (s :: e) = evM cs FT x false (s :: e) := by simp only [evB] <;> rfl
@[simp] theorem evB_cons {an : Bool} {x y : CE} {ys : CEs} : evB cs FT an (.cons x (.cons y ys)) (s :: e) = testB (evM cs FT x false (s :: e)) fun k e => if k = an then evB cs FT an (.cons y ys) e else .ok (.r (.v (.bool k))) e := by simp only [evB] <;> rfl
@[simp] theorem evI_val {x : CE} : evI cs FT pk (.val x) (s :: e) = (evM cs FT x pk (s :: e)).bind fun p e => match (p.get e).bind itemsD with
    | some ds => .ok ([p], ds) e
    | none => .no := by simp only [evI] <;> rfl
@[simp] theorem evI_range1 {a : CE} : evI cs FT pk (.range1 a) (s :: e) = (evM cs FT a pk (s :: e)).bind fun p e => match (p.get e).bind range1D with
    | some ds => .ok ([], ds) e
    | none => .no := by simp only [evI] <;> rfl
@[simp] theorem evI_range2 {a b : CE} : evI cs FT pk (.range2 a b) (s :: e) = (evM cs FT a pk (s :: e)).bind fun p e => (evM cs FT b pk e).bind fun q e => match p.get e, q.get e with
    | some x, some y => (match range2D x y with
      | some ds => .ok ([], ds) e
      | none => .no)
    | _, _ => .no := by simp only [evI] <;> rfl
@[simp] theorem evI_zip {a b : CE} : evI cs FT pk (.zip a b) (s :: e) = (evM cs FT a pk (s :: e)).bind fun p e => (evM cs FT b pk e).bind fun q e => match p.get e, q.get e with
    | some x, some y => (match zipItems x y with
      | some ds => .ok ([p, q], ds) e
      | none => .no)
    | _, _ => .no := by simp only [evI] <;> rfl
@[simp] theorem evI_enum {a : CE} : evI cs FT pk (.enum a) (s :: e) = (evM cs FT a pk (s :: e)).bind fun p e => match (p.get e).bind enumItems with
    | some ds => .ok ([p], ds) e
    | none => .no := by simp only [evI] <;> rfl
@[simp] theorem turnC_cons {own : List Nat} {t : Tg} {c : CEo} {x : CE} {d : PyData} : turnC cs FT own t c x d (s :: e) = match putTg t d (s :: e) with
  | none => .no
  | some e => (evC cs FT c e).noEx.bind fun k e => match k with
    | false => .ok none (wipeE e own)
    | true => (evM cs FT x false e).noEx.bind fun y e => match y with
      | .r y => .ok (some y.d) (wipeE e own)
      | .sl _ => .no := rfl
end
section
variable {s s' : Option Slot} {e : En} {pk : Bool} {i : Nat} {d d' : PyData} {r : R} {c : Cel}
theorem rdVar_val (h : e[i]? = some (some (.val d))) : rdVar i pk e = .ok (.r (.v d)) e := by unfold rdVar; rw [h]
theorem rdVar_ownP (h : e[i]? = some (some (.own c))) : rdVar i true e = .ok (.sl i) e := by unfold rdVar; rw [h]
theorem rdVar_ownV (h : e[i]? = some (some (.own c))) : rdVar i false e = .ok (.r (.v c.d)) (e.set i (some (.val c.d))) := by unfold rdVar; rw [h]
theorem rdVar_borP (h : e[i]? = some (some (.bor c))) : rdVar i true e = .ok (.sl i) e := by unfold rdVar; rw [h]
@[simp] theorem rdVar_cons : rdVar i pk (s :: e) = match (s :: e)[i]? with
  | some (some (.val d)) => .ok (.r (.v d)) (s :: e)
  | some (some (.own c)) => (match pk with
    | true => .ok (.sl i) (s :: e)
    | false => .ok (.r (.v c.d)) ((s :: e).set i (some (.val c.d))))
  | some (some (.bor c)) => (match pk with
    | true => .ok (.sl i) (s :: e)
    | false => .no)
  | _ => .no := rfl
@[simp] theorem mvVar_cons : mvVar i (s :: e) = match (s :: e)[i]? with
  | some (some (.val d)) => .ok (.r (.v d)) (s :: e)
  | some (some (.own c)) => .ok (.r (.o c)) ((s :: e).set i none)
  | _ => .no := rfl
@[simp] theorem get_r : PV.get (.r r) e = some r.d := rfl
@[simp] theorem get_sl : PV.get (.sl i) (s :: e) = match (s :: e)[i]? with
  | some (some t) => some t.d
  | _ => none := rfl
@[simp] theorem Rd_v : R.d (.v d) = d := rfl
@[simp] theorem Rd_o : R.d (.o c) = c.d := rfl
@[simp] theorem Cd_l {ds : List PyData} : Cel.d (.lst ds) = .list ds := rfl
@[simp] theorem Sd_v : Slot.d (.val d) = d := rfl
@[simp] theorem Sd_o : Slot.d (.own c) = c.d := rfl
@[simp] theorem Sd_b : Slot.d (.bor c) = c.d := rfl
@[simp] theorem app1_cons {f : PyData → Option R} {x : PV} : app1 f x (s :: e) = match x.get (s :: e) with
  | some d => (match f d with
    | some r => .ok (.r r) (s :: e)
    | none => .no)
  | none => .no := rfl
@[simp] theorem app2_cons {f : PyData → PyData → Option R} {x y : PV} : app2 f x y (s :: e) = match x.get (s :: e), y.get (s :: e) with
  | some d, some d' => (match f d d' with
    | some r => .ok (.r r) (s :: e)
    | none => .no)
  | _, _ => .no := rfl
@[simp] theorem gets_nil : gets [] e = some [] := rfl
@[simp] theorem gets_cons {x : PV} {xs : List PV} : gets (x :: xs) (s :: e) = match x.get (s :: e), gets xs (s :: e) with
  | some d, some ds => some (d :: ds)
  | _, _ => none := rfl
@[simp] theorem appN_cons {f : List PyData → Option R} {xs : List PV} : appN f xs (s :: e) = match gets xs (s :: e) with
  | some ds => (match f ds with
    | some r => .ok (.r r) (s :: e)
    | none => .no)
  | none => .no := rfl
@[simp] theorem boolOf_b {b : Bool} : boolOf (.r (.v (.bool b))) = some b := rfl
@[simp] theorem intOf_i {b : Int} : intOf (.r (.v (.int b))) = some b := rfl
@[simp] theorem testB_b {α : Type} {b : Bool} {f : Bool → En → Rs α} : testB (.ok (.r (.v (.bool b))) e) f = f b e := rfl
@[simp] theorem testB_no {α : Type} {f : Bool → En → Rs α} : testB .no f = .no := rfl
@[simp] theorem testB_ex {α : Type} {x : Xc} {f : Bool → En → Rs α} : testB (.ex x e) f = .ex x e := rfl
@[simp] theorem noEx_ok' {α : Type} {a : α} : Rs.noEx (.ok a e) = .ok a e := rfl
@[simp] theorem isR_r : PV.isR (.r r) = true := rfl
@[simp] theorem isR_sl : PV.isR (.sl i) = false := rfl
theorem putTg_nm (h : (s :: e)[i]? = some s') (hb : nb s' = true) : putTg (.nm i) d (s :: e) = some ((s :: e).set i (some (.val d))) := by
  unfold putTg
  rw [h]
  cases s' with
  | none => rfl
  | some s' => cases s' <;> first | rfl | cases hb
@[simp] theorem putTg_nm' : putTg (.nm i) d (s :: e) = match (s :: e)[i]? with
  | some t => if nb t = true then some ((s :: e).set i (some (.val d))) else none
  | none => none := by
  cases h : (s :: e)[i]? with
  | none => unfold putTg; rw [h]
  | some t =>
    dsimp only
    cases hb : nb t with
    | true => rw [if_pos rfl, putTg_nm h hb]
    | false =>
      rw [if_neg (by simp)]
      unfold putTg
      rw [h]
      cases t with
      | none => cases hb
      | some t => cases t <;> first | rfl | cases hb
@[simp] theorem putTg_tup {ts : Tgs} {ds : List PyData} : putTg (.tup ts) (.tuple ds) e = putTgs ts ds e := by simp only [putTg] <;> rfl
@[simp] theorem putTgs_nil : putTgs .nil [] e = some e := by simp only [putTgs] <;> rfl
@[simp] theorem putTgs_cons {t : Tg} {ts : Tgs} {ds : List PyData} : putTgs (.cons t ts) (d :: ds) e = match putTg t d e with
    | some e => putTgs ts ds e
    | none => none := by simp only [putTgs] <;> rfl
@[simp] theorem putR_v : putR i (.v d) (s :: e) = match (s :: e)[i]? with
  | some t => if nb t = true then some ((s :: e).set i (some (.val d))) else none
  | none => none := by
  unfold putR
  dsimp only
  generalize (s :: e)[i]? = o
  cases o with
  | none => rfl
  | some t =>
    cases t with
    | none => rfl
    | some t => cases t <;> rfl
@[simp] theorem putR_o : putR i (.o c) (s :: e) = match (s :: e)[i]? with
  | some t => if nb t = true then some ((s :: e).set i (some (.own c))) else none
  | none => none := by
  unfold putR
  dsimp only
  generalize (s :: e)[i]? = o
  cases o with
  | none => rfl
  | some t =>
    cases t with
    | none => rfl
    | some t => cases t <;> rfl
@[simp] theorem putST_tg {t : Tg} : putST (.tg t) d e = putTg t d e := rfl
@[simp] theorem putST_ix {k : Int} : putST (.ix i k) d e = setIx i (.int k) d e := rfl
@[simp] theorem putSTs_nil : putSTs [] [] e = some e := rfl
@[simp] theorem putSTs_cons {t : ST} {ts : List ST} {ds : List PyData} : putSTs (t :: ts) (d :: ds) e = match putST t d e with
  | some e => putSTs ts ds e
  | none => none := rfl
@[simp] theorem setIx_cons {k : Int} : setIx i (.int k) d (s :: e) = match (s :: e)[i]? with
  | some (some (.own (.lst xs))) => (ixN xs.length k).map fun j => (s :: e).set i (some (.own (.lst (xs.set j d))))
  | some (some (.bor (.lst xs))) => (ixN xs.length k).map fun j => (s :: e).set i (some (.bor (.lst (xs.set j d))))
  | _ => none := by
  unfold setIx
  generalize (s :: e)[i]? = o
  cases o with
  | none => rfl
  | some t =>
    cases t with
    | none => rfl
    | some t =>
      cases t with
      | val d => rfl
      | own c => cases c <;> rfl
      | bor c => cases c <;> rfl
@[simp] theorem lstSlot_cons : lstSlot (s :: e) i = match (s :: e)[i]? with
  | some (some (.own (.lst _))) => true
  | some (some (.bor (.lst _))) => true
  | _ => false := rfl
@[simp] theorem mutS_cons {m : Mu} {ds : List PyData} : mutS m i ds (s :: e) = match (s :: e)[i]? with
  | some (some (.own (.lst xs))) => (match muD m xs ds with
    | some (d, ys) => .ok (.r (.v d)) ((s :: e).set i (some (.own (.lst ys))))
    | none => .no)
  | some (some (.bor (.lst xs))) => (match muD m xs ds with
    | some (d, ys) => .ok (.r (.v d)) ((s :: e).set i (some (.bor (.lst ys))))
    | none => .no)
  | _ => .no := rfl
@[simp] theorem mayWipe_nil : mayWipe e [] = true := rfl
@[simp] theorem mayWipe_cons {is : List Nat} : mayWipe (s :: e) (i :: is) = ((match (s :: e)[i]? with
    | some (some (.own _)) => false
    | some (some (.bor _)) => false
    | _ => true) && mayWipe (s :: e) is) := rfl
@[simp] theorem wipeE_nil : wipeE e [] = e := rfl
@[simp] theorem wipeE_cons {is : List Nat} : wipeE (s :: e) (i :: is) = (wipeE (s :: e) is).set i none := rfl
@[simp] theorem backE_nil {e0 : En} : backE e0 [] e = e := rfl
@[simp] theorem backE_cons {e0 : En} {is : List Nat} : backE (s :: e0) (i :: is) e = match (s :: e0)[i]? with
    | some t => (backE (s :: e0) is e).set i t
    | none => backE (s :: e0) is e := rfl
@[simp] theorem stands_nil {e0 : En} : stands e0 [] e = True := rfl
@[simp] theorem stands_sl {e0 : En} {ps : List PV} : stands e0 (.sl i :: ps) e = (e[i]? = e0[i]? ∧ stands e0 ps e) := rfl
@[simp] theorem stands_r {e0 : En} {ps : List PV} : stands e0 (.r r :: ps) e = stands e0 ps e := rfl
@[simp] theorem forL_nil {turn : PyData → En → SR} : forL turn [] e = .nx e := rfl
def finA (args : En) : SR → Rs R
  | .nx e => (match backArgs args e with
      | some t => .ok (.v .none) t
      | none => .no)
  | .rt r e => (match backArgs args e with
      | some t => .ok r t
      | none => .no)
  | .ex x e => (match backArgs args e with
      | some t => .ex x t
      | none => .no)
  | _ => .no
@[simp] theorem finA_nx {args : En} : finA args (.nx e) = match backArgs args e with
      | some t => .ok (.v .none) t
      | none => .no := rfl
@[simp] theorem finA_rt {args : En} : finA args (.rt r e) = match backArgs args e with
      | some t => .ok r t
      | none => .no := rfl
@[simp] theorem finA_ex {args : En} {x : Xc} : finA args (.ex x e) = match backArgs args e with
      | some t => .ex x t
      | none => .no := rfl
theorem runF_S {cs : Nat → Option PyData} {FT : Nat → Fn} {fu np n : Nat} {body : CSs} {args : En} (h : args.length = np ∧ args.all isArg = true) : (runF cs FT fu np n body).S args = finA args (evSs cs FT fu body (args ++ List.replicate n none)) := by
  show (if _ then _ else _) = _
  rw [if_pos h]
  cases evSs cs FT fu body (args ++ List.replicate n none) <;> rfl
@[simp] theorem backArgs_nil : backArgs [] e = some [] := rfl
@[simp] theorem backArgs_val {as : En} : backArgs (some (.val d) :: as) (s :: e) = (backArgs as e).map (some (.val d) :: ·) := rfl
@[simp] theorem backArgs_bor {as : En} {c' : Cel} : backArgs (some (.bor c) :: as) (some (.bor c') :: e) = (backArgs as e).map (some (.bor c') :: ·) := rfl
@[simp] theorem callS_cons {f : Fn} {as : List Ar} : callS f as (s :: e) = match mkArgs as (s :: e), lentOnce as && as.length == f.np with
  | some t, true => (match f.S t with
    | .no => .no
    | .ok r t' => (match putBack as t' (s :: e) with
      | some e => .ok (.r r) e
      | none => .no)
    | .ex x t' => (match putBack as t' (s :: e) with
      | some e => .ex x e
      | none => .no))
  | _, _ => .no := rfl
@[simp] theorem mkArgs_nil : mkArgs [] e = some [] := rfl
@[simp] theorem mkArgs_d {as : List Ar} : mkArgs (.d d :: as) (s :: e) = match mkArgs as (s :: e) with
  | some t => some (some (.val d) :: t)
  | none => none := by
  rw [mkArgs, mkArg]
  generalize mkArgs as (s :: e) = o
  cases o <;> rfl
@[simp] theorem mkArgs_b {as : List Ar} : mkArgs (.b i :: as) (s :: e) = match (s :: e)[i]? with
  | some (some (.own c)) => (match mkArgs as (s :: e) with
    | some t => some (some (.bor c) :: t)
    | none => none)
  | some (some (.bor c)) => (match mkArgs as (s :: e) with
    | some t => some (some (.bor c) :: t)
    | none => none)
  | _ => none := by
  rw [mkArgs, mkArg]
  generalize mkArgs as (s :: e) = q
  generalize (s :: e)[i]? = o
  cases o with
  | none => rfl
  | some t =>
    cases t with
    | none => rfl
    | some t =>
      cases t with
      | val d => rfl
      | own c => cases q <;> rfl
      | bor c => cases q <;> rfl
@[simp] theorem putBack_nil {t : En} : putBack [] t e = some e := rfl
@[simp] theorem putBack_d {as : List Ar} {t : En} : putBack (.d d :: as) (s' :: t) e = putBack as t e := rfl
@[simp] theorem putBack_b {as : List Ar} {t : En} : putBack (.b i :: as) (some (.bor c) :: t) (s :: e) = match (s :: e)[i]? with
  | some (some (.own _)) => putBack as t ((s :: e).set i (some (.own c)))
  | some (some (.bor _)) => putBack as t ((s :: e).set i (some (.bor c)))
  | _ => none := by
  rw [putBack, putBack1]
  generalize (s :: e)[i]? = o
  cases o with
  | none => rfl
  | some t =>
    cases t with
    | none => rfl
    | some t => cases t <;> rfl
@[simp] theorem lentOnce_nil : lentOnce [] = true := rfl
@[simp] theorem lentOnce_d {as : List Ar} : lentOnce (.d d :: as) = lentOnce as := rfl
@[simp] theorem lentOnce_b {as : List Ar} : lentOnce (.b i :: as) = ((as.all fun a => match a with | .b j => j != i | _ => true) && lentOnce as) := rfl
end
/-! operations -/
section
variable {i j : Int} {x y : Str} {xs ys : List PyData} {d d' : PyData} {b c : Bool}
@[simp] theorem bop_ii : bopD .Add (.int i) (.int j) = some (.v (.int (i + j))) := rfl
@[simp] theorem bop_ll : bopD .Add (.list xs) (.list ys) = if xs.length + ys.length ≤ sizeLine then some (.o (.lst (xs ++ ys))) else none := rfl
@[simp] theorem bop_tt : bopD .Add (.tuple xs) (.tuple ys) = if xs.length + ys.length ≤ sizeLine then some (.v (.tuple (xs ++ ys))) else none := rfl
@[simp] theorem bop_ss : bopD .Add (.str x) (.str y) = if x.length + y.length ≤ sizeLine then some (.v (.str (x ++ y))) else none := rfl
@[simp] theorem bop_sub : bopD .Sub (.int i) (.int j) = some (.v (.int (i - j))) := rfl
theorem bop_mul : bopD .Mult (.int i) (.int j) = if (i.natAbs < 2 ^ 200 ∧ j.natAbs < 2 ^ 200) ∨ i.natAbs.log2 + j.natAbs.log2 < 1000000 then some (.v (.int (i * j))) else none := rfl
theorem bop_mul' (h1 : i.natAbs < 2 ^ 200) (h2 : j.natAbs < 2 ^ 200) : bopD .Mult (.int i) (.int j) = some (.v (.int (i * j))) := by rw [bop_mul, if_pos (.inl ⟨h1, h2⟩)]
theorem bop_fdiv (h : 0 < j) (h2 : j < 2 ^ 200) : bopD .FloorDiv (.int i) (.int j) = some (.v (.int (i / j))) := by
  show (if _ then _ else _) = _
  rw [if_pos ⟨h, .inl h2⟩]
theorem bop_mod (h : 0 < j) : bopD .Mod (.int i) (.int j) = some (.v (.int (i % j))) := by
  show (if _ then _ else _) = _
  rw [if_pos h]
theorem bop_pow (h : 0 ≤ j ∧ j ≤ 1000000 ∧ i.natAbs < 2 ^ 64) : bopD .Pow (.int i) (.int j) = some (.v (.int (i ^ j.toNat))) := by
  show (if _ then _ else _) = _
  rw [if_pos h]
@[simp] theorem cmpR_eq {op : CmpOp} : cmpR op d d' = (cmpD op d d').map fun b => .v (.bool b) := rfl
@[simp] theorem cmp_eq : cmpD .Eq d d' = eqD d d' := rfl
@[simp] theorem cmp_ne : cmpD .NotEq d d' = (eqD d d').map not := rfl
@[simp] theorem cmp_lt : cmpD .Lt (.int i) (.int j) = some (decide (i < j)) := rfl
@[simp] theorem cmp_gt : cmpD .Gt (.int i) (.int j) = some (decide (j < i)) := rfl
@[simp] theorem cmp_le : cmpD .LtE (.int i) (.int j) = some (decide (i ≤ j)) := rfl
@[simp] theorem cmp_ge : cmpD .GtE (.int i) (.int j) = some (decide (j ≤ i)) := rfl
@[simp] theorem cmp_is : cmpD .Is d .none = some (isNoneD d) := by cases d <;> rfl
@[simp] theorem cmp_isn : cmpD .IsNot d .none = some (!isNoneD d) := by cases d <;> rfl
@[simp] theorem cmp_in : cmpD .In d d' = inD d d' := rfl
@[simp] theorem cmp_nin : cmpD .NotIn d d' = (inD d d').map not := rfl
@[simp] theorem isN_n : isNoneD .none = true := rfl
@[simp] theorem isN_i : isNoneD (.int i) = false := rfl
@[simp] theorem isN_l : isNoneD (.list xs) = false := rfl
@[simp] theorem isN_t : isNoneD (.tuple xs) = false := rfl
@[simp] theorem eq_ii : eqD (.int i) (.int j) = some (decide (i = j)) := by
  unfold eqD
  rw [if_pos ⟨rfl, rfl⟩]
  show some (i == j) = _
  rw [Bool.beq_eq_decide_eq]
@[simp] theorem idx_l : idxD (.list xs) (.int i) = (atI xs i).map .v := rfl
@[simp] theorem idx_t : idxD (.tuple xs) (.int i) = (atI xs i).map .v := rfl
@[simp] theorem idx_ro : idxD (roL xs) (.int i) = (atI xs i).map .v := rfl
@[simp] theorem len_l : biD .len [.list xs] = some (.v (.int xs.length)) := rfl
@[simp] theorem len_t : biD .len [.tuple xs] = some (.v (.int xs.length)) := rfl
@[simp] theorem len_ro : biD .len [roL xs] = some (.v (.int xs.length)) := rfl
@[simp] theorem bi_max : biD .max [.int i, .int j] = some (.v (.int (if j > i then j else i))) := rfl
@[simp] theorem bi_min : biD .min [.int i, .int j] = some (.v (.int (if j < i then j else i))) := rfl
@[simp] theorem bi_abs : biD .abs [.int i] = some (.v (.int (if i < 0 then -i else i))) := rfl
@[simp] theorem bi_divmod : biD .divmod [.int i, .int j] = if 0 < j ∧ j < 1073741824 then some (.v (.tuple [.int (i / j), .int (i % j)])) else none := rfl
@[simp] theorem bi_all : biD .all [.list xs] = (boolsD xs).map fun bs => .v (.bool (bs.all id)) := rfl
@[simp] theorem bi_any : biD .any [.list xs] = (boolsD xs).map fun bs => .v (.bool (bs.any id)) := rfl
@[simp] theorem bi_sum : biD .sum [.list xs] = (intsD xs).map fun ns => .v (.int ns.sum) := rfl
@[simp] theorem bi_tupL : biD .tuple [.list xs] = some (.v (.tuple xs)) := rfl
@[simp] theorem bi_tupT : biD .tuple [.tuple xs] = some (.v (.tuple xs)) := rfl
@[simp] theorem bi_lstL : biD .list [.list xs] = some (.o (.lst xs)) := rfl
@[simp] theorem bi_lstT : biD .list [.tuple xs] = some (.o (.lst xs)) := rfl
@[simp] theorem bi_sortL : biD .sorted [.list xs] = (intsD xs).map fun ns => .o (.lst ((sortI ns).map .int)) := rfl
@[simp] theorem bi_sortT : biD .sorted [.tuple xs] = (intsD xs).map fun ns => .o (.lst ((sortI ns).map .int)) := rfl
@[simp] theorem bi_sortRL : biD .sortedR [.list xs] = (intsD xs).map fun ns => .o (.lst ((sortI ns).reverse.map .int)) := rfl
@[simp] theorem bi_sortRT : biD .sortedR [.tuple xs] = (intsD xs).map fun ns => .o (.lst ((sortI ns).reverse.map .int)) := rfl
@[simp] theorem bi_lrange : biD .listRange [.int i] = if 0 ≤ i ∧ i ≤ 1000000 then some (.o (.lst ((List.range i.toNat).map fun (k : Nat) => .int (k : Int)))) else none := rfl
@[simp] theorem slc_l {lo hi : Option Int} : slcD (.list xs) lo hi = some (.o (.lst (cutD xs lo hi))) := rfl
@[simp] theorem slc_t {lo hi : Option Int} : slcD (.tuple xs) lo hi = some (.v (.tuple (cutD xs lo hi))) := rfl
@[simp] theorem rev_l : revD (.list xs) = some (.o (.lst xs.reverse)) := rfl
@[simp] theorem isi_int {t : Ty} : isiD t (.int i) = some (.v (.bool (isTy t (.int i)))) := rfl
@[simp] theorem isi_bool {t : Ty} : isiD t (.bool b) = some (.v (.bool (isTy t (.bool b)))) := rfl
@[simp] theorem isi_tup {t : Ty} : isiD t (.tuple xs) = some (.v (.bool (isTy t (.tuple xs)))) := rfl
@[simp] theorem isi_list {t : Ty} : isiD t (.list xs) = some (.v (.bool (isTy t (.list xs)))) := rfl
@[simp] theorem isi_none {t : Ty} : isiD t .none = some (.v (.bool (isTy t .none))) := rfl
@[simp] theorem isi_str {t : Ty} : isiD t (.str x) = some (.v (.bool (isTy t (.str x)))) := rfl
@[simp] theorem ty_ii : isTy .int (.int i) = true := rfl
@[simp] theorem ty_ib : isTy .int (.bool b) = true := rfl
@[simp] theorem ty_bb : isTy .bool (.bool b) = true := rfl
@[simp] theorem ty_bi : isTy .bool (.int i) = false := rfl
@[simp] theorem ty_bn : isTy .bool .none = false := rfl
@[simp] theorem ty_in : isTy .int .none = false := rfl
@[simp] theorem ty_tt : isTy .tuple (.tuple xs) = true := rfl
@[simp] theorem ty_ll : isTy .list (.list xs) = true := rfl
@[simp] theorem items_l : itemsD (.list xs) = some xs := rfl
@[simp] theorem items_t : itemsD (.tuple xs) = some xs := rfl
@[simp] theorem zip_ll : zipItems (.list xs) (.list ys) = some (zipD xs ys) := rfl
@[simp] theorem zip_tt : zipItems (.tuple xs) (.tuple ys) = some (zipD xs ys) := rfl
@[simp] theorem enum_l : enumItems (.list xs) = some (enumD xs) := rfl
@[simp] theorem mu_app : muD .append xs [d] = if xs.length < sizeLine then some (.none, xs ++ [d]) else none := rfl
@[simp] theorem mu_ext : muD .extend xs [.list ys] = if xs.length + ys.length ≤ sizeLine then some (.none, xs ++ ys) else none := rfl
@[simp] theorem mu_clr : muD .clear xs [] = some (.none, []) := rfl
theorem range1_ok (h : inR62 i) : range1D (.int i) = some (rangeD 0 i) := by
  show (if _ then _ else _) = _
  rw [if_pos h]
theorem range2_ok (h : inR62 i) (h2 : inR62 j) : range2D (.int i) (.int j) = some (rangeD i j) := by
  show (if _ then _ else _) = _
  rw [if_pos ⟨h, h2⟩]
@[simp] theorem intsD_nil : intsD [] = some [] := rfl
@[simp] theorem intsD_ints : ∀ ns : List Int, intsD (ns.map PyData.int) = some ns
  | [] => rfl
  | n :: ns => by
    show (intsD (ns.map PyData.int)).map (n :: ·) = _
    rw [intsD_ints ns]; rfl
@[simp] theorem boolsD_bools : ∀ ns : List Bool, boolsD (ns.map PyData.bool) = some ns
  | [] => rfl
  | n :: ns => by
    show (boolsD (ns.map PyData.bool)).map (n :: ·) = _
    rw [boolsD_bools ns]; rfl
theorem sl_lt {n : Nat} (h : n < 16777216) : n < sizeLine := by rw [sizeLine_eq]; exact h
theorem sl_le {n : Nat} (h : n ≤ 16777216) : n ≤ sizeLine := by rw [sizeLine_eq]; exact h
end
theorem forL_inv {turn : PyData → En → SR} {I : List PyData → En → Prop} (hs : ∀ x xs e, I (x :: xs) e → ∃ e', (turn x e = .nx e' ∨ turn x e = .ct e') ∧ I xs e') : ∀ {items : List PyData} {e : En}, I items e → ∃ e', forL turn items e = .nx e' ∧ I [] e'
  | [], e, h => ⟨e, rfl, h⟩
  | x :: xs, e, h => by
    obtain ⟨e1, h1, h2⟩ := hs x xs e h
    obtain ⟨e2, h3, h4⟩ := forL_inv hs h2
    refine ⟨e2, ?_, h4⟩
    unfold forL
    rcases h1 with h1 | h1
    · rw [h1]; exact h3
    · rw [h1]; exact h3
/-- with an end amid -/
theorem forL_or {turn : PyData → En → SR} {I : List PyData → En → Prop} {G : SR → Prop} (hs : ∀ x xs e, I (x :: xs) e → (∃ e', (turn x e = .nx e' ∨ turn x e = .ct e') ∧ I xs e') ∨ (∃ r e', turn x e = .rt r e' ∧ G (.rt r e')) ∨ (∃ r e', turn x e = .ex r e' ∧ G (.ex r e'))) :
    ∀ {items : List PyData} {e : En}, I items e → (∃ e', forL turn items e = .nx e' ∧ I [] e') ∨ (∃ r e', forL turn items e = .rt r e' ∧ G (.rt r e')) ∨ (∃ r e', forL turn items e = .ex r e' ∧ G (.ex r e'))
  | [], e, h => .inl ⟨e, rfl, h⟩
  | x :: xs, e, h => by
    rcases hs x xs e h with ⟨e1, h1, h2⟩ | ⟨r, e1, h1, h2⟩ | ⟨r, e1, h1, h2⟩
    · have q := forL_or hs h2
      unfold forL
      rcases h1 with h1 | h1
      · rw [h1]; exact q
      · rw [h1]; exact q
    · refine .inr (.inl ⟨r, e1, ?_, h2⟩)
      unfold forL
      rw [h1]
    · refine .inr (.inr ⟨r, e1, ?_, h2⟩)
      unfold forL
      rw [h1]
/-- a comprehension whose turns leave all as it is -/
theorem compL_map {turn : PyData → En → Rs (Option PyData)} {g : En → Prop} {e : En} {f : PyData → Option PyData} (hg : g e) : ∀ {items acc : List PyData}, (∀ x ∈ items, turn x e = .ok (f x) e) → acc.length + items.length ≤ sizeLine → compL turn g items acc e = .ok (acc ++ items.filterMap f) e
  | [], acc, _, _ => by
    unfold compL
    rw [if_pos hg]
    simp
  | x :: xs, acc, h, hz => by
    unfold compL
    rw [if_pos hg, h x List.mem_cons_self]
    simp only [Rs.bind_ok]
    rw [List.length_cons] at hz
    cases hf : f x with
    | none =>
      dsimp only
      rw [compL_map hg (fun y hy => h y (List.mem_cons_of_mem _ hy)) (by omega)]
      simp [hf]
    | some d =>
      dsimp only
      rw [if_pos (by omega), compL_map hg (fun y hy => h y (List.mem_cons_of_mem _ hy)) (by rw [List.length_append]; simp; omega)]
      simp [hf]
end Ev

/-! Ev, part T: plain facts that many texts want. -/
namespace Ev
open PySem L2
@[simp] theorem isArg_val {d : PyData} : isArg (some (.val d)) = true := rfl
@[simp] theorem isArg_bor {c : Cel} : isArg (some (.bor c)) = true := rfl
def prodI : List Int → Int
  | [] => 1
  | n :: ns => n * prodI ns
theorem prodI_pos : ∀ {ns : List Int}, (∀ n ∈ ns, 1 ≤ n) → 1 ≤ prodI ns
  | [], _ => by decide
  | n :: ns, h => by
    have h1 := h n List.mem_cons_self
    have h2 := prodI_pos fun x hx => h x (List.mem_cons_of_mem n hx)
    show 1 ≤ n * prodI ns
    have := Int.mul_le_mul h1 h2 (by decide) (by omega)
    omega
theorem prodI_append : ∀ (a b : List Int), prodI (a ++ b) = prodI a * prodI b
  | [], b => by simp [prodI]
  | n :: a, b => by
    rw [List.cons_append, prodI, prodI, prodI_append a b, Int.mul_assoc]
theorem le_mul_of {a b : Int} (ha : 1 ≤ a) (hb : 1 ≤ b) : a ≤ a * b := by
  have := Int.mul_le_mul_of_nonneg_left hb (show 0 ≤ a by omega)
  omega
/-- products by a loop -/
theorem map_nil_iff {α β : Type} {f : α → β} {l : List α} (h : [] = l.map f) : l = [] := by
  cases l with
  | nil => rfl
  | cons _ _ => cases h
structure Shape (ns : List Int) : Prop where
  ne : ns ≠ []
  len : ns.length ≤ 8
  el : ∀ n ∈ ns, 2 ≤ n ∧ n ≤ 9
  pr : prodI ns ≤ 256
theorem Shape.pos {ns : List Int} (h : Shape ns) : ∀ n ∈ ns, 1 ≤ n := fun n hn => by
  have := h.el n hn
  omega
theorem all_true {bs : List Bool} (h : ∀ b ∈ bs, b = true) : bs.all id = true := by
  rw [List.all_eq_true]
  exact h
theorem boolsD_rep {α : Type} (f : α → Bool) (l : List α) : boolsD (l.map fun x => .bool (f x)) = some (l.map f) := by
  rw [show (l.map fun x => PyData.bool (f x)) = (l.map f).map PyData.bool by rw [List.map_map]; rfl]
  exact boolsD_bools _
theorem filterMap_some {α β : Type} (f : α → β) (l : List α) : l.filterMap (fun x => some (f x)) = l.map f := by
  induction l with
  | nil => rfl
  | cons x l ih => simp [ih]
/-- a comprehension over data of one kind -/
theorem compL_all {α : Type} {turn : PyData → En → Rs (Option PyData)} {g : En → Prop} {e : En} {mk : α → PyData} {f : α → PyData} {items : List α} (hg : g e) (h : ∀ x ∈ items, turn (mk x) e = .ok (some (f x)) e) (hl : items.length ≤ 16777216) : compL turn g (items.map mk) [] e = .ok (items.map f) e := by
  have aux : ∀ (l : List α) (acc : List PyData), (∀ x ∈ l, turn (mk x) e = .ok (some (f x)) e) → acc.length + l.length ≤ sizeLine → compL turn g (l.map mk) acc e = .ok (acc ++ l.map f) e := by
    intro l
    induction l with
    | nil =>
      intro acc _ _
      unfold compL
      rw [List.map_nil]
      simp [hg]
    | cons x l ih =>
      intro acc h1 h2
      rw [List.length_cons] at h2
      rw [List.map_cons]
      unfold compL
      rw [if_pos hg, h1 x List.mem_cons_self]
      simp only [Rs.bind_ok]
      rw [if_pos (by omega), ih _ (fun y hy => h1 y (List.mem_cons_of_mem _ hy)) (by rw [List.length_append]; simp; omega)]
      simp
  rw [aux items [] h (by simpa using sl_le hl)]
  simp
/-- the same with some left out -/
theorem compL_some {α : Type} {turn : PyData → En → Rs (Option PyData)} {g : En → Prop} {e : En} {mk : α → PyData} {f : α → Option PyData} {items : List α} (hg : g e) (h : ∀ x ∈ items, turn (mk x) e = .ok (f x) e) (hl : items.length ≤ 16777216) : compL turn g (items.map mk) [] e = .ok (items.filterMap f) e := by
  have aux : ∀ (l : List α) (acc : List PyData), (∀ x ∈ l, turn (mk x) e = .ok (f x) e) → acc.length + l.length ≤ sizeLine → compL turn g (l.map mk) acc e = .ok (acc ++ l.filterMap f) e := by
    intro l
    induction l with
    | nil =>
      intro acc _ _
      unfold compL
      rw [List.map_nil]
      simp [hg]
    | cons x l ih =>
      intro acc h1 h2
      rw [List.length_cons] at h2
      rw [List.map_cons]
      unfold compL
      rw [if_pos hg, h1 x List.mem_cons_self]
      simp only [Rs.bind_ok]
      cases hf : f x with
      | none =>
        dsimp only
        rw [ih _ (fun y hy => h1 y (List.mem_cons_of_mem _ hy)) (by omega)]
        simp [hf]
      | some d =>
        dsimp only
        rw [if_pos (by omega), ih _ (fun y hy => h1 y (List.mem_cons_of_mem _ hy)) (by rw [List.length_append]; simp; omega)]
        simp [hf]
  rw [aux items [] h (by simpa using sl_le hl)]
  simp
theorem inR_small {i : Int} (h : -1000000000 ≤ i ∧ i ≤ 1000000000) : inR62 i := by
  unfold inR62
  omega
theorem atI_get {α : Type} {l : List α} {i : Int} {k : Nat} {x : α} (hi : i = (k : Int)) (h : l[k]? = some x) : atI l i = some x := by
  subst hi
  exact atI_nat h
@[simp] theorem all_tt {α : Type} (l : List α) : (l.all fun _ => true) = true := by
  rw [List.all_eq_true]
  exact fun _ _ => rfl
/-- a walk over data of one kind; b is what the state hangs on -/
theorem forL_st {α β : Type} {turn : PyData → En → SR} (mk : α → PyData) (st : β → En) (P : List α → β → Prop) (hs : ∀ x xs b, P (x :: xs) b → ∃ b', turn (mk x) (st b) = .nx (st b') ∧ P xs b') : ∀ (xs : List α) (b : β), P xs b → ∃ b', forL turn (xs.map mk) (st b) = .nx (st b') ∧ P [] b'
  | [], b, h => ⟨b, rfl, h⟩
  | x :: xs, b, h => by
    obtain ⟨b1, h1, h2⟩ := hs x xs b h
    obtain ⟨b2, h3, h4⟩ := forL_st mk st P hs xs b1 h2
    refine ⟨b2, ?_, h4⟩
    rw [List.map_cons]
    unfold forL
    rw [h1]
    exact h3
/-- the same with an end amid -/
theorem forL_stE {α β : Type} {turn : PyData → En → SR} (mk : α → PyData) (st : β → En) (P : List α → β → Prop) (G : SR → Prop) (hG : ∀ r e, G (.rt r e) → True) (hs : ∀ x xs b, P (x :: xs) b → (∃ b', turn (mk x) (st b) = .nx (st b') ∧ P xs b') ∨ ∃ r e', turn (mk x) (st b) = .rt r e' ∧ G (.rt r e')) :
    ∀ (xs : List α) (b : β), P xs b → (∃ b', forL turn (xs.map mk) (st b) = .nx (st b') ∧ P [] b') ∨ ∃ r e', forL turn (xs.map mk) (st b) = .rt r e' ∧ G (.rt r e')
  | [], b, h => .inl ⟨b, rfl, h⟩
  | x :: xs, b, h => by
    rcases hs x xs b h with ⟨b1, h1, h2⟩ | ⟨r, e', h1, h2⟩
    · have q := forL_stE mk st P G hG hs xs b1 h2
      rw [List.map_cons]
      unfold forL
      rw [h1]
      exact q
    · refine .inr ⟨r, e', ?_, h2⟩
      rw [List.map_cons]
      unfold forL
      rw [h1]
theorem cut_from {ds : List PyData} {i : Int} (h : 0 ≤ i) : cutD ds (some i) none = ds.drop i.toNat := by
  unfold cutD
  have e1 : HT.sIx ds.length 0 (some i) = min i.toNat ds.length := by
    have := HT.sIx_nat ds.length 0 i.toNat
    rwa [Int.toNat_of_nonneg h] at this
  rw [e1, HT.sIx_none]
  by_cases hi : i.toNat ≤ ds.length
  · rw [Nat.min_eq_left hi, List.take_of_length_le (by rw [List.length_drop]; omega)]
  · rw [Nat.min_eq_right (by omega), List.drop_length, List.drop_eq_nil_of_le (by omega)]
    simp
theorem cut_to {ds : List PyData} {i : Int} (h : 0 ≤ i) : cutD ds none (some i) = ds.take i.toNat := by
  unfold cutD
  have e1 : HT.sIx ds.length ds.length (some i) = min i.toNat ds.length := by
    have := HT.sIx_nat ds.length ds.length i.toNat
    rwa [Int.toNat_of_nonneg h] at this
  rw [e1, HT.sIx_none, List.drop_zero, Nat.sub_zero]
  by_cases hi : i.toNat ≤ ds.length
  · rw [Nat.min_eq_left hi]
  · rw [Nat.min_eq_right (by omega), List.take_of_length_le (by omega), List.take_of_length_le (by omega)]
theorem zipD_map {α β : Type} (f : α → PyData) (g : β → PyData) (a : List α) (b : List β) : zipD (a.map f) (b.map g) = (a.zip b).map fun p => .tuple [f p.1, g p.2] := by
  unfold zipD
  rw [List.zip_map, List.map_map]
  rfl
theorem enumD_map {α : Type} (f : α → PyData) (a : List α) : enumD (a.map f) = a.zipIdx.map fun p => .tuple [.int (p.2 : Int), f p.1] := by
  unfold enumD
  rw [List.zipIdx_map, List.map_map]
  rfl
theorem lay_ints : ∀ ns : List Int, PyData.canLayAll0 (ns.map PyData.int) = true ∧ PyData.depthAll (ns.map PyData.int) = 0
  | [] => ⟨rfl, rfl⟩
  | n :: ns => by
    obtain ⟨h1, h2⟩ := lay_ints ns
    exact ⟨by simp [PyData.canLayAll0, PyData.canLay0, h1], by simp [PyData.depthAll, PyData.depth, h2]⟩
theorem shaped_ints (ns : List Int) : SeqAt.shaped (.list (ns.map PyData.int)) = true ∧ SeqAt.shaped (.tuple (ns.map PyData.int)) = true := by
  obtain ⟨h1, h2⟩ := lay_ints ns
  unfold SeqAt.shaped
  simp [PyData.canLay0, PyData.depth, h1, h2]
theorem eqvAll_ints : ∀ a b : List Int, PyData.eqvAll (a.map PyData.int) (b.map PyData.int) = decide (a = b)
  | [], [] => rfl
  | [], _ :: _ => rfl
  | _ :: _, [] => rfl
  | x :: a, y :: b => by
    simp only [List.map_cons, PyData.eqvAll, PyData.eqv, eqvAll_ints a b]
    by_cases h : x = y <;> by_cases k : a = b <;> simp [h, k]
theorem eq_lints (a b : List Int) : eqD (.list (a.map .int)) (.list (b.map .int)) = some (decide (a = b)) := by
  unfold eqD
  rw [if_pos ⟨(shaped_ints a).1, (shaped_ints b).1⟩]
  simp only [PyData.eqv, eqvAll_ints]
theorem eq_lnil (a : List Int) : eqD (.list (a.map .int)) (.list []) = some (decide (a = [])) := eq_lints a []
@[simp] theorem eq_nn : eqD .none .none = some true := rfl
@[simp] theorem eq_ni {i : Int} : eqD .none (.int i) = some false := rfl
@[simp] theorem eq_in {i : Int} : eqD (.int i) .none = some false := rfl
end Ev

/-! k81: the plain law. -/
namespace M81
open Ev
def cnt (t : Int) (l : List Int) : Nat := l.countP fun x => decide (t ≤ x)
theorem cnt_cons (t x : Int) (l : List Int) : cnt t (x :: l) = (if t ≤ x then 1 else 0) + cnt t l := by
  unfold cnt
  rw [List.countP_cons]
  by_cases h : t ≤ x
  · simp [h]; omega
  · simp [h]
theorem cnt_nil (t : Int) : cnt t [] = 0 := rfl
theorem cnt_append (t : Int) (a b : List Int) : cnt t (a ++ b) = cnt t a + cnt t b := List.countP_append
theorem cnt_perm {a b : List Int} (h : a.Perm b) (t : Int) : cnt t a = cnt t b := h.countP_eq _
theorem cnt_le (t : Int) (l : List Int) : cnt t l ≤ l.length := List.countP_le_length
theorem cnt_none {t : Int} {l : List Int} (h : ∀ x ∈ l, x < t) : cnt t l = 0 := by
  unfold cnt
  rw [List.countP_eq_zero]
  intro x hx
  have := h x hx
  simp
  omega
theorem cnt_all {t : Int} {l : List Int} (h : ∀ x ∈ l, t ≤ x) : cnt t l = l.length := by
  unfold cnt
  rw [List.countP_eq_length]
  intro x hx
  simpa using h x hx
theorem cnt_mono {t u : Int} (h : t ≤ u) : ∀ l : List Int, cnt u l ≤ cnt t l
  | [] => Nat.le_refl _
  | x :: l => by
    rw [cnt_cons, cnt_cons]
    have := cnt_mono h l
    split <;> split <;> omega
def Cov (L own : List Int) : Prop := ∀ t, cnt t L ≤ cnt t own
theorem cov_nil (own : List Int) : Cov [] own := fun t => Nat.zero_le _
theorem cov_perm {L L' own own' : List Int} (h : L.Perm L') (h2 : own.Perm own') (c : Cov L own) : Cov L' own' := fun t => by
  rw [← cnt_perm h, ← cnt_perm h2]
  exact c t
theorem cov_cons {x y : Int} {L own : List Int} (h : x ≤ y) (c : Cov L own) : Cov (x :: L) (y :: own) := fun t => by
  rw [cnt_cons, cnt_cons]
  have := c t
  split <;> split <;> omega
theorem cov_app {a b c d : List Int} (h : Cov a c) (k : Cov b d) : Cov (a ++ b) (c ++ d) := fun t => by
  rw [cnt_append, cnt_append]
  exact Nat.add_le_add (h t) (k t)
def V (oth own : List Int) (m : Nat) (v : Int) : Prop := ∃ Bl Mt R : List Int, oth.Perm (Bl ++ (Mt ++ R)) ∧ Bl.length ≤ m ∧ Cov Mt own ∧ v = prodI R
theorem V.perm {oth oth' own own' : List Int} {m : Nat} {v : Int} (h : oth.Perm oth') (h2 : own.Perm own') (x : V oth own m v) : V oth' own' m v := by
  obtain ⟨Bl, Mt, R, p, l, c, e⟩ := x
  exact ⟨Bl, Mt, R, h.symm.trans p, l, cov_perm (.refl _) h2 c, e⟩
/-- one of own is taken out -/
theorem peel {a : Int} {L own : List Int} (c : Cov L (a :: own)) : Cov L own ∨ ∃ x L', L.Perm (x :: L') ∧ x ≤ a ∧ Cov L' own := by
  by_cases hx : ∃ x ∈ L, x ≤ a
  · -- the greatest of these
    obtain ⟨x, hx, hm⟩ : ∃ x, (x ∈ L ∧ x ≤ a) ∧ ∀ y ∈ L, y ≤ a → y ≤ x := by
      have aux : ∀ l : List Int, (∃ x ∈ l, x ≤ a) → ∃ x, (x ∈ l ∧ x ≤ a) ∧ ∀ y ∈ l, y ≤ a → y ≤ x := by
        intro l
        induction l with
        | nil => rintro ⟨x, h, _⟩; cases h
        | cons z l ih =>
          intro h
          by_cases hl : ∃ x ∈ l, x ≤ a
          · obtain ⟨x, hx, hm⟩ := ih hl
            by_cases hz : z ≤ a ∧ x < z
            · refine ⟨z, ⟨List.mem_cons_self, hz.1⟩, fun y hy hya => ?_⟩
              rcases List.mem_cons.mp hy with e | hy
              · omega
              · have := hm y hy hya; omega
            · refine ⟨x, ⟨List.mem_cons_of_mem _ hx.1, hx.2⟩, fun y hy hya => ?_⟩
              rcases List.mem_cons.mp hy with e | hy
              · subst e; omega
              · exact hm y hy hya
          · obtain ⟨x, hx, hxa⟩ := h
            rcases List.mem_cons.mp hx with e | hx
            · subst e
              refine ⟨x, ⟨List.mem_cons_self, hxa⟩, fun y hy hya => ?_⟩
              rcases List.mem_cons.mp hy with e | hy
              · omega
              · exact absurd ⟨y, hy, hya⟩ hl
            · exact absurd ⟨x, hx, hxa⟩ hl
      exact aux L hx
    refine .inr ⟨x, L.erase x, List.perm_cons_erase hx.1, hx.2, fun t => ?_⟩
    have p := List.perm_cons_erase hx.1
    have e1 := cnt_perm p t
    have e2 := c t
    rw [cnt_cons] at e1 e2
    by_cases h1 : t ≤ x
    · rw [if_pos h1] at e1
      rw [if_pos (by omega)] at e2
      omega
    · rw [if_neg h1] at e1
      by_cases h2 : t ≤ a
      · -- none of L between
        have e3 : cnt t L = cnt (a + 1) L := by
          have aux : ∀ l : List Int, (∀ y ∈ l, y ∈ L) → cnt t l = cnt (a + 1) l := by
            intro l
            induction l with
            | nil => intro _; rfl
            | cons y l ih =>
              intro h
              rw [cnt_cons, cnt_cons, ih fun z hz => h z (List.mem_cons_of_mem _ hz)]
              have := h y List.mem_cons_self
              by_cases hy : y ≤ a
              · have := hm y this hy
                rw [if_neg (by omega), if_neg (by omega)]
              · rw [if_pos (by omega), if_pos (by omega)]
          exact aux L fun _ h => h
        have e4 := c (a + 1)
        rw [cnt_cons, if_neg (by omega)] at e4
        have := cnt_mono (show t ≤ a + 1 by omega) own
        omega
      · rw [if_neg h2] at e2
        omega
  · refine .inl fun t => ?_
    have e2 := c t
    rw [cnt_cons] at e2
    by_cases h2 : t ≤ a
    · have e3 : cnt t L = cnt (a + 1) L := by
        rw [cnt_all fun x hx' => ?_, cnt_all fun x hx' => ?_]
        · have : ¬ x ≤ a := fun z => hx ⟨x, hx', z⟩
          omega
        · have : ¬ x ≤ a := fun z => hx ⟨x, hx', z⟩
          omega
      have e4 := c (a + 1)
      rw [cnt_cons, if_neg (by omega)] at e4
      have := cnt_mono (show t ≤ a + 1 by omega) own
      omega
    · rw [if_neg h2] at e2
      omega
theorem cov_split : ∀ {A B L : List Int}, Cov L (A ++ B) → ∃ L1 L2, L.Perm (L1 ++ L2) ∧ Cov L1 A ∧ Cov L2 B
  | [], B, L, c => ⟨[], L, .refl _, cov_nil _, c⟩
  | a :: A, B, L, c => by
    rcases peel (own := A ++ B) c with c | ⟨x, L', p, hx, c⟩
    · obtain ⟨L1, L2, q, c1, c2⟩ := cov_split c
      refine ⟨L1, L2, q, fun t => ?_, c2⟩
      have := c1 t
      rw [cnt_cons]
      omega
    · obtain ⟨L1, L2, q, c1, c2⟩ := cov_split c
      exact ⟨x :: L1, L2, p.trans (q.cons x), cov_cons hx c1, c2⟩
theorem prodI_perm {a b : List Int} (h : a.Perm b) : prodI a = prodI b := by
  induction h with
  | nil => rfl
  | cons x _ ih => simp only [prodI, ih]
  | swap x y l => simp only [prodI]; rw [← Int.mul_assoc, ← Int.mul_assoc, Int.mul_comm y x]
  | trans _ _ h1 h2 => exact h1.trans h2
theorem cov_prod : ∀ {own L : List Int}, Cov L own → (∀ x ∈ L, 1 ≤ x) → (∀ x ∈ own, 1 ≤ x) → prodI L ≤ prodI own
  | [], L, c, hL, _ => by
    have h := c 1
    rw [cnt_all hL, cnt_nil] at h
    have : L = [] := List.eq_nil_of_length_eq_zero (by omega)
    subst this
    exact Int.le_refl _
  | a :: own, L, c, hL, ho => by
    have ha := ho a List.mem_cons_self
    have ho' : ∀ x ∈ own, 1 ≤ x := fun x hx => ho x (List.mem_cons_of_mem _ hx)
    have hp := prodI_pos ho'
    rcases peel c with c | ⟨x, L', p, hx, c⟩
    · have := cov_prod c hL ho'
      have := le_mul_of hp ha
      rw [Int.mul_comm] at this
      show _ ≤ a * prodI own
      omega
    · have hL' : ∀ y ∈ L', 1 ≤ y := fun y hy => hL y (p.mem_iff.mpr (List.mem_cons_of_mem _ hy))
      have hx1 := hL x (p.mem_iff.mpr List.mem_cons_self)
      have := cov_prod c hL' ho'
      have hq := prodI_pos hL'
      rw [prodI_perm p]
      show x * prodI L' ≤ a * prodI own
      exact Int.mul_le_mul hx this (by omega) (by omega)
theorem cov_len {L own : List Int} (c : Cov L own) (h : ∀ x ∈ L, 1 ≤ x) : L.length ≤ own.length := by
  have := c 1
  rw [cnt_all h] at this
  have := cnt_le 1 own
  omega
/-- by way of the middle one -/
theorem tri {one mid oth : List Int} {m1 m2 : Nat} {v1 v2 : Int} (h1 : V mid one m1 v1) (h2 : V oth mid m2 v2) (hm : ∀ x ∈ mid, 1 ≤ x) (ho : ∀ x ∈ oth, 1 ≤ x) : ∃ v, V oth one (m1 + m2) v ∧ v ≤ v1 * v2 := by
  obtain ⟨B1, M1, R1, p1, l1, c1, rfl⟩ := h1
  obtain ⟨B2, M2, R2, p2, l2, c2, rfl⟩ := h2
  obtain ⟨X, Y', q1, d1, d2⟩ := cov_split (cov_perm (.refl _) p1 c2)
  obtain ⟨Y, Z, q2, d3, d4⟩ := cov_split d2
  have mem : ∀ x, x ∈ M2 → x ∈ oth := fun x hx => p2.mem_iff.mpr (by simp [hx])
  have hX : ∀ x ∈ X, 1 ≤ x := fun x hx => ho x (mem x (q1.mem_iff.mpr (by simp [hx])))
  have hZ : ∀ x ∈ Z, 1 ≤ x := fun x hx => ho x (mem x (q1.mem_iff.mpr (by rw [List.mem_append]; exact .inr (q2.mem_iff.mpr (by simp [hx])))))
  have hR1 : ∀ x ∈ R1, 1 ≤ x := fun x hx => hm x (p1.mem_iff.mpr (by simp [hx]))
  have hR2 : ∀ x ∈ R2, 1 ≤ x := fun x hx => ho x (p2.mem_iff.mpr (by simp [hx]))
  refine ⟨prodI (Z ++ R2), ⟨B2 ++ X, Y, Z ++ R2, ?_, ?_, fun t => Nat.le_trans (d3 t) (c1 t), rfl⟩, ?_⟩
  · have q3 : M2.Perm (X ++ (Y ++ Z)) := q1.trans (q2.append_left X)
    refine p2.trans ?_
    have q4 : (B2 ++ (M2 ++ R2)).Perm (B2 ++ ((X ++ (Y ++ Z)) ++ R2)) := (q3.append_right R2).append_left B2
    simpa [List.append_assoc] using q4
  · have := cov_len d1 hX
    rw [List.length_append]
    omega
  · rw [prodI_append]
    have := cov_prod d4 hZ hR1
    have := prodI_pos hR2
    exact Int.mul_le_mul_of_nonneg_right (by assumption) (by omega)
/-! the greedy way -/
def firstGe (s : Int) : List Int → Option Nat
  | [] => none
  | x :: l => if s ≤ x then some 0 else (firstGe s l).map (· + 1)
theorem firstGe_none {s : Int} : ∀ {l : List Int}, firstGe s l = none → ∀ x ∈ l, x < s
  | [], _ => fun x hx => nomatch hx
  | y :: l, h => by
    unfold firstGe at h
    split at h
    · cases h
    · rename_i hy
      intro x hx
      rcases List.mem_cons.mp hx with e | hx
      · omega
      · exact firstGe_none (by simpa using h) x hx
theorem firstGe_some {s : Int} : ∀ {l : List Int} {k : Nat}, firstGe s l = some k → k < l.length ∧ ∃ a, s ≤ a ∧ l.Perm (a :: (l.take k ++ l.drop (k + 1)))
  | [], _, h => by cases h
  | y :: l, k, h => by
    unfold firstGe at h
    split at h
    · rename_i hy
      cases h
      exact ⟨by simp, y, hy, by simp⟩
    · obtain ⟨j, h1, rfl⟩ := Option.map_eq_some_iff.mp h
      obtain ⟨h2, a, h3, h4⟩ := firstGe_some h1
      refine ⟨by simp; omega, a, h3, ?_⟩
      have := h4.cons y
      refine this.trans ?_
      simp only [List.take_succ_cons, List.drop_succ_cons, List.cons_append]
      exact List.Perm.swap _ _ _
def minI2 (a b : Int) : Int := if b < a then b else a
theorem minI2_le (a b : Int) : minI2 a b ≤ a ∧ minI2 a b ≤ b ∧ (minI2 a b = a ∨ minI2 a b = b) := by
  unfold minI2
  split
  · exact ⟨by omega, by omega, .inr rfl⟩
  · exact ⟨by omega, by omega, .inl rfl⟩
def lea : List Int → List Int → Nat → Int
  | [], _, _ => 1
  | s :: ss, own, m =>
    let a := s * lea ss own m
    let b := if 0 < m then minI2 a (lea ss own (m - 1)) else a
    match firstGe s own with
    | none => b
    | some k => minI2 b (lea ss (own.take k ++ own.drop (k + 1)) m)
theorem V_free {s v : Int} {ss own : List Int} {m : Nat} (h : V ss own m v) : V (s :: ss) own m (s * v) := by
  obtain ⟨Bl, Mt, R, p, l, c, rfl⟩ := h
  refine ⟨Bl, Mt, s :: R, ?_, l, c, rfl⟩
  refine (p.cons s).trans ?_
  have q : (s :: (Bl ++ (Mt ++ R))).Perm ((Bl ++ Mt) ++ s :: R) := by
    rw [← List.append_assoc]
    exact List.perm_middle.symm
  simpa [List.append_assoc] using q
theorem V_blind {s v : Int} {ss own : List Int} {m : Nat} (hm : 0 < m) (h : V ss own (m - 1) v) : V (s :: ss) own m v := by
  obtain ⟨Bl, Mt, R, p, l, c, rfl⟩ := h
  exact ⟨s :: Bl, Mt, R, p.cons s, by simp; omega, c, rfl⟩
theorem V_match {s a v : Int} {ss own own' : List Int} {m : Nat} (ha : s ≤ a) (hp : own.Perm (a :: own')) (h : V ss own' m v) : V (s :: ss) own m v := by
  obtain ⟨Bl, Mt, R, p, l, c, rfl⟩ := h
  refine ⟨Bl, s :: Mt, R, (p.cons s).trans ?_, l, cov_perm (.refl _) hp.symm (cov_cons ha c), rfl⟩
  exact List.perm_middle.symm
theorem lea_V : ∀ (ss own : List Int) (m : Nat), V ss own m (lea ss own m)
  | [], own, m => ⟨[], [], [], .refl _, Nat.zero_le _, cov_nil _, rfl⟩
  | s :: ss, own, m => by
    have a := V_free (s := s) (lea_V ss own m)
    have b : V (s :: ss) own m (if 0 < m then minI2 (s * lea ss own m) (lea ss own (m - 1)) else s * lea ss own m) := by
      split
      · rename_i hm
        rcases (minI2_le (s * lea ss own m) (lea ss own (m - 1))).2.2 with e | e <;> rw [e]
        · exact a
        · exact V_blind hm (lea_V ss own (m - 1))
      · exact a
    unfold lea
    dsimp only
    split
    · exact b
    · rename_i k hk
      obtain ⟨h1, x, h2, h3⟩ := firstGe_some hk
      rcases (minI2_le (if 0 < m then minI2 (s * lea ss own m) (lea ss own (m - 1)) else s * lea ss own m) (lea ss (own.take k ++ own.drop (k + 1)) m)).2.2 with e | e <;> rw [e]
      · exact b
      · exact V_match h2 h3 (lea_V ss _ m)
theorem lea_le : ∀ (ss own : List Int) (m : Nat) (v : Int), ss.Pairwise (· ≥ ·) → (∀ x ∈ ss, 1 ≤ x) → V ss own m v → lea ss own m ≤ v
  | [], own, m, v, _, _, h => by
    obtain ⟨Bl, Mt, R, p, l, c, rfl⟩ := h
    have q := p.length_eq
    rw [List.length_append, List.length_append, List.length_nil] at q
    have h3 : R = [] := List.eq_nil_of_length_eq_zero (by omega)
    subst h3
    exact Int.le_refl _
  | s :: ss, own, m, v, hd, hp, h => by
    obtain ⟨Bl, Mt, R, p, l, c, rfl⟩ := h
    have hs := hp s List.mem_cons_self
    have hp' : ∀ x ∈ ss, 1 ≤ x := fun x hx => hp x (List.mem_cons_of_mem _ hx)
    have hd' : ss.Pairwise (· ≥ ·) := (List.pairwise_cons.mp hd).2
    have hmax : ∀ x ∈ s :: ss, x ≤ s := fun x hx => by
      rcases List.mem_cons.mp hx with e | hx
      · omega
      · exact (List.pairwise_cons.mp hd).1 x hx
    have bnd : ∀ k, lea (s :: ss) own m ≤ s * lea ss own m ∧ (0 < m → lea (s :: ss) own m ≤ lea ss own (m - 1)) ∧ (firstGe s own = some k → lea (s :: ss) own m ≤ lea ss (own.take k ++ own.drop (k + 1)) m) := fun k => by
      have z1 : (if 0 < m then minI2 (s * lea ss own m) (lea ss own (m - 1)) else s * lea ss own m) ≤ s * lea ss own m := by
        split
        · exact (minI2_le _ _).1
        · exact Int.le_refl _
      have z2 : 0 < m → (if 0 < m then minI2 (s * lea ss own m) (lea ss own (m - 1)) else s * lea ss own m) ≤ lea ss own (m - 1) := fun hm => by
        rw [if_pos hm]
        exact (minI2_le _ _).2.1
      have el : lea (s :: ss) own m = (match firstGe s own with
        | none => (if 0 < m then minI2 (s * lea ss own m) (lea ss own (m - 1)) else s * lea ss own m)
        | some k => minI2 (if 0 < m then minI2 (s * lea ss own m) (lea ss own (m - 1)) else s * lea ss own m) (lea ss (own.take k ++ own.drop (k + 1)) m)) := by rw [lea]
      rw [el]
      split
      · rename_i hk
        exact ⟨z1, z2, fun z => by rw [hk] at z; cases z⟩
      · rename_i j hk
        have q := minI2_le (if 0 < m then minI2 (s * lea ss own m) (lea ss own (m - 1)) else s * lea ss own m) (lea ss (own.take j ++ own.drop (j + 1)) m)
        exact ⟨Int.le_trans q.1 z1, fun hm => Int.le_trans q.1 (z2 hm), fun z => by rw [hk] at z; cases z; exact q.2.1⟩
    have hin : s ∈ Bl ++ (Mt ++ R) := p.mem_iff.mp List.mem_cons_self
    rcases List.mem_append.mp hin with h1 | h1
    · have q := List.perm_cons_erase h1
      have pp : ss.Perm (Bl.erase s ++ (Mt ++ R)) := (p.trans (q.append_right _)).cons_inv
      have hl : Bl.length = (Bl.erase s).length + 1 := q.length_eq
      have := lea_le ss own (m - 1) _ hd' hp' ⟨Bl.erase s, Mt, R, pp, by omega, c, rfl⟩
      exact Int.le_trans ((bnd 0).2.1 (by omega)) this
    · rcases List.mem_append.mp h1 with h1 | h1
      · have q := List.perm_cons_erase h1
        have pp : ss.Perm (Bl ++ (Mt.erase s ++ R)) := (p.trans (((q.append_right R).append_left Bl).trans List.perm_middle)).cons_inv
        cases hk : firstGe s own with
        | none =>
          have := c s
          rw [cnt_none (firstGe_none hk), cnt_perm q, cnt_cons, if_pos (Int.le_refl _)] at this
          omega
        | some k =>
          obtain ⟨_, a, h2, h3⟩ := firstGe_some hk
          have c' : Cov (Mt.erase s) (own.take k ++ own.drop (k + 1)) := fun t => by
            have e := c t
            rw [cnt_perm q, cnt_perm h3, cnt_cons, cnt_cons] at e
            by_cases ht : t ≤ s
            · rw [if_pos ht, if_pos (by omega)] at e
              omega
            · rw [cnt_none (l := Mt.erase s) fun x hx => ?_]
              · omega
              · have := hmax x (p.mem_iff.mpr (by
                  have := List.mem_of_mem_erase hx
                  simp [this]))
                omega
          have := lea_le ss _ m _ hd' hp' ⟨Bl, Mt.erase s, R, pp, l, c', rfl⟩
          exact Int.le_trans ((bnd k).2.2 hk) this
      · have q := List.perm_cons_erase h1
        have pp : ss.Perm (Bl ++ (Mt ++ R.erase s)) := by
          have z : (Bl ++ (Mt ++ R)).Perm (s :: (Bl ++ (Mt ++ R.erase s))) := by
            have z1 := (q.append_left Mt).append_left Bl
            refine z1.trans ?_
            have z2 : (Bl ++ (Mt ++ s :: R.erase s)).Perm (s :: (Bl ++ (Mt ++ R.erase s))) := by
              rw [← List.append_assoc, ← List.append_assoc]
              exact List.perm_middle
            exact z2
          exact (p.trans z).cons_inv
        have := lea_le ss own m _ hd' hp' ⟨Bl, Mt, R.erase s, pp, l, c, rfl⟩
        have e : prodI R = s * prodI (R.erase s) := prodI_perm q
        rw [e]
        exact Int.le_trans (bnd 0).1 (Int.mul_le_mul_of_nonneg_left this (by omega))
end M81

namespace M81
open Ev
/-! choices -/
def chs {α : Type} : List α → List (List α) → List (List α)
  | [], acc => acc
  | s :: sp, acc => chs sp (acc ++ acc.map fun l => l ++ [s])
theorem chs_map {α β : Type} (f : α → β) : ∀ (sp : List α) (acc : List (List α)), (chs sp acc).map (List.map f) = chs (sp.map f) (acc.map (List.map f))
  | [], acc => rfl
  | s :: sp, acc => by
    rw [chs, chs_map f sp, List.map_cons, chs]
    congr 1
    simp [Function.comp_def]
theorem mem_chs {α : Type} : ∀ {sp : List α} {acc : List (List α)} {l : List α}, l ∈ chs sp acc ↔ ∃ a ∈ acc, ∃ s, s.Sublist sp ∧ l = a ++ s
  | [], acc, l => by
    unfold chs
    constructor
    · intro h
      exact ⟨l, h, [], .slnil, by simp⟩
    · rintro ⟨a, h, s, hs, rfl⟩
      have : s = [] := List.sublist_nil.mp hs
      subst this
      simpa using h
  | x :: sp, acc, l => by
    unfold chs
    rw [mem_chs]
    constructor
    · rintro ⟨a, h, s, hs, rfl⟩
      rcases List.mem_append.mp h with h | h
      · exact ⟨a, h, s, hs.cons x, rfl⟩
      · obtain ⟨b, hb, rfl⟩ := List.mem_map.mp h
        exact ⟨b, hb, x :: s, hs.cons_cons x, by simp⟩
    · rintro ⟨a, h, s, hs, rfl⟩
      cases hs with
      | cons _ hs => exact ⟨a, List.mem_append_left _ h, s, hs, rfl⟩
      | cons_cons _ hs => exact ⟨a ++ [x], List.mem_append_right _ (List.mem_map.mpr ⟨a, h, rfl⟩), _, hs, by simp⟩
theorem sub_split {α : Type} : ∀ {S l : List α}, S.Sublist l → ∃ R, l.Perm (S ++ R)
  | _, _, .slnil => ⟨[], .refl _⟩
  | _, _, .cons (l₂ := l) x h => by
    obtain ⟨R, p⟩ := sub_split h
    exact ⟨x :: R, (p.cons x).trans List.perm_middle.symm⟩
  | _, _, .cons_cons x h => by
    obtain ⟨R, p⟩ := sub_split h
    exact ⟨R, p.cons x⟩
theorem sub_of_perm : ∀ {l A R : List Int}, l.Perm (A ++ R) → ∃ S, S.Sublist l ∧ S.Perm A ∧ l.Perm (S ++ R)
  | [], A, R, p => by
    have q := p.length_eq
    rw [List.length_append, List.length_nil] at q
    have h1 : A = [] := List.eq_nil_of_length_eq_zero (by omega)
    have h2 : R = [] := List.eq_nil_of_length_eq_zero (by omega)
    subst h1 h2
    exact ⟨[], .slnil, .refl _, .refl _⟩
  | x :: l, A, R, p => by
    rcases List.mem_append.mp (p.mem_iff.mp List.mem_cons_self) with h | h
    · have q := List.perm_cons_erase h
      have pp : l.Perm (A.erase x ++ R) := (p.trans (q.append_right R)).cons_inv
      obtain ⟨S, h1, h2, h3⟩ := sub_of_perm pp
      exact ⟨x :: S, h1.cons_cons x, (h2.cons x).trans q.symm, h3.cons x⟩
    · have q := List.perm_cons_erase h
      have pp : l.Perm (A ++ R.erase x) := (p.trans ((q.append_left A).trans List.perm_middle)).cons_inv
      obtain ⟨S, h1, h2, h3⟩ := sub_of_perm pp
      refine ⟨S, h1.cons x, h2, ?_⟩
      exact ((h3.cons x).trans List.perm_middle.symm).trans (q.symm.append_left S)
/-! who can be had -/
def dom : List Int → List Int → Bool
  | [], _ => true
  | _ :: _, [] => false
  | x :: w, y :: t => decide (x ≤ y) && dom w t
theorem dom_eq : ∀ (w t : List Int), (decide (w.length ≤ t.length) && (w.zip t).all fun p => decide (p.1 ≤ p.2)) = dom w t
  | [], t => by simp [dom]
  | x :: w, [] => by simp [dom]
  | x :: w, y :: t => by
    have := dom_eq w t
    unfold dom
    rw [← this]
    simp
    cases decide (x ≤ y) <;> simp
theorem dom_cov : ∀ {w t : List Int}, dom w t = true → Cov w t
  | [], t, _ => cov_nil t
  | x :: w, [], h => by cases h
  | x :: w, y :: t, h => by
    unfold dom at h
    rw [Bool.and_eq_true, decide_eq_true_eq] at h
    exact cov_cons h.1 (dom_cov h.2)
theorem cov_dom : ∀ {w t : List Int}, w.Pairwise (· ≥ ·) → t.Pairwise (· ≥ ·) → Cov w t → dom w t = true
  | [], t, _, _, _ => rfl
  | x :: w, [], _, _, c => by
    have := c x
    rw [cnt_cons, if_pos (Int.le_refl _), cnt_nil] at this
    omega
  | x :: w, y :: t, hw, ht, c => by
    have hw1 := (List.pairwise_cons.mp hw).1
    have ht1 := (List.pairwise_cons.mp ht).1
    have hxy : x ≤ y := by
      have h := c x
      rw [cnt_cons, if_pos (Int.le_refl _)] at h
      by_cases q : x ≤ y
      · exact q
      · rw [cnt_cons, if_neg q, cnt_none (t := x) (l := t) fun z hz => ?_] at h
        · omega
        · have := ht1 z hz
          omega
    unfold dom
    rw [Bool.and_eq_true, decide_eq_true_eq]
    refine ⟨hxy, cov_dom (List.pairwise_cons.mp hw).2 (List.pairwise_cons.mp ht).2 fun u => ?_⟩
    have h := c u
    rw [cnt_cons, cnt_cons] at h
    by_cases q : u ≤ x
    · rw [if_pos q, if_pos (by omega)] at h
      omega
    · rw [cnt_none fun z hz => ?_]
      · omega
      · have := hw1 z hz
        omega
theorem cnt_drop {u : Int} : ∀ {l : List Int} {m : Nat}, l.Pairwise (· ≥ ·) → cnt u (l.drop m) = cnt u l - m
  | l, 0, _ => by simp
  | [], m + 1, _ => by simp [cnt_nil]
  | x :: l, m + 1, h => by
    rw [List.drop_succ_cons, cnt_drop (List.pairwise_cons.mp h).2, cnt_cons]
    split
    · omega
    · rename_i q
      rw [cnt_none fun z hz => ?_]
      · omega
      · have := (List.pairwise_cons.mp h).1 z hz
        omega
theorem desc (l : List Int) : (sortI l).reverse.Pairwise (· ≥ ·) := by
  rw [List.pairwise_reverse]
  exact sortI_sorted l
theorem desc_perm (l : List Int) : (sortI l).reverse.Perm l := (List.reverse_perm _).trans (sortI_perm l)
def can (S own : List Int) (m : Nat) : Bool := dom ((sortI S).reverse.drop m) (sortI own).reverse
theorem pairwise_drop {l : List Int} (h : l.Pairwise (· ≥ ·)) (m : Nat) : (l.drop m).Pairwise (· ≥ ·) := h.sublist (List.drop_sublist m l)
theorem can_of {S own Bl Mt : List Int} {m : Nat} (p : S.Perm (Bl ++ Mt)) (l : Bl.length ≤ m) (c : Cov Mt own) : can S own m = true := by
  refine cov_dom (pairwise_drop (desc S) m) (desc own) fun u => ?_
  rw [cnt_drop (desc S), cnt_perm (desc_perm S), cnt_perm (desc_perm own), cnt_perm p, cnt_append]
  have := c u
  have := cnt_le u Bl
  omega
theorem of_can {S own : List Int} {m : Nat} (h : can S own m = true) : ∃ Bl Mt, S.Perm (Bl ++ Mt) ∧ Bl.length ≤ m ∧ Cov Mt own := by
  refine ⟨(sortI S).reverse.take m, (sortI S).reverse.drop m, ?_, List.length_take_le m _, ?_⟩
  · rw [List.take_append_drop]
    exact (desc_perm S).symm
  · exact cov_perm (.refl _) (desc_perm own) (dom_cov h)
/-! the factor -/
def facF (one oth : List Int) (m : Nat) : Int := (chs oth [[]]).foldl (fun f S => if can S one m = true then minI2 f (prodI oth / prodI S) else f) (prodI oth)
theorem fold_min {P : Int} (one : List Int) (m : Nat) : ∀ (l : List (List Int)) (f : Int),
    (l.foldl (fun f S => if can S one m = true then minI2 f (P / prodI S) else f) f = f ∨ ∃ S ∈ l, can S one m = true ∧ l.foldl (fun f S => if can S one m = true then minI2 f (P / prodI S) else f) f = P / prodI S) ∧
    l.foldl (fun f S => if can S one m = true then minI2 f (P / prodI S) else f) f ≤ f ∧ ∀ S ∈ l, can S one m = true → l.foldl (fun f S => if can S one m = true then minI2 f (P / prodI S) else f) f ≤ P / prodI S
  | [], f => ⟨.inl rfl, Int.le_refl _, fun S hS => nomatch hS⟩
  | x :: l, f => by
    obtain ⟨h1, h2, h3⟩ := fold_min (P := P) one m l (if can x one m = true then minI2 f (P / prodI x) else f)
    rw [List.foldl_cons]
    have q := minI2_le f (P / prodI x)
    refine ⟨?_, ?_, fun S hS hc => ?_⟩
    · rcases h1 with h1 | ⟨S, h1, h4, h5⟩
      · rw [h1]
        split
        · rename_i hx
          rcases q.2.2 with e | e
          · exact .inl e
          · exact .inr ⟨x, List.mem_cons_self, hx, e⟩
        · exact .inl rfl
      · exact .inr ⟨S, List.mem_cons_of_mem _ h1, h4, h5⟩
    · refine Int.le_trans h2 ?_
      split
      · exact q.1
      · exact Int.le_refl _
    · rcases List.mem_cons.mp hS with e | hS
      · subst e
        refine Int.le_trans h2 ?_
        rw [if_pos hc]
        exact q.2.1
      · exact h3 S hS hc
theorem div_prod {oth S R : List Int} (p : oth.Perm (S ++ R)) (h : ∀ x ∈ oth, 1 ≤ x) : prodI oth / prodI S = prodI R := by
  have hS : 1 ≤ prodI S := prodI_pos fun x hx => h x (p.mem_iff.mpr (by simp [hx]))
  rw [prodI_perm p, prodI_append, Int.mul_ediv_cancel_left _ (by omega)]
theorem facF_V (one oth : List Int) (m : Nat) (h : ∀ x ∈ oth, 1 ≤ x) : V oth one m (facF one oth m) := by
  rcases (fold_min (P := prodI oth) one m (chs oth [[]]) (prodI oth)).1 with e | ⟨S, h1, h2, e⟩
  · refine ⟨[], [], oth, .refl _, Nat.zero_le _, cov_nil _, e⟩
  · obtain ⟨a, ha, s, hs, rfl⟩ := mem_chs.mp h1
    obtain rfl := List.mem_singleton.mp ha
    rw [List.nil_append] at h2 e
    obtain ⟨R, p⟩ := sub_split hs
    obtain ⟨Bl, Mt, q, l, c⟩ := of_can h2
    refine ⟨Bl, Mt, R, p.trans ?_, l, c, e.trans (div_prod p h)⟩
    rw [← List.append_assoc]
    exact q.append_right R
theorem facF_le {one oth : List Int} {m : Nat} {v : Int} (h : ∀ x ∈ oth, 1 ≤ x) (x : V oth one m v) : facF one oth m ≤ v := by
  obtain ⟨Bl, Mt, R, p, l, c, rfl⟩ := x
  rw [← List.append_assoc] at p
  obtain ⟨S, h1, h2, h3⟩ := sub_of_perm p
  have hc : can S one m = true := can_of h2 l c
  have := (fold_min (P := prodI oth) one m (chs oth [[]]) (prodI oth)).2.2 S (mem_chs.mpr ⟨[], by simp, S, h1, by simp⟩) hc
  rw [div_prod h3 h] at this
  exact this
/-- the factor is the greedy way's -/
theorem fac_lea (one oth : List Int) (m : Nat) (h : ∀ x ∈ oth, 1 ≤ x) : facF one oth m = lea (sortI oth).reverse (sortI one) m := by
  have a := facF_le (m := m) h ((lea_V (sortI oth).reverse (sortI one) m).perm (desc_perm oth) (sortI_perm one))
  have b := lea_le (sortI oth).reverse (sortI one) m _ (desc oth) (fun x hx => h x ((desc_perm oth).mem_iff.mp hx)) ((facF_V one oth m h).perm (desc_perm oth).symm (sortI_perm one).symm)
  omega
theorem fac_tri (a b c : List Int) (m1 m2 : Nat) (hb : ∀ x ∈ b, 1 ≤ x) (hc : ∀ x ∈ c, 1 ≤ x) : facF a c (m1 + m2) ≤ facF a b m1 * facF b c m2 := by
  obtain ⟨v, h1, h2⟩ := tri (facF_V a b m1 hb) (facF_V b c m2 hc) hb hc
  exact Int.le_trans (facF_le hc h1) h2
theorem fac_same (a : List Int) (h : ∀ x ∈ a, 1 ≤ x) : facF a a 0 = 1 := by
  have h1 := facF_le (one := a) (m := 0) h (⟨[], a, [], by simp, Nat.le_refl _, fun _ => Nat.le_refl _, rfl⟩ : V a a 0 (prodI []))
  obtain ⟨Bl, Mt, R, p, l, c, e⟩ := facF_V a a 0 h
  have h2 : 1 ≤ prodI R := prodI_pos fun x hx => h x (p.mem_iff.mpr (by simp [hx]))
  have h3 : prodI [] = 1 := rfl
  omega
theorem lea_le_prod (ss own : List Int) (m : Nat) (h : ∀ x ∈ ss, 1 ≤ x) : 1 ≤ lea ss own m ∧ lea ss own m ≤ prodI ss := by
  obtain ⟨Bl, Mt, R, p, l, c, e⟩ := lea_V ss own m
  rw [e]
  have hR : ∀ x ∈ R, 1 ≤ x := fun x hx => h x (p.mem_iff.mpr (by simp [hx]))
  have hB : ∀ x ∈ Bl ++ Mt, 1 ≤ x := fun x hx => h x (p.mem_iff.mpr (by rw [← List.append_assoc]; simp at hx ⊢; rcases hx with hx | hx <;> simp [hx]))
  refine ⟨prodI_pos hR, ?_⟩
  rw [prodI_perm p, ← List.append_assoc, prodI_append]
  have := le_mul_of (prodI_pos hR) (prodI_pos hB)
  rw [Int.mul_comm] at this
  exact this
end M81

namespace C81
open PySem L2 Ev
def top (i : Nat) : Stmt := PySem.Challenge.pw_nearrows_k81_whole_factors.main.body.getD i (.Pass ⟨0, 0, 0, 0⟩)
def n0 : List Str := ["thing"]
def b0 : CSs := (.cons (.ret (.bo true (.cons (.isi (.var 0) .int) (.cons (.not (.isi (.var 0) .bool)) .nil)))) .nil)
def n1 : List Str := ["shape", "found", "signs"]
def p1_0 : CSs := (.cons (.asg 1 (.bin .Mult (.var 1) (.var 2))) .nil)
def b1 : CSs := (.cons (.asg 1 (.con (.int 1))) (.cons (.forr (.nm 2) (.val (.var 0)) p1_0) (.cons (.ret (.mov 1)) .nil)))
def n2 : List Str := ["thing", "signs"]
def e2_0 : CE := (.lc [1] (.nm 1) (.val (.var 0)) .none (.bo true (.cons (.call 0 [false] (.cons (.var 1) .nil)) (.cons (.chn .LtE .LtE (.glob 1) (.var 1) (.glob 2)) .nil))))
def b2 : CSs := (.cons (.iff (.bo false (.cons (.not (.isi (.var 0) .tuple)) (.cons (.not (.chn .LtE .LtE (.con (.int 1)) (.bi .len (.cons (.var 0) .nil)) (.glob 0))) .nil))) (.cons (.ret (.con (.bool false))) .nil) .nil) (.cons (.iff (.not (.bi .all (.cons e2_0 .nil))) (.cons (.ret (.con (.bool false))) .nil) .nil) (.cons (.ret (.cmp .LtE (.call 1 [false] (.cons (.var 0) .nil)) (.glob 3))) .nil)))
def n3 : List Str := ["thing"]
def b3 : CSs := (.cons (.iff (.not (.call 2 [false] (.cons (.var 0) .nil))) (.cons (.rais "NoShape") .nil) .nil) .nil)
def n4 : List Str := ["shape", "thing"]
def b4 : CSs := (.cons (.iff (.bo false (.cons (.not (.call 0 [false] (.cons (.var 1) .nil))) (.cons (.not (.chn .LtE .LtE (.con (.int 0)) (.var 1) (.bi .len (.cons (.var 0) .nil)))) .nil))) (.cons (.rais "NoNearness") .nil) .nil) .nil)
def n5 : List Str := ["spots", "found", "spot", "some"]
def e5_0 : CE := (.lc [3] (.nm 3) (.val (.var 1)) .none (.bin .Add (.var 3) (.lst (.cons (.var 2) .nil))))
def p5_1 : CSs := (.cons (.asg 1 (.bin .Add (.var 1) e5_0)) .nil)
def b5 : CSs := (.cons (.asg 1 (.lst (.cons (.lst .nil) .nil))) (.cons (.forr (.nm 2) (.val (.var 0)) p5_1) (.cons (.ret (.mov 1)) .nil)))
def n6 : List Str := ["some", "own", "many_blind", "wanted", "there", "signs", "given"]
def e6_0 : CE := (.lc [5, 6] (.tup (.cons (.nm 5) (.cons (.nm 6) .nil))) (.zip (.var 3) (.var 4)) .none (.cmp .LtE (.var 5) (.var 6)))
def b6 : CSs := (.cons (.asg 3 (.slc (.sortedR (.var 0)) (.some (.var 2)) .none)) (.cons (.asg 4 (.sortedR (.var 1))) (.cons (.ret (.bo true (.cons (.cmp .LtE (.bi .len (.cons (.var 3) .nil)) (.bi .len (.cons (.var 4) .nil))) (.cons (.bi .all (.cons e6_0 .nil)) .nil)))) .nil)))
def n7 : List Str := ["numbers", "found", "number"]
def p7_0 : CSs := (.cons (.asg 1 (.bin .Mult (.var 1) (.var 2))) .nil)
def b7 : CSs := (.cons (.asg 1 (.con (.int 1))) (.cons (.forr (.nm 2) (.val (.var 0)) p7_0) (.cons (.ret (.mov 1)) .nil)))
def n8 : List Str := ["one", "nearness", "other", "nearness_too", "found", "some", "signs", "spot"]
def e8_0 : CE := (.lc [7] (.nm 7) (.val (.var 5)) .none (.idx (.var 2) (.var 7)))
def p8_1 : CSs := (.cons (.asg 6 e8_0) (.cons (.iff (.call 6 [false, false, false] (.cons (.var 6) (.cons (.var 0) (.cons (.bin .Sub (.var 3) (.var 1)) .nil)))) (.cons (.asg 4 (.bi .min (.cons (.var 4) (.cons (.bin .FloorDiv (.call 7 [false] (.cons (.var 2) .nil)) (.call 7 [false] (.cons (.var 6) .nil))) .nil)))) .nil) .nil) .nil))
def b8 : CSs := (.cons (.iff (.cmp .Lt (.var 3) (.var 1)) (.cons (.ret (.con .none)) .nil) .nil) (.cons (.asg 4 (.call 7 [false] (.cons (.var 2) .nil))) (.cons (.forr (.nm 5) (.val (.call 5 [false] (.cons (.lstRange (.bi .len (.cons (.var 2) .nil))) .nil))) p8_1) (.cons (.ret (.mov 4)) .nil))))
def n9 : List Str := ["one", "nearness", "other", "nearness_too"]
def b9 : CSs := (.cons (.expr (.call 3 [false] (.cons (.var 0) .nil))) (.cons (.expr (.call 3 [false] (.cons (.var 2) .nil))) (.cons (.expr (.call 4 [false, false] (.cons (.var 0) (.cons (.var 1) .nil)))) (.cons (.expr (.call 4 [false, false] (.cons (.var 2) (.cons (.var 3) .nil)))) (.cons (.ret (.call 8 [false, false, false, false] (.cons (.var 0) (.cons (.var 1) (.cons (.var 2) (.cons (.var 3) .nil)))))) .nil)))))
def n10 : List Str := ["_law_script", "_law_k", "_law_cell"]
def b10 : CSs := (.cons (.asg 2 (.bin .Add (.bin .Mult (.con (.int 7)) (.var 1)) (.con (.int 5)))) (.cons (.iff (.cmp .Lt (.var 1) (.bi .len (.cons (.var 0) .nil))) (.cons (.asg 2 (.idx (.var 0) (.var 1))) .nil) .nil) (.cons (.ret (.lst (.cons (.bi .max (.cons (.con (.int 0)) (.cons (.bin .Sub (.bi .abs (.cons (.var 2) .nil)) (.bin .Pow (.con (.int 10)) (.con (.int 18)))) .nil))) (.cons (.bin .Add (.bin .Mod (.bi .abs (.cons (.var 2) .nil)) (.con (.int 2147483579))) (.con (.int 1))) .nil)))) .nil)))
def n11 : List Str := ["_law_pot_here", "_law_many", "_law_digit"]
def b11 : CSs := (.cons (.iff (.cmp .Gt (.idx (.var 0) (.con (.int 0))) (.con (.int 0))) (.cons (.asgT [.ix 0 0, .tg (.nm 2)] (.bi .divmod (.cons (.idx (.var 0) (.con (.int 0))) (.cons (.var 1) .nil)))) (.cons (.ret (.mov 2)) .nil)) .nil) (.cons (.set 0 (.con (.int 1)) (.bin .Mod (.bin .Add (.bin .Mult (.idx (.var 0) (.con (.int 1))) (.con (.int 48271))) (.con (.int 12345))) (.con (.int 2147483647)))) (.cons (.ret (.bin .Mod (.bin .FloorDiv (.bin .Mod (.bin .Mult (.idx (.var 0) (.con (.int 1))) (.idx (.var 0) (.con (.int 1)))) (.con (.int 2147483629))) (.con (.int 5))) (.var 1))) .nil)))
def n12 : List Str := ["_law_pot_here", "_law_most", "_law_found", "_law_many", "_law_k", "_law_signs"]
def p12_0 : CSs := (.cons (.asg 5 (.bin .Add (.con (.int 2)) (.call 11 [true, false] (.cons (.var 0) (.cons (.idx (.lst (.cons (.con (.int 1)) (.cons (.con (.int 2)) (.cons (.con (.int 8)) .nil)))) (.call 11 [true, false] (.cons (.var 0) (.cons (.con (.int 3)) .nil)))) .nil))))) (.cons (.iff (.cmp .LtE (.bin .Mult (.var 3) (.var 5)) (.var 1)) (.cons (.asg 2 (.bin .Add (.var 2) (.tup (.cons (.var 5) .nil)))) (.cons (.asg 3 (.bin .Mult (.var 3) (.var 5))) .nil)) .nil) .nil))
def b12 : CSs := (.cons (.asg 2 (.tup .nil)) (.cons (.asg 3 (.con (.int 1))) (.cons (.forr (.nm 4) (.range1 (.bin .Add (.con (.int 1)) (.call 11 [true, false] (.cons (.var 0) (.cons (.con (.int 8)) .nil))))) p12_0) (.cons (.ret (.mov 2)) .nil))))
def n13 : List Str := ["_law_signs", "_law_own", "_law_many_blind", "_law_found", "_law_some", "_law_k", "_law_there"]
def e13_0 : CE := (.lc [5, 6] (.tup (.cons (.nm 5) (.cons (.nm 6) .nil))) (.enum (.var 1)) (.some (.cmp .GtE (.var 6) (.idx (.var 0) (.con (.int 0))))) (.var 5))
def b13 : CSs := (.cons (.iff (.cmp .Eq (.var 0) (.lst .nil)) (.cons (.ret (.con (.int 1))) .nil) .nil) (.cons (.asg 3 (.bin .Mult (.idx (.var 0) (.con (.int 0))) (.call 13 [false, false, false] (.cons (.slc (.var 0) (.some (.con (.int 1))) .none) (.cons (.var 1) (.cons (.var 2) .nil)))))) (.cons (.iff (.cmp .Gt (.var 2) (.con (.int 0))) (.cons (.asg 3 (.bi .min (.cons (.var 3) (.cons (.call 13 [false, false, false] (.cons (.slc (.var 0) (.some (.con (.int 1))) .none) (.cons (.var 1) (.cons (.bin .Sub (.var 2) (.con (.int 1))) .nil)))) .nil)))) .nil) .nil) (.cons (.asg 4 e13_0) (.cons (.iff (.cmp .NotEq (.var 4) (.lst .nil)) (.cons (.asg 3 (.bi .min (.cons (.var 3) (.cons (.call 13 [false, false, false] (.cons (.slc (.var 0) (.some (.con (.int 1))) .none) (.cons (.bin .Add (.slc (.var 1) .none (.some (.idx (.var 4) (.con (.int 0))))) (.slc (.var 1) (.some (.bin .Add (.idx (.var 4) (.con (.int 0))) (.con (.int 1)))) .none)) (.cons (.var 2) .nil)))) .nil)))) .nil) .nil) (.cons (.ret (.mov 3)) .nil))))))
def n14 : List Str := ["_law_one", "_law_nearness", "_law_other", "_law_nearness_too"]
def b14 : CSs := (.cons (.iff (.cmp .Lt (.var 3) (.var 1)) (.cons (.ret (.con .none)) .nil) .nil) (.cons (.ret (.call 13 [false, false, false] (.cons (.rev (.bi .sorted (.cons (.var 2) .nil))) (.cons (.bi .sorted (.cons (.var 0) .nil)) (.cons (.bin .Sub (.var 3) (.var 1)) .nil))))) .nil))
def n15 : List Str := ["_law_one", "_law_other", "_law_found", "_law_due"]
def b15 : CSs := (.cons (.asg 2 (.call 9 [false, false, false, false] (.cons (.idx (.var 0) (.con (.int 0))) (.cons (.idx (.var 0) (.con (.int 1))) (.cons (.idx (.var 1) (.con (.int 0))) (.cons (.idx (.var 1) (.con (.int 1))) .nil)))))) (.cons (.asg 3 (.call 14 [false, false, false, false] (.cons (.idx (.var 0) (.con (.int 0))) (.cons (.idx (.var 0) (.con (.int 1))) (.cons (.idx (.var 1) (.con (.int 0))) (.cons (.idx (.var 1) (.con (.int 1))) .nil)))))) (.cons (.iff (.bo false (.cons (.isi (.var 2) .bool) (.cons (.cmp .NotEq (.var 2) (.var 3)) .nil))) (.cons (.ret (.con (.bool false))) .nil) .nil) (.cons (.ret (.bo false (.cons (.cmp .Is (.var 2) (.con .none)) (.cons (.isi (.var 2) .int) .nil)))) .nil))))
def n16 : List Str := ["_law_one", "_law_middle", "_law_other", "_law_first", "_law_second"]
def b16 : CSs := (.cons (.asg 3 (.call 9 [false, false, false, false] (.cons (.idx (.var 0) (.con (.int 0))) (.cons (.idx (.var 0) (.con (.int 1))) (.cons (.idx (.var 1) (.con (.int 0))) (.cons (.idx (.var 1) (.con (.int 1))) .nil)))))) (.cons (.asg 4 (.call 9 [false, false, false, false] (.cons (.idx (.var 1) (.con (.int 0))) (.cons (.idx (.var 1) (.con (.int 1))) (.cons (.idx (.var 2) (.con (.int 0))) (.cons (.idx (.var 2) (.con (.int 1))) .nil)))))) (.cons (.iff (.bo false (.cons (.cmp .Is (.var 3) (.con .none)) (.cons (.cmp .Is (.var 4) (.con .none)) .nil))) (.cons (.ret (.con (.bool true))) .nil) .nil) (.cons (.ret (.cmp .LtE (.call 9 [false, false, false, false] (.cons (.idx (.var 0) (.con (.int 0))) (.cons (.idx (.var 0) (.con (.int 1))) (.cons (.idx (.var 2) (.con (.int 0))) (.cons (.idx (.var 2) (.con (.int 1))) .nil))))) (.bin .Mult (.var 3) (.var 4)))) .nil))))
def n17 : List Str := ["_law_script", "_law_k", "_law_pot_here", "_law_some", "_law_j", "_law_shape_here", "_law_nearness"]
def p17_0 : CSs := (.cons (.asg 5 (.call 12 [true, false] (.cons (.var 2) (.cons (.con (.int 256)) .nil)))) (.cons (.expr (.mut .append 3 (.cons (.tup (.cons (.var 5) (.cons (.call 11 [true, false] (.cons (.var 2) (.cons (.bin .Add (.bi .len (.cons (.var 5) .nil)) (.con (.int 1))) .nil))) .nil))) .nil))) .nil))
def e17_1 : CE := (.lc [4] (.nm 4) (.range1 (.con (.int 3))) .none (.bo true (.cons (.call 15 [false, false] (.cons (.idx (.var 3) (.var 4)) (.cons (.idx (.var 3) (.bin .Sub (.var 4) (.con (.int 1)))) .nil))) (.cons (.call 15 [false, false] (.cons (.idx (.var 3) (.bin .Sub (.var 4) (.con (.int 1)))) (.cons (.idx (.var 3) (.var 4)) .nil))) .nil))))
def e17_2 : CE := (.lc [5, 6] (.tup (.cons (.nm 5) (.cons (.nm 6) .nil))) (.val (.var 3)) .none (.cmp .Eq (.call 9 [false, false, false, false] (.cons (.var 5) (.cons (.var 6) (.cons (.var 5) (.cons (.var 6) .nil))))) (.con (.int 1))))
def p17_3 : CSs := (.cons (.asg 2 (.call 10 [false, false] (.cons (.var 0) (.cons (.var 1) .nil)))) (.cons (.asg 3 (.lst .nil)) (.cons (.forr (.nm 4) (.range1 (.con (.int 3))) p17_0) (.cons (.iff (.not (.bi .all (.cons e17_1 .nil))) (.cons (.ret (.con (.bool false))) .nil) .nil) (.cons (.iff (.not (.bi .all (.cons e17_2 .nil))) (.cons (.ret (.con (.bool false))) .nil) .nil) (.cons (.iff (.bo false (.cons (.not (.call 16 [false, false, false] (.cons (.idx (.var 3) (.con (.int 0))) (.cons (.idx (.var 3) (.con (.int 1))) (.cons (.idx (.var 3) (.con (.int 2))) .nil))))) (.cons (.not (.call 16 [false, false, false] (.cons (.idx (.var 3) (.con (.int 2))) (.cons (.idx (.var 3) (.con (.int 0))) (.cons (.idx (.var 3) (.con (.int 1))) .nil))))) .nil))) (.cons (.ret (.con (.bool false))) .nil) .nil) .nil))))))
def b17 : CSs := (.cons (.forr (.nm 1) (.range1 (.bi .max (.cons (.con (.int 2)) (.cons (.bi .min (.cons (.con (.int 4)) (.cons (.bi .len (.cons (.var 0) .nil)) .nil))) .nil)))) p17_3) (.cons (.ret (.con (.bool true))) .nil))
def cN : List Str := ["MOST_SPOTS", "LEAST_SIGNS", "MOST_SIGNS", "MOST_ROWS"]
def cS : Nat → Option PyData
  | 0 => some (.int 8)
  | 1 => some (.int 2)
  | 2 => some (.int 9)
  | 3 => some (.int 256)
  | _ => none
def sT : Nat → Stmt
  | 0 => top 9
  | 1 => top 10
  | 2 => top 11
  | 3 => top 12
  | 4 => top 13
  | 5 => top 15
  | 6 => top 16
  | 7 => top 17
  | 8 => top 18
  | 9 => top 19
  | 10 => top 21
  | 11 => top 22
  | 12 => top 23
  | 13 => top 25
  | 14 => top 26
  | 15 => top 27
  | 16 => top 28
  | 17 => top 29
  | _ => top 0
def nN : Nat → List Str
  | 0 => n0
  | 1 => n1
  | 2 => n2
  | 3 => n3
  | 4 => n4
  | 5 => n5
  | 6 => n6
  | 7 => n7
  | 8 => n8
  | 9 => n9
  | 10 => n10
  | 11 => n11
  | 12 => n12
  | 13 => n13
  | 14 => n14
  | 15 => n15
  | 16 => n16
  | 17 => n17
  | _ => []
def pS : Nat → List Str
  | 0 => ["thing"]
  | 1 => ["shape"]
  | 2 => ["thing"]
  | 3 => ["thing"]
  | 4 => ["shape", "thing"]
  | 5 => ["spots"]
  | 6 => ["some", "own", "many_blind"]
  | 7 => ["numbers"]
  | 8 => ["one", "nearness", "other", "nearness_too"]
  | 9 => ["one", "nearness", "other", "nearness_too"]
  | 10 => ["_law_script", "_law_k"]
  | 11 => ["_law_pot_here", "_law_many"]
  | 12 => ["_law_pot_here", "_law_most"]
  | 13 => ["_law_signs", "_law_own", "_law_many_blind"]
  | 14 => ["_law_one", "_law_nearness", "_law_other", "_law_nearness_too"]
  | 15 => ["_law_one", "_law_other"]
  | 16 => ["_law_one", "_law_middle", "_law_other"]
  | 17 => ["_law_script"]
  | _ => []
def bD : Nat → CSs
  | 0 => b0
  | 1 => b1
  | 2 => b2
  | 3 => b3
  | 4 => b4
  | 5 => b5
  | 6 => b6
  | 7 => b7
  | 8 => b8
  | 9 => b9
  | 10 => b10
  | 11 => b11
  | 12 => b12
  | 13 => b13
  | 14 => b14
  | 15 => b15
  | 16 => b16
  | 17 => b17
  | _ => .nil
def prg : Prg := ⟨cS, cN, ["is_whole", "size_of", "is_shape", "want_shape", "want_nearness", "choices_of", "can_be_had", "product_of", "factor_of", "factor", "_law_pot", "_law_take", "_law_shape", "_law_least", "_law_factor", "_law_right", "_law_by_way", "law"], ["abs", "all", "bool", "divmod", "enumerate", "int", "isinstance", "len", "list", "max", "min", "range", "sorted", "tuple", "zip"], ["NoNearness", "NoShape"], sT, nN, pS, bD, 1000⟩
noncomputable abbrev FT := prg.FT
@[simp] theorem cS0 : cS 0 = some (.int 8) := rfl
@[simp] theorem cS1 : cS 1 = some (.int 2) := rfl
@[simp] theorem cS2 : cS 2 = some (.int 9) := rfl
@[simp] theorem cS3 : cS 3 = some (.int 256) := rfl
theorem ok : prg.Ok where
  sc := fun j x h => by
    match j, h with
    | 0, h => exact ⟨⟨rfl, rfl, rfl, by decide +kernel, rfl, by decide +kernel, by decide +kernel⟩, rfl⟩
    | 1, h => exact ⟨⟨rfl, rfl, rfl, by decide +kernel, rfl, by decide +kernel, by decide +kernel⟩, rfl⟩
    | 2, h => exact ⟨⟨rfl, rfl, rfl, by decide +kernel, rfl, by decide +kernel, by decide +kernel⟩, rfl⟩
    | 3, h => exact ⟨⟨rfl, rfl, rfl, by decide +kernel, rfl, by decide +kernel, by decide +kernel⟩, rfl⟩
    | 4, h => exact ⟨⟨rfl, rfl, rfl, by decide +kernel, rfl, by decide +kernel, by decide +kernel⟩, rfl⟩
    | 5, h => exact ⟨⟨rfl, rfl, rfl, by decide +kernel, rfl, by decide +kernel, by decide +kernel⟩, rfl⟩
    | 6, h => exact ⟨⟨rfl, rfl, rfl, by decide +kernel, rfl, by decide +kernel, by decide +kernel⟩, rfl⟩
    | 7, h => exact ⟨⟨rfl, rfl, rfl, by decide +kernel, rfl, by decide +kernel, by decide +kernel⟩, rfl⟩
    | 8, h => exact ⟨⟨rfl, rfl, rfl, by decide +kernel, rfl, by decide +kernel, by decide +kernel⟩, rfl⟩
    | 9, h => exact ⟨⟨rfl, rfl, rfl, by decide +kernel, rfl, by decide +kernel, by decide +kernel⟩, rfl⟩
    | 10, h => exact ⟨⟨rfl, rfl, rfl, by decide +kernel, rfl, by decide +kernel, by decide +kernel⟩, rfl⟩
    | 11, h => exact ⟨⟨rfl, rfl, rfl, by decide +kernel, rfl, by decide +kernel, by decide +kernel⟩, rfl⟩
    | 12, h => exact ⟨⟨rfl, rfl, rfl, by decide +kernel, rfl, by decide +kernel, by decide +kernel⟩, rfl⟩
    | 13, h => exact ⟨⟨rfl, rfl, rfl, by decide +kernel, rfl, by decide +kernel, by decide +kernel⟩, rfl⟩
    | 14, h => exact ⟨⟨rfl, rfl, rfl, by decide +kernel, rfl, by decide +kernel, by decide +kernel⟩, rfl⟩
    | 15, h => exact ⟨⟨rfl, rfl, rfl, by decide +kernel, rfl, by decide +kernel, by decide +kernel⟩, rfl⟩
    | 16, h => exact ⟨⟨rfl, rfl, rfl, by decide +kernel, rfl, by decide +kernel, by decide +kernel⟩, rfl⟩
    | 17, h => exact ⟨⟨rfl, rfl, rfl, by decide +kernel, rfl, by decide +kernel, by decide +kernel⟩, rfl⟩
    | j + 18, h => simp [prg] at h
  ck := fun j x h F => by
    match j, h with
    | 0, h => kernel_rfl
    | 1, h => kernel_rfl
    | 2, h => kernel_rfl
    | 3, h => kernel_rfl
    | 4, h => kernel_rfl
    | 5, h => kernel_rfl
    | 6, h => kernel_rfl
    | 7, h => kernel_rfl
    | 8, h => kernel_rfl
    | 9, h => kernel_rfl
    | 10, h => kernel_rfl
    | 11, h => kernel_rfl
    | 12, h => kernel_rfl
    | 13, h => kernel_rfl
    | 14, h => kernel_rfl
    | 15, h => kernel_rfl
    | 16, h => kernel_rfl
    | 17, h => kernel_rfl
    | j + 18, h => simp [prg] at h
  bd := fun j x h kV doc pm an cdv ct us hl => by
    match j, h with
    | 0, h => cases h; exact match us, hl with | [_], _ => rfl
    | 1, h => cases h; exact match us, hl with | [_], _ => rfl
    | 2, h => cases h; exact match us, hl with | [_], _ => rfl
    | 3, h => cases h; exact match us, hl with | [_], _ => rfl
    | 4, h => cases h; exact match us, hl with | [_, _], _ => rfl
    | 5, h => cases h; exact match us, hl with | [_], _ => rfl
    | 6, h => cases h; exact match us, hl with | [_, _, _], _ => rfl
    | 7, h => cases h; exact match us, hl with | [_], _ => rfl
    | 8, h => cases h; exact match us, hl with | [_, _, _, _], _ => rfl
    | 9, h => cases h; exact match us, hl with | [_, _, _, _], _ => rfl
    | 10, h => cases h; exact match us, hl with | [_, _], _ => rfl
    | 11, h => cases h; exact match us, hl with | [_, _], _ => rfl
    | 12, h => cases h; exact match us, hl with | [_, _], _ => rfl
    | 13, h => cases h; exact match us, hl with | [_, _, _], _ => rfl
    | 14, h => cases h; exact match us, hl with | [_, _, _, _], _ => rfl
    | 15, h => cases h; exact match us, hl with | [_, _], _ => rfl
    | 16, h => cases h; exact match us, hl with | [_, _, _], _ => rfl
    | 17, h => cases h; exact match us, hl with | [_], _ => rfl
    | j + 18, h => simp [prg] at h
@[simp] theorem np0 (k : Nat) : (FT k 0).np = 1 := by cases k <;> rfl
theorem rF0 {k : Nat} {s0 : Option Slot} (h : [s0].all isArg = true) : (FT (k + 1) 0).S [s0] = finA [s0] (evSs cS (FT k) 1000 b0 [s0]) := runF_S ⟨rfl, h⟩
theorem fT0 (k : Nat) : FT (k + 1) 0 = runF cS (FT k) 1000 1 0 b0 := rfl
@[simp] theorem np1 (k : Nat) : (FT k 1).np = 1 := by cases k <;> rfl
theorem rF1 {k : Nat} {s0 : Option Slot} (h : [s0].all isArg = true) : (FT (k + 1) 1).S [s0] = finA [s0] (evSs cS (FT k) 1000 b1 [s0, none, none]) := runF_S ⟨rfl, h⟩
theorem fT1 (k : Nat) : FT (k + 1) 1 = runF cS (FT k) 1000 1 2 b1 := rfl
@[simp] theorem np2 (k : Nat) : (FT k 2).np = 1 := by cases k <;> rfl
theorem rF2 {k : Nat} {s0 : Option Slot} (h : [s0].all isArg = true) : (FT (k + 1) 2).S [s0] = finA [s0] (evSs cS (FT k) 1000 b2 [s0, none]) := runF_S ⟨rfl, h⟩
theorem fT2 (k : Nat) : FT (k + 1) 2 = runF cS (FT k) 1000 1 1 b2 := rfl
@[simp] theorem np3 (k : Nat) : (FT k 3).np = 1 := by cases k <;> rfl
theorem rF3 {k : Nat} {s0 : Option Slot} (h : [s0].all isArg = true) : (FT (k + 1) 3).S [s0] = finA [s0] (evSs cS (FT k) 1000 b3 [s0]) := runF_S ⟨rfl, h⟩
theorem fT3 (k : Nat) : FT (k + 1) 3 = runF cS (FT k) 1000 1 0 b3 := rfl
@[simp] theorem np4 (k : Nat) : (FT k 4).np = 2 := by cases k <;> rfl
theorem rF4 {k : Nat} {s0 s1 : Option Slot} (h : [s0, s1].all isArg = true) : (FT (k + 1) 4).S [s0, s1] = finA [s0, s1] (evSs cS (FT k) 1000 b4 [s0, s1]) := runF_S ⟨rfl, h⟩
theorem fT4 (k : Nat) : FT (k + 1) 4 = runF cS (FT k) 1000 2 0 b4 := rfl
@[simp] theorem np5 (k : Nat) : (FT k 5).np = 1 := by cases k <;> rfl
theorem rF5 {k : Nat} {s0 : Option Slot} (h : [s0].all isArg = true) : (FT (k + 1) 5).S [s0] = finA [s0] (evSs cS (FT k) 1000 b5 [s0, none, none, none]) := runF_S ⟨rfl, h⟩
theorem fT5 (k : Nat) : FT (k + 1) 5 = runF cS (FT k) 1000 1 3 b5 := rfl
@[simp] theorem np6 (k : Nat) : (FT k 6).np = 3 := by cases k <;> rfl
theorem rF6 {k : Nat} {s0 s1 s2 : Option Slot} (h : [s0, s1, s2].all isArg = true) : (FT (k + 1) 6).S [s0, s1, s2] = finA [s0, s1, s2] (evSs cS (FT k) 1000 b6 [s0, s1, s2, none, none, none, none]) := runF_S ⟨rfl, h⟩
theorem fT6 (k : Nat) : FT (k + 1) 6 = runF cS (FT k) 1000 3 4 b6 := rfl
@[simp] theorem np7 (k : Nat) : (FT k 7).np = 1 := by cases k <;> rfl
theorem rF7 {k : Nat} {s0 : Option Slot} (h : [s0].all isArg = true) : (FT (k + 1) 7).S [s0] = finA [s0] (evSs cS (FT k) 1000 b7 [s0, none, none]) := runF_S ⟨rfl, h⟩
theorem fT7 (k : Nat) : FT (k + 1) 7 = runF cS (FT k) 1000 1 2 b7 := rfl
@[simp] theorem np8 (k : Nat) : (FT k 8).np = 4 := by cases k <;> rfl
theorem rF8 {k : Nat} {s0 s1 s2 s3 : Option Slot} (h : [s0, s1, s2, s3].all isArg = true) : (FT (k + 1) 8).S [s0, s1, s2, s3] = finA [s0, s1, s2, s3] (evSs cS (FT k) 1000 b8 [s0, s1, s2, s3, none, none, none, none]) := runF_S ⟨rfl, h⟩
theorem fT8 (k : Nat) : FT (k + 1) 8 = runF cS (FT k) 1000 4 4 b8 := rfl
@[simp] theorem np9 (k : Nat) : (FT k 9).np = 4 := by cases k <;> rfl
theorem rF9 {k : Nat} {s0 s1 s2 s3 : Option Slot} (h : [s0, s1, s2, s3].all isArg = true) : (FT (k + 1) 9).S [s0, s1, s2, s3] = finA [s0, s1, s2, s3] (evSs cS (FT k) 1000 b9 [s0, s1, s2, s3]) := runF_S ⟨rfl, h⟩
theorem fT9 (k : Nat) : FT (k + 1) 9 = runF cS (FT k) 1000 4 0 b9 := rfl
@[simp] theorem np10 (k : Nat) : (FT k 10).np = 2 := by cases k <;> rfl
theorem rF10 {k : Nat} {s0 s1 : Option Slot} (h : [s0, s1].all isArg = true) : (FT (k + 1) 10).S [s0, s1] = finA [s0, s1] (evSs cS (FT k) 1000 b10 [s0, s1, none]) := runF_S ⟨rfl, h⟩
theorem fT10 (k : Nat) : FT (k + 1) 10 = runF cS (FT k) 1000 2 1 b10 := rfl
@[simp] theorem np11 (k : Nat) : (FT k 11).np = 2 := by cases k <;> rfl
theorem rF11 {k : Nat} {s0 s1 : Option Slot} (h : [s0, s1].all isArg = true) : (FT (k + 1) 11).S [s0, s1] = finA [s0, s1] (evSs cS (FT k) 1000 b11 [s0, s1, none]) := runF_S ⟨rfl, h⟩
theorem fT11 (k : Nat) : FT (k + 1) 11 = runF cS (FT k) 1000 2 1 b11 := rfl
@[simp] theorem np12 (k : Nat) : (FT k 12).np = 2 := by cases k <;> rfl
theorem rF12 {k : Nat} {s0 s1 : Option Slot} (h : [s0, s1].all isArg = true) : (FT (k + 1) 12).S [s0, s1] = finA [s0, s1] (evSs cS (FT k) 1000 b12 [s0, s1, none, none, none, none]) := runF_S ⟨rfl, h⟩
theorem fT12 (k : Nat) : FT (k + 1) 12 = runF cS (FT k) 1000 2 4 b12 := rfl
@[simp] theorem np13 (k : Nat) : (FT k 13).np = 3 := by cases k <;> rfl
theorem rF13 {k : Nat} {s0 s1 s2 : Option Slot} (h : [s0, s1, s2].all isArg = true) : (FT (k + 1) 13).S [s0, s1, s2] = finA [s0, s1, s2] (evSs cS (FT k) 1000 b13 [s0, s1, s2, none, none, none, none]) := runF_S ⟨rfl, h⟩
theorem fT13 (k : Nat) : FT (k + 1) 13 = runF cS (FT k) 1000 3 4 b13 := rfl
@[simp] theorem np14 (k : Nat) : (FT k 14).np = 4 := by cases k <;> rfl
theorem rF14 {k : Nat} {s0 s1 s2 s3 : Option Slot} (h : [s0, s1, s2, s3].all isArg = true) : (FT (k + 1) 14).S [s0, s1, s2, s3] = finA [s0, s1, s2, s3] (evSs cS (FT k) 1000 b14 [s0, s1, s2, s3]) := runF_S ⟨rfl, h⟩
theorem fT14 (k : Nat) : FT (k + 1) 14 = runF cS (FT k) 1000 4 0 b14 := rfl
@[simp] theorem np15 (k : Nat) : (FT k 15).np = 2 := by cases k <;> rfl
theorem rF15 {k : Nat} {s0 s1 : Option Slot} (h : [s0, s1].all isArg = true) : (FT (k + 1) 15).S [s0, s1] = finA [s0, s1] (evSs cS (FT k) 1000 b15 [s0, s1, none, none]) := runF_S ⟨rfl, h⟩
theorem fT15 (k : Nat) : FT (k + 1) 15 = runF cS (FT k) 1000 2 2 b15 := rfl
@[simp] theorem np16 (k : Nat) : (FT k 16).np = 3 := by cases k <;> rfl
theorem rF16 {k : Nat} {s0 s1 s2 : Option Slot} (h : [s0, s1, s2].all isArg = true) : (FT (k + 1) 16).S [s0, s1, s2] = finA [s0, s1, s2] (evSs cS (FT k) 1000 b16 [s0, s1, s2, none, none]) := runF_S ⟨rfl, h⟩
theorem fT16 (k : Nat) : FT (k + 1) 16 = runF cS (FT k) 1000 3 2 b16 := rfl
@[simp] theorem np17 (k : Nat) : (FT k 17).np = 1 := by cases k <;> rfl
theorem rF17 {k : Nat} {s0 : Option Slot} (h : [s0].all isArg = true) : (FT (k + 1) 17).S [s0] = finA [s0] (evSs cS (FT k) 1000 b17 [s0, none, none, none, none, none, none]) := runF_S ⟨rfl, h⟩
theorem fT17 (k : Nat) : FT (k + 1) 17 = runF cS (FT k) 1000 1 6 b17 := rfl
end C81

namespace C81
open PySem L2 Ev
/-! the shapes' part -/

theorem run_is_whole (k : Nat) (n : Int) : (FT (k + 1) 0).S [some (.val (.int n))] = .ok (.v (.bool true)) [some (.val (.int n))] := by
  refine (rF0 rfl).trans ?_
  simp [b0]

theorem run_size_of (k : Nat) (ns : List Int) (h : ∀ n ∈ ns, 1 ≤ n) (hb : prodI ns < 2 ^ 100) : (FT (k + 1) 1).S [some (.val (.tuple (ns.map .int)))] = .ok (.v (.int (prodI ns))) [some (.val (.tuple (ns.map .int)))] := by
  refine (rF1 rfl).trans ?_
  obtain ⟨⟨a, s⟩, h1, q1, q2, q3, q4⟩ := forL_st (turn := turnF cS (FT k) 1000 (.nm 2) p1_0) PyData.int (fun b : Int × Option Slot => [some (.val (.tuple (ns.map .int))), some (.val (.int b.1)), b.2]) (fun rest b => (∀ n ∈ rest, 1 ≤ n) ∧ nb b.2 = true ∧ b.1 * prodI rest = prodI ns ∧ 1 ≤ b.1)
    (fun n rest ⟨a, s⟩ ⟨q2, q3, q4, q5⟩ => by
      dsimp only at q3 q4 q5 ⊢
      have hn := q2 n List.mem_cons_self
      have hr := prodI_pos fun x hx => q2 x (List.mem_cons_of_mem n hx)
      have e1 : a * n * prodI rest = prodI ns := by rw [Int.mul_assoc]; exact q4
      have han : 1 ≤ a * n := Int.le_trans q5 (le_mul_of q5 hn)
      have := le_mul_of han hr
      have := le_mul_of q5 hn
      have := le_mul_of hn q5
      rw [Int.mul_comm n a] at this
      refine ⟨(a * n, some (.val (.int n))), ?_, fun x hx => q2 x (List.mem_cons_of_mem _ hx), rfl, e1, han⟩
      simp [p1_0, q3, bop_mul' (show a.natAbs < 2 ^ 200 by omega) (show n.natAbs < 2 ^ 200 by omega)]) ns (1, none) ⟨h, rfl, Int.one_mul _, by decide⟩
  dsimp only at h1 q3
  rw [prodI, Int.mul_one] at q3
  simp [b1, h1, q3]

theorem run_is_shape (k : Nat) (ns : List Int) (h : Shape ns) : (FT (k + 2) 2).S [some (.val (.tuple (ns.map .int)))] = .ok (.v (.bool true)) [some (.val (.tuple (ns.map .int)))] := by
  refine (rF2 rfl).trans ?_
  have h1 := h.len
  have h2 : 1 ≤ ns.length := by
    have := h.ne
    cases ns with
    | nil => exact absurd rfl this
    | cons _ _ => simp
  have h3 := h.pr
  have c : compL (turnC cS (FT (k + 1)) [1] (.nm 1) .none (.bo true (.cons (.call 0 [false] (.cons (.var 1) .nil)) (.cons (.chn .LtE .LtE (.glob 1) (.var 1) (.glob 2)) .nil)))) (stands [some (.val (.tuple (ns.map .int))), none] [.r (.v (.tuple (ns.map .int)))]) (ns.map .int) [] [some (.val (.tuple (ns.map .int))), none] = .ok (ns.map fun n => .bool true) [some (.val (.tuple (ns.map .int))), none] :=
    compL_all (by simp) (fun n hn => by
      have := h.el n hn
      simp [run_is_whole, this.1, this.2]) (by omega)
  have sz := run_size_of (k := k) ns h.pos (by omega)
  have bs := boolsD_rep (fun _ : Int => true) ns
  have z1 : (1 : Int) ≤ ns.length := by omega
  have z2 : (ns.length : Int) ≤ 8 := by omega
  simp [b2, e2_0, c, bs, sz, h3, z1, z2]

theorem run_want_shape (k : Nat) (ns : List Int) (h : Shape ns) : (FT (k + 3) 3).S [some (.val (.tuple (ns.map .int)))] = .ok (.v .none) [some (.val (.tuple (ns.map .int)))] := by
  refine (rF3 rfl).trans ?_
  simp [b3, run_is_shape k ns h]

theorem run_want_nearness (k : Nat) (ns : List Int) (n : Int) (h0 : 0 ≤ n) (h1 : n ≤ ns.length) : (FT (k + 2) 4).S [some (.val (.tuple (ns.map .int))), some (.val (.int n))] = .ok (.v .none) [some (.val (.tuple (ns.map .int))), some (.val (.int n))] := by
  refine (rF4 rfl).trans ?_
  simp [b4, run_is_whole k n, h0, h1]

theorem run_take (k : Nat) (x y m : Int) (hm : 1 ≤ m ∧ m ≤ 1000000) (hy : 0 ≤ y ∧ y ≤ 2147483647) : ∃ d x' y' : Int, (FT (k + 1) 11).S [some (.bor (.lst [.int x, .int y])), some (.val (.int m))] = .ok (.v (.int d)) [some (.bor (.lst [.int x', .int y'])), some (.val (.int m))] ∧ (0 ≤ d ∧ d < m) ∧ 0 ≤ y' ∧ y' ≤ 2147483647 := by
  by_cases hx : 0 < x
  · refine ⟨x % m, x / m, y, (rF11 rfl).trans ?_, ⟨Int.emod_nonneg _ (by omega), Int.emod_lt_of_pos _ (by omega)⟩, hy⟩
    have g1 : 0 < m ∧ m < 1073741824 := by omega
    simp [b11, atI, ixN, hx, g1]
  · have hy2 := Int.emod_nonneg (y * 48271 + 12345) (show (2147483647 : Int) ≠ 0 by decide)
    have hy3 := Int.emod_lt_of_pos (y * 48271 + 12345) (show (0 : Int) < 2147483647 by decide)
    refine ⟨(y * 48271 + 12345) % 2147483647 * ((y * 48271 + 12345) % 2147483647) % 2147483629 / 5 % m, x, (y * 48271 + 12345) % 2147483647, (rF11 rfl).trans ?_, ⟨Int.emod_nonneg _ (by omega), Int.emod_lt_of_pos _ (by omega)⟩, by omega, by omega⟩
    have g1 : y.natAbs < 2 ^ 200 := by omega
    generalize hz : (y * 48271 + 12345) % 2147483647 = z at *
    have g2 : z.natAbs < 2 ^ 200 := by omega
    simp [b11, atI, ixN, hx, bop_mul' g1 (show (48271 : Int).natAbs < 2 ^ 200 by decide), bop_mod (show (0 : Int) < 2147483647 by decide), hz, bop_mul' g2 g2, bop_mod (show (0 : Int) < 2147483629 by decide), bop_fdiv (show (0 : Int) < 5 by decide) (by decide), bop_mod (show 0 < m by omega)]

theorem run_pot (k : Nat) (ns : List Int) (i : Int) (h0 : 0 ≤ i ∧ i ≤ 1000) : ∃ x y : Int, (FT (k + 1) 10).S [some (.val (roL (ns.map .int))), some (.val (.int i))] = .ok (.o (.lst [.int x, .int y])) [some (.val (roL (ns.map .int))), some (.val (.int i))] ∧ 0 ≤ y ∧ y ≤ 2147483647 := by
  have fin : ∀ c : Int, ∃ x y : Int, (0 ≤ y ∧ y ≤ 2147483647) ∧ x = (if 1000000000000000000 < (if c < 0 then -c else c) then (if c < 0 then -c else c) - 1000000000000000000 else 0) ∧ y = (if c < 0 then -c else c) % 2147483579 + 1 := fun c => by
    have h1 := Int.emod_nonneg (if c < 0 then -c else c) (show (2147483579 : Int) ≠ 0 by decide)
    have h2 := Int.emod_lt_of_pos (if c < 0 then -c else c) (show (0 : Int) < 2147483579 by decide)
    exact ⟨_, _, ⟨by omega, by omega⟩, rfl, rfl⟩
  have e1 := bop_mul' (i := 7) (j := i) (by decide) (by omega)
  have e2 := bop_pow (i := 10) (j := 18) ⟨by decide, by decide, by decide⟩
  have e3 : ∀ c : Int, bopD .Mod (.int c) (.int 2147483579) = _ := fun c => bop_mod (i := c) (j := 2147483579) (by decide)
  by_cases hi : i < ns.length
  · obtain ⟨c, hc⟩ : ∃ c, atI (ns.map PyData.int) i = some (.int c) := by
      refine ⟨ns[i.toNat]'(by omega), atI_get (k := i.toNat) (by omega) ?_⟩
      rw [List.getElem?_map, List.getElem?_eq_getElem (by omega)]
      rfl
    obtain ⟨x, y, h1, h2, h3⟩ := fin c
    refine ⟨x, y, (rF10 rfl).trans ?_, h1⟩
    simp [b10, e1, hi, hc, e2, e3, sl_le, ← h2, ← h3]
  · obtain ⟨x, y, h1, h2, h3⟩ := fin (7 * i + 5)
    refine ⟨x, y, (rF10 rfl).trans ?_, h1⟩
    simp [b10, e1, hi, e2, e3, sl_le, ← h2, ← h3]

theorem run_shape (k : Nat) (x y m : Int) (hm : 9 ≤ m ∧ m ≤ 256) (hy : 0 ≤ y ∧ y ≤ 2147483647) : ∃ (ns : List Int) (x' y' : Int), (FT (k + 2) 12).S [some (.bor (.lst [.int x, .int y])), some (.val (.int m))] = .ok (.v (.tuple (ns.map .int))) [some (.bor (.lst [.int x', .int y'])), some (.val (.int m))] ∧ Shape ns ∧ prodI ns ≤ m ∧ 0 ≤ y' ∧ y' ≤ 2147483647 := by
  obtain ⟨d, x1, y1, t1, hd, hy1⟩ := run_take k x y 8 (by omega) hy
  have hr : inR62 (1 + d) := inR_small (by omega)
  obtain ⟨⟨z1, z2, ns, s4, s5⟩, h1, q1, q2, q3, q4, q5, q6, q7⟩ := forL_st (turn := turnF cS (FT (k + 1)) 1000 (.nm 4) p12_0) (fun i : Nat => PyData.int (0 + (i : Int)))
    (fun b : Int × Int × List Int × Option Slot × Option Slot => [some (.bor (.lst [.int b.1, .int b.2.1])), some (.val (.int m)), some (.val (.tuple (b.2.2.1.map .int))), some (.val (.int (prodI b.2.2.1))), b.2.2.2.1, b.2.2.2.2])
    (fun rest b => (0 ≤ b.2.1 ∧ b.2.1 ≤ 2147483647) ∧ nb b.2.2.2.1 = true ∧ nb b.2.2.2.2 = true ∧ (∀ n ∈ b.2.2.1, 2 ≤ n ∧ n ≤ 9) ∧ prodI b.2.2.1 ≤ m ∧ rest.length + b.2.2.1.length ≤ 8 ∧ (b.2.2.1 ≠ [] ∨ rest ≠ []))
    (fun i rest ⟨x, y, ns, s4, s5⟩ ⟨q1, q2, q3, q4, q5, q6, q7⟩ => by
      dsimp only at q1 q2 q3 q4 q5 q6 ⊢
      obtain ⟨d3, x2, y2, t2, hd3, hy2⟩ := run_take k x y 3 (by omega) q1
      obtain ⟨c, hc, hc2⟩ : ∃ c : Int, atI [PyData.int 1, .int 2, .int 8] d3 = some (.int c) ∧ 1 ≤ c ∧ c ≤ 8 := by
        have : d3 = 0 ∨ d3 = 1 ∨ d3 = 2 := by omega
        rcases this with h | h | h <;> subst h
        · exact ⟨1, rfl, by decide, by decide⟩
        · exact ⟨2, rfl, by decide, by decide⟩
        · exact ⟨8, rfl, by decide, by decide⟩
      obtain ⟨d4, x3, y3, t3, hd4, hy3⟩ := run_take k x2 y2 c (by omega) hy2
      have p0 := prodI_pos fun n hn => show (1 : Int) ≤ n by have := q4 n hn; omega
      have pm := bop_mul' (i := prodI ns) (j := 2 + d4) (by omega) (by omega)
      rw [List.length_cons] at q6
      have e1 : prodI (ns ++ [2 + d4]) = prodI ns * (2 + d4) := by rw [prodI_append]; simp [prodI]
      by_cases hle : prodI ns * (2 + d4) ≤ m
      · refine ⟨(x3, y3, ns ++ [2 + d4], some (.val (.int (0 + (i : Int)))), some (.val (.int (2 + d4)))), ?_, hy3, rfl, rfl, fun n hn => ?_, by dsimp only; rw [e1]; exact hle, by dsimp only; rw [List.length_append, List.length_singleton]; omega, .inl (by simp)⟩
        · have sz : ns.length + 1 ≤ sizeLine := sl_le (by omega)
          simp [p12_0, q2, q3, t2, hc, t3, pm, hle, sl_le, sz, e1]
        · rcases List.mem_append.mp hn with h | h
          · exact q4 n h
          · obtain rfl := List.mem_singleton.mp h
            omega
      · refine ⟨(x3, y3, ns, some (.val (.int (0 + (i : Int)))), some (.val (.int (2 + d4)))), ?_, hy3, rfl, rfl, q4, q5, by dsimp only; omega, ?_⟩
        · simp [p12_0, q2, q3, t2, hc, t3, pm, hle, sl_le]
        · refine .inl fun z => ?_
          dsimp only at z
          subst z
          simp only [prodI] at hle
          omega) (List.range (1 + d).toNat) (x1, y1, [], none, none) ⟨hy1, rfl, rfl, (fun n hn => nomatch hn), (by simp only [prodI]; omega), (by simp; omega), .inr (by
            intro z
            have := congrArg List.length z
            simp at this
            omega)⟩
  dsimp only at h1 q1 q4 q5 q6 q7
  have hrd : rangeD 0 (1 + d) = (List.range (1 + d).toNat).map fun i : Nat => PyData.int (0 + (i : Int)) := by
    unfold rangeD
    rw [Int.sub_zero]
  rw [← hrd] at h1
  refine ⟨ns, z1, z2, (rF12 rfl).trans ?_, ⟨?_, by simpa using q6, q4, by omega⟩, q5, q1⟩
  · simp only [prodI, List.map_nil] at h1
    simp [b12, t1, range1_ok hr, h1, sl_le]
  · rcases q7 with z | z
    · exact z
    · exact absurd rfl z



theorem run_product_of (k : Nat) (d : PyData) (ns : List Int) (hd : itemsD d = some (ns.map .int)) (h : ∀ n ∈ ns, 1 ≤ n) (hb : prodI ns < 2 ^ 100) : (FT (k + 1) 7).S [some (.val d)] = .ok (.v (.int (prodI ns))) [some (.val d)] := by
  refine (rF7 rfl).trans ?_
  obtain ⟨⟨a, s⟩, h1, q1, q2, q3, q4⟩ := forL_st (turn := turnF cS (FT k) 1000 (.nm 2) p7_0) PyData.int (fun b : Int × Option Slot => [some (.val d), some (.val (.int b.1)), b.2]) (fun rest b => (∀ n ∈ rest, 1 ≤ n) ∧ nb b.2 = true ∧ b.1 * prodI rest = prodI ns ∧ 1 ≤ b.1)
    (fun n rest ⟨a, s⟩ ⟨q2, q3, q4, q5⟩ => by
      dsimp only at q3 q4 q5 ⊢
      have hn := q2 n List.mem_cons_self
      have hr := prodI_pos fun x hx => q2 x (List.mem_cons_of_mem n hx)
      have e1 : a * n * prodI rest = prodI ns := by rw [Int.mul_assoc]; exact q4
      have han : 1 ≤ a * n := Int.le_trans q5 (le_mul_of q5 hn)
      have := le_mul_of han hr
      have := le_mul_of q5 hn
      have := le_mul_of hn q5
      rw [Int.mul_comm n a] at this
      refine ⟨(a * n, some (.val (.int n))), ?_, fun x hx => q2 x (List.mem_cons_of_mem _ hx), rfl, e1, han⟩
      simp [p7_0, q3, bop_mul' (show a.natAbs < 2 ^ 200 by omega) (show n.natAbs < 2 ^ 200 by omega)]) ns (1, none) ⟨h, rfl, Int.one_mul _, by decide⟩
  dsimp only at h1 q3
  rw [prodI, Int.mul_one] at q3
  simp [b7, hd, h1, q3]

def lstI (l : List Int) : PyData := .list (l.map .int)
theorem run_choices_of (k : Nat) (sp : List Int) (hl : sp.length ≤ 8) : (FT (k + 1) 5).S [some (.val (.list (sp.map .int)))] = .ok (.o (.lst ((M81.chs sp [[]]).map lstI))) [some (.val (.list (sp.map .int)))] := by
  refine (rF5 rfl).trans ?_
  obtain ⟨⟨acc, s2, s3⟩, h1, q1, q2, q3, q4, q5⟩ := forL_st (turn := turnF cS (FT k) 1000 (.nm 2) p5_1) PyData.int (fun b : List (List Int) × Option Slot × Option Slot => [some (.val (.list (sp.map .int))), some (.own (.lst (b.1.map lstI))), b.2.1, b.2.2])
    (fun rest b => nb b.2.1 = true ∧ b.2.2 = none ∧ M81.chs rest b.1 = M81.chs sp [[]] ∧ b.1.length * 2 ^ rest.length ≤ 256 ∧ ∀ l ∈ b.1, l.length + rest.length ≤ 8)
    (fun n rest ⟨acc, s2, s3⟩ ⟨q1, q2, q3, q4, q5⟩ => by
      dsimp only at q1 q2 q3 q4 q5 ⊢
      subst q2
      have hp : 1 ≤ 2 ^ rest.length := Nat.one_le_two_pow
      rw [List.length_cons, Nat.pow_succ] at q4
      have hacc : acc.length + acc.length ≤ 256 := by
        have : acc.length * 2 * 1 ≤ acc.length * 2 * 2 ^ rest.length := Nat.mul_le_mul_left _ hp
        have e : acc.length * (2 ^ rest.length * 2) = acc.length * 2 * 2 ^ rest.length := by rw [Nat.mul_comm (2 ^ rest.length) 2, Nat.mul_assoc]
        omega
      refine ⟨(acc ++ acc.map fun l => l ++ [n], some (.val (.int n)), none), ?_, rfl, rfl, q3, ?_, fun l hl' => ?_⟩
      · have c : compL (turnC cS (FT k) [3] (.nm 3) .none (.bin .Add (.var 3) (.lst (.cons (.var 2) .nil)))) (stands [some (.val (.list (sp.map .int))), some (.own (.lst (acc.map lstI))), some (.val (.int n)), none] [.sl 1]) (acc.map lstI) [] [some (.val (.list (sp.map .int))), some (.own (.lst (acc.map lstI))), some (.val (.int n)), none] = .ok (acc.map fun l => lstI (l ++ [n])) [some (.val (.list (sp.map .int))), some (.own (.lst (acc.map lstI))), some (.val (.int n)), none] :=
          compL_all (by simp) (fun l hl' => by
            have h5 := q5 l hl'
            rw [List.length_cons] at h5
            have sz : l.length + 1 ≤ sizeLine := sl_le (by omega)
            simp [lstI, sl_le, sz]) (by omega)
        have sz : acc.length + acc.length ≤ sizeLine := sl_le (by omega)
        simp [p5_1, e5_0, q1, c, sz, Function.comp_def]
      · dsimp only
        rw [List.length_append, List.length_map]
        have e : (acc.length + acc.length) * 2 ^ rest.length = acc.length * (2 ^ rest.length * 2) := by
          rw [← Nat.two_mul, Nat.mul_comm 2, Nat.mul_assoc, Nat.mul_comm 2]
        omega
      · dsimp only at hl'
        rcases List.mem_append.mp hl' with h | h
        · have := q5 l h
          rw [List.length_cons] at this
          omega
        · obtain ⟨m, hm, rfl⟩ := List.mem_map.mp h
          have := q5 m hm
          rw [List.length_cons] at this
          rw [List.length_append, List.length_singleton]
          omega) sp ([[]], none, none) ⟨rfl, rfl, rfl, (by
        dsimp only
        rw [List.length_singleton, Nat.one_mul]
        exact Nat.pow_le_pow_right (by decide) hl), fun l h => (by
        dsimp only at h
        rw [List.mem_singleton.mp h]
        simpa using hl)⟩
  dsimp only at h1 q3
  rw [M81.chs] at q3
  subst q3
  have e0 : ([[]] : List (List Int)).map lstI = [.list []] := rfl
  rw [e0] at h1
  simp [b5, h1, sl_le]

theorem run_can_be_had (k : Nat) (d : PyData) (S own : List Int) (m : Nat) (hd : biD .sortedR [d] = some (.o (.lst ((sortI S).reverse.map .int)))) (hS : S.length ≤ 1000) :
    (FT (k + 1) 6).S [some (.val d), some (.val (.tuple (own.map .int))), some (.val (.int (m : Int)))] = .ok (.v (.bool (M81.can S own m))) [some (.val d), some (.val (.tuple (own.map .int))), some (.val (.int (m : Int)))] := by
  refine (rF6 rfl).trans ?_
  have e1 : cutD ((sortI S).reverse.map PyData.int) (some (m : Int)) none = ((sortI S).reverse.drop m).map PyData.int := by
    rw [cut_from (by omega), Int.toNat_natCast, List.map_drop]
  have hl : ((sortI S).reverse.drop m).length ≤ 1000 := by
    rw [List.length_drop, List.length_reverse, (sortI_perm S).length_eq]
    omega
  unfold M81.can
  rw [← M81.dom_eq]
  generalize hw : (sortI S).reverse.drop m = w at *
  generalize ht : (sortI own).reverse = t at *
  have c : compL (turnC cS (FT k) [5, 6] (.tup (.cons (.nm 5) (.cons (.nm 6) .nil))) .none (.cmp .LtE (.var 5) (.var 6))) (stands [some (.val d), some (.val (.tuple (own.map .int))), some (.val (.int (m : Int))), some (.own (.lst (w.map .int))), some (.own (.lst (t.map .int))), none, none] [.sl 3, .sl 4]) ((w.zip t).map fun p => .tuple [.int p.1, .int p.2]) []
      [some (.val d), some (.val (.tuple (own.map .int))), some (.val (.int (m : Int))), some (.own (.lst (w.map .int))), some (.own (.lst (t.map .int))), none, none] = .ok ((w.zip t).map fun p => .bool (decide (p.1 ≤ p.2))) [some (.val d), some (.val (.tuple (own.map .int))), some (.val (.int (m : Int))), some (.own (.lst (w.map .int))), some (.own (.lst (t.map .int))), none, none] :=
    compL_all (by simp) (fun p hp => by simp) (by rw [List.length_zip]; omega)
  have bs := boolsD_rep (fun p : Int × Int => decide (p.1 ≤ p.2)) (w.zip t)
  have ht' : (List.map PyData.int (sortI own)).reverse = t.map PyData.int := by rw [← ht, List.map_reverse]
  have e1' : cutD (List.map PyData.int (sortI S)).reverse (some (m : Int)) none = w.map PyData.int := by rw [← List.map_reverse]; exact e1
  by_cases hle : w.length ≤ t.length
  · have hle' : (w.length : Int) ≤ t.length := by omega
    simp [b6, e6_0, hd, e1', ht', hle', hle, zipD_map, c, bs, Function.comp_def]
  · have hle' : ¬ (w.length : Int) ≤ t.length := by omega
    simp [b6, e6_0, hd, e1', ht', hle', hle]

def ixs (L : Nat) : List Int := (List.range L).map fun i : Nat => (i : Int)
def atF (oth : List Int) (i : Int) : Int := oth.getD i.toNat 0
theorem ixs_at (oth : List Int) : (ixs oth.length).map (atF oth) = oth := by
  unfold ixs
  rw [List.map_map]
  refine List.ext_getElem (by simp) fun i h1 h2 => ?_
  simp [atF, List.getD, List.getElem?_eq_getElem h2]
theorem atF_at {oth : List Int} {i : Int} (h : 0 ≤ i ∧ i < oth.length) : atI (oth.map PyData.int) i = some (.int (atF oth i)) := by
  refine atI_get (k := i.toNat) (by omega) ?_
  rw [List.getElem?_map, List.getElem?_eq_getElem (show i.toNat < oth.length by omega)]
  simp [atF, List.getD, List.getElem?_eq_getElem (show i.toNat < oth.length by omega)]
structure OkC (oth : List Int) (l : List Int) : Prop where
  ix : ∀ i ∈ l, 0 ≤ i ∧ i < (oth.length : Int)
  len : l.length ≤ oth.length
  pos : ∀ x ∈ l.map (atF oth), 1 ≤ x
  le : prodI (l.map (atF oth)) ≤ prodI oth
theorem okC_of {oth : List Int} (h : ∀ x ∈ oth, 1 ≤ x) {l : List Int} (hl : l ∈ M81.chs (ixs oth.length) [[]]) : OkC oth l := by
  obtain ⟨a, ha, s, hs, rfl⟩ := M81.mem_chs.mp hl
  obtain rfl := List.mem_singleton.mp ha
  rw [List.nil_append]
  have hs' : (s.map (atF oth)).Sublist oth := by
    have := hs.map (atF oth)
    rwa [ixs_at] at this
  obtain ⟨R, p⟩ := M81.sub_split hs'
  have h1 : ∀ x ∈ s.map (atF oth), 1 ≤ x := fun x hx => h x (p.mem_iff.mpr (by simp only [List.mem_append]; exact .inl hx))
  have h2 : ∀ x ∈ R, 1 ≤ x := fun x hx => h x (p.mem_iff.mpr (by simp only [List.mem_append]; exact .inr hx))
  refine ⟨fun i hi => ?_, ?_, h1, ?_⟩
  · have := hs.subset hi
    unfold ixs at this
    obtain ⟨j, hj, rfl⟩ := List.mem_map.mp this
    have := List.mem_range.mp hj
    omega
  · have := hs.length_le
    unfold ixs at this
    simpa using this
  · rw [M81.prodI_perm p, prodI_append]
    exact le_mul_of (prodI_pos h1) (prodI_pos h2)
theorem run_factor_of (k : Nat) (one oth : List Int) (n nt : Int) (ho : Shape oth) : (FT (k + 2) 8).S [some (.val (.tuple (one.map .int))), some (.val (.int n)), some (.val (.tuple (oth.map .int))), some (.val (.int nt))] =
    .ok (.v (if nt < n then .none else .int (M81.facF one oth (nt - n).toNat))) [some (.val (.tuple (one.map .int))), some (.val (.int n)), some (.val (.tuple (oth.map .int))), some (.val (.int nt))] := by
  refine (rF8 rfl).trans ?_
  by_cases hn : nt < n
  · simp [b8, hn]
  · have hpo := run_product_of k (.tuple (oth.map .int)) oth rfl ho.pos (by have := ho.pr; omega)
    have hL := ho.len
    have hch := run_choices_of k (ixs oth.length) (by unfold ixs; simpa using hL)
    have er : (List.range oth.length).map (fun i : Nat => PyData.int (i : Int)) = (ixs oth.length).map .int := by
      unfold ixs
      rw [List.map_map]
      rfl
    have g1 : (0 : Int) ≤ oth.length ∧ (oth.length : Int) ≤ 1000000 := by omega
    have em : nt - n = ((nt - n).toNat : Int) := by omega
    obtain ⟨⟨f, s5, s6⟩, h1, q1, q2, q3, q4⟩ := forL_st (turn := turnF cS (FT (k + 1)) 1000 (.nm 5) p8_1) lstI
      (fun b : Int × Option Slot × Option Slot => [some (.val (.tuple (one.map .int))), some (.val (.int n)), some (.val (.tuple (oth.map .int))), some (.val (.int nt)), some (.val (.int b.1)), b.2.1, b.2.2, none])
      (fun rest b => nb b.2.1 = true ∧ nb b.2.2 = true ∧ rest.foldl (fun f l => if M81.can (l.map (atF oth)) one (nt - n).toNat = true then M81.minI2 f (prodI oth / prodI (l.map (atF oth))) else f) b.1 = M81.facF one oth (nt - n).toNat ∧ ∀ l ∈ rest, OkC oth l)
      (fun l rest ⟨f, s5, s6⟩ ⟨q1, q2, q3, q4⟩ => by
        dsimp only at q1 q2 q3 q4 ⊢
        have hl := q4 l List.mem_cons_self
        have hlen := hl.len
        have hpp := prodI_pos hl.pos
        have hle := hl.le
        have hpr := ho.pr
        refine ⟨(if M81.can (l.map (atF oth)) one (nt - n).toNat = true then M81.minI2 f (prodI oth / prodI (l.map (atF oth))) else f, some (.val (lstI l)), some (.val (.list ((l.map (atF oth)).map .int)))), ?_, rfl, rfl, q3, fun x hx => q4 x (List.mem_cons_of_mem _ hx)⟩
        have c : compL (turnC cS (FT (k + 1)) [7] (.nm 7) .none (.idx (.var 2) (.var 7))) (stands [some (.val (.tuple (one.map .int))), some (.val (.int n)), some (.val (.tuple (oth.map .int))), some (.val (.int nt)), some (.val (.int f)), some (.val (lstI l)), s6, none] [.r (.v (.list (l.map .int)))]) (l.map .int) []
            [some (.val (.tuple (one.map .int))), some (.val (.int n)), some (.val (.tuple (oth.map .int))), some (.val (.int nt)), some (.val (.int f)), some (.val (lstI l)), s6, none] = .ok (l.map fun i => .int (atF oth i)) [some (.val (.tuple (one.map .int))), some (.val (.int n)), some (.val (.tuple (oth.map .int))), some (.val (.int nt)), some (.val (.int f)), some (.val (lstI l)), s6, none] :=
          compL_all (by simp) (fun i hi => by simp [atF_at (hl.ix i hi)]) (by omega)
        have e2 : (l.map fun i => PyData.int (atF oth i)) = (l.map (atF oth)).map .int := by rw [List.map_map]; rfl
        have e3 : biD .sortedR [.list ((l.map (atF oth)).map .int)] = some (.o (.lst ((sortI (l.map (atF oth))).reverse.map .int))) := by
          rw [bi_sortRL, intsD_ints]
          rfl
        have hcan := run_can_be_had k (.list ((l.map (atF oth)).map .int)) (l.map (atF oth)) one (nt - n).toNat e3 (by rw [List.length_map]; omega)
        have hps := run_product_of k (.list ((l.map (atF oth)).map .int)) (l.map (atF oth)) rfl hl.pos (by omega)
        have hdv := bop_fdiv (i := prodI oth) (j := prodI (l.map (atF oth))) (by omega) (by omega)
        rw [← em] at hcan
        have hit : itemsD (lstI l) = some (l.map .int) := rfl
        have hli : lstI l = .list (l.map .int) := rfl
        rw [e2] at c
        generalize l.map (atF oth) = S at *
        rw [hli] at c ⊢
        cases hc : M81.can S one (nt - n).toNat with
        | false =>
          rw [hc] at hcan
          simp [p8_1, e8_0, q1, q2, c, hcan]
        | true =>
          rw [hc] at hcan
          simp [p8_1, e8_0, q1, q2, c, hcan, hpo, hps, hdv, M81.minI2])
      (M81.chs (ixs oth.length) [[]]) (prodI oth, none, none) ⟨rfl, rfl, (by
        dsimp only
        unfold M81.facF
        have := M81.chs_map (atF oth) (ixs oth.length) [[]]
        rw [ixs_at] at this
        rw [show ([[]] : List (List Int)) = [[]].map (List.map (atF oth)) by rfl, ← this, List.foldl_map]
        rfl), fun l hl => okC_of ho.pos hl⟩
    dsimp only at h1 q3
    rw [List.foldl_nil] at q3
    subst q3
    simp [b8, hn, hpo, g1, er, hch, h1]

theorem run_factor (k : Nat) (one oth : List Int) (n nt : Int) (h1 : Shape one) (ho : Shape oth) (hn : 0 ≤ n ∧ n ≤ one.length) (hnt : 0 ≤ nt ∧ nt ≤ oth.length) : (FT (k + 4) 9).S [some (.val (.tuple (one.map .int))), some (.val (.int n)), some (.val (.tuple (oth.map .int))), some (.val (.int nt))] =
    .ok (.v (if nt < n then .none else .int (M81.facF one oth (nt - n).toNat))) [some (.val (.tuple (one.map .int))), some (.val (.int n)), some (.val (.tuple (oth.map .int))), some (.val (.int nt))] := by
  refine (rF9 rfl).trans ?_
  simp [b9, run_want_shape k one h1, run_want_shape k oth ho, run_want_nearness (k + 1) one n hn.1 hn.2, run_want_nearness (k + 1) oth nt hnt.1 hnt.2, run_factor_of (k + 1) one oth n nt ho]

def geI (s : Int) (own : List Int) (j : Nat) : List Int := (own.zipIdx j).filterMap fun p => if s ≤ p.1 then some (p.2 : Int) else none
theorem geI_none {s : Int} : ∀ {own : List Int} {j : Nat}, M81.firstGe s own = none → geI s own j = []
  | [], j, _ => rfl
  | x :: own, j, h => by
    unfold M81.firstGe at h
    split at h
    · cases h
    · rename_i hx
      unfold geI
      rw [List.zipIdx_cons, List.filterMap_cons, if_neg hx]
      exact geI_none (own := own) (j := j + 1) (by simpa using h)
theorem geI_some {s : Int} : ∀ {own : List Int} {j k : Nat}, M81.firstGe s own = some k → ∃ rest, geI s own j = ((k + j : Nat) : Int) :: rest
  | [], j, k, h => by cases h
  | x :: own, j, k, h => by
    unfold M81.firstGe at h
    split at h
    · rename_i hx
      cases h
      unfold geI
      rw [List.zipIdx_cons, List.filterMap_cons, if_pos hx]
      exact ⟨_, by rw [Nat.zero_add]⟩
    · rename_i hx
      obtain ⟨i, h1, rfl⟩ := Option.map_eq_some_iff.mp h
      obtain ⟨rest, h2⟩ := geI_some (own := own) (j := j + 1) h1
      unfold geI
      rw [List.zipIdx_cons, List.filterMap_cons, if_neg hx]
      refine ⟨rest, ?_⟩
      unfold geI at h2
      rw [h2, show i + (j + 1) = i + 1 + j by omega]
theorem atI_zero {α : Type} {x : α} {l : List α} : atI (x :: l) 0 = some x := atI_get (k := 0) rfl rfl
theorem run_least : ∀ (ss : List Int) (k : Nat) (own : List Int) (m : Nat), (∀ x ∈ ss, 1 ≤ x) → prodI ss ≤ 256 → own.length ≤ 100 → (FT (k + ss.length + 1) 13).S [some (.val (.list (ss.map .int))), some (.val (.list (own.map .int))), some (.val (.int (m : Int)))] =
    .ok (.v (.int (M81.lea ss own m))) [some (.val (.list (ss.map .int))), some (.val (.list (own.map .int))), some (.val (.int (m : Int)))]
  | [], k, own, m, _, _, _ => by
    refine (rF13 rfl).trans ?_
    have e := eq_lnil []
    rw [List.map_nil] at e
    simp [b13, e, sl_le, M81.lea]
  | s :: ss, k, own, m, hp, hb, hl => by
    have hs := hp s List.mem_cons_self
    have hp' : ∀ x ∈ ss, 1 ≤ x := fun x hx => hp x (List.mem_cons_of_mem _ hx)
    have hpp := prodI_pos hp'
    have hb1 : s * prodI ss ≤ 256 := hb
    have h2 := le_mul_of hs hpp
    have h3 := le_mul_of hpp hs
    rw [Int.mul_comm] at h3
    have hb' : prodI ss ≤ 256 := by omega
    have ih1 := run_least ss k own m hp' hb' hl
    have ih2 := run_least ss k own (m - 1) hp' hb' hl
    have lb := M81.lea_le_prod ss own m hp'
    have em := bop_mul' (i := s) (j := M81.lea ss own m) (by omega) (by omega)
    have e0 := eq_lnil (s :: ss)
    have d1 : decide (s :: ss = []) = false := by simp
    rw [d1, List.map_cons] at e0
    have ct : cutD (PyData.int s :: ss.map .int) (some 1) none = ss.map .int := by
      rw [cut_from (by decide)]
      rfl
    refine (rF13 rfl).trans ?_
    show finA _ (evSs cS (FT (k + ss.length + 1)) 1000 b13 _) = _
    have c : ∀ f : Int, compL (turnC cS (FT (k + ss.length + 1)) [5, 6] (.tup (.cons (.nm 5) (.cons (.nm 6) .nil))) (.some (.cmp .GtE (.var 6) (.idx (.var 0) (.con (.int 0))))) (.var 5)) (stands [some (.val (.list (.int s :: ss.map .int))), some (.val (.list (own.map .int))), some (.val (.int (m : Int))), some (.val (.int f)), none, none, none] [.r (.v (.list (own.map .int)))])
        (own.zipIdx.map fun p => .tuple [.int (p.2 : Int), .int p.1]) [] [some (.val (.list (.int s :: ss.map .int))), some (.val (.list (own.map .int))), some (.val (.int (m : Int))), some (.val (.int f)), none, none, none] = .ok ((geI s own 0).map .int) [some (.val (.list (.int s :: ss.map .int))), some (.val (.list (own.map .int))), some (.val (.int (m : Int))), some (.val (.int f)), none, none, none] := fun f => by
      have q := compL_some (turn := turnC cS (FT (k + ss.length + 1)) [5, 6] (.tup (.cons (.nm 5) (.cons (.nm 6) .nil))) (.some (.cmp .GtE (.var 6) (.idx (.var 0) (.con (.int 0))))) (.var 5)) (g := stands [some (.val (.list (.int s :: ss.map .int))), some (.val (.list (own.map .int))), some (.val (.int (m : Int))), some (.val (.int f)), none, none, none] [.r (.v (.list (own.map .int)))])
        (e := [some (.val (.list (.int s :: ss.map .int))), some (.val (.list (own.map .int))), some (.val (.int (m : Int))), some (.val (.int f)), none, none, none]) (mk := fun p : Int × Nat => .tuple [.int (p.2 : Int), .int p.1]) (f := fun p => if s ≤ p.1 then some (.int (p.2 : Int)) else none) (items := own.zipIdx) (by simp)
        (fun p hp => by
          by_cases h : s ≤ p.1
          · simp [atI_zero, h]
          · simp [atI_zero, h]) (by rw [List.length_zipIdx]; omega)
      rw [q]
      congr 1
      unfold geI
      rw [List.map_filterMap]
      congr 1
      funext p
      by_cases h : s ≤ p.1 <;> simp [h]
    have en : enumItems (.list (own.map .int)) = some (own.zipIdx.map fun p => .tuple [.int (p.2 : Int), .int p.1]) := by
      rw [enum_l, enumD_map]
    have fin : ∀ b : Int, (match M81.firstGe s own with
        | none => b
        | some k => M81.minI2 b (M81.lea ss (own.take k ++ own.drop (k + 1)) m)) = M81.lea (s :: ss) own m → finA [some (.val (.list (.int s :: ss.map .int))), some (.val (.list (own.map .int))), some (.val (.int (m : Int)))]
          (evSs cS (FT (k + ss.length + 1)) 1000 (.cons (.asg 4 e13_0) (.cons (.iff (.cmp .NotEq (.var 4) (.lst .nil)) (.cons (.asg 3 (.bi .min (.cons (.var 3) (.cons (.call 13 [false, false, false] (.cons (.slc (.var 0) (.some (.con (.int 1))) .none) (.cons (.bin .Add (.slc (.var 1) .none (.some (.idx (.var 4) (.con (.int 0))))) (.slc (.var 1) (.some (.bin .Add (.idx (.var 4) (.con (.int 0))) (.con (.int 1)))) .none)) (.cons (.var 2) .nil)))) .nil)))) .nil) .nil) (.cons (.ret (.mov 3)) .nil)))
            [some (.val (.list (.int s :: ss.map .int))), some (.val (.list (own.map .int))), some (.val (.int (m : Int))), some (.val (.int b)), none, none, none]) =
        .ok (.v (.int (M81.lea (s :: ss) own m))) [some (.val (.list (.int s :: ss.map .int))), some (.val (.list (own.map .int))), some (.val (.int (m : Int)))] := fun b hb => by
      cases hk : M81.firstGe s own with
      | none =>
        rw [hk] at hb
        have c' := c b
        rw [geI_none hk] at c'
        have ee := eq_lnil []
        rw [List.map_nil] at ee c'
        simp [e13_0, en, c', ee, sl_le, ← hb]
      | some j =>
        rw [hk] at hb
        obtain ⟨rest, hr⟩ := geI_some (j := 0) hk
        obtain ⟨hj, _⟩ := M81.firstGe_some hk
        have c' := c b
        rw [hr, Nat.add_zero, List.map_cons] at c'
        have ee := eq_lnil ((j : Int) :: rest)
        rw [List.map_cons] at ee
        have t1 : cutD (own.map PyData.int) none (some (j : Int)) = (own.map .int).take j := by rw [cut_to (by omega), Int.toNat_natCast]
        have t2 : cutD (own.map PyData.int) (some ((j : Int) + 1)) none = (own.map .int).drop (j + 1) := by rw [cut_from (by omega), show ((j : Int) + 1).toNat = j + 1 by omega]
        have ih3 := run_least ss k (own.take j ++ own.drop (j + 1)) m hp' hb' (by rw [List.length_append, List.length_take, List.length_drop]; omega)
        rw [List.map_append, List.map_take, List.map_drop] at ih3
        have sz : min j own.length + (own.length - (j + 1)) ≤ sizeLine := sl_le (by omega)
        simp [e13_0, en, c', ee, sl_le, atI_zero, t1, t2, sz, ct, ih3]
        unfold M81.minI2 at hb
        dsimp only at hb
        rw [← hb]
    have body : b13 = .cons (.iff (.cmp .Eq (.var 0) (.lst .nil)) (.cons (.ret (.con (.int 1))) .nil) .nil) (.cons (.asg 3 (.bin .Mult (.idx (.var 0) (.con (.int 0))) (.call 13 [false, false, false] (.cons (.slc (.var 0) (.some (.con (.int 1))) .none) (.cons (.var 1) (.cons (.var 2) .nil))))))
        (.cons (.iff (.cmp .Gt (.var 2) (.con (.int 0))) (.cons (.asg 3 (.bi .min (.cons (.var 3) (.cons (.call 13 [false, false, false] (.cons (.slc (.var 0) (.some (.con (.int 1))) .none) (.cons (.var 1) (.cons (.bin .Sub (.var 2) (.con (.int 1))) .nil)))) .nil)))) .nil) .nil)
        (.cons (.asg 4 e13_0) (.cons (.iff (.cmp .NotEq (.var 4) (.lst .nil)) (.cons (.asg 3 (.bi .min (.cons (.var 3) (.cons (.call 13 [false, false, false] (.cons (.slc (.var 0) (.some (.con (.int 1))) .none) (.cons (.bin .Add (.slc (.var 1) .none (.some (.idx (.var 4) (.con (.int 0))))) (.slc (.var 1) (.some (.bin .Add (.idx (.var 4) (.con (.int 0))) (.con (.int 1)))) .none)) (.cons (.var 2) .nil)))) .nil)))) .nil) .nil) (.cons (.ret (.mov 3)) .nil))))) := rfl
    rw [body]
    generalize (CSs.cons (.asg 4 e13_0) (.cons (.iff (.cmp .NotEq (.var 4) (.lst .nil)) (.cons (.asg 3 (.bi .min (.cons (.var 3) (.cons (.call 13 [false, false, false] (.cons (.slc (.var 0) (.some (.con (.int 1))) .none) (.cons (.bin .Add (.slc (.var 1) .none (.some (.idx (.var 4) (.con (.int 0))))) (.slc (.var 1) (.some (.bin .Add (.idx (.var 4) (.con (.int 0))) (.con (.int 1)))) .none)) (.cons (.var 2) .nil)))) .nil)))) .nil) .nil) (.cons (.ret (.mov 3)) .nil))) = tl at fin ⊢
    by_cases hm : 0 < m
    · have hm' : (0 : Int) < m := by omega
      have e1 : (m : Int) - 1 = ((m - 1 : Nat) : Int) := by omega
      have f := fin (M81.minI2 (s * M81.lea ss own m) (M81.lea ss own (m - 1))) (by
        rw [M81.lea]
        simp only [if_pos hm]
        all_goals (cases M81.firstGe s own <;> rfl))
      unfold M81.minI2 at f
      simp [e0, sl_le, ct, ih1, em, hm, e1, ih2, atI_zero]
      exact f
    · have hm' : ¬ (0 : Int) < m := by omega
      have f := fin (s * M81.lea ss own m) (by
        rw [M81.lea]
        simp only [if_neg hm]
        all_goals (cases M81.firstGe s own <;> rfl))
      simp [e0, sl_le, ct, ih1, em, hm, atI_zero]
      exact f

def facV (one oth : List Int) (n nt : Int) : PyData := if nt < n then .none else .int (M81.facF one oth (nt - n).toNat)
theorem run_law_factor (k : Nat) (one oth : List Int) (n nt : Int) (h1 : Shape one) (ho : Shape oth) : (FT (k + 20) 14).S [some (.val (.tuple (one.map .int))), some (.val (.int n)), some (.val (.tuple (oth.map .int))), some (.val (.int nt))] =
    .ok (.v (facV one oth n nt)) [some (.val (.tuple (one.map .int))), some (.val (.int n)), some (.val (.tuple (oth.map .int))), some (.val (.int nt))] := by
  refine (rF14 rfl).trans ?_
  unfold facV
  by_cases hn : nt < n
  · simp [b14, hn]
  · have em : nt - n = ((nt - n).toNat : Int) := by omega
    have hl := ho.len
    have hl1 := h1.len
    have e1 : k + 19 = (k + 18 - oth.length) + (sortI oth).reverse.length + 1 := by
      rw [List.length_reverse, (sortI_perm oth).length_eq]
      omega
    have ms : ∀ x ∈ (sortI oth).reverse, 1 ≤ x := fun x hx => ho.pos x ((M81.desc_perm oth).mem_iff.mp hx)
    have r := run_least (sortI oth).reverse (k + 18 - oth.length) (sortI one) (nt - n).toNat ms (by rw [M81.prodI_perm (M81.desc_perm oth)]; exact ho.pr) (by rw [(sortI_perm one).length_eq]; omega)
    rw [← e1, ← em, List.map_reverse, ← M81.fac_lea one oth _ ho.pos] at r
    simp [b14, hn, r]

theorem run_right (k : Nat) (one oth : List Int) (n nt : Int) (h1 : Shape one) (ho : Shape oth) (hn : 0 ≤ n ∧ n ≤ one.length) (hnt : 0 ≤ nt ∧ nt ≤ oth.length) : (FT (k + 21) 15).S [some (.val (.tuple [.tuple (one.map .int), .int n])), some (.val (.tuple [.tuple (oth.map .int), .int nt]))] =
    .ok (.v (.bool true)) [some (.val (.tuple [.tuple (one.map .int), .int n])), some (.val (.tuple [.tuple (oth.map .int), .int nt]))] := by
  refine (rF15 rfl).trans ?_
  have a0 : ∀ x y : PyData, atI [x, y] 0 = some x := fun _ _ => rfl
  have a1 : ∀ x y : PyData, atI [x, y] 1 = some y := fun _ _ => rfl
  have r1 := run_factor (k + 16) one oth n nt h1 ho hn hnt
  have r2 := run_law_factor k one oth n nt h1 ho
  unfold facV at r2
  by_cases h : nt < n
  · rw [if_pos h] at r1 r2
    simp [b15, a0, a1, r1, r2]
  · rw [if_neg h] at r1 r2
    simp [b15, a0, a1, r1, r2]

theorem run_by_way (k : Nat) (a b c : List Int) (n1 n2 n3 : Int) (ha : Shape a) (hb : Shape b) (hc : Shape c) (h1 : 0 ≤ n1 ∧ n1 ≤ a.length) (h2 : 0 ≤ n2 ∧ n2 ≤ b.length) (h3 : 0 ≤ n3 ∧ n3 ≤ c.length) :
    (FT (k + 5) 16).S [some (.val (.tuple [.tuple (a.map .int), .int n1])), some (.val (.tuple [.tuple (b.map .int), .int n2])), some (.val (.tuple [.tuple (c.map .int), .int n3]))] =
    .ok (.v (.bool true)) [some (.val (.tuple [.tuple (a.map .int), .int n1])), some (.val (.tuple [.tuple (b.map .int), .int n2])), some (.val (.tuple [.tuple (c.map .int), .int n3]))] := by
  refine (rF16 rfl).trans ?_
  have a0 : ∀ x y : PyData, atI [x, y] 0 = some x := fun _ _ => rfl
  have a1 : ∀ x y : PyData, atI [x, y] 1 = some y := fun _ _ => rfl
  have r1 := run_factor k a b n1 n2 ha hb h1 h2
  have r2 := run_factor k b c n2 n3 hb hc h2 h3
  have r3 := run_factor k a c n1 n3 ha hc h1 h3
  by_cases q1 : n2 < n1
  · rw [if_pos q1] at r1
    by_cases q2 : n3 < n2
    · rw [if_pos q2] at r2
      simp [b16, a0, a1, r1, r2]
    · rw [if_neg q2] at r2
      simp [b16, a0, a1, r1, r2]
  · rw [if_neg q1] at r1
    by_cases q2 : n3 < n2
    · rw [if_pos q2] at r2
      simp [b16, a0, a1, r1, r2]
    · rw [if_neg q2] at r2
      rw [if_neg (by omega)] at r3
      have e : (n3 - n1).toNat = (n2 - n1).toNat + (n3 - n2).toNat := by omega
      have t := M81.fac_tri a b c (n2 - n1).toNat (n3 - n2).toNat hb.pos hc.pos
      rw [← e] at t
      have bd : ∀ (x y : List Int) (m : Nat), Shape y → 1 ≤ M81.facF x y m ∧ M81.facF x y m ≤ 256 := fun x y m hy => by
        obtain ⟨Bl, Mt, R, p, _, _, e⟩ := M81.facF_V x y m hy.pos
        rw [e]
        have hR : ∀ z ∈ R, 1 ≤ z := fun z hz => hy.pos z (p.mem_iff.mpr (by simp [hz]))
        have hB : ∀ z ∈ Bl ++ Mt, 1 ≤ z := fun z hz => hy.pos z (p.mem_iff.mpr (by simp at hz ⊢; rcases hz with hz | hz <;> simp [hz]))
        refine ⟨prodI_pos hR, ?_⟩
        have q := hy.pr
        rw [M81.prodI_perm p, ← List.append_assoc, prodI_append] at q
        have := le_mul_of (prodI_pos hR) (prodI_pos hB)
        rw [Int.mul_comm] at this
        omega
      have b1 := bd a b (n2 - n1).toNat hb
      have b2 := bd b c (n3 - n2).toNat hc
      have m := bop_mul' (i := M81.facF a b (n2 - n1).toNat) (j := M81.facF b c (n3 - n2).toNat) (by omega) (by omega)
      simp [b16, a0, a1, r1, r2, r3, m, t]

def prD (p : List Int × Int) : PyData := .tuple [.tuple (p.1.map .int), .int p.2]
def OkP (p : List Int × Int) : Prop := Shape p.1 ∧ 0 ≤ p.2 ∧ p.2 ≤ p.1.length
theorem law_inner (k : Nat) (sc kk : PyData) (x y : Int) (hy : 0 ≤ y ∧ y ≤ 2147483647) (o4 o5 : Option PyData) : ∃ (p0 p1 p2 : List Int × Int) (x' y' : Int) (q4 q5 : Option PyData), OkP p0 ∧ OkP p1 ∧ OkP p2 ∧
    forL (turnF cS (FT (k + 39)) 1000 (.nm 4) p17_0) (rangeD 0 3) [some (.val sc), some (.val kk), some (.own (.lst [.int x, .int y])), some (.own (.lst [])), o4.map .val, o5.map .val, none] =
    .nx [some (.val sc), some (.val kk), some (.own (.lst [.int x', .int y'])), some (.own (.lst [prD p0, prD p1, prD p2])), q4.map .val, q5.map .val, none] := by
  obtain ⟨⟨x', y', acc, q4, q5⟩, h1, h2, h3, h4⟩ := forL_st (turn := turnF cS (FT (k + 39)) 1000 (.nm 4) p17_0) (fun i : Nat => PyData.int (0 + (i : Int)))
    (fun b : Int × Int × List (List Int × Int) × Option PyData × Option PyData => [some (.val sc), some (.val kk), some (.own (.lst [.int b.1, .int b.2.1])), some (.own (.lst (b.2.2.1.map prD))), b.2.2.2.1.map .val, b.2.2.2.2.map .val, none])
    (fun rest b => (0 ≤ b.2.1 ∧ b.2.1 ≤ 2147483647) ∧ (∀ p ∈ b.2.2.1, OkP p) ∧ rest.length + b.2.2.1.length = 3)
    (fun i rest ⟨x, y, acc, o4, o5⟩ ⟨h1, h2, h3⟩ => by
      dsimp only at h1 h2 h3 ⊢
      rw [List.length_cons] at h3
      obtain ⟨ns, x1, y1, t1, hs, _, hy1⟩ := run_shape (k + 37) x y 256 (by omega) h1
      have hl := hs.len
      obtain ⟨d, x2, y2, t2, hd, hy2⟩ := run_take (k + 38) x1 y1 ((ns.length : Int) + 1) (by omega) hy1
      have n4 : nb (o4.map Slot.val) = true := by cases o4 <;> rfl
      have n5 : nb (o5.map Slot.val) = true := by cases o5 <;> rfl
      have sz : acc.length < sizeLine := sl_lt (by omega)
      refine ⟨(x2, y2, acc ++ [(ns, d)], some (.int (0 + (i : Int))), some (.tuple (ns.map .int))), ?_, hy2, fun p hp => ?_, ?_⟩
      · simp [p17_0, n4, n5, t1, t2, sl_le, sz, prD]
      · rcases List.mem_append.mp hp with h | h
        · exact h2 p h
        · obtain rfl := List.mem_singleton.mp h
          exact ⟨hs, hd.1, by dsimp only; omega⟩
      · dsimp only
        rw [List.length_append, List.length_singleton]
        omega) (List.range 3) (x, y, [], o4, o5) ⟨hy, (fun p hp => nomatch hp), rfl⟩
  dsimp only at h1 h3 h4
  rw [List.length_nil, Nat.zero_add] at h4
  match acc, h4 with
  | [p0, p1, p2], _ =>
    refine ⟨p0, p1, p2, x', y', q4, q5, h3 _ (by simp), h3 _ (by simp), h3 _ (by simp), ?_⟩
    have e : rangeD 0 3 = (List.range 3).map fun i : Nat => PyData.int (0 + (i : Int)) := rfl
    rw [e]
    exact h1
theorem law_turn (k : Nat) (ns : List Int) (i : Int) (hi : 0 ≤ i ∧ i ≤ 1000) (s1 s2 s3 : Option Slot) (o4 o5 : Option PyData) (n1 : nb s1 = true) (n2 : nb s2 = true) (n3 : nb s3 = true) : ∃ (s1' s2' s3' : Option Slot) (q4 q5 : Option PyData), nb s1' = true ∧ nb s2' = true ∧ nb s3' = true ∧
    turnF cS (FT (k + 39)) 1000 (.nm 1) p17_3 (.int i) [some (.val (roL (ns.map .int))), s1, s2, s3, o4.map .val, o5.map .val, none] = .nx [some (.val (roL (ns.map .int))), s1', s2', s3', q4.map .val, q5.map .val, none] := by
  obtain ⟨x, y, t1, hy⟩ := run_pot (k + 38) ns i hi
  obtain ⟨p0, p1, p2, x', y', q4, q5, k0, k1, k2, hL⟩ := law_inner k (roL (ns.map .int)) (.int i) x y hy o4 o5
  have r : ∀ p q, OkP p → OkP q → (FT (k + 39) 15).S [some (.val (prD p)), some (.val (prD q))] = .ok (.v (.bool true)) [some (.val (prD p)), some (.val (prD q))] := fun p q hp hq => run_right (k + 18) p.1 q.1 p.2 q.2 hp.1 hq.1 hp.2 hq.2
  have w : ∀ p q t, OkP p → OkP q → OkP t → (FT (k + 39) 16).S [some (.val (prD p)), some (.val (prD q)), some (.val (prD t))] = .ok (.v (.bool true)) [some (.val (prD p)), some (.val (prD q)), some (.val (prD t))] := fun p q t hp hq ht =>
    run_by_way (k + 34) p.1 q.1 t.1 p.2 q.2 t.2 hp.1 hq.1 ht.1 hp.2 hq.2 ht.2
  have f : ∀ p, OkP p → (FT (k + 39) 9).S [some (.val (.tuple (p.1.map .int))), some (.val (.int p.2)), some (.val (.tuple (p.1.map .int))), some (.val (.int p.2))] = .ok (.v (.int 1)) [some (.val (.tuple (p.1.map .int))), some (.val (.int p.2)), some (.val (.tuple (p.1.map .int))), some (.val (.int p.2))] := fun p hp => by
    have := run_factor (k + 35) p.1 p.1 p.2 p.2 hp.1 hp.1 hp.2 hp.2
    rw [if_neg (by omega), Int.sub_self, Int.toNat_zero, M81.fac_same p.1 hp.1.pos] at this
    exact this
  have c1 : ∀ s4 : Option Slot, compL (turnC cS (FT (k + 39)) [4] (.nm 4) .none (.bo true (.cons (.call 15 [false, false] (.cons (.idx (.var 3) (.var 4)) (.cons (.idx (.var 3) (.bin .Sub (.var 4) (.con (.int 1)))) .nil))) (.cons (.call 15 [false, false] (.cons (.idx (.var 3) (.bin .Sub (.var 4) (.con (.int 1)))) (.cons (.idx (.var 3) (.var 4)) .nil))) .nil))))
      (stands [some (.val (roL (ns.map .int))), some (.val (.int i)), some (.own (.lst [.int x', .int y'])), some (.own (.lst [prD p0, prD p1, prD p2])), none, q5.map .val, none] []) (rangeD 0 3) [] [some (.val (roL (ns.map .int))), some (.val (.int i)), some (.own (.lst [.int x', .int y'])), some (.own (.lst [prD p0, prD p1, prD p2])), none, q5.map .val, none] =
      .ok [.bool true, .bool true, .bool true] [some (.val (roL (ns.map .int))), some (.val (.int i)), some (.own (.lst [.int x', .int y'])), some (.own (.lst [prD p0, prD p1, prD p2])), none, q5.map .val, none] := fun _ => by
    have e : rangeD 0 3 = [0, 1, 2].map fun i : Int => PyData.int i := rfl
    rw [e]
    refine (compL_all (f := fun _ => .bool true) (by simp) (fun j hj => ?_) (by simp)).trans rfl
    have g0 : atI [prD p0, prD p1, prD p2] 0 = some (prD p0) := rfl
    have g1 : atI [prD p0, prD p1, prD p2] 1 = some (prD p1) := rfl
    have g2 : atI [prD p0, prD p1, prD p2] 2 = some (prD p2) := rfl
    have gm : atI [prD p0, prD p1, prD p2] (-1) = some (prD p2) := rfl
    simp only [List.mem_cons, List.not_mem_nil, or_false] at hj
    rcases hj with rfl | rfl | rfl
    · simp [g0, gm, r p0 p2 k0 k2, r p2 p0 k2 k0]
    · simp [g0, g1, r p1 p0 k1 k0, r p0 p1 k0 k1]
    · simp [g1, g2, r p2 p1 k2 k1, r p1 p2 k1 k2]
  have c2 : compL (turnC cS (FT (k + 39)) [5, 6] (.tup (.cons (.nm 5) (.cons (.nm 6) .nil))) .none (.cmp .Eq (.call 9 [false, false, false, false] (.cons (.var 5) (.cons (.var 6) (.cons (.var 5) (.cons (.var 6) .nil))))) (.con (.int 1))))
      (stands [some (.val (roL (ns.map .int))), some (.val (.int i)), some (.own (.lst [.int x', .int y'])), some (.own (.lst [prD p0, prD p1, prD p2])), q4.map .val, none, none] [.sl 3]) [prD p0, prD p1, prD p2] [] [some (.val (roL (ns.map .int))), some (.val (.int i)), some (.own (.lst [.int x', .int y'])), some (.own (.lst [prD p0, prD p1, prD p2])), q4.map .val, none, none] =
      .ok [.bool true, .bool true, .bool true] [some (.val (roL (ns.map .int))), some (.val (.int i)), some (.own (.lst [.int x', .int y'])), some (.own (.lst [prD p0, prD p1, prD p2])), q4.map .val, none, none] := by
    refine (compL_all (mk := prD) (items := [p0, p1, p2]) (f := fun _ => .bool true) (by simp) (fun p hp => ?_) (by simp)).trans rfl
    have hk : OkP p := by
      simp only [List.mem_cons, List.not_mem_nil, or_false] at hp
      rcases hp with rfl | rfl | rfl
      · exact k0
      · exact k1
      · exact k2
    have hf := f p hk
    simp [prD, hf]
  have b3 : boolsD [.bool true, .bool true, .bool true] = some [true, true, true] := rfl
  have g0 : atI [prD p0, prD p1, prD p2] 0 = some (prD p0) := rfl
  have g1 : atI [prD p0, prD p1, prD p2] 1 = some (prD p1) := rfl
  have g2 : atI [prD p0, prD p1, prD p2] 2 = some (prD p2) := rfl
  have r3 : range1D (.int 3) = some (rangeD 0 3) := range1_ok (inR_small (by decide))
  refine ⟨some (.val (.int i)), some (.own (.lst [.int x', .int y'])), some (.own (.lst [prD p0, prD p1, prD p2])), q4, q5, rfl, rfl, rfl, ?_⟩
  have c1 := c1 none
  cases q4 <;> cases q5 <;> simp only [Option.map_none, Option.map_some] at hL c1 c2 ⊢ <;> simp [p17_3, e17_1, e17_2, n1, n2, n3, t1, sl_le, r3, hL, c1, c2, b3, g0, g1, g2, w p0 p1 p2 k0 k1 k2, w p2 p0 p1 k2 k0 k1]
theorem law_true : ∀ ns : List Int, ns.length ≤ 63 → (∀ z ∈ ns, Builtin.Int.intBits z ≤ 1048576) → ∃ t, (prg.FT (39 + 1) 17).S [some (.val (roL (ns.map PyData.int)))] = .ok (.v (.bool true)) t := fun ns hl _ => by
  have hr : ∀ m : Int, 0 ≤ m ∧ m ≤ 4 → range1D (.int m) = some ((List.range m.toNat).map fun i : Nat => PyData.int (0 + (i : Int))) := fun m hm => by
    rw [range1_ok (inR_small (by omega))]
    unfold rangeD
    rw [Int.sub_zero]
  generalize hn : (if (if (ns.length : Int) < 4 then (ns.length : Int) else 4) > 2 then (if (ns.length : Int) < 4 then (ns.length : Int) else 4) else 2) = m
  have hm : 0 ≤ m ∧ m ≤ 4 := by
    rw [← hn]
    split <;> split <;> omega
  obtain ⟨⟨s1, s2, s3, o4, o5⟩, h1, _⟩ := forL_st (turn := turnF cS (FT (0 + 39)) 1000 (.nm 1) p17_3) (fun i : Nat => PyData.int (0 + (i : Int)))
    (fun b : Option Slot × Option Slot × Option Slot × Option PyData × Option PyData => [some (.val (roL (ns.map .int))), b.1, b.2.1, b.2.2.1, b.2.2.2.1.map .val, b.2.2.2.2.map .val, none])
    (fun rest b => nb b.1 = true ∧ nb b.2.1 = true ∧ nb b.2.2.1 = true ∧ ∀ i ∈ rest, i ≤ 10)
    (fun i rest ⟨s1, s2, s3, o4, o5⟩ ⟨n1, n2, n3, h⟩ => by
      have := h i List.mem_cons_self
      obtain ⟨a, b, c, d, e, h1, h2, h3, h4⟩ := law_turn 0 ns (0 + (i : Int)) (by omega) s1 s2 s3 o4 o5 n1 n2 n3
      exact ⟨(a, b, c, d, e), h4, h1, h2, h3, fun j hj => h j (List.mem_cons_of_mem _ hj)⟩) (List.range m.toNat) (none, none, none, none, none) ⟨rfl, rfl, rfl, fun i hi => by
        have := List.mem_range.mp hi
        omega⟩
  dsimp only at h1
  refine ⟨[some (.val (roL (ns.map PyData.int)))], (rF17 rfl).trans ?_⟩
  have hrm := hr m hm
  simp only [Option.map_none, Int.zero_add, Nat.zero_add] at h1 hrm
  simp [b17, hn, hrm, h1]


end C81

namespace C81
open PySem L2 Ev
theorem at_mk {K : PySem.W.Frag} {hp : Heap} {mg : Str → Option Value} {f0 f1 f2 f3 f4 f5 f6 f7 f8 f9 f10 f11 f12 f13 f14 f15 f16 f17 : Addr} (X : K.In hp) (G : hp.Ns mainGlobals mg)
    {oc0 kV0 dc0 pm0 cd0 ct0 : Value} {od0 an0 : Option Addr} {sl0 : Array (Option Value)}
    (a0 : PySem.W.nsIn K mainGlobals "is_whole" = some (some (.ref f0)))
    (l0 : K.lookup f0 = some ⟨oc0, od0, .func (PySem.W.fnOf "is_whole" "is_whole" (defArgs (sT 0)) (defBody (sT 0)) (defScope (sT 0)) .none kV0 dc0 pm0 an0 cd0 ct0), sl0⟩)
    (c0 : PySem.W.codeIn K cd0 "is_whole" = true) (k0 : PySem.W.keepIn K (.ref f0) = true)
    {oc1 kV1 dc1 pm1 cd1 ct1 : Value} {od1 an1 : Option Addr} {sl1 : Array (Option Value)}
    (a1 : PySem.W.nsIn K mainGlobals "size_of" = some (some (.ref f1)))
    (l1 : K.lookup f1 = some ⟨oc1, od1, .func (PySem.W.fnOf "size_of" "size_of" (defArgs (sT 1)) (defBody (sT 1)) (defScope (sT 1)) .none kV1 dc1 pm1 an1 cd1 ct1), sl1⟩)
    (c1 : PySem.W.codeIn K cd1 "size_of" = true) (k1 : PySem.W.keepIn K (.ref f1) = true)
    {oc2 kV2 dc2 pm2 cd2 ct2 : Value} {od2 an2 : Option Addr} {sl2 : Array (Option Value)}
    (a2 : PySem.W.nsIn K mainGlobals "is_shape" = some (some (.ref f2)))
    (l2 : K.lookup f2 = some ⟨oc2, od2, .func (PySem.W.fnOf "is_shape" "is_shape" (defArgs (sT 2)) (defBody (sT 2)) (defScope (sT 2)) .none kV2 dc2 pm2 an2 cd2 ct2), sl2⟩)
    (c2 : PySem.W.codeIn K cd2 "is_shape" = true) (k2 : PySem.W.keepIn K (.ref f2) = true)
    {oc3 kV3 dc3 pm3 cd3 ct3 : Value} {od3 an3 : Option Addr} {sl3 : Array (Option Value)}
    (a3 : PySem.W.nsIn K mainGlobals "want_shape" = some (some (.ref f3)))
    (l3 : K.lookup f3 = some ⟨oc3, od3, .func (PySem.W.fnOf "want_shape" "want_shape" (defArgs (sT 3)) (defBody (sT 3)) (defScope (sT 3)) .none kV3 dc3 pm3 an3 cd3 ct3), sl3⟩)
    (c3 : PySem.W.codeIn K cd3 "want_shape" = true) (k3 : PySem.W.keepIn K (.ref f3) = true)
    {oc4 kV4 dc4 pm4 cd4 ct4 : Value} {od4 an4 : Option Addr} {sl4 : Array (Option Value)}
    (a4 : PySem.W.nsIn K mainGlobals "want_nearness" = some (some (.ref f4)))
    (l4 : K.lookup f4 = some ⟨oc4, od4, .func (PySem.W.fnOf "want_nearness" "want_nearness" (defArgs (sT 4)) (defBody (sT 4)) (defScope (sT 4)) .none kV4 dc4 pm4 an4 cd4 ct4), sl4⟩)
    (c4 : PySem.W.codeIn K cd4 "want_nearness" = true) (k4 : PySem.W.keepIn K (.ref f4) = true)
    {oc5 kV5 dc5 pm5 cd5 ct5 : Value} {od5 an5 : Option Addr} {sl5 : Array (Option Value)}
    (a5 : PySem.W.nsIn K mainGlobals "choices_of" = some (some (.ref f5)))
    (l5 : K.lookup f5 = some ⟨oc5, od5, .func (PySem.W.fnOf "choices_of" "choices_of" (defArgs (sT 5)) (defBody (sT 5)) (defScope (sT 5)) .none kV5 dc5 pm5 an5 cd5 ct5), sl5⟩)
    (c5 : PySem.W.codeIn K cd5 "choices_of" = true) (k5 : PySem.W.keepIn K (.ref f5) = true)
    {oc6 kV6 dc6 pm6 cd6 ct6 : Value} {od6 an6 : Option Addr} {sl6 : Array (Option Value)}
    (a6 : PySem.W.nsIn K mainGlobals "can_be_had" = some (some (.ref f6)))
    (l6 : K.lookup f6 = some ⟨oc6, od6, .func (PySem.W.fnOf "can_be_had" "can_be_had" (defArgs (sT 6)) (defBody (sT 6)) (defScope (sT 6)) .none kV6 dc6 pm6 an6 cd6 ct6), sl6⟩)
    (c6 : PySem.W.codeIn K cd6 "can_be_had" = true) (k6 : PySem.W.keepIn K (.ref f6) = true)
    {oc7 kV7 dc7 pm7 cd7 ct7 : Value} {od7 an7 : Option Addr} {sl7 : Array (Option Value)}
    (a7 : PySem.W.nsIn K mainGlobals "product_of" = some (some (.ref f7)))
    (l7 : K.lookup f7 = some ⟨oc7, od7, .func (PySem.W.fnOf "product_of" "product_of" (defArgs (sT 7)) (defBody (sT 7)) (defScope (sT 7)) .none kV7 dc7 pm7 an7 cd7 ct7), sl7⟩)
    (c7 : PySem.W.codeIn K cd7 "product_of" = true) (k7 : PySem.W.keepIn K (.ref f7) = true)
    {oc8 kV8 dc8 pm8 cd8 ct8 : Value} {od8 an8 : Option Addr} {sl8 : Array (Option Value)}
    (a8 : PySem.W.nsIn K mainGlobals "factor_of" = some (some (.ref f8)))
    (l8 : K.lookup f8 = some ⟨oc8, od8, .func (PySem.W.fnOf "factor_of" "factor_of" (defArgs (sT 8)) (defBody (sT 8)) (defScope (sT 8)) .none kV8 dc8 pm8 an8 cd8 ct8), sl8⟩)
    (c8 : PySem.W.codeIn K cd8 "factor_of" = true) (k8 : PySem.W.keepIn K (.ref f8) = true)
    {oc9 kV9 dc9 pm9 cd9 ct9 : Value} {od9 an9 : Option Addr} {sl9 : Array (Option Value)}
    (a9 : PySem.W.nsIn K mainGlobals "factor" = some (some (.ref f9)))
    (l9 : K.lookup f9 = some ⟨oc9, od9, .func (PySem.W.fnOf "factor" "factor" (defArgs (sT 9)) (defBody (sT 9)) (defScope (sT 9)) .none kV9 dc9 pm9 an9 cd9 ct9), sl9⟩)
    (c9 : PySem.W.codeIn K cd9 "factor" = true) (k9 : PySem.W.keepIn K (.ref f9) = true)
    {oc10 kV10 dc10 pm10 cd10 ct10 : Value} {od10 an10 : Option Addr} {sl10 : Array (Option Value)}
    (a10 : PySem.W.nsIn K mainGlobals "_law_pot" = some (some (.ref f10)))
    (l10 : K.lookup f10 = some ⟨oc10, od10, .func (PySem.W.fnOf "_law_pot" "_law_pot" (defArgs (sT 10)) (defBody (sT 10)) (defScope (sT 10)) .none kV10 dc10 pm10 an10 cd10 ct10), sl10⟩)
    (c10 : PySem.W.codeIn K cd10 "_law_pot" = true) (k10 : PySem.W.keepIn K (.ref f10) = true)
    {oc11 kV11 dc11 pm11 cd11 ct11 : Value} {od11 an11 : Option Addr} {sl11 : Array (Option Value)}
    (a11 : PySem.W.nsIn K mainGlobals "_law_take" = some (some (.ref f11)))
    (l11 : K.lookup f11 = some ⟨oc11, od11, .func (PySem.W.fnOf "_law_take" "_law_take" (defArgs (sT 11)) (defBody (sT 11)) (defScope (sT 11)) .none kV11 dc11 pm11 an11 cd11 ct11), sl11⟩)
    (c11 : PySem.W.codeIn K cd11 "_law_take" = true) (k11 : PySem.W.keepIn K (.ref f11) = true)
    {oc12 kV12 dc12 pm12 cd12 ct12 : Value} {od12 an12 : Option Addr} {sl12 : Array (Option Value)}
    (a12 : PySem.W.nsIn K mainGlobals "_law_shape" = some (some (.ref f12)))
    (l12 : K.lookup f12 = some ⟨oc12, od12, .func (PySem.W.fnOf "_law_shape" "_law_shape" (defArgs (sT 12)) (defBody (sT 12)) (defScope (sT 12)) .none kV12 dc12 pm12 an12 cd12 ct12), sl12⟩)
    (c12 : PySem.W.codeIn K cd12 "_law_shape" = true) (k12 : PySem.W.keepIn K (.ref f12) = true)
    {oc13 kV13 dc13 pm13 cd13 ct13 : Value} {od13 an13 : Option Addr} {sl13 : Array (Option Value)}
    (a13 : PySem.W.nsIn K mainGlobals "_law_least" = some (some (.ref f13)))
    (l13 : K.lookup f13 = some ⟨oc13, od13, .func (PySem.W.fnOf "_law_least" "_law_least" (defArgs (sT 13)) (defBody (sT 13)) (defScope (sT 13)) .none kV13 dc13 pm13 an13 cd13 ct13), sl13⟩)
    (c13 : PySem.W.codeIn K cd13 "_law_least" = true) (k13 : PySem.W.keepIn K (.ref f13) = true)
    {oc14 kV14 dc14 pm14 cd14 ct14 : Value} {od14 an14 : Option Addr} {sl14 : Array (Option Value)}
    (a14 : PySem.W.nsIn K mainGlobals "_law_factor" = some (some (.ref f14)))
    (l14 : K.lookup f14 = some ⟨oc14, od14, .func (PySem.W.fnOf "_law_factor" "_law_factor" (defArgs (sT 14)) (defBody (sT 14)) (defScope (sT 14)) .none kV14 dc14 pm14 an14 cd14 ct14), sl14⟩)
    (c14 : PySem.W.codeIn K cd14 "_law_factor" = true) (k14 : PySem.W.keepIn K (.ref f14) = true)
    {oc15 kV15 dc15 pm15 cd15 ct15 : Value} {od15 an15 : Option Addr} {sl15 : Array (Option Value)}
    (a15 : PySem.W.nsIn K mainGlobals "_law_right" = some (some (.ref f15)))
    (l15 : K.lookup f15 = some ⟨oc15, od15, .func (PySem.W.fnOf "_law_right" "_law_right" (defArgs (sT 15)) (defBody (sT 15)) (defScope (sT 15)) .none kV15 dc15 pm15 an15 cd15 ct15), sl15⟩)
    (c15 : PySem.W.codeIn K cd15 "_law_right" = true) (k15 : PySem.W.keepIn K (.ref f15) = true)
    {oc16 kV16 dc16 pm16 cd16 ct16 : Value} {od16 an16 : Option Addr} {sl16 : Array (Option Value)}
    (a16 : PySem.W.nsIn K mainGlobals "_law_by_way" = some (some (.ref f16)))
    (l16 : K.lookup f16 = some ⟨oc16, od16, .func (PySem.W.fnOf "_law_by_way" "_law_by_way" (defArgs (sT 16)) (defBody (sT 16)) (defScope (sT 16)) .none kV16 dc16 pm16 an16 cd16 ct16), sl16⟩)
    (c16 : PySem.W.codeIn K cd16 "_law_by_way" = true) (k16 : PySem.W.keepIn K (.ref f16) = true)
    {oc17 kV17 dc17 pm17 cd17 ct17 : Value} {od17 an17 : Option Addr} {sl17 : Array (Option Value)}
    (a17 : PySem.W.nsIn K mainGlobals "law" = some (some (.ref f17)))
    (l17 : K.lookup f17 = some ⟨oc17, od17, .func (PySem.W.fnOf "law" "law" (defArgs (sT 17)) (defBody (sT 17)) (defScope (sT 17)) .none kV17 dc17 pm17 an17 cd17 ct17), sl17⟩)
    (c17 : PySem.W.codeIn K cd17 "law" = true) (k17 : PySem.W.keepIn K (.ref f17) = true)
    {t0 : Tok} (g0 : PySem.W.nsIn K mainGlobals "MOST_SPOTS" = some (some (.int 8 t0)))
    {t1 : Tok} (g1 : PySem.W.nsIn K mainGlobals "LEAST_SIGNS" = some (some (.int 2 t1)))
    {t2 : Tok} (g2 : PySem.W.nsIn K mainGlobals "MOST_SIGNS" = some (some (.int 9 t2)))
    {t3 : Tok} (g3 : PySem.W.nsIn K mainGlobals "MOST_ROWS" = some (some (.int 256 t3)))
    (z0 : PySem.W.nsIn K mainGlobals "abs" = some none)
    (z1 : PySem.W.nsIn K mainGlobals "all" = some none)
    (z2 : PySem.W.nsIn K mainGlobals "bool" = some none)
    (z3 : PySem.W.nsIn K mainGlobals "divmod" = some none)
    (z4 : PySem.W.nsIn K mainGlobals "enumerate" = some none)
    (z5 : PySem.W.nsIn K mainGlobals "int" = some none)
    (z6 : PySem.W.nsIn K mainGlobals "isinstance" = some none)
    (z7 : PySem.W.nsIn K mainGlobals "len" = some none)
    (z8 : PySem.W.nsIn K mainGlobals "list" = some none)
    (z9 : PySem.W.nsIn K mainGlobals "max" = some none)
    (z10 : PySem.W.nsIn K mainGlobals "min" = some none)
    (z11 : PySem.W.nsIn K mainGlobals "range" = some none)
    (z12 : PySem.W.nsIn K mainGlobals "sorted" = some none)
    (z13 : PySem.W.nsIn K mainGlobals "tuple" = some none)
    (z14 : PySem.W.nsIn K mainGlobals "zip" = some none)
    {C0 : Addr} (xa0 : PySem.W.nsIn K mainGlobals "NoNearness" = some (some (.ref C0))) (xk0 : PySem.W.keepIn K (.ref C0) = true)
    (xq0 : PySem.W.excIn K C0 [.type "ValueError", .type "Exception", .type "BaseException", .type "object"] "ValueError.__new__" = true)
    (xb0 : PySem.W.subIn K (.ref C0) (.type "BaseException") = some true) (xt0 : PySem.W.typeIn K (.ref C0) = some (.type "type"))
    {C1 : Addr} (xa1 : PySem.W.nsIn K mainGlobals "NoShape" = some (some (.ref C1))) (xk1 : PySem.W.keepIn K (.ref C1) = true)
    (xq1 : PySem.W.excIn K C1 [.type "ValueError", .type "Exception", .type "BaseException", .type "object"] "ValueError.__new__" = true)
    (xb1 : PySem.W.subIn K (.ref C1) (.type "BaseException") = some true) (xt1 : PySem.W.typeIn K (.ref C1) = some (.type "type")) : prg.At K mg ∧ ∃ fd, mg "law" = some (.ref f17) ∧ L2.Fun K "law" "law" (sT 17) f17 fd := by
  refine ⟨⟨fun j x hj => ?_, fun k x d h1 h2 => ?_, fun x hx => ?_, fun x hx => ?_⟩, _, PySem.W.mg_of X G a17, fun_mk (st := sT 17) l17 c17 k17⟩
  · match j, hj with
    | 0, hj => cases hj; exact ⟨f0, _, PySem.W.mg_of X G a0, fun_mk (st := sT 0) l0 c0 k0⟩
    | 1, hj => cases hj; exact ⟨f1, _, PySem.W.mg_of X G a1, fun_mk (st := sT 1) l1 c1 k1⟩
    | 2, hj => cases hj; exact ⟨f2, _, PySem.W.mg_of X G a2, fun_mk (st := sT 2) l2 c2 k2⟩
    | 3, hj => cases hj; exact ⟨f3, _, PySem.W.mg_of X G a3, fun_mk (st := sT 3) l3 c3 k3⟩
    | 4, hj => cases hj; exact ⟨f4, _, PySem.W.mg_of X G a4, fun_mk (st := sT 4) l4 c4 k4⟩
    | 5, hj => cases hj; exact ⟨f5, _, PySem.W.mg_of X G a5, fun_mk (st := sT 5) l5 c5 k5⟩
    | 6, hj => cases hj; exact ⟨f6, _, PySem.W.mg_of X G a6, fun_mk (st := sT 6) l6 c6 k6⟩
    | 7, hj => cases hj; exact ⟨f7, _, PySem.W.mg_of X G a7, fun_mk (st := sT 7) l7 c7 k7⟩
    | 8, hj => cases hj; exact ⟨f8, _, PySem.W.mg_of X G a8, fun_mk (st := sT 8) l8 c8 k8⟩
    | 9, hj => cases hj; exact ⟨f9, _, PySem.W.mg_of X G a9, fun_mk (st := sT 9) l9 c9 k9⟩
    | 10, hj => cases hj; exact ⟨f10, _, PySem.W.mg_of X G a10, fun_mk (st := sT 10) l10 c10 k10⟩
    | 11, hj => cases hj; exact ⟨f11, _, PySem.W.mg_of X G a11, fun_mk (st := sT 11) l11 c11 k11⟩
    | 12, hj => cases hj; exact ⟨f12, _, PySem.W.mg_of X G a12, fun_mk (st := sT 12) l12 c12 k12⟩
    | 13, hj => cases hj; exact ⟨f13, _, PySem.W.mg_of X G a13, fun_mk (st := sT 13) l13 c13 k13⟩
    | 14, hj => cases hj; exact ⟨f14, _, PySem.W.mg_of X G a14, fun_mk (st := sT 14) l14 c14 k14⟩
    | 15, hj => cases hj; exact ⟨f15, _, PySem.W.mg_of X G a15, fun_mk (st := sT 15) l15 c15 k15⟩
    | 16, hj => cases hj; exact ⟨f16, _, PySem.W.mg_of X G a16, fun_mk (st := sT 16) l16 c16 k16⟩
    | 17, hj => cases hj; exact ⟨f17, _, PySem.W.mg_of X G a17, fun_mk (st := sT 17) l17 c17 k17⟩
    | j + 18, hj => simp [prg] at hj
  · match k, h1, h2 with
    | 0, h1, h2 => cases h1; cases h2; exact ⟨.int 8, _, PySem.W.mg_of X G g0, ⟨_, rfl⟩, fun _ _ => .int _⟩
    | 1, h1, h2 => cases h1; cases h2; exact ⟨.int 2, _, PySem.W.mg_of X G g1, ⟨_, rfl⟩, fun _ _ => .int _⟩
    | 2, h1, h2 => cases h1; cases h2; exact ⟨.int 9, _, PySem.W.mg_of X G g2, ⟨_, rfl⟩, fun _ _ => .int _⟩
    | 3, h1, h2 => cases h1; cases h2; exact ⟨.int 256, _, PySem.W.mg_of X G g3, ⟨_, rfl⟩, fun _ _ => .int _⟩
    | k + 4, h1, h2 => simp [prg, cN] at h1
  · have q : x = "abs" ∨ x = "all" ∨ x = "bool" ∨ x = "divmod" ∨ x = "enumerate" ∨ x = "int" ∨ x = "isinstance" ∨ x = "len" ∨ x = "list" ∨ x = "max" ∨ x = "min" ∨ x = "range" ∨ x = "sorted" ∨ x = "tuple" ∨ x = "zip" := by simpa [prg] using hx
    rcases q with rfl | rfl | rfl | rfl | rfl | rfl | rfl | rfl | rfl | rfl | rfl | rfl | rfl | rfl | rfl
    · exact PySem.W.mg_none_of X G z0
    · exact PySem.W.mg_none_of X G z1
    · exact PySem.W.mg_none_of X G z2
    · exact PySem.W.mg_none_of X G z3
    · exact PySem.W.mg_none_of X G z4
    · exact PySem.W.mg_none_of X G z5
    · exact PySem.W.mg_none_of X G z6
    · exact PySem.W.mg_none_of X G z7
    · exact PySem.W.mg_none_of X G z8
    · exact PySem.W.mg_none_of X G z9
    · exact PySem.W.mg_none_of X G z10
    · exact PySem.W.mg_none_of X G z11
    · exact PySem.W.mg_none_of X G z12
    · exact PySem.W.mg_none_of X G z13
    · exact PySem.W.mg_none_of X G z14
  · have q : x = "NoNearness" ∨ x = "NoShape" := by simpa [prg] using hx
    rcases q with rfl | rfl
    · exact ⟨C0, PySem.W.mg_of X G xa0, fun Y hK hm hg hd p m j p2 pos => pmk_own PySem.F.excBase_ValueError (by rw [hK]; exact xq0) (by rw [hm]; exact PySem.W.mg_of X G xa0) (by rw [hK]; exact xk0) (raises_own (by rw [hK]; exact xb0) (by rw [hK]; exact xt0)) hg hd⟩
    · exact ⟨C1, PySem.W.mg_of X G xa1, fun Y hK hm hg hd p m j p2 pos => pmk_own PySem.F.excBase_ValueError (by rw [hK]; exact xq1) (by rw [hm]; exact PySem.W.mg_of X G xa1) (by rw [hK]; exact xk1) (raises_own (by rw [hK]; exact xb1) (by rw [hK]; exact xt1)) hg hd⟩
theorem walk {l : PySem.W.OpenLaw} {q : Program} {loose : List Str} {XP : (Str → Option Value) → Heap → Prop} {YP : World → Heap → Prop} {d : DefRec} {K : Params → PySem.W.Frag} (hn : l.most = some 63) (hdf : d.params.defaults = [])
    (hY : ∀ (w : World) (h : Heap), YP w h → (K w.params).In h)
    (F : ∀ (w : World) (mg : Str → Option Value) (fa : Addr) (h : Heap), (K w.params).In h → h.Ns mainGlobals mg → mg d.name = some (.ref fa) → prg.At (K w.params) mg ∧ ∃ fd, mg "law" = some (.ref fa) ∧ L2.Fun (K w.params) "law" "law" (sT 17) fa fd) :
    PySem.W.WalkO q loose XP YP l.row.toRowW d [] (fun f vs => PySem.call f vs) :=
  L2.walk_ofB (n := 63) (k := 40) (x := "_law_script") (CX := fun w => L2.CX l.prog w) (sp := fun w => spLaw (K w.params)) hn (by decide) hdf ⟨rfl, by decide, by decide⟩ hY
    (fun w mg fa h KX G hmg => by
      obtain ⟨at_, fd, h1, h2⟩ := F w mg fa h KX G hmg
      have bd := h2.binds (ok.bd 17 "law" rfl)
      refine ⟨fd, fun s u => ?_, fun base _ _ => law_ok ok at_ (k := 39) (j := 17) rfl h1 rfl law_true h2⟩
      obtain ⟨oc, od, kV, doc, pm, an, cdv, ct, osl, rfl, _, _⟩ := h2.ex
      exact .of_eq rfl)
    (fun _ _ a ns hl hb _ hS => ⟨a, ns, rfl, hS, hl, hb, fun _ => rfl⟩) fun w H s e s' z => by
      obtain ⟨_, _, _, _, _, _, _, _, _, _, _, _, z⟩ := z
      exact z
theorem close {K : PySem.W.Frag} {mg : Str → Option Value} {fa f : Addr} (hmg : mg "law" = some (.ref fa)) (h : prg.At K mg ∧ ∃ fd, mg "law" = some (.ref f) ∧ L2.Fun K "law" "law" (sT 17) f fd) : prg.At K mg ∧ ∃ fd, mg "law" = some (.ref fa) ∧ L2.Fun K "law" "law" (sT 17) fa fd := by
  obtain ⟨h1, fd, h2, h3⟩ := h
  rw [hmg] at h2
  cases h2
  exact ⟨h1, fd, hmg, h3⟩
end C81
open PySem PySem.W PyProof.Rows
set_option maxRecDepth 100000 in
set_option maxHeartbeats 0 in
set_option pp.maxSteps 300 in
theorem PySem.Challenge.cw_nearrows_k81_whole_factors_holds : PySem.Challenge.rw_nearrows_k81_whole_factors.Holds := by
  w_on; o_law; k_head; (case hw => w_witness2)
  k_fill
  refine C81.walk (l := PySem.Challenge.rw_nearrows_k81_whole_factors) rfl rfl (fun w h Y => PySem.W.kIn_of Y) ?F
  case F =>
    intro w mg fa h KX G hmg
    refine' C81.close hmg (C81.at_mk KX G ?eva0 ?evl0 ?evc0 ?evk0 ?eva1 ?evl1 ?evc1 ?evk1 ?eva2 ?evl2 ?evc2 ?evk2 ?eva3 ?evl3 ?evc3 ?evk3 ?eva4 ?evl4 ?evc4 ?evk4 ?eva5 ?evl5 ?evc5 ?evk5 ?eva6 ?evl6 ?evc6 ?evk6 ?eva7 ?evl7 ?evc7 ?evk7 ?eva8 ?evl8 ?evc8 ?evk8 ?eva9 ?evl9 ?evc9 ?evk9 ?eva10 ?evl10 ?evc10 ?evk10 ?eva11 ?evl11 ?evc11 ?evk11 ?eva12 ?evl12 ?evc12 ?evk12 ?eva13 ?evl13 ?evc13 ?evk13 ?eva14 ?evl14 ?evc14 ?evk14 ?eva15 ?evl15 ?evc15 ?evk15 ?eva16 ?evl16 ?evc16 ?evk16 ?eva17 ?evl17 ?evc17 ?evk17 ?evg0 ?evg1 ?evg2 ?evg3 ?evz0 ?evz1 ?evz2 ?evz3 ?evz4 ?evz5 ?evz6 ?evz7 ?evz8 ?evz9 ?evz10 ?evz11 ?evz12 ?evz13 ?evz14 ?evxa0 ?evxk0 ?evxq0 ?evxb0 ?evxt0 ?evxa1 ?evxk1 ?evxq1 ?evxb1 ?evxt1)
    (case eva0 => k_is)
    (case evl0 => k_is)
    (case evc0 => k_is)
    (case evk0 => k_is)
    (case eva1 => k_is)
    (case evl1 => k_is)
    (case evc1 => k_is)
    (case evk1 => k_is)
    (case eva2 => k_is)
    (case evl2 => k_is)
    (case evc2 => k_is)
    (case evk2 => k_is)
    (case eva3 => k_is)
    (case evl3 => k_is)
    (case evc3 => k_is)
    (case evk3 => k_is)
    (case eva4 => k_is)
    (case evl4 => k_is)
    (case evc4 => k_is)
    (case evk4 => k_is)
    (case eva5 => k_is)
    (case evl5 => k_is)
    (case evc5 => k_is)
    (case evk5 => k_is)
    (case eva6 => k_is)
    (case evl6 => k_is)
    (case evc6 => k_is)
    (case evk6 => k_is)
    (case eva7 => k_is)
    (case evl7 => k_is)
    (case evc7 => k_is)
    (case evk7 => k_is)
    (case eva8 => k_is)
    (case evl8 => k_is)
    (case evc8 => k_is)
    (case evk8 => k_is)
    (case eva9 => k_is)
    (case evl9 => k_is)
    (case evc9 => k_is)
    (case evk9 => k_is)
    (case eva10 => k_is)
    (case evl10 => k_is)
    (case evc10 => k_is)
    (case evk10 => k_is)
    (case eva11 => k_is)
    (case evl11 => k_is)
    (case evc11 => k_is)
    (case evk11 => k_is)
    (case eva12 => k_is)
    (case evl12 => k_is)
    (case evc12 => k_is)
    (case evk12 => k_is)
    (case eva13 => k_is)
    (case evl13 => k_is)
    (case evc13 => k_is)
    (case evk13 => k_is)
    (case eva14 => k_is)
    (case evl14 => k_is)
    (case evc14 => k_is)
    (case evk14 => k_is)
    (case eva15 => k_is)
    (case evl15 => k_is)
    (case evc15 => k_is)
    (case evk15 => k_is)
    (case eva16 => k_is)
    (case evl16 => k_is)
    (case evc16 => k_is)
    (case evk16 => k_is)
    (case eva17 => k_is)
    (case evl17 => k_is)
    (case evc17 => k_is)
    (case evk17 => k_is)
    (case evg0 => k_is)
    (case evg1 => k_is)
    (case evg2 => k_is)
    (case evg3 => k_is)
    (case evz0 => k_is)
    (case evz1 => k_is)
    (case evz2 => k_is)
    (case evz3 => k_is)
    (case evz4 => k_is)
    (case evz5 => k_is)
    (case evz6 => k_is)
    (case evz7 => k_is)
    (case evz8 => k_is)
    (case evz9 => k_is)
    (case evz10 => k_is)
    (case evz11 => k_is)
    (case evz12 => k_is)
    (case evz13 => k_is)
    (case evz14 => k_is)
    (case evxa0 => k_is)
    (case evxk0 => k_is)
    (case evxq0 => k_exc)
    (case evxb0 => k_is)
    (case evxt0 => k_is)
    (case evxa1 => k_is)
    (case evxk1 => k_is)
    (case evxq1 => k_exc)
    (case evxb1 => k_is)
    (case evxt1 => k_is)

