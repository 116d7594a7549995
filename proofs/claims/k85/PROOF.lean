import PyProof.Rows.All
import Wide.All
import OpenK.AllK
import Wide.FinOn
import HandS.ForMost
import HandS.ForExc
import HandS.TupSets
import HandS.SortInts
import HandS.SortKw
import HandS.Conv
import PyProof.Rows.IntBool
import PyProof.CallStr
import HandS.TupAny
import HandS.TupMul
import HandS.Wide
import HandS.WideBits
import HandS.TupLe
import HandS.Deep
import HandS.IsInst
import HandS.Zip
import HandS.Style
import HandS.Dict
import PyProof.CallFns
import PyProof.ReprRoads
import KE.GoesMore
import HandS.Strs
import KE.KDictZip
import KE.KTurns
import KE.GoesZip
import HandS.RevTup
import KE.DataMinMax
import HandS.Walk
import HandS.ExcOwn
import HandS.Words
import HandS.WordsExc
import HandS.EndBits
import PyProof.ReprLen
import PySem.Challenge.RW_nearrows_k85_whole_told_apart
set_option Elab.async false
set_option linter.all false
set_option maxRecDepth 100000
set_option maxHeartbeats 4000000
/-! Ev, part A: plain data, what a variable holds, how it stands in the abstract heap. -/
namespace Ev
open PySem L2

abbrev D := PyData
/-- an exception: its class's name; NotCovering's row -/
structure Xc where
  c : Str
  row : Option D
/-- what a variable owns alone -/
inductive Cel where
  | lst (ds : List D)
  | dic (kvs : List (D × D))
def Cel.d : Cel → D
  | .lst ds => .list ds
  | .dic kvs => .dict kvs
inductive Slot where
  | val (d : D)
  | own (c : Cel)
  | bor (c : Cel)
abbrev En := List (Option Slot)
/-- a result: a value, or a new cell -/
inductive R where
  | v (d : D)
  | o (c : Cel)
def R.d : R → D
  | .v d => d
  | .o c => c.d
inductive Rs (α : Type) where
  | no
  | ok (a : α) (e : En)
  | ex (x : Xc) (e : En)
def Rs.bind {α β : Type} (r : Rs α) (f : α → En → Rs β) : Rs β :=
  match r with
  | .no => .no
  | .ok a e => f a e
  | .ex x e => .ex x e
@[simp] theorem Rs.bind_no {α β : Type} (f : α → En → Rs β) : Rs.bind (.no : Rs α) f = .no := rfl
@[simp] theorem Rs.bind_ok {α β : Type} (a : α) (e : En) (f : α → En → Rs β) : Rs.bind (.ok a e) f = f a e := rfl
@[simp] theorem Rs.bind_ex {α β : Type} (x : Xc) (e : En) (f : α → En → Rs β) : Rs.bind (.ex x e : Rs α) f = .ex x e := rfl
/-- an operand: a variable's cell looked at, or a result -/
inductive PV where
  | sl (i : Nat)
  | r (x : R)
def Slot.d : Slot → D
  | .val d => d
  | .own c => c.d
  | .bor c => c.d
def PV.get : PV → En → Option D
  | .sl i, e => match e[i]? with
    | some (some s) => some s.d
    | _ => none
  | .r x, _ => some x.d

/-! ### avoided addresses -/
abbrev AS := Addr → Prop
def AV (W : AS) (F : Nat → AS) : AS := fun b => W b ∨ ∃ i, F i b
def plus (W fp : AS) : AS := fun b => W b ∨ fp b
/-- from (A, H) to (A', H'): what isn't avoided is kept -/
structure Step (A : AS) (H : Hp) (A' : AS) (H' : Hp) : Prop where
  keep : ∀ b o, H b = some o → ¬ A b → H' b = some o
  trk : ∀ b, H b ≠ none → H' b ≠ none
  sub : ∀ b, A' b → H b ≠ none → A b
theorem Step.refl {A : AS} {H : Hp} : Step A H A H := ⟨fun _ _ e _ => e, fun _ e => e, fun _ a _ => a⟩
theorem Step.trans {A A1 A2 : AS} {H H1 H2 : Hp} (a : Step A H A1 H1) (b : Step A1 H1 A2 H2) : Step A H A2 H2 where
  keep := fun c o e n => b.keep c o (a.keep c o e n) fun z => n (a.sub c z (by rw [e]; simp))
  trk := fun c e => b.trk c (a.trk c e)
  sub := fun c z e => a.sub c (b.sub c z (a.trk c e)) e
theorem Step.weak {A A1 A2 : AS} {H H1 : Hp} (a : Step A H A1 H1) (h : ∀ b, A2 b → A1 b) : Step A H A2 H1 :=
  ⟨a.keep, a.trk, fun b z e => a.sub b (h b z) e⟩

/-- the same with what may be changed: the variables' own places -/
structure Stp (W : AS) (F : Nat → AS) (H : Hp) (W' : AS) (F' : Nat → AS) (H' : Hp) : Prop where
  keep : ∀ b o, H b = some o → ¬ (∃ i, F i b) → H' b = some o
  trk : ∀ b, H b ≠ none → H' b ≠ none
  sub : ∀ b, AV W' F' b → H b ≠ none → AV W F b
  subM : ∀ i b, F' i b → H b ≠ none → ∃ j, F j b
theorem Stp.step {W W' : AS} {F F' : Nat → AS} {H H' : Hp} (s : Stp W F H W' F' H') : Step (AV W F) H (AV W' F') H' :=
  ⟨fun b o e n => s.keep b o e fun z => n (.inr z), s.trk, s.sub⟩
theorem Stp.refl {W : AS} {F : Nat → AS} {H : Hp} : Stp W F H W F H := ⟨fun _ _ e _ => e, fun _ e => e, fun _ a _ => a, fun i _ a _ => ⟨i, a⟩⟩
theorem Stp.trans {W W1 W2 : AS} {F F1 F2 : Nat → AS} {H H1 H2 : Hp} (a : Stp W F H W1 F1 H1) (b : Stp W1 F1 H1 W2 F2 H2) : Stp W F H W2 F2 H2 where
  keep := fun c o e n => b.keep c o (a.keep c o e n) fun ⟨i, z⟩ => n (a.subM i c z (by rw [e]; simp))
  trk := fun c e => b.trk c (a.trk c e)
  sub := fun c z e => a.sub c (b.sub c z (a.trk c e)) e
  subM := fun i c z e => let ⟨j, y⟩ := b.subM i c z (a.trk c e); a.subM j c y e
theorem Stp.weak {W W1 W2 : AS} {F F1 : Nat → AS} {H H1 : Hp} (a : Stp W F H W1 F1 H1) (h : ∀ b, AV W2 F1 b → AV W1 F1 b) : Stp W F H W2 F1 H1 :=
  ⟨a.keep, a.trk, fun b z e => a.sub b (h b z) e, a.subM⟩
theorem Stp.less {W W1 : AS} {F F1 : Nat → AS} {H : Hp} (h : ∀ b, AV W1 F1 b → AV W F b) (hm : ∀ i b, F1 i b → ∃ j, F j b) : Stp W F H W1 F1 H :=
  ⟨fun _ _ e _ => e, fun _ e => e, fun b z _ => h b z, fun i b z _ => hm i b z⟩

/-! ### data in the heap, none of it avoided -/
def WrL (K : PySem.W.Frag) (a : Addr) (xs : List V) : Prop :=
  ∃ (ob : Obj) (its : Array Value) (n : Nat), K.lookup a = some ob ∧ ob.cls = .type "list" ∧ ob.dict = none ∧
    ob.data = .seq its n ∧ its.size ≤ sizeLine ∧ Vals xs its.toList
def WrT (K : PySem.W.Frag) (a : Addr) (xs : List V) : Prop :=
  ∃ (ob : Obj) (its : Array Value) (n : Nat), K.lookup a = some ob ∧ ob.cls = .type "tuple" ∧
    ob.data = .seq its n ∧ its.size ≤ sizeLine ∧ Vals xs its.toList
def SqLA (K : PySem.W.Frag) (A : AS) (H : Hp) (a : Addr) (xs : List V) : Prop := (Rd H a (.lst xs) ∧ ¬ A a) ∨ WrL K a xs
def SqTA (K : PySem.W.Frag) (A : AS) (H : Hp) (a : Addr) (xs : List V) : Prop := (Rd H a (.tup xs) ∧ ¬ A a) ∨ WrT K a xs
/-- a list that is only read (the script) -/
abbrev roL (ds : List D) : D := .dict [(.none, .list ds)]
def keyD : Key → D
  | .inl i => .int i
  | .inr x => .str x
mutual
inductive DpA (K : PySem.W.Frag) (A : AS) (H : Hp) : V → D → Prop
  | non : DpA K A H .non .none
  | bl (b : Bool) : DpA K A H (.bl b) (.bool b)
  | int (i : Int) : DpA K A H (.int i) (.int i)
  | str (x : Str) : DpA K A H (.str x) (.str x)
  | lst {a : Addr} {xs : List V} {ds : List D} : Rd H a (.lst xs) → ¬ A a → DpAs K A H xs ds → DpA K A H (.ref a) (.list ds)
  | ro {a : Addr} {xs : List V} {ds : List D} : SqLA K A H a xs → DpAs K A H xs ds → DpA K A H (.ref a) (roL ds)
  | tup {a : Addr} {xs : List V} {ds : List D} : SqTA K A H a xs → DpAs K A H xs ds → DpA K A H (.ref a) (.tuple ds)
  | dK {a : Addr} {kv : List (Key × V)} {kvs : List (D × D)} : H a = some (.dK kv) → ¬ A a → DpKs K A H kv kvs → DpA K A H (.ref a) (.dict kvs)
  | dT {a : Addr} {kv : List (List Key × V)} {kvs : List (D × D)} : H a = some (.dT kv) → ¬ A a → DpTs K A H kv kvs → DpA K A H (.ref a) (.dict kvs)
inductive DpKs (K : PySem.W.Frag) (A : AS) (H : Hp) : List (Key × V) → List (D × D) → Prop
  | nil : DpKs K A H [] []
  | cons {k : Key} {v : V} {kv : List (Key × V)} {d : D} {kvs : List (D × D)} : DpA K A H v d → DpKs K A H kv kvs → DpKs K A H ((k, v) :: kv) ((keyD k, d) :: kvs)
inductive DpTs (K : PySem.W.Frag) (A : AS) (H : Hp) : List (List Key × V) → List (D × D) → Prop
  | nil : DpTs K A H [] []
  | cons {k : List Key} {v : V} {kv : List (List Key × V)} {d : D} {kvs : List (D × D)} : DpA K A H v d → DpTs K A H kv kvs → DpTs K A H ((k, v) :: kv) ((.tuple (k.map keyD), d) :: kvs)
inductive DpAs (K : PySem.W.Frag) (A : AS) (H : Hp) : List V → List D → Prop
  | nil : DpAs K A H [] []
  | cons {v : V} {vs : List V} {d : D} {ds : List D} : DpA K A H v d → DpAs K A H vs ds → DpAs K A H (v :: vs) (d :: ds)
end
section
variable {K : PySem.W.Frag} {A A' : AS} {H H' : Hp}
theorem Rd.some {a : Addr} {u : HO} (h : Rd H a u) : ∃ o, H a = Option.some o := by
  rcases h with h | ⟨o, h⟩
  · exact ⟨_, h⟩
  · exact ⟨_, h⟩
theorem rd_step (s : Step A H A' H') {a : Addr} {u : HO} (h : Rd H a u) (n : ¬ A a) : Rd H' a u ∧ ¬ A' a := by
  obtain ⟨o, e⟩ := Rd.some h
  refine ⟨?_, fun z => n (s.sub a z (by rw [e]; simp))⟩
  rcases h with h | ⟨o, h⟩
  · exact .inl (s.keep a _ h n)
  · exact .inr ⟨o, s.keep a _ h n⟩
theorem SqLA.step (s : Step A H A' H') {a : Addr} {xs : List V} (h : SqLA K A H a xs) : SqLA K A' H' a xs := by
  rcases h with ⟨h, n⟩ | h
  · exact .inl (rd_step s h n)
  · exact .inr h
theorem SqTA.step (s : Step A H A' H') {a : Addr} {xs : List V} (h : SqTA K A H a xs) : SqTA K A' H' a xs := by
  rcases h with ⟨h, n⟩ | h
  · exact .inl (rd_step s h n)
  · exact .inr h
theorem SqLA.sq {a : Addr} {xs : List V} (h : SqLA K A H a xs) : SqL K H a xs := by
  rcases h with ⟨h, _⟩ | h
  · exact .inl h
  · exact .inr h
theorem SqTA.sq {a : Addr} {xs : List V} (h : SqTA K A H a xs) : SqT K H a xs := by
  rcases h with ⟨h, _⟩ | h
  · exact .inl h
  · exact .inr h
mutual
theorem DpA.step (s : Step A H A' H') : ∀ {v : V} {d : D}, DpA K A H v d → DpA K A' H' v d
  | _, _, .non => .non
  | _, _, .bl b => .bl b
  | _, _, .int i => .int i
  | _, _, .str x => .str x
  | _, _, .lst h n hs => .lst (rd_step s h n).1 (rd_step s h n).2 (DpAs.step s hs)
  | _, _, .ro h hs => .ro (h.step s) (DpAs.step s hs)
  | _, _, .tup h hs => .tup (h.step s) (DpAs.step s hs)
  | _, _, .dK h n hs => .dK (s.keep _ _ h n) (fun z => n (s.sub _ z (by rw [h]; simp))) (DpKs.step s hs)
  | _, _, .dT h n hs => .dT (s.keep _ _ h n) (fun z => n (s.sub _ z (by rw [h]; simp))) (DpTs.step s hs)
theorem DpKs.step (s : Step A H A' H') : ∀ {kv : List (Key × V)} {kvs : List (D × D)}, DpKs K A H kv kvs → DpKs K A' H' kv kvs
  | _, _, .nil => .nil
  | _, _, .cons h hs => .cons (DpA.step s h) (DpKs.step s hs)
theorem DpTs.step (s : Step A H A' H') : ∀ {kv : List (List Key × V)} {kvs : List (D × D)}, DpTs K A H kv kvs → DpTs K A' H' kv kvs
  | _, _, .nil => .nil
  | _, _, .cons h hs => .cons (DpA.step s h) (DpTs.step s hs)
theorem DpAs.step (s : Step A H A' H') : ∀ {vs : List V} {ds : List D}, DpAs K A H vs ds → DpAs K A' H' vs ds
  | _, _, .nil => .nil
  | _, _, .cons h hs => .cons (DpA.step s h) (DpAs.step s hs)
end
mutual
theorem DpA.dp : ∀ {v : V} {d : D}, DpA K A H v d → d.canLay0 = true → Dp K H v d
  | _, _, .non, _ => .non
  | _, _, .bl b, _ => .bl b
  | _, _, .int i, _ => .int i
  | _, _, .str x, _ => .str x
  | _, _, .lst h n hs, z => .lst (.inl h) (DpAs.dp hs (by simpa [PyData.canLay0] using z))
  | _, _, .ro _ _, z => by simp [PyData.canLay0] at z
  | _, _, .tup h hs, z => .tup h.sq (DpAs.dp hs (by simpa [PyData.canLay0] using z))
  | _, _, .dK _ _ _, z => by simp [PyData.canLay0] at z
  | _, _, .dT _ _ _, z => by simp [PyData.canLay0] at z
theorem DpAs.dp : ∀ {vs : List V} {ds : List D}, DpAs K A H vs ds → PyData.canLayAll0 ds = true → DpAll K H vs ds
  | _, _, .nil, _ => .nil
  | _, _, .cons h hs, z => by
    simp only [PyData.canLayAll0, Bool.and_eq_true] at z
    exact .cons (DpA.dp h z.1) (DpAs.dp hs z.2)
end
theorem DpAs.length : ∀ {vs : List V} {ds : List D}, DpAs K A H vs ds → vs.length = ds.length
  | _, _, .nil => rfl
  | _, _, .cons _ t => by rw [List.length_cons, List.length_cons, DpAs.length t]
theorem DpAs.get : ∀ {vs : List V} {ds : List D} {i : Nat} {d : D}, DpAs K A H vs ds → ds[i]? = some d → ∃ v, vs[i]? = some v ∧ DpA K A H v d
  | _, _, _, _, .nil, e => by simp at e
  | _, _, 0, _, .cons h _, e => by simp at e; subst e; exact ⟨_, rfl, h⟩
  | _, _, i + 1, d, .cons _ t, e => by
    obtain ⟨v, h1, h2⟩ := DpAs.get (i := i) (d := d) t (by simpa using e)
    exact ⟨v, by simpa using h1, h2⟩
theorem DpAs.getV : ∀ {vs : List V} {ds : List D} {i : Nat} {v : V}, DpAs K A H vs ds → vs[i]? = some v → ∃ d, ds[i]? = some d ∧ DpA K A H v d
  | _, _, _, _, .nil, e => by simp at e
  | _, _, 0, _, .cons h _, e => by simp at e; subst e; exact ⟨_, rfl, h⟩
  | _, _, i + 1, d, .cons _ t, e => by
    obtain ⟨v, h1, h2⟩ := DpAs.getV (i := i) (v := d) t (by simpa using e)
    exact ⟨v, by simpa using h1, h2⟩
theorem DpAs.append : ∀ {vs ws : List V} {ds es : List D}, DpAs K A H vs ds → DpAs K A H ws es → DpAs K A H (vs ++ ws) (ds ++ es)
  | _, _, _, _, .nil, h => h
  | _, _, _, _, .cons h t, h' => .cons h (DpAs.append t h')
theorem DpAs.take : ∀ {vs : List V} {ds : List D} (n : Nat), DpAs K A H vs ds → DpAs K A H (vs.take n) (ds.take n)
  | _, _, 0, _ => .nil
  | _, _, _ + 1, .nil => .nil
  | _, _, n + 1, .cons h t => .cons h (DpAs.take n t)
theorem DpAs.drop : ∀ {vs : List V} {ds : List D} (n : Nat), DpAs K A H vs ds → DpAs K A H (vs.drop n) (ds.drop n)
  | _, _, 0, h => h
  | _, _, _ + 1, .nil => .nil
  | _, _, n + 1, .cons _ t => DpAs.drop n t
theorem DpAs.set {v : V} {d : D} (h : DpA K A H v d) : ∀ {vs : List V} {ds : List D} (n : Nat), DpAs K A H vs ds → DpAs K A H (vs.set n v) (ds.set n d)
  | _, _, _, .nil => .nil
  | _, _, 0, .cons _ t => .cons h t
  | _, _, n + 1, .cons g t => .cons g (DpAs.set h n t)
theorem DpAs.reverse : ∀ {vs : List V} {ds : List D}, DpAs K A H vs ds → DpAs K A H vs.reverse ds.reverse
  | _, _, .nil => .nil
  | _, _, .cons h t => by
    rw [List.reverse_cons, List.reverse_cons]
    exact (DpAs.reverse t).append (.cons h .nil)
theorem DpAs.eraseIdx : ∀ {vs : List V} {ds : List D} (n : Nat), DpAs K A H vs ds → DpAs K A H (vs.eraseIdx n) (ds.eraseIdx n)
  | _, _, _, .nil => .nil
  | _, _, 0, .cons _ t => t
  | _, _, n + 1, .cons h t => .cons h (DpAs.eraseIdx n t)
theorem DpAs.ints : ∀ {vs : List V} {ns : List Int}, DpAs K A H vs (ns.map PyData.int) → vs = ns.map V.int
  | _, [], h => by cases h; rfl
  | _, n :: ns, h => by
    rw [List.map_cons] at h
    cases h with
    | cons h t =>
      cases h
      rw [List.map_cons, ← DpAs.ints t]
theorem DpAs.of_ints : ∀ (ns : List Int), DpAs K A H (ns.map V.int) (ns.map PyData.int)
  | [] => .nil
  | n :: ns => .cons (.int n) (DpAs.of_ints ns)
theorem DpAs.bools : ∀ {vs : List V} {ns : List Bool}, DpAs K A H vs (ns.map PyData.bool) → vs = ns.map V.bl
  | _, [], h => by cases h; rfl
  | _, n :: ns, h => by
    rw [List.map_cons] at h
    cases h with
    | cons h t =>
      cases h
      rw [List.map_cons, ← DpAs.bools t]
theorem DpAs.strs : ∀ {vs : List V} {ns : List Str}, DpAs K A H vs (ns.map PyData.str) → vs = ns.map V.str
  | _, [], h => by cases h; rfl
  | _, n :: ns, h => by
    rw [List.map_cons] at h
    cases h with
    | cons h t =>
      cases h
      rw [List.map_cons, ← DpAs.strs t]
/-- the avoided ones made fewer -/
theorem DpA.fewer {v : V} {d : D} (h : DpA K A H v d) (s : ∀ b, A' b → A b) : DpA K A' H v d := h.step (Step.refl.weak s)
theorem DpAs.fewer {v : List V} {d : List D} (h : DpAs K A H v d) (s : ∀ b, A' b → A b) : DpAs K A' H v d := h.step (Step.refl.weak s)
end

/-! ### cells -/
def CelAt (K : PySem.W.Frag) (A : AS) (H : Hp) (a : Addr) : Cel → Prop
  | .lst ds => ∃ xs, H a = some (.lst xs) ∧ DpAs K A H xs ds
  | .dic kvs => (∃ kv : List (Key × V), H a = some (.dK kv) ∧ DpKs K A H kv kvs) ∨ ∃ kv : List (List Key × V), H a = some (.dT kv) ∧ DpTs K A H kv kvs
section
variable {K : PySem.W.Frag} {A A' : AS} {H H' : Hp} {a : Addr} {c : Cel}
theorem CelAt.step (h : CelAt K A H a c) (s : Step A H A' H') (e : ∀ o, H a = some o → H' a = some o) : CelAt K A' H' a c := by
  cases c with
  | lst ds =>
    obtain ⟨xs, h1, h2⟩ := h
    exact ⟨xs, e _ h1, h2.step s⟩
  | dic kvs =>
    rcases h with ⟨kv, h1, h2⟩ | ⟨kv, h1, h2⟩
    · exact .inl ⟨kv, e _ h1, h2.step s⟩
    · exact .inr ⟨kv, e _ h1, h2.step s⟩
theorem CelAt.there (h : CelAt K A H a c) : H a ≠ none := by
  cases c with
  | lst ds =>
    obtain ⟨xs, h1, h2⟩ := h
    rw [h1]; simp
  | dic kvs =>
    rcases h with ⟨kv, h1, h2⟩ | ⟨kv, h1, h2⟩ <;> (rw [h1]; simp)
theorem CelAt.mut (h : CelAt K A H a c) : Mut (H a) := by
  cases c with
  | lst ds =>
    obtain ⟨xs, h1, h2⟩ := h
    rw [h1]; trivial
  | dic kvs =>
    rcases h with ⟨kv, h1, h2⟩ | ⟨kv, h1, h2⟩ <;> (rw [h1]; trivial)
/-- what stands at a variable -/
def SlotR (K : PySem.W.Frag) (A G : AS) (B : AS × AS) (H : Hp) (fp : AS) (v : V) : Slot → Prop
  | .val d => DpA K A H v d
  | .own c => ∃ a, v = .ref a ∧ CelAt K A H a c ∧ fp a ∧ ∀ b, fp b → ¬ G b
  | .bor c => ∃ a, v = .ref a ∧ CelAt K A H a c ∧ fp a ∧ (∀ b, B.1 b ↔ b = a) ∧ ∀ b, fp b → B.2 b ∨ ¬ G b
/-- W: owned by others; G: stood at the entry; B: the borrowed ones' places; F: each variable's own places -/
structure Rel (K : PySem.W.Frag) (W G : AS) (B : Nat → AS × AS) (F : Nat → AS) (H : Hp) (σ : St) (e : En) : Prop where
  len : σ.length = e.length
  wt : ∀ b, W b → H b ≠ none
  gt : ∀ b, G b → H b ≠ none
  ft : ∀ i b, F i b → H b ≠ none
  fw : ∀ i b, F i b → ¬ W b
  ff : ∀ i j b, F i b → F j b → i = j
  slot : ∀ (i : Nat) (s : Slot), e[i]? = some (some s) → ∃ v, σ[i]? = some (some v) ∧ SlotR K (AV W F) G (B i) H (F i) v s
end
section
variable {K : PySem.W.Frag} {W W' G : AS} {B : Nat → AS × AS} {F F' : Nat → AS} {H H' : Hp} {σ : St} {e : En} {i : Nat} {s : Slot} {v : V}
theorem Rel.at (r : Rel K W G B F H σ e) : ∀ b, AV W F b → H b ≠ none := fun b h => by
  rcases h with h | ⟨i, h⟩
  · exact r.wt b h
  · exact r.ft i b h
/-- all tracked objects are as they were; new ones owned by others may be more -/
theorem Rel.ext (r : Rel K W G B F H σ e) (hs : Same H H') (hw : ∀ b, W' b → W b ∨ (H b = none ∧ H' b ≠ none)) : Rel K W' G B F H' σ e := by
  have trk : ∀ b, H b ≠ none → H' b ≠ none := fun b h => by
    cases q : H b with
    | none => exact absurd q h
    | some o => rw [hs b o q]; simp
  have st : Step (AV W F) H (AV W' F) H' := ⟨fun b o q _ => hs b o q, trk, fun b z q => by
    rcases z with z | z
    · rcases hw b z with z | ⟨z, _⟩
      · exact .inl z
      · exact absurd z q
    · exact .inr z⟩
  refine ⟨r.len, fun b z => ?_, fun b z => trk b (r.gt b z), fun i b z => trk b (r.ft i b z), fun i b z w => ?_, r.ff, fun i s h => ?_⟩
  · rcases hw b z with z | z
    · exact trk b (r.wt b z)
    · exact z.2
  · rcases hw b w with w | w
    · exact r.fw i b z w
    · exact r.ft i b z w.1
  · obtain ⟨v, h1, h2⟩ := r.slot i s h
    refine ⟨v, h1, ?_⟩
    cases s with
    | val d => exact h2.step st
    | own c =>
      obtain ⟨a, h3, h4, h5, h6⟩ := h2
      exact ⟨a, h3, h4.step st fun o q => hs a o q, h5, h6⟩
    | bor c =>
      obtain ⟨a, h3, h4, h5, h6⟩ := h2
      exact ⟨a, h3, h4.step st fun o q => hs a o q, h5, h6⟩
theorem Rel.fewer (r : Rel K W G B F H σ e) (hw : ∀ b, W' b → W b) : Rel K W' G B F H σ e := r.ext (fun _ _ q => q) fun b z => .inl (hw b z)
theorem step_of (hs : Same H H') {A A' : AS} (h : ∀ b, A' b → H b ≠ none → A b) : Step A H A' H' :=
  ⟨fun b o q _ => hs b o q, fun b q => by
    cases z : H b with
    | none => exact absurd z q
    | some o => rw [hs b o z]; simp, h⟩
theorem stp_of (hs : Same H H') (h : ∀ b, AV W' F' b → H b ≠ none → AV W F b) (hm : ∀ i b, F' i b → H b ≠ none → ∃ j, F j b) : Stp W F H W' F' H' :=
  ⟨fun b o q _ => hs b o q, (step_of hs h).trk, h, hm⟩
theorem same_upd {p : Addr} {o : HO} (h : H p = none) : Same H (upd H p o) := fun b u q => by
  rw [upd_ne (ne_of_none q h)]
  exact q

/-- an operand as it stands behind its evaluation -/
def Opv (K : PySem.W.Frag) (A : AS) (H : Hp) (σ : St) (v : V) : PV → Prop
  | .sl i => σ[i]? = some (some v)
  | .r x => DpA K A H v x.d
/-- a value that is looked at: data, or a variable's own cell -/
def PK (K : PySem.W.Frag) (A : AS) (H : Hp) (v : V) (d : D) : Prop := DpA K A H v d ∨ ∃ a c, v = .ref a ∧ d = c.d ∧ CelAt K A H a c
theorem Opv.step {A A' : AS} {pv : PV} (h : Opv K A H σ v pv) (s : Step A H A' H') : Opv K A' H' σ v pv := by
  cases pv with
  | sl i => exact h
  | r x => exact DpA.step s h
theorem Opv.pk {pv : PV} {d : D} (h : Opv K (AV W F) H σ v pv) (r : Rel K W G B F H σ e) (g : pv.get e = some d) : PK K (AV W F) H v d := by
  cases pv with
  | r x =>
    simp only [PV.get, Option.some.injEq] at g
    subst g
    exact .inl h
  | sl i =>
    simp only [PV.get] at g
    split at g
    · rename_i s hs
      obtain ⟨u, h1, h2⟩ := r.slot i s hs
      have hv : σ[i]? = some (some v) := h
      rw [hv] at h1
      cases h1
      cases g
      cases s with
      | val d => exact .inl h2
      | own c =>
        obtain ⟨a, h3, h4, h5, h6⟩ := h2
        exact .inr ⟨a, c, h3, rfl, h4⟩
      | bor c =>
        obtain ⟨a, h3, h4, h5, h6⟩ := h2
        exact .inr ⟨a, c, h3, rfl, h4⟩
    · cases g
section
variable {A : AS} {ds : List D}
theorem PK.list (h : PK K A H v (.list ds)) : ∃ a xs, v = .ref a ∧ Rd H a (.lst xs) ∧ DpAs K A H xs ds := by
  rcases h with h | ⟨a, c, h1, h2, h3⟩
  · cases h with
    | lst h n hs => exact ⟨_, _, rfl, h, hs⟩
  · cases c with
    | lst es =>
      cases h2
      obtain ⟨xs, h4, h5⟩ := h3
      exact ⟨a, xs, h1, .of h4, h5⟩
    | dic kvs => cases h2
theorem DpKs.keys : ∀ {kv : List (Key × V)} {kvs : List (D × D)}, DpKs K A H kv kvs → ∀ p ∈ kvs, p.1 ≠ .none
  | _, _, .nil => fun p hp => by cases hp
  | _, _, .cons (k := k) h t => fun p hp => by
    rcases List.mem_cons.mp hp with e | hp
    · subst e
      cases k <;> simp [keyD]
    · exact DpKs.keys t p hp
theorem DpTs.keys : ∀ {kv : List (List Key × V)} {kvs : List (D × D)}, DpTs K A H kv kvs → ∀ p ∈ kvs, p.1 ≠ .none
  | _, _, .nil => fun p hp => by cases hp
  | _, _, .cons h t => fun p hp => by
    rcases List.mem_cons.mp hp with e | hp
    · subst e
      simp
    · exact DpTs.keys t p hp
theorem PK.rol (h : PK K A H v (Ev.roL ds)) : ∃ a xs, v = .ref a ∧ SqL K H a xs ∧ DpAs K A H xs ds := by
  generalize e : Ev.roL ds = d at h
  rcases h with h | ⟨a, c, h1, h2, h3⟩
  · cases h with
    | ro h hs =>
      cases e
      exact ⟨_, _, rfl, h.sq, hs⟩
    | dK h n hs =>
      cases e
      exact absurd rfl (hs.keys _ List.mem_cons_self)
    | dT h n hs =>
      cases e
      exact absurd rfl (hs.keys _ List.mem_cons_self)
    | _ => cases e
  · subst h2
    cases c with
    | lst es => cases e
    | dic kvs =>
      cases e
      rcases h3 with ⟨kv, h4, h5⟩ | ⟨kv, h4, h5⟩
      · exact absurd rfl (h5.keys _ List.mem_cons_self)
      · exact absurd rfl (h5.keys _ List.mem_cons_self)
theorem PK.tup (h : PK K A H v (.tuple ds)) : ∃ a xs, v = .ref a ∧ SqTA K A H a xs ∧ DpAs K A H xs ds := by
  rcases h with h | ⟨a, c, h1, h2, h3⟩
  · cases h with
    | tup h hs => exact ⟨_, _, rfl, h, hs⟩
  · cases c <;> cases h2
theorem PK.int {k : Int} (h : PK K A H v (.int k)) : v = .int k := by
  rcases h with h | ⟨a, c, h1, h2, h3⟩
  · cases h; rfl
  · cases c <;> cases h2
theorem PK.str {k : Str} (h : PK K A H v (.str k)) : v = .str k := by
  rcases h with h | ⟨a, c, h1, h2, h3⟩
  · cases h; rfl
  · cases c <;> cases h2
theorem PK.bool {k : Bool} (h : PK K A H v (.bool k)) : v = .bl k := by
  rcases h with h | ⟨a, c, h1, h2, h3⟩
  · cases h; rfl
  · cases c <;> cases h2
theorem PK.none (h : PK K A H v .none) : v = .non := by
  rcases h with h | ⟨a, c, h1, h2, h3⟩
  · cases h; rfl
  · cases c <;> cases h2
theorem PK.dp {d : D} (h : PK K A H v d) (nd : d.canLay0 = true) : Dp K H v d := by
  rcases h with h | ⟨a, c, h1, h2, h3⟩
  · exact h.dp nd
  · cases c with
    | lst es =>
      cases h2
      obtain ⟨xs, h4, h5⟩ := h3
      subst h1
      exact .lst (.of h4) (h5.dp (by simpa [PyData.canLay0, Cel.d] using nd))
    | dic kvs => subst h2; simp [PyData.canLay0, Cel.d] at nd
/-- a cell, let go -/
theorem CelAt.dat {a : Addr} {c : Cel} {A' : AS} (h : CelAt K A H a c) (n : ¬ A' a) (hs : ∀ b, A' b → A b) : DpA K A' H (.ref a) c.d := by
  cases c with
  | lst ds =>
    obtain ⟨xs, h6, h7⟩ := h
    exact .lst (.of h6) n (h7.fewer hs)
  | dic kvs =>
    rcases h with ⟨kv, h6, h7⟩ | ⟨kv, h6, h7⟩
    · exact .dK h6 n (h7.step (Step.refl.weak hs))
    · exact .dT h6 n (h7.step (Step.refl.weak hs))
end
end
end Ev

/-! Ev, part X: rows in order. -/
namespace Ev
open PySem L2
def rowD (r : List Int) : D := .tuple (r.map .int)
def insR (n : List Int) : List (List Int) → List (List Int)
  | [] => [n]
  | m :: ms => if HT.lexLt m n = true then m :: insR n ms else n :: m :: ms
def sortR : List (List Int) → List (List Int)
  | [] => []
  | n :: ns => insR n (sortR ns)
/-- alike rows once, the first one kept -/
def dedR : List (List Int) → List (List Int)
  | [] => []
  | r :: L => r :: (dedR L).filter fun s => decide (s ≠ r)
/-- fewer than 64 rows, of one length, of no number below 0 -/
def okRows : List (List Int) → Bool
  | [] => true
  | r :: L => decide (r ≠ []) && decide (L.length < 63) && (r :: L).all fun s => decide (s.length = r.length) && s.all fun x => decide (0 ≤ x)
abbrev LeR (a b : List Int) : Prop := HT.lexLt b a = false
theorem lex_irr : ∀ a : List Int, HT.lexLt a a = false
  | [] => rfl
  | x :: a => by rw [HT.lexLt_cons, if_pos rfl, lex_irr a]
theorem lex_tr : ∀ {a b c : List Int}, HT.lexLt a b = true → HT.lexLt b c = true → HT.lexLt a c = true
  | [], [], _, h, _ => by cases h
  | [], _ :: _, [], _, h => by cases h
  | [], _ :: _, _ :: _, _, _ => rfl
  | _ :: _, [], _, h, _ => by cases h
  | _ :: _, _ :: _, [], _, h => by cases h
  | x :: a, y :: b, z :: c, h, k => by
    rw [HT.lexLt_cons] at h k ⊢
    by_cases e1 : x = y
    · subst e1
      rw [if_pos rfl] at h
      by_cases e2 : x = z
      · subst e2
        rw [if_pos rfl] at k ⊢
        exact lex_tr h k
      · rw [if_neg e2] at k ⊢
        exact k
    · rw [if_neg e1] at h
      by_cases e2 : y = z
      · subst e2
        rw [if_neg e1]
        exact h
      · rw [if_neg e2] at k
        have h' := of_decide_eq_true h
        have k' := of_decide_eq_true k
        rw [if_neg (by omega)]
        exact decide_eq_true (by omega)
theorem lex_tot : ∀ {a b : List Int}, HT.lexLt a b = false → HT.lexLt b a = false → a = b
  | [], [], _, _ => rfl
  | [], _ :: _, h, _ => by cases h
  | _ :: _, [], _, h => by cases h
  | x :: a, y :: b, h, k => by
    rw [HT.lexLt_cons] at h k
    by_cases e : x = y
    · subst e
      rw [if_pos rfl] at h k
      rw [lex_tot h k]
    · rw [if_neg e] at h
      rw [if_neg (Ne.symm e)] at k
      have h' := of_decide_eq_false h
      have k' := of_decide_eq_false k
      omega
theorem lex_asy {a b : List Int} (h : HT.lexLt a b = true) : HT.lexLt b a = false := by
  cases q : HT.lexLt b a with
  | false => rfl
  | true =>
    have := lex_tr h q
    rw [lex_irr] at this
    cases this
theorem leR_tr {a b c : List Int} (h : LeR a b) (k : LeR b c) : LeR a c := by
  cases q : HT.lexLt c a with
  | false => exact q
  | true =>
    cases e : HT.lexLt a b with
    | true =>
      have := lex_tr q e
      rw [show HT.lexLt c b = false from k] at this
      cases this
    | false =>
      have := lex_tot e h
      subst this
      rw [show HT.lexLt c a = false from k] at q
      cases q
theorem insR_perm (n : List Int) : ∀ ms, (insR n ms).Perm (n :: ms)
  | [] => .refl _
  | m :: ms => by
    unfold insR
    split
    · exact ((insR_perm n ms).cons m).trans (.swap n m ms)
    · exact .refl _
theorem sortR_perm : ∀ ns, (sortR ns).Perm ns
  | [] => .refl _
  | n :: ns => (insR_perm n (sortR ns)).trans ((sortR_perm ns).cons n)
theorem insR_sorted (n : List Int) : ∀ ms : List (List Int), ms.Pairwise LeR → (insR n ms).Pairwise LeR
  | [], _ => List.pairwise_singleton _ _
  | m :: ms, h => by
    obtain ⟨h1, h2⟩ := List.pairwise_cons.mp h
    unfold insR
    split
    · rename_i hz
      refine List.pairwise_cons.mpr ⟨fun y hy => ?_, insR_sorted n ms h2⟩
      rcases List.mem_cons.mp ((insR_perm n ms).mem_iff.mp hy) with e | hy
      · subst e; exact lex_asy hz
      · exact h1 y hy
    · rename_i hz
      have hz : LeR n m := by
        cases q : HT.lexLt m n with
        | false => exact q
        | true => exact absurd q hz
      refine List.pairwise_cons.mpr ⟨fun y hy => ?_, h⟩
      rcases List.mem_cons.mp hy with e | hy
      · subst e; exact hz
      · exact leR_tr hz (h1 y hy)
theorem sortR_sorted : ∀ ns, (sortR ns).Pairwise LeR
  | [] => .nil
  | n :: ns => insR_sorted n _ (sortR_sorted ns)
theorem sortedR_uniq : ∀ {xs ys : List (List Int)}, xs.Perm ys → xs.Pairwise LeR → ys.Pairwise LeR → xs = ys
  | [], ys, p, _, _ => p.nil_eq
  | x :: xs, [], p, _, _ => absurd p.symm.nil_eq (by simp)
  | x :: xs, y :: ys, p, h1, h2 => by
    obtain ⟨a1, a2⟩ := List.pairwise_cons.mp h1
    obtain ⟨b1, b2⟩ := List.pairwise_cons.mp h2
    have e : x = y := by
      rcases List.mem_cons.mp (p.mem_iff.mp (List.mem_cons_self (a := x))) with e | m1
      · exact e
      · rcases List.mem_cons.mp (p.mem_iff.mpr (List.mem_cons_self (a := y))) with e | m2
        · exact e.symm
        · exact lex_tot (b1 x m1) (a1 y m2)
    subst e
    rw [sortedR_uniq (List.Perm.cons_inv p) a2 b2]
theorem code_le {B : Int} : ∀ {a b : List Int}, a.length = b.length → TS.Bd B a → TS.Bd B b → TS.code B a ≤ TS.code B b → LeR a b
  | [], [], _, _, _, _ => rfl
  | [], _ :: _, h, _, _, _ => by simp at h
  | _ :: _, [], h, _, _, _ => by simp at h
  | x :: a, y :: b, hl, ha, hb, h => by
    have hl' : a.length = b.length := by simpa using hl
    show HT.lexLt (y :: b) (x :: a) = false
    rw [HT.lexLt_cons]
    by_cases e : y = x
    · subst e
      rw [if_pos rfl]
      refine code_le hl' ha.tail hb.tail ?_
      have h : y * B ^ a.length + TS.code B a ≤ y * B ^ b.length + TS.code B b := h
      rw [hl'] at h
      omega
    · rw [if_neg e]
      refine decide_eq_false fun z => ?_
      have := TS.code_lt (B := B) hl'.symm hb.tail ha.tail z
      omega
/-- told by their codes, they stand as sortR puts them -/
theorem sortR_code {B : Int} {d : Nat} {xs ys : List (List Int)} (p : ys.Perm xs) (hB : ∀ x ∈ xs, x.length = d ∧ TS.Bd B x) (h : ys.Pairwise fun a b => TS.code B a ≤ TS.code B b) : ys = sortR xs := by
  refine sortedR_uniq (p.trans (sortR_perm xs).symm) ?_ (sortR_sorted xs)
  refine List.Pairwise.imp_of_mem (fun {a b} ha hb h => ?_) h
  obtain ⟨a1, a2⟩ := hB a (p.mem_iff.mp ha)
  obtain ⟨b1, b2⟩ := hB b (p.mem_iff.mp hb)
  exact code_le (a1.trans b1.symm) a2 b2 h
theorem mem_dedR {r : List Int} : ∀ {L : List (List Int)}, r ∈ dedR L ↔ r ∈ L
  | [] => by simp [dedR]
  | s :: L => by
    rw [dedR, List.mem_cons, List.mem_cons, List.mem_filter, mem_dedR (L := L)]
    by_cases h : r = s <;> simp [h]
theorem dedR_nodup : ∀ L : List (List Int), (dedR L).Nodup
  | [] => List.nodup_nil
  | s :: L => by
    rw [dedR]
    refine List.nodup_cons.mpr ⟨fun h => ?_, (dedR_nodup L).filter _⟩
    simp at h
/-- a bound above all numbers -/
theorem bd_ex : ∀ L : List (List Int), ∃ B : Int, ∀ r ∈ L, ∀ x ∈ r, x < B
  | [] => ⟨0, fun r h => nomatch h⟩
  | r :: L => by
    obtain ⟨B, h⟩ := bd_ex L
    have one : ∀ r : List Int, ∃ C : Int, ∀ x ∈ r, x < C := fun r => by
      induction r with
      | nil => exact ⟨0, fun x h => nomatch h⟩
      | cons x r ih =>
        obtain ⟨C, h⟩ := ih
        refine ⟨max C (x + 1), fun y hy => ?_⟩
        rcases List.mem_cons.mp hy with e | hy
        · subst e; omega
        · have := h y hy; omega
    obtain ⟨C, k⟩ := one r
    refine ⟨max B C, fun s hs x hx => ?_⟩
    rcases List.mem_cons.mp hs with e | hs
    · subst e
      have := k x hx
      omega
    · have := h s hs x hx
      omega
theorem okRows_at {L : List (List Int)} (h : okRows L = true) : L.length < 64 ∧ ∃ (d : Nat) (B : Int), 1 ≤ d ∧ ∀ r ∈ L, r.length = d ∧ TS.Bd B r := by
  cases L with
  | nil => exact ⟨by decide, 1, 0, Nat.le_refl _, fun r h => nomatch h⟩
  | cons r L =>
    simp only [okRows, Bool.and_eq_true, decide_eq_true_eq, List.all_eq_true] at h
    obtain ⟨⟨h1, h2⟩, h3⟩ := h
    obtain ⟨B, hB⟩ := bd_ex (r :: L)
    refine ⟨by simp; omega, r.length, B, List.length_pos_iff.mpr h1, fun s hs => ⟨(h3 s hs).1, fun x hx => ⟨(h3 s hs).2 x hx, hB s hs x hx⟩⟩⟩
/-- the things that a list is made of, in another order -/
theorem perm_dpas {K : PySem.W.Frag} {A : AS} {H : Hp} {α : Type} (f : α → D) {ys xs : List V} (p : ys.Perm xs) : ∀ {L : List α}, DpAs K A H xs (L.map f) → ∃ L' : List α, L'.Perm L ∧ DpAs K A H ys (L'.map f) := by
  induction p with
  | nil => exact fun {L} h => ⟨L, .refl _, h⟩
  | cons x _ ih =>
    intro L h
    cases L with
    | nil => cases h
    | cons a L =>
      cases h with
      | cons h t =>
        obtain ⟨L', p', q⟩ := ih t
        exact ⟨a :: L', p'.cons a, .cons h q⟩
  | swap x y l =>
    intro L h
    cases L with
    | nil => cases h
    | cons a L =>
      cases h with
      | cons h t =>
        cases L with
        | nil => cases t
        | cons b L =>
          cases t with
          | cons h' t' => exact ⟨b :: a :: L, .swap a b L, .cons h' (.cons h t')⟩
  | trans _ _ i1 i2 =>
    intro L h
    obtain ⟨L1, p1, q1⟩ := i2 h
    obtain ⟨L2, p2, q2⟩ := i1 q1
    exact ⟨L2, p2.trans p1, q2⟩
end Ev

/-! Ev, part B: the embedded language and its evaluator over plain data. -/
namespace Ev
open PySem L2

def PV.isR : PV → Bool
  | .r _ => true
  | .sl _ => false
/-! ### operations on data -/
def charD (c : Nat) : D := .str ⟨#[c]⟩
def bopD : Operator → D → D → Option R
  | .Add, .int i, .int j => some (.v (.int (i + j)))
  | .Add, .str x, .str y => if x.length + y.length ≤ sizeLine then some (.v (.str (x ++ y))) else none
  | .Add, .list xs, .list ys => if xs.length + ys.length ≤ sizeLine then some (.o (.lst (xs ++ ys))) else none
  | .Add, .tuple xs, .tuple ys => if xs.length + ys.length ≤ sizeLine then some (.v (.tuple (xs ++ ys))) else none
  | .Sub, .int i, .int j => some (.v (.int (i - j)))
  | .Mult, .int i, .int j => if (i.natAbs < 2 ^ 200 ∧ j.natAbs < 2 ^ 200) ∨ i.natAbs.log2 + j.natAbs.log2 < 1000000 then some (.v (.int (i * j))) else none
  | .Mult, .tuple xs, .int k => if xs ≠ [] ∧ 2 ≤ k ∧ k ≤ 1000 ∧ xs.length ≤ 1000 then some (.v (.tuple (List.replicate k.toNat xs).flatten)) else none
  | .FloorDiv, .int i, .int j => if 0 < j ∧ (j < 2 ^ 200 ∨ j.natAbs.log2 < 9000) then some (.v (.int (i / j))) else none
  | .Mod, .int i, .int j => if 0 < j then some (.v (.int (i % j))) else none
  | .Pow, .int i, .int j => if 0 ≤ j ∧ j ≤ 1000000 ∧ i.natAbs < 2 ^ 64 then some (.v (.int (i ^ j.toNat))) else none
  | .Add, .bool k, .int i => some (.v (.int ((if k then 1 else 0) + i)))
  | .Sub, .bool k, .int i => some (.v (.int ((if k then 1 else 0) - i)))
  | _, _, _ => none
/-- equality of data -/
def eqD (d e : D) : Option Bool := if SeqAt.shaped d = true ∧ SeqAt.shaped e = true then some (PyData.eqv d e) else none
/-- the ints of data -/
def intsD : List D → Option (List Int)
  | [] => some []
  | .int i :: ds => (intsD ds).map (i :: ·)
  | _ :: _ => none
def boolsD : List D → Option (List Bool)
  | [] => some []
  | .bool i :: ds => (boolsD ds).map (i :: ·)
  | _ :: _ => none
def strsD : List D → Option (List Str)
  | [] => some []
  | .str i :: ds => (strsD ds).map (i :: ·)
  | _ :: _ => none
def seqD : D → Option (List D)
  | .list ds => some ds
  | .tuple ds => some ds
  | _ => none
/-- keys of a dict; what it holds at one -/
def keyOf : D → Option Key
  | .int i => some (.inl i)
  | .str x => some (.inr x)
  | _ => none
def isKD : List (D × D) → Bool
  | p :: _ => (keyOf p.1).isSome
  | [] => false
def dgetK (kvs : List (D × D)) (k : Key) : Option D := (kvs.find? fun p => decide (keyOf p.1 = some k)).map (·.2)
def dputK (kvs : List (D × D)) (k : Key) (v : D) : List (D × D) :=
  if (kvs.any fun p => decide (keyOf p.1 = some k)) = true then kvs.map (fun p => if keyOf p.1 = some k then (p.1, v) else p) else kvs ++ [(keyD k, v)]
def rowsD : List D → Option (List (List Int))
  | [] => some []
  | .tuple ds :: l => match intsD ds, rowsD l with
    | some r, some L => some (r :: L)
    | _, _ => none
  | _ :: _ => none
def ltD : D → D → Option Bool
  | .int i, .int j => some (decide (i < j))
  | .tuple xs, .tuple ys => match intsD xs, intsD ys with
    | some ns, some ms => some (HT.lexLt ns ms)
    | _, _ => none
  | _, _ => none
def inD (d : D) : D → Option Bool
  | .str y => match d with
    | .str x => some (!(Builtin.Str.occurrences y x 0 y.length 1).isEmpty)
    | _ => none
  | .list ds => if SeqAt.shaped d = true ∧ SeqAt.shaped (.list ds) = true then some (ds.any fun x => PyData.eqv x d) else none
  | .tuple ds => if SeqAt.shaped d = true ∧ SeqAt.shaped (.tuple ds) = true then some (ds.any fun x => PyData.eqv x d) else none
  | .dict kvs => match isKD kvs, keyOf d with
    | true, some k => some (dgetK kvs k).isSome
    | _, _ => none
  | _ => none
def isNoneD : D → Bool
  | .none => true
  | _ => false
def cmpD : CmpOp → D → D → Option Bool
  | .Eq, d, e => eqD d e
  | .NotEq, d, e => (eqD d e).map not
  | .Lt, d, e => ltD d e
  | .Gt, .int i, .int j => some (decide (j < i))
  | .LtE, .int i, .int j => some (decide (i ≤ j))
  | .GtE, .int i, .int j => some (decide (j ≤ i))
  | .Is, d, .none => some (isNoneD d)
  | .IsNot, d, .none => some (!isNoneD d)
  | .Is, .bool a, .bool b => some (a == b)
  | .IsNot, .bool a, .bool b => some (a != b)
  | .In, d, e => inD d e
  | .NotIn, d, e => (inD d e).map not
  | _, _, _ => none
def cmpR (op : CmpOp) (d e : D) : Option R := (cmpD op d e).map fun b => .v (.bool b)
/-- a[i] -/
def idxD : D → D → Option R
  | .list ds, .int i => (atI ds i).map .v
  | .tuple ds, .int i => (atI ds i).map .v
  | .dict [(.none, .list ds)], .int i => (atI ds i).map .v
  | .str z, .int i => if z.length ≤ sizeLine then (atI z.cps.toList i).map fun c => .v (charD c) else none
  | .dict kvs, d => match isKD kvs, keyOf d with
    | true, some k => (dgetK kvs k).map .v
    | _, _ => none
  | _, _ => none
def cutD (ds : List D) (lo hi : Option Int) : List D := (ds.drop (HT.sIx ds.length 0 lo)).take (HT.sIx ds.length ds.length hi - HT.sIx ds.length 0 lo)
def slcD : D → Option Int → Option Int → Option R
  | .list ds, lo, hi => some (.o (.lst (cutD ds lo hi)))
  | .tuple ds, lo, hi => some (.v (.tuple (cutD ds lo hi)))
  | .dict [(.none, .list ds)], lo, hi => some (.o (.lst (cutD ds lo hi)))
  | _, _, _ => none
def revD : D → Option R
  | .list ds => some (.o (.lst ds.reverse))
  | .tuple ds => some (.v (.tuple ds.reverse))
  | _ => none
/-- built-in functions -/
inductive Bi where
  | len | all | any | max | min | sum | list | tuple | sorted | sortedR | int | str | abs | divmod | repr | listRange | setLen
  deriving DecidableEq
def insI (n : Int) : List Int → List Int
  | [] => [n]
  | m :: ms => if n ≤ m then n :: m :: ms else m :: insI n ms
def sortI : List Int → List Int
  | [] => []
  | n :: ns => insI n (sortI ns)
def maxI : List Int → Option Int
  | [] => none
  | n :: ns => some (ns.foldl (fun a b => if b > a then b else a) n)
def minI : List Int → Option Int
  | [] => none
  | n :: ns => some (ns.foldl (fun a b => if b < a then b else a) n)
/-- what repr is known of: laid data, or {} -/
def isE : D → Bool
  | .dict [] => true
  | _ => false
def reprOk (d : D) : Bool := (d.canLay0 || isE d) && d.showable && decide (d.depth ≤ 60) && decide (d.shown.length ≤ sizeLine)
def biD : Bi → List D → Option R
  | .len, [.str z] => if z.length ≤ sizeLine then some (.v (.int z.length)) else none
  | .len, [.list ds] => some (.v (.int ds.length))
  | .len, [.dict [(.none, .list ds)]] => some (.v (.int ds.length))
  | .len, [.tuple ds] => some (.v (.int ds.length))
  | .all, [.list ds] => (boolsD ds).map fun bs => .v (.bool (bs.all id))
  | .any, [.list ds] => (boolsD ds).map fun bs => .v (.bool (bs.any id))
  | .max, [.int i, .int j] => some (.v (.int (if j > i then j else i)))
  | .min, [.int i, .int j] => some (.v (.int (if j < i then j else i)))
  | .max, [.list ds] => (intsD ds).bind fun ns => (maxI ns).map fun m => .v (.int m)
  | .min, [.list ds] => (intsD ds).bind fun ns => (minI ns).map fun m => .v (.int m)
  | .sum, [.list ds] => (intsD ds).map fun ns => .v (.int ns.sum)
  | .list, [.list ds] => some (.o (.lst ds))
  | .list, [.tuple ds] => some (.o (.lst ds))
  | .tuple, [.list ds] => some (.v (.tuple ds))
  | .tuple, [.tuple ds] => some (.v (.tuple ds))
  | .sorted, [.list ds] => match intsD ds with
    | some ns => some (.o (.lst ((sortI ns).map .int)))
    | none => (rowsD ds).bind fun L => if okRows L = true then some (.o (.lst ((sortR L).map rowD))) else none
  | .sorted, [.tuple ds] => (intsD ds).map fun ns => .o (.lst ((sortI ns).map .int))
  | .sortedR, [.list ds] => (intsD ds).map fun ns => .o (.lst ((sortI ns).reverse.map .int))
  | .sortedR, [.tuple ds] => (intsD ds).map fun ns => .o (.lst ((sortI ns).reverse.map .int))
  | .int, [.bool b] => some (.v (.int (if b then 1 else 0)))
  | .int, [.int i] => some (.v (.int i))
  | .abs, [.int i] => some (.v (.int (if i < 0 then -i else i)))
  | .divmod, [.int i, .int j] => if 0 < j ∧ j < 1073741824 then some (.v (.tuple [.int (i / j), .int (i % j)])) else none
  | .listRange, [.int n] => if 0 ≤ n ∧ n ≤ 1000000 then some (.o (.lst ((List.range n.toNat).map fun (k : Nat) => .int (k : Int)))) else none
  | .min, [.tuple ds] => (intsD ds).bind fun ns => (minI ns).map fun m => .v (.int m)
  | .str, [.int i] => if i.natAbs.log2 < 1920 then some (.v (.str (toString i))) else none
  | .str, [.bool b] => some (.v (.str (if b then "True" else "False")))
  | .repr, [d] => if reprOk d = true then some (.v (.str d.shown)) else none
  | _, _ => none
/-- sorted(set(d)), len(set(d)) of rows -/
def setR (d : D) : Option (List (List Int)) := (seqD d).bind fun ds => (rowsD ds).bind fun L => if okRows L = true then some (dedR L) else none
def sortSetD (d : D) : Option R := (setR d).map fun L => .o (.lst ((sortR L).map rowD))
def lenSetD (d : D) : Option R := (setR d).map fun L => .v (.int L.length)
/-- xs.index(d) -/
def indexD : D → D → Option R
  | .list ds, d => if SeqAt.shaped d = true ∧ SeqAt.shaped (.list ds) = true then (ds.findIdx? fun x => PyData.eqv x d).map fun (j : Nat) => .v (.int (j : Int)) else none
  | _, _ => none
/-- dict(zip(a, b)), the keys ints -/
def zipDic (ks : List Int) (vs : List D) : List (D × D) := (ks.zip vs).foldl (fun m p => dputK m (.inl p.1) p.2) []
def dicZipD : D → D → Option R
  | .list a, .list b => (intsD a).map fun ks => .o (.dic (zipDic ks b))
  | _, _ => none
/-- tuple(zip(a, b)), as many in each -/
def tupZipD : D → D → Option R
  | .tuple a, .list b => if a.length = b.length then some (.v (.tuple (List.zipWith (fun x y => .tuple [x, y]) a b))) else none
  | _, _ => none
/-- isinstance of a built-in type -/
inductive Ty where
  | int | bool | str | tuple | list
  deriving DecidableEq
def isRo : D → Bool
  | .dict [(.none, _)] => true
  | _ => false
def isTy : Ty → D → Bool
  | .int, .int _ => true
  | .int, .bool _ => true
  | .bool, .bool _ => true
  | .str, .str _ => true
  | .tuple, .tuple _ => true
  | .list, .list _ => true
  | _, _ => false
def isiD (t : Ty) (d : D) : Option R := if isRo d then none else some (.v (.bool (isTy t d)))
/-- methods that change a cell -/
inductive Mu where
  | append | extend | pop | popAt | clear
  deriving DecidableEq
def muD : Mu → List D → List D → Option (D × List D)
  | .append, xs, [d] => if xs.length < sizeLine then some (.none, xs ++ [d]) else none
  | .extend, xs, [.list ds] => if xs.length + ds.length ≤ sizeLine then some (.none, xs ++ ds) else none
  | .pop, xs, [] => match xs[xs.length - 1]? with
    | some d => some (d, xs.dropLast)
    | none => none
  | .popAt, xs, [.int i] => if xs.length ≤ sizeLine then (match ixN xs.length i with
    | some k => (xs[k]?).map fun d => (d, xs.eraseIdx k)
    | none => none) else none
  | .clear, _, [] => some (.none, [])
  | _, _, _ => none

/-! ### the embedded language -/
mutual
inductive Tg where
  | nm (i : Nat)
  | tup (ts : Tgs)
inductive Tgs where
  | nil
  | cons (t : Tg) (ts : Tgs)
end
mutual
inductive CE where
  | var (i : Nat)
  | mov (i : Nat)
  | con (d : D)
  | glob (k : Nat)
  | tup (es : CEs)
  | lst (es : CEs)
  | bin (op : Operator) (a b : CE)
  | neg (a : CE)
  | cmp (op : CmpOp) (a b : CE)
  | chn (o1 o2 : CmpOp) (a b c : CE)
  | not (a : CE)
  | bo (an : Bool) (es : CEs)
  | ite (c a b : CE)
  | idx (a i : CE)
  | slc (a : CE) (lo hi : CEo)
  | rev (a : CE)
  | bi (f : Bi) (es : CEs)
  | sortedR (a : CE)
  | lstRange (a : CE)
  | isi (a : CE) (t : Ty)
  | sortSet (a : CE)
  | lenSet (a : CE)
  | index (a b : CE)
  | dicZip (a b : CE)
  | tupZip (a b : CE)
  | dic0
  | call (k : Nat) (ms : List Bool) (es : CEs)
  | mut (m : Mu) (i : Nat) (es : CEs)
  | lc (own : List Nat) (tg : Tg) (it : IT) (c : CEo) (e : CE)
inductive CEs where
  | nil
  | cons (e : CE) (es : CEs)
inductive CEo where
  | none
  | some (e : CE)
inductive IT where
  | val (e : CE)
  | range1 (a : CE)
  | range2 (a b : CE)
  | zip (a b : CE)
  | enum (a : CE)
end
abbrev Sum := En → Rs R
/-- a def as its callers see it: how many arguments, what it does -/
structure Fn where
  np : Nat
  S : Sum

/-! ### the evaluator -/
def app1 (f : D → Option R) (x : PV) (e : En) : Rs PV :=
  match x.get e with
  | some d => match f d with
    | some r => .ok (.r r) e
    | none => .no
  | none => .no
def app2 (f : D → D → Option R) (x y : PV) (e : En) : Rs PV :=
  match x.get e, y.get e with
  | some d, some d' => match f d d' with
    | some r => .ok (.r r) e
    | none => .no
  | _, _ => .no
def isL (x : PV) (e : En) : Bool := match x.get e with
  | some (.list _) => true
  | _ => false
def gets : List PV → En → Option (List D)
  | [], _ => some []
  | x :: xs, e => match x.get e, gets xs e with
    | some d, some ds => some (d :: ds)
    | _, _ => none
def appN (f : List D → Option R) (xs : List PV) (e : En) : Rs PV :=
  match gets xs e with
  | some ds => match f ds with
    | some r => .ok (.r r) e
    | none => .no
  | none => .no
def rdVar (i : Nat) (pk : Bool) (e : En) : Rs PV :=
  match e[i]? with
  | some (some (.val d)) => .ok (.r (.v d)) e
  | some (some (.own c)) => match pk with
    | true => .ok (.sl i) e
    | false => .ok (.r (.v c.d)) (e.set i (some (.val c.d)))
  | some (some (.bor c)) => match pk with
    | true => .ok (.sl i) e
    | false => .no
  | _ => .no
def mvVar (i : Nat) (e : En) : Rs PV :=
  match e[i]? with
  | some (some (.val d)) => .ok (.r (.v d)) e
  | some (some (.own c)) => .ok (.r (.o c)) (e.set i none)
  | _ => .no
mutual
def putTg : Tg → D → En → Option En
  | .nm i, d, e => match e[i]? with
    | some (some (.bor _)) => none
    | some _ => some (e.set i (some (.val d)))
    | none => none
  | .tup ts, .tuple ds, e => putTgs ts ds e
  | .tup _, _, _ => none
def putTgs : Tgs → List D → En → Option En
  | .nil, [], e => some e
  | .cons t ts, d :: ds, e => match putTg t d e with
    | some e => putTgs ts ds e
    | none => none
  | _, _, _ => none
end
/-- arguments: a value, or a variable's cell lent -/
inductive Ar where
  | d (d : D)
  | b (i : Nat)
def mkArg : Ar → En → Option Slot
  | .d d, _ => some (.val d)
  | .b i, e => match e[i]? with
    | some (some (.own c)) => some (.bor c)
    | some (some (.bor c)) => some (.bor c)
    | _ => none
def mkArgs : List Ar → En → Option En
  | [], _ => some []
  | a :: as, e => match mkArg a e, mkArgs as e with
    | some s, some t => some (some s :: t)
    | _, _ => none
def putBack1 (i : Nat) (c : Cel) (e : En) : Option En :=
  match e[i]? with
  | some (some (.own _)) => some (e.set i (some (.own c)))
  | some (some (.bor _)) => some (e.set i (some (.bor c)))
  | _ => none
def putBack : List Ar → En → En → Option En
  | [], _, e => some e
  | .b i :: as, some (.bor c) :: t, e => match putBack1 i c e with
    | some e => putBack as t e
    | none => none
  | .d _ :: as, _ :: t, e => putBack as t e
  | _, _, _ => none
def lentOnce : List Ar → Bool
  | [] => true
  | .d _ :: as => lentOnce as
  | .b i :: as => (as.all fun a => match a with | .b j => j != i | _ => true) && lentOnce as
def callS (f : Fn) (as : List Ar) (e : En) : Rs PV :=
  match mkArgs as e, lentOnce as && as.length == f.np with
  | some t, true => match f.S t with
    | .no => .no
    | .ok r t' => (match putBack as t' e with
      | some e => .ok (.r r) e
      | none => .no)
    | .ex x t' => (match putBack as t' e with
      | some e => .ex x e
      | none => .no)
  | _, _ => .no
/-- what a walk gives -/
def itemsD : D → Option (List D)
  | .list ds => some ds
  | .tuple ds => some ds
  | .str z => some (z.cps.toList.map charD)
  | _ => none
def rangeD (lo hi : Int) : List D := (List.range (hi - lo).toNat).map fun (k : Nat) => .int (lo + (k : Int))
def inR62 (i : Int) : Prop := -(2 ^ 62) ≤ i ∧ i < 2 ^ 62
/-- not to be reckoned -/
noncomputable instance (i : Int) : Decidable (inR62 i) := Classical.propDecidable _
noncomputable def range1D : D → Option (List D)
  | .int n => if inR62 n then some (rangeD 0 n) else none
  | _ => none
noncomputable def range2D : D → D → Option (List D)
  | .int lo, .int hi => if inR62 lo ∧ inR62 hi then some (rangeD lo hi) else none
  | _, _ => none
def zipD (xs ys : List D) : List D := (xs.zip ys).map fun p => .tuple [p.1, p.2]
def enumD (xs : List D) : List D := (xs.zipIdx).map fun p => .tuple [.int (p.2 : Int), p.1]
def zipItems : D → D → Option (List D)
  | .list xs, .list ys => some (zipD xs ys)
  | .tuple xs, .tuple ys => some (zipD xs ys)
  | _, _ => none
def enumItems : D → Option (List D)
  | .list ds => some (enumD ds)
  | .tuple ds => some (enumD ds)
  | _ => none
/-- the cells that a walk looks at stand as they stood -/
def stands (e0 : En) : List PV → En → Prop
  | [], _ => True
  | .sl i :: ps, e => e[i]? = e0[i]? ∧ stands e0 ps e
  | .r _ :: ps, e => stands e0 ps e
open Classical in
noncomputable def compL (turn : D → En → Rs (Option D)) (g : En → Prop) : List D → List D → En → Rs (List D)
  | [], acc, e => if g e then .ok acc e else .no
  | x :: xs, acc, e => if g e then (turn x e).bind fun r e => match r with
      | none => compL turn g xs acc e
      | some d => if acc.length < sizeLine then compL turn g xs (acc ++ [d]) e else .no
    else .no
/-- no exception leaves a comprehension -/
def Rs.noEx {α : Type} : Rs α → Rs α
  | .ex _ _ => .no
  | r => r
/-- the block's own variables forgotten; put back -/
def wipeE (e : En) : List Nat → En
  | [] => e
  | i :: is => (wipeE e is).set i none
def backE (e0 : En) : List Nat → En → En
  | [], e => e
  | i :: is, e => match e0[i]? with
    | some s => (backE e0 is e).set i s
    | none => backE e0 is e
def mayWipe (e : En) : List Nat → Bool
  | [] => true
  | i :: is => (match e[i]? with
    | some (some (.own _)) => false
    | some (some (.bor _)) => false
    | _ => true) && mayWipe e is
def lstSlot (e : En) (i : Nat) : Bool := match e[i]? with
  | some (some (.own (.lst _))) => true
  | some (some (.bor (.lst _))) => true
  | _ => false
def mutS (m : Mu) (i : Nat) (ds : List D) (e : En) : Rs PV := match e[i]? with
  | some (some (.own (.lst xs))) => (match muD m xs ds with
    | some (d, ys) => .ok (.r (.v d)) (e.set i (some (.own (.lst ys))))
    | none => .no)
  | some (some (.bor (.lst xs))) => (match muD m xs ds with
    | some (d, ys) => .ok (.r (.v d)) (e.set i (some (.bor (.lst ys))))
    | none => .no)
  | _ => .no
def boolOf : PV → Option Bool
  | .r (.v (.bool b)) => some b
  | _ => none
def intOf : PV → Option Int
  | .r (.v (.int b)) => some b
  | _ => none
def testB (r : Rs PV) (f : Bool → En → Rs α) : Rs α := r.bind fun x e => match boolOf x with
  | some b => f b e
  | none => .no
/-- a turn of a comprehension -/
def lcTurn (own : List Nat) (tg : Tg) (mc : En → Rs Bool) (me : En → Rs PV) (d : D) (e : En) : Rs (Option D) :=
  match putTg tg d e with
  | none => .no
  | some e => (mc e).noEx.bind fun k e => match k with
    | false => .ok none (wipeE e own)
    | true => (me e).noEx.bind fun y e => match y with
      | .r y => .ok (some y.d) (wipeE e own)
      | .sl _ => .no
end Ev
namespace Ev
open PySem L2
mutual
noncomputable def evM (cs : Nat → Option D) (FT : Nat → Fn) : CE → Bool → En → Rs PV
  | .var i, pk, e => rdVar i pk e
  | .mov i, _, e => mvVar i e
  | .con d, _, e => .ok (.r (.v d)) e
  | .glob k, _, e => match cs k with
    | some d => .ok (.r (.v d)) e
    | none => .no
  | .tup es, _, e => (evVs cs FT es e).bind fun ds e => if ds.length ≤ sizeLine then .ok (.r (.v (.tuple ds))) e else .no
  | .lst es, _, e => (evVs cs FT es e).bind fun ds e => if ds.length ≤ sizeLine then .ok (.r (.o (.lst ds))) e else .no
  | .bin op a b, _, e => (evM cs FT a true e).bind fun x e => (evM cs FT b true e).bind fun y e => app2 (bopD op) x y e
  | .neg a, _, e => (evM cs FT a false e).bind fun x e => match intOf x with
    | some i => .ok (.r (.v (.int (-i)))) e
    | none => .no
  | .cmp op a b, _, e => (evM cs FT a true e).bind fun x e => (evM cs FT b true e).bind fun y e => app2 (cmpR op) x y e
  | .chn o1 o2 a b c, _, e => (evM cs FT a true e).bind fun x e => (evM cs FT b true e).bind fun y e => testB (app2 (cmpR o1) x y e) fun k e =>
      match k with
      | false => .ok (.r (.v (.bool false))) e
      | true => (evM cs FT c true e).bind fun z e => app2 (cmpR o2) y z e
  | .not a, _, e => testB (evM cs FT a false e) fun k e => .ok (.r (.v (.bool (!k)))) e
  | .bo an es, _, e => evB cs FT an es e
  | .ite c a b, _, e => testB (evM cs FT c false e) fun k e => match k with
      | true => evM cs FT a false e
      | false => evM cs FT b false e
  | .idx a i, _, e => (evM cs FT a true e).bind fun x e => (evM cs FT i true e).bind fun y e => app2 idxD x y e
  | .slc a lo hi, _, e => (evM cs FT a true e).bind fun x e => (evO cs FT lo e).bind fun l e => (evO cs FT hi e).bind fun h e => app1 (fun d => slcD d l h) x e
  | .rev a, _, e => (evM cs FT a true e).bind fun x e => app1 revD x e
  | .bi f es, _, e => (evPs cs FT es e).bind fun xs e => appN (biD f) xs e
  | .sortedR a, _, e => (evM cs FT a true e).bind fun x e => app1 (fun d => biD .sortedR [d]) x e
  | .lstRange a, _, e => (evM cs FT a true e).bind fun x e => app1 (fun d => biD .listRange [d]) x e
  | .isi a t, _, e => (evM cs FT a true e).bind fun x e => app1 (isiD t) x e
  | .sortSet a, _, e => (evM cs FT a true e).bind fun x e => app1 sortSetD x e
  | .lenSet a, _, e => (evM cs FT a true e).bind fun x e => app1 lenSetD x e
  | .index a b, _, e => (evM cs FT a true e).bind fun x e => match isL x e with
      | false => .no
      | true => (evM cs FT b true e).bind fun y e => app2 indexD x y e
  | .dicZip a b, _, e => (evM cs FT a true e).bind fun x e => (evM cs FT b true e).bind fun y e => app2 dicZipD x y e
  | .tupZip a b, _, e => (evM cs FT a true e).bind fun x e => (evM cs FT b true e).bind fun y e => app2 tupZipD x y e
  | .dic0, _, e => .ok (.r (.o (.dic []))) e
  | .call k ms es, _, e => (evAs cs FT ms es e).bind fun as e => callS (FT k) as e
  | .mut m i es, _, e => match lstSlot e i with
    | false => .no
    | true => (evVs cs FT es e).bind fun ds e => mutS m i ds e
  | .lc own tg it c x, _, e => (evI cs FT true it e).bind fun p e => match mayWipe e own with
    | false => .no
    | true => (compL (fun d e => lcTurn own tg (fun e => evC cs FT c e) (fun e => evM cs FT x false e) d e) (stands (wipeE e own) p.1) p.2 [] (wipeE e own)).bind fun ds e' => .ok (.r (.o (.lst ds))) (backE e own e')
/-- values, handed on -/
noncomputable def evVs (cs : Nat → Option D) (FT : Nat → Fn) : CEs → En → Rs (List D)
  | .nil, e => .ok [] e
  | .cons x xs, e => (evM cs FT x false e).bind fun y e => match y with
    | .r y => (evVs cs FT xs e).bind fun ys e => .ok (y.d :: ys) e
    | .sl _ => .no
/-- operands, looked at -/
noncomputable def evPs (cs : Nat → Option D) (FT : Nat → Fn) : CEs → En → Rs (List PV)
  | .nil, e => .ok [] e
  | .cons x xs, e => (evM cs FT x true e).bind fun y e => (evPs cs FT xs e).bind fun ys e => .ok (y :: ys) e
/-- arguments of a def -/
noncomputable def evAs (cs : Nat → Option D) (FT : Nat → Fn) : List Bool → CEs → En → Rs (List Ar)
  | [], .nil, e => .ok [] e
  | false :: ms, .cons x xs, e => (evM cs FT x false e).bind fun y e => match y with
    | .r y => (evAs cs FT ms xs e).bind fun ys e => .ok (.d y.d :: ys) e
    | .sl _ => .no
  | true :: ms, .cons x xs, e => (evM cs FT x true e).bind fun y e => match y with
    | .sl i => (evAs cs FT ms xs e).bind fun ys e => .ok (.b i :: ys) e
    | .r _ => .no
  | _, _, _ => .no
noncomputable def evO (cs : Nat → Option D) (FT : Nat → Fn) : CEo → En → Rs (Option Int)
  | .none, e => .ok none e
  | .some x, e => (evM cs FT x false e).bind fun y e => match intOf y with
    | some i => .ok (some i) e
    | none => .no
noncomputable def evC (cs : Nat → Option D) (FT : Nat → Fn) : CEo → En → Rs Bool
  | .none, e => .ok true e
  | .some x, e => testB (evM cs FT x false e) fun k e => .ok k e
noncomputable def evB (cs : Nat → Option D) (FT : Nat → Fn) (an : Bool) : CEs → En → Rs PV
  | .nil, _ => .no
  | .cons x .nil, e => evM cs FT x false e
  | .cons x (.cons y ys), e => testB (evM cs FT x false e) fun k e => if k = an then evB cs FT an (.cons y ys) e else .ok (.r (.v (.bool k))) e
noncomputable def evI (cs : Nat → Option D) (FT : Nat → Fn) (pk : Bool) : IT → En → Rs (List PV × List D)
  | .val x, e => (evM cs FT x pk e).bind fun p e => match (p.get e).bind itemsD with
    | some ds => .ok ([p], ds) e
    | none => .no
  | .range1 a, e => (evM cs FT a pk e).bind fun p e => match (p.get e).bind range1D with
    | some ds => .ok ([], ds) e
    | none => .no
  | .range2 a b, e => (evM cs FT a pk e).bind fun p e => (evM cs FT b pk e).bind fun q e => match p.get e, q.get e with
    | some x, some y => (match range2D x y with
      | some ds => .ok ([], ds) e
      | none => .no)
    | _, _ => .no
  | .zip a b, e => (evM cs FT a pk e).bind fun p e => (evM cs FT b pk e).bind fun q e => match p.get e, q.get e with
    | some x, some y => (match zipItems x y with
      | some ds => .ok ([p, q], ds) e
      | none => .no)
    | _, _ => .no
  | .enum a, e => (evM cs FT a pk e).bind fun p e => match (p.get e).bind enumItems with
    | some ds => .ok ([p], ds) e
    | none => .no
end

/-! ### statements -/
inductive ST where
  | tg (t : Tg)
  | ix (i : Nat) (k : Int)
mutual
inductive CS where
  | expr (e : CE)
  | asg (i : Nat) (e : CE)
  | asgF (i : Nat) (e : CE)
  | par (is : List Nat) (es : CEs)
  | asgTg (ts : Tgs) (e : CE)
  | asgT (ts : List ST) (e : CE)
  | set (i : Nat) (k e : CE)
  | setD (i : Nat) (k e : CE)
  | iff (c : CE) (a b : CSs)
  | forr (tg : Tg) (it : IT) (b : CSs)
  | whl (c : CE) (b : CSs)
  | ret (e : CE)
  | retN
  | rais (x : Str)
  | pas | brk | cnt
inductive CSs where
  | nil
  | cons (s : CS) (ss : CSs)
end
inductive SR where
  | no
  | nx (e : En)
  | rt (r : R) (e : En)
  | bk (e : En)
  | ct (e : En)
  | ex (x : Xc) (e : En)
def Rs.thn {α : Type} (r : Rs α) (f : α → En → SR) : SR :=
  match r with
  | .no => .no
  | .ok a e => f a e
  | .ex x e => .ex x e
@[simp] theorem Rs.thn_no {α : Type} (f : α → En → SR) : Rs.thn (.no : Rs α) f = .no := rfl
@[simp] theorem Rs.thn_ok {α : Type} (a : α) (e : En) (f : α → En → SR) : Rs.thn (.ok a e) f = f a e := rfl
@[simp] theorem Rs.thn_ex {α : Type} (x : Xc) (e : En) (f : α → En → SR) : Rs.thn (.ex x e : Rs α) f = .ex x e := rfl
def putR (i : Nat) : R → En → Option En
  | .v d, e => match e[i]? with
    | some (some (.bor _)) => none
    | some _ => some (e.set i (some (.val d)))
    | none => none
  | .o c, e => match e[i]? with
    | some (some (.bor _)) => none
    | some _ => some (e.set i (some (.own c)))
    | none => none
/-- i, j = d, d' -/
def putIs : List Nat → List D → En → Option En
  | [], [], e => some e
  | i :: is, d :: ds, e => match putR i (.v d) e with
    | some e => putIs is ds e
    | none => none
  | _, _, _ => none
/-- x[k] = d -/
def setIx (i : Nat) (k : D) (d : D) (e : En) : Option En :=
  match e[i]?, k with
  | some (some (.own (.lst xs))), .int k => (ixN xs.length k).map fun j => e.set i (some (.own (.lst (xs.set j d))))
  | some (some (.bor (.lst xs))), .int k => (ixN xs.length k).map fun j => e.set i (some (.bor (.lst (xs.set j d))))
  | _, _ => none
/-- x[k] = d, x a dict -/
def setDk (i : Nat) (k : D) (d : D) (e : En) : Option En :=
  match e[i]?, keyOf k with
  | some (some (.own (.dic kvs))), some k => if isKD kvs = true ∧ kvs.length < sizeLine then some (e.set i (some (.own (.dic (dputK kvs k d))))) else none
  | some (some (.bor (.dic kvs))), some k => if isKD kvs = true ∧ kvs.length < sizeLine then some (e.set i (some (.bor (.dic (dputK kvs k d))))) else none
  | _, _ => none
def dicSlot (e : En) (i : Nat) : Bool := match e[i]? with
  | some (some (.own (.dic kvs))) => isKD kvs
  | some (some (.bor (.dic kvs))) => isKD kvs
  | _ => false
def putST : ST → D → En → Option En
  | .tg t, d, e => putTg t d e
  | .ix i k, d, e => setIx i (.int k) d e
def putSTs : List ST → List D → En → Option En
  | [], [], e => some e
  | t :: ts, d :: ds, e => match putST t d e with
    | some e => putSTs ts ds e
    | none => none
  | _, _, _ => none
def forL (turn : D → En → SR) : List D → En → SR
  | [], e => .nx e
  | x :: xs, e => match turn x e with
    | .nx e => forL turn xs e
    | .ct e => forL turn xs e
    | .bk e => .nx e
    | .rt r e => .rt r e
    | .ex x e => .ex x e
    | .no => .no
def whlL (test : En → Rs PV) (body : En → SR) : Nat → En → SR
  | 0, _ => .no
  | n + 1, e => (testB (test e) fun k e => .ok k e).thn fun k e => match k with
    | false => .nx e
    | true => match body e with
      | .nx e => whlL test body n e
      | .ct e => whlL test body n e
      | .bk e => .nx e
      | .rt r e => .rt r e
      | .ex x e => .ex x e
      | .no => .no
mutual
noncomputable def evS (cs : Nat → Option D) (FT : Nat → Fn) (fu : Nat) : CS → En → SR
  | .expr x, e => (evM cs FT x false e).thn fun _ e => .nx e
  | .asg i x, e => (evM cs FT x false e).thn fun y e => match y with
    | .r y => match putR i y e with
      | some e => .nx e
      | none => .no
    | .sl _ => .no
  | .asgF i x, e => (evM cs FT x false e).thn fun y e => match y with
    | .r y => match putR i (.v y.d) e with
      | some e => .nx e
      | none => .no
    | .sl _ => .no
  | .par is xs, e => (evVs cs FT xs e).thn fun ds e => match putIs is ds e with
    | some e => .nx e
    | none => .no
  | .asgTg ts x, e => (evM cs FT x false e).thn fun y e => match y with
    | .r y => match y.d with
      | .tuple ds => match putTgs ts ds e with
        | some e => .nx e
        | none => .no
      | _ => .no
    | .sl _ => .no
  | .asgT ts x, e => (evM cs FT x false e).thn fun y e => match y with
    | .r y => match y.d with
      | .tuple ds => match putSTs ts ds e with
        | some e => .nx e
        | none => .no
      | _ => .no
    | .sl _ => .no
  | .set i k x, e => (evM cs FT x false e).thn fun y e => match lstSlot e i, y with
    | true, .r y => (evM cs FT k false e).thn fun z e => match z with
      | .r z => match setIx i z.d y.d e with
        | some e => .nx e
        | none => .no
      | .sl _ => .no
    | _, _ => .no
  | .setD i k x, e => (evM cs FT x false e).thn fun y e => match dicSlot e i, y with
    | true, .r y => (evM cs FT k false e).thn fun z e => match z with
      | .r z => match setDk i z.d y.d e with
        | some e => .nx e
        | none => .no
      | .sl _ => .no
    | _, _ => .no
  | .iff c a b, e => (testB (evM cs FT c false e) fun k e => .ok k e).thn fun k e => match k with
    | true => evSs cs FT fu a e
    | false => evSs cs FT fu b e
  | .forr tg it b, e => (evI cs FT false it e).thn fun p e => match p.1.all PV.isR with
    | false => .no
    | true => forL (fun d e => match putTg tg d e with
      | none => .no
      | some e => evSs cs FT fu b e) p.2 e
  | .whl c b, e => whlL (fun e => evM cs FT c false e) (fun e => evSs cs FT fu b e) fu e
  | .ret x, e => (evM cs FT x false e).thn fun y e => match y with
    | .r y => .rt y e
    | .sl _ => .no
  | .retN, e => .rt (.v .none) e
  | .rais x, e => .ex ⟨x, none⟩ e
  | .pas, e => .nx e
  | .brk, e => .bk e
  | .cnt, e => .ct e
noncomputable def evSs (cs : Nat → Option D) (FT : Nat → Fn) (fu : Nat) : CSs → En → SR
  | .nil, e => .nx e
  | .cons s ss, e => match evS cs FT fu s e with
    | .nx e => evSs cs FT fu ss e
    | .rt r e => .rt r e
    | .bk e => .bk e
    | .ct e => .ct e
    | .ex x e => .ex x e
    | .no => .no
end
def isArg : Option Slot → Bool
  | some (.val _) => true
  | some (.bor _) => true
  | _ => false
/-- the lent cells behind a def's body -/
def backArgs : En → En → Option En
  | [], _ => some []
  | some (.bor _) :: as, some (.bor c) :: e => (backArgs as e).map (some (.bor c) :: ·)
  | some (.bor _) :: _, _ => none
  | a :: as, _ :: e => (backArgs as e).map (a :: ·)
  | _ :: _, [] => none
noncomputable def runF (cs : Nat → Option D) (FT : Nat → Fn) (fu : Nat) (np n : Nat) (body : CSs) : Fn := ⟨np, fun args =>
  if args.length = np ∧ args.all isArg = true then
    match evSs cs FT fu body (args ++ List.replicate n none) with
    | .nx e => (match backArgs args e with
      | some t => .ok (.v .none) t
      | none => .no)
    | .rt r e => (match backArgs args e with
      | some t => .ok r t
      | none => .no)
    | .ex x e => (match backArgs args e with
      | some t => .ex x t
      | none => .no)
    | _ => .no
  else .no⟩
end Ev

/-! Ev, part U: sorted(a tuple of ints), either way round. -/
namespace TupSort
open PySem PyProof.Rows Srt SrtO SrtR
section
variable {pg : Program} {wd : World} {B : Around} {Ex : Value → Shared → Prop} {st : Shared}
/-- the heap with the items gathered -/
def gat (hp : Heap) (us : List Value) : Heap := (hp.push (seqObj "list" #[] 0)).update hp.objs.size (Obj.mapSeq (· ++ us.toArray))
theorem gather {t : Addr} {us : List Value} {P : List Value → Shared → Prop} (ht : st.heap.IsTuple t us.toArray) (hz : us.length ≤ sizeLine) (fin : P us { st with heap := gat st.heap us }) : wpAny (model pg wd) B (collect (.ref t)) P Ex st := by
  obtain ⟨ob, hob, hcl, m, hdt⟩ := ht
  have hnew : (st.heap.push (seqObj "list" #[] 0)).get? st.heap.objs.size = some (seqObj "list" #[] 0) := Heap.get?_push_size _ rfl
  have hold : (st.heap.push (seqObj "list" #[] 0)).get? t = some ob := Heap.get?_push_of_some _ hob
  unfold collect
  refine wpAny_bind (wpAny_runValue (codeAny_builtin PyProof.Rows.entry_proto_collect' ?_))
  show wpAny _ _ (do again (.builtin "list.__iadd__" ⟨[← newList [], .ref t], []⟩)) _ _ st
  refine wpAny_bind (wpAny_newList (wpAny_pure ⟨Code.quiet_builtin _ (by decide +kernel), codeAny_builtin PyProof.Rows.entry_list_iadd' ?_⟩))
  show wpAny _ _ (Builtin.List.listExtendWith (.ref st.heap.objs.size) (.ref t) (.ref st.heap.objs.size)) _ _ ({ st with heap := (st.heap).push (seqObj "list" #[] 0) })
  unfold Builtin.List.listExtendWith
  refine wpAny_bind (wpAny_typeOf (T := "tuple") ⟨ob, hold, hcl⟩ ?_)
  have hty : (Value.type "tuple" == Value.type "tuple") = true := by rfl
  rw [if_pos (by rw [hty, Bool.or_true])]
  refine wpAny_bind (listItems_at hold hdt (wpAny_bind (listItems_at (xs := #[]) (n := 0) hnew rfl ?_)))
  rw [if_neg (by simp)]
  have room : (#[] ++ us.toArray : Array Value).size ≤ sizeLine + 1 := by
    rw [Array.size_append, List.size_toArray]
    simp
    omega
  refine wpAny_bind (listUpdate_at (xs := #[]) (n := 0) hnew rfl ?_ (Nat.zero_le _) room)
  refine wpAny_pure ?_
  show wpAny (model pg wd) B (do let q ← load st.heap.objs.size; match q.data with | .seq ys _ => pure ys.toList | _ => unsupported "internal:collect") P Ex ({ st with heap := gat st.heap us })
  refine wpAny_bind (wpAny_load (get?_update_seq hnew _) ?_)
  show wpAny _ _ (pure ((#[] : Array Value) ++ us.toArray).toList) P Ex _
  have el : ((#[] : Array Value) ++ us.toArray).toList = us := by simp
  rw [el]
  exact wpAny_pure fin
theorem sorted_tk {t : Addr} {us : List Value} {r : Bool} {kws : List (Str × Value)} {lt : Value → Value → Bool} {P : Value → Shared → Prop} (same : ∀ c, Builtin.«list.sort» ⟨[.ref c], kws⟩ = Builtin.«list.sort» ⟨[.ref c], [(Str.ofString "reverse", .bool r)]⟩)
    (o1 : argsOk "sorted" ⟨[.ref t], kws⟩) (o2 : ∀ c, argsOk "list.sort" ⟨[c], kws⟩) (O : Swo lt) (ht : st.heap.IsTuple t us.toArray) (hz : us.length ≤ sizeLine)
    (hS : 2 ≤ us.length → ∀ (hp : Heap) (c : Addr), SortableO pg wd B.in1.in1 { st with heap := hp } c us lt)
    (fin : ∀ out : List Value, Srtd lt out → Stb lt out (if r = true then us.reverse else us) → P (.ref (st.heap.objs.size + 1)) { st with heap := sortedAll st.heap us (if r = true then out.toArray.reverse else out.toArray) }) :
    wpAny (model pg wd) B (call (.builtin "sorted") [.ref t] kws) P Ex st := by
  refine call_function_entry_kw PyProof.Rows.kind_sorted PyProof.Rows.plain_sorted PyProof.Rows.entry_sorted o1 ?_
  unfold Builtin.«sorted»
  refine wpAny_bind (m := checkCount "sorted" 1 1 _) (wpAny_pure (wpAny_bind (gather ht hz (wpAny_bind (wpAny_newList ?_ hz)))))
  have en : (gat st.heap us).objs.size = st.heap.objs.size + 1 := by unfold gat; rw [Heap.size_update, PyProof.Rows.size_push']
  have hnw : ((gat st.heap us).push (seqObj "list" us.toArray 0)).get? (st.heap.objs.size + 1) = some (seqObj "list" us.toArray 0) := by
    rw [← en]
    exact Heap.get?_push_size _ rfl
  show wpAny _ _ _ _ _ ({ st with heap := (gat st.heap us).push (seqObj "list" us.toArray 0) })
  rw [en]
  refine wpAny_bind (wpAny_holding (wpAny_call_entry_kw PyProof.Rows.slot_list_sort ⟨_, hnw, rfl⟩ PyProof.Rows.entry_list_sort ?_ (o2 _)))
  rw [same]
  exact list_sort_ordR O hnw hz (fun two => hS two _ _) fun out k1 k2 => ⟨_, rfl, wpAny_pure ⟨_, rfl, fin out k1 k2⟩⟩
theorem kw0 (c : Addr) : Builtin.«list.sort» ⟨[.ref c], []⟩ = Builtin.«list.sort» ⟨[.ref c], [(Str.ofString "reverse", .bool false)]⟩ := by
  rw [list_sort_rev]
  first | rfl | kernel_rfl
end
end TupSort
namespace Ev
open PySem L2
section
variable {X : Cx}
theorem tup_run {r : Bool} {kws : List (Str × Value)} {pins : List (Addr × Obj)} {s : Shared} {σ : St} {H : Hp} {t : Addr} {ns : List Int} {Q : VK} (I : Inv X pins σ H s) (ht : SqT X.K H t (ns.map V.int))
    (same : ∀ c, Builtin.«list.sort» ⟨[.ref c], kws⟩ = Builtin.«list.sort» ⟨[.ref c], [(Str.ofString "reverse", .bool r)]⟩) (o1 : argsOk "sorted" ⟨[.ref t], kws⟩) (o2 : ∀ c, argsOk "list.sort" ⟨[c], kws⟩)
    (q : ∀ (ms : List Int) (p : Addr), ms.Perm ns → OrdB r ms → H p = none → Q (.ref p) (upd H p (.lst (ms.map V.int)))) : wpAny (model X.prog X.w) X.A (call (.builtin "sorted") [.ref t] kws) (EP X pins σ Q) X.xe s := by
  obtain ⟨its, rv, pl, hz⟩ := I.tuple ht
  have ia := rv.ints
  have hz' : its.length ≤ sizeLine := by rw [← rv.length]; exact hz
  refine TupSort.sorted_tk same o1 o2 SrtO.swo_int (show s.heap.IsTuple t its.toArray from pl) hz' (fun two hp c => SrtO.ints_sortable ia two) fun out k1 k2 => ?_
  obtain ⟨ms, m1, m2, m3⟩ := SrtR.ints_outR ia k1 k2
  obtain ⟨ep, he⟩ := PyProof.Rows.sortedAll_at s.heap its (if r = true then out.toArray.reverse else out.toArray)
  have hm : (ms.map V.int).length ≤ sizeLine := by
    rw [List.length_map, m2.length_eq, ← List.length_map (f := V.int)]
    exact hz
  have ea : ((if r = true then out.toArray.reverse else out.toArray).toList).toArray = (if r = true then out.toArray.reverse else out.toArray) := Array.toArray_toList
  have ho : ObjOk X.prog X.w (upd H (s.heap.objs.size + 1) (.lst (ms.map V.int))) (PyProof.Rows.sortedAll s.heap its (if r = true then out.toArray.reverse else out.toArray)) (s.heap.objs.size + 1) (.lst (ms.map V.int)) := ⟨hm, _, ep, vals_of_ints m1, by rw [ea]; exact he⟩
  have fr : H (s.heap.objs.size + 1) = none := I.hok.fresh (Nat.le_succ _)
  exact ⟨.ref (s.heap.objs.size + 1), _, I.laid (t' := s.toks) (fun b o e => PyProof.Rows.sortedAll_old e) (Nat.le_succ _) ho, rfl, q ms _ m2 m3 fr⟩
theorem cr_tupS : CallR X (.builtin "sorted") (fun vs H Q => ∃ (a : Addr) (ns : List Int), vs = [V.ref a] ∧ SqT X.K H a (ns.map V.int) ∧
    ∀ (ms : List Int) (p : Addr), ms.Perm ns → ms.Pairwise (· ≤ ·) → H p = none → Q (.ref p) (upd H p (.lst (ms.map V.int)))) := by
  intro pins s σ H vs us Q I rv h
  obtain ⟨a, ns, rfl, ht, q⟩ := h
  rw [Vals.ref1 rv]
  exact tup_run (r := false) I ht TupSort.kw0 (PyProof.Rows.args_sorted1 _) (fun c => PyProof.Rows.args_list_sort c) fun ms p h1 h2 h3 => q ms p h1 h2 h3
theorem cr_tupR : CallRK X (.builtin "sorted") [Str.ofString "reverse"] (fun vs zs H Q => ∃ (a : Addr) (ns : List Int), vs = [V.ref a] ∧ zs = [.bl true] ∧ SqT X.K H a (ns.map V.int) ∧
    ∀ (ms : List Int) (p : Addr), ms.Perm ns → ms.Pairwise (· ≥ ·) → H p = none → Q (.ref p) (upd H p (.lst (ms.map V.int)))) := by
  intro pins s σ H vs zs us ws Q I rv rz h
  obtain ⟨a, ns, rfl, rfl, ht, q⟩ := h
  obtain rfl := Vals.ref1 rv
  obtain ⟨w1, rfl, e1⟩ := vals1 rz
  obtain rfl : w1 = Value.bool true := e1
  exact tup_run (r := true) I ht (fun _ => rfl) (PyProof.Rows.args_sorted_rev _ _) (fun c => PyProof.Rows.args_list_sort_rev c _) fun ms p h1 h2 h3 => q ms p h1 h2 h3
end
end Ev

namespace Ev
open PySem L2 PyProof.Rows
/-! bool + int, bool - int -/
section
variable {X : Cx}
theorem op_add_bi : OpR X (binaryOp .Add) (fun x y H Q => ∃ k i, x = .bl k ∧ y = .int i ∧ Q (.int (b2i k + i)) H) := by
  intro pins s σ H x y v u Q I rx ry h
  obtain ⟨k, i, rfl, rfl, q⟩ := h
  obtain ⟨t, rfl⟩ := ry
  cases rx
  exact PySem.IntBool.add_bool_int ⟨.int (b2i k + i), H, I.tok _, ⟨_, rfl⟩, q⟩
theorem op_sub_bi : OpR X (binaryOp .Sub) (fun x y H Q => ∃ k i, x = .bl k ∧ y = .int i ∧ Q (.int (b2i k - i)) H) := by
  intro pins s σ H x y v u Q I rx ry h
  obtain ⟨k, i, rfl, rfl, q⟩ := h
  obtain ⟨t, rfl⟩ := ry
  cases rx
  exact PySem.IntBool.sub_bool_int ⟨.int (b2i k - i), H, I.tok _, ⟨_, rfl⟩, q⟩
theorem call_str_bool : CallR X (.type "str") (fun xs H Q => ∃ b, xs = [.bl b] ∧ Q (.str (if b then "True" else "False")) H) := by
  intro pins s σ H xs us Q I r h
  obtain ⟨b, rfl, q⟩ := h
  obtain ⟨u, rfl, r1⟩ := vals1 r
  cases r1
  exact PySem.P.str_of_bool ⟨.str _, H, I.tok _, ⟨_, rfl⟩, q⟩
end
end Ev

/-! Ev, part C: readings by the evaluator; operations by values. -/
namespace Ev
open PySem L2

section
variable (K : PySem.W.Frag) (mg : Str → Option Value)
/-- an exception as it flies -/
def XcR (A : AS) (H : Hp) (x : Xc) (cls : Value) (d : Option Addr) : Prop :=
  ∃ C, mg x.c = some (.ref C) ∧ cls = .ref C ∧ match x.row with
    | none => d = none
    | some r => ∃ dx v, d = some dx ∧ H dx = some (.xd [("row", v)]) ∧ DpA K A H v r
/-- behind an expression: from (F, H) to (F', H') -/
def Out (W G : AS) (B : Nat → AS × AS) (F : Nat → AS) (H : Hp) (σ : St) (F' : Nat → AS) (H' : Hp) (e' : En) (v : V) : PV → Prop
  | .sl i => Rel K W G B F' H' σ e' ∧ Stp W F H W F' H' ∧ σ[i]? = some (some v)
  | .r (.v d) => Rel K W G B F' H' σ e' ∧ Stp W F H W F' H' ∧ DpA K (AV W F') H' v d
  | .r (.o c) => ∃ a fp, v = .ref a ∧ fp a ∧ (∀ b, fp b → ¬ G b ∧ (H b = none ∨ ∃ i, F i b)) ∧ Rel K (plus W fp) G B F' H' σ e' ∧
      Stp W F H (plus W fp) F' H' ∧ CelAt K (AV (plus W fp) F') H' a c
def XOut (W G : AS) (B : Nat → AS × AS) (F : Nat → AS) (H : Hp) (σ : St) (F' : Nat → AS) (H' : Hp) (e' : En) (x : Xc) (cls : Value) (d : Option Addr) : Prop :=
  Rel K W G B F' H' σ e' ∧ Stp W F H W F' H' ∧ XcR K mg (AV W F') H' x cls d
/-- operands, values: what they are known by -/
def OutOf {α β : Type} (O : AS → Hp → St → β → α → Prop) (W G : AS) (B : Nat → AS × AS) (F : Nat → AS) (H : Hp) (σ : St) (F' : Nat → AS) (H' : Hp) (e' : En) (b : β) (a : α) : Prop :=
  Rel K W G B F' H' σ e' ∧ Stp W F H W F' H' ∧ O (AV W F') H' σ b a
def Res {α β : Type} (XW : WX) (O : (Nat → AS) → Hp → (Nat → AS) → Hp → En → β → α → Prop) (W G : AS) (B : Nat → AS × AS) (F : Nat → AS) (H : Hp) (σ : St) (r : Rs α) (Q : β → Hp → Prop) : Prop :=
  match r with
  | .no => False
  | .ok a e' => ∀ b H' F', O F H F' H' e' b a → Q b H'
  | .ex x e' => ∀ cls d H' F', XOut K mg W G B F H σ F' H' e' x cls d → XW cls d σ H'
end
section
variable {K : PySem.W.Frag} {mg : Str → Option Value} {W G : AS} {B : Nat → AS × AS} {F F1 F' : Nat → AS} {H H1 H' : Hp} {σ : St} {e e1 e' : En} {v : V} {pv : PV} {XW : WX}
theorem plus_sub {W fp : AS} : ∀ b, AV W F b → AV (plus W fp) F b := fun b z => z.elim (fun z => .inl (.inl z)) .inr
theorem Out.opv (o : Out K W G B F H σ F' H' e' v pv) (r0 : Rel K W G B F H σ e) : OutOf K (Opv K) W G B F H σ F' H' e' v pv := by
  cases pv with
  | sl i => exact o
  | r x =>
    cases x with
    | v d => exact o
    | o c =>
      obtain ⟨a, fp, rfl, h1, h2, h3, h4, h5⟩ := o
      refine ⟨h3.fewer fun b z => .inl z, h4.weak plus_sub, ?_⟩
      refine h5.dat (fun z => ?_) plus_sub
      rcases z with z | ⟨i, z⟩
      · rcases (h2 a h1).2 with w | ⟨j, w⟩
        · exact r0.wt a z w
        · exact r0.fw j a w z
      · exact h3.fw i a z (.inr h1)
theorem Out.rebase (r0 : Rel K W G B F H σ e) (r1 : Rel K W G B F1 H1 σ e1) (st : Stp W F H W F1 H1) (o : Out K W G B F1 H1 σ F' H' e' v pv) : Out K W G B F H σ F' H' e' v pv := by
  cases pv with
  | sl i => exact ⟨o.1, st.trans o.2.1, o.2.2⟩
  | r x =>
    cases x with
    | v d => exact ⟨o.1, st.trans o.2.1, o.2.2⟩
    | o c =>
      obtain ⟨a, fp, rfl, h1, h2, h3, h4, h5⟩ := o
      refine ⟨a, fp, rfl, h1, fun b z => ⟨(h2 b z).1, ?_⟩, h3, st.trans h4, h5⟩
      by_cases q : H b = none
      · exact .inl q
      · rcases (h2 b z).2 with w | ⟨i, w⟩
        · exact absurd w (st.trk b q)
        · rcases st.sub b (.inr ⟨i, w⟩) q with u | u
          · exact absurd u (r1.fw i b w)
          · exact .inr u
end
end Ev

/-! ### operations by values -/
namespace Ev
open PySem L2
def POut (K : PySem.W.Frag) (A : AS) (H : Hp) (v : V) (H' : Hp) : R → Prop
  | .v d => Same H H' ∧ DpA K A H' v d
  | .o c => ∃ p, v = .ref p ∧ H p = none ∧ Same H H' ∧ CelAt K (plus A fun b => b = p) H' p c
def rD (K : PySem.W.Frag) (f : D → D → Option R) : R2 := fun x y H Q =>
  ∃ A d e r, (∀ b, A b → H b ≠ none) ∧ PK K A H x d ∧ PK K A H y e ∧ f d e = some r ∧ ∀ v H', POut K A H v H' r → Q v H'
section
variable {K : PySem.W.Frag} {A A' : AS} {H H' : Hp} {xs : List V} {ds : List D} {v : V} {d : D} {p : Addr}
theorem step_new (n : H p = none) (o : HO) (ha : ∀ b, A b → H b ≠ none) : Step A H (plus A fun b => b = p) (upd H p o) :=
  ⟨fun b u q _ => same_upd n b u q, fun b q => by
    cases z : H b with
    | none => exact absurd z q
    | some u => rw [same_upd n b u z]; simp, fun b z q => by
    rcases z with z | z
    · exact z
    · subst z; exact absurd n q⟩
theorem pout_same (h : DpA K A H v d) : POut K A H v H (.v d) := ⟨Same.refl H, h⟩
theorem pout_tup (n : H p = none) (ha : ∀ b, A b → H b ≠ none) (h : DpAs K A H xs ds) : POut K A H (.ref p) (upd H p (.tup xs)) (.v (.tuple ds)) :=
  ⟨same_upd n, .tup (.inl ⟨.of upd_same, fun z => ha p z n⟩) ((h.step (step_new n _ ha)).fewer fun b z => .inl z)⟩
theorem pout_dic0 (n : H p = none) : POut K A H (.ref p) (upd H p (.dK [])) (.o (.dic [])) :=
  ⟨p, rfl, n, same_upd n, .inl ⟨[], upd_same, .nil⟩⟩
theorem pout_lst (n : H p = none) (ha : ∀ b, A b → H b ≠ none) (h : DpAs K A H xs ds) : POut K A H (.ref p) (upd H p (.lst xs)) (.o (.lst ds)) :=
  ⟨p, rfl, n, same_upd n, xs, upd_same, h.step (step_new n _ ha)⟩
end
section
variable {X : Cx}
/-- list + list, both that are read -/
theorem op_catR : OpR X (binaryOp .Add) (fun x y H Q => ∃ l b xs zs, x = .ref l ∧ y = .ref b ∧ Rd H l (.lst xs) ∧ Rd H b (.lst zs) ∧ xs.length + zs.length ≤ sizeLine ∧ ∀ p, H p = none → Q (.ref p) (upd H p (.lst (xs ++ zs)))) := by
  intro pins s σ H x y v u Q I rx ry h
  obtain ⟨l, b, xs, zs, rfl, rfl, hl, hb, hz, q⟩ := h
  cases rx
  cases ry
  obtain ⟨_, its, n, r, e⟩ := hl.ok I.hok
  obtain ⟨_, its2, n2, r2, e2⟩ := hb.ok I.hok
  have z1 := r.length
  have z2 := r2.length
  refine PySem.P.add_list e e2 ?_ (by rw [List.size_toArray, List.size_toArray] <;> omega)
  rw [show its.toArray ++ its2.toArray = (its ++ its2).toArray by simp]
  exact ⟨.ref _, _, I.lnew (t' := s.toks) (r.append r2) (by rw [List.length_append] <;> omega), rfl, q _ I.fresh⟩
theorem flat_rep {K : PySem.W.Frag} {A : AS} {H : Hp} {xs : List V} {ds : List D} (h : DpAs K A H xs ds) : ∀ n : Nat, DpAs K A H (List.replicate n xs).flatten (List.replicate n ds).flatten
  | 0 => .nil
  | n + 1 => by
    rw [List.replicate_succ, List.replicate_succ, List.flatten_cons, List.flatten_cons]
    exact h.append (flat_rep h n)
theorem DpAs.nil_iff {K : PySem.W.Frag} {A : AS} {H : Hp} {xs : List V} {ds : List D} (h : DpAs K A H xs ds) : xs = [] ↔ ds = [] := by
  cases h with
  | nil => simp
  | cons _ _ => simp
theorem mulw_ok {i j : Int} (h : (i.natAbs < 2 ^ 200 ∧ j.natAbs < 2 ^ 200) ∨ i.natAbs.log2 + j.natAbs.log2 < 1000000) : CMulW i j := by
  rcases h with ⟨h1, h2⟩ | h
  · exact wide_mul h1 h2 (by decide) (by decide) (by decide)
  · exact h
theorem divw_ok {i j : Int} (h : 0 < j ∧ (j < 2 ^ 200 ∨ j.natAbs.log2 < 9000)) : CDivW i j := by
  rcases h with ⟨h0, h1 | h1⟩
  · refine wide_div (b := 200) h0 ?_ (by decide) (by decide)
    have : (2 : Int) ^ 200 = ((2 ^ 200 : Nat) : Int) := by norm_cast
    rw [this] at h1
    omega
  · exact ⟨h0, h1⟩
theorem op_catD : OpR X (binaryOp .Add) (rD X.K (bopD .Add)) := by
  intro pins s σ H x y v u Q I rx ry h
  obtain ⟨A, d, e, r, ha, px, py, h, q⟩ := h
  unfold bopD at h
  split at h
  · rename_i i j _
    cases h
    cases px.int
    cases py.int
    exact op_add pins s σ H _ _ v u Q I rx ry ⟨i, j, rfl, rfl, q _ _ (pout_same (.int _))⟩
  · rename_i i j _
    split at h
    · rename_i hz
      cases h
      cases px.str
      cases py.str
      exact op_add_str pins s σ H _ _ v u Q I rx ry ⟨i, j, rfl, rfl, hz, q _ _ (pout_same (.str _))⟩
    · cases h
  · split at h
    · rename_i hz
      cases h
      obtain ⟨a, xs, rfl, h1, h2⟩ := px.list
      obtain ⟨b, ys, rfl, h3, h4⟩ := py.list
      exact op_catR pins s σ H _ _ v u Q I rx ry ⟨a, b, xs, ys, rfl, rfl, h1, h3, by rw [h2.length, h4.length]; exact hz, fun p n => q _ _ (pout_lst n ha (h2.append h4))⟩
    · cases h
  · split at h
    · rename_i hz
      cases h
      obtain ⟨a, xs, rfl, h1, h2⟩ := px.tup
      obtain ⟨b, ys, rfl, h3, h4⟩ := py.tup
      refine op_catA pins s σ H _ _ v u Q I rx ry ⟨a, b, xs, ys, rfl, rfl, h1.sq, h3.sq, by rw [h2.length, h4.length]; exact hz, fun z => ?_, fun _ z => ?_, fun _ _ p n => q _ _ (pout_tup n ha (h2.append h4))⟩
      · have := h2.nil_iff.mp z
        subst this
        rw [List.nil_append] at q
        exact q _ _ (pout_same (.tup h3 h4))
      · have := h4.nil_iff.mp z
        subst this
        rw [List.append_nil] at q
        exact q _ _ (pout_same (.tup h1 h2))
    · cases h
  all_goals first | (cases h; done) | contradiction | skip
  rename_i k i _
  cases h
  cases px.bool
  cases py.int
  exact op_add_bi pins s σ H _ _ v u Q I rx ry ⟨k, i, rfl, rfl, q _ _ (pout_same (.int _))⟩
theorem op_subD : OpR X (binaryOp .Sub) (rD X.K (bopD .Sub)) := by
  intro pins s σ H x y v u Q I rx ry h
  obtain ⟨A, d, e, r, ha, px, py, h, q⟩ := h
  unfold bopD at h
  split at h
  all_goals first | (cases h; done) | contradiction | skip
  · rename_i i j _
    cases h
    cases px.int
    cases py.int
    exact op_sub pins s σ H _ _ v u Q I rx ry ⟨i, j, rfl, rfl, q _ _ (pout_same (.int _))⟩
  · rename_i k i _
    cases h
    cases px.bool
    cases py.int
    exact op_sub_bi pins s σ H _ _ v u Q I rx ry ⟨k, i, rfl, rfl, q _ _ (pout_same (.int _))⟩
theorem op_fdivD : OpR X (binaryOp .FloorDiv) (rD X.K (bopD .FloorDiv)) := by
  intro pins s σ H x y v u Q I rx ry h
  obtain ⟨A, d, e, r, ha, px, py, h, q⟩ := h
  unfold bopD at h
  split at h
  all_goals first | (cases h; done) | contradiction | skip
  rename_i i j _
  split at h
  · rename_i hz
    cases h
    cases px.int
    cases py.int
    exact op_fdivW pins s σ H _ _ v u Q I rx ry ⟨i, j, rfl, rfl, divw_ok hz, q _ _ (pout_same (.int _))⟩
  · cases h
theorem op_modD : OpR X (binaryOp .Mod) (rD X.K (bopD .Mod)) := by
  intro pins s σ H x y v u Q I rx ry h
  obtain ⟨A, d, e, r, ha, px, py, h, q⟩ := h
  unfold bopD at h
  split at h
  all_goals first | (cases h; done) | contradiction | skip
  rename_i i j _
  split at h
  · rename_i hz
    cases h
    cases px.int
    cases py.int
    exact op_mod pins s σ H _ _ v u Q I rx ry ⟨i, j, rfl, rfl, hz, q _ _ (pout_same (.int _))⟩
  · cases h
theorem op_powD : OpR X (binaryOp .Pow) (rD X.K (bopD .Pow)) := by
  intro pins s σ H x y v u Q I rx ry h
  obtain ⟨A, d, e, r, ha, px, py, h, q⟩ := h
  unfold bopD at h
  split at h
  all_goals first | (cases h; done) | contradiction | skip
  rename_i i j _
  split at h
  · rename_i hz
    cases h
    cases px.int
    cases py.int
    exact op_pow pins s σ H _ _ v u Q I rx ry ⟨i, j, rfl, rfl, hz, q _ _ (pout_same (.int _))⟩
  · cases h
end
end Ev
namespace Ev
open PySem L2
section
variable {X : Cx}
theorem op_mulD : OpR X (binaryOp .Mult) (rD X.K (bopD .Mult)) := by
  intro pins s σ H x y v u Q I rx ry h
  obtain ⟨A, d, e, r, ha, px, py, h, q⟩ := h
  unfold bopD at h
  split at h
  all_goals first | (cases h; done) | contradiction | skip
  · rename_i i j _
    split at h
    · rename_i hz
      cases h
      cases px.int
      cases py.int
      exact op_mulW pins s σ H _ _ v u Q I rx ry ⟨i, j, rfl, rfl, mulw_ok hz, q _ _ (pout_same (.int _))⟩
    · cases h
  · rename_i ds k _
    split at h
    · rename_i hz
      cases h
      obtain ⟨a, xs, rfl, h1, h2⟩ := px.tup
      cases py.int
      exact op_repT pins s σ H _ _ v u Q I rx ry ⟨a, k, xs, rfl, rfl, h1.sq, fun e => hz.1 (h2.nil_iff.mp e), hz.2.1, hz.2.2.1, by rw [h2.length]; exact hz.2.2.2, fun p n => q _ _ (pout_tup n ha (flat_rep h2 _))⟩
    · cases h
theorem op_binD (op : Operator) : OpR X (binaryOp op) (rD X.K (bopD op)) := by
  cases op with
  | Add => exact op_catD
  | Sub => exact op_subD
  | Mult => exact op_mulD
  | FloorDiv => exact op_fdivD
  | Mod => exact op_modD
  | Pow => exact op_powD
  | _ =>
    intro pins s σ H x y v u Q I rx ry h
    obtain ⟨A, d, e, r, ha, px, py, h, q⟩ := h
    cases h
/-! comparisons -/
theorem eqD_some {d e : D} {b : Bool} (h : eqD d e = some b) : SeqAt.shaped d = true ∧ SeqAt.shaped e = true ∧ b = PyData.eqv d e := by
  unfold eqD at h
  split at h
  · rename_i z
    cases h
    exact ⟨z.1, z.2, rfl⟩
  · cases h
theorem intsD_map : ∀ {ds : List D} {ns : List Int}, intsD ds = some ns → ds = ns.map PyData.int
  | [], ns, h => by cases h; rfl
  | d :: ds, ns, h => by
    cases d <;> first | (simp [intsD] at h; done) | skip
    rename_i i
    simp only [intsD, Option.map_eq_some_iff] at h
    obtain ⟨ms, h1, h2⟩ := h
    subst h2
    rw [intsD_map h1]
    rfl
theorem boolsD_map : ∀ {ds : List D} {ns : List Bool}, boolsD ds = some ns → ds = ns.map PyData.bool
  | [], ns, h => by cases h; rfl
  | d :: ds, ns, h => by
    cases d <;> first | (simp [boolsD] at h; done) | skip
    rename_i i
    simp only [boolsD, Option.map_eq_some_iff] at h
    obtain ⟨ms, h1, h2⟩ := h
    subst h2
    rw [boolsD_map h1]
    rfl
@[simp] theorem intsD_of (ns : List Int) : intsD (ns.map PyData.int) = some ns := by
  induction ns with
  | nil => rfl
  | cons n ns ih => simp [intsD, ih]
@[simp] theorem boolsD_of (ns : List Bool) : boolsD (ns.map PyData.bool) = some ns := by
  induction ns with
  | nil => rfl
  | cons n ns ih => simp [boolsD, ih]
theorem PK.ints {K : PySem.W.Frag} {A : AS} {H : Hp} {v : V} {ds : List D} {ns : List Int} (h : PK K A H v (.tuple ds)) (e : intsD ds = some ns) : ∃ a, v = .ref a ∧ SqT K H a (ns.map V.int) := by
  obtain ⟨a, xs, rfl, h1, h2⟩ := h.tup
  rw [intsD_map e] at h2
  cases h2.ints
  exact ⟨a, rfl, h1.sq⟩
theorem PK.intsL {K : PySem.W.Frag} {A : AS} {H : Hp} {v : V} {ds : List D} {ns : List Int} (h : PK K A H v (.list ds)) (e : intsD ds = some ns) : ∃ a, v = .ref a ∧ SqL K H a (ns.map V.int) := by
  obtain ⟨a, xs, rfl, h1, h2⟩ := h.list
  rw [intsD_map e] at h2
  cases h2.ints
  exact ⟨a, rfl, .inl h1⟩
theorem PK.boolsL {K : PySem.W.Frag} {A : AS} {H : Hp} {v : V} {ds : List D} {ns : List Bool} (h : PK K A H v (.list ds)) (e : boolsD ds = some ns) : ∃ a, v = .ref a ∧ SqL K H a (ns.map V.bl) := by
  obtain ⟨a, xs, rfl, h1, h2⟩ := h.list
  rw [boolsD_map e] at h2
  cases h2.bools
  exact ⟨a, rfl, .inl h1⟩
theorem PK.isNone {K : PySem.W.Frag} {A : AS} {H : Hp} {v : V} {d : D} (h : PK K A H v d) : decide (v = .non) = isNoneD d := by
  rcases h with h | ⟨a, c, h1, h2, h3⟩
  · cases h <;> simp [isNoneD]
  · subst h1 h2
    cases c <;> simp [isNoneD, Cel.d]
/-! dicts -/
theorem keyOf_D {d : D} {k : Key} : keyOf d = some k ↔ d = keyD k := by
  constructor
  · intro h
    unfold keyOf at h
    split at h <;> cases h <;> rfl
  · rintro rfl
    cases k <;> rfl
theorem key_at {K : PySem.W.Frag} {A : AS} {H : Hp} {v : V} {d : D} {k : Key} (h : PK K A H v d) (e : keyOf d = some k) : v = kV k := by
  obtain rfl := keyOf_D.mp e
  cases k with
  | inl i => exact h.int
  | inr x => exact h.str
theorem dpks_get {K : PySem.W.Frag} {A : AS} {H : Hp} : ∀ {kv : List (Key × V)} {kvs : List (D × D)} (k : Key), DpKs K A H kv kvs → (∃ v d, valV kv k = some v ∧ dgetK kvs k = some d ∧ DpA K A H v d) ∨ (valV kv k = none ∧ dgetK kvs k = none)
  | _, _, k, .nil => .inr ⟨rfl, rfl⟩
  | _, _, k, .cons (k := k') (v := v) (d := d) (kv := kv) (kvs := kvs) h t => by
    unfold dgetK
    rw [List.find?_cons]
    by_cases e : k' = k
    · subst e
      rw [valV_pos rfl]
      simp only [show keyOf (keyD k') = some k' from keyOf_D.mpr rfl, decide_true, Option.map_some]
      exact .inl ⟨v, d, rfl, rfl, h⟩
    · rw [valV_neg e]
      have q : decide (keyOf (keyD k') = some k) = false := decide_eq_false fun z => e (by rw [show keyOf (keyD k') = some k' from keyOf_D.mpr rfl] at z; exact Option.some.inj z)
      simp only [q]
      exact dpks_get k t
theorem dpks_any {K : PySem.W.Frag} {A : AS} {H : Hp} (k : Key) : ∀ {kv : List (Key × V)} {kvs : List (D × D)}, DpKs K A H kv kvs → (kv.any fun p => decide (p.1 = k)) = kvs.any fun p => decide (keyOf p.1 = some k)
  | _, _, .nil => rfl
  | _, _, .cons (k := k') h t => by
    rw [List.any_cons, List.any_cons, dpks_any k t]
    congr 1
    rw [show keyOf (keyD k') = some k' from keyOf_D.mpr rfl]
    simp
theorem dpks_put {K : PySem.W.Frag} {A : AS} {H : Hp} {kv : List (Key × V)} {kvs : List (D × D)} {k : Key} {v : V} {d : D} (h : DpKs K A H kv kvs) (hv : DpA K A H v d) : DpKs K A H (putK kv k v) (dputK kvs k d) := by
  unfold putK dputK
  rw [dpks_any k h]
  split
  · have aux : ∀ {kv : List (Key × V)} {kvs : List (D × D)}, DpKs K A H kv kvs → DpKs K A H (kv.map fun p => if p.1 = k then (p.1, v) else p) (kvs.map fun p => if keyOf p.1 = some k then (p.1, d) else p) := fun {kv kvs} h => by
      induction kv generalizing kvs with
      | nil => cases h; exact .nil
      | cons p kv ih =>
        cases h with
        | cons h t =>
          rename_i k' v' d' kvs
          rw [List.map_cons, List.map_cons]
          have e : (keyOf (keyD k') = some k) = (k' = k) := by
            rw [show keyOf (keyD k') = some k' from keyOf_D.mpr rfl]
            simp
          dsimp only
          by_cases q : k' = k
          · rw [if_pos q, if_pos (by rw [e]; exact q)]
            exact .cons hv (ih t)
          · rw [if_neg q, if_neg (by rw [e]; exact q)]
            exact .cons h (ih t)
    exact aux h
  · have aux : ∀ {kv : List (Key × V)} {kvs : List (D × D)}, DpKs K A H kv kvs → DpKs K A H (kv ++ [(k, v)]) (kvs ++ [(keyD k, d)]) := fun {kv kvs} h => by
      induction kv generalizing kvs with
      | nil => cases h; exact .cons hv .nil
      | cons p kv ih =>
        cases h with
        | cons h t => exact .cons h (ih t)
    exact aux h
theorem PK.dicK {K : PySem.W.Frag} {A : AS} {H : Hp} {v : V} {kvs : List (D × D)} (h : PK K A H v (.dict kvs)) (hk : isKD kvs = true) : ∃ a kv, v = .ref a ∧ H a = some (.dK kv) ∧ DpKs K A H kv kvs := by
  rcases h with h | ⟨a, c, h1, h2, h3⟩
  · cases h with
    | dK h n hs => exact ⟨_, _, rfl, h, hs⟩
    | dT h n hs =>
      cases hs with
      | nil => cases hk
      | cons _ _ => cases hk
    | ro h hs => cases hk
  · subst h1
    cases c with
    | lst ds => cases h2
    | dic kvs' =>
      cases h2
      rcases h3 with ⟨kv, h4, h5⟩ | ⟨kv, h4, h5⟩
      · exact ⟨a, kv, rfl, h4, h5⟩
      · cases h5 with
        | nil => cases hk
        | cons _ _ => cases hk
theorem op_inT (hu : X.A.units + 65 < cLine) : OpR X (compareOp .In) (fun x y H Q => ∃ d ds, Dp X.K H x d ∧ Dp X.K H y (.tuple ds) ∧ SeqAt.shaped d = true ∧ SeqAt.shaped (.tuple ds) = true ∧ Q (.bl (ds.any fun z => PyData.eqv z d)) H) := by
  intro pins s σ H x y v u Q I rx ry h
  obtain ⟨d, ds, hx, hy, sd, se, q⟩ := h
  obtain ⟨as, r1⟩ := Dp.reads I d x v hx rx
  obtain ⟨bs, r2⟩ := Dp.reads I _ y u hy ry
  exact SeqAt.in_tuple_reads r2 r1 (SeqAt.canLay_of_shaped se) (SeqAt.canLay_of_shaped sd) (PyProof.Rows.room_in_shaped sd hu) ⟨.bl _, H, I, rfl, q⟩
theorem op_notInT (hu : X.A.units + 65 < cLine) : OpR X (compareOp .NotIn) (fun x y H Q => ∃ d ds, Dp X.K H x d ∧ Dp X.K H y (.tuple ds) ∧ SeqAt.shaped d = true ∧ SeqAt.shaped (.tuple ds) = true ∧ Q (.bl (!ds.any fun z => PyData.eqv z d)) H) := by
  intro pins s σ H x y v u Q I rx ry h
  obtain ⟨d, ds, hx, hy, sd, se, q⟩ := h
  obtain ⟨as, r1⟩ := Dp.reads I d x v hx rx
  obtain ⟨bs, r2⟩ := Dp.reads I _ y u hy ry
  exact SeqAt.notIn_tuple_reads r2 r1 (SeqAt.canLay_of_shaped se) (SeqAt.canLay_of_shaped sd) (PyProof.Rows.room_in_shaped sd hu) ⟨.bl _, H, I, rfl, q⟩
theorem dget_some {K : PySem.W.Frag} {A : AS} {H : Hp} {kv : List (Key × V)} {kvs : List (D × D)} (k : Key) (h : DpKs K A H kv kvs) : (valV kv k).isSome = (dgetK kvs k).isSome := by
  rcases dpks_get k h with ⟨v, d, h1, h2, _⟩ | ⟨h1, h2⟩ <;> rw [h1, h2] <;> rfl
theorem op_cmpD (hu : X.A.units + 65 < cLine) (op : CmpOp) : OpR X (compareOp op) (rD X.K (cmpR op)) := by
  intro pins s σ H x y v u Q I rx ry h
  obtain ⟨A, d, e, r, ha, px, py, h, q⟩ := h
  obtain ⟨b, h', hr⟩ := Option.map_eq_some_iff.mp h
  clear h
  subst hr
  have h := h'
  clear h'
  have q : Q (.bl b) H := q _ _ (pout_same (.bl b))
  have hu64 : X.A.units + 64 < cLine := by omega
  have hu0 : X.A.units < cLine := by omega
  unfold cmpD at h
  split at h
  · obtain ⟨h1, h2, rfl⟩ := eqD_some h
    exact op_eqD hu64 pins s σ H _ _ v u Q I rx ry ⟨d, e, px.dp (SeqAt.canLay_of_shaped h1), py.dp (SeqAt.canLay_of_shaped h2), h1, h2, q⟩
  · obtain ⟨c, h', e1⟩ := Option.map_eq_some_iff.mp h
    clear h
    subst e1
    have h := h'
    clear h'
    obtain ⟨h1, h2, rfl⟩ := eqD_some h
    exact op_neD hu64 pins s σ H _ _ v u Q I rx ry ⟨d, e, px.dp (SeqAt.canLay_of_shaped h1), py.dp (SeqAt.canLay_of_shaped h2), h1, h2, q⟩
  · unfold ltD at h
    split at h
    · rename_i i j
      cases h
      cases px.int
      cases py.int
      exact op_lt pins s σ H _ _ v u Q I rx ry ⟨i, j, rfl, rfl, q⟩
    · split at h
      · rename_i ns ms h1 h2
        cases h
        obtain ⟨a, rfl, z1⟩ := px.ints h1
        obtain ⟨b, rfl, z2⟩ := py.ints h2
        exact op_ltT hu0 pins s σ H _ _ v u Q I rx ry ⟨a, b, ns, ms, rfl, rfl, z1, z2, q⟩
      · cases h
    · cases h
  · rename_i i j
    cases h
    cases px.int
    cases py.int
    exact op_gt pins s σ H _ _ v u Q I rx ry ⟨i, j, rfl, rfl, q⟩
  · rename_i i j
    cases h
    cases px.int
    cases py.int
    exact op_le pins s σ H _ _ v u Q I rx ry ⟨i, j, rfl, rfl, q⟩
  · rename_i i j
    cases h
    cases px.int
    cases py.int
    exact op_ge pins s σ H _ _ v u Q I rx ry ⟨i, j, rfl, rfl, q⟩
  · cases h
    cases py.none
    exact op_isN pins s σ H _ _ v u Q I rx ry ⟨rfl, by rw [px.isNone]; exact q⟩
  · cases h
    cases py.none
    exact op_notN pins s σ H _ _ v u Q I rx ry ⟨rfl, by rw [px.isNone]; exact q⟩
  · rename_i i j
    cases h
    cases px.bool
    cases py.bool
    refine op_is_bl pins s σ H _ _ v u Q I rx ry ⟨i, j, rfl, rfl, ?_⟩
    rw [show decide (i = j) = (i == j) by cases i <;> cases j <;> rfl]
    exact q
  · rename_i i j
    cases h
    cases px.bool
    cases py.bool
    refine op_isnot_bl pins s σ H _ _ v u Q I rx ry ⟨i, j, rfl, rfl, ?_⟩
    rw [show (!decide (i = j)) = (i != j) by cases i <;> cases j <;> rfl]
    exact q
  · unfold inD at h
    split at h
    · split at h
      · rename_i x' _
        cases h
        cases px.str
        cases py.str
        exact op_in_str pins s σ H _ _ v u Q I rx ry ⟨_, _, rfl, rfl, q⟩
      · cases h
    · split at h
      · rename_i z
        cases h
        exact op_inD hu pins s σ H _ _ v u Q I rx ry ⟨_, _, px.dp (SeqAt.canLay_of_shaped z.1), py.dp (SeqAt.canLay_of_shaped z.2), z.1, z.2, q⟩
      · cases h
    · split at h
      · rename_i z
        cases h
        exact op_inT hu pins s σ H _ _ v u Q I rx ry ⟨_, _, px.dp (SeqAt.canLay_of_shaped z.1), py.dp (SeqAt.canLay_of_shaped z.2), z.1, z.2, q⟩
      · cases h
    · split at h
      · rename_i k h1 h2
        cases h
        obtain ⟨a, kv, rfl, h3, h4⟩ := py.dicK h1
        obtain rfl := key_at px h2
        cases ry
        refine d_in (by omega) I (.k h3) rx fun s' I' => ⟨.bl (valV kv k).isSome, H, I', rfl, ?_⟩
        rw [dget_some k h4]
        exact q
      · cases h
    · cases h
  · obtain ⟨c, h', e1⟩ := Option.map_eq_some_iff.mp h
    clear h
    subst e1
    have h := h'
    clear h'
    unfold inD at h
    split at h
    · split at h
      · rename_i x' _
        cases h
        cases px.str
        cases py.str
        exact op_notin_str pins s σ H _ _ v u Q I rx ry ⟨_, _, rfl, rfl, q⟩
      · cases h
    · split at h
      · rename_i z
        cases h
        exact op_notInD hu pins s σ H _ _ v u Q I rx ry ⟨_, _, px.dp (SeqAt.canLay_of_shaped z.1), py.dp (SeqAt.canLay_of_shaped z.2), z.1, z.2, q⟩
      · cases h
    · split at h
      · rename_i z
        cases h
        exact op_notInT hu pins s σ H _ _ v u Q I rx ry ⟨_, _, px.dp (SeqAt.canLay_of_shaped z.1), py.dp (SeqAt.canLay_of_shaped z.2), z.1, z.2, q⟩
      · cases h
    · split at h
      · rename_i k h1 h2
        cases h
        obtain ⟨a, kv, rfl, h3, h4⟩ := py.dicK h1
        obtain rfl := key_at px h2
        cases ry
        refine d_notIn (by omega) I (.k h3) rx fun s' I' => ⟨.bl (!(valV kv k).isSome), H, I', rfl, ?_⟩
        rw [dget_some k h4]
        exact q
      · cases h
    · cases h
  · cases h
end
end Ev

/-! Ev, part Rp: repr of data. -/
namespace Ev
open PySem L2
section
variable {X : Cx}
theorem dict_nil {K : PySem.W.Frag} {A : AS} {H : Hp} {v : V} (h : PK K A H v (.dict [])) : ∃ a, v = .ref a ∧ (H a = some (.dK []) ∨ H a = some (.dT [])) := by
  generalize e : PyData.dict [] = d at h
  rcases h with h | ⟨a, c, h1, h2, h3⟩
  · cases h with
    | dK h n hs =>
      cases e
      cases hs
      exact ⟨_, rfl, .inl h⟩
    | dT h n hs =>
      cases e
      cases hs
      exact ⟨_, rfl, .inr h⟩
    | _ => cases e
  · subst h2
    cases c with
    | lst es => cases e
    | dic kvs =>
      cases e
      rcases h3 with ⟨kv, h4, h5⟩ | ⟨kv, h4, h5⟩
      · cases h5
        exact ⟨a, h1, .inl h4⟩
      · cases h5
        exact ⟨a, h1, .inr h4⟩
theorem reads_dict {h : Heap} {a : Addr} {o : Obj} {es : Array DictEntry} {ep : Nat} (h1 : h.get? a = some o) (h2 : o.cls = .type "dict") (h3 : o.data = .dict es ep) (h4 : es.toList = []) : Reads h (.ref a) (.dict []) [a] := by
  have := Reads.dict (h := h) (a := a) (o := o) (es := es) (n := ep) (kvs := []) (as := []) (bs := []) h1 h2 h3 (by rw [h4]; exact .nil) (by rw [h4]; exact .nil)
  exact this
theorem call_reprD (hg : X.A.guards = some []) (hu : X.A.units + 65 < cLine) : CallR X (.builtin "repr") (fun vs H Q => ∃ A v d, vs = [v] ∧ PK X.K A H v d ∧ reprOk d = true ∧ Q (.str d.shown) H) := by
  intro pins s σ H vs us Q I rv h
  obtain ⟨A, v, d, rfl, p, ok, q⟩ := h
  obtain ⟨u, rfl, r⟩ := vals1 rv
  unfold reprOk at ok
  simp only [Bool.and_eq_true, Bool.or_eq_true, decide_eq_true_eq] at ok
  obtain ⟨⟨⟨lay, sh⟩, dp⟩, sz⟩ := ok
  have fin : ∀ (h' : Heap) (u : Tok) (tk : Nat), (∀ b o, s.heap.get? b = some o → h'.get? b = some o) → EP X pins σ Q (.str d.shown u) { s with heap := h', toks := tk } := fun h' u tk hk => ⟨.str d.shown, H, I.kept (t' := tk) hk, ⟨u, rfl⟩, q⟩
  have at' : ∀ {a : Addr} {as : List Addr}, Reads s.heap (.ref a) d as → (d.hasDict = true → sysModules ∉ as) → wpAny (model X.prog X.w) X.A (call (.builtin "repr") [.ref a]) (EP X pins σ Q) X.xe s := fun rd hd =>
    repr_of_reads' rd sh hd hg (by omega) (fun _ _ e => e) fin sz
  cases d with
  | none =>
    cases p.none
    cases r
    exact PySem.P.repr_of_none (fin _ _ _ fun _ _ e => e)
  | bool b =>
    cases p.bool
    cases r
    exact PySem.P.repr_of_bool (fin _ _ _ fun _ _ e => e)
  | int i =>
    cases p.int
    obtain ⟨t, rfl⟩ := r
    exact PySem.P.repr_of_int (by simpa [PyData.showable] using sh) (fin _ _ _ fun _ _ e => e)
  | str x =>
    cases p.str
    obtain ⟨t, rfl⟩ := r
    exact PySem.P.repr_of_str (fin _ _ _ fun _ _ e => e) sz
  | list ds =>
    have lay : (PyData.list ds).canLay0 = true := by simpa [isE] using lay
    have dd := p.dp lay
    obtain ⟨a, xs, rfl, _, _⟩ := p.list
    cases r
    obtain ⟨as, rd⟩ := Dp.reads I _ _ _ dd rfl
    exact at' rd fun z => absurd z (by rw [PyData.hasDict_of_canLay _ lay]; exact Bool.false_ne_true)
  | tuple ds =>
    have lay : (PyData.tuple ds).canLay0 = true := by simpa [isE] using lay
    have dd := p.dp lay
    obtain ⟨a, xs, rfl, _, _⟩ := p.tup
    cases r
    obtain ⟨as, rd⟩ := Dp.reads I _ _ _ dd rfl
    exact at' rd fun z => absurd z (by rw [PyData.hasDict_of_canLay _ lay]; exact Bool.false_ne_true)
  | dict kvs =>
    cases kvs with
    | cons kv kvs => simp [PyData.canLay0, isE] at lay
    | nil =>
      obtain ⟨a, rfl, h⟩ := dict_nil p
      cases r
      have key : (a == sysModules) = false ∧ ∃ o es ep, s.heap.get? a = some o ∧ o.ExactDict ∧ o.data = .dict es ep ∧ es.toList = [] := by
        rcases h with h | h
        · obtain ⟨_, h1, vs, h2, o, es, ep, h3, h4, h5, h6, h7, _⟩ := I.hok a _ h
          cases h2
          have : es.toList = [] := by
            have := h7.length
            exact List.length_eq_zero_iff.mp (by simpa using this)
          exact ⟨h1, o, es, ep, h3, h4, h5, this⟩
        · obtain ⟨_, h1, xs, h2, o, es, ep, h3, h4, h5, h6, _⟩ := I.hok a _ h
          cases h2
          exact ⟨h1, o, es, ep, h3, h4, h5, h6⟩
      obtain ⟨h1, o, es, ep, h3, h4, h5, h6⟩ := key
      refine at' (reads_dict h3 h4.1 h5 h6) fun _ hm => ?_
      rw [List.mem_singleton] at hm
      rw [hm] at h1
      simp at h1
end
end Ev

/-! Ev, part W: what the layer lacks: enumerate over a tuple. -/
namespace Ev
open PySem L2 RZ PyProof.Rows
theorem en_new {v : Value} {o : Obj} {G : Heap → Prop} (B : Begins v o G) :
    Meets (Builtin.«enumerate.__new__» ⟨[.type "enumerate", v], []⟩) (fun _ R s => G s.heap ∧ R (.ok (.ret (.ref (s.heap.push o).objs.size))) { s with heap := (s.heap.push o).push { cls := .type "enumerate", data := .fields #[.none, .bool false, .ref s.heap.objs.size, rawInt 0, .none, .none] } }) :=
  .of_wp fun pr wo Ar R st hst => by
    obtain ⟨hp, gs, dr, tk, os⟩ := st
    obtain ⟨hG, hR⟩ := hst
    have subE := sub_enumerate
    have itr : ∀ {A' : Around} {E' Q' : Value → Shared → Prop}, Q' (.ref hp.objs.size) ⟨hp.push o, gs, dr, tk, os⟩ → wpAny (model pr wo) A' (pyIter v) Q' E' ⟨hp, gs, dr, tk, os⟩ := fun q => B.iter pr wo _ _ ⟨hp, gs, dr, tk, os⟩ _ hG q
    wp_walk using itr
    refine wpAny_stack_any fun stk => wpAny_pure ?_
    split
    case h_1 =>
      rename_i c _ _ _ _ _
      cases (c == Value.type "enumerate") <;> (wp_walk using itr; exact ⟨_, rfl, hR⟩)
    case h_2 =>
      wp_walk using itr
      exact ⟨_, rfl, hR⟩
section
variable {prog : Program} {w : World} {A : Around} {E : Value → Shared → Prop} {s : Shared}
theorem en_call {l : Addr} {its : Array Value} {Q : Value → Shared → Prop} (hT : s.heap.IsTuple l its)
    (k : ∀ h', IsEnum h' (s.heap.objs.size + 1) s.heap.objs.size 0 .none → h'.IsTupleIter s.heap.objs.size l 0 → (∀ b o, s.heap.get? b = some o → h'.get? b = some o) → Q (.ref (s.heap.objs.size + 1)) { s with heap := h' }) :
    wpAny (model prog w) A (call (.type "enumerate") [.ref l]) Q E s := by
  refine callType_new F.called_enumerate (by decide) (F.typeCall_enumerate_1 _) (F.newCall_enumerate_1 _) (fun x => F.args_object_init_2 x _) F.entry_enumerate_new (en_new (begins_tuple l its)) ⟨hT, ?_⟩
  generalize hI : ({ cls := .type "tuple_iterator", data := .fields #[.ref l, .int 0 0] } : Obj) = I1
  have fr : I1.isFreed = false := by subst hI; rfl
  have sz : (s.heap.push I1).objs.size = s.heap.objs.size + 1 := Heap.size_push ..
  show _ ∧ _
  rw [sz]
  generalize hE : ({ cls := .type "enumerate", data := .fields #[.none, .bool false, .ref s.heap.objs.size, rawInt 0, .none, .none] } : Obj) = E1
  have g2 : ((s.heap.push I1).push E1).get? (s.heap.objs.size + 1) = some E1 := by
    rw [← sz]
    exact Heap.get?_push_size _ (by subst hE; rfl)
  have g1 : ((s.heap.push I1).push E1).get? s.heap.objs.size = some I1 := Heap.get?_push_of_some _ (Heap.get?_push_size _ fr)
  subst hI hE
  exact ⟨⟨_, g2, rfl⟩, k _ g2 ⟨_, g1, rfl, rfl⟩ fun b o q => Heap.get?_push_of_some _ (Heap.get?_push_of_some _ q)⟩
end
/-- the tuple at a, each item in a new pair -/
def IteT (K : PySem.W.Frag) (a : Addr) : It where
  go := fun i H => ∃ (xs : List V) (x : V), SqT K H a xs ∧ xs[i]? = some x
  yld := fun i H v H' => ∃ T x, v = .ref T ∧ H T = none ∧ H' = upd H T (.tup [.int (i : Nat), x]) ∧ ∀ xs, SqT K H a xs → xs[i]? = some x
  stop := fun i H => ∃ xs : List V, SqT K H a xs ∧ xs.length = i
theorem turn_enT {P : Program} {w : World} {K : PySem.W.Frag} {elts : List Expr} {kk : Nat} {tpos : Pos} (a e it : Addr) :
    Turn P w K (.Tuple elts kk tpos) (IteT K a) [e, it] e (fun i h => (∃ old, IsEnum h e it ((i : Nat) : Int) old) ∧ h.IsTupleIter it a i ∧ e ≠ it ∧ a ≠ it ∧ a ≠ e) where
  mem := List.mem_cons_self
  obj := fun i h st b hb => by
    obtain ⟨⟨old, hE⟩, ⟨o, ho, _, hd⟩, _⟩ := st
    rcases List.mem_cons.mp hb with z | z
    · subst z
      exact ⟨_, hE, fun v q => nomatch q⟩
    · obtain rfl := List.mem_singleton.mp z
      exact ⟨o, ho, fun v q => by rw [hd] at q; cases q⟩
  keep := fun i h h' st k => by
    obtain ⟨⟨old, hE⟩, hI, n⟩ := st
    exact ⟨⟨old, k e List.mem_cons_self _ hE⟩, hI.at fun o q => k it (List.mem_cons_of_mem _ List.mem_cons_self) o q, n⟩
  item := by
    intro X hP hw hK hc i pins s σ H E I hf st hg
    subst hP hw hK
    obtain ⟨⟨old, hE⟩, hI, n1, n2, n3⟩ := st
    obtain ⟨xs, x, hq, hx⟩ := hg
    obtain ⟨its, rv, p, hz⟩ := I.tuple hq
    obtain ⟨u, hu, ru⟩ := rv.get hx
    have lE : e < s.heap.objs.size := Heap.lt_size hE
    have lI : it < s.heap.objs.size := by obtain ⟨_, q, _⟩ := hI; exact Heap.lt_size q
    have hp : s.heap.IsTuple a its.toArray := p
    have hlt : i < its.toArray.size := by
      have := (List.getElem?_eq_some_iff.mp hu).1
      simpa using this
    refine wpAny_pyNext_enum_itemD (Draws.tuple (show X.A.in1.handled = none from I.ok.hd hc) it a n2 its.toArray) hE ⟨hI, hp⟩ hlt n1 (by simp [n1, Ne.symm n3]) fun y h' tk hy ho hst hT hsz hk => ?_
    have ey : y = u := by
      have : its.toArray[i]? = some y := hy
      rw [List.getElem?_toArray, hu] at this
      exact (Option.some.inj this).symm
    subst ey
    refine ⟨_, rfl, wpAny_letOwnedTupleGo_enum (s := { s with heap := h', toks := tk + 1 }) ho fun h2 hE2 sb => ?_⟩
    have hT2 : h2.get? s.heap.objs.size = some { cls := .type "tuple", data := .seq #[.int i tk, y] } := (sb.2 _ (Nat.ne_of_gt lE)).trans hT
    have new : ObjOk X.prog X.w (upd H s.heap.objs.size (.tup [.int (i : Nat), x])) h2 s.heap.objs.size (.tup [.int (i : Nat), x]) :=
      ⟨show 2 ≤ sizeLine by decide, [.int i tk, y], .cons ⟨_, rfl⟩ (.cons ru .nil), ⟨_, hT2, rfl, _, rfl⟩⟩
    have far : ∀ b ob, b ∉ [e, it] → s.heap.get? b = some ob → h2.get? b = some ob := fun b ob hb q => by
      have b1 : b ≠ e := fun z => hb (by simp [z])
      have b2 : b ≠ it := fun z => hb (by simp [z])
      exact (sb.2 b b1).trans (hk b ob b1 b2 q)
    have I1 : Inv X pins σ (upd H s.heap.objs.size (.tup [.int (i : Nat), x])) { s with heap := h2, toks := tk + 1 } := I.turnedNew (ch := [e, it]) far hf (Nat.le_refl _) new
    refine ⟨.ref s.heap.objs.size, _, I1, rfl, ⟨_, x, rfl, I.hok.fresh (Nat.le_refl _), rfl, fun ys hy => by rw [I.tuple_inj hy hq]; exact hx⟩, ⟨⟨y, ?_⟩, hst.1.at fun o q => (sb.2 it (Ne.symm n1)).trans q, n1, n2, n3⟩, fun b hb => ?_⟩
    · rw [show ((i + 1 : Nat) : Int) = (i : Int) + 1 by omega]
      exact hE2
    · have lb : b < s.heap.objs.size := by
        rcases List.mem_cons.mp hb with z | z
        · rw [z]; exact lE
        · rw [List.mem_singleton.mp z]; exact lI
      rw [upd_ne (Nat.ne_of_lt lb)]
      exact (hf b hb).1
  done := by
    intro X hP hw hK hc i pins s σ H E I hf st hg
    subst hP hw hK
    obtain ⟨⟨old, hE⟩, hI, n1, n2, n3⟩ := st
    obtain ⟨xs, hq, hx⟩ := hg
    obtain ⟨its, rv, p, hz⟩ := I.tuple hq
    obtain ⟨f0, f1, f2, f3, f4, f5⟩ := hf it (List.mem_cons_of_mem _ List.mem_cons_self)
    have hl := rv.length
    have hle : its.toArray.size = i := by
      rw [List.size_toArray]
      omega
    have D := Draws.tuple (prog := X.prog) (w := X.w) (show X.A.in1.handled = none from I.ok.hd hc) it a n2 its.toArray
    rw [hle] at D
    exact wpAny_pyNext_enum_endD D hE ⟨hI, p⟩ fun h' eb => ⟨rfl, I.turned (t' := s.toks) (fun b o hb q => eb b o hb q) f0 f1 f3 f4 f5⟩
  self := fun A i s Q E st k => by
    obtain ⟨⟨_, hE⟩, _⟩ := st
    exact wpAny_pyIter_enum hE k
end Ev

/-! Ev, part W2: enumerate of a list or a tuple; sets of tuples out of a tuple. -/
namespace Ev
open PySem L2 RZ PyProof.Rows PySem.Spec
def iEnumT (K : PySem.W.Frag) (ta : TA) : TI := fun σ H R => ta σ H fun vs H1 => ∃ a xs, vs = [.ref a] ∧ ((SqL K H1 a xs ∧ R (Ite K a) H1) ∨ (SqT K H1 a xs ∧ R (IteT K a) H1))
theorem pi_enumT {X : Cx} {e : Expr} {ta : TA} {p pos tpos : Pos} {elts : List Expr} {kk : Nat} (hg : Gl X "enumerate") (hm : X.mg "enumerate" = none) (ha : PA X [e] ta) (hs : starEach [e] X.env = [(false, eval e X.env)] := by rfl) :
    PI X (.Tuple elts kk tpos) (.Call (.Name "enumerate" p) [e] [] pos) (iEnumT X.K ta) := by
  refine ⟨fun pins s σ H R I h => Call_ (ld_blt I hg hm boot_enumerate (callWith_type1 (thn (ha.run pos pins s σ H _ I h) fun us s1 ⟨vs, H1, I1, r1, a, xs, ex, q⟩ => ?_) hs rfl))⟩
  subst ex
  cases r1 with
  | cons r rr =>
    cases rr
    cases r
    have two : ∀ b ∈ [s1.heap.objs.size + 1, s1.heap.objs.size], FpOk X pins H1 b := fun b hb => by
      have le : s1.heap.objs.size ≤ b := by
        rcases List.mem_cons.mp hb with z | z
        · rw [z]; exact Nat.le_succ _
        · rw [List.mem_singleton.mp z]; exact Nat.le_refl _
      exact I1.fpOk le (I1.hok.fresh le)
    rcases q with ⟨hq, q⟩ | ⟨hq, q⟩
    · obtain ⟨its, rv, pl, _⟩ := I1.list hq
      exact call_enumerate_list pl.isList fun h' hE hI _ hk => wpAny_pyIter_enum hE ⟨_, _, _, _, H1, rfl, I1.kept (t' := s1.toks) hk, turn_enum a _ _, ⟨⟨.none, hE⟩, hI, Nat.succ_ne_self _⟩, two, q⟩
    · obtain ⟨its, rv, pl, _⟩ := I1.tuple hq
      have lt : a < s1.heap.objs.size := by obtain ⟨o, ho, _⟩ := pl; exact Heap.lt_size ho
      exact en_call (show s1.heap.IsTuple a its.toArray from pl) fun h' hE hI hk => wpAny_pyIter_enum hE ⟨_, _, _, _, H1, rfl, I1.kept (t' := s1.toks) hk, turn_enT a _ _, ⟨⟨.none, hE⟩, hI, Nat.succ_ne_self _, Nat.ne_of_lt lt, Nat.ne_of_lt (Nat.lt_succ_of_lt lt)⟩, two, q⟩
section
variable {P : Program} {w : World} {A : Around} {E : Value → Shared → Prop} {s : Shared}
abbrev emptySet (w : World) : Obj := { cls := .type "set", dict := none, data := .set #[] 0 (.fresh 0 0 (!w.params.followText "set-order")) }
set_option maxRecDepth 100000 in
/-- set(t), t a tuple of tuples of ints -/
theorem set_of_tup {l : Addr} {its : Array Value} (ks : List (Addr × List Int)) {Q : Value → Shared → Prop} (noH : A.handled = none) (isT : s.heap.IsTuple l its) (eit : its.toList = ks.map fun p => Value.ref p.1) (hk : ∀ p ∈ ks, IsT P w s.heap p.2 p.1)
    (few : ks.length < 64) (un : A.units + 3 < cLine)
    (fin : ∀ (h' : Heap) (tk : Nat) L es ep t, SetTR P w h' s.heap.objs.size L es ep t → Got ks ks.length L → (∀ b o, s.heap.get? b = some o → h'.get? b = some o) → Q (.ref s.heap.objs.size) { s with heap := h', toks := tk }) :
    wpAny (model P w) A (call (.type "set") [.ref l]) Q E s := by
  have nks : its.size = ks.length := by
    rw [← Array.length_toList, eit, List.length_map]
  obtain ⟨c0, tl0, mro0⟩ := F.called_set.mro
  have made0 := F.called_set.made
  have sub0 := F.called_set.sub
  refine wpAny_call (codeAny_of_tree ?_)
  show wpAny _ _ (callAny (.type "set") _) _ _ _
  refine wpAny_pure ⟨Code.quiet_builtin _ (by decide +kernel), codeAny_builtin F.entry_type_call ?_⟩
  rw [Around.under_plain (weight_type_call_type "set" [.ref l] []) rfl]
  have nt0 := F.called_set.notType
  have cc0 := F.called_set.canCreate
  have tc0 := F.typeCall_set_1 (.ref l)
  repeat (any_goals (first | assumption | wp_step))
  refine codeAny_mono (code_set_led1 (.ref l) (E := E) (Q₁ := fun ob sh => ob = .ref s.heap.objs.size ∧ sh = { s with heap := s.heap.push (emptySet w) }) ⟨rfl, rfl⟩) fun res sh hres => ?_
  cases res with
  | error _ => exact hres
  | ok flow =>
    cases flow with
    | ret ob =>
      obtain ⟨rfl, rfl⟩ := hres
      have atS : (s.heap.push (emptySet w)).get? s.heap.objs.size = some (emptySet w) := Heap.get?_push_size _ rfl
      have tyS : Shared.TypeIs { s with heap := s.heap.push (emptySet w) } (.ref s.heap.objs.size) "set" := ⟨_, atS, rfl⟩
      have li0 := F.called_set.init.lookup
      have bi0 := F.called_set.init.bind (.ref s.heap.objs.size)
      repeat (any_goals (first | assumption | wp_step))
      refine codeAny_mono (codeAny_call_builtin (R := wants (fun r2 sh2 => r2 = .none ∧ ∃ h' tk L es ep t, sh2 = { s with heap := h', toks := tk } ∧ SetTR P w h' s.heap.objs.size L es ep t ∧ Got ks ks.length L ∧ (∀ b o, s.heap.get? b = some o → h'.get? b = some o)) E)
        F.called_set.init.plain F.entry_set_init (check_set_init_1 tyS ?_)) fun res2 sh2 hres2 => ?_
      · obtain ⟨⟨cls_, dict_, data_, slots_⟩, hol, hcl, nl, hdl⟩ := isT
        simp only at hcl hdl
        subst hcl hdl
        have hol2 : (s.heap.push (emptySet w)).get? l = some { cls := .type "tuple", dict := dict_, data := .seq its nl, slots := slots_ } := Heap.get?_push_of_some _ hol
        have sub1 := F.sub_tuple_set
        have sub2 := F.sub_tuple_frozenset
        have nd : (Value.type "tuple" == Value.type "dict") = false := by decide
        have isT2 : (s.heap.push (emptySet w)).IsTuple l its := ⟨_, hol2, rfl, nl, rfl⟩
        unfold Builtin.«set.__init__» noKeywords Builtin.Frozenset.updateFrom
        generalize gI : pyIter = IT0
        wp_walk
        subst gI
        refine wpAny_pyIter_tuple isT2 (wpAny_bind (wpAny_runValue ?_))
        have ltl : l < s.heap.objs.size := Heap.lt_size hol
        have noH3 : A.in1.in1.in1.handled = none := by simp [noH]
        have sz1 : (s.heap.push (emptySet w)).objs.size = s.heap.objs.size + 1 := Heap.size_push ..
        have ne1 : l ≠ (s.heap.push (emptySet w)).objs.size := by
          rw [sz1]
          exact Nat.ne_of_lt (Nat.lt_succ_of_lt ltl)
        have ni : s.heap.objs.size ∉ [(s.heap.push (emptySet w)).objs.size, l] := by
          rw [sz1]
          intro z
          rcases List.mem_cons.mp z with z | z
          · exact absurd z (Nat.ne_of_lt (Nat.lt_succ_self _))
          · exact absurd (List.mem_singleton.mp z) (Nat.ne_of_gt ltl)
        have vals : ∀ (i : Nat) (v : Value), its[i]? = some v → ∃ p, ks[i]? = some p ∧ v = .ref p.1 := fun i v hv => by
          rw [← Array.getElem?_toList, eit, List.getElem?_map] at hv
          obtain ⟨p, h1, h2⟩ := Option.map_eq_some_iff.mp hv
          exact ⟨p, h1, h2.symm⟩
        have noneAt : ∀ b, s.heap.objs.size ≤ b → s.heap.get? b = none := fun b hb => by
          cases q : s.heap.get? b with
          | none => rfl
          | some o => exact absurd (Heap.lt_size q) (Nat.not_lt.mpr hb)
        refine set_update_tups ((Walks.tuple noH3 _ l ne1 its).toS) s.heap.objs.size ni ks nks few vals s.heap hk (noneAt _ (Nat.le_refl _)) (fun b hb => noneAt b ?_) un (its.size - 0) 0 _ (Nat.sub_zero _ ▸ rfl) (Nat.zero_le _)
          ⟨⟨_, Heap.get?_push_size _ rfl, rfl, rfl⟩, isT2.push _⟩ (fun b o q => Heap.get?_push_of_some _ (Heap.get?_push_of_some _ q)) ⟨[], #[], 0, _, setTR_fresh (Heap.get?_push_of_some _ atS), Got.zero ks⟩ ?_
        · rw [List.mem_singleton.mp hb, sz1]
          exact Nat.le_succ _
        · intro s2 L es ep t mv R g kp
          obtain ⟨h2, g2, d2, t2, o2⟩ := s2
          have q1 : g2 = s.gens := mv.gens
          have q2 : d2 = s.drawn := mv.drawn
          have q3 : o2 = s.os := mv.os
          subst q1 q2 q3
          show wpAny _ _ _ _ _ _
          refine wpAny_pure ?_
          show wpAny _ _ (ret Value.none) _ _ _
          rw [nks] at g
          exact wpAny_pure ⟨rfl, h2, t2, L, es, ep, t, rfl, R, g, kp⟩
      · cases res2 with
        | error _ => exact hres2
        | ok flow2 =>
          cases flow2 with
          | ret r2 =>
            obtain ⟨rfl, h', tk, L, es, ep, t, rfl, R, g, kp⟩ := hres2
            repeat (any_goals (first | assumption | wp_step))
            exact fin _ _ _ _ _ _ R g kp
          | _ => exact hres2.elim
    | _ => exact hres.elim
end
section
variable {X : Cx}
def rSetTT (K : PySem.W.Frag) (P : Program) (w : World) : List V → Hp → VK → Prop := fun xs H Q => ∃ (l : Addr) (ks : List (Addr × List Int)), xs = [V.ref l] ∧ SqT K H l (ks.map fun p => V.ref p.1) ∧ (∀ p ∈ ks, SqT K H p.1 (p.2.map V.int)) ∧ ks.length < 64 ∧
  ∀ a L, H a = none → (∀ p ∈ L, p ∈ ks) → (∀ p ∈ ks, p.2 ∈ L.map (·.2)) → (L.map (·.2)).Nodup → Q (.ref a) (upd H a (SetTO P w a L))
theorem cr_setTT (hc : X.calm = true) (hu : X.A.units + 64 < cLine) : CallR X (.type "set") (rSetTT X.K X.prog X.w) := by
  intro pins s σ H xs us Q I r h
  obtain ⟨l, ks, rfl, hl, hk, hf, q⟩ := h
  rw [Vals.ref1 r]
  obtain ⟨its, rv, pl, _⟩ := I.tuple hl
  refine set_of_tup (P := X.prog) (w := X.w) ks (I.ok.hd hc) (show s.heap.IsTuple l its.toArray from pl) (by simpa using refs_of_vals rv) (fun p hp => I.isT (hk p hp)) hf (by omega) fun h' tk L es ep t R g k => ?_
  have hn : H s.heap.objs.size = none := I.hok.fresh (Nat.le_refl _)
  exact ⟨.ref s.heap.objs.size, _, I.laid (t' := tk) k (Nat.le_refl _) (setTO_new R.t0), rfl, q _ L hn (fun p hp => List.mem_of_mem_take (g.sub p hp)) (fun p hp => g.all p (by rw [List.take_length]; exact hp)) R.nd⟩
end
end Ev

/-! Ev, part W3: dict(zip(a, b)). -/
namespace Ev
open PySem L2 RZ PyProof.Rows PySem.Spec
def tDZip (K : PySem.W.Frag) (ta : TA) : TE := fun σ H Q => ta σ H fun vs H1 => ∃ (l1 l2 : Addr) (ks : List Int) (ys : List V), vs = [.ref l1, .ref l2] ∧ SqL K H1 l1 (ks.map V.int) ∧ SqL K H1 l2 ys ∧
  ∀ p, H1 p = none → Q (.ref p) (upd H1 p (.dK (mergeK [] ((ks.zip ys).map fun q => (Sum.inl q.1, q.2)))))
theorem zip_kv {K : PySem.W.Frag} : ∀ {ks : List Int} {us : List Value} {ys : List V} {ws : List Value}, Vals (ks.map V.int) us → Vals ys ws → KV ((ks.zip ys).map fun q => ((Sum.inl q.1 : Key), q.2)) ((ks.zip ws).map fun q => ((Sum.inl q.1 : Key), q.2))
  | [], _, _, _, _, _ => by simp only [List.zip_nil_left, List.map_nil]; exact .nil
  | k :: ks, _, [], _, _, .nil => by simp only [List.zip_nil_right, List.map_nil]; exact .nil
  | k :: ks, _, y :: ys, _, .cons _ r, .cons h t => .cons ⟨rfl, h⟩ (zip_kv (K := K) r t)
theorem vals_back : ∀ {xs : List V} {us : List Value} {i : Nat} {u : Value}, Vals xs us → us[i]? = some u → ∃ x, xs[i]? = some x ∧ RelV x u
  | _, _, _, _, .nil, e => by simp at e
  | _, _, 0, _, .cons h _, e => by simp at e; subst e; exact ⟨_, rfl, h⟩
  | _, _, i + 1, _, .cons _ t, e => by
    obtain ⟨x, h1, h2⟩ := vals_back (i := i) t (by simpa using e)
    exact ⟨x, by simpa using h1, h2⟩
theorem pe_dzip {X : Cx} {a b : Expr} {ta : TA} {p p2 q pos : Pos} (hc : X.calm = true) (hg : Gl X "dict") (hm : X.mg "dict" = none) (hg2 : Gl X "zip") (hm2 : X.mg "zip" = none) (ha : PA X [a, b] ta)
    (hs : starEach [a, b] X.env = (false, eval a X.env) :: starEach [b] X.env) (hpl : (backTo q (starEach [b] X.env)).any (·.1) = false) :
    PE X (.Call (.Name "dict" p) [.Call (.Name "zip" p2) [a, b] [] q] [] pos) (tDZip X.K ta) := by
  refine ⟨fun pins s σ H Q I h => Call_ (ld_blt I hg hm (show bootBuiltins "dict" = some (.type "dict") by decide +kernel) ?_)⟩
  refine callWith_type1 (args_cons ?_ rfl) rfl rfl
  refine Call_ (ld_blt I hg2 hm2 PyProof.Rows.boot_zip ?_)
  refine callWith_type1 (thn (ha.run q pins s σ H _ I h) fun us s1 ⟨vs, H1, I1, r1, q1⟩ => ?_) hs hpl
  obtain ⟨l1, l2, ks, ys, rfl, h1, h2, q1⟩ := q1
  cases r1 with
  | cons r rr =>
    cases rr with
    | cons r' rr =>
      cases rr
      cases r
      cases r'
      obtain ⟨its, rv, p1, z1⟩ := I1.list h1
      obtain ⟨jts, rw', p2', z2⟩ := I1.list h2
      refine call_zip_2 p1.isList p2'.isList fun h' hz hTI hTO hi1 hi2 hsz hk => args_nil ?_
      have hn : H1 (s1.heap.objs.size + 5) = none := I1.hok.fresh (Nat.le_add_right _ _)
      refine PySem.call_dict_pairs (prog := X.prog) (w := X.w) (A := X.A) (s := { s1 with heap := h' }) (knd := mixKind X.prog X.w) (kvs := (ks.zip jts).map fun q => ((Sum.inl q.1 : Key), q.2))
        (PairArg.zip (s1.heap.objs.size + 4) (s1.heap.objs.size + 2) (s1.heap.objs.size + 3) s1.heap.objs.size (s1.heap.objs.size + 1) l1 l2 (PySem.W.ktu_apart s1.heap.objs.size l1 l2 p1.lt p2'.lt) its.toArray jts.toArray) (I1.ok.hd hc)
        ⟨hz, hTI, ⟨_, _, hTO⟩, hi1, hi2, p1.isList.at (fun o e => hk _ o e), p2'.isList.at (fun o e => hk _ o e)⟩ ⟨?_, fun i key v ⟨e1, e2⟩ => ?_⟩ ?_ fun h2 tk hd k2 => ?_
      · rw [List.length_map, List.length_zip, List.size_toArray, List.size_toArray]
        have := rv.length
        rw [List.length_map] at this
        rw [this]
      · have hks : ∀ {ks : List Int} {its : List Value}, Vals (ks.map V.int) its → its[i]? = some key → ∃ n, ks[i]? = some n ∧ (mixKind X.prog X.w).is (Sum.inl n) key = true := fun {ks its} rv e => by
          obtain ⟨n, hn, rn⟩ := vals_back rv e
          rw [List.getElem?_map, Option.map_eq_some_iff] at hn
          obtain ⟨m, hm, rfl⟩ := hn
          exact ⟨m, hm, kV_is (k := Sum.inl m) rn⟩
        obtain ⟨n, g1, g2⟩ := hks rv (by simpa using e1)
        refine ⟨Sum.inl n, ?_, g2⟩
        rw [List.getElem?_map, show (ks.zip jts)[i]? = some (n, v) from List.getElem?_zip_eq_some.mpr ⟨g1, by simpa using e2⟩]
        rfl
      · rw [List.size_toArray, List.size_toArray]
        have := rw'.length
        omega
      · have hsz' : ({ s1 with heap := h' } : Shared).heap.objs.size = s1.heap.objs.size + 5 := hsz
        rw [hsz'] at hd ⊢
        have kv := zip_kv (K := X.K) rv rw'
        have big : ((s1.heap.objs.size + 5 : Addr) == sysModules) = false := beq_eq_false_iff_ne.mpr (Nat.ne_of_gt (Nat.lt_of_lt_of_le I1.big (Nat.le_add_right _ _)))
        have len : (mergeK [] ((ks.zip ys).map fun q => ((Sum.inl q.1 : Key), q.2))).length ≤ sizeLine := by
          refine Nat.le_trans (length_mergeK _ []) ?_
          rw [List.length_nil, Nat.zero_add, List.length_map, List.length_zip]
          omega
        refine ⟨.ref _, upd H1 (s1.heap.objs.size + 5) _, I1.laid (t' := tk) (fun b o e => ?_) (Nat.le_add_right _ _) (show ObjOk X.prog X.w _ _ _ (.dK (mergeK [] ((ks.zip ys).map fun q => ((Sum.inl q.1 : Key), q.2)))) from ⟨len, big, merged [] ((ks.zip jts).map fun q => ((Sum.inl q.1 : Key), q.2)), KV.merge kv .nil, hd⟩), rfl, q1 _ hn⟩
        have lt := Heap.lt_size e
        refine k2 b o (fun hb => ?_) (hk b o e)
        have hb' : b = s1.heap.objs.size + 4 ∨ b = s1.heap.objs.size + 3 ∨ b = s1.heap.objs.size ∨ b = s1.heap.objs.size + 1 := by simpa using hb
        rcases hb' with z | z | z | z
        · rw [z] at lt; exact absurd lt (Nat.not_lt.mpr (Nat.le_add_right _ _))
        · rw [z] at lt; exact absurd lt (Nat.not_lt.mpr (Nat.le_add_right _ _))
        · rw [z] at lt; exact absurd lt (Nat.lt_irrefl _)
        · rw [z] at lt; exact absurd lt (Nat.not_lt.mpr (Nat.le_add_right _ _))
end Ev

/-! Ev, part Zt: tuple(zip(t, l)), t a tuple, l a list. -/
namespace ZT
open PySem PySem.Spec PyProof.Rows
open Sem (wp)
section
variable {prog : Program} {w : World} {A : Around} {E : Value → Shared → Prop} {s : Shared} {z TI TO T i1 i2 : Addr} {fp1 fp2 : List Addr} {n1 n2 i : Nat} {P1 P2 : Nat → Value → Prop} {St1 St2 : Nat → Heap → Prop} {f : Bool} {oT : Obj}
/-- the next pair, the last one being held elsewhere -/
theorem next_item {Q : Value → Shared → Prop} (S : ZipSep2 z TI TO i1 i2 fp1 fp2) (D1 : Draws prog w A i1 fp1 n1 P1 St1) (D2 : Draws prog w A i2 fp2 n2 P2 St2)
    (hz : IsZipHeld s.heap z TI TO T f) (hT : s.heap.get? T = some oT) (hTI : IsTupOf2 s.heap TI (.ref i1) (.ref i2)) (st1 : St1 i s.heap) (st2 : St2 i s.heap) (hlt1 : i < n1) (hlt2 : i < n2)
    (hQ : ∀ x1 x2 h' tk, P1 i x1 → P2 i x2 → IsZipHeld h' z TI TO T true → St1 (i + 1) h' → St2 (i + 1) h' → IsTupOf2 h' s.heap.objs.size x1 x2 → h'.objs.size = s.heap.objs.size + 1 →
      (∀ c o, c ≠ z → c ≠ i1 → c ≠ i2 → s.heap.get? c = some o → h'.get? c = some o) → Q (.ref s.heap.objs.size) { s with heap := h', toks := tk }) :
    wpAny (model prog w) A (Builtin.«zip.__next__» ⟨[.ref z], []⟩) (fun fin s' => ∃ v, fin = .done (.ret v) ∧ Q v s') E s := by
  obtain ⟨hp, g, d, tk0, os⟩ := s
  show wpAny _ _ (field (.ref z) 2 >>= _) _ _ _
  refine wpAny_bind (wpAny_field hz rfl (x := .bool false) rfl ?_)
  show wpAny _ _ (field (.ref z) 3 >>= _) _ _ _
  refine wpAny_bind (wpAny_field hz rfl (x := .ref TI) rfl ?_)
  refine wpAny_bind (wpAny_seqItems hTI rfl ?_)
  show wpAny _ _ (Builtin.SmallTypes.ownedTupleIsFree (.ref z) >>= _) _ _ _
  refine wpAny_bind (wpAny_tupleHeld_zip hz hT fun h₁ hz₁ hs₁ => ?_)
  replace hs₁ : Heap.SameBut z hp h₁ := hs₁
  simp only [Bool.false_eq_true, if_false]
  refine wpAny_bind ?_
  rw [← Array.forIn_toList]
  simp only [List.forIn_cons, List.forIn_nil]
  refine wpAny_bind (wpAny_bind (wpAny_holding ?_))
  show wpAny _ _ (Builtin.SmallTypes.nextOf (.ref i1) >>= _) _ _ _
  refine wpAny_bind (D1.item i ⟨h₁, g, d, tk0, os⟩ _ _ hlt1 (D1.over st1 hs₁ S.zf1) fun x1 p1 tk1 hx1 sn1 hp1 => wpAny_pure ?_)
  replace hp1 : Heap.SameBut i1 h₁ p1 := hp1
  refine wpAny_pure ?_
  refine wpAny_bind (wpAny_bind (wpAny_holding ?_))
  show wpAny _ _ (Builtin.SmallTypes.nextOf (.ref i2) >>= _) _ _ _
  refine wpAny_bind (D2.item i ⟨p1, g, d, tk1, os⟩ _ _ hlt2 (D2.over (D2.over st2 hs₁ S.zf2) hp1 S.sep1_2) fun x2 p2 tk2 hx2 sn2 hp2 => wpAny_pure ?_)
  replace hp2 : Heap.SameBut i2 p1 p2 := hp2
  refine wpAny_pure (wpAny_pure ?_)
  show wpAny _ _ (newTuple [x1, x2] >>= _) _ _ _
  refine wpAny_bind (wpAny_newTuple ?_)
  have hsz : p2.objs.size = hp.objs.size := by rw [hp2.1, hp1.1, hs₁.1]
  have hz₃ : IsZipHeld p2 z TI TO T true := hp2.extBut _ _ S.zi2 (hp1.extBut _ _ S.zi1 hz₁)
  have hk : ∀ c o, c ≠ z → c ≠ i1 → c ≠ i2 → hp.get? c = some o → p2.get? c = some o := fun c o c1 c2 c3 e => hp2.extBut _ _ c3 (hp1.extBut _ _ c2 (hs₁.extBut _ _ c1 e))
  have j1 : St1 (i + 1) p2 := D1.over sn1 hp2 S.sep2_1
  refine wpAny_pure ⟨_, rfl, ?_⟩
  show Q (.ref p2.objs.size) _
  have hp' : IsTupOf2 (p2.push { cls := .type "tuple", data := .seq #[x1, x2] }) p2.objs.size x1 x2 := Heap.get?_push_size _ rfl
  have hz4 : (p2.push { cls := .type "tuple", data := .seq #[x1, x2] }).objs.size = p2.objs.size + 1 := Heap.size_push ..
  have fr : ∀ b o, p2.get? b = some o → (p2.push { cls := .type "tuple", data := .seq #[x1, x2] }).get? b = some o := fun b o e => Heap.get?_push_of_some _ e
  rw [hsz] at hp' hz4 ⊢
  exact hQ x1 x2 _ tk2 hx1 hx2 (fr _ _ hz₃) (D1.frame _ _ _ j1 fun b _ o e => fr b o e) (D2.frame _ _ _ sn2 fun b _ o e => fr b o e) hp' hz4 fun c o c1 c2 c3 e => fr c o (hk c o c1 c2 c3 e)
theorem next_end {Q : Fin → Shared → Prop} (S : ZipSep2 z TI TO i1 i2 fp1 fp2) (D1 : Draws prog w A i1 fp1 n1 P1 St1) (hz : IsZipHeld s.heap z TI TO T f) (hT : s.heap.get? T = some oT) (hTI : IsTupOf2 s.heap TI (.ref i1) (.ref i2)) (st1 : St1 n1 s.heap)
    (hE : ∀ h' e, (∀ c o, c ≠ z → c ≠ i1 → s.heap.get? c = some o → h'.get? c = some o) → (∃ o, h'.get? e = some o ∧ o.cls = .type "StopIteration") → E (.ref e) { s with heap := h' }) :
    wpAny (model prog w) A (Builtin.«zip.__next__» ⟨[.ref z], []⟩) Q E s := by
  obtain ⟨hp, g, d, tk0, os⟩ := s
  show wpAny _ _ (field (.ref z) 2 >>= _) _ _ _
  refine wpAny_bind (wpAny_field hz rfl (x := .bool false) rfl ?_)
  show wpAny _ _ (field (.ref z) 3 >>= _) _ _ _
  refine wpAny_bind (wpAny_field hz rfl (x := .ref TI) rfl ?_)
  refine wpAny_bind (wpAny_seqItems hTI rfl ?_)
  show wpAny _ _ (Builtin.SmallTypes.ownedTupleIsFree (.ref z) >>= _) _ _ _
  refine wpAny_bind (wpAny_tupleHeld_zip hz hT fun h₁ hz₁ hs₁ => ?_)
  replace hs₁ : Heap.SameBut z hp h₁ := hs₁
  simp only [Bool.false_eq_true, if_false]
  refine wpAny_bind ?_
  rw [← Array.forIn_toList]
  simp only [List.forIn_cons, List.forIn_nil]
  refine wpAny_bind (wpAny_bind (wpAny_holding ?_))
  show wpAny _ _ (Builtin.SmallTypes.nextOf (.ref i1) >>= _) _ _ _
  refine wpAny_bind (D1.done ⟨h₁, g, d, tk0, os⟩ _ _ (D1.over st1 hs₁ S.zf1) fun q e hq he => ?_)
  replace hq : Heap.ExtBut i1 h₁ q := hq
  exact hE q e (fun c o c1 c2 x => hq _ _ c2 (hs₁.extBut _ _ c1 x)) he
theorem py_item {Q : Option Value → Shared → Prop} (S : ZipSep2 z TI TO i1 i2 fp1 fp2) (D1 : Draws prog w A.in1 i1 fp1 n1 P1 St1) (D2 : Draws prog w A.in1 i2 fp2 n2 P2 St2)
    (hz : IsZipHeld s.heap z TI TO T f) (hT : s.heap.get? T = some oT) (hTI : IsTupOf2 s.heap TI (.ref i1) (.ref i2)) (st1 : St1 i s.heap) (st2 : St2 i s.heap) (hlt1 : i < n1) (hlt2 : i < n2)
    (hQ : ∀ x1 x2 h' tk, P1 i x1 → P2 i x2 → IsZipHeld h' z TI TO T true → St1 (i + 1) h' → St2 (i + 1) h' → IsTupOf2 h' s.heap.objs.size x1 x2 → h'.objs.size = s.heap.objs.size + 1 →
      (∀ c o, c ≠ z → c ≠ i1 → c ≠ i2 → s.heap.get? c = some o → h'.get? c = some o) → Q (some (.ref s.heap.objs.size)) { s with heap := h', toks := tk }) :
    wpAny (model prog w) A (pyNext (.ref z)) Q E s := by
  have hTy : s.TypeIs (.ref z) "zip" := ⟨_, hz, rfl⟩
  unfold pyNext
  exact wpAny_bind (wpAny_attempt (wpAny_callSpecial?_slot (name := Str.ofString "__next__") hTy F.slot_zip_next
    (wpAny_call_entry F.slot_zip_next hTy F.entry_zip_next
      (next_item S D1 D2 hz hT hTI st1 st2 hlt1 hlt2 fun x1 x2 h' tk a b c d e f g k => wpAny_pure (hQ x1 x2 h' tk a b c d e f g k)) (F.args_zip_next_1 _))))
theorem py_end {Q : Option Value → Shared → Prop} (S : ZipSep2 z TI TO i1 i2 fp1 fp2) (D1 : Draws prog w A.in1 i1 fp1 n1 P1 St1) (hz : IsZipHeld s.heap z TI TO T f) (hT : s.heap.get? T = some oT) (hTI : IsTupOf2 s.heap TI (.ref i1) (.ref i2)) (st1 : St1 n1 s.heap)
    (hQ : ∀ h', (∀ c o, c ≠ z → c ≠ i1 → s.heap.get? c = some o → h'.get? c = some o) → Q none { s with heap := h' }) : wpAny (model prog w) A (pyNext (.ref z)) Q E s := by
  have hTy : s.TypeIs (.ref z) "zip" := ⟨_, hz, rfl⟩
  unfold pyNext
  refine wpAny_bind (wpAny_attempt (wpAny_callSpecial?_slot (name := Str.ofString "__next__") hTy F.slot_zip_next
    (wpAny_call_entry F.slot_zip_next hTy F.entry_zip_next (next_end S D1 hz hT hTI st1 fun h' e hk he => ?_) (F.args_zip_next_1 _))))
  obtain ⟨o, ho, hc⟩ := he
  refine wpAny_bind (wpAny_isInstance (T := "StopIteration") (b := true) ⟨o, ho, hc⟩ isSubtype_stop ?_)
  exact wpAny_pure (hQ _ hk)
end
def ZS (S z TI TO i1 i2 : Addr) (St1 St2 : Nat → Heap → Prop) (h : Heap) (i : Nat) : Prop :=
  IsTupOf2 h TI (.ref i1) (.ref i2) ∧ St1 i h ∧ St2 i h ∧ ((IsZip h z TI TO .none ∧ ∃ a1 a2, IsTupOf2 h TO a1 a2) ∨ ∃ T f oT, IsZipHeld h z TI TO T f ∧ h.get? T = some oT ∧ T ≠ z ∧ T ≠ i1 ∧ T ≠ i2 ∧ T ≠ S)
structure ZG (P1 P2 : Nat → Value → Prop) (lo : Addr) (h : Heap) (as : List Addr) : Prop where
  above : ∀ a ∈ as, lo < a
  nd : as.Nodup
  pairs : ∀ (j : Nat) (a : Addr), as[j]? = some a → ∃ x1 x2, P1 j x1 ∧ P2 j x2 ∧ IsTupOf2 h a x1 x2
structure ZL (S z TI TO i1 i2 : Addr) (fp1 fp2 : List Addr) : Prop where
  sep : ZipSep2 z TI TO i1 i2 fp1 fp2
  z : z < S
  TI : TI < S
  TO : TO < S
  f1 : ∀ b ∈ fp1, b < S
  f2 : ∀ b ∈ fp2, b < S
section
variable {S z TI TO i1 i2 : Addr} {fp1 fp2 : List Addr} {P1 P2 : Nat → Value → Prop} {St1 St2 : Nat → Heap → Prop} {n i : Nat}
theorem ZL.j1 (L : ZL S z TI TO i1 i2 fp1 fp2) : i1 < S := L.f1 _ L.sep.mem1
theorem ZL.j2 (L : ZL S z TI TO i1 i2 fp1 fp2) : i2 < S := L.f2 _ L.sep.mem2
variable {prog : Program} {w : World} {A : Around} {E : Value → Shared → Prop} {s : Shared}
theorem ZS.keep {h h' : Heap} (L : ZL S z TI TO i1 i2 fp1 fp2) (D1 : Draws prog w A i1 fp1 n P1 St1) (D2 : Draws prog w A i2 fp2 n P2 St2) (x : ZS S z TI TO i1 i2 St1 St2 h i) (hk : ∀ b o, b ≠ S → h.get? b = some o → h'.get? b = some o) : ZS S z TI TO i1 i2 St1 St2 h' i := by
  obtain ⟨a1, a2, a3, a4⟩ := x
  refine ⟨hk _ _ (Nat.ne_of_lt L.TI) a1, D1.frame _ _ _ a2 fun b hb o e => hk b o (Nat.ne_of_lt (L.f1 b hb)) e, D2.frame _ _ _ a3 fun b hb o e => hk b o (Nat.ne_of_lt (L.f2 b hb)) e, ?_⟩
  rcases a4 with ⟨b1, x1, x2, b2⟩ | ⟨T, f, oT, b1, b2, b3, b4, b5, b6⟩
  · exact .inl ⟨hk _ _ (Nat.ne_of_lt L.z) b1, x1, x2, hk _ _ (Nat.ne_of_lt L.TO) b2⟩
  · exact .inr ⟨T, f, oT, hk _ _ (Nat.ne_of_lt L.z) b1, hk _ _ b6 b2, b3, b4, b5, b6⟩
theorem z_item {Q : Option Value → Shared → Prop} (L : ZL S z TI TO i1 i2 fp1 fp2) (D1 : Draws prog w A.in1 i1 fp1 n P1 St1) (D2 : Draws prog w A.in1 i2 fp2 n P2 St2) (st : ZS S z TI TO i1 i2 St1 St2 s.heap i) (hS : S < s.heap.objs.size) (hi : i < n)
    (hQ : ∀ x1 x2 h' tk, P1 i x1 → P2 i x2 → ZS S z TI TO i1 i2 St1 St2 h' (i + 1) → IsTupOf2 h' s.heap.objs.size x1 x2 → h'.objs.size = s.heap.objs.size + 1 →
      (∀ c o, c ≠ z → c ≠ TO → c ≠ i1 → c ≠ i2 → s.heap.get? c = some o → h'.get? c = some o) → Q (some (.ref s.heap.objs.size)) { s with heap := h', toks := tk }) :
    wpAny (model prog w) A (pyNext (.ref z)) Q E s := by
  obtain ⟨a1, a2, a3, a4⟩ := st
  have ne : ∀ {c : Addr}, c < S → s.heap.objs.size ≠ c := fun h => Nat.ne_of_gt (Nat.lt_trans h hS)
  rcases a4 with ⟨b1, x1, x2, b2⟩ | ⟨T, f, oT, b1, b2, b3, b4, b5, b6⟩
  · exact wpAny_pyNext_zipD2_item L.sep D1 D2 b1 a1 b2 a2 a3 hi hi fun x1 x2 h' tk y1 y2 c1 c2 c3 c4 c5 c6 c7 =>
      hQ x1 x2 h' tk y1 y2 ⟨c7 _ _ L.sep.TIz L.sep.TITO L.sep.TIi1 L.sep.TIi2 a1, c3, c4, .inr ⟨_, false, _, c1, c5, ne L.z, ne L.j1, ne L.j2, Nat.ne_of_gt hS⟩⟩ c5 c6 c7
  · exact py_item L.sep D1 D2 b1 b2 a1 a2 a3 hi hi fun x1 x2 h' tk y1 y2 c1 c3 c4 c5 c6 c7 =>
      hQ x1 x2 h' tk y1 y2 ⟨c7 _ _ L.sep.TIz L.sep.TIi1 L.sep.TIi2 a1, c3, c4, .inr ⟨T, true, oT, c1, c7 _ _ b3 b4 b5 b2, b3, b4, b5, b6⟩⟩ c5 c6 fun c o q1 _ q3 q4 => c7 c o q1 q3 q4
theorem z_end {Q : Option Value → Shared → Prop} (L : ZL S z TI TO i1 i2 fp1 fp2) (D1 : Draws prog w A.in1 i1 fp1 n P1 St1) (D2 : Draws prog w A.in1 i2 fp2 n P2 St2) (st : ZS S z TI TO i1 i2 St1 St2 s.heap n)
    (hQ : ∀ h' tk, (∀ c o, c ≠ z → c ≠ TO → c ≠ i1 → c ≠ i2 → s.heap.get? c = some o → h'.get? c = some o) → Q none { s with heap := h', toks := tk }) :
    wpAny (model prog w) A (pyNext (.ref z)) Q E s := by
  obtain ⟨a1, a2, a3, a4⟩ := st
  rcases a4 with ⟨b1, x1, x2, b2⟩ | ⟨T, f, oT, b1, b2, b3, b4, b5, b6⟩
  · exact wpAny_pyNext_zipD2_end L.sep D1 D2 b1 a1 b2 a2 a3 (Nat.le_refl _) (Nat.le_refl _) (.inl rfl) hQ
  · exact py_end L.sep D1 b1 b2 a1 a2 fun h' hk => hQ h' s.toks fun c o q1 _ q3 _ => hk c o q1 q3
theorem z_loop {R : Result → Shared → Prop} (L : ZL S z TI TO i1 i2 fp1 fp2) (D1 : Draws prog w A.in1.in1 i1 fp1 n P1 St1) (D2 : Draws prog w A.in1.in1 i2 fp2 n P2 St2) (hn : n ≤ sizeLine) (res : Value) {h₁ : Heap}
    (hR : ∀ h' tk acc c as, (∀ b o, b ≠ S → b ≠ z → b ≠ TO → b ≠ i1 → b ≠ i2 → h₁.get? b = some o → h'.get? b = some o) → h'.get? S = some { cls := .type "list", dict := none, data := .seq acc c, slots := #[] } → as.length = n → ZG P1 P2 S h' as →
      acc.toList = as.map Value.ref → R (.ok (.ret res)) { s with heap := h', toks := tk }) :
    ∀ (k i : Nat) (h : Heap) (tk c : Nat) (acc : Array Value) (as : List Addr), n - i = k → i ≤ n → ZS S z TI TO i1 i2 St1 St2 h i → (∀ b o, b ≠ S → b ≠ z → b ≠ TO → b ≠ i1 → b ≠ i2 → h₁.get? b = some o → h.get? b = some o) →
      h.get? S = some { cls := .type "list", dict := none, data := .seq acc c, slots := #[] } → acc.toList = as.map Value.ref → as.length = i → ZG P1 P2 S h as →
      codeAny (model prog w) A (.builtin "list.extend.loop" ⟨[.ref S, .ref z, res], []⟩) R { s with heap := h, toks := tk } := by
  have off : ∀ {a : Addr}, S < a → a ≠ z ∧ a ≠ TO ∧ a ≠ i1 ∧ a ≠ i2 := fun h => ⟨Nat.ne_of_gt (Nat.lt_trans L.z h), Nat.ne_of_gt (Nat.lt_trans L.TO h), Nat.ne_of_gt (Nat.lt_trans L.j1 h), Nat.ne_of_gt (Nat.lt_trans L.j2 h)⟩
  intro k
  induction k with
  | zero =>
    intro i h tk c acc as hk hi hst hkeep hS hacc hal hG
    have hin : i = n := by omega
    subst hin
    refine codeAny_builtin PySem.F.entry_extend_loop ?_
    rw [Around.under_plainId PySem.F.plain_extend_loop _]
    show wpAny _ A.in1 (pyNext (.ref z) >>= _) _ _ _
    refine wpAny_bind (z_end (s := { s with heap := h, toks := tk }) (A := A.in1) L D1 D2 hst fun h' tk' he => ?_)
    refine wpAny_pure (hR h' tk' acc c as (fun b o e0 e1 e2 e3 e4 e => he b o e1 e2 e3 e4 (hkeep b o e0 e1 e2 e3 e4 e)) (he S _ (Nat.ne_of_gt L.z) (Nat.ne_of_gt L.TO) (Nat.ne_of_gt L.j1) (Nat.ne_of_gt L.j2) hS) hal ⟨hG.above, hG.nd, fun j a hj => ?_⟩ hacc)
    obtain ⟨x1, x2, e1, e2, e3⟩ := hG.pairs j a hj
    obtain ⟨o1, o2, o3, o4⟩ := off (hG.above a (List.mem_of_getElem? hj))
    exact ⟨x1, x2, e1, e2, he a _ o1 o2 o3 o4 e3⟩
  | succ k ih =>
    intro i h tk c acc as hk hi hst hkeep hS hacc hal hG
    have hlt : i < n := by omega
    have hsz : acc.size = i := by rw [← Array.length_toList, hacc, List.length_map, hal]
    have hSl : S < h.objs.size := Heap.lt_size hS
    refine codeAny_builtin PySem.F.entry_extend_loop ?_
    rw [Around.under_plainId PySem.F.plain_extend_loop _]
    show wpAny _ A.in1 (pyNext (.ref z) >>= _) _ _ _
    refine wpAny_bind (z_item (s := { s with heap := h, toks := tk }) (S := S) L D1 D2 hst hSl hlt fun x1 x2 h' tk' p1 p2 hst' ht hz hkp => ?_)
    dsimp only at ht hz hkp ⊢
    have hS' := hkp S _ (Nat.ne_of_gt L.z) (Nat.ne_of_gt L.TO) (Nat.ne_of_gt L.j1) (Nat.ne_of_gt L.j2) hS
    have up : ∀ b o, b ≠ S → h'.get? b = some o → (h'.update S (Obj.mapSeq (·.push (Value.ref h.objs.size)))).get? b = some o := fun b o hb e => (Heap.get?_update_other _ _ (Ne.symm hb)).trans e
    show wpAny _ A.in1 (updateSeq S (·.push (Value.ref h.objs.size)) >>= _) _ _ _
    refine wpAny_bind ?_
    refine wpAny_updateSeq hS' rfl (wpAny_pure ⟨plainId_quiet PySem.F.plain_extend_loop _, ih (i + 1) _ tk' _ (acc.push (Value.ref h.objs.size)) (as ++ [h.objs.size]) (by omega) hlt (hst'.keep L D1 D2 up)
      (fun b o e0 e1 e2 e3 e4 e => up b o e0 (hkp b o e1 e2 e3 e4 (hkeep b o e0 e1 e2 e3 e4 e))) (Heap.get?_update_self _ hS' rfl) (by rw [Array.toList_push, hacc, List.map_append]; rfl) (by rw [List.length_append, hal]; rfl) ⟨?_, ?_, ?_⟩⟩) (by rw [hsz]; omega) (by rw [Array.size_push, hsz]; omega)
    · intro a ha
      rcases List.mem_append.mp ha with ha | ha
      · exact hG.above a ha
      · rw [List.mem_singleton.mp ha]; exact hSl
    · refine List.nodup_append.mpr ⟨hG.nd, by simp, fun a ha b hb e => ?_⟩
      rw [List.mem_singleton.mp hb] at e
      subst e
      obtain ⟨j, hj⟩ := List.getElem?_of_mem ha
      obtain ⟨_, _, _, _, e3⟩ := hG.pairs j _ hj
      exact Nat.lt_irrefl _ (Heap.lt_size e3)
    · intro j b hj
      rcases Nat.lt_trichotomy j as.length with h1 | h1 | h1
      · rw [List.getElem?_append_left h1] at hj
        obtain ⟨y1, y2, e1, e2, e3⟩ := hG.pairs j b hj
        have hb := hG.above b (List.mem_of_getElem? hj)
        obtain ⟨o1, o2, o3, o4⟩ := off hb
        exact ⟨y1, y2, e1, e2, up b _ (Nat.ne_of_gt hb) (hkp b _ o1 o2 o3 o4 e3)⟩
      · subst h1
        have hb : h.objs.size = b := by simpa using hj
        subst hb
        exact ⟨x1, x2, by rw [hal]; exact p1, by rw [hal]; exact p2, up _ _ (Nat.ne_of_gt hSl) ht⟩
      · have hnone : (as ++ [h.objs.size])[j]? = none := List.getElem?_eq_none (by rw [List.length_append, List.length_singleton]; omega)
        rw [hnone] at hj; cases hj
end
theorem nolen_zip : typeLookup (.type "zip") "__len__" = pure none := by rw [typeLookup_type, builtinLookup_eq_fast]; kernel_rfl
theorem nohint_zip : typeLookup (.type "zip") "__length_hint__" = pure none := by rw [typeLookup_type, builtinLookup_eq_fast]; kernel_rfl
section
variable {z TI TO i1 i2 : Addr} {fp1 fp2 : List Addr} {P1 P2 : Nat → Value → Prop} {St1 St2 : Nat → Heap → Prop} {n : Nat}
variable {prog : Program} {w : World} {A : Around} {E : Value → Shared → Prop} {s : Shared}
theorem z_collect {Q : List Value → Shared → Prop} (L : ZL s.heap.objs.size z TI TO i1 i2 fp1 fp2) (D1 : Draws prog w A.in1.in1 i1 fp1 n P1 St1) (D2 : Draws prog w A.in1.in1 i2 fp2 n P2 St2) (hn : n ≤ sizeLine)
    (hz : IsZip s.heap z TI TO .none) (hTI : IsTupOf2 s.heap TI (.ref i1) (.ref i2)) (hTO : ∃ a1 a2, IsTupOf2 s.heap TO a1 a2) (st1 : St1 0 s.heap) (st2 : St2 0 s.heap)
    (hQ : ∀ (h' : Heap) (tk : Nat) (as : List Addr), (∀ b o, b ≠ z → b ≠ TO → b ≠ i1 → b ≠ i2 → s.heap.get? b = some o → h'.get? b = some o) → as.length = n → ZG P1 P2 s.heap.objs.size h' as → Q (as.map Value.ref) { s with heap := h', toks := tk }) :
    wpAny (model prog w) A (collect (.ref z)) Q E s := by
  have hSz : s.heap.objs.size ≠ z := Nat.ne_of_gt L.z
  unfold collect
  refine wpAny_bind (wpAny_runValue (codeAny_builtin F.entry_proto_collect ?_))
  rw [Around.under_plainId F.plain_proto_collect _]
  show wpAny _ A.in1 (newList [] >>= fun l' => again (.builtin "list.__iadd__" ⟨[l', .ref z], []⟩)) _ _ s
  refine wpAny_bind (wpAny_newObj_type ?_)
  refine wpAny_pure ⟨plainId_quiet F.plain_list_iadd _, codeAny_builtin F.entry_list_iadd ?_⟩
  rw [Around.under_plainId F.plain_list_iadd _]
  have hS₁ : (s.heap.push { cls := .type "list", data := .seq ([] : List Value).toArray }).get? s.heap.objs.size = some { cls := .type "list", data := .seq ([] : List Value).toArray } := Heap.get?_push_size _ rfl
  have fr : ∀ b o, s.heap.get? b = some o → (s.heap.push { cls := .type "list", data := .seq ([] : List Value).toArray }).get? b = some o := fun b o e => Heap.get?_push_of_some _ e
  have st₁ : ZS s.heap.objs.size z TI TO i1 i2 St1 St2 (s.heap.push { cls := .type "list", data := .seq ([] : List Value).toArray }) 0 := by
    obtain ⟨a1, a2, hTO⟩ := hTO
    exact ⟨fr _ _ hTI, D1.frame _ _ _ st1 fun b _ o e => fr b o e, D2.frame _ _ _ st2 fun b _ o e => fr b o e, .inl ⟨fr _ _ hz, a1, a2, fr _ _ hTO⟩⟩
  have hT : ({ s with heap := s.heap.push { cls := .type "list", data := .seq ([] : List Value).toArray } } : Shared).TypeIs (.ref z) "zip" := ⟨_, fr _ _ hz, rfl⟩
  show wpAny _ A.in1 (Builtin.List.listExtendWith (.ref s.heap.objs.size) (.ref z) (.ref s.heap.objs.size)) _ _ _
  unfold Builtin.List.listExtendWith
  refine wpAny_bind (wpAny_typeOf hT ?_)
  have h1 : Builtin.List.listSameRef (.ref s.heap.objs.size) (.ref z) = false := by simp [Builtin.List.listSameRef, hSz]
  have h2 : (Value.type "zip" == Value.type "list") = false := by decide
  have h3 : (Value.type "zip" == Value.type "tuple") = false := by decide
  simp only [h1, h2, h3, Bool.or_false, Bool.false_eq_true, if_false]
  refine wpAny_bind (wpAny_pyIter_zip (s := { s with heap := s.heap.push { cls := .type "list", data := .seq ([] : List Value).toArray } }) (fr _ _ hz) ?_)
  refine wpAny_bind (wpAny_holding ?_)
  unfold Builtin.List.listLengthHint
  refine wpAny_bind (wpAny_specialOf hT nolen_zip ?_)
  show wpAny _ A.in1 (specialOf (Value.ref z) (Str.ofString "__length_hint__") >>= _) _ _ _
  refine wpAny_bind (wpAny_specialOf hT nohint_zip ?_)
  refine wpAny_pure ?_
  show wpAny _ A.in1 (rule "list.extend.makes-room" >>= fun _ => Builtin.List.listTouch (.ref s.heap.objs.size) >>= fun _ =>
    again (.builtin "list.extend.loop" ⟨[.ref s.heap.objs.size, .ref z, .ref s.heap.objs.size], []⟩)) _ _ _
  refine wpAny_bind (wpAny_rule ?_)
  refine wpAny_bind ?_
  show wpAny _ A.in1 (updateSeq s.heap.objs.size (·.push .none) >>= fun _ => updateSeq s.heap.objs.size (·.pop)) _ _ _
  refine wpAny_bind (wpAny_updateSeq hS₁ rfl ?_)
  have hS₂ := Heap.get?_update_self (Obj.mapSeq (·.push Value.none)) hS₁ rfl
  refine wpAny_updateSeq hS₂ rfl ?_
  have hS₃ := Heap.get?_update_self (Obj.mapSeq (·.pop)) hS₂ rfl
  have oth : ∀ b o, b ≠ s.heap.objs.size → (s.heap.push { cls := .type "list", data := .seq ([] : List Value).toArray }).get? b = some o →
      (((s.heap.push { cls := .type "list", data := .seq ([] : List Value).toArray }).update s.heap.objs.size (Obj.mapSeq (·.push Value.none))).update s.heap.objs.size (Obj.mapSeq (·.pop))).get? b = some o :=
    fun b o hb e => (Heap.get?_update_other _ _ (Ne.symm hb)).trans ((Heap.get?_update_other _ _ (Ne.symm hb)).trans e)
  refine wpAny_pure ⟨plainId_quiet F.plain_extend_loop _, z_loop (A := A) (s := s) (h₁ := s.heap) L D1 D2 hn _ (fun h' tk acc c as hk hS' hl hG hacc => ?_) n 0 _ s.toks _ #[] [] (Nat.sub_zero _) (Nat.zero_le _) (st₁.keep L D1 D2 oth)
    (fun b o e0 _ _ _ _ e => oth b o e0 (fr b o e)) hS₃ rfl rfl ⟨(fun _ ha => nomatch ha), List.nodup_nil, (fun j a hj => by simp at hj)⟩⟩
  show wpAny _ A (load s.heap.objs.size >>= _) _ _ _
  refine wpAny_bind (wpAny_load hS' ?_)
  refine wpAny_pure ?_
  show Q acc.toList _
  rw [hacc]
  exact hQ h' tk as (fun b o e1 e2 e3 e4 e => hk b o (Nat.ne_of_lt (Heap.lt_size e)) e1 e2 e3 e4 e) hl hG
theorem code_tuple_zip {Q₁ : Value → Shared → Prop} (L : ZL s.heap.objs.size z TI TO i1 i2 fp1 fp2) (D1 : Draws prog w A.in1.in1.in1 i1 fp1 n P1 St1) (D2 : Draws prog w A.in1.in1.in1 i2 fp2 n P2 St2) (hn : n ≤ sizeLine)
    (hz : IsZip s.heap z TI TO .none) (hTI : IsTupOf2 s.heap TI (.ref i1) (.ref i2)) (hTO : ∃ a1 a2, IsTupOf2 s.heap TO a1 a2) (st1 : St1 0 s.heap) (st2 : St2 0 s.heap)
    (h : ∀ (h' : Heap) (tk : Nat) (as : List Addr), (∀ b o, b ≠ z → b ≠ TO → b ≠ i1 → b ≠ i2 → s.heap.get? b = some o → h'.get? b = some o) → as.length = n → ZG P1 P2 s.heap.objs.size h' as →
      Q₁ (.ref h'.objs.size) { s with heap := h'.push { cls := .type "tuple", data := .seq (as.map Value.ref).toArray }, toks := tk }) :
    codeAny (model prog w) A (.call (.builtin "tuple.__new__") ⟨[.type "tuple", .ref z], []⟩) (wants Q₁ E) s := by
  refine codeAny_of_tree ?_
  show wpAny _ A.in1 (do checkBuiltinCall "tuple.__new__" ⟨[.type "tuple", .ref z], []⟩; again (.builtin "tuple.__new__" ⟨[.type "tuple", .ref z], []⟩)) _ _ s
  refine wpAny_bind (wpAny_of_eq (F.newCall_tuple_1 _) (wpAny_pure ⟨plainId_quiet F.plain_tuple_new _, codeAny_builtin F.entry_tuple_new ?_⟩))
  rw [Around.under_plainId F.plain_tuple_new _]
  have hsub := sub_tuple_self
  have hinit := init_tuple_lookup
  have hmh := madeHere_tuple
  have hTI' : s.TypeIs (.ref z) "zip" := ⟨_, hz, rfl⟩
  wp_walk using wpAny_typeOf hTI', z_collect (A := A.in1) L D1 D2 hn hz hTI hTO st1 st2
  intro h' tk as hk hl hG
  show wpAny _ _ (Builtin.Tuple.tupleExact (as.map Value.ref).toArray >>= fun v => ret v) _ _ _
  unfold Builtin.Tuple.tupleExact
  refine wpAny_bind (wpAny_newObj_type ?_ (by show (as.map Value.ref).toArray.size ≤ sizeLine; rw [List.size_toArray, List.length_map, hl]; exact hn))
  exact wpAny_pure (h h' tk as hk hl hG)
theorem call_tuple_zip {Q : Value → Shared → Prop} (L : ZL s.heap.objs.size z TI TO i1 i2 fp1 fp2) (D1 : Draws prog w A.in1.in1.in1.in1 i1 fp1 n P1 St1) (D2 : Draws prog w A.in1.in1.in1.in1 i2 fp2 n P2 St2) (hn : n ≤ sizeLine)
    (hz : IsZip s.heap z TI TO .none) (hTI : IsTupOf2 s.heap TI (.ref i1) (.ref i2)) (hTO : ∃ a1 a2, IsTupOf2 s.heap TO a1 a2) (st1 : St1 0 s.heap) (st2 : St2 0 s.heap)
    (hQ : ∀ (h' : Heap) (tk : Nat) (as : List Addr), (∀ b o, b ≠ z → b ≠ TO → b ≠ i1 → b ≠ i2 → s.heap.get? b = some o → h'.get? b = some o) → as.length = n → ZG P1 P2 s.heap.objs.size h' as →
      Q (.ref h'.objs.size) { s with heap := h'.push { cls := .type "tuple", data := .seq (as.map Value.ref).toArray }, toks := tk }) :
    wpAny (model prog w) A (call (.type "tuple") [.ref z]) Q E s := by
  refine callType_codes (Q₁ := fun obj s₁ => s₁.TypeIs obj "tuple" ∧ Q obj s₁) F.called_tuple (F.typeCall_tuple_1 _) F.entry_object_init
    (code_tuple_zip (A := A.in1) L D1 D2 hn hz hTI hTO st1 st2 fun h' tk as hk hl hG => ⟨⟨_, Heap.get?_push_size _ rfl, rfl⟩, hQ h' tk as hk hl hG⟩) fun obj s₁ h₁ => ?_
  exact ⟨h₁.1, F.args_object_init_2 obj _, object_init_meets F.called_tuple.init.lookup F.called_tuple.made (by decide) prog w A.in1 _ s₁ ⟨h₁.1, rfl, h₁.2⟩⟩
end
/-! zip(t, l): t a tuple, l a list -/
abbrev zM1 (h : Heap) (l1 : Addr) : Heap := h.push { cls := .type "tuple_iterator", data := .fields #[.ref l1, .int 0 0] }
abbrev zM2 (h : Heap) (l1 l2 : Addr) : Heap := (zM1 h l1).push { cls := .type "list_iterator", data := .fields #[.ref l2, .int 0 0] }
abbrev zM3 (h : Heap) (l1 l2 : Addr) : Heap := (zM2 h l1 l2).push { cls := .type "tuple", data := .seq #[.ref h.objs.size, .ref (zM1 h l1).objs.size] }
abbrev zM4 (h : Heap) (l1 l2 : Addr) : Heap := (zM3 h l1 l2).push { cls := .type "tuple", data := .seq #[.none, .none] }
abbrev zM5 (h : Heap) (l1 l2 : Addr) : Heap := (zM4 h l1 l2).push { cls := .type "zip", data := .fields #[.none, .bool false, .bool false, .ref (zM2 h l1 l2).objs.size, .ref (zM3 h l1 l2).objs.size] }
theorem meets_zipM_new (l1 l2 : Addr) (xs ys : Array Value) :
    Meets (Builtin.«zip.__new__» ⟨[.type "zip", .ref l1, .ref l2], []⟩) (fun _ R s => s.heap.IsTuple l1 xs ∧ s.heap.IsList l2 ys ∧
      R (.ok (.ret (.ref (zM4 s.heap l1 l2).objs.size))) { s with heap := zM5 s.heap l1 l2 }) :=
  .of_wp fun prog w A R s h => by
    obtain ⟨hp, g, d, tk, os⟩ := s; obtain ⟨hl1, hl2, h⟩ := h
    have hsub := sub_zip
    have hL1 : Heap.IsTuple (Shared.heap ⟨hp, g, d, tk, os⟩) l1 xs := hl1
    have hL2 : Heap.IsList (Shared.heap ⟨hp.push { cls := .type "tuple_iterator", data := .fields #[.ref l1, .int 0 0] }, g, d, tk, os⟩) l2 ys := Heap.IsList.push hl2 _
    wp_walk using wpAny_pyIter_tuple hL1, wpAny_pyIter_list hL2
    exact ⟨_, rfl, h⟩
section
variable {prog : Program} {w : World} {A : Around} {E : Value → Shared → Prop} {s : Shared}
theorem call_zipM {l1 l2 : Addr} {xs ys : Array Value} {Q : Value → Shared → Prop} (hl1 : s.heap.IsTuple l1 xs) (hl2 : s.heap.IsList l2 ys)
    (h : ∀ h', IsZip h' (s.heap.objs.size + 4) (s.heap.objs.size + 2) (s.heap.objs.size + 3) .none → IsPair h' (s.heap.objs.size + 2) (.ref s.heap.objs.size) (.ref (s.heap.objs.size + 1)) →
      IsPair h' (s.heap.objs.size + 3) .none .none → h'.IsTupleIter s.heap.objs.size l1 0 → h'.IsListIter (s.heap.objs.size + 1) l2 0 → h'.objs.size = s.heap.objs.size + 5 →
      (∀ c o, s.heap.get? c = some o → h'.get? c = some o) → Q (.ref (s.heap.objs.size + 4)) { s with heap := h' }) :
    wpAny (model prog w) A (call (.type "zip") [.ref l1, .ref l2]) Q E s := by
  refine callType_new F.called_zip (by decide) (F.typeCall_zip_2 _ _) (F.newCall_zip_2 _ _) (fun obj => F.args_object_init_3 obj _ _) F.entry_zip_new
    (meets_zipM_new l1 l2 xs ys) ⟨hl1, hl2, ?_⟩
  have z1 : (zM1 s.heap l1).objs.size = s.heap.objs.size + 1 := Heap.size_push ..
  have z2 : (zM2 s.heap l1 l2).objs.size = s.heap.objs.size + 2 := by rw [Heap.size_push, z1]
  have z3 : (zM3 s.heap l1 l2).objs.size = s.heap.objs.size + 3 := by rw [Heap.size_push, z2]
  have z4 : (zM4 s.heap l1 l2).objs.size = s.heap.objs.size + 4 := by rw [Heap.size_push, z3]
  have z5 : (zM5 s.heap l1 l2).objs.size = s.heap.objs.size + 5 := by rw [Heap.size_push, z4]
  have g5 : (zM5 s.heap l1 l2).get? (zM4 s.heap l1 l2).objs.size = some _ := Heap.get?_push_size _ rfl
  have g4 : (zM5 s.heap l1 l2).get? (zM3 s.heap l1 l2).objs.size = some _ := Heap.get?_push_of_some _ (Heap.get?_push_size _ rfl)
  have g3 : (zM5 s.heap l1 l2).get? (zM2 s.heap l1 l2).objs.size = some _ := Heap.get?_push_of_some _ (Heap.get?_push_of_some _ (Heap.get?_push_size _ rfl))
  have g2 : (zM5 s.heap l1 l2).get? (zM1 s.heap l1).objs.size = some _ := Heap.get?_push_of_some _ (Heap.get?_push_of_some _ (Heap.get?_push_of_some _ (Heap.get?_push_size _ rfl)))
  have g1 : (zM5 s.heap l1 l2).get? s.heap.objs.size = some _ := Heap.get?_push_of_some _ (Heap.get?_push_of_some _ (Heap.get?_push_of_some _ (Heap.get?_push_of_some _ (Heap.get?_push_size _ rfl))))
  show _ ∧ _
  rw [z2, z3, z4] at g5
  rw [z1, z2] at g3
  rw [z3] at g4
  rw [z1] at g2
  rw [z4]
  exact ⟨⟨_, g5, rfl⟩, h _ g5 g3 g4 ⟨_, g1, rfl, rfl⟩ ⟨_, g2, rfl, rfl⟩ z5 fun c o x =>
    Heap.get?_push_of_some _ (Heap.get?_push_of_some _ (Heap.get?_push_of_some _ (Heap.get?_push_of_some _ (Heap.get?_push_of_some _ x))))⟩
end
end ZT

/-! Ev, part Zu: tuple(zip(t, l)) as a rule. -/
namespace Ev
open PySem L2 RZ ZT PyProof.Rows PySem.Spec
/-- the pairs of two lines, each a new tuple -/
def Pairs (H0 H : Hp) : List V → List V → List V → Prop
  | v :: vs, x :: xs, y :: ys => (∃ a, v = .ref a ∧ H a = some (.tup [x, y]) ∧ H0 a = none) ∧ Pairs H0 H vs xs ys
  | [], [], [] => True
  | _, _, _ => False
section
variable {fs ex : List Addr} {H H1 : Hp} {h h' : Heap} {a : Addr} {o : HO} {P : Program} {w : World}
theorem Un_more (u : Un fs ex H H1 h h') (hp : h.objs.size ≤ a) (n : H1 a = none) : Un fs ex H (upd H1 a o) h h' where
  keep := u.keep
  slot := u.slot
  free := fun b u' q n' hx => by rw [upd_ne (Nat.ne_of_lt (Nat.lt_of_lt_of_le (Heap.lt_size q) hp))]; exact u.free b u' q n' hx
  there := u.there
  tups := fun b xs q => by have q' := u.tups b xs q; rw [upd_ne (ne_of_none q' n)]; exact q'
  frzs := fun b u' xs q => by have q' := u.frzs b u' xs q; rw [upd_ne (ne_of_none q' n)]; exact q'
  tbls := fun b ps q => by obtain ⟨m, q'⟩ := u.tbls b ps q; exact ⟨m, by rw [upd_ne (ne_of_none q' n)]; exact q'⟩
theorem HOk_more (x : HOk P w H1 h') (n : H1 a = none) (new : ObjOk P w (upd H1 a o) h' a o) : HOk P w (upd H1 a o) h' := fun b u e => by
  by_cases hb : b = a
  · subst hb; rw [upd_same] at e; cases e; exact new
  · rw [upd_ne hb] at e
    exact (x b u e).stay (fun c v _ q => q) (fun c q => by rw [upd_ne (ne_of_none q n)]; exact q) fun c xs q => by rw [upd_ne (ne_of_none q n)]; exact q
theorem lay_pairs {H0 : Hp} : ∀ (as : List Addr) (xs ys : List V) (its jts : List Value) (H1 : Hp), Vals xs its → Vals ys jts → as.length = xs.length → xs.length = ys.length → as.Nodup → (∀ a ∈ as, h.objs.size ≤ a) → (∀ a ∈ as, H0 a = none) → (∀ a ∈ as, H1 a = none) →
    (∀ (j : Nat) (a : Addr), as[j]? = some a → ∃ u1 u2, its[j]? = some u1 ∧ jts[j]? = some u2 ∧ IsTupOf2 h' a u1 u2) → Un fs ex H H1 h h' → HOk P w H1 h' →
    ∃ H2, Un fs ex H H2 h h' ∧ HOk P w H2 h' ∧ Same H1 H2 ∧ Pairs H0 H2 (as.map V.ref) xs ys
  | [], [], [], its, jts, H1, rx, ry, e1, e2, nd, big, n0, n1, prs, u, hok => ⟨H1, u, hok, fun _ _ e => e, True.intro⟩
  | a :: as, x :: xs, y :: ys, its, jts, H1, rx, ry, e1, e2, nd, big, n0, n1, prs, u, hok => by
    cases rx with
    | cons rx rxs =>
      cases ry with
      | cons ry rys =>
        rename_i u1 us1 u2 us2
        obtain ⟨v1, v2, q1, q2, q3⟩ := prs 0 a rfl
        simp at q1 q2
        subst q1 q2
        obtain ⟨nd1, nd2⟩ := List.nodup_cons.mp nd
        have na := n1 a List.mem_cons_self
        have new : ObjOk P w (upd H1 a (.tup [x, y])) h' a (.tup [x, y]) := ⟨by show 2 ≤ sizeLine; decide, [u1, u2], .cons rx (.cons ry .nil), ⟨_, q3, rfl, _, rfl⟩⟩
        obtain ⟨H2, w1, w2, w3, w4⟩ := lay_pairs (H0 := H0) as xs ys us1 us2 (upd H1 a (.tup [x, y])) rxs rys (by simpa using e1) (by simpa using e2) nd2 (fun b hb => big b (List.mem_cons_of_mem _ hb)) (fun b hb => n0 b (List.mem_cons_of_mem _ hb))
          (fun b hb => by rw [upd_ne (fun e => nd1 (by rw [← e]; exact hb))]; exact n1 b (List.mem_cons_of_mem _ hb)) (fun j b hj => prs (j + 1) b (by simpa using hj)) (Un_more u (big a List.mem_cons_self) na) (HOk_more hok na new)
        exact ⟨H2, w1, w2, fun b o' e => w3 b o' (by rw [upd_ne (ne_of_none e na)]; exact e), ⟨a, rfl, w3 a _ upd_same, n0 a List.mem_cons_self⟩, w4⟩
  | [], _ :: _, _, _, _, _, _, _, e1, _, _, _, _, _, _, _, _ => by simp at e1
  | _ :: _, [], _, _, _, _, _, _, e1, _, _, _, _, _, _, _, _ => by simp at e1
  | _, [], _ :: _, _, _, _, _, _, _, e2, _, _, _, _, _, _, _ => by simp at e2
  | _, _ :: _, [], _, _, _, _, _, _, e2, _, _, _, _, _, _, _ => by simp at e2
end
def tTZip (K : PySem.W.Frag) (ta : TA) : TE := fun σ H Q => ta σ H fun vs H1 => ∃ (t l : Addr) (xs ys : List V), vs = [.ref t, .ref l] ∧ SqT K H1 t xs ∧ SqL K H1 l ys ∧ xs.length = ys.length ∧
  ∀ (H2 : Hp) (ps : List V) (p : Addr), Same H1 H2 → Pairs H1 H2 ps xs ys → H2 p = none → Q (.ref p) (upd H2 p (.tup ps))
theorem neA {a b : Nat} (h : a ≠ b) : @Ne Addr a b := h
theorem ninA {a b c : Nat} (h : a ≠ b) (h2 : a ≠ c) : ¬ @Membership.mem Addr (List Addr) _ [b, c] a := fun z => by
  rcases List.mem_cons.mp z with e | z
  · exact h e
  · exact h2 (List.mem_singleton.mp z)
theorem ltA {a b c : Nat} (h : a < c) (h2 : b < c) : ∀ x : Addr, x ∈ ([a, b] : List Addr) → @LT.lt Nat _ x c := fun x z => by
  rcases List.mem_cons.mp z with e | z
  · subst e; exact h
  · rw [List.mem_singleton.mp z]; exact h2
theorem zl_of (I l1 l2 sz : Nat) (h1 : l1 < I) (h2 : l2 < I) (hs : sz = I + 5) : ZL sz (I + 4) (I + 2) (I + 3) I (I + 1) [I, l1] [I + 1, l2] := by
  subst hs
  refine ⟨⟨neA (by omega), neA (by omega), neA (by omega), neA (by omega), List.mem_cons_self, ninA (by omega) (by omega), ninA (by omega) (by omega), neA (by omega), List.mem_cons_self, ninA (by omega) (by omega), ninA (by omega) (by omega), ninA (by omega) (by omega), ninA (by omega) (by omega)⟩, ?_, ?_, ?_, ltA (by omega) (by omega), ltA (by omega) (by omega)⟩
  · show I + 4 < I + 5
    omega
  · show I + 2 < I + 5
    omega
  · show I + 3 < I + 5
    omega
theorem pe_tTZip {X : Cx} {a b : Expr} {ta : TA} {p p2 q pos : Pos} (hc : X.calm = true) (hg : Gl X "tuple") (hm : X.mg "tuple" = none) (hg2 : Gl X "zip") (hm2 : X.mg "zip" = none) (ha : PA X [a, b] ta)
    (hs : starEach [a, b] X.env = (false, eval a X.env) :: starEach [b] X.env) (hpl : (backTo q (starEach [b] X.env)).any (·.1) = false) :
    PE X (.Call (.Name "tuple" p) [.Call (.Name "zip" p2) [a, b] [] q] [] pos) (tTZip X.K ta) := by
  refine ⟨fun pins s σ H Q I h => Call_ (ld_blt I hg hm PyProof.Rows.boot_tuple ?_)⟩
  refine callWith_type1 (args_cons ?_ rfl) rfl rfl
  refine Call_ (ld_blt I hg2 hm2 PyProof.Rows.boot_zip ?_)
  refine callWith_type1 (thn (ha.run q pins s σ H _ I h) fun us s1 ⟨vs, H1, I1, r1, q1⟩ => ?_) hs hpl
  obtain ⟨l1, l2, xs, ys, rfl, h1, h2, hl, q1⟩ := q1
  cases r1 with
  | cons r rr =>
    cases rr with
    | cons r' rr =>
      cases rr
      cases r
      cases r'
      obtain ⟨its, rv, p1, z1⟩ := I1.tuple h1
      obtain ⟨jts, rw', p2', z2⟩ := I1.list h2
      obtain ⟨o1, ho1, _⟩ := id p1
      have lt1 : l1 < s1.heap.objs.size := Heap.lt_size ho1
      have lt2 : l2 < s1.heap.objs.size := p2'.lt
      refine call_zipM (show s1.heap.IsTuple l1 its.toArray from p1) p2'.isList fun h' hz hTI hTO hi1 hi2 hsz hk => args_nil ?_
      have L := zl_of s1.heap.objs.size l1 l2 h'.objs.size lt1 lt2 hsz
      have hd := I1.ok.hd hc
      have el : its.toArray.size = jts.toArray.size := by
        rw [List.size_toArray, List.size_toArray, ← rv.length, ← rw'.length]
        exact hl
      have D2 := Draws.list (prog := X.prog) (w := X.w) (A := X.A.in1.in1.in1.in1) hd (s1.heap.objs.size + 1) l2 (Nat.ne_of_lt (Nat.lt_succ_of_lt lt2)) jts.toArray
      rw [← el] at D2
      refine call_tuple_zip (s := { s1 with heap := h' }) L (Draws.tuple (prog := X.prog) (w := X.w) (A := X.A.in1.in1.in1.in1) hd s1.heap.objs.size l1 (Nat.ne_of_lt lt1) its.toArray) D2 (by rw [List.size_toArray, ← rv.length]; exact z1) hz hTI ⟨_, _, hTO⟩ ⟨hi1, Heap.IsTuple.at p1 fun o e => hk _ o e⟩ ⟨hi2, p2'.isList.at fun o e => hk _ o e⟩ fun h2 tk as hk2 hla hG => ?_
      have hk' : ∀ b o, s1.heap.get? b = some o → h2.get? b = some o := fun b o e => by
        have lt := Heap.lt_size e
        exact hk2 b o (Nat.ne_of_lt (Nat.lt_add_right _ lt)) (Nat.ne_of_lt (Nat.lt_add_right _ lt)) (Nat.ne_of_lt lt) (Nat.ne_of_lt (Nat.lt_add_right _ lt)) (hk b o e)
      have big : ∀ a ∈ as, s1.heap.objs.size ≤ a := fun a ha => Nat.le_of_lt (Nat.lt_of_le_of_lt (show s1.heap.objs.size ≤ h'.objs.size by rw [hsz]; exact Nat.le_add_right _ _) (hG.above a ha))
      have no : ∀ a ∈ as, H1 a = none := fun a ha => I1.hok.fresh (big a ha)
      obtain ⟨H2, w1, w2, w3, w4⟩ := lay_pairs (H0 := H1) (fs := X.fs) (ex := []) (H := H1) (h := s1.heap) (h' := h2) as xs ys its jts H1 rv rw' (by rw [hla, List.size_toArray, ← rv.length]) hl hG.nd big no no (fun j a hj => by
        obtain ⟨x1, x2, e1, e2, e3⟩ := hG.pairs j a hj
        exact ⟨x1, x2, by simpa using e1, by simpa using e2, e3⟩) (Un.kept hk') (I1.hok.kept hk')
      have I2 : Inv X pins σ H2 { s1 with heap := h2, toks := tk } := I1.un w1 w2
      have hn := I2.hok.fresh (Nat.le_refl h2.objs.size)
      have J := I2.laid (a := h2.objs.size) (o := .tup (as.map V.ref)) (h' := h2.push { cls := .type "tuple", data := .seq (as.map Value.ref).toArray }) (t' := tk) (fun b u e => Heap.get?_push_of_some _ e) (Nat.le_refl _) (by
        refine ⟨by rw [List.length_map, hla, List.size_toArray, ← rv.length]; exact z1, as.map Value.ref, ?_, ⟨_, Heap.get?_push_size _ rfl, rfl, _, rfl⟩⟩
        clear hG big no w1 w2 w3 w4 hla
        induction as with
        | nil => exact .nil
        | cons a as ih => exact .cons rfl ih)
      exact ⟨.ref h2.objs.size, _, J, rfl, q1 H2 (as.map V.ref) h2.objs.size w3 w4 hn⟩
end Ev

namespace Ev
open PySem L2 PyProof.Rows
/-! min(t), t a tuple of ints -/
section
variable {prog : Program} {w : World} {A : Around} {E : Value → Shared → Prop} {s : Shared} {l : Addr} {its : List Value} {ns : List Int} {Q : Value → Shared → Prop}
theorem min_rawT (hh : A.handled = none) (hl : s.heap.IsTuple l its.toArray) (hi : IntsAre its ns) (hne : 0 < ns.length)
    (h : ∀ h' tk M t', (∀ b o, s.heap.get? b = some o → h'.get? b = some o) → M ∈ ns → (∀ a, a ∈ ns → M ≤ a) → Q (.int M t') { s with heap := h', toks := tk }) : wpAny (model prog w) A (call (.builtin "min") [.ref l]) Q E s := by
  obtain ⟨xs, e⟩ := hi.allInts.items
  have hn : numsOf (intItems xs).toList = ns := by rw [← e]; exact hi.numsOf
  rw [nums_intItems] at hn
  subst hn
  rw [e] at hl
  have hsz : 0 < xs.size := by simpa using hne
  have hz : (intItems xs).size = xs.size := by simp [intItems]
  refine call_min_walkH (PySem.W.iter_tupleW (A := A.in1) hh hl fun s₂ e W st hfp hw hk => ?_)
  refine ⟨_, _, _, _, _, _, _, s.heap, _, rfl, W, st, hfp, by omega, hw, hk, (fun i j vi vj s' Q E _ hi hj hq => CmpOf.ints_lt (numAt xs) (P := fun i v => (intItems xs)[i]? = some v) (fun _ _ => intItems_at) i j vi vj s' Q E hi hj hq), fun v s' hP m => ?_⟩
  obtain ⟨h', tk, rfl, hk'⟩ := PySem.W.moved_old e rfl m
  rw [hz] at hP
  obtain ⟨t, rfl⟩ := intItems_at hP
  obtain ⟨h1, h2⟩ := argBest_lt (numAt xs) (xs.size - 1)
  refine h h' tk _ t hk' ?_ fun a ha => ?_
  · rw [numAt_eq]; exact PySem.getD_mem (by rw [List.length_map, Array.length_toList]; omega)
  · obtain ⟨j, hj, rfl⟩ := mem_getD ha
    rw [List.length_map, Array.length_toList] at hj
    rw [← numAt_eq]; exact h2 j (by omega)
end
section
variable {X : Cx}
def rMinT (K : PySem.W.Frag) : List V → Hp → VK → Prop := fun vs H Q => ∃ (a : Addr) (ns : List Int), vs = [V.ref a] ∧ SqT K H a (ns.map V.int) ∧ 0 < ns.length ∧ ∀ m, m ∈ ns → (∀ y, y ∈ ns → m ≤ y) → Q (.int m) H
theorem cr_minT (hc : X.calm = true) : CallR X (.builtin "min") (rMinT X.K) := by
  intro pins s σ H vs us Q I r h
  obtain ⟨a, ns, rfl, hs, hne, q⟩ := h
  obtain ⟨its, rv, hl, _⟩ := I.tuple hs
  rw [Vals.ref1 r]
  exact min_rawT (I.ok.hd hc) (by obtain ⟨o, e, c, n, d⟩ := hl; exact ⟨o, e, c, n, d⟩) rv.ints hne fun h' tk m t' hk h1 h2 => ⟨.int _, H, I.kept hk, ⟨_, rfl⟩, q m h1 h2⟩
end
end Ev

namespace Ev
open PySem PySem.Spec PyProof.Rows L2 HT
/-! t[::-1], t a tuple -/
section
variable {prog : Program} {w : World} {A : Around} {E : Value → Shared → Prop} {s : Shared}
theorem adjust_rev (n : Nat) : Builtin.Slice.sliceAdjust none none (-1) (n : Int) = ((n : Int) - 1, -1) := rfl
theorem places_rev (n : Nat) : Builtin.Slice.slicePlaces ((n : Int) - 1) (-1) (-1) = n := by
  unfold Builtin.Slice.slicePlaces
  rw [if_neg (by omega), Int.neg_neg, Int.ediv_one]
  split <;> omega
theorem sliceApplied_rev {sl : Addr} {n : Nat} {t : Tok} {Q : Int × Int × Nat → Shared → Prop} (hs : s.heap.IsSliceOf sl .none .none (.int (-1) t))
    (h : Q ((n : Int) - 1, -1, n) s) : wpAny (model prog w) A (Builtin.Slice.sliceApplied (.ref sl) (pure (n : Int))) Q E s := by
  obtain ⟨os, hos, hcs, hds⟩ := id hs
  unfold Builtin.Slice.sliceApplied Builtin.Slice.sliceFields
  refine wpAny_bind (wpAny_bind (wpAny_field hos hds (x := .none) rfl (wpAny_bind (wpAny_field hos hds (x := .none) rfl (wpAny_bind (wpAny_field hos hds (x := .int (-1) t) rfl (wpAny_pure ?_)))))))
  refine wpAny_bind (slicePart_int ?_)
  show wpAny _ _ (if ((-1 : Int) == 0) = true then _ else _) _ _ s
  rw [if_neg (by decide)]
  refine wpAny_bind (slicePart_none (wpAny_bind (slicePart_none (wpAny_bind (wpAny_pure ?_)))))
  show wpAny _ _ (match Builtin.Slice.sliceAdjust none none (-1) (n : Int) with | (lo, hi) => pure (lo, (-1 : Int), Builtin.Slice.slicePlaces lo hi (-1))) _ _ s
  rw [adjust_rev n]
  show wpAny _ _ (pure ((n : Int) - 1, (-1 : Int), Builtin.Slice.slicePlaces ((n : Int) - 1) (-1) (-1))) _ _ s
  rw [places_rev]
  exact wpAny_pure h
theorem pick_rev (xs : Array Value) : ((List.range xs.size).filterMap fun (m : Nat) => xs[((xs.size : Int) - 1 + (m : Int) * -1).toNat]?).toArray = xs.toList.reverse.toArray := by
  congr 1
  refine List.ext_getElem? fun i => ?_
  have e : ∀ k, k ≤ xs.size → (List.range k).filterMap (fun (m : Nat) => xs[((xs.size : Int) - 1 + (m : Int) * -1).toNat]?) = (List.range k).map fun m => xs.toList[xs.size - 1 - m]?.getD .none := fun k hk => by
    induction k with
    | zero => rfl
    | succ k ih =>
      rw [List.range_succ, List.filterMap_append, List.map_append, ih (by omega)]
      congr 1
      have h1 : ((xs.size : Int) - 1 + (k : Int) * -1).toNat = xs.size - 1 - k := by omega
      have h2 : xs.size - 1 - k < xs.size := by omega
      have h3 : xs[((xs.size : Int) - 1 + (k : Int) * -1).toNat]? = some xs[xs.size - 1 - k] := by rw [h1]; exact Array.getElem?_eq_getElem h2
      rw [List.filterMap_cons, h3]
      simp [h2]
  rw [e xs.size (Nat.le_refl _)]
  by_cases hi : i < xs.size
  · rw [List.getElem?_map, List.getElem?_range hi, List.getElem?_reverse (by simpa using hi)]
    have h2 : xs.size - 1 - i < xs.size := by omega
    simp [h2]
  · rw [List.getElem?_eq_none (by simp; omega), List.getElem?_eq_none (by simp; omega)]
theorem getItem_tuple_rev {t sl : Addr} {items : Array Value} {u : Tok} {Q : Value → Shared → Prop} (ht : IsTup s.heap t items) (hs : s.heap.IsSliceOf sl .none .none (.int (-1) u))
    (h : Q (.ref s.heap.objs.size) { s with heap := s.heap.push { cls := .type "tuple", data := .seq items.toList.reverse.toArray } })
    (hsz : items.size ≤ sizeLine) : wpAny (model prog w) A (getItem (.ref t) (.ref sl)) Q E s := by
  have htake : sizeOk (.seq items.toList.reverse.toArray) := by
    show items.toList.reverse.toArray.size ≤ sizeLine
    rw [List.size_toArray, List.length_reverse, Array.length_toList]
    exact hsz
  obtain ⟨os, hos, hcs, hds⟩ := id hs
  have hTs : s.TypeIs (.ref sl) "slice" := ⟨os, hos, hcs⟩
  unfold getItem
  try with_reducible refine wpAny_holding ?_
  first | refine wpAny_bind (wpAny_pure ?_) | skip
  refine wpAny_bind (wpAny_sequenceKey ht.typeIs (by decide) ?_)
  refine wpAny_bind (wpAny_callSpecial?_slot (name := Str.ofString "__getitem__") ht.typeIs PyProof.Rows.slot_tuple_getitem
    (wpAny_call_entry PyProof.Rows.slot_tuple_getitem ht.typeIs entry_tuple_getitem ?_ (args_tuple_getitem _ _)))
  show wpAny _ _ (Builtin.Tuple.tupleItemsOf (.ref t) >>= _) _ _ s
  refine wpAny_bind (tupleItemsOf_ ht ?_)
  refine wpAny_bind (wpAny_typeOf hTs ?_)
  rw [if_pos (by decide)]
  refine wpAny_bind (sliceApplied_rev hs ?_)
  have hno : ¬ ((((items.size : Int) - 1) == 0 && (-1 : Int) == 1 && items.size == items.size) = true) := by
    intro q
    rw [Bool.and_eq_true, Bool.and_eq_true] at q
    exact absurd q.1.2 (by decide)
  show wpAny _ _ (if (((items.size : Int) - 1) == 0 && (-1 : Int) == 1 && items.size == items.size) = true then _ else _) _ _ s
  rw [if_neg hno, pick_rev]
  first
    | exact wpAny_bind (m := Builtin.Tuple.tupleExact _) (wpAny_newObj_type (wpAny_pure ⟨_, rfl, wpAny_pure h⟩) htake)
    | exact wpAny_bind (m := Builtin.Tuple.tupleExact _) (wpAny_newObj_type (wpAny_bind (wpAny_pure (wpAny_pure ⟨_, rfl, wpAny_pure h⟩))) htake)
    | exact wpAny_bind (wpAny_bind (m := Builtin.Tuple.tupleExact _) (wpAny_newObj_type (wpAny_pure (wpAny_pure ⟨_, rfl, wpAny_pure h⟩)) htake))
    | exact wpAny_bind (wpAny_bind (m := Builtin.Tuple.tupleExact _) (wpAny_newObj_type (wpAny_pure ⟨_, rfl, wpAny_pure h⟩) htake))
end
section
variable {X : Cx}
/-- a[::-1], a list or tuple -/
def tRevA (K : PySem.W.Frag) (te : TE) : TE := fun σ H Q => te σ H fun x H1 => ∃ a xs, x = .ref a ∧ ((SqL K H1 a xs ∧ ∀ p, H1 p = none → Q (.ref p) (upd H1 p (.lst xs.reverse))) ∨ (SqT K H1 a xs ∧ ∀ p, H1 p = none → Q (.ref p) (upd H1 p (.tup xs.reverse))))
theorem pe_revA {e : Expr} {te : TE} {k : Nat} {p1 p2 p3 pos : Pos} (he : PE X e te) : PE X (.Subscript e (.Slice none none (some (.UnaryOp .USub (.Constant (.int 1) k p1) p2)) p3) pos) (tRevA X.K te) := by
  refine ⟨fun pins s σ H Q I h => ?_⟩
  refine Subscript_ (thn (he.run pins s σ H _ I h) fun v s1 ⟨x, H1, I1, r1, q1⟩ => ?_)
  obtain ⟨a, xs, ex, q1⟩ := q1
  subst ex
  cases r1
  have hst : PO X (some (.UnaryOp .USub (.Constant (.int 1) k p1) p2)) (tPart (tUn (rU fun i => .int (-i)) (tC (.int 1)))) := po_some (pe_un un_neg pe_int)
  refine wpAny_Slice (thn (po_none.run pins s1 σ H1 (fun o H2 => o = none ∧ H2 = H1) I1 ⟨rfl, rfl⟩) fun vl s2 ⟨l, H2, I2, pl, el, e2⟩ => ?_)
  subst el e2
  refine thn (po_none.run pins s2 σ H2 (fun o H3 => o = none ∧ H3 = H2) I2 ⟨rfl, rfl⟩) fun vu s3 ⟨u, H3, I3, pu, eu, e3⟩ => ?_
  subst eu e3
  refine thn (hst.run pins s3 σ H3 (fun o H4 => o = some (-1) ∧ H4 = H3) I3 ⟨1, rfl, -1, rfl, rfl, rfl⟩) fun vs s4 ⟨o, H4, I4, ps, eo, e4⟩ => ?_
  subst eo e4
  have I5 : Inv X pins σ H4 { s4 with heap := s4.heap.push { cls := .type "slice", data := .fields #[vl, vu, vs] } } := I4.kept (t' := s4.toks) fun b ob q => Heap.get?_push_of_some _ q
  rcases q1 with ⟨hx, q⟩ | ⟨hx, q⟩
  · obtain ⟨its, r, ht, hz⟩ := I5.list hx
    have hlen := r.length
    show wpAny (model X.prog X.w) X.A (subscriptTail e (.Slice none none (some (.UnaryOp .USub (.Constant (.int 1) k p1) p2)) p3) (.ref a) (.ref s4.heap.objs.size)) (EP X pins σ Q) X.xe { s4 with heap := s4.heap.push { cls := .type "slice", data := .fields #[vl, vu, vs] } }
    refine tail_any (ops := [.ref a, .ref s4.heap.objs.size]) ht.isList.typeIs (PySem.slot_list_getitem.lookup) ?_ (by with_unfolding_all rfl)
    refine wpAny_getItem_list_slice ht.isList (Heap.IsSliceOf.new _ vl vu vs) pl pu ps (by decide) ?_ (by rw [List.size_toArray]; omega)
    rw [PySem.W.krv_pick]
    refine ⟨.ref _, _, I5.laid (t' := s4.toks) (o := .lst xs.reverse) (fun b ob q => Heap.get?_push_of_some _ q) (Nat.le_refl _) ?_, rfl, q _ (I5.hok.fresh (Nat.le_refl _))⟩
    exact ⟨by rw [List.length_reverse]; exact hz, _, 0, r.reverse, Heap.get?_push_size _ rfl⟩
  · obtain ⟨its, r, ht, hz⟩ := I5.tuple hx
    have hlen := r.length
    cases pl
    cases pu
    cases ps
    show wpAny (model X.prog X.w) X.A (subscriptTail e (.Slice none none (some (.UnaryOp .USub (.Constant (.int 1) k p1) p2)) p3) (.ref a) (.ref s4.heap.objs.size)) (EP X pins σ Q) X.xe _
    refine tail_any (ops := [.ref a, .ref s4.heap.objs.size]) ht.typeIs (PyProof.Rows.slot_tuple_getitem.lookup) ?_ (by with_unfolding_all rfl)
    refine getItem_tuple_rev ht (Heap.IsSliceOf.new ..) ?_ (by rw [List.size_toArray]; omega)
    refine ⟨.ref _, _, I5.laid (t' := s4.toks) (o := .tup xs.reverse) (fun b ob q => Heap.get?_push_of_some _ q) (Nat.le_refl _) ?_, rfl, q _ (I5.hok.fresh (Nat.le_refl _))⟩
    exact ⟨by rw [List.length_reverse]; exact hz, _, r.reverse, IsTup.new _ _⟩
end
end Ev

/-! Ev, part D: more operations by values: items, slices, built-in functions, isinstance. -/
namespace Ev
open PySem L2
section
variable {K : PySem.W.Frag} {A : AS} {H : Hp}
theorem DpAs.at {xs : List V} {ds : List D} {i : Int} {d : D} (h : DpAs K A H xs ds) (e : atI ds i = some d) : ∃ v, atI xs i = some v ∧ DpA K A H v d := by
  unfold atI at e ⊢
  rw [← h.length] at e
  cases q : ixN xs.length i with
  | none => rw [q] at e; cases e
  | some j =>
    rw [q] at e
    exact h.get e
theorem DpAs.cut {xs : List V} {ds : List D} (h : DpAs K A H xs ds) (lo hi : Option Int) : DpAs K A H (cutV xs lo hi) (cutD ds lo hi) := by
  unfold cutV cutD
  rw [h.length]
  exact (h.drop _).take _
/-- values called with, looked at -/
def rN (K : PySem.W.Frag) (f : List D → Option R) : List V → Hp → VK → Prop := fun vs H Q =>
  ∃ A ds r, (∀ b, A b → H b ≠ none) ∧ Paired (PK K A H) vs ds ∧ f ds = some r ∧ ∀ v H', POut K A H v H' r → Q v H'
theorem two_fits : (2 : Nat) ≤ sizeLine := by decide
end
section
variable {X : Cx}
theorem ix_D (hu : X.A.units + 1 < cLine) : IxR X (rD X.K idxD) := by
  intro value slice pins s σ H x y v u Q I rx ry h hs
  obtain ⟨A, d, e, r, ha, px, py, h, q⟩ := h
  unfold idxD at h
  split at h
  · rename_i ds i
    obtain ⟨z, h1, rfl⟩ := Option.map_eq_some_iff.mp h
    obtain ⟨a, xs, rfl, h2, h3⟩ := px.list
    cases py.int
    obtain ⟨w, h4, h5⟩ := h3.at h1
    exact ix_list value slice pins s σ H _ _ v u Q I rx ry ⟨a, xs, i, w, rfl, rfl, .inl h2, h4, q _ _ (pout_same h5)⟩ hs
  · rename_i ds i
    obtain ⟨z, h1, rfl⟩ := Option.map_eq_some_iff.mp h
    obtain ⟨a, xs, rfl, h2, h3⟩ := px.tup
    cases py.int
    obtain ⟨w, h4, h5⟩ := h3.at h1
    exact ix_tup value slice pins s σ H _ _ v u Q I rx ry ⟨a, xs, i, w, rfl, rfl, h2.sq, h4, q _ _ (pout_same h5)⟩ hs
  · rename_i ds i
    obtain ⟨z, h1, rfl⟩ := Option.map_eq_some_iff.mp h
    obtain ⟨a, xs, rfl, h2, h3⟩ := px.rol
    cases py.int
    obtain ⟨w, h4, h5⟩ := h3.at h1
    exact ix_list value slice pins s σ H _ _ v u Q I rx ry ⟨a, xs, i, w, rfl, rfl, h2, h4, q _ _ (pout_same h5)⟩ hs
  · rename_i z i
    split at h
    · rename_i hz
      obtain ⟨c, h1, rfl⟩ := Option.map_eq_some_iff.mp h
      cases px.str
      cases py.int
      exact ix_str value slice pins s σ H _ _ v u Q I rx ry ⟨z, i, c, rfl, rfl, hz, h1, q _ _ (pout_same (.str _))⟩ hs
    · cases h
  · split at h
    · rename_i k h1 h2
      obtain ⟨z, h3, rfl⟩ := Option.map_eq_some_iff.mp h
      obtain ⟨a, kv, rfl, h4, h5⟩ := px.dicK h1
      obtain rfl := key_at py h2
      cases rx
      rcases dpks_get k h5 with ⟨w, z', g1, g2, g3⟩ | ⟨g1, g2⟩
      · rw [h3] at g2
        cases g2
        have g : DGet H a (kV k) (some w) := by
          rw [← g1]
          exact .k h4
        exact PyProof.Rows.tail_any (dict_typeIs I g) PySem.F.slot_dict_getitem.lookup (d_getItem hu I g ry fun w' s3 I3 rw' => ⟨w, H, I3, rw', q _ _ (pout_same g3)⟩) hs
      · rw [h3] at g2
        cases g2
    · cases h
  · cases h
theorem sl_D : SlR X (fun x lo hi H Q => ∃ A d r, (∀ b, A b → H b ≠ none) ∧ PK X.K A H x d ∧ slcD d lo hi = some r ∧ ∀ v H', POut X.K A H v H' r → Q v H') := by
  intro pins s σ H x v vl vu lo hi sl Q I rx hs pl pu h
  obtain ⟨A, d, r, ha, px, h, q⟩ := h
  unfold slcD at h
  split at h
  · cases h
    obtain ⟨a, xs, rfl, h2, h3⟩ := px.list
    exact sl_list pins s σ H _ v vl vu lo hi sl Q I rx hs pl pu ⟨a, xs, rfl, .inl h2, fun p n => q _ _ (pout_lst n ha (h3.cut lo hi))⟩
  · rename_i ds
    cases h
    obtain ⟨a, xs, rfl, h2, h3⟩ := px.tup
    refine sl_tupA pins s σ H _ v vl vu lo hi sl Q I rx hs pl pu ⟨a, xs, rfl, h2.sq, fun z => ?_, fun _ p n => q _ _ (pout_tup n ha (h3.cut lo hi))⟩
    have e : cutD ds lo hi = ds := by
      unfold cutD
      rw [← h3.length, z.1, z.2, h3.length]
      simp
    rw [e] at q
    exact q _ _ (pout_same (.tup h2 h3))
  · cases h
    obtain ⟨a, xs, rfl, h2, h3⟩ := px.rol
    exact sl_list pins s σ H _ v vl vu lo hi sl Q I rx hs pl pu ⟨a, xs, rfl, h2, fun p n => q _ _ (pout_lst n ha (h3.cut lo hi))⟩
  · cases h

/-! ### built-in functions -/
theorem pk1 {K : PySem.W.Frag} {A : AS} {H : Hp} {vs : List V} {d : D} (h : Paired (PK K A H) vs [d]) : ∃ v, vs = [v] ∧ PK K A H v d := by
  cases h with
  | cons h t => cases t; exact ⟨_, rfl, h⟩
theorem pk2 {K : PySem.W.Frag} {A : AS} {H : Hp} {vs : List V} {d e : D} (h : Paired (PK K A H) vs [d, e]) : ∃ v w, vs = [v, w] ∧ PK K A H v d ∧ PK K A H w e := by
  cases h with
  | cons h t =>
    cases t with
    | cons h2 t => cases t; exact ⟨_, _, rfl, h, h2⟩
theorem maxI_spec : ∀ (ns : List Int) (a : Int), (ns.foldl (fun a b => if b > a then b else a) a = a ∨ ns.foldl (fun a b => if b > a then b else a) a ∈ ns) ∧ a ≤ ns.foldl (fun a b => if b > a then b else a) a ∧ ∀ y ∈ ns, y ≤ ns.foldl (fun a b => if b > a then b else a) a
  | [], a => ⟨.inl rfl, Int.le_refl _, fun y hy => by cases hy⟩
  | n :: ns, a => by
    obtain ⟨h1, h2, h3⟩ := maxI_spec ns (if n > a then n else a)
    rw [List.foldl_cons]
    refine ⟨?_, ?_, fun y hy => ?_⟩
    · rcases h1 with h1 | h1
      · rw [h1]
        split
        · exact .inr List.mem_cons_self
        · exact .inl rfl
      · exact .inr (List.mem_cons_of_mem _ h1)
    · refine Int.le_trans ?_ h2
      split <;> omega
    · rcases List.mem_cons.mp hy with e | hy
      · subst e
        refine Int.le_trans ?_ h2
        split <;> omega
      · exact h3 y hy
theorem minI_spec : ∀ (ns : List Int) (a : Int), (ns.foldl (fun a b => if b < a then b else a) a = a ∨ ns.foldl (fun a b => if b < a then b else a) a ∈ ns) ∧ ns.foldl (fun a b => if b < a then b else a) a ≤ a ∧ ∀ y ∈ ns, ns.foldl (fun a b => if b < a then b else a) a ≤ y
  | [], a => ⟨.inl rfl, Int.le_refl _, fun y hy => by cases hy⟩
  | n :: ns, a => by
    obtain ⟨h1, h2, h3⟩ := minI_spec ns (if n < a then n else a)
    rw [List.foldl_cons]
    refine ⟨?_, ?_, fun y hy => ?_⟩
    · rcases h1 with h1 | h1
      · rw [h1]
        split
        · exact .inr List.mem_cons_self
        · exact .inl rfl
      · exact .inr (List.mem_cons_of_mem _ h1)
    · refine Int.le_trans h2 ?_
      split <;> omega
    · rcases List.mem_cons.mp hy with e | hy
      · subst e
        refine Int.le_trans h2 ?_
        split <;> omega
      · exact h3 y hy
theorem maxI_mem {ns : List Int} {m : Int} (h : maxI ns = some m) : m ∈ ns ∧ ∀ y ∈ ns, y ≤ m := by
  cases ns with
  | nil => cases h
  | cons n ns =>
    simp only [maxI, Option.some.injEq] at h
    subst h
    obtain ⟨h1, h2, h3⟩ := maxI_spec ns n
    refine ⟨?_, fun y hy => ?_⟩
    · rcases h1 with h1 | h1
      · rw [h1]; exact List.mem_cons_self
      · exact List.mem_cons_of_mem _ h1
    · rcases List.mem_cons.mp hy with e | hy
      · subst e; exact h2
      · exact h3 y hy
theorem minI_mem {ns : List Int} {m : Int} (h : minI ns = some m) : m ∈ ns ∧ ∀ y ∈ ns, m ≤ y := by
  cases ns with
  | nil => cases h
  | cons n ns =>
    simp only [minI, Option.some.injEq] at h
    subst h
    obtain ⟨h1, h2, h3⟩ := minI_spec ns n
    refine ⟨?_, fun y hy => ?_⟩
    · rcases h1 with h1 | h1
      · rw [h1]; exact List.mem_cons_self
      · exact List.mem_cons_of_mem _ h1
    · rcases List.mem_cons.mp hy with e | hy
      · subst e; exact h2
      · exact h3 y hy
theorem insI_perm (n : Int) : ∀ ms : List Int, (insI n ms).Perm (n :: ms)
  | [] => List.Perm.refl _
  | m :: ms => by
    unfold insI
    split
    · exact List.Perm.refl _
    · exact ((insI_perm n ms).cons m).trans (List.Perm.swap n m ms)
theorem sortI_perm : ∀ ns : List Int, (sortI ns).Perm ns
  | [] => List.Perm.refl _
  | n :: ns => (insI_perm n (sortI ns)).trans ((sortI_perm ns).cons n)
theorem insI_sorted (n : Int) : ∀ ms : List Int, ms.Pairwise (· ≤ ·) → (insI n ms).Pairwise (· ≤ ·)
  | [], _ => List.pairwise_singleton _ _
  | m :: ms, h => by
    obtain ⟨h1, h2⟩ := List.pairwise_cons.mp h
    unfold insI
    split
    · rename_i hz
      refine List.pairwise_cons.mpr ⟨fun y hy => ?_, h⟩
      rcases List.mem_cons.mp hy with e | hy
      · subst e; exact hz
      · exact Int.le_trans hz (h1 y hy)
    · rename_i hz
      refine List.pairwise_cons.mpr ⟨fun y hy => ?_, insI_sorted n ms h2⟩
      rcases List.mem_cons.mp ((insI_perm n ms).mem_iff.mp hy) with e | hy
      · subst e; omega
      · exact h1 y hy
theorem sortI_sorted : ∀ ns : List Int, (sortI ns).Pairwise (· ≤ ·)
  | [] => List.Pairwise.nil
  | n :: ns => insI_sorted n _ (sortI_sorted ns)
theorem sorted_uniq : ∀ {xs ys : List Int}, xs.Perm ys → xs.Pairwise (· ≤ ·) → ys.Pairwise (· ≤ ·) → xs = ys
  | [], ys, p, _, _ => p.nil_eq
  | x :: xs, [], p, _, _ => absurd p.symm.nil_eq (by simp)
  | x :: xs, y :: ys, p, h1, h2 => by
    obtain ⟨a1, a2⟩ := List.pairwise_cons.mp h1
    obtain ⟨b1, b2⟩ := List.pairwise_cons.mp h2
    have e : x = y := by
      have m1 : x ∈ y :: ys := p.mem_iff.mp List.mem_cons_self
      have m2 : y ∈ x :: xs := p.mem_iff.mpr List.mem_cons_self
      rcases List.mem_cons.mp m1 with e | m1
      · exact e
      · rcases List.mem_cons.mp m2 with e | m2
        · exact e.symm
        · have := a1 y m2
          have := b1 x m1
          omega
    subst e
    rw [sorted_uniq (List.Perm.cons_inv p) a2 b2]
theorem sorted_dn {ms ns : List Int} (p : ms.Perm ns) (h : ms.Pairwise (· ≥ ·)) : ms = (sortI ns).reverse := by
  have h1 : ms.reverse.Pairwise (· ≤ ·) := by
    rw [List.pairwise_reverse]
    exact h
  have := sorted_uniq (((List.reverse_perm ms).trans p).trans (sortI_perm ns).symm) h1 (sortI_sorted ns)
  rw [← this, List.reverse_reverse]
/-- which built-in -/
def biV : Bi → Value
  | .len => .builtin "len"
  | .all => .builtin "all"
  | .any => .builtin "any"
  | .max => .builtin "max"
  | .min => .builtin "min"
  | .sum => .builtin "sum"
  | .list => .type "list"
  | .tuple => .type "tuple"
  | .sorted => .builtin "sorted"
  | .sortedR => .none
  | .int => .type "int"
  | .str => .type "str"
  | .abs => .builtin "abs"
  | .divmod => .builtin "divmod"
  | .repr => .builtin "repr"
  | .listRange => .none
  | .setLen => .none
theorem seq_of {K : PySem.W.Frag} {A : AS} {H : Hp} {v : V} {d : D} {ds : List D} (h : PK K A H v d) (e : seqD d = some ds) : ∃ a xs, v = .ref a ∧ (SqL K H a xs ∨ SqT K H a xs) ∧ DpAs K A H xs ds := by
  cases d <;> cases e
  · obtain ⟨a, xs, h1, h2, h3⟩ := h.list
    exact ⟨a, xs, h1, .inl (.inl h2), h3⟩
  · obtain ⟨a, xs, h1, h2, h3⟩ := h.tup
    exact ⟨a, xs, h1, .inr h2.sq, h3⟩
/-! rows -/
theorem rowsD_map : ∀ {ds : List D} {L : List (List Int)}, rowsD ds = some L → ds = L.map rowD
  | [], L, h => by cases h; rfl
  | d :: ds, L, h => by
    cases d <;> first | (simp [rowsD] at h; done) | skip
    rename_i es
    simp only [rowsD] at h
    split at h
    · rename_i r M h1 h2
      cases h
      rw [rowsD_map h2, intsD_map h1]
      rfl
    · cases h
theorem rowsD_of : ∀ L : List (List Int), rowsD (L.map rowD) = some L
  | [] => rfl
  | r :: L => by
    rw [List.map_cons]
    simp only [rowsD, rowD, intsD_of]
    rw [rowsD_of L]
theorem tupI_of {K : PySem.W.Frag} {A : AS} {H : Hp} {v : V} {r : List Int} (h : DpA K A H v (rowD r)) : ∃ t, v = .ref t ∧ SqT K H t (r.map V.int) := by
  cases h with
  | tup h hs =>
    cases hs.ints
    exact ⟨_, rfl, h.sq⟩
theorem rows_tupI {K : PySem.W.Frag} {A : AS} {H : Hp} {P : List Int → Prop} : ∀ {xs : List V} {L : List (List Int)}, DpAs K A H xs (L.map rowD) → (∀ r ∈ L, P r) → ∀ x ∈ xs, ∃ ns, TupI K H x ns ∧ P ns
  | [], L, _, _ => fun x hx => nomatch hx
  | y :: xs, [], h, _ => by cases h
  | y :: xs, r :: L, h, hP => by
    rw [List.map_cons] at h
    cases h with
    | cons h t =>
      intro x hx
      rcases List.mem_cons.mp hx with e | hx
      · subst e
        obtain ⟨b, e, g⟩ := tupI_of h
        exact ⟨r, ⟨b, e, g⟩, hP r List.mem_cons_self⟩
      · exact rows_tupI t (fun r hr => hP r (List.mem_cons_of_mem _ hr)) x hx
theorem rows_pw {K : PySem.W.Frag} {A : AS} {H : Hp} {R : List Int → List Int → Prop} : ∀ {xs : List V} {L : List (List Int)}, DpAs K A H xs (L.map rowD) → xs.Pairwise (fun x y => ∀ n m, TupI K H x n → TupI K H y m → R n m) → L.Pairwise R
  | [], [], _, _ => .nil
  | [], _ :: _, h, _ => by cases h
  | _ :: _, [], h, _ => by cases h
  | y :: xs, r :: L, h, p => by
    rw [List.map_cons] at h
    cases h with
    | cons h t =>
      obtain ⟨p1, p2⟩ := List.pairwise_cons.mp p
      refine List.pairwise_cons.mpr ⟨fun s hs => ?_, rows_pw t p2⟩
      obtain ⟨i, hi⟩ := List.getElem?_of_mem hs
      obtain ⟨x, hx, hd⟩ := t.get (i := i) (d := rowD s) (by rw [List.getElem?_map, hi]; rfl)
      obtain ⟨a, rfl, ha⟩ := tupI_of h
      obtain ⟨b, rfl, hb⟩ := tupI_of hd
      exact p1 _ (List.mem_of_getElem? hx) r s ⟨a, rfl, ha⟩ ⟨b, rfl, hb⟩
theorem sorted_rows {X : Cx} {pins : List (Addr × Obj)} {s : Shared} {σ : St} {H : Hp} {v : V} {us : List Value} {Q : VK} {A : AS} {ds : List D} {L : List (List Int)} (I : Inv X pins σ H s) (rv : Vals [v] us) (ha : ∀ b, A b → H b ≠ none) (p : PK X.K A H v (.list ds)) (hL : rowsD ds = some L) (ok : okRows L = true)
    (q : ∀ v H', POut X.K A H v H' (.o (.lst ((sortR L).map rowD))) → Q v H') : wpAny (model X.prog X.w) X.A (call (.builtin "sorted") us) (EP X pins σ Q) X.xe s := by
  obtain ⟨a, xs, rfl, h1, h2⟩ := p.list
  rw [rowsD_map hL] at h2
  obtain ⟨hl, d, B, hd, hB⟩ := okRows_at ok
  refine cr_sortT (d := d) (B := B) hd pins s σ H _ us Q I rv ⟨a, xs, rfl, .inl h1, by rw [h2.length, List.length_map]; exact hl, rows_tupI h2 hB, fun ys p pm pw n => ?_⟩
  obtain ⟨L', pL, hy⟩ := perm_dpas rowD pm h2
  rw [← sortR_code pL hB (rows_pw hy pw)] at q
  exact q _ _ (pout_lst n ha hy)
theorem call_biD (hc : X.calm = true) (hg : X.A.guards = some []) (hu : X.A.units + 65 < cLine) (f : Bi) (hf : f ≠ .sortedR ∧ f ≠ .listRange ∧ f ≠ .setLen) : CallR X (biV f) (rN X.K (biD f)) := by
  intro pins s σ H vs us Q I rv h
  obtain ⟨A, ds, r, ha, pk, h, q⟩ := h
  unfold biD at h
  split at h
  · split at h
    · rename_i hz
      cases h
      obtain ⟨v, rfl, p⟩ := pk1 pk
      cases p.str
      exact call_len_str pins s σ H _ us Q I rv ⟨_, rfl, hz, q _ _ (pout_same (.int _))⟩
    · cases h
  · cases h
    obtain ⟨v, rfl, p⟩ := pk1 pk
    obtain ⟨a, xs, rfl, h1, h2⟩ := p.list
    exact call_len_seq pins s σ H _ us Q I rv ⟨a, xs, rfl, .inl (.inl h1), by rw [h2.length]; exact q _ _ (pout_same (.int _))⟩
  · cases h
    obtain ⟨v, rfl, p⟩ := pk1 pk
    obtain ⟨a, xs, rfl, h1, h2⟩ := p.rol
    exact call_len_seq pins s σ H _ us Q I rv ⟨a, xs, rfl, .inl h1, by rw [h2.length]; exact q _ _ (pout_same (.int _))⟩
  · cases h
    obtain ⟨v, rfl, p⟩ := pk1 pk
    obtain ⟨a, xs, rfl, h1, h2⟩ := p.tup
    exact call_len_seq pins s σ H _ us Q I rv ⟨a, xs, rfl, .inr h1.sq, by rw [h2.length]; exact q _ _ (pout_same (.int _))⟩
  · obtain ⟨bs, h1, rfl⟩ := Option.map_eq_some_iff.mp h
    obtain ⟨v, rfl, p⟩ := pk1 pk
    obtain ⟨a, rfl, h2⟩ := p.boolsL h1
    exact cr_all hc pins s σ H _ us Q I rv ⟨a, bs, rfl, h2, q _ _ (pout_same (.bl _))⟩
  · obtain ⟨bs, h1, rfl⟩ := Option.map_eq_some_iff.mp h
    obtain ⟨v, rfl, p⟩ := pk1 pk
    obtain ⟨a, rfl, h2⟩ := p.boolsL h1
    exact cr_any hc pins s σ H _ us Q I rv ⟨a, bs, rfl, h2, q _ _ (pout_same (.bl _))⟩
  · rename_i i j
    cases h
    obtain ⟨v, w, rfl, p1, p2⟩ := pk2 pk
    cases p1.int
    cases p2.int
    exact call_max2 hc pins s σ H _ us Q I rv ⟨i, j, rfl, q _ _ (pout_same (.int _))⟩
  · rename_i i j
    cases h
    obtain ⟨v, w, rfl, p1, p2⟩ := pk2 pk
    cases p1.int
    cases p2.int
    exact call_min2 hc pins s σ H _ us Q I rv ⟨i, j, rfl, q _ _ (pout_same (.int _))⟩
  · obtain ⟨ns, h1, h⟩ := Option.bind_eq_some_iff.mp h
    obtain ⟨m, h2, rfl⟩ := Option.map_eq_some_iff.mp h
    obtain ⟨v, rfl, p⟩ := pk1 pk
    obtain ⟨a, rfl, h3⟩ := p.intsL h1
    obtain ⟨z1, z2⟩ := maxI_mem h2
    refine cr_max hc pins s σ H _ us Q I rv ⟨a, ns, rfl, h3, List.length_pos_of_mem z1, fun m' y1 y2 => ?_⟩
    have e : m' = m := Int.le_antisymm (z2 m' y1) (y2 m z1)
    subst e
    exact q _ _ (pout_same (.int _))
  · obtain ⟨ns, h1, h⟩ := Option.bind_eq_some_iff.mp h
    obtain ⟨m, h2, rfl⟩ := Option.map_eq_some_iff.mp h
    obtain ⟨v, rfl, p⟩ := pk1 pk
    obtain ⟨a, rfl, h3⟩ := p.intsL h1
    obtain ⟨z1, z2⟩ := minI_mem h2
    refine cr_min hc pins s σ H _ us Q I rv ⟨a, ns, rfl, h3, List.length_pos_of_mem z1, fun m' y1 y2 => ?_⟩
    have e : m' = m := Int.le_antisymm (y2 m z1) (z2 m' y1)
    subst e
    exact q _ _ (pout_same (.int _))
  · obtain ⟨ns, h1, rfl⟩ := Option.map_eq_some_iff.mp h
    obtain ⟨v, rfl, p⟩ := pk1 pk
    obtain ⟨a, rfl, h3⟩ := p.intsL h1
    exact cr_sum hc pins s σ H _ us Q I rv ⟨a, ns, rfl, h3, q _ _ (pout_same (.int _))⟩
  · cases h
    obtain ⟨v, rfl, p⟩ := pk1 pk
    obtain ⟨a, xs, rfl, h1, h2⟩ := p.list
    exact call_list_of pins s σ H _ us Q I rv ⟨a, xs, rfl, .inl (.inl h1), fun l n => q _ _ (pout_lst n ha h2)⟩
  · cases h
    obtain ⟨v, rfl, p⟩ := pk1 pk
    obtain ⟨a, xs, rfl, h1, h2⟩ := p.tup
    exact call_list_of pins s σ H _ us Q I rv ⟨a, xs, rfl, .inr h1.sq, fun l n => q _ _ (pout_lst n ha h2)⟩
  · cases h
    obtain ⟨v, rfl, p⟩ := pk1 pk
    obtain ⟨a, xs, rfl, h1, h2⟩ := p.list
    exact call_tuple_of pins s σ H _ us Q I rv ⟨a, xs, rfl, .inl ⟨.inl h1, fun l n => q _ _ (pout_tup n ha h2)⟩⟩
  · cases h
    obtain ⟨v, rfl, p⟩ := pk1 pk
    obtain ⟨a, xs, rfl, h1, h2⟩ := p.tup
    exact call_tuple_of pins s σ H _ us Q I rv ⟨a, xs, rfl, .inr ⟨h1.sq, q _ _ (pout_same (.tup h1 h2))⟩⟩
  · obtain ⟨v, rfl, p⟩ := pk1 pk
    split at h
    case h_2 =>
      obtain ⟨L, h1, h2⟩ := Option.bind_eq_some_iff.mp h
      split at h2
      · rename_i ok
        cases h2
        exact sorted_rows I rv ha p h1 ok q
      · cases h2
    rename_i ns h1
    cases h
    obtain ⟨a, rfl, h3⟩ := p.intsL h1
    refine cr_sortedI pins s σ H _ us Q I rv ⟨a, ns, rfl, h3, fun ns' p k1 k2 n => ?_⟩
    rw [sorted_uniq (k1.trans (sortI_perm ns).symm) k2 (sortI_sorted ns)]
    exact q _ _ (pout_lst n ha (.of_ints _))
  · obtain ⟨ns, h1, rfl⟩ := Option.map_eq_some_iff.mp h
    obtain ⟨v, rfl, p⟩ := pk1 pk
    obtain ⟨a, rfl, h3⟩ := p.ints h1
    refine cr_tupS pins s σ H _ us Q I rv ⟨a, ns, rfl, h3, fun ns' p k1 k2 n => ?_⟩
    rw [sorted_uniq (k1.trans (sortI_perm ns).symm) k2 (sortI_sorted ns)]
    exact q _ _ (pout_lst n ha (.of_ints _))
  · exact absurd rfl hf.1
  · exact absurd rfl hf.1
  · rename_i b
    cases h
    obtain ⟨v, rfl, p⟩ := pk1 pk
    cases p.bool
    exact call_int1 pins s σ H _ us Q I rv (.inr ⟨b, rfl, q _ _ (pout_same (.int _))⟩)
  · rename_i i
    cases h
    obtain ⟨v, rfl, p⟩ := pk1 pk
    cases p.int
    exact call_int1 pins s σ H _ us Q I rv (.inl ⟨i, rfl, q _ _ (pout_same (.int _))⟩)
  · rename_i i
    cases h
    obtain ⟨v, rfl, p⟩ := pk1 pk
    cases p.int
    exact call_abs pins s σ H _ us Q I rv ⟨i, rfl, q _ _ (pout_same (.int _))⟩
  · rename_i i j
    split at h
    · rename_i hz
      cases h
      obtain ⟨v, w, rfl, p1, p2⟩ := pk2 pk
      cases p1.int
      cases p2.int
      exact call_divmod pins s σ H _ us Q I rv ⟨i, j, rfl, hz, fun p n => q _ _ (pout_tup n ha (.cons (.int _) (.cons (.int _) .nil)))⟩
    · cases h
  · exact absurd rfl hf.2.1
  · obtain ⟨ns, h1, h⟩ := Option.bind_eq_some_iff.mp h
    obtain ⟨m, h2, rfl⟩ := Option.map_eq_some_iff.mp h
    obtain ⟨v, rfl, p⟩ := pk1 pk
    obtain ⟨a, rfl, h3⟩ := p.ints h1
    obtain ⟨z1, z2⟩ := minI_mem h2
    refine cr_minT hc pins s σ H _ us Q I rv ⟨a, ns, rfl, h3, List.length_pos_of_mem z1, fun m' y1 y2 => ?_⟩
    have e : m' = m := Int.le_antisymm (y2 m z1) (z2 m' y1)
    subst e
    exact q _ _ (pout_same (.int _))
  · rename_i i
    split at h
    · rename_i hz
      cases h
      obtain ⟨v, rfl, p⟩ := pk1 pk
      cases p.int
      exact call_str_int pins s σ H _ us Q I rv ⟨i, rfl, hz, q _ _ (pout_same (.str _))⟩
    · cases h
  · rename_i b
    cases h
    obtain ⟨v, rfl, p⟩ := pk1 pk
    cases p.bool
    exact call_str_bool pins s σ H _ us Q I rv ⟨b, rfl, q _ _ (pout_same (.str _))⟩
  · split at h
    · rename_i hz
      cases h
      obtain ⟨v, rfl, p⟩ := pk1 pk
      exact call_reprD hg hu pins s σ H _ us Q I rv ⟨A, v, _, rfl, p, hz, q _ _ (pout_same (.str _))⟩
    · cases h
  · cases h
/-! ### sets of rows -/
theorem rows_ks {K : PySem.W.Frag} {A : AS} {H : Hp} : ∀ {xs : List V} {L : List (List Int)}, DpAs K A H xs (L.map rowD) → ∃ ks : List (Addr × List Int), xs = (ks.map fun p => V.ref p.1) ∧ ks.map (·.2) = L ∧ ∀ p ∈ ks, DpA K A H (.ref p.1) (rowD p.2)
  | [], [], _ => ⟨[], rfl, rfl, fun p h => nomatch h⟩
  | [], _ :: _, h => by cases h
  | _ :: _, [], h => by cases h
  | y :: xs, r :: L, h => by
    rw [List.map_cons] at h
    cases h with
    | cons h t =>
      obtain ⟨ks, h1, h2, h3⟩ := rows_ks t
      obtain ⟨a, rfl, _⟩ := tupI_of h
      refine ⟨(a, r) :: ks, by rw [h1]; rfl, by rw [List.map_cons, h2], fun p hp => ?_⟩
      rcases List.mem_cons.mp hp with e | hp
      · subst e; exact h
      · exact h3 p hp
theorem ks_dpas {K : PySem.W.Frag} {A : AS} {H : Hp} : ∀ {ks : List (Addr × List Int)}, (∀ p ∈ ks, DpA K A H (.ref p.1) (rowD p.2)) → DpAs K A H (ks.map fun p => V.ref p.1) ((ks.map (·.2)).map rowD)
  | [], _ => .nil
  | p :: ks, h => .cons (h p List.mem_cons_self) (ks_dpas fun q hq => h q (List.mem_cons_of_mem _ hq))
/-- set(d), d a list or a tuple of rows -/
def rSetD (K : PySem.W.Frag) (P : Program) (w : World) : List V → Hp → VK → Prop := fun vs H Q => ∃ A v d ds L, vs = [v] ∧ PK K A H v d ∧ seqD d = some ds ∧ rowsD ds = some L ∧ okRows L = true ∧
  ∀ a (M : List (Addr × List Int)), H a = none → (∀ p ∈ M, DpA K A H (.ref p.1) (rowD p.2)) → (∀ r, r ∈ M.map (·.2) ↔ r ∈ L) → Q (.ref a) (upd H a (SetTO P w a M))
theorem cr_setD (hc : X.calm = true) (hu : X.A.units + 64 < cLine) : CallR X (.type "set") (rSetD X.K X.prog X.w) := by
  intro pins s σ H vs us Q I rv h
  obtain ⟨A, v, d, ds, L, rfl, p, h1, h2, ok, q⟩ := h
  obtain ⟨hl, _⟩ := okRows_at ok
  have fin : ∀ {xs : List V}, DpAs X.K A H xs ds → ∃ ks : List (Addr × List Int), xs = (ks.map fun p => V.ref p.1) ∧ (∀ p ∈ ks, SqT X.K H p.1 (p.2.map V.int)) ∧ ks.length < 64 ∧ ∀ a M, H a = none → (∀ p ∈ M, p ∈ ks) → (∀ p ∈ ks, p.2 ∈ M.map (·.2)) → Q (.ref a) (upd H a (SetTO X.prog X.w a M)) := fun {xs} h => by
    rw [rowsD_map h2] at h
    obtain ⟨ks, e1, e2, e3⟩ := rows_ks h
    refine ⟨ks, e1, fun p hp => ?_, by rw [← List.length_map (f := (·.2)), e2]; exact hl, fun a M n m1 m2 => q a M n (fun p hp => e3 p (m1 p hp)) fun r => ⟨fun hr => ?_, fun hr => ?_⟩⟩
    · obtain ⟨t, e, g⟩ := tupI_of (e3 p hp)
      cases e
      exact g
    · obtain ⟨p, hp, rfl⟩ := List.mem_map.mp hr
      rw [← e2]
      exact List.mem_map.mpr ⟨p, m1 p hp, rfl⟩
    · rw [← e2] at hr
      obtain ⟨p, hp, rfl⟩ := List.mem_map.mp hr
      exact m2 p hp
  cases d <;> first | (cases h1; done) | skip
  · cases h1
    obtain ⟨a, xs, rfl, g1, g2⟩ := p.list
    obtain ⟨ks, rfl, k1, k2, k3⟩ := fin g2
    exact cr_setOfT hc hu pins s σ H _ us Q I rv ⟨a, ks, rfl, .inl g1, k1, k2, k3⟩
  · cases h1
    obtain ⟨a, xs, rfl, g1, g2⟩ := p.tup
    obtain ⟨ks, rfl, k1, k2, k3⟩ := fin g2
    exact cr_setTT hc hu pins s σ H _ us Q I rv ⟨a, ks, rfl, g1.sq, k1, k2, fun a M n m1 m2 _ => k3 a M n m1 m2⟩
theorem perm_ded {M L : List (List Int)} (h : M.Nodup) (e : ∀ r, r ∈ M ↔ r ∈ L) : M.Perm (dedR L) := by
  refine (List.perm_ext_iff_of_nodup h (dedR_nodup L)).mpr fun r => ?_
  rw [e, mem_dedR]
theorem dedR_sub {L : List (List Int)} : ∀ r ∈ dedR L, r ∈ L := fun r h => mem_dedR.mp h
/-- sorted(set), len(set) -/
theorem cr_lenT (hc : X.calm = true) : CallR X (.builtin "len") (fun vs H Q => ∃ (a : Addr) (M : List (Addr × List Int)), vs = [.ref a] ∧ H a = some (SetTO X.prog X.w a M) ∧ (∀ p ∈ M, SqT X.K H p.1 (p.2.map V.int)) ∧ ((M.map (·.2)).Nodup → Q (.int M.length) H)) := by
  intro pins s σ H vs us Q I r h
  obtain ⟨a, M, rfl, ha, hk, q⟩ := h
  have R0 : SetT0 X.prog X.w s.heap a M := (I.hok a _ ha).1
  obtain ⟨es, ep, t, R⟩ := R0.full fun p hp => I.isT (hk p hp)
  rw [Vals.ref1 r]
  obtain ⟨o, ho, hex, hd⟩ := R.ob
  have z := R.size
  have few := R.few
  refine call_len_set ho hex hd R.fits (by rw [z]; omega) ⟨.int M.length, H, I.tok _, ⟨_, by rw [z]⟩, q R.nd⟩

/-! ### isinstance -/
def tyN : Ty → String
  | .int => "int"
  | .bool => "bool"
  | .str => "str"
  | .tuple => "tuple"
  | .list => "list"
theorem PK.ty {K : PySem.W.Frag} {A : AS} {H : Hp} {v : V} {d : D} (h : PK K A H v d) (nr : isRo d = false) : ∃ n, TyX K H v (.type n) ∧ ∀ t, kitB n (tyN t) = some (isTy t d) := by
  rcases h with h | ⟨a, c, rfl, rfl, h3⟩
  · cases h with
    | non => exact ⟨_, .base .non, fun t => by cases t <;> decide +kernel⟩
    | bl b => exact ⟨_, .base (.bl b), fun t => by cases t <;> (simp only [isTy]; decide +kernel)⟩
    | int i => exact ⟨_, .base (.int i), fun t => by cases t <;> (simp only [isTy]; decide +kernel)⟩
    | str x => exact ⟨_, .base (.str x), fun t => by cases t <;> (simp only [isTy]; decide +kernel)⟩
    | lst h n hs =>
      refine ⟨"list", ?_, fun t => by cases t <;> (simp only [isTy]; decide +kernel)⟩
      rcases h with h | ⟨o, h⟩
      · exact .base (.lst h)
      · exact .base (.frz h)
    | tup h hs =>
      refine ⟨"tuple", ?_, fun t => by cases t <;> (simp only [isTy]; decide +kernel)⟩
      rcases h with ⟨h | ⟨o, h⟩, n⟩ | ⟨ob, its, n, h1, h2, h3⟩
      · exact .base (.tup h)
      · exact .fTuple h
      · exact .kTuple h1 h2
    | ro h hs => simp [isRo] at nr
    | dK h n hs => exact ⟨"dict", .base (.dK h), fun t => by cases t <;> (simp only [isTy]; decide +kernel)⟩
    | dT h n hs => exact ⟨"dict", .base (.dT h), fun t => by cases t <;> (simp only [isTy]; decide +kernel)⟩
  · cases c with
    | lst ds =>
      obtain ⟨xs, h4, h5⟩ := h3
      exact ⟨"list", .base (.lst h4), fun t => by cases t <;> (simp only [isTy, Cel.d]; decide +kernel)⟩
    | dic kvs =>
      rcases h3 with ⟨kv, h4, h5⟩ | ⟨kv, h4, h5⟩
      · exact ⟨"dict", .base (.dK h4), fun t => by cases t <;> (simp only [isTy, Cel.d]; decide +kernel)⟩
      · exact ⟨"dict", .base (.dT h4), fun t => by cases t <;> (simp only [isTy, Cel.d]; decide +kernel)⟩
theorem call_isiD (t : Ty) : CallR X (.builtin "isinstance") (fun vs H Q => ∃ A x d, vs = [x, .ty (tyN t)] ∧ PK X.K A H x d ∧ isRo d = false ∧ Q (.bl (isTy t d)) H) := by
  intro pins s σ H vs us Q I rv h
  obtain ⟨A, x, d, rfl, p, nr, q⟩ := h
  obtain ⟨n, h1, h2⟩ := p.ty nr
  exact call_isi pins s σ H _ us Q I rv ⟨x, .ty (tyN t), .type n, .type (tyN t), isTy t d, rfl, .ty _, h1, kit_ty (h2 t), q⟩
end
end Ev

/-! Ev, part E: readings by the evaluator, one rule a construct. -/
namespace Ev
open PySem L2

/-- how an outcome is known: from (F, H) to (F', H') -/
abbrev OT (α β : Type) := AS → AS → (Nat → AS × AS) → St → (Nat → AS) → Hp → (Nat → AS) → Hp → En → β → α → Prop
section
variable (K : PySem.W.Frag) (mg : Str → Option Value)
def OOut : OT PV V := fun W G B σ F H F' H' e' v pv => Out K W G B F H σ F' H' e' v pv
def OOf {α β : Type} (O : AS → Hp → St → β → α → Prop) : OT α β := fun W G B σ F H F' H' e' b a => OutOf K O W G B F H σ F' H' e' b a
def Reb {α β : Type} (O : OT α β) : Prop := ∀ W G B σ F H F1 H1 e e1 F' H' e' b a, Rel K W G B F H σ e → Rel K W G B F1 H1 σ e1 → Stp W F H W F1 H1 →
  O W G B σ F1 H1 F' H' e' b a → O W G B σ F H F' H' e' b a
def Adv {α β : Type} (O : OT α β) (P : AS → Hp → St → β → α → Prop) : Prop := ∀ W G B σ F H e F' H' e' b a, Rel K W G B F H σ e → O W G B σ F H F' H' e' b a →
  Rel K W G B F' H' σ e' ∧ Stp W F H W F' H' ∧ P (AV W F') H' σ b a
def tR {α β : Type} (O : OT α β) (XW : WX) (m : En → Rs α) (σ : St) (H : Hp) (Q : β → Hp → Prop) : Prop :=
  ∃ W G B F e, Rel K W G B F H σ e ∧ Res K mg XW (O W G B σ) W G B F H σ (m e) Q
def tE (XW : WX) (m : En → Rs PV) : TE := tR K mg (OOut K) XW m
/-- a test -/
def OBool : AS → Hp → St → Bool → Bool → Prop := fun _ _ _ b a => b = a
def tTst (XW : WX) (m : En → Rs Bool) : TT := tR K mg (OOf K (OBool)) XW m
def OPs : AS → Hp → St → List V → List PV → Prop := fun A H σ vs ps => Paired (fun v p => Opv K A H σ v p) vs ps
def OVs : AS → Hp → St → List V → List D → Prop := fun A H _ vs ds => DpAs K A H vs ds
def OAs : AS → Hp → St → List V → List Ar → Prop := fun A H σ vs as => Paired (fun v a => match a with
  | .d d => DpA K A H v d
  | .b i => σ[i]? = some (some v)) vs as
end
section
variable {K : PySem.W.Frag} {mg : Str → Option Value}
theorem reb_out : Reb K (OOut K) := fun W G B σ F H F1 H1 e e1 F' H' e' b a r0 r1 st o => Out.rebase r0 r1 st o
theorem reb_of {α β : Type} {O : AS → Hp → St → β → α → Prop} : Reb K (OOf K O) := fun W G B σ F H F1 H1 e e1 F' H' e' b a r0 r1 st o => ⟨o.1, st.trans o.2.1, o.2.2⟩
theorem adv_out : Adv K (OOut K) (Opv K) := fun W G B σ F H e F' H' e' b a r o => Out.opv o r
theorem adv_of {α β : Type} {O : AS → Hp → St → β → α → Prop} : Adv K (OOf K O) O := fun W G B σ F H e F' H' e' b a r o => o
variable {W G : AS} {B : Nat → AS × AS} {F F1 : Nat → AS} {H H1 : Hp} {σ : St} {e e1 : En} {XW : WX}
/-- a part first, then what follows it -/
theorem seq {α α' β β' : Type} {O1 : OT α' β'} {P1 : AS → Hp → St → β' → α' → Prop} {O : OT α β} (adv : Adv K O1 P1) (reb : Reb K O) {m : Rs α'} {f : α' → En → Rs α} {Q : β → Hp → Prop} {P : β' → Hp → Prop} (r : Rel K W G B F H σ e)
    (h : Res K mg XW (O W G B σ) W G B F H σ (m.bind f) Q)
    (k : ∀ a e1 b H1 F1, Rel K W G B F1 H1 σ e1 → Stp W F H W F1 H1 → P1 (AV W F1) H1 σ b a → Res K mg XW (O W G B σ) W G B F1 H1 σ (f a e1) Q → P b H1) :
    Res K mg XW (O1 W G B σ) W G B F H σ m P := by
  cases m with
  | no => exact h
  | ex x e1 => exact h
  | ok a e1 =>
    intro b H1 F1 o
    obtain ⟨r1, st, p⟩ := adv W G B σ F H e F1 H1 e1 b a r o
    refine k a e1 b H1 F1 r1 st p ?_
    have h' : Res K mg XW (O W G B σ) W G B F H σ (f a e1) Q := h
    cases q : f a e1 with
    | no => rw [q] at h'; exact h'
    | ok c e2 =>
      rw [q] at h'
      intro b2 H2 F2 o2
      exact h' b2 H2 F2 (reb W G B σ F H F1 H1 e e1 F2 H2 e2 b2 c r r1 st o2)
    | ex x e2 =>
      rw [q] at h'
      intro cls d H2 F2 o2
      exact h' cls d H2 F2 ⟨o2.1, st.trans o2.2.1, o2.2.2⟩
theorem PE.imp {X : Cx} {a : Expr} {t t' : TE} (h : PE X a t) (i : ∀ σ H Q, t' σ H Q → t σ H Q) : PE X a t' := ⟨fun pins s σ H Q I q => h.run pins s σ H Q I (i σ H Q q)⟩
theorem PT.imp {X : Cx} {a : Expr} {t t' : TT} (h : PT X a t) (i : ∀ σ H Q, t' σ H Q → t σ H Q) : PT X a t' := ⟨fun pins s σ H Q I q => h.run pins s σ H Q I (i σ H Q q)⟩
theorem PAimp {X : Cx} {a : List Expr} {t t' : TA} (h : PA X a t) (i : ∀ σ H Q, t' σ H Q → t σ H Q) : PA X a t' := ⟨fun pos pins s σ H Q I q => h.run pos pins s σ H Q I (i σ H Q q)⟩
/-- a result that an operation lays -/
theorem out_of {r : R} {v : V} {H' : Hp} (rel : Rel K W G B F H σ e) (p : POut K (AV W F) H v H' r) : Out K W G B F H σ F H' e v (.r r) := by
  cases r with
  | v d =>
    obtain ⟨h1, h2⟩ := p
    exact ⟨rel.ext h1 fun b z => .inl z, stp_of h1 (fun _ z _ => z) fun i _ z _ => ⟨i, z⟩, h2⟩
  | o c =>
    obtain ⟨p, rfl, n, h1, h2⟩ := p
    have there : H' p ≠ none := h2.there
    have e1 : ∀ b, AV (plus W fun b => b = p) F b ↔ plus (AV W F) (fun b => b = p) b := fun b =>
      ⟨fun z => z.elim (fun z => z.elim (fun z => .inl (.inl z)) .inr) fun z => .inl (.inr z), fun z => z.elim (fun z => z.elim (fun z => .inl (.inl z)) .inr) fun z => .inl (.inr z)⟩
    refine ⟨p, fun b => b = p, rfl, rfl, fun b z => ?_, rel.ext h1 fun b z => ?_, stp_of h1 (fun b z q => ?_) (fun i b z _ => ⟨i, z⟩), ?_⟩
    · subst z
      exact ⟨fun g => rel.gt _ g n, .inl n⟩
    · rcases z with z | z
      · exact .inl z
      · subst z; exact .inr ⟨n, there⟩
    · rcases (e1 b).mp z with z | z
      · exact z
      · subst z; exact absurd n q
    · exact h2.step (step_of (Same.refl H') fun b z _ => (e1 b).mp z) fun o q => q
theorem app2_out {f : D → D → Option R} {x y : PV} {v w : V} {Q : V → Hp → Prop} (rel : Rel K W G B F H σ e) (o1 : Opv K (AV W F) H σ v x) (o2 : Opv K (AV W F) H σ w y)
    (h : Res K mg XW (OOut K W G B σ) W G B F H σ (app2 f x y e) Q) : rD K f v w H Q := by
  unfold app2 at h
  split at h
  · rename_i d d' h1 h2
    split at h
    · rename_i r hr
      exact ⟨AV W F, d, d', r, rel.at, o1.pk rel h1, o2.pk rel h2, hr, fun v H' p => h v H' F (out_of rel p)⟩
    · exact h.elim
  · exact h.elim
theorem app1_out {f : D → Option R} {x : PV} {v : V} {Q : V → Hp → Prop} (rel : Rel K W G B F H σ e) (o1 : Opv K (AV W F) H σ v x)
    (h : Res K mg XW (OOut K W G B σ) W G B F H σ (app1 f x e) Q) : ∃ d r, (∀ b, AV W F b → H b ≠ none) ∧ PK K (AV W F) H v d ∧ f d = some r ∧ ∀ v H', POut K (AV W F) H v H' r → Q v H' := by
  unfold app1 at h
  split at h
  · rename_i d h1
    split at h
    · rename_i r hr
      exact ⟨d, r, rel.at, o1.pk rel h1, hr, fun v H' p => h v H' F (out_of rel p)⟩
    · exact h.elim
  · exact h.elim
theorem gets_pk {ps : List PV} {vs : List V} {ds : List D} (rel : Rel K W G B F H σ e) (o : OPs K (AV W F) H σ vs ps) (h : gets ps e = some ds) : Paired (PK K (AV W F) H) vs ds := by
  induction o generalizing ds with
  | nil => cases h; exact .nil
  | cons o1 os ih =>
    unfold gets at h
    split at h
    · rename_i d ds' h1 h2
      cases h
      exact .cons (o1.pk rel h1) (ih h2)
    · cases h
theorem appN_out {f : List D → Option R} {ps : List PV} {vs : List V} {Q : V → Hp → Prop} (rel : Rel K W G B F H σ e) (o1 : OPs K (AV W F) H σ vs ps)
    (h : Res K mg XW (OOut K W G B σ) W G B F H σ (appN f ps e) Q) : rN K f vs H Q := by
  unfold appN at h
  split at h
  · rename_i ds h1
    split at h
    · rename_i r hr
      exact ⟨AV W F, ds, r, rel.at, gets_pk rel o1 h1, hr, fun v H' p => h v H' F (out_of rel p)⟩
    · exact h.elim
  · exact h.elim
theorem boolOf_opv {p : PV} {b : Bool} {A : AS} {v : V} (h : boolOf p = some b) (o : Opv K A H σ v p) : v = .bl b := by
  unfold boolOf at h
  split at h
  · cases h
    cases o
    rfl
  · cases h
theorem intOf_opv {p : PV} {b : Int} {A : AS} {v : V} (h : intOf p = some b) (o : Opv K A H σ v p) : v = .int b := by
  unfold intOf at h
  split at h
  · cases h
    cases o
    rfl
  · cases h
theorem dpa_bool {A : AS} {b : Bool} : DpA K A H (.bl b) (.bool b) := .bl b
/-- the end of an expression whose value is at hand -/
theorem out_v {d : D} {v : V} (rel : Rel K W G B F H σ e) (p : DpA K (AV W F) H v d) : Out K W G B F H σ F H e v (.r (.v d)) := ⟨rel, .refl, p⟩
end

section
variable {X : Cx} {mg : Str → Option Value} {XW : WX} {a b c : Expr} {pos : Pos} {ma mb mc : En → Rs PV}
theorem snd_bin {op : Operator} (ha : PE X a (tE X.K mg XW ma)) (hb : PE X b (tE X.K mg XW mb)) :
    PE X (.BinOp a op b pos) (tE X.K mg XW fun e => (ma e).bind fun x e => (mb e).bind fun y e => app2 (bopD op) x y e) := by
  refine PE.imp (pe_op (op_binD op) ha hb) fun σ H Q h => ?_
  obtain ⟨W, G, B, F, e, rel, h⟩ := h
  refine ⟨W, G, B, F, e, rel, seq adv_out reb_out rel h fun x e1 v H1 F1 r1 s1 o1 h => ?_⟩
  refine ⟨W, G, B, F1, e1, r1, seq adv_out reb_out r1 h fun y e2 w H2 F2 r2 s2 o2 h => ?_⟩
  exact app2_out r2 (o1.step s2.step) o2 h
theorem snd_cmp {op : CmpOp} (hu : X.A.units + 65 < cLine) (hm : behindInMarks op b = false) (ha : PE X a (tE X.K mg XW ma)) (hb : PE X b (tE X.K mg XW mb)) :
    PE X (.Compare a [op] [b] pos) (tE X.K mg XW fun e => (ma e).bind fun x e => (mb e).bind fun y e => app2 (cmpR op) x y e) := by
  refine PE.imp (pe_cmpR (op_cmpD hu op) ha hb hm) fun σ H Q h => ?_
  obtain ⟨W, G, B, F, e, rel, h⟩ := h
  refine ⟨W, G, B, F, e, rel, seq adv_out reb_out rel h fun x e1 v H1 F1 r1 s1 o1 h => ?_⟩
  refine ⟨W, G, B, F1, e1, r1, seq adv_out reb_out r1 h fun y e2 w H2 F2 r2 s2 o2 h => ?_⟩
  exact app2_out r2 (o1.step s2.step) o2 h
theorem snd_idx (hu : X.A.units + 1 < cLine) (ha : PE X a (tE X.K mg XW ma)) (hb : PE X b (tE X.K mg XW mb)) (hp : PlainIx b) :
    PE X (.Subscript a b pos) (tE X.K mg XW fun e => (ma e).bind fun x e => (mb e).bind fun y e => app2 idxD x y e) := by
  refine PE.imp (pe_ix (ix_D hu) ha hb hp) fun σ H Q h => ?_
  obtain ⟨W, G, B, F, e, rel, h⟩ := h
  refine ⟨W, G, B, F, e, rel, seq adv_out reb_out rel h fun x e1 v H1 F1 r1 s1 o1 h => ?_⟩
  refine ⟨W, G, B, F1, e1, r1, seq adv_out reb_out r1 h fun y e2 w H2 F2 r2 s2 o2 h => ?_⟩
  exact app2_out r2 (o1.step s2.step) o2 h
theorem snd_neg (ha : PE X a (tE X.K mg XW ma)) :
    PE X (.UnaryOp .USub a pos) (tE X.K mg XW fun e => (ma e).bind fun x e => match intOf x with
      | some i => .ok (.r (.v (.int (-i)))) e
      | none => .no) := by
  refine PE.imp (pe_un un_neg ha) fun σ H Q h => ?_
  obtain ⟨W, G, B, F, e, rel, h⟩ := h
  refine ⟨W, G, B, F, e, rel, seq adv_out reb_out rel h fun x e1 v H1 F1 r1 s1 o1 h => ?_⟩
  split at h
  · rename_i i hi
    exact ⟨i, intOf_opv hi o1, h _ _ _ (out_v r1 (.int _))⟩
  · exact h.elim
theorem snd_not (ha : PE X a (tE X.K mg XW ma)) :
    PE X (.UnaryOp .Not a pos) (tE X.K mg XW fun e => testB (ma e) fun k e => .ok (.r (.v (.bool (!k)))) e) := by
  refine PE.imp (pe_not ha) fun σ H Q h => ?_
  obtain ⟨W, G, B, F, e, rel, h⟩ := h
  refine ⟨W, G, B, F, e, rel, seq adv_out reb_out rel h fun x e1 v H1 F1 r1 s1 o1 h => ?_⟩
  split at h
  · rename_i k hk
    exact ⟨k, boolOf_opv hk o1, h _ _ _ (out_v r1 (.bl _))⟩
  · exact h.elim
theorem snd_chn {o1 o2 : CmpOp} (hu : X.A.units + 65 < cLine) (hm : lastMarks [o1, o2] [b, c] = false) (ha : PE X a (tE X.K mg XW ma)) (hb : PE X b (tE X.K mg XW mb)) (hc : PE X c (tE X.K mg XW mc)) :
    PE X (.Compare a [o1, o2] [b, c] pos) (tE X.K mg XW fun e => (ma e).bind fun x e => (mb e).bind fun y e => testB (app2 (cmpR o1) x y e) fun k e => match k with
      | false => .ok (.r (.v (.bool false))) e
      | true => (mc e).bind fun z e => app2 (cmpR o2) y z e) := by
  refine PE.imp (pe_chain (op_cmpD hu o1) (op_cmpD hu o2) ha hb hc hm) fun σ H Q h => ?_
  obtain ⟨W, G, B, F, e, rel, h⟩ := h
  refine ⟨W, G, B, F, e, rel, seq adv_out reb_out rel h fun x e1 v H1 F1 r1 s1 o1 h => ?_⟩
  refine ⟨W, G, B, F1, e1, r1, seq adv_out reb_out r1 h fun y e2 w H2 F2 r2 s2 o2 h => ?_⟩
  refine app2_out r2 (o1.step s2.step) o2 (seq adv_out reb_out r2 h fun p e3 u H3 F3 r3 s3 o3 h => ?_)
  split at h
  · rename_i k hk
    refine ⟨k, boolOf_opv hk o3, ?_⟩
    cases k with
    | false => exact iteF (h _ _ _ (out_v r3 (.bl _)))
    | true =>
      refine iteT ⟨W, G, B, F3, e3, r3, seq adv_out reb_out r3 h fun z e4 w' H4 F4 r4 s4 o4 h => ?_⟩
      exact app2_out r4 (o2.step (s3.trans s4).step) o4 h
  · exact h.elim
theorem snd_ite {mt : En → Rs Bool} (hc : PT X c (tTst X.K mg XW mt)) (ha : PE X a (tE X.K mg XW ma)) (hb : PE X b (tE X.K mg XW mb)) :
    PE X (.IfExp c a b pos) (tE X.K mg XW fun e => (mt e).bind fun k e => match k with
      | true => ma e
      | false => mb e) := by
  refine PE.imp (pe_ifExp hc ha hb) fun σ H Q h => ?_
  obtain ⟨W, G, B, F, e, rel, h⟩ := h
  refine ⟨W, G, B, F, e, rel, seq adv_of reb_out rel h fun k e1 b' H1 F1 r1 s1 o1 h => ?_⟩
  have o1 : b' = k := o1
  subst o1
  cases b' with
  | true => exact iteT ⟨W, G, B, F1, e1, r1, h⟩
  | false => exact iteF ⟨W, G, B, F1, e1, r1, h⟩
theorem snd_slc {lo hi : Option Expr} {ml mh : En → Rs (Option Int)} {p2 : Pos} (ha : PE X a (tE X.K mg XW ma)) (hl : PO X lo (tR X.K mg (OOf X.K fun _ _ _ b a => b = a) XW ml)) (hh : PO X hi (tR X.K mg (OOf X.K fun _ _ _ b a => b = a) XW mh)) :
    PE X (.Subscript a (.Slice lo hi none p2) pos) (tE X.K mg XW fun e => (ma e).bind fun x e => (ml e).bind fun l e => (mh e).bind fun h e => app1 (fun d => slcD d l h) x e) := by
  refine PE.imp (pe_slice sl_D ha hl hh) fun σ H Q h => ?_
  obtain ⟨W, G, B, F, e, rel, h⟩ := h
  refine ⟨W, G, B, F, e, rel, seq adv_out reb_out rel h fun x e1 v H1 F1 r1 s1 o1 h => ?_⟩
  refine ⟨W, G, B, F1, e1, r1, seq adv_of reb_out r1 h fun l e2 l' H2 F2 r2 s2 o2 h => ?_⟩
  refine ⟨W, G, B, F2, e2, r2, seq adv_of reb_out r2 h fun u e3 u' H3 F3 r3 s3 o3 h => ?_⟩
  have o2 : l' = l := o2
  have o3 : u' = u := o3
  subst o2 o3
  obtain ⟨d, r, h1, h2, h3, h4⟩ := app1_out r3 (o1.step (s2.trans s3).step) h
  exact ⟨_, d, r, h1, h2, h3, h4⟩
end
end Ev

/-! Ev, part F: variables, displays, arguments, built-ins, cells changed. -/
namespace Ev
open PySem L2
section
variable {K : PySem.W.Frag} {mg : Str → Option Value} {W G : AS} {B : Nat → AS × AS} {F : Nat → AS} {H H' : Hp} {σ : St} {e : En} {XW : WX} {i : Nat} {c : Cel} {v : V} {d : D}
def fset (F : Nat → AS) (i : Nat) (fp : AS) : Nat → AS := fun j b => if j = i then fp b else F j b
theorem fset_same {fp : AS} {b : Addr} : fset F i fp i b ↔ fp b := by unfold fset; rw [if_pos rfl]
theorem fset_ne {fp : AS} {b : Addr} {j : Nat} (h : j ≠ i) : fset F i fp j b ↔ F j b := by unfold fset; rw [if_neg h]
theorem fset_sub {b : Addr} {j : Nat} (h : fset F i (fun _ => False) j b) : F j b := by
  unfold fset at h
  split at h
  · exact h.elim
  · exact h
theorem slot_own (r : Rel K W G B F H σ e) (h : e[i]? = some (some (.own c))) : ∃ a, σ[i]? = some (some (.ref a)) ∧ CelAt K (AV W F) H a c ∧ F i a ∧ ∀ b, F i b → ¬ G b := by
  obtain ⟨v, h1, a, rfl, h2, h3, h4⟩ := r.slot i _ h
  exact ⟨a, h1, h2, h3, h4⟩
theorem slot_bor (r : Rel K W G B F H σ e) (h : e[i]? = some (some (.bor c))) : ∃ a, σ[i]? = some (some (.ref a)) ∧ CelAt K (AV W F) H a c ∧ F i a ∧ (∀ b, (B i).1 b ↔ b = a) ∧ ∀ b, F i b → (B i).2 b ∨ ¬ G b := by
  obtain ⟨v, h1, a, rfl, h2, h3, h4⟩ := r.slot i _ h
  exact ⟨a, h1, h2, h3, h4⟩
theorem lt_of_slot {s : Option Slot} (h : e[i]? = some s) : i < e.length := (List.getElem?_eq_some_iff.mp h).1
theorem get_set {s : Option Slot} {j : Nat} {t : Option Slot} (h : (e.set i s)[j]? = some t) : (j = i ∧ t = s) ∨ (j ≠ i ∧ e[j]? = some t) := by
  by_cases hj : j = i
  · subst hj
    by_cases hl : j < e.length
    · rw [List.getElem?_set_self hl] at h
      cases h
      exact .inl ⟨rfl, rfl⟩
    · rw [List.getElem?_eq_none (by rw [List.length_set]; omega)] at h
      cases h
  · rw [List.getElem?_set_ne (Ne.symm hj)] at h
    exact .inr ⟨hj, h⟩
theorem slotR_fewer {A A' Gs : AS} {Bs : AS × AS} {fp fp' : AS} {s : Slot} (h : SlotR K A Gs Bs H fp v s) (hs : ∀ b, A' b → A b) (hf : ∀ b, fp' b ↔ fp b) : SlotR K A' Gs Bs H fp' v s := by
  have st : Step A H A' H := Step.refl.weak hs
  cases s with
  | val d => exact DpA.fewer h hs
  | own c =>
    obtain ⟨a, h1, h2, h3, h4⟩ := h
    exact ⟨a, h1, h2.step st fun _ q => q, (hf a).mpr h3, fun b z => h4 b ((hf b).mp z)⟩
  | bor c =>
    obtain ⟨a, h1, h2, h3, h4⟩ := h
    exact ⟨a, h1, h2.step st fun _ q => q, (hf a).mpr h3, h4.1, fun b z => h4.2 b ((hf b).mp z)⟩
/-- a cell becomes a value -/
theorem Rel.freeze (r : Rel K W G B F H σ e) (h : e[i]? = some (some (.own c))) : ∃ a, σ[i]? = some (some (.ref a)) ∧ DpA K (AV W (fset F i fun _ => False)) H (.ref a) c.d ∧ Rel K W G B (fset F i fun _ => False) H σ (e.set i (some (.val c.d))) := by
  obtain ⟨a, h1, h2, h3, h4⟩ := slot_own r h
  have sub : ∀ b, AV W (fset F i fun _ => False) b → AV W F b := fun b z => z.elim .inl fun ⟨j, z⟩ => .inr ⟨j, fset_sub z⟩
  have na : ¬ AV W (fset F i fun _ => False) a := fun z => by
    rcases z with z | ⟨j, z⟩
    · exact r.fw i a h3 z
    · have hj : j = i := r.ff j i a (fset_sub z) h3
      subst hj
      exact fset_same.mp z
  have d : DpA K (AV W (fset F i fun _ => False)) H (.ref a) c.d := h2.dat na sub
  refine ⟨a, h1, d, by rw [List.length_set]; exact r.len, r.wt, r.gt, fun j b z => r.ft j b (fset_sub z), fun j b z => r.fw j b (fset_sub z), fun j k b y z => r.ff j k b (fset_sub y) (fset_sub z), fun j s z => ?_⟩
  rcases get_set z with ⟨rfl, q⟩ | ⟨hj, q⟩
  · cases q
    exact ⟨_, h1, d⟩
  · obtain ⟨v, h5, h6⟩ := r.slot j s q
    exact ⟨v, h5, slotR_fewer h6 sub fun b => fset_ne hj⟩
/-- a cell is taken out -/
theorem Rel.take (r : Rel K W G B F H σ e) (h : e[i]? = some (some (.own c))) : Rel K (plus W (F i)) G B (fset F i fun _ => False) H σ (e.set i none) ∧ ∀ b, AV (plus W (F i)) (fset F i fun _ => False) b ↔ AV W F b := by
  have same : ∀ b, AV (plus W (F i)) (fset F i fun _ => False) b ↔ AV W F b := fun b => by
    constructor
    · rintro ((z | z) | ⟨j, z⟩)
      · exact .inl z
      · exact .inr ⟨i, z⟩
      · exact .inr ⟨j, fset_sub z⟩
    · rintro (z | ⟨j, z⟩)
      · exact .inl (.inl z)
      · by_cases hj : j = i
        · subst hj; exact .inl (.inr z)
        · exact .inr ⟨j, (fset_ne hj).mpr z⟩
  refine ⟨⟨by rw [List.length_set]; exact r.len, fun b z => z.elim (r.wt b) (r.ft i b), r.gt, fun j b z => r.ft j b (fset_sub z), fun j b z w => ?_, fun j k b y z => r.ff j k b (fset_sub y) (fset_sub z), fun j s z => ?_⟩, same⟩
  · rcases w with w | w
    · exact r.fw j b (fset_sub z) w
    · have hj := r.ff j i b (fset_sub z) w
      subst hj
      exact fset_same.mp z
  · rcases get_set z with ⟨rfl, q⟩ | ⟨hj, q⟩
    · cases q
    · obtain ⟨v, h5, h6⟩ := r.slot j s q
      exact ⟨v, h5, slotR_fewer h6 (fun b => (same b).mp) fun b => fset_ne hj⟩
/-- a value is stored -/
theorem Rel.putVal (r : Rel K W G B F H σ e) (p : DpA K (AV W F) H v d) (hi : i < e.length) : Rel K W G B F H (σ.set i (some v)) (e.set i (some (.val d))) := by
  refine ⟨by rw [List.length_set, List.length_set]; exact r.len, r.wt, r.gt, r.ft, r.fw, r.ff, fun j s z => ?_⟩
  rcases get_set z with ⟨rfl, q⟩ | ⟨hj, q⟩
  · cases q
    exact ⟨v, List.getElem?_set_self (by rw [r.len]; exact hi), p⟩
  · obtain ⟨u, h5, h6⟩ := r.slot j s q
    exact ⟨u, by rw [List.getElem?_set_ne (Ne.symm hj)]; exact h5, h6⟩
/-- a cell is stored -/
theorem Rel.putOwn {fp : AS} {a : Addr} (r : Rel K (plus W fp) G B F H σ e) (hc : CelAt K (AV (plus W fp) F) H a c) (ha : fp a) (hg : ∀ b, fp b → ¬ G b) (hw : ∀ b, fp b → ¬ W b) (hi : i < e.length) :
    Rel K W G B (fset F i fp) H (σ.set i (some (.ref a))) (e.set i (some (.own c))) ∧ ∀ b, AV W (fset F i fp) b → AV (plus W fp) F b := by
  have sub : ∀ b, AV W (fset F i fp) b → AV (plus W fp) F b := by
    rintro b (z | ⟨j, z⟩)
    · exact .inl (.inl z)
    · by_cases hj : j = i
      · subst hj; exact .inl (.inr (fset_same.mp z))
      · exact .inr ⟨j, (fset_ne hj).mp z⟩
  refine ⟨⟨by rw [List.length_set, List.length_set]; exact r.len, fun b z => r.wt b (.inl z), r.gt, fun j b z => ?_, fun j b z w => ?_, fun j k b y z => ?_, fun j s z => ?_⟩, sub⟩
  · by_cases hj : j = i
    · subst hj; exact r.wt b (.inr (fset_same.mp z))
    · exact r.ft j b ((fset_ne hj).mp z)
  · by_cases hj : j = i
    · subst hj; exact hw b (fset_same.mp z) w
    · exact r.fw j b ((fset_ne hj).mp z) (.inl w)
  · by_cases hj : j = i
    · by_cases hk : k = i
      · rw [hj, hk]
      · subst hj; exact absurd (.inr (fset_same.mp y)) (r.fw k b ((fset_ne hk).mp z))
    · by_cases hk : k = i
      · subst hk; exact absurd (.inr (fset_same.mp z)) (r.fw j b ((fset_ne hj).mp y))
      · exact r.ff j k b ((fset_ne hj).mp y) ((fset_ne hk).mp z)
  · rcases get_set z with ⟨rfl, q⟩ | ⟨hj, q⟩
    · cases q
      exact ⟨_, List.getElem?_set_self (by rw [r.len]; exact hi), a, rfl, hc.step (Step.refl.weak sub) (fun _ q => q), fset_same.mpr ha, fun b z => hg b (fset_same.mp z)⟩
    · obtain ⟨u, h5, h6⟩ := r.slot j s q
      exact ⟨u, by rw [List.getElem?_set_ne (Ne.symm hj)]; exact h5, slotR_fewer h6 sub fun b => fset_ne hj⟩
/-- a cell changes in its place -/
theorem Rel.write {a : Addr} {o : HO} (r : Rel K W G B F H σ e) (hi : F i a) (mu : Mut (H a)) (c' : Cel) {s' : Slot} (hs : ∃ s, e[i]? = some (some s) ∧ ((∃ c, s = .own c ∧ s' = .own c') ∨ ∃ c, s = .bor c ∧ s' = .bor c')) (hv : σ[i]? = some (some (.ref a)))
    (hc : CelAt K (AV W F) (upd H a o) a c') : Rel K W G B F (upd H a o) σ (e.set i (some s')) ∧ Stp W F H W F (upd H a o) := by
  have ne : ∀ b, b ≠ a → upd H a o b = H b := fun b h => upd_ne h
  have trk : ∀ b, H b ≠ none → upd H a o b ≠ none := fun b h => by
    by_cases q : b = a
    · subst q; rw [upd_same]; simp
    · rw [ne b q]; exact h
  have st : Stp W F H W F (upd H a o) := ⟨fun b u q n => by
    rw [ne b fun z => n (by subst z; exact ⟨i, hi⟩)]
    exact q, trk, fun b z _ => z, fun i b z _ => ⟨i, z⟩⟩
  obtain ⟨s, hes, hs⟩ := hs
  refine ⟨⟨by rw [List.length_set]; exact r.len, fun b z => trk b (r.wt b z), fun b z => trk b (r.gt b z), fun j b z => trk b (r.ft j b z), r.fw, r.ff, fun j t z => ?_⟩, st⟩
  rcases get_set z with ⟨rfl, q⟩ | ⟨hj, q⟩
  · cases q
    refine ⟨_, hv, ?_⟩
    rcases hs with ⟨c, rfl, rfl⟩ | ⟨c, rfl, rfl⟩
    · obtain ⟨a', h1, h2, h3, h4⟩ := slot_own r hes
      rw [hv] at h1
      cases h1
      exact ⟨a, rfl, hc, hi, h4⟩
    · obtain ⟨a', h1, h2, h3, h4⟩ := slot_bor r hes
      rw [hv] at h1
      cases h1
      exact ⟨a, rfl, hc, hi, h4⟩
  · obtain ⟨u, h5, h6⟩ := r.slot j t q
    refine ⟨u, h5, ?_⟩
    cases t with
    | val d => exact DpA.step st.step h6
    | own c =>
      obtain ⟨a', h1, h2, h3, h4⟩ := h6
      refine ⟨a', h1, h2.step st.step fun o' q' => ?_, h3, h4⟩
      rw [ne a' fun z => hj (r.ff j i a' h3 (by rw [z]; exact hi))]
      exact q'
    | bor c =>
      obtain ⟨a', h1, h2, h3, h4⟩ := h6
      refine ⟨a', h1, h2.step st.step fun o' q' => ?_, h3, h4⟩
      rw [ne a' fun z => hj (r.ff j i a' h3 (by rw [z]; exact hi))]
      exact q'
theorem step_sub {A A' : AS} (h : ∀ b, A' b → A b) : Step A H A' H := Step.refl.weak h
end

section
variable {X : Cx} {mg : Str → Option Value} {XW : WX} {a b c : Expr} {pos : Pos} {ma mb mc : En → Rs PV} {x : Str}
theorem snd_var {i : Nat} {pk : Bool} (h : PE X (.Name x pos) (tVar i)) : PE X (.Name x pos) (tE X.K mg XW fun e => rdVar i pk e) := by
  refine PE.imp h fun σ H Q h => ?_
  obtain ⟨W, G, B, F, e, rel, h⟩ := h
  dsimp only [rdVar] at h
  cases hs : e[i]? with
  | none => rw [hs] at h; exact h.elim
  | some s =>
    cases s with
    | none => rw [hs] at h; exact h.elim
    | some s =>
      rw [hs] at h
      cases s with
      | val d =>
        obtain ⟨v, h1, h2⟩ := rel.slot i _ hs
        exact ⟨v, h1, h _ _ _ (out_v rel h2)⟩
      | own c =>
        cases pk with
        | true =>
          obtain ⟨a, h1, h2⟩ := slot_own rel hs
          exact ⟨_, h1, h (.ref a) H F ⟨rel, .refl, h1⟩⟩
        | false =>
          obtain ⟨a, h1, h2, h3⟩ := rel.freeze hs
          exact ⟨_, h1, h (.ref a) H (fset F i fun _ => False) ⟨h3, .less (fun b z => z.elim .inl fun ⟨j, z⟩ => .inr ⟨j, fset_sub z⟩) fun j b z => ⟨j, fset_sub z⟩, h2⟩⟩
      | bor c =>
        cases pk with
        | true =>
          obtain ⟨a, h1, h2⟩ := slot_bor rel hs
          exact ⟨_, h1, h (.ref a) H F ⟨rel, .refl, h1⟩⟩
        | false => exact h.elim
theorem snd_mov {i : Nat} (h : PE X (.Name x pos) (tVar i)) : PE X (.Name x pos) (tE X.K mg XW fun e => mvVar i e) := by
  refine PE.imp h fun σ H Q h => ?_
  obtain ⟨W, G, B, F, e, rel, h⟩ := h
  dsimp only [mvVar] at h
  cases hs : e[i]? with
  | none => rw [hs] at h; exact h.elim
  | some s =>
    cases s with
    | none => rw [hs] at h; exact h.elim
    | some s =>
      rw [hs] at h
      cases s with
      | val d =>
        obtain ⟨v, h1, h2⟩ := rel.slot i _ hs
        exact ⟨v, h1, h _ _ _ (out_v rel h2)⟩
      | own c =>
        obtain ⟨a, h1, h2, h3, h4⟩ := slot_own rel hs
        obtain ⟨h5, h6⟩ := rel.take hs
        exact ⟨_, h1, h (.ref a) H (fset F i fun _ => False) ⟨a, F i, rfl, h3, fun b z => ⟨h4 b z, .inr ⟨i, z⟩⟩, h5, .less (fun b => (h6 b).mp) fun j b z => ⟨j, fset_sub z⟩, h2.step (step_sub fun b => (h6 b).mp) fun _ q => q⟩⟩
      | bor c => exact h.elim
/-- a constant -/
theorem snd_con {v : V} {d : D} {ex : Expr} (h : PE X ex (tC v)) (hd : ∀ A H, DpA X.K A H v d) : PE X ex (tE X.K mg XW fun e => .ok (.r (.v d)) e) := by
  refine PE.imp h fun σ H Q h => ?_
  obtain ⟨W, G, B, F, e, rel, h⟩ := h
  exact h _ _ _ (out_v rel (hd _ _))

/-! ### argument lists -/
theorem sndV_nil : L2.PA X [] (tR X.K mg (OOf X.K (OVs X.K)) XW fun e => .ok [] e) := by
  refine PAimp pa_nil fun σ H Q h => ?_
  obtain ⟨W, G, B, F, e, rel, h⟩ := h
  exact h [] H F ⟨rel, .refl, .nil⟩
theorem sndV_cons {es : List Expr} {ms : En → Rs (List D)} (hs : starEach (a :: es) X.env = (false, eval a X.env) :: starEach es X.env) (ha : PE X a (tE X.K mg XW ma)) (hm : L2.PA X es (tR X.K mg (OOf X.K (OVs X.K)) XW ms)) :
    L2.PA X (a :: es) (tR X.K mg (OOf X.K (OVs X.K)) XW fun e => (ma e).bind fun y e => match y with
      | .r y => (ms e).bind fun ys e => .ok (y.d :: ys) e
      | .sl _ => .no) := by
  refine PAimp (pa_cons ha hm hs) fun σ H Q h => ?_
  obtain ⟨W, G, B, F, e, rel, h⟩ := h
  refine ⟨W, G, B, F, e, rel, seq adv_out reb_of rel h fun y e1 v H1 F1 r1 s1 o1 h => ?_⟩
  cases y with
  | sl _ => exact h.elim
  | r y =>
    refine ⟨W, G, B, F1, e1, r1, seq adv_of reb_of r1 h fun ys e2 vs H2 F2 r2 s2 o2 h => ?_⟩
    exact h (v :: vs) H2 F2 ⟨r2, .refl, .cons (DpA.step s2.step o1) o2⟩
theorem sndP_nil : L2.PA X [] (tR X.K mg (OOf X.K (OPs X.K)) XW fun e => .ok [] e) := by
  refine PAimp pa_nil fun σ H Q h => ?_
  obtain ⟨W, G, B, F, e, rel, h⟩ := h
  exact h [] H F ⟨rel, .refl, .nil⟩
theorem ops_step {K : PySem.W.Frag} {A A' : AS} {H H' : Hp} {σ : St} {vs : List V} {ps : List PV} (h : OPs K A H σ vs ps) (s : Step A H A' H') : OPs K A' H' σ vs ps := Paired.mapP h fun _ _ z => z.step s
theorem sndP_cons {es : List Expr} {ms : En → Rs (List PV)} (hs : starEach (a :: es) X.env = (false, eval a X.env) :: starEach es X.env) (ha : PE X a (tE X.K mg XW ma)) (hm : L2.PA X es (tR X.K mg (OOf X.K (OPs X.K)) XW ms)) :
    L2.PA X (a :: es) (tR X.K mg (OOf X.K (OPs X.K)) XW fun e => (ma e).bind fun y e => (ms e).bind fun ys e => .ok (y :: ys) e) := by
  refine PAimp (pa_cons ha hm hs) fun σ H Q h => ?_
  obtain ⟨W, G, B, F, e, rel, h⟩ := h
  refine ⟨W, G, B, F, e, rel, seq adv_out reb_of rel h fun y e1 v H1 F1 r1 s1 o1 h => ?_⟩
  refine ⟨W, G, B, F1, e1, r1, seq adv_of reb_of r1 h fun ys e2 vs H2 F2 r2 s2 o2 h => ?_⟩
  exact h (v :: vs) H2 F2 ⟨r2, .refl, .cons (o1.step s2.step) o2⟩
theorem sndA_nil : L2.PA X [] (tR X.K mg (OOf X.K (OAs X.K)) XW fun e => .ok [] e) := by
  refine PAimp pa_nil fun σ H Q h => ?_
  obtain ⟨W, G, B, F, e, rel, h⟩ := h
  exact h [] H F ⟨rel, .refl, .nil⟩
theorem sndA_d {es : List Expr} {ms : En → Rs (List Ar)} (hs : starEach (a :: es) X.env = (false, eval a X.env) :: starEach es X.env) (ha : PE X a (tE X.K mg XW ma)) (hm : L2.PA X es (tR X.K mg (OOf X.K (OAs X.K)) XW ms)) :
    L2.PA X (a :: es) (tR X.K mg (OOf X.K (OAs X.K)) XW fun e => (ma e).bind fun y e => match y with
      | .r y => (ms e).bind fun ys e => .ok (.d y.d :: ys) e
      | .sl _ => .no) := by
  refine PAimp (pa_cons ha hm hs) fun σ H Q h => ?_
  obtain ⟨W, G, B, F, e, rel, h⟩ := h
  refine ⟨W, G, B, F, e, rel, seq adv_out reb_of rel h fun y e1 v H1 F1 r1 s1 o1 h => ?_⟩
  cases y with
  | sl _ => exact h.elim
  | r y =>
    refine ⟨W, G, B, F1, e1, r1, seq adv_of reb_of r1 h fun ys e2 vs H2 F2 r2 s2 o2 h => ?_⟩
    exact h (v :: vs) H2 F2 ⟨r2, .refl, .cons (DpA.step s2.step o1) o2⟩
theorem sndA_b {es : List Expr} {ms : En → Rs (List Ar)} (hs : starEach (a :: es) X.env = (false, eval a X.env) :: starEach es X.env) (ha : PE X a (tE X.K mg XW ma)) (hm : L2.PA X es (tR X.K mg (OOf X.K (OAs X.K)) XW ms)) :
    L2.PA X (a :: es) (tR X.K mg (OOf X.K (OAs X.K)) XW fun e => (ma e).bind fun y e => match y with
      | .sl i => (ms e).bind fun ys e => .ok (.b i :: ys) e
      | .r _ => .no) := by
  refine PAimp (pa_cons ha hm hs) fun σ H Q h => ?_
  obtain ⟨W, G, B, F, e, rel, h⟩ := h
  refine ⟨W, G, B, F, e, rel, seq adv_out reb_of rel h fun y e1 v H1 F1 r1 s1 o1 h => ?_⟩
  cases y with
  | r _ => exact h.elim
  | sl y =>
    refine ⟨W, G, B, F1, e1, r1, seq adv_of reb_of r1 h fun ys e2 vs H2 F2 r2 s2 o2 h => ?_⟩
    exact h (v :: vs) H2 F2 ⟨r2, .refl, .cons o1 o2⟩

/-! ### displays, built-ins -/
theorem snd_tup {es : List Expr} {k : Nat} {ms : En → Rs (List D)} (hm : L2.PA X es (tR X.K mg (OOf X.K (OVs X.K)) XW ms)) :
    PE X (.Tuple es k pos) (tE X.K mg XW fun e => (ms e).bind fun ds e => if ds.length ≤ sizeLine then .ok (.r (.v (.tuple ds))) e else .no) := by
  refine PE.imp (pe_tup hm) fun σ H Q h => ?_
  obtain ⟨W, G, B, F, e, rel, h⟩ := h
  refine ⟨W, G, B, F, e, rel, seq adv_of reb_out rel h fun ds e1 vs H1 F1 r1 s1 o1 h => ?_⟩
  split at h
  · rename_i hz
    have o1 : DpAs X.K (AV W F1) H1 vs ds := o1
    exact ⟨by rw [o1.length]; exact hz, fun p n => h _ _ _ (out_of r1 (pout_tup n r1.at o1))⟩
  · exact h.elim
theorem snd_dic0 : PE X (.Dict [] [] pos) (tE X.K mg XW fun e => .ok (.r (.o (.dic []))) e) := by
  refine PE.imp pe_dnewK fun σ H Q h => ?_
  obtain ⟨W, G, B, F, e, rel, h⟩ := h
  exact fun p n => h _ _ _ (out_of rel (pout_dic0 n))
theorem snd_lst {es : List Expr} {ms : En → Rs (List D)} (hm : L2.PA X es (tR X.K mg (OOf X.K (OVs X.K)) XW ms)) :
    PE X (.List es pos) (tE X.K mg XW fun e => (ms e).bind fun ds e => if ds.length ≤ sizeLine then .ok (.r (.o (.lst ds))) e else .no) := by
  refine PE.imp (pe_lst hm) fun σ H Q h => ?_
  obtain ⟨W, G, B, F, e, rel, h⟩ := h
  refine ⟨W, G, B, F, e, rel, seq adv_of reb_out rel h fun ds e1 vs H1 F1 r1 s1 o1 h => ?_⟩
  split at h
  · rename_i hz
    have o1 : DpAs X.K (AV W F1) H1 vs ds := o1
    exact ⟨by rw [o1.length]; exact hz, fun p n => h _ _ _ (out_of r1 (pout_lst n r1.at o1))⟩
  · exact h.elim
/-- a built-in's call -/
theorem snd_bi {ex : Expr} {f : List D → Option R} {es : List Expr} {ms : En → Rs (List PV)} {ta : TA → TE} (h : ∀ t, L2.PA X es t → PE X ex (tCB (rN X.K f) t)) (hm : L2.PA X es (tR X.K mg (OOf X.K (OPs X.K)) XW ms)) :
    PE X ex (tE X.K mg XW fun e => (ms e).bind fun xs e => appN f xs e) := by
  refine PE.imp (h _ hm) fun σ H Q h => ?_
  obtain ⟨W, G, B, F, e, rel, h⟩ := h
  refine ⟨W, G, B, F, e, rel, seq adv_of reb_out rel h fun ds e1 vs H1 F1 r1 s1 o1 h => ?_⟩
  exact appN_out r1 o1 h
end
end Ev

/-! Ev, part G: calls of defs. -/
namespace Ev
open PySem L2

/-- a def's promise by its summary -/
def Spec (K : PySem.W.Frag) (mg : Str → Option Value) (f : Fn) : Sp := fun vs H Q E => vs.length = f.np ∧ ∃ W G B F t, Rel K W G B F H (vs.map some) t ∧ (∀ b, H b ≠ none → G b) ∧
  Res K mg (fun cls d _ H' => E cls d H') (fun F H F' H' t' v r => Out K W G B F H (vs.map some) F' H' t' v (.r r)) W G B F H (vs.map some) (f.S t) Q
/-- as the layer's, with what stands around known to repr -/
structure FnX (gk : Bool) (P : Program) (w : World) (K : PySem.W.Frag) (mg : Str → Option Value) (base : Heap) (k : Nat) (f : Addr) (fd : FuncData) (ps : List Str) (sp : Sp) : Prop where
  len : ∀ vs H Q E, sp vs H Q E → vs.length = ps.length
  run : ∀ (A : Around) (outer : List PySem.Env) (s : Shared) (H : Hp) (args : Args) (us : List Value) (vs : List V) (Q : VK) (E : XK), (gk = true → A.guards = some []) → Room k A → Env0 P w K mg base A outer s H →
    BindsTo s fd args (ps.zip us) → Vals vs us → sp vs H Q E → codeAny (model P w) A (.call (.ref f) args) (CR (L2.CX P w) outer P w H s Q E) s
theorem FnX.mono {gk : Bool} {P : Program} {w : World} {K : PySem.W.Frag} {mg : Str → Option Value} {base : Heap} {j k : Nat} {f : Addr} {fd : FuncData} {ps : List Str} {sp : Sp} (F : FnX gk P w K mg base j f fd ps sp) (h : j ≤ k) : FnX gk P w K mg base k f fd ps sp :=
  ⟨F.len, fun A outer s H args us vs Q E g hr => F.run A outer s H args us vs Q E g (hr.mono h)⟩
theorem FnX.ofOk {gk : Bool} {P : Program} {w : World} {K : PySem.W.Frag} {mg : Str → Option Value} {base : Heap} {k : Nat} {f : Addr} {fd : FuncData} {ps : List Str} {sp : Sp} (F : FnOk P w K mg base (L2.CX P w) k f fd ps sp) : FnX gk P w K mg base k f fd ps sp :=
  ⟨F.len, fun A outer s H args us vs Q E _ => F.run A outer s H args us vs Q E⟩
theorem FnX.ok {P : Program} {w : World} {K : PySem.W.Frag} {mg : Str → Option Value} {base : Heap} {k : Nat} {f : Addr} {fd : FuncData} {ps : List Str} {sp : Sp} (F : FnX false P w K mg base k f fd ps sp) : FnOk P w K mg base (L2.CX P w) k f fd ps sp :=
  ⟨F.len, fun A outer s H args us vs Q E => F.run A outer s H args us vs Q E (fun z => nomatch z)⟩
/-- what a caller knows of a def -/
def Known (gk : Bool) (X : Cx) (x : Str) (S : Fn) (k : Nat) : Prop :=
  ∃ f fd ps, X.mg x = some (.ref f) ∧ PySem.W.keepIn X.K (.ref f) = true ∧ Binds X.K fd ps [] ∧ FnX gk X.prog X.w X.K X.mg X.base k f fd ps (Spec X.K X.mg S)

section
variable {K : PySem.W.Frag} {mg : Str → Option Value} {W G : AS} {B : Nat → AS × AS} {F : Nat → AS} {H H' : Hp} {σ : St} {e e' t t' : En} {as : List Ar} {vs : List V}
theorem lent_ne {i : Nat} : ∀ {as : List Ar}, lentOnce (.b i :: as) = true → ∀ j : Nat, as[j]? ≠ some (Ar.b i) := fun {as} h j z => by
  unfold lentOnce at h
  rw [Bool.and_eq_true, List.all_eq_true] at h
  have := h.1 _ (List.mem_of_getElem? z)
  simp at this
theorem lent_tl {a : Ar} {as : List Ar} (h : lentOnce (a :: as) = true) : lentOnce as = true := by
  cases a with
  | d _ => exact h
  | b i =>
    unfold lentOnce at h
    rw [Bool.and_eq_true] at h
    exact h.2
theorem lent_inj {i : Nat} : ∀ {as : List Ar} {j k : Nat}, lentOnce as = true → as[j]? = some (Ar.b i) → as[k]? = some (Ar.b i) → j = k
  | [], j, k, _, h, _ => by simp at h
  | a :: as, 0, 0, _, _, _ => rfl
  | a :: as, 0, k + 1, h, h1, h2 => by
    simp at h1
    subst h1
    exact absurd (by simpa using h2) (lent_ne h k)
  | a :: as, j + 1, 0, h, h1, h2 => by
    simp at h2
    subst h2
    exact absurd (by simpa using h1) (lent_ne h j)
  | a :: as, j + 1, k + 1, h, h1, h2 => by
    have := lent_inj (j := j) (k := k) (lent_tl h) (by simpa using h1) (by simpa using h2)
    omega
theorem putBack1_at {i : Nat} {c : Cel} (h : putBack1 i c e = some e') : e'.length = e.length ∧ ((∃ c0, e[i]? = some (some (.own c0)) ∧ e'[i]? = some (some (Slot.own c))) ∨ ∃ c0, e[i]? = some (some (.bor c0)) ∧ e'[i]? = some (some (Slot.bor c))) ∧ ∀ k, k ≠ i → e'[k]? = e[k]? := by
  unfold putBack1 at h
  split at h
  · rename_i c0 h0
    cases h
    exact ⟨List.length_set, .inl ⟨c0, h0, List.getElem?_set_self (lt_of_slot h0)⟩, fun k hk => List.getElem?_set_ne (Ne.symm hk)⟩
  · rename_i c0 h0
    cases h
    exact ⟨List.length_set, .inr ⟨c0, h0, List.getElem?_set_self (lt_of_slot h0)⟩, fun k hk => List.getElem?_set_ne (Ne.symm hk)⟩
  · cases h
theorem putBack_at : ∀ {as : List Ar} {t e e' : En}, lentOnce as = true → putBack as t e = some e' → e'.length = e.length ∧ ∀ (i : Nat) (s : Slot), e'[i]? = some (some s) →
    (∃ (j : Nat) (c' : Cel), as[j]? = some (Ar.b i) ∧ t[j]? = some (some (Slot.bor c')) ∧ ((∃ c, e[i]? = some (some (Slot.own c)) ∧ s = .own c') ∨ ∃ c, e[i]? = some (some (Slot.bor c)) ∧ s = .bor c')) ∨ ((∀ j : Nat, as[j]? ≠ some (Ar.b i)) ∧ e[i]? = some (some s))
  | [], t, e, e', _, h => by
    unfold putBack at h
    cases h
    exact ⟨rfl, fun i s q => .inr ⟨fun j => by simp, q⟩⟩
  | .d d :: as, [], e, e', _, h => by simp [putBack] at h
  | .b i :: as, [], e, e', _, h => by simp [putBack] at h
  | .d d :: as, o :: t, e, e', hl, h => by
    have h : putBack as t e = some e' := by
      unfold putBack at h
      exact h
    obtain ⟨h1, h2⟩ := putBack_at (lent_tl hl) h
    refine ⟨h1, fun i s q => ?_⟩
    rcases h2 i s q with ⟨j, c', z1, z2, z3⟩ | ⟨z1, z2⟩
    · exact .inl ⟨j + 1, c', by simpa using z1, by simpa using z2, z3⟩
    · refine .inr ⟨fun j => ?_, z2⟩
      cases j with
      | zero => simp
      | succ j => simpa using z1 j
  | .b i0 :: as, none :: t, e, e', _, h => by simp [putBack] at h
  | .b i0 :: as, some (.val _) :: t, e, e', _, h => by simp [putBack] at h
  | .b i0 :: as, some (.own _) :: t, e, e', _, h => by simp [putBack] at h
  | .b i0 :: as, some (.bor c0) :: t, e, e', hl, h => by
    unfold putBack at h
    split at h
    · rename_i e1 h0
      obtain ⟨l1, o1, n1⟩ := putBack1_at h0
      obtain ⟨h1, h2⟩ := putBack_at (lent_tl hl) h
      refine ⟨h1.trans l1, fun i s q => ?_⟩
      rcases h2 i s q with ⟨j, c', z1, z2, z3⟩ | ⟨z1, z2⟩
      · have hne : i ≠ i0 := fun z => by subst z; exact lent_ne hl j z1
        rw [n1 i hne] at z3
        exact .inl ⟨j + 1, c', by simpa using z1, by simpa using z2, z3⟩
      · by_cases hi : i = i0
        · subst hi
          refine .inl ⟨0, c0, by simp, by simp, ?_⟩
          rcases o1 with ⟨c, y1, y2⟩ | ⟨c, y1, y2⟩
          · rw [y2] at z2
            cases z2
            exact .inl ⟨c, y1, rfl⟩
          · rw [y2] at z2
            cases z2
            exact .inr ⟨c, y1, rfl⟩
        · rw [n1 i hi] at z2
          refine .inr ⟨fun j => ?_, z2⟩
          cases j with
          | zero =>
            simp
            exact fun z => hi z.symm
          | succ j => simpa using z1 j
    · cases h
theorem mkArgs_at : ∀ {as : List Ar} {t : En}, mkArgs as e = some t → t.length = as.length ∧ ∀ (j : Nat) (a : Ar), as[j]? = some a → ∃ s, t[j]? = some (some s) ∧ mkArg a e = some s
  | [], t, h => by cases h; exact ⟨rfl, fun j a q => by simp at q⟩
  | a :: as, t, h => by
    unfold mkArgs at h
    split at h
    · rename_i s t' h1 h2
      cases h
      obtain ⟨z1, z2⟩ := mkArgs_at h2
      refine ⟨by simp [z1], fun j b q => ?_⟩
      cases j with
      | zero =>
        simp at q
        subst q
        exact ⟨s, by simp, h1⟩
      | succ j => simpa using z2 j b (by simpa using q)
    · cases h
theorem paired_get {α β : Type} {P : α → β → Prop} : ∀ {l : List α} {l' : List β} {j : Nat} {b : β}, Paired P l l' → l'[j]? = some b → ∃ a, l[j]? = some a ∧ P a b
  | _, _, _, _, .nil, h => by simp at h
  | _, _, 0, _, .cons p _, h => by simp at h; subst h; exact ⟨_, by simp, p⟩
  | _, _, j + 1, _, .cons _ q, h => by
    obtain ⟨a, h1, h2⟩ := paired_get (j := j) q (by simpa using h)
    exact ⟨a, by simpa using h1, h2⟩
/-- the avoided places of a callee: all but the lent cells' -/
def lentF (as : List Ar) (F : Nat → AS) : Nat → AS := fun j b => ∃ i, as[j]? = some (Ar.b i) ∧ F i b
def restW (as : List Ar) (W : AS) (F : Nat → AS) : AS := fun b => W b ∨ ∃ i, (∀ j : Nat, as[j]? ≠ some (Ar.b i)) ∧ F i b
def backF (as : List Ar) (F F' : Nat → AS) : Nat → AS := fun i b => (∃ j : Nat, as[j]? = some (Ar.b i) ∧ F' j b) ∨ ((∀ j : Nat, as[j]? ≠ some (Ar.b i)) ∧ F i b)
theorem av_lent (b : Addr) : AV (restW as W F) (lentF as F) b ↔ AV W F b := by
  constructor
  · rintro ((z | ⟨i, _, z⟩) | ⟨j, i, _, z⟩)
    · exact .inl z
    · exact .inr ⟨i, z⟩
    · exact .inr ⟨i, z⟩
  · rintro (z | ⟨i, z⟩)
    · exact .inl (.inl z)
    · by_cases q : ∃ j : Nat, as[j]? = some (Ar.b i)
      · obtain ⟨j, q⟩ := q
        exact .inr ⟨j, i, q, z⟩
      · exact .inl (.inr ⟨i, fun j y => q ⟨j, y⟩, z⟩)
/-- the callee's view -/
theorem Rel.lend (r : Rel K W G B F H σ e) (o : OAs K (AV W F) H σ vs as) (hm : mkArgs as e = some t) (hl : lentOnce as = true) :
    Rel K (restW as W F) (fun b => H b ≠ none) (fun j => (fun b => vs[j]? = some (.ref b), lentF as F j)) (lentF as F) H (vs.map some) t := by
  obtain ⟨z1, z2⟩ := mkArgs_at hm
  have hlen : vs.length = as.length := Paired.length o
  refine ⟨by rw [List.length_map, hlen, z1], fun b z => ?_, fun b z => z, fun j b ⟨i, _, z⟩ => r.ft i b z, ?_, ?_, ?_⟩
  · rcases z with z | ⟨i, _, z⟩
    · exact r.wt b z
    · exact r.ft i b z
  · rintro j b ⟨i, q, z⟩ (w | ⟨i', n, w⟩)
    · exact r.fw i b z w
    · have := r.ff i i' b z w
      subst this
      exact n j q
  · rintro j k b ⟨i, q, z⟩ ⟨i', q', z'⟩
    have := r.ff i i' b z z'
    subst this
    exact lent_inj hl q q'
  · intro j s hs
    have hj : j < as.length := by rw [← z1]; exact lt_of_slot hs
    obtain ⟨s', h1, h2⟩ := z2 j as[j] (by simp [hj])
    rw [hs] at h1
    cases h1
    obtain ⟨v, h3, h4⟩ := paired_get o (show as[j]? = some as[j] by simp [hj])
    refine ⟨v, by rw [List.getElem?_map, h3]; rfl, ?_⟩
    generalize ea : as[j] = a at h2 h4
    have ea' : as[j]? = some a := by rw [← ea]; simp [hj]
    cases a with
    | d d =>
      cases h2
      exact DpA.fewer h4 fun b => (av_lent b).mp
    | b i =>
      have h4 : σ[i]? = some (some v) := h4
      have fin : ∀ a c, v = .ref a → CelAt K (AV W F) H a c → F i a → SlotR K (AV (restW as W F) (lentF as F)) (fun b => H b ≠ none) (fun b => vs[j]? = some (.ref b), lentF as F j) H (lentF as F j) v (.bor c) := fun a c e1 e2 e3 => by
        refine ⟨a, e1, e2.step (step_sub fun b => (av_lent b).mp) fun _ q => q, ⟨i, ea', e3⟩, fun b => ?_, fun b z => .inl z⟩
        subst e1
        rw [h3]
        simp
        exact ⟨fun z => z.symm, fun z => z.symm⟩
      simp only [mkArg] at h2
      cases hc : e[i]? with
      | none => rw [hc] at h2; cases h2
      | some s0 =>
        rw [hc] at h2
        cases s0 with
        | none => cases h2
        | some s0 =>
          cases s0 with
          | val d => cases h2
          | own c =>
            cases h2
            obtain ⟨a, y1, y2, y3, y4⟩ := slot_own r hc
            rw [h4] at y1
            cases y1
            exact fin a c rfl y2 y3
          | bor c =>
            cases h2
            obtain ⟨a, y1, y2, y3, y4⟩ := slot_bor r hc
            rw [h4] at y1
            cases y1
            exact fin a c rfl y2 y3
/-- back at the caller -/
theorem Rel.unlend {F' : Nat → AS} {fp : AS} (r : Rel K W G B F H σ e) (o : OAs K (AV W F) H σ vs as) (hl : lentOnce as = true)
    (r' : Rel K (plus (restW as W F) fp) (fun b => H b ≠ none) (fun j => (fun b => vs[j]? = some (.ref b), lentF as F j)) F' H' (vs.map some) t')
    (st : Stp (restW as W F) (lentF as F) H (plus (restW as W F) fp) F' H') (hp : putBack as t' e = some e') (hfp : ∀ b, fp b → ¬ W b ∧ ∀ i, F i b → ∃ j : Nat, as[j]? = some (Ar.b i)) :
    Rel K (plus W fp) G B (backF as F F') H' σ e' ∧ Stp W F H (plus W fp) (backF as F F') H' ∧ ∀ b, AV (plus W fp) (backF as F F') b → AV (plus (restW as W F) fp) F' b := by
  have sub : ∀ b, AV (plus W fp) (backF as F F') b → AV (plus (restW as W F) fp) F' b := by
    rintro b ((z | z) | ⟨i, (⟨j, q, z⟩ | ⟨n, z⟩)⟩)
    · exact .inl (.inl (.inl z))
    · exact .inl (.inr z)
    · exact .inr ⟨j, z⟩
    · exact .inl (.inl (.inr ⟨i, n, z⟩))
  have st' : Stp W F H (plus W fp) (backF as F F') H' := by
    refine ⟨fun b ob q n => st.keep b ob q fun ⟨j, i, y, z⟩ => n ⟨i, z⟩, st.trk, fun b z q => (av_lent b).mp (st.sub b (sub b z) q), ?_⟩
    rintro i b (⟨j, q, z⟩ | ⟨n, z⟩) h
    · obtain ⟨k, i', y, w⟩ := st.subM j b z h
      exact ⟨i', w⟩
    · exact ⟨i, z⟩
  obtain ⟨l1, pb⟩ := putBack_at hl hp
  refine ⟨⟨r.len.trans l1.symm, fun b z => ?_, fun b z => st.trk b (r.gt b z), ?_, ?_, ?_, fun i s hs => ?_⟩, st', sub⟩
  · rcases z with z | z
    · exact st.trk b (r.wt b z)
    · exact r'.wt b (.inr z)
  · rintro i b (⟨j, q, z⟩ | ⟨n, z⟩)
    · exact r'.ft j b z
    · exact st.trk b (r.ft i b z)
  · rintro i b (⟨j, q, z⟩ | ⟨n, z⟩) (w | w)
    · exact r'.fw j b z (.inl (.inl w))
    · exact r'.fw j b z (.inr w)
    · exact r.fw i b z w
    · obtain ⟨j, y⟩ := (hfp b w).2 i z
      exact n j y
  · rintro i k b (⟨j, q, z⟩ | ⟨n, z⟩) (⟨j', q', z'⟩ | ⟨n', z'⟩)
    · have := r'.ff j j' b z z'
      subst this
      rw [q] at q'
      cases q'
      rfl
    · exact absurd (.inl (.inr ⟨k, n', z'⟩)) (r'.fw j b z)
    · exact absurd (.inl (.inr ⟨i, n, z⟩)) (r'.fw j' b z')
    · exact r.ff i k b z z'
  · rcases pb i s hs with ⟨j, c', y1, y2, y3⟩ | ⟨y1, y2⟩
    · -- a lent cell
      obtain ⟨v, h1, h2⟩ := paired_get o y1
      have h2 : σ[i]? = some (some v) := h2
      obtain ⟨v', h3, a, e1, h4, h5, h6, h7⟩ := r'.slot j _ y2
      rw [List.getElem?_map, h1] at h3
      have h3 : v = v' := by simpa using h3
      subst h3
      subst e1
      refine ⟨_, h2, ?_⟩
      have cel := h4.step (step_sub sub) fun _ q => q
      rcases y3 with ⟨c, q1, rfl⟩ | ⟨c, q1, rfl⟩
      · obtain ⟨a', w1, w2, w3, w4⟩ := slot_own r q1
        rw [h2] at w1
        cases w1
        refine ⟨a, rfl, cel, .inl ⟨j, y1, h5⟩, ?_⟩
        rintro b (⟨j', q, z⟩ | ⟨n, z⟩)
        · have := lent_inj hl y1 q
          subst this
          rcases h7 b z with ⟨i', q', z'⟩ | z'
          · rw [y1] at q'
            cases q'
            exact w4 b z'
          · exact fun g => z' (r.gt b g)
        · exact w4 b z
      · obtain ⟨a', w1, w2, w3, w4, w5⟩ := slot_bor r q1
        rw [h2] at w1
        cases w1
        refine ⟨a, rfl, cel, .inl ⟨j, y1, h5⟩, w4, ?_⟩
        rintro b (⟨j', q, z⟩ | ⟨n, z⟩)
        · have := lent_inj hl y1 q
          subst this
          rcases h7 b z with ⟨i', q', z'⟩ | z'
          · rw [y1] at q'
            cases q'
            exact w5 b z'
          · exact .inr fun g => z' (r.gt b g)
        · exact w5 b z
    · -- another variable
      obtain ⟨v, h1, h2⟩ := r.slot i s y2
      refine ⟨v, h1, ?_⟩
      have kp : ∀ a, F i a → ∀ ob, H a = some ob → H' a = some ob := fun a fa ob q => st.keep a ob q fun ⟨j, i', y, z⟩ => by
        have := r.ff i i' a fa z
        subst this
        exact y1 j y
      have fi : ∀ b, backF as F F' i b → F i b := by
        rintro b (⟨j, q, z⟩ | ⟨n, z⟩)
        · exact absurd q (y1 j)
        · exact z
      cases s with
      | val d => exact DpA.step st'.step h2
      | own c =>
        obtain ⟨a, w1, w2, w3, w4⟩ := h2
        exact ⟨a, w1, w2.step st'.step (kp a w3), .inr ⟨y1, w3⟩, fun b z => w4 b (fi b z)⟩
      | bor c =>
        obtain ⟨a, w1, w2, w3, w4, w5⟩ := h2
        exact ⟨a, w1, w2.step st'.step (kp a w3), .inr ⟨y1, w3⟩, w4, fun b z => w5 b (fi b z)⟩
end
end Ev
namespace Ev
open PySem L2
section
variable {K : PySem.W.Frag} {mg : Str → Option Value} {W G : AS} {B : Nat → AS × AS} {F : Nat → AS} {H : Hp} {σ : St} {e : En} {as : List Ar} {vs : List V} {XW : WX} {S : Fn} {Q : VK}
theorem plusF {W : AS} : ∀ b, plus W (fun _ => False) b → W b := fun b z => z.elim id False.elim
theorem avF {W : AS} {F : Nat → AS} (b : Addr) : AV (plus W fun _ => False) F b ↔ AV W F b := ⟨fun z => z.elim (fun z => .inl (plusF b z)) .inr, fun z => z.elim (fun z => .inl (.inl z)) .inr⟩
theorem callS_out (rel : Rel K W G B F H σ e) (o : OAs K (AV W F) H σ vs as) (h : Res K mg XW (OOut K W G B σ) W G B F H σ (callS S as e) Q) :
    Spec K mg S vs H Q fun cls d H' => XW cls d σ H' := by
  unfold callS at h
  split at h
  · rename_i t hm hl
    rw [Bool.and_eq_true] at hl
    obtain ⟨hl, hn⟩ := hl
    have hn : vs.length = S.np := (Paired.length o).trans (beq_iff_eq.mp hn)
    have r0 := rel.lend o hm hl
    refine ⟨hn, _, _, _, _, t, r0, fun b z => z, ?_⟩
    cases hS : S.S t with
    | no => rw [hS] at h; exact h
    | ok r t' =>
      rw [hS] at h
      dsimp only at h
      intro v H' F' out
      split at h
      · rename_i e' hp
        refine h v H' (backF as F F') ?_
        cases r with
        | v d =>
          obtain ⟨r1, st, p⟩ := out
          have st1 : Stp (restW as W F) (lentF as F) H (plus (restW as W F) fun _ => False) F' H' := st.weak fun b => (avF b).mp
          obtain ⟨r2, st2, sub⟩ := rel.unlend o hl (r1.fewer plusF) st1 hp fun b z => z.elim
          exact ⟨r2.fewer fun b z => .inl z, st2.weak fun b => (avF b).mpr, p.fewer fun b z => (avF b).mp (sub b ((avF b).mpr z))⟩
        | o c =>
          obtain ⟨a, fp, rfl, h1, h2, r1, st, p⟩ := out
          have hfp : ∀ b, fp b → H b = none := fun b z => Classical.byContradiction fun q => (h2 b z).1 q
          obtain ⟨r2, st2, sub⟩ := rel.unlend o hl r1 st hp fun b z => ⟨fun w => rel.wt b w (hfp b z), fun i w => absurd (hfp b z) (rel.ft i b w)⟩
          exact ⟨a, fp, rfl, h1, fun b z => ⟨fun g => rel.gt b g (hfp b z), .inl (hfp b z)⟩, r2, st2, p.step (step_sub sub) fun _ q => q⟩
      · exact h.elim
    | ex x t' =>
      rw [hS] at h
      dsimp only at h
      intro cls d H' F' out
      split at h
      · rename_i e' hp
        refine h cls d H' (backF as F F') ?_
        obtain ⟨r1, st, C, p1, p2, p3⟩ := out
        have st1 : Stp (restW as W F) (lentF as F) H (plus (restW as W F) fun _ => False) F' H' := st.weak fun b => (avF b).mp
        obtain ⟨r2, st2, sub⟩ := rel.unlend o hl (r1.fewer plusF) st1 hp fun b z => z.elim
        refine ⟨r2.fewer fun b z => .inl z, st2.weak fun b => (avF b).mpr, C, p1, p2, ?_⟩
        cases q : x.row with
        | none => rw [q] at p3; exact p3
        | some rw' =>
          rw [q] at p3
          obtain ⟨dx, v, y1, y2, y3⟩ := p3
          exact ⟨dx, v, y1, y2, y3.fewer fun b z => (avF b).mp (sub b ((avF b).mpr z))⟩
      · exact h.elim
  · exact h.elim
end
section
variable {X : Cx} {XW : WX} {x : Str} {p pos : Pos} {e : Expr} {es : List Expr}
/-- a def's call -/
theorem snd_call {gk : Bool} {S : Fn} {k : Nat} {ms : En → Rs (List Ar)} (kn : Known gk X x S k) (tk : Takes X XW) (hg : gk = true → X.A.guards = some []) (hr : Room k X.A) (hgl : Gl X x) (hdb : (x == ("__debug__" : Str)) = false)
    (he : starEach (e :: es) X.env = (false, eval e X.env) :: starEach es X.env) (hpl : (backTo pos (starEach es X.env)).any (·.1) = false) (hm : L2.PA X (e :: es) (tR X.K X.mg (OOf X.K (OAs X.K)) XW ms)) :
    PE X (.Call (.Name x p) (e :: es) [] pos) (tE X.K X.mg XW fun en => (ms en).bind fun as en => callS S as en) := by
  obtain ⟨f, fd, ps, hmg, hk, hb, F⟩ := kn
  refine ⟨fun pins s σ H Q I h => ?_⟩
  refine wpAny_Call_Name_kw (ld_glob I hgl hmg ?_ hdb)
  refine PySem.W.callWith_K (h₀ := X.base) I.ok.mod.kin hk (thn (hm.run pos pins s σ H (fun vs H1 => Spec X.K X.mg S vs H1 Q fun cls d H' => XW cls d σ H') I ?_) fun us s1 ⟨vs, H1, I1, r, q⟩ => ⟨I1.kIn, ?_⟩) he hpl
  · obtain ⟨W, G, B, F, en, rel, h⟩ := h
    refine ⟨W, G, B, F, en, rel, seq adv_of reb_out rel h fun as e1 vs H1 F1 r1 s1 o1 h => ?_⟩
    exact callS_out r1 o1 h
  · have hl : us.length = ps.length := by rw [← r.length]; exact F.len _ _ _ _ q
    have hb1 := hb s1 us I1.kIn (by rw [List.append_nil]; exact hl)
    rw [List.append_nil] at hb1
    refine wpAny_call (codeAny_mono (F.run X.A X.stack s1 H1 ⟨us, []⟩ us vs Q _ hg hr I1.env0 hb1 r q) fun rs s' hq => ?_)
    cases rs with
    | error ev => exact tk ev s' (XE.of_call I1 (fun _ _ _ z => z) hq)
    | ok fl =>
      cases fl with
      | ret u => exact I1.after hq
      | next => exact False.elim hq
      | brk => exact False.elim hq
      | cont => exact False.elim hq
end
end Ev

/-! Ev, part H: what is walked; comprehensions. -/
namespace Ev
open PySem L2 RZ
/-- a walk gives these items while its sources stand -/
def ItOk (K : PySem.W.Frag) (J : It) (vs : List V) (ds0 items : List D) : Prop :=
  ∀ A H, (∀ b, A b → H b ≠ none) → Paired (PK K A H) vs ds0 → (∀ i, i < items.length → J.go i H) ∧ J.stop items.length H ∧
    ∀ i x H', i < items.length → J.yld i H x H' → Same H H' ∧ ∃ d, items[i]? = some d ∧ DpA K A H' x d
def OIt (K : PySem.W.Frag) : OT (List PV × List D) It := fun W G B σ F H F' H' e' J p =>
  Rel K W G B F' H' σ e' ∧ Stp W F H W F' H' ∧ ∃ vs ds0, OPs K (AV W F') H' σ vs p.1 ∧ gets p.1 e' = some ds0 ∧ ItOk K J vs ds0 p.2
theorem reb_it {K : PySem.W.Frag} : Reb K (OIt K) := fun W G B σ F H F1 H1 e e1 F' H' e' b a r0 r1 st o => ⟨o.1, st.trans o.2.1, o.2.2⟩
theorem Paired.len {α β : Type} {P : α → β → Prop} {l : List α} {l' : List β} (h : Paired P l l') : l.length = l'.length := Paired.length h
section
variable {K : PySem.W.Frag} {a b : Addr} {ds es : List D}
theorem PK.listI {A : AS} {H : Hp} (h : PK K A H (.ref a) (.list ds)) : ∃ xs, SqL K H a xs ∧ DpAs K A H xs ds := by
  obtain ⟨a', xs, e, h1, h2⟩ := h.list
  cases e
  exact ⟨xs, .inl h1, h2⟩
theorem PK.tupI {A : AS} {H : Hp} (h : PK K A H (.ref a) (.tuple ds)) : ∃ xs, SqT K H a xs ∧ DpAs K A H xs ds := by
  obtain ⟨a', xs, e, h1, h2⟩ := h.tup
  cases e
  exact ⟨xs, h1.sq, h2⟩
theorem itOk_list : ItOk K (Itl K a) [.ref a] [.list ds] ds := by
  intro A H ha h
  cases h with
  | cons h _ =>
    obtain ⟨xs, h1, h2⟩ := h.listI
    have w := walk_list (K := K) (a := a) (xs := xs)
    rw [h2.length] at w
    refine ⟨fun i hi => w.goes i H hi h1, w.stops H h1, fun i x H' hi y => ?_⟩
    obtain ⟨e, y2⟩ := w.yields i H x H' hi h1 y
    subst e
    obtain ⟨d, h3, h4⟩ := h2.getV y2
    exact ⟨Same.refl _, d, h3, h4⟩
theorem itOk_tup : ItOk K (Itt K a) [.ref a] [.tuple ds] ds := by
  intro A H ha h
  cases h with
  | cons h _ =>
    obtain ⟨xs, h1, h2⟩ := h.tupI
    have w := walk_tup (K := K) (a := a) (xs := xs)
    rw [h2.length] at w
    refine ⟨fun i hi => w.goes i H hi h1, w.stops H h1, fun i x H' hi y => ?_⟩
    obtain ⟨e, y2⟩ := w.yields i H x H' hi h1 y
    subst e
    obtain ⟨d, h3, h4⟩ := h2.getV y2
    exact ⟨Same.refl _, d, h3, h4⟩
theorem itOk_str {z : Str} {vs : List V} {ds0 : List D} : ItOk K (Its z) vs ds0 (z.cps.toList.map charD) := by
  intro A H ha h
  have w := walk_str (z := z)
  have el : (z.cps.toList.map charD).length = z.cps.size := by simp
  rw [el]
  refine ⟨fun i hi => w.goes i H hi trivial, w.stops H trivial, fun i x H' hi y => ?_⟩
  obtain ⟨e, c, h1, h2⟩ := w.yields i H x H' hi trivial y
  subst e h2
  exact ⟨Same.refl _, charD c, by rw [List.getElem?_map, Array.getElem?_toList, h1]; rfl, .str _⟩
theorem itOk_range {lo hi : Int} {vs : List V} {ds0 : List D} : ItOk K (Itr lo (hi - lo).toNat) vs ds0 (rangeD lo hi) := by
  intro A H ha h
  have w := walk_range (lo := lo) (n := (hi - lo).toNat)
  have el : (rangeD lo hi).length = (hi - lo).toNat := by simp [rangeD]
  rw [el]
  refine ⟨fun i hi => w.goes i H hi trivial, w.stops H trivial, fun i x H' hi' y => ?_⟩
  obtain ⟨e, h1⟩ := w.yields i H x H' hi' trivial y
  subst e h1
  refine ⟨Same.refl _, .int (lo + i), ?_, .int _⟩
  unfold rangeD
  rw [List.getElem?_map, List.getElem?_range hi']
  rfl
theorem pair_new {A : AS} {H : Hp} {T : Addr} {x y : V} {d e : D} (n : H T = none) (ha : ∀ b, A b → H b ≠ none) (hx : DpA K A H x d) (hy : DpA K A H y e) : Same H (upd H T (.tup [x, y])) ∧ DpA K A (upd H T (.tup [x, y])) (.ref T) (.tuple [d, e]) :=
  pout_tup n ha (.cons hx (.cons hy .nil))
theorem itOk_enum : ItOk K (Ite K a) [.ref a] [.list ds] (enumD ds) := by
  intro A H ha h
  cases h with
  | cons h _ =>
    obtain ⟨xs, h1, h2⟩ := h.listI
    have w := walk_enum (K := K) (a := a) (xs := xs)
    have el : (enumD ds).length = xs.length := by simp [enumD, h2.length]
    rw [el]
    refine ⟨fun i hi => w.goes i H hi h1, w.stops H h1, fun i x H' hi y => ?_⟩
    obtain ⟨T, v, u, rfl, n, rfl, e1, e2⟩ := w.yields i H x H' hi h1 y
    cases e1
    obtain ⟨d, h3, h4⟩ := h2.getV e2
    obtain ⟨z1, z2⟩ := pair_new n ha (.int i) h4
    refine ⟨z1, _, ?_, z2⟩
    unfold enumD
    rw [List.getElem?_map, List.getElem?_zipIdx, h3]
    simp
theorem itOk_enT : ItOk K (IteT K a) [.ref a] [.tuple ds] (enumD ds) := by
  intro A H ha h
  cases h with
  | cons h _ =>
    obtain ⟨xs, h1, h2⟩ := h.tupI
    have el : (enumD ds).length = xs.length := by simp [enumD, h2.length]
    rw [el]
    refine ⟨fun i hi => ⟨xs, xs[i], h1, List.getElem?_eq_getElem hi⟩, ⟨xs, h1, rfl⟩, fun i x H' hi y => ?_⟩
    obtain ⟨T, v, rfl, n, rfl, e1⟩ := y
    obtain ⟨d, h3, h4⟩ := h2.getV (e1 xs h1)
    obtain ⟨z1, z2⟩ := pair_new n ha (.int i) h4
    refine ⟨z1, _, ?_, z2⟩
    unfold enumD
    rw [List.getElem?_map, List.getElem?_zipIdx, h3]
    simp
theorem zip_at {i : Nat} {d e : D} (h1 : ds[i]? = some d) (h2 : es[i]? = some e) : (zipD ds es)[i]? = some (.tuple [d, e]) := by
  unfold zipD
  rw [List.getElem?_map, show (ds.zip es)[i]? = some (d, e) from List.getElem?_zip_eq_some.mpr ⟨h1, h2⟩]
  rfl
theorem itOk_zip : ItOk K (Itz K a b) [.ref a, .ref b] [.list ds, .list es] (zipD ds es) := by
  intro A H ha h
  cases h with
  | cons h h' =>
    cases h' with
    | cons h' _ =>
      obtain ⟨xs, h1, h2⟩ := h.listI
      obtain ⟨ys, h3, h4⟩ := h'.listI
      have w := walk_zip (K := K) (a := a) (b := b) (xs := xs) (ys := ys) rfl
      have el : (zipD ds es).length = min xs.length ys.length := by simp [zipD, h2.length, h4.length]
      rw [el]
      refine ⟨fun i hi => w.goes i H hi ⟨h1, h3⟩, w.stops H ⟨h1, h3⟩, fun i x H' hi y => ?_⟩
      obtain ⟨T, v, u, rfl, n, rfl, e1, e2⟩ := w.yields i H x H' hi ⟨h1, h3⟩ y
      obtain ⟨d, h5, h6⟩ := h2.getV e1
      obtain ⟨d', h7, h8⟩ := h4.getV e2
      obtain ⟨z1, z2⟩ := pair_new n ha h6 h8
      exact ⟨z1, _, zip_at h5 h7, z2⟩
theorem itOk_zipT : ItOk K (ItzT K a b) [.ref a, .ref b] [.tuple ds, .tuple es] (zipD ds es) := by
  intro A H ha h
  cases h with
  | cons h h' =>
    cases h' with
    | cons h' _ =>
      obtain ⟨xs, h1, h2⟩ := h.tupI
      obtain ⟨ys, h3, h4⟩ := h'.tupI
      have el : (zipD ds es).length = min xs.length ys.length := by simp [zipD, h2.length, h4.length]
      rw [el]
      refine ⟨fun i hi => ⟨xs, ys, xs[i]'(by omega), ys[i]'(by omega), h1, h3, by simp [show i < xs.length by omega], by simp [show i < ys.length by omega]⟩, ⟨xs, ys, h1, h3, by omega⟩, fun i x H' hi y => ?_⟩
      obtain ⟨T, v, u, rfl, n, rfl, e1, e2⟩ := y
      obtain ⟨d, h5, h6⟩ := h2.getV (e1 xs h1)
      obtain ⟨d', h7, h8⟩ := h4.getV (e2 ys h3)
      obtain ⟨z1, z2⟩ := pair_new n ha h6 h8
      exact ⟨z1, _, zip_at h5 h7, z2⟩
end
section
variable {X : Cx} {mg : Str → Option Value} {XW : WX} {tg ex ex2 : Expr} {te : TE} {m m2 : En → Rs PV} {p pos tpos : Pos} {elts : List Expr} {kk : Nat}
theorem PIimp {t t' : TI} (h : PI X tg ex t) (i : ∀ σ H R, t' σ H R → t σ H R) : PI X tg ex t' := ⟨fun pins s σ H R I q => h.run pins s σ H R I (i σ H R q)⟩
/-- a list, a tuple or a text, whichever it is -/
theorem pi_any (he : PE X ex te) : PI X tg ex (fun σ H R => te σ H fun x H1 => (∃ a, x = .ref a ∧ (∃ xs, SqL X.K H1 a xs) ∧ R (Itl X.K a) H1) ∨ (∃ a, x = .ref a ∧ (∃ xs, SqT X.K H1 a xs) ∧ R (Itt X.K a) H1) ∨ ∃ z, x = .str z ∧ R (Its z) H1) := by
  refine ⟨fun pins s σ H R I h => thn (he.run pins s σ H _ I h) fun v s1 ⟨x, H1, I1, r1, q1⟩ => ?_⟩
  have mk : ∀ {tn : Nat → Heap → Prop} {J : It} (ob : Obj), Turn X.prog X.w X.K tg J [s1.heap.objs.size] s1.heap.objs.size tn → tn 0 (s1.heap.push ob) → R J H1 →
      PIE X pins σ tg R (.ref s1.heap.objs.size) { s1 with heap := s1.heap.push ob } := fun {tn J} ob T h0 q => by
    refine ⟨s1.heap.objs.size, [s1.heap.objs.size], tn, J, H1, rfl, I1.kept (t' := s1.toks) (fun _ _ e => Heap.get?_push_of_some _ e), T, h0, fun c hc => ?_, q⟩
    obtain rfl : c = s1.heap.objs.size := by simpa using hc
    exact I1.fpOk (Nat.le_refl _) (I1.hok.fresh (Nat.le_refl _))
  rcases q1 with ⟨a, rfl, ⟨xs, hq⟩, q⟩ | ⟨a, rfl, ⟨xs, hq⟩, q⟩ | ⟨z, rfl, q⟩
  · cases r1
    obtain ⟨its, rv, pl, hz⟩ := I1.list hq
    exact wpAny_pyIter_list pl.isList (mk _ (turn_list a _) ⟨_, Heap.get?_push_size _ rfl, rfl, rfl⟩ q)
  · cases r1
    obtain ⟨its, rv, pl, hz⟩ := I1.tuple hq
    exact wpAny_pyIter_tuple (show s1.heap.IsTuple a its.toArray from pl) (mk _ (turn_tuple a _) ⟨_, Heap.get?_push_size _ rfl, rfl, rfl⟩ q)
  · obtain ⟨t, rfl⟩ := r1
    cases ha : z.cps.all (· < 128)
    · exact wpAny_pyIter_wide ha (mk _ (turn_str _ z t "str_iterator" (.inr rfl)) ⟨_, Heap.get?_push_size _ rfl, rfl, rfl⟩ q)
    · exact wpAny_pyIter_ascii ha (mk _ (turn_str _ z t "str_ascii_iterator" (.inl rfl)) ⟨_, Heap.get?_push_size _ rfl, rfl, rfl⟩ q)
theorem gets1 {x : PV} {e : En} {d : D} (h : x.get e = some d) : gets [x] e = some [d] := by
  unfold gets
  rw [h]
  rfl
theorem gets2 {x y : PV} {e : En} {d d' : D} (h : x.get e = some d) (h' : y.get e = some d') : gets [x, y] e = some [d, d'] := by
  unfold gets
  rw [h, gets1 h']
theorem sndI_val (he : PE X ex (tE X.K mg XW m)) : PI X tg ex (tR X.K mg (OIt X.K) XW fun e => (m e).bind fun p e => match (p.get e).bind itemsD with
      | some ds => .ok ([p], ds) e
      | none => .no) := by
  refine PIimp (pi_any he) fun σ H R h => ?_
  obtain ⟨W, G, B, F, e, rel, h⟩ := h
  refine ⟨W, G, B, F, e, rel, seq adv_out reb_it rel h fun p e1 v H1 F1 r1 s1 o1 h => ?_⟩
  split at h
  · rename_i ds hd
    obtain ⟨d, h1, h2⟩ := Option.bind_eq_some_iff.mp hd
    have pk := o1.pk r1 h1
    unfold itemsD at h2
    split at h2
    · cases h2
      obtain ⟨a, xs, rfl, h3, h4⟩ := pk.list
      exact .inl ⟨a, rfl, ⟨xs, .inl h3⟩, h _ _ _ ⟨r1, .refl, [.ref a], _, .cons o1 .nil, gets1 h1, itOk_list⟩⟩
    · cases h2
      obtain ⟨a, xs, rfl, h3, h4⟩ := pk.tup
      exact .inr (.inl ⟨a, rfl, ⟨xs, h3.sq⟩, h _ _ _ ⟨r1, .refl, [.ref a], _, .cons o1 .nil, gets1 h1, itOk_tup⟩⟩)
    · rename_i z
      cases h2
      cases pk.str
      exact .inr (.inr ⟨z, rfl, h _ _ _ ⟨r1, .refl, [.str z], _, .cons o1 .nil, gets1 h1, itOk_str⟩⟩)
    · cases h2
  · exact h.elim
theorem sndI_range1 (hg : Gl X "range") (hm : X.mg "range" = none) (hs : starEach [ex] X.env = [(false, eval ex X.env)]) (ha : PE X ex (tE X.K mg XW m)) :
    PI X tg (.Call (.Name "range" p) [ex] [] pos) (tR X.K mg (OIt X.K) XW fun e => (m e).bind fun p e => match (p.get e).bind range1D with
      | some ds => .ok ([], ds) e
      | none => .no) := by
  refine PIimp (pi_range1 hg hm (pa_cons ha pa_nil hs) hs) fun σ H R h => ?_
  obtain ⟨W, G, B, F, e, rel, h⟩ := h
  refine ⟨W, G, B, F, e, rel, seq adv_out reb_it rel h fun x e1 v H1 F1 r1 s1 o1 h => ?_⟩
  split at h
  · rename_i ds hd
    obtain ⟨d, h1, h2⟩ := Option.bind_eq_some_iff.mp hd
    have pk := o1.pk r1 h1
    unfold range1D at h2
    split at h2
    · rename_i n
      split at h2
      · rename_i hz
        cases h2
        cases pk.int
        refine ⟨n, rfl, hz.1, hz.2, h _ _ _ ⟨r1, .refl, [], [], .nil, rfl, ?_⟩⟩
        have q := itOk_range (K := X.K) (lo := 0) (hi := n) (vs := []) (ds0 := [])
        rw [Int.sub_zero] at q
        exact q
      · cases h2
    · cases h2
  · exact h.elim
theorem sndI_range2 (hg : Gl X "range") (hm : X.mg "range" = none) (hs : starEach [ex, ex2] X.env = [(false, eval ex X.env), (false, eval ex2 X.env)]) (hs2 : starEach [ex2] X.env = [(false, eval ex2 X.env)])
    (ha : PE X ex (tE X.K mg XW m)) (hb : PE X ex2 (tE X.K mg XW m2)) :
    PI X tg (.Call (.Name "range" p) [ex, ex2] [] pos) (tR X.K mg (OIt X.K) XW fun e => (m e).bind fun p e => (m2 e).bind fun q e => match p.get e, q.get e with
      | some x, some y => (match range2D x y with
        | some ds => .ok ([], ds) e
        | none => .no)
      | _, _ => .no) := by
  refine PIimp (pi_range2 hg hm (pa_cons ha (pa_cons hb pa_nil hs2) (by rw [hs, hs2])) hs hs2) fun σ H R h => ?_
  obtain ⟨W, G, B, F, e, rel, h⟩ := h
  refine ⟨W, G, B, F, e, rel, seq adv_out reb_it rel h fun x e1 v H1 F1 r1 s1 o1 h => ?_⟩
  refine ⟨W, G, B, F1, e1, r1, seq adv_out reb_it r1 h fun y e2 w H2 F2 r2 s2 o2 h => ?_⟩
  have o1 := o1.step s2.step
  split at h
  · rename_i d d' h1 h2
    split at h
    · rename_i ds hd
      have p1 := o1.pk r2 h1
      have p2 := o2.pk r2 h2
      unfold range2D at hd
      split at hd
      · rename_i lo hi
        split at hd
        · rename_i hz
          cases hd
          cases p1.int
          cases p2.int
          exact ⟨lo, hi, rfl, ⟨hz.1.1, hz.1.2, hz.2.1, hz.2.2⟩, h _ _ _ ⟨r2, .refl, [], [], .nil, rfl, itOk_range⟩⟩
        · cases hd
      · cases hd
    · exact h.elim
  · exact h.elim
theorem sndI_zip (hg : Gl X "zip") (hm : X.mg "zip" = none) (hs : starEach [ex, ex2] X.env = (false, eval ex X.env) :: starEach [ex2] X.env) (hs2 : starEach [ex2] X.env = (false, eval ex2 X.env) :: starEach [] X.env) (hpl : (backTo pos (starEach [ex2] X.env)).any (·.1) = false)
    (ha : PE X ex (tE X.K mg XW m)) (hb : PE X ex2 (tE X.K mg XW m2)) :
    PI X (.Tuple elts kk tpos) (.Call (.Name "zip" p) [ex, ex2] [] pos) (tR X.K mg (OIt X.K) XW fun e => (m e).bind fun p e => (m2 e).bind fun q e => match p.get e, q.get e with
      | some x, some y => (match zipItems x y with
        | some ds => .ok ([p, q], ds) e
        | none => .no)
      | _, _ => .no) := by
  refine PIimp (pi_zipA hg hm (pa_cons ha (pa_cons hb pa_nil hs2) hs) hs hpl) fun σ H R h => ?_
  obtain ⟨W, G, B, F, e, rel, h⟩ := h
  refine ⟨W, G, B, F, e, rel, seq adv_out reb_it rel h fun x e1 v H1 F1 r1 s1 o1 h => ?_⟩
  refine ⟨W, G, B, F1, e1, r1, seq adv_out reb_it r1 h fun y e2 w H2 F2 r2 s2 o2 h => ?_⟩
  have o1 := o1.step s2.step
  split at h
  · rename_i d d' h1 h2
    split at h
    · rename_i ds hd
      have p1 := o1.pk r2 h1
      have p2 := o2.pk r2 h2
      unfold zipItems at hd
      split at hd
      · cases hd
        obtain ⟨a, xs, rfl, h3, h4⟩ := p1.list
        obtain ⟨b, ys, rfl, h5, h6⟩ := p2.list
        exact ⟨a, b, xs, ys, rfl, .inl ⟨.inl h3, .inl h5, h _ _ _ ⟨r2, .refl, [.ref a, .ref b], _, .cons o1 (.cons o2 .nil), gets2 h1 h2, itOk_zip⟩⟩⟩
      · cases hd
        obtain ⟨a, xs, rfl, h3, h4⟩ := p1.tup
        obtain ⟨b, ys, rfl, h5, h6⟩ := p2.tup
        exact ⟨a, b, xs, ys, rfl, .inr ⟨h3.sq, h5.sq, h _ _ _ ⟨r2, .refl, [.ref a, .ref b], _, .cons o1 (.cons o2 .nil), gets2 h1 h2, itOk_zipT⟩⟩⟩
      · cases hd
    · exact h.elim
  · exact h.elim
theorem sndI_enum (hg : Gl X "enumerate") (hm : X.mg "enumerate" = none) (hs : starEach [ex] X.env = [(false, eval ex X.env)]) (ha : PE X ex (tE X.K mg XW m)) :
    PI X (.Tuple elts kk tpos) (.Call (.Name "enumerate" p) [ex] [] pos) (tR X.K mg (OIt X.K) XW fun e => (m e).bind fun p e => match (p.get e).bind enumItems with
      | some ds => .ok ([p], ds) e
      | none => .no) := by
  refine PIimp (pi_enumT hg hm (pa_cons ha pa_nil hs) hs) fun σ H R h => ?_
  obtain ⟨W, G, B, F, e, rel, h⟩ := h
  refine ⟨W, G, B, F, e, rel, seq adv_out reb_it rel h fun x e1 v H1 F1 r1 s1 o1 h => ?_⟩
  split at h
  · rename_i ds hd
    obtain ⟨d, h1, h2⟩ := Option.bind_eq_some_iff.mp hd
    have pk := o1.pk r1 h1
    cases d <;> cases h2
    · obtain ⟨a, xs, rfl, h5, h6⟩ := pk.list
      exact ⟨a, xs, rfl, .inl ⟨.inl h5, h _ _ _ ⟨r1, .refl, [.ref a], _, .cons o1 .nil, gets1 h1, itOk_enum⟩⟩⟩
    · obtain ⟨a, xs, rfl, h5, h6⟩ := pk.tup
      exact ⟨a, xs, rfl, .inr ⟨h5.sq, h _ _ _ ⟨r1, .refl, [.ref a], _, .cons o1 .nil, gets1 h1, itOk_enT⟩⟩⟩
  · exact h.elim
end
end Ev

/-! Ev, part I: targets, comprehensions. -/
namespace Ev
open PySem L2 RZ
mutual
def tgS : Tg → List Nat
  | .nm i => [i]
  | .tup ts => tgsS ts
def tgsS : Tgs → List Nat
  | .nil => []
  | .cons t ts => tgS t ++ tgsS ts
end
def tgsN : Tgs → Nat
  | .nil => 0
  | .cons _ ts => tgsN ts + 1
def gT (K : PySem.W.Frag) (t : Tg) : TG := fun v σ H Q => ∃ W G B F e d e', Rel K W G B F H σ e ∧ DpA K (AV W F) H v d ∧ putTg t d e = some e' ∧
  ∀ σ', Rel K W G B F H σ' e' → σ'.length = σ.length → (∀ j, j ∉ tgS t → σ'[j]? = σ[j]?) → Q σ' H
def gTs (K : PySem.W.Frag) (t : Tgs) : TGs := fun vs σ H Q => ∃ W G B F e ds e', Rel K W G B F H σ e ∧ DpAs K (AV W F) H vs ds ∧ putTgs t ds e = some e' ∧
  ∀ σ', Rel K W G B F H σ' e' → σ'.length = σ.length → (∀ j, j ∉ tgsS t → σ'[j]? = σ[j]?) → Q σ' H
theorem PGimp {X : Cx} {a : Expr} {t t' : TG} (h : PG X a t) (i : ∀ v σ H Q, t' v σ H Q → t v σ H Q) : PG X a t' := ⟨fun pins s σ H v u Q I r q => h.run pins s σ H v u Q I r (i v σ H Q q)⟩
theorem PGsimp {X : Cx} {a : List Expr} {t t' : TGs} (h : PGs X a t) (i : ∀ v σ H Q, t' v σ H Q → t v σ H Q) : PGs X a t' := ⟨fun pins s σ H v u Q I r q => h.run pins s σ H v u Q I r (i v σ H Q q)⟩
theorem putTgs_len : ∀ {ts : Tgs} {ds : List D} {e e' : En}, putTgs ts ds e = some e' → ds.length = tgsN ts
  | .nil, [], _, _, _ => rfl
  | .nil, _ :: _, _, _, h => by simp [putTgs] at h
  | .cons t ts, [], _, _, h => by simp [putTgs] at h
  | .cons t ts, d :: ds, e, e', h => by
    unfold putTgs at h
    split at h
    · rw [List.length_cons, putTgs_len h]; rfl
    · cases h
section
variable {X : Cx}
theorem sndG_nm {i : Nat} {ex : Expr} (h : PG X ex (gName i)) : PG X ex (gT X.K (.nm i)) := by
  refine PGimp h fun v σ H Q q => ?_
  obtain ⟨W, G, B, F, e, d, e', rel, p, hp, q⟩ := q
  simp only [putTg] at hp
  have fin : ∀ (hi : i < e.length), e' = e.set i (some (.val d)) → Q (σ.set i (some v)) H := fun hi ee => by
    subst ee
    exact q _ (rel.putVal p hi) List.length_set fun j hj => List.getElem?_set_ne fun z => hj (by simp [tgS, z])
  cases hs : e[i]? with
  | none => rw [hs] at hp; cases hp
  | some s =>
    have hi := lt_of_slot hs
    rw [hs] at hp
    cases s with
    | none => cases hp; exact fin hi rfl
    | some s =>
      cases s with
      | bor c => cases hp
      | val c => cases hp; exact fin hi rfl
      | own c => cases hp; exact fin hi rfl
theorem sndG_tup {ts : Tgs} {es : List Expr} {k : Nat} {pos : Pos} (hc : X.calm = true) (h : PGs X es (gTs X.K ts)) (hn : (assignEach es X.env).length = tgsN ts) (hst : (assignEach es X.env).findIdx? (·.1) = none) :
    PG X (.Tuple es k pos) (gT X.K (.tup ts)) := by
  refine PGimp (pg_tup hc h hn hst) fun v σ H Q q => ?_
  obtain ⟨W, G, B, F, e, d, e', rel, p, hp, q⟩ := q
  cases d <;> first | (simp [putTg] at hp; done) | skip
  rename_i ds
  have hp : putTgs ts ds e = some e' := by simpa [putTg] using hp
  cases p with
  | tup h1 h2 => exact ⟨_, _, rfl, h1.sq, h2.length.trans (putTgs_len hp), W, G, B, F, e, ds, e', rel, h2, hp, q⟩
theorem sndGs_nil : PGs X [] (gTs X.K .nil) := by
  refine PGsimp pgs_nil fun vs σ H Q q => ?_
  obtain ⟨W, G, B, F, e, ds, e', rel, p, hp, q⟩ := q
  cases ds with
  | nil =>
    cases p
    simp [putTgs] at hp
    subst hp
    exact ⟨rfl, q σ rel rfl fun _ _ => rfl⟩
  | cons d ds => simp [putTgs] at hp
theorem sndGs_cons {t : Tg} {ts : Tgs} {a : Expr} {es : List Expr} (hs : (assignEach (a :: es) X.env).map (·.2) = assign a X.env :: (assignEach es X.env).map (·.2)) (h : PG X a (gT X.K t)) (h2 : PGs X es (gTs X.K ts)) : PGs X (a :: es) (gTs X.K (.cons t ts)) := by
  refine PGsimp (pgs_cons h h2 hs) fun vs σ H Q q => ?_
  obtain ⟨W, G, B, F, e, ds, e', rel, p, hp, q⟩ := q
  cases ds with
  | nil => simp [putTgs] at hp
  | cons d ds =>
    cases p with
    | cons p ps =>
      unfold putTgs at hp
      split at hp
      · rename_i e1 h1
        refine ⟨_, _, rfl, W, G, B, F, e, d, e1, rel, p, h1, fun σ1 r1 l1 n1 => ?_⟩
        refine ⟨W, G, B, F, e1, ds, e', r1, ps, hp, fun σ2 r2 l2 n2 => ?_⟩
        exact q σ2 r2 (l2.trans l1) fun j hj => by
          simp only [tgsS, List.mem_append, not_or] at hj
          exact (n2 j hj.2).trans (n1 j hj.1)
      · cases hp
end

/-! ### the block's own variables -/
theorem wipeE_len (e : En) : ∀ own : List Nat, (wipeE e own).length = e.length
  | [] => rfl
  | i :: is => by unfold wipeE; rw [List.length_set, wipeE_len e is]
theorem wipeE_out {e : En} {j : Nat} : ∀ {own : List Nat}, j ∉ own → (wipeE e own)[j]? = e[j]?
  | [], _ => rfl
  | i :: is, h => by
    simp only [List.mem_cons, not_or] at h
    unfold wipeE
    rw [List.getElem?_set_ne (Ne.symm h.1), wipeE_out h.2]
theorem wipeE_in {e : En} {j : Nat} {s : Slot} : ∀ {own : List Nat}, j ∈ own → (wipeE e own)[j]? ≠ some (some s)
  | [], h => by cases h
  | i :: is, h => by
    unfold wipeE
    intro z
    rcases get_set z with ⟨_, q⟩ | ⟨n, q⟩
    · cases q
    · rcases List.mem_cons.mp h with e | h
      · exact n e
      · exact wipeE_in h q
theorem backE_len (e0 e : En) : ∀ own : List Nat, (backE e0 own e).length = e.length
  | [] => rfl
  | i :: is => by
    unfold backE
    split
    · rw [List.length_set, backE_len e0 e is]
    · exact backE_len e0 e is
theorem backE_out {e0 e : En} {j : Nat} : ∀ {own : List Nat}, j ∉ own → (backE e0 own e)[j]? = e[j]?
  | [], _ => rfl
  | i :: is, h => by
    simp only [List.mem_cons, not_or] at h
    unfold backE
    split
    · rw [List.getElem?_set_ne (Ne.symm h.1), backE_out h.2]
    · exact backE_out h.2
theorem backE_in {e0 e : En} {j : Nat} (hl : e.length = e0.length) : ∀ {own : List Nat}, j ∈ own → (backE e0 own e)[j]? = e0[j]?
  | [], h => by cases h
  | i :: is, h => by
    unfold backE
    by_cases hj : j = i
    · subst hj
      split
      · rename_i s hs
        rw [List.getElem?_set_self (by rw [backE_len, hl]; exact lt_of_slot hs), hs]
      · rename_i hs
        rw [hs]
        have : ¬ j < e0.length := fun z => by rw [List.getElem?_eq_getElem z] at hs; cases hs
        exact List.getElem?_eq_none (by rw [backE_len, hl]; omega)
    · have h : j ∈ is := by
        rcases List.mem_cons.mp h with e | h
        · exact absurd e hj
        · exact h
      split
      · rw [List.getElem?_set_ne (Ne.symm hj), backE_in hl h]
      · exact backE_in hl h
theorem wipe_get_out {σ : St} {j : Nat} : ∀ {own : List Nat}, j ∉ own → (wipe σ own)[j]? = σ[j]?
  | [], _ => rfl
  | i :: is, h => by
    simp only [List.mem_cons, not_or] at h
    unfold wipe
    rw [List.getElem?_set_ne (Ne.symm h.1), wipe_get_out h.2]
theorem wipe_get_in {σ : St} {j : Nat} (hj : j < σ.length) : ∀ {own : List Nat}, j ∈ own → (wipe σ own)[j]? = some none
  | [], h => by cases h
  | i :: is, h => by
    unfold wipe
    by_cases hi : j = i
    · subst hi
      exact List.getElem?_set_self (by rw [wipe_length]; exact hj)
    · rw [List.getElem?_set_ne (Ne.symm hi)]
      rcases List.mem_cons.mp h with e | h
      · exact absurd e hi
      · exact wipe_get_in hj h
theorem wipe_same {σ σ' : St} {own : List Nat} (hl : σ'.length = σ.length) (h : ∀ j, j ∉ own → σ'[j]? = σ[j]?) : wipe σ' own = wipe σ own := by
  refine List.ext_getElem? fun j => ?_
  by_cases hj : j ∈ own
  · by_cases hlt : j < σ.length
    · rw [wipe_get_in (by rw [hl]; exact hlt) hj, wipe_get_in hlt hj]
    · rw [List.getElem?_eq_none (by rw [wipe_length]; omega), List.getElem?_eq_none (by rw [wipe_length]; omega)]
  · rw [wipe_get_out hj, wipe_get_out hj, h j hj]
theorem mayWipe_at {e : En} {j : Nat} : ∀ {own : List Nat}, mayWipe e own = true → j ∈ own → (∀ c, e[j]? ≠ some (some (.own c))) ∧ ∀ c, e[j]? ≠ some (some (.bor c))
  | [], _, h => by cases h
  | i :: is, hm, h => by
    unfold mayWipe at hm
    rw [Bool.and_eq_true] at hm
    rcases List.mem_cons.mp h with q | h
    · subst q
      refine ⟨fun c z => ?_, fun c z => ?_⟩
      · rw [z] at hm; simp at hm
      · rw [z] at hm; simp at hm
    · exact mayWipe_at hm.2 h
section
variable {K : PySem.W.Frag} {W W' G : AS} {B : Nat → AS × AS} {F F' : Nat → AS} {H H' : Hp} {σ : St} {e e1 : En} {own : List Nat}
theorem Rel.wipe (r : Rel K W G B F H σ e) (own : List Nat) : Rel K W G B F H (L2.wipe σ own) (wipeE e own) := by
  refine ⟨by rw [wipe_length, wipeE_len]; exact r.len, r.wt, r.gt, r.ft, r.fw, r.ff, fun j s h => ?_⟩
  by_cases hj : j ∈ own
  · exact absurd h (wipeE_in hj)
  · rw [wipeE_out hj] at h
    rw [wipe_get_out hj]
    exact r.slot j s h
theorem Rel.back (r0 : Rel K W G B F H σ e1) (st : Stp W F H W' F' H') (r : Rel K W' G B F' H' (L2.wipe σ own) e) (hm : mayWipe e1 own = true) : Rel K W' G B F' H' σ (backE e1 own e) := by
  have hl : e.length = e1.length := by rw [← r.len, ← r0.len, wipe_length]
  refine ⟨by rw [backE_len, hl]; exact r0.len, r.wt, r.gt, r.ft, r.fw, r.ff, fun j s h => ?_⟩
  by_cases hj : j ∈ own
  · rw [backE_in hl hj] at h
    obtain ⟨v, h1, h2⟩ := r0.slot j s h
    obtain ⟨m1, m2⟩ := mayWipe_at hm hj
    cases s with
    | val d => exact ⟨v, h1, DpA.step st.step h2⟩
    | own c => exact absurd h (m1 c)
    | bor c => exact absurd h (m2 c)
  · rw [backE_out hj] at h
    obtain ⟨v, h1, h2⟩ := r.slot j s h
    rw [wipe_get_out hj] at h1
    exact ⟨v, h1, h2⟩
/-- others' cell changes -/
theorem Rel.writeW {a : Addr} {o : HO} (r : Rel K W G B F H σ e) (ha : W a) : Rel K W G B F (upd H a o) σ e ∧ Step (AV W F) H (AV W F) (upd H a o) := by
  have trk : ∀ b, H b ≠ none → upd H a o b ≠ none := fun b h => by
    by_cases q : b = a
    · subst q; rw [upd_same]; simp
    · rw [upd_ne q]; exact h
  have st : Step (AV W F) H (AV W F) (upd H a o) := ⟨fun b u q n => by
    rw [upd_ne fun z => n (by subst z; exact .inl ha)]
    exact q, trk, fun b z _ => z⟩
  refine ⟨⟨r.len, fun b z => trk b (r.wt b z), fun b z => trk b (r.gt b z), fun j b z => trk b (r.ft j b z), r.fw, r.ff, fun j s h => ?_⟩, st⟩
  obtain ⟨v, h1, h2⟩ := r.slot j s h
  refine ⟨v, h1, ?_⟩
  cases s with
  | val d => exact DpA.step st h2
  | own c =>
    obtain ⟨a', y1, y2, y3, y4⟩ := h2
    exact ⟨a', y1, y2.step st fun u q => by rw [upd_ne fun z => r.fw j a' y3 (by rw [z]; exact ha)]; exact q, y3, y4⟩
  | bor c =>
    obtain ⟨a', y1, y2, y3, y4⟩ := h2
    exact ⟨a', y1, y2.step st fun u q => by rw [upd_ne fun z => r.fw j a' y3 (by rw [z]; exact ha)]; exact q, y3, y4⟩
theorem Stp.writeNew {a : Addr} {o : HO} (st : Stp W F H W' F' H') (n : H a = none) : Stp W F H W' F' (upd H' a o) :=
  ⟨fun b u q m => by rw [upd_ne (ne_of_none q n)]; exact st.keep b u q m, fun b q => by
    by_cases z : b = a
    · subst z; rw [upd_same]; simp
    · rw [upd_ne z]; exact st.trk b q, st.sub, st.subM⟩
/-- the sources of a walk stand -/
theorem stands_pk {ps : List PV} {vs : List V} {ds0 : List D} (r0 : Rel K W G B F H σ e1) (st : Stp W F H W' F' H') (r : Rel K W' G B F' H' (L2.wipe σ own) e) (hm : mayWipe e1 own = true) (o : OPs K (AV W F) H σ vs ps) (g : gets ps e1 = some ds0)
    (hs : stands (wipeE e1 own) ps e) : Paired (PK K (AV W' F') H') vs ds0 := by
  induction o generalizing ds0 with
  | nil => cases g; exact .nil
  | @cons v p vs ps o1 os ih =>
    unfold gets at g
    split at g
    · rename_i d ds' h1 h2
      cases g
      cases p with
      | r x =>
        have hs : stands (wipeE e1 own) ps e := hs
        refine .cons ?_ (ih h2 hs)
        simp only [PV.get, Option.some.injEq] at h1
        subst h1
        exact .inl (DpA.step st.step o1)
      | sl i =>
        obtain ⟨q, hs⟩ : e[i]? = (wipeE e1 own)[i]? ∧ stands (wipeE e1 own) ps e := hs
        refine .cons ?_ (ih h2 hs)
        have o1 : σ[i]? = some (some v) := o1
        simp only [PV.get] at h1
        split at h1
        · rename_i s hsl
          cases h1
          obtain ⟨u, y1, y2⟩ := r0.slot i s hsl
          rw [o1] at y1
          cases y1
          have notIn : (∀ d, s ≠ .val d) → i ∉ own := fun nv hi => by
            obtain ⟨m1, m2⟩ := mayWipe_at hm hi
            cases s with
            | val d => exact nv d rfl
            | own c => exact m1 c hsl
            | bor c => exact m2 c hsl
          cases s with
          | val d => exact .inl (DpA.step st.step y2)
          | own c =>
            have ni := notIn fun _ z => nomatch z
            rw [wipeE_out ni, hsl] at q
            obtain ⟨u, z1, z2⟩ := r.slot i _ q
            rw [wipe_get_out ni, o1] at z1
            cases z1
            obtain ⟨a, w1, w2, _⟩ := z2
            exact .inr ⟨a, c, w1, rfl, w2⟩
          | bor c =>
            have ni := notIn fun _ z => nomatch z
            rw [wipeE_out ni, hsl] at q
            obtain ⟨u, z1, z2⟩ := r.slot i _ q
            rw [wipe_get_out ni, o1] at z1
            cases z1
            obtain ⟨a, w1, w2, _⟩ := z2
            exact .inr ⟨a, c, w1, rfl, w2⟩
        · cases h1
    · cases g
end
end Ev

/-! Ev, part J: comprehensions; tests; cells changed; further forms. -/
namespace Ev
open PySem L2 RZ
abbrev XWF : WX := fun _ _ _ _ => False
noncomputable def lcM (own : List Nat) (tg : Tg) (mi : En → Rs (List PV × List D)) (mc : En → Rs Bool) (me : En → Rs PV) (e : En) : Rs PV :=
  (mi e).bind fun p e => match mayWipe e own with
    | false => .no
    | true => (compL (fun d e => lcTurn own tg mc me d e) (stands (wipeE e own) p.1) p.2 [] (wipeE e own)).bind fun ds e' => .ok (.r (.o (.lst ds))) (backE e own e')
section
variable {K : PySem.W.Frag} {mg : Str → Option Value} {XW : WX}
theorem av_plus {W fp : AS} {F : Nat → AS} (b : Addr) (h : AV (plus W fp) F b) : AV W F b ∨ fp b := by
  rcases h with (h | h) | h
  · exact .inl (.inl h)
  · exact .inr h
  · exact .inl (.inr h)
theorem noEx_ok {α : Type} {r : Rs α} {a : α} {e : En} (h : r.noEx = .ok a e) : r = .ok a e := by
  cases r <;> first | exact h | cases h
theorem lc_read {own : List Nat} {tg : Tg} {mi : En → Rs (List PV × List D)} {mc : En → Rs Bool} {me : En → Rs PV} {σ : St} {H : Hp} {Q : VK} (htg : ∀ j, j ∈ tgS tg → j ∈ own) (h : tE K mg XW (lcM own tg mi mc me) σ H Q) :
    tLc (tR K mg (OIt K) XW mi) (gT K tg) (tTst K mg XWF mc) (tE K mg XWF me) own σ H Q := by
  obtain ⟨W, G, B, F, e, rel, h⟩ := h
  have adv : Adv K (OIt K) fun _ _ _ _ _ => True := fun W G B σ F H e F' H' e' b a r o => ⟨o.1, o.2.1, trivial⟩
  refine ⟨W, G, B, F, e, rel, ?_⟩
  have h : Res K mg XW (OOut K W G B σ) W G B F H σ ((mi e).bind fun p e => match mayWipe e own with
    | false => .no
    | true => (compL (fun d e => lcTurn own tg mc me d e) (stands (wipeE e own) p.1) p.2 [] (wipeE e own)).bind fun ds e' => .ok (.r (.o (.lst ds))) (backE e own e')) Q := h
  cases hmi : mi e with
  | no => rw [hmi] at h; exact h
  | ex x e1 => rw [hmi] at h; exact h
  | ok p e1 =>
    rw [hmi] at h
    intro J H1 F1 o
    obtain ⟨r1, st1, vs0, ds0, ops, gs, itok⟩ := o
    rw [Rs.bind_ok] at h
    cases hm : mayWipe e1 own with
    | false => rw [hm] at h; exact h.elim
    | true =>
      rw [hm] at h
      dsimp only at h
      intro Dn hDn
      generalize hg : stands (wipeE e1 own) p.1 = g at h
      -- the outcome, from a turn on
      refine ⟨fun i m Hi => m = p.2.length - i ∧ i ≤ p.2.length ∧ ∃ Fi ei acc accD, Rel K (plus W fun b => b = Dn) G B Fi Hi (wipe σ own) ei ∧ Stp W F1 H1 (plus W fun b => b = Dn) Fi Hi ∧ Hi Dn = some (.lst acc) ∧
          DpAs K (AV (plus W fun b => b = Dn) Fi) Hi acc accD ∧ Res K mg XW (OOut K W G B σ) W G B F1 H1 σ ((compL (fun d e => lcTurn own tg mc me d e) g (p.2.drop i) accD ei).bind fun ds e' => .ok (.r (.o (.lst ds))) (backE e1 own e')) Q,
        ⟨_, rfl, Nat.zero_le _, F1, wipeE e1 own, [], [], (r1.wipe own).ext (same_upd hDn) (fun b z => ?_), stp_of (same_upd hDn) (fun b z q => ?_) (fun i b z _ => ⟨i, z⟩), upd_same, .nil, ?_⟩, ?_⟩
      · rcases z with z | z
        · exact .inl z
        · subst z; exact .inr ⟨hDn, by rw [upd_same]; simp⟩
      · rcases av_plus b z with z | z
        · exact z
        · subst z; exact absurd hDn q
      · rw [List.drop_zero]
        cases hr : (compL (fun d e => lcTurn own tg mc me d e) g p.2 [] (wipeE e1 own)).bind fun ds e' => Rs.ok (PV.r (.o (.lst ds))) (backE e1 own e') with
        | no => rw [hr] at h; exact h
        | ok a e2 =>
          rw [hr] at h
          exact fun b H2 F2 o2 => h b H2 F2 (Out.rebase rel r1 st1 o2)
        | ex x e2 =>
          rw [hr] at h
          exact fun cls d H2 F2 o2 => h cls d H2 F2 ⟨o2.1, st1.trans o2.2.1, o2.2.2⟩
      · rintro i m Hi ⟨rfl, hi, Fi, ei, acc, accD, ri, sti, hD, ha, hres⟩
        have turns : g ei → (∀ k, k < p.2.length → J.go k Hi) ∧ J.stop p.2.length Hi ∧ ∀ k x H', k < p.2.length → J.yld k Hi x H' → Same Hi H' ∧ ∃ d, p.2[k]? = some d ∧ DpA K (AV (plus W fun b => b = Dn) Fi) H' x d := fun gi => by
          subst hg
          exact itok _ Hi ri.at (stands_pk r1 sti ri hm ops gs gi)
        by_cases hlt : i < p.2.length
        · obtain ⟨d, rest, hdrop⟩ : ∃ d rest, p.2.drop i = d :: rest := ⟨_, _, List.drop_eq_getElem_cons hlt⟩
          have hd : p.2[i]? = some d := by
            have := congrArg (fun l => l[0]?) hdrop
            simpa using this
          have hrest : p.2.drop (i + 1) = rest := by
            rw [← List.drop_drop, hdrop]; rfl
          rw [hdrop] at hres
          unfold compL at hres
          split at hres
          case isFalse => exact hres.elim
          rename_i gi
          obtain ⟨go, _, yl⟩ := turns gi
          refine .inr ⟨go i hlt, fun H' => ∃ Fi ei acc accD, Rel K (plus W fun b => b = Dn) G B Fi H' (wipe σ own) ei ∧ Stp W F1 H1 (plus W fun b => b = Dn) Fi H' ∧ H' Dn = some (.lst acc) ∧
              DpAs K (AV (plus W fun b => b = Dn) Fi) H' acc accD ∧ Res K mg XW (OOut K W G B σ) W G B F1 H1 σ ((compL (fun d e => lcTurn own tg mc me d e) g (p.2.drop (i + 1)) accD ei).bind fun ds e' => .ok (.r (.o (.lst ds))) (backE e1 own e')) Q,
            fun H' q => ⟨_, by omega, rfl, hlt, q⟩, fun x H' y => ?_⟩
          obtain ⟨sm, d', hd', px⟩ := yl i x H' hlt y
          rw [hd] at hd'
          cases hd'
          have ri' := ri.ext sm fun b z => .inl z
          have stS : Stp (plus W fun b => b = Dn) Fi Hi (plus W fun b => b = Dn) Fi H' := stp_of sm (fun b z _ => z) fun k b z _ => ⟨k, z⟩
          unfold lcTurn at hres
          cases hput : putTg tg d ei with
          | none => rw [hput] at hres; exact hres.elim
          | some e2 =>
            rw [hput] at hres
            dsimp only at hres
            refine ⟨_, G, B, Fi, ei, d, e2, ri', px, hput, fun σ' r2 l2 n2 => ?_⟩
            have hw : wipe σ' own = wipe σ own := by
              have e1' : wipe σ' own = wipe (wipe σ own) own := wipe_same l2 fun j hj => n2 j fun z => hj (htg j z)
              have e2' : wipe (wipe σ own) own = wipe σ own := wipe_same (wipe_length _ _) fun j hj => wipe_get_out hj
              exact e1'.trans e2'
            have hw2 : wipe σ' own = wipe (wipe σ own) own := by
              rw [hw]
              exact (wipe_same (wipe_length _ _) fun j hj => wipe_get_out hj).symm
            refine ⟨hw, _, G, B, Fi, e2, r2, ?_⟩
            -- the test
            cases hmc : mc e2 with
            | no => rw [hmc] at hres; exact hres
            | ex xx e3 => rw [hmc] at hres; exact hres.elim
            | ok k e3 =>
              rw [hmc] at hres
              intro b H3 F3 o3
              obtain ⟨r3, s3, eb⟩ := o3
              have eb : b = k := eb
              subst eb
              have keepD : ∀ {H4 : Hp} {F4 : Nat → AS}, Stp (plus W fun b => b = Dn) Fi H' (plus W fun b => b = Dn) F4 H4 → H4 Dn = some (.lst acc) := fun st => st.keep Dn _ (sm _ _ hD) fun ⟨k, z⟩ => ri.fw k Dn z (.inr rfl)
              cases b with
              | false =>
                refine iteF ⟨F3, wipeE e3 own, acc, accD, ?_, sti.trans (stS.trans s3), keepD s3, ha.step (stS.trans s3).step, ?_⟩
                · rw [← hw]; exact r3.wipe own
                · rw [hrest]; exact hres
              | true =>
                refine iteT ⟨_, G, B, F3, e3, r3, ?_⟩
                cases hme : me e3 with
                | no =>
                  simp only [Rs.noEx, Rs.bind_ok, hme] at hres
                  exact hres
                | ex xx e4 =>
                  simp only [Rs.noEx, Rs.bind_ok, hme] at hres
                  exact hres.elim
                | ok y e4 =>
                  simp only [Rs.noEx, Rs.bind_ok, hme] at hres
                  intro v H4 F4 o4
                  obtain ⟨r4, s4, p4⟩ := Out.opv o4 r3
                  cases y with
                  | sl _ => exact hres.elim
                  | r y =>
                    simp only [Rs.bind_ok] at hres
                    split at hres
                    case isFalse => exact hres.elim
                    rename_i hz
                    have st34 : Stp (plus W fun b => b = Dn) Fi Hi (plus W fun b => b = Dn) F4 H4 := stS.trans (s3.trans s4)
                    obtain ⟨r5, st5⟩ := r4.writeW (o := .lst (acc ++ [v])) (.inr rfl)
                    refine ⟨acc, keepD (s3.trans s4), by rw [ha.length]; exact hz, F4, wipeE e4 own, acc ++ [v], accD ++ [y.d], ?_, (sti.trans st34).writeNew hDn, upd_same, ((ha.step st34.step).step st5).append (.cons (DpA.step st5 p4) .nil), ?_⟩
                    · rw [← hw]; exact r5.wipe own
                    · rw [hrest]; exact hres
        · have hil : i = p.2.length := by omega
          subst hil
          rw [List.drop_length] at hres
          unfold compL at hres
          split at hres
          case isFalse => exact hres.elim
          rename_i gi
          obtain ⟨_, stop, _⟩ := turns gi
          refine .inl ⟨stop, hres (.ref Dn) Hi Fi ?_⟩
          exact ⟨Dn, fun b => b = Dn, rfl, rfl, fun b z => by subst z; exact ⟨fun g => r1.gt _ g hDn, .inl hDn⟩, Rel.back r1 sti ri hm, sti, acc, hD, ha⟩
end
end Ev
namespace Ev
open PySem L2 RZ
section
variable {K : PySem.W.Frag} {mg : Str → Option Value} {XW : WX}
def okB (m : En → Rs PV) (e : En) : Rs Bool := testB (m e) fun k e => .ok k e
/-- a value's reading as a test -/
theorem test_imp {m : En → Rs PV} {t : TE} (i : ∀ σ H Q, tE K mg XW m σ H Q → t σ H Q) {σ : St} {H : Hp} {Q : Bool → Hp → Prop} (h : tTst K mg XW (okB m) σ H Q) : t σ H fun x H1 => ∃ k, x = .bl k ∧ Q k H1 := by
  refine i σ H _ ?_
  obtain ⟨W, G, B, F, e, rel, h⟩ := h
  refine ⟨W, G, B, F, e, rel, seq adv_out reb_of rel h fun x e1 v H1 F1 r1 s1 o1 h => ?_⟩
  split at h
  · rename_i k hk
    exact ⟨k, boolOf_opv hk o1, h k H1 F1 ⟨r1, .refl, rfl⟩⟩
  · exact h.elim
theorem imp_cmp {op : CmpOp} {ma mb : En → Rs PV} {σ : St} {H : Hp} {Q : VK} (h : tE K mg XW (fun e => (ma e).bind fun x e => (mb e).bind fun y e => app2 (cmpR op) x y e) σ H Q) : tOp (rD K (cmpR op)) (tE K mg XW ma) (tE K mg XW mb) σ H Q := by
  obtain ⟨W, G, B, F, e, rel, h⟩ := h
  refine ⟨W, G, B, F, e, rel, seq adv_out reb_out rel h fun x e1 v H1 F1 r1 s1 o1 h => ?_⟩
  refine ⟨W, G, B, F1, e1, r1, seq adv_out reb_out r1 h fun y e2 w H2 F2 r2 s2 o2 h => ?_⟩
  exact app2_out r2 (o1.step s2.step) o2 h
def chnM (o1 o2 : CmpOp) (ma mb mc : En → Rs PV) (e : En) : Rs PV := (ma e).bind fun x e => (mb e).bind fun y e => testB (app2 (cmpR o1) x y e) fun k e => match k with
  | false => .ok (.r (.v (.bool false))) e
  | true => (mc e).bind fun z e => app2 (cmpR o2) y z e
theorem imp_chn {o1 o2 : CmpOp} {ma mb mc : En → Rs PV} {σ : St} {H : Hp} {Q : VK} (h : tE K mg XW (chnM o1 o2 ma mb mc) σ H Q) : tChain (rD K (cmpR o1)) (rD K (cmpR o2)) (tE K mg XW ma) (tE K mg XW mb) (tE K mg XW mc) σ H Q := by
  obtain ⟨W, G, B, F, e, rel, h⟩ := h
  refine ⟨W, G, B, F, e, rel, seq adv_out reb_out rel h fun x e1 v H1 F1 r1 s1 o1 h => ?_⟩
  refine ⟨W, G, B, F1, e1, r1, seq adv_out reb_out r1 h fun y e2 w H2 F2 r2 s2 o2 h => ?_⟩
  refine app2_out r2 (o1.step s2.step) o2 (seq adv_out reb_out r2 h fun p e3 u H3 F3 r3 s3 o3 h => ?_)
  split at h
  · rename_i k hk
    refine ⟨k, boolOf_opv hk o3, ?_⟩
    cases k with
    | false => exact iteF (h _ _ _ (out_v r3 (.bl _)))
    | true =>
      refine iteT ⟨W, G, B, F3, e3, r3, seq adv_out reb_out r3 h fun z e4 w' H4 F4 r4 s4 o4 h => ?_⟩
      exact app2_out r4 (o2.step (s3.trans s4).step) o4 h
  · exact h.elim
end
section
variable {X : Cx} {mg : Str → Option Value} {XW : WX} {a b c : Expr} {pos : Pos} {ma mb mc : En → Rs PV}
theorem sndT_val {ex : Expr} {m : En → Rs PV} (h : PE X ex (tE X.K mg XW m)) (he : ∀ whole, isTrue ex X.env whole = (do let v ← whole; standAt ex.pos; holding [v] (truthy v))) : PT X ex (tTst X.K mg XW (okB m)) :=
  PT.imp (pt_val h he) fun σ H Q q => test_imp (t := tE X.K mg XW m) (fun _ _ _ z => z) q
theorem sndT_cmp {op : CmpOp} (hu : X.A.units + 65 < cLine) (hm : behindInMarks op b = false) (ha : PE X a (tE X.K mg XW ma)) (hb : PE X b (tE X.K mg XW mb)) :
    PT X (.Compare a [op] [b] pos) (tTst X.K mg XW (okB fun e => (ma e).bind fun x e => (mb e).bind fun y e => app2 (cmpR op) x y e)) :=
  PT.imp (pt_cmpR (op_cmpD hu op) ha hb hm) fun σ H Q q => test_imp (t := tOp (rD X.K (cmpR op)) (tE X.K mg XW ma) (tE X.K mg XW mb)) (fun _ _ _ z => imp_cmp z) q
theorem sndT_chn {o1 o2 : CmpOp} (hu : X.A.units + 65 < cLine) (hm : lastMarks [o1, o2] [b, c] = false) (ha : PE X a (tE X.K mg XW ma)) (hb : PE X b (tE X.K mg XW mb)) (hc : PE X c (tE X.K mg XW mc)) :
    PT X (.Compare a [o1, o2] [b, c] pos) (tTst X.K mg XW (okB (chnM o1 o2 ma mb mc))) :=
  PT.imp (pt_chain (op_cmpD hu o1) (op_cmpD hu o2) ha hb hc hm) fun σ H Q q => test_imp (t := tChain (rD X.K (cmpR o1)) (rD X.K (cmpR o2)) (tE X.K mg XW ma) (tE X.K mg XW mb) (tE X.K mg XW mc)) (fun _ _ _ z => imp_chn z) q
theorem sndT_not (ha : PT X a (tTst X.K mg XW (okB ma))) : PT X (.UnaryOp .Not a pos) (tTst X.K mg XW (okB fun e => testB (ma e) fun k e => .ok (.r (.v (.bool (!k)))) e)) := by
  refine PT.imp (pt_not ha) fun σ H Q h => ?_
  obtain ⟨W, G, B, F, e, rel, h⟩ := h
  refine ⟨W, G, B, F, e, rel, ?_⟩
  dsimp only [okB, testB] at h ⊢
  cases hm : ma e with
  | no => rw [hm] at h; exact h
  | ex x e1 => rw [hm] at h; exact h
  | ok x e1 =>
    rw [hm] at h
    simp only [Rs.bind_ok] at h ⊢
    cases hb : boolOf x with
    | none => rw [hb] at h; exact h
    | some k =>
      rw [hb] at h
      intro b H1 F1 o
      obtain ⟨o1, o2, o3⟩ := o
      have o3 : b = k := o3
      subst o3
      exact h (!b) H1 F1 ⟨o1, o2, rfl⟩
/-! and, or -/
theorem PWimp {t t' : TT} (h : PW X a t) (i : ∀ σ H Q, t' σ H Q → t σ H Q) : PW X a t' := ⟨fun wh pins s σ H Q I q => h.run wh pins s σ H Q I (i σ H Q q)⟩
def boM (an : Bool) (ma mb : En → Rs PV) (e : En) : Rs PV := testB (ma e) fun k e => if k = an then mb e else .ok (.r (.v (.bool k))) e
theorem testB_ok {α : Type} {m : Rs PV} {f : Bool → En → Rs α} {O : (Nat → AS) → Hp → (Nat → AS) → Hp → En → β → α → Prop} {K : PySem.W.Frag} {W G : AS} {B : Nat → AS × AS} {F : Nat → AS} {H : Hp} {σ : St} {Q : β → Hp → Prop}
    (h : Res K mg XW O W G B F H σ (testB m f) Q) : (∃ x e k, m = .ok x e ∧ boolOf x = some k ∧ Res K mg XW O W G B F H σ (f k e) Q) ∨ ∃ x e, m = .ex x e ∧ Res K mg XW O W G B F H σ (.ex x e : Rs α) Q := by
  unfold testB at h
  cases m with
  | no => exact h.elim
  | ex x e => exact .inr ⟨x, e, rfl, h⟩
  | ok x e =>
    simp only [Rs.bind_ok] at h
    cases hb : boolOf x with
    | none => rw [hb] at h; exact h.elim
    | some k => rw [hb] at h; exact .inl ⟨x, e, k, rfl, hb, h⟩
theorem sndBv_cons {op : BoolOp} {y : Expr} {rest : List Expr} {an : Bool} (hop : an = (op == .And)) (ha : PE X a (tE X.K mg XW ma)) (hr : PE X (.BoolOp op (y :: rest) pos) (tE X.K mg XW mb)) :
    PE X (.BoolOp op (a :: y :: rest) pos) (tE X.K mg XW (boM an ma mb)) := by
  have val : ∀ {σ : St} {H : Hp} {Q : VK}, tE X.K mg XW (boM an ma mb) σ H Q → tE X.K mg XW ma σ H fun x H1 => ∃ c, x = .bl c ∧ if c = an then tE X.K mg XW mb σ H1 Q else Q (.bl c) H1 := fun {σ H Q} h => by
    obtain ⟨W, G, B, F, e, rel, h⟩ := h
    refine ⟨W, G, B, F, e, rel, seq adv_out reb_out rel h fun x e1 v H1 F1 r1 s1 o1 h => ?_⟩
    split at h
    · rename_i k hk
      refine ⟨k, boolOf_opv hk o1, ?_⟩
      dsimp only at h
      split at h
      · rename_i he
        rw [if_pos he]
        exact ⟨W, G, B, F1, e1, r1, h⟩
      · rename_i he
        rw [if_neg he]
        exact h _ _ _ (out_v r1 (.bl _))
    · exact h.elim
  have go : ∀ {σ : St} {H : Hp} {Q P : VK}, (∀ x H1, (∃ c, x = .bl c ∧ if c = an then tE X.K mg XW mb σ H1 Q else Q (.bl c) H1) → P x H1) → tE X.K mg XW (boM an ma mb) σ H Q → tE X.K mg XW ma σ H P := fun {σ H Q P} w h => by
    obtain ⟨W, G, B, F, e, rel, h⟩ := val h
    refine ⟨W, G, B, F, e, rel, ?_⟩
    cases hm : ma e with
    | no => rw [hm] at h; exact h
    | ex x e1 => rw [hm] at h; exact h
    | ok x e1 =>
      rw [hm] at h
      exact fun v H1 F1 o => w v H1 (h v H1 F1 o)
  cases op with
  | And =>
    have : an = true := hop
    subst this
    refine PE.imp (pe_and ha hr) fun σ H Q h => go (fun x H1 q => ?_) h
    obtain ⟨c, q1, q2⟩ := q
    refine ⟨c, q1, ?_⟩
    cases c with
    | true => exact iteT (by simpa using q2)
    | false => exact iteF (by simpa using q2)
  | Or =>
    have : an = false := hop
    subst this
    refine PE.imp (pe_or ha hr) fun σ H Q h => go (fun x H1 q => ?_) h
    obtain ⟨c, q1, q2⟩ := q
    refine ⟨c, q1, ?_⟩
    cases c with
    | true => exact iteT (by simpa using q2)
    | false => exact iteF (by simpa using q2)
theorem sndBt_cons {op : BoolOp} {y : Expr} {rest : List Expr} {an : Bool} (hop : an = (op == .And)) (ht : PT X a (tTst X.K mg XW (okB ma))) (hr : PW X (.BoolOp op (y :: rest) pos) (tTst X.K mg XW (okB mb))) :
    PW X (.BoolOp op (a :: y :: rest) pos) (tTst X.K mg XW (okB (boM an ma mb))) := by
  have tst : ∀ {σ : St} {H : Hp} {Q : Bool → Hp → Prop}, tTst X.K mg XW (okB (boM an ma mb)) σ H Q → tTst X.K mg XW (okB ma) σ H fun c H1 => if c = an then tTst X.K mg XW (okB mb) σ H1 Q else Q c H1 := fun {σ H Q} h => by
    obtain ⟨W, G, B, F, e, rel, h⟩ := h
    refine ⟨W, G, B, F, e, rel, ?_⟩
    unfold okB boM at h
    rcases testB_ok h with ⟨x, e2, k2, q1, q2, h⟩ | ⟨x, e2, q1, h⟩
    · -- the whole ended
      unfold testB at q1
      cases hm : ma e with
      | no => rw [hm] at q1; cases q1
      | ex x e1 => rw [hm] at q1; cases q1
      | ok x1 e1 =>
        rw [hm] at q1
        simp only [Rs.bind_ok] at q1
        cases hb : boolOf x1 with
        | none => rw [hb] at q1; cases q1
        | some k =>
          rw [hb] at q1
          dsimp only at q1
          have e0 : okB ma e = .ok k e1 := by
            unfold okB testB
            rw [hm]
            simp only [Rs.bind_ok, hb]
          rw [e0]
          intro b H1 F1 o
          obtain ⟨o1, o2, o3⟩ := o
          have o3 : b = k := o3
          subst o3
          split at q1
          · rename_i hk
            rw [if_pos hk]
            refine ⟨W, G, B, F1, e1, o1, ?_⟩
            unfold okB testB
            rw [q1]
            simp only [Rs.bind_ok, q2]
            exact fun b2 H2 F2 p => h b2 H2 F2 ⟨p.1, o2.trans p.2.1, p.2.2⟩
          · rename_i hk
            rw [if_neg hk]
            cases q1
            simp only [boolOf, Option.some.injEq] at q2
            subst q2
            exact h b H1 F1 ⟨o1, o2, rfl⟩
    · unfold testB at q1
      cases hm : ma e with
      | no => rw [hm] at q1; cases q1
      | ex x' e1 =>
        rw [hm] at q1
        cases q1
        have e0 : okB ma e = .ex x e2 := by
          unfold okB testB
          rw [hm]
          rfl
        rw [e0]
        exact h
      | ok x1 e1 =>
        rw [hm] at q1
        simp only [Rs.bind_ok] at q1
        cases hb : boolOf x1 with
        | none => rw [hb] at q1; cases q1
        | some k =>
          rw [hb] at q1
          dsimp only at q1
          have e0 : okB ma e = .ok k e1 := by
            unfold okB testB
            rw [hm]
            simp only [Rs.bind_ok, hb]
          rw [e0]
          intro b H1 F1 o
          obtain ⟨o1, o2, o3⟩ := o
          have o3 : b = k := o3
          subst o3
          split at q1
          · rename_i hk
            rw [if_pos hk]
            refine ⟨W, G, B, F1, e1, o1, ?_⟩
            unfold okB testB
            rw [q1]
            exact fun cls d H2 F2 p => h cls d H2 F2 ⟨p.1, o2.trans p.2.1, p.2.2⟩
          · cases q1
  have go : ∀ {σ : St} {H : Hp} {Q P : Bool → Hp → Prop}, (∀ c H1, (if c = an then tTst X.K mg XW (okB mb) σ H1 Q else Q c H1) → P c H1) → tTst X.K mg XW (okB (boM an ma mb)) σ H Q → tTst X.K mg XW (okB ma) σ H P := fun {σ H Q P} w h => by
    obtain ⟨W, G, B, F, e, rel, h⟩ := tst h
    refine ⟨W, G, B, F, e, rel, ?_⟩
    cases hm : okB ma e with
    | no => rw [hm] at h; exact h
    | ex x e1 => rw [hm] at h; exact h
    | ok x e1 =>
      rw [hm] at h
      exact fun v H1 F1 o => w v H1 (h v H1 F1 o)
  cases op with
  | And =>
    have : an = true := hop
    subst this
    refine PWimp (pw_and ht hr) fun σ H Q h => go (fun c H1 q => ?_) h
    cases c with
    | true => exact iteT (by simpa using q)
    | false => exact iteF (by simpa using q)
  | Or =>
    have : an = false := hop
    subst this
    refine PWimp (pw_or ht hr) fun σ H Q h => go (fun c H1 q => ?_) h
    cases c with
    | true => exact iteT (by simpa using q)
    | false => exact iteF (by simpa using q)
theorem sndBt_one {op : BoolOp} (ht : PT X a (tTst X.K mg XW (okB ma))) : PW X (.BoolOp op [a] pos) (tTst X.K mg XW (okB ma)) := by
  cases op with
  | And => exact pw_and1 ht
  | Or => exact pw_or1 ht
end
end Ev

/-! Ev, part K: cells changed; isinstance; built-ins with keywords; comprehensions as values and as statements. -/
namespace Ev
open PySem L2 RZ
section
variable {X : Cx} {mg : Str → Option Value} {XW : WX} {a b c : Expr} {pos : Pos} {ma mb mc : En → Rs PV}
/-- list.extend by a list that is read -/
theorem mt_extendR : MtM X "list.extend" (fun x vs H Q => ∃ l b xs zs, x = .ref l ∧ vs = [.ref b] ∧ H l = some (.lst xs) ∧ Rd H b (.lst zs) ∧ xs.length + zs.length ≤ sizeLine ∧ Q .non (upd H l (.lst (xs ++ zs)))) := by
  intro pins s σ H x vs v us Q I rx rv h
  obtain ⟨l, b, xs, zs, rfl, rfl, hl, hb, hz, q⟩ := h
  cases rx
  obtain ⟨u, rfl, ru⟩ := rv.one
  cases ru
  obtain ⟨z, its, n, r, el, e⟩ := I.lstM hl
  obtain ⟨z2, its2, n2, r2, e2⟩ := hb.ok I.hok
  have el2 := r2.length
  have hs : its.toArray.size + its2.toArray.size ≤ sizeLine := by rw [List.size_toArray, List.size_toArray] <;> omega
  refine call_meets F.slot_list_extend ⟨_, e, rfl⟩ F.entry_list_extend (F.args_list_extend_2 _ _)
    (AutoSeq1.list_extend_list_list_0 l its.toArray n b its2.toArray n2 (by rw [notLongL hs, Bool.and_false]; exact Bool.false_ne_true) (by rw [List.size_toArray] <;> omega) (by omega)) ⟨e, e2, .non, _, I.lset (its' := its ++ its2) hl e (by simp) (r.append r2) ?_, rfl, q⟩
  rw [List.length_append] <;> omega
/-- a method's rule fits what the evaluator says of it -/
def MuOk (K : PySem.W.Frag) (m : Mu) (r : V → List V → Hp → VK → Prop) : Prop :=
  ∀ A H a xs cs vs ds d ys (Q : VK), H a = some (.lst xs) → DpAs K A H xs cs → DpAs K A H vs ds → muD m cs ds = some (d, ys) → (∀ v xs', DpA K A H v d → DpAs K A H xs' ys → Q v (upd H a (.lst xs'))) → r (.ref a) vs H Q
def muR (K : PySem.W.Frag) : Mu → V → List V → Hp → VK → Prop
  | .append => rAppend
  | .extend => fun x vs H Q => ∃ l b xs zs, x = .ref l ∧ vs = [.ref b] ∧ H l = some (.lst xs) ∧ Rd H b (.lst zs) ∧ xs.length + zs.length ≤ sizeLine ∧ Q .non (upd H l (.lst (xs ++ zs)))
  | .pop => rPop
  | .popAt => rPopAt
  | .clear => rClear
theorem dropLast_take {α : Type} (xs : List α) : xs.dropLast = xs.take (xs.length - 1) := List.dropLast_eq_take
theorem muOk (K : PySem.W.Frag) (m : Mu) : MuOk K m (muR K m) := by
  intro A H a xs cs vs ds d ys Q hH hx hv h q
  unfold muD at h
  split at h
  · split at h
    · rename_i hz
      cases h
      cases hv with
      | cons h1 h2 =>
        cases h2
        exact ⟨a, xs, _, rfl, rfl, hH, by rw [hx.length]; exact hz, q _ _ .non (hx.append (.cons h1 .nil))⟩
    · cases h
  · split at h
    · rename_i hz
      cases h
      cases hv with
      | cons h1 h2 =>
        cases h2
        cases h1 with
        | lst z1 z2 z3 => exact ⟨a, _, xs, _, rfl, rfl, hH, z1, by rw [hx.length, z3.length]; exact hz, q _ _ .non (hx.append z3)⟩
    · cases h
  · split at h
    · rename_i z hz
      cases h
      cases hv
      rw [← hx.length] at hz
      obtain ⟨y, h1, h2⟩ := hx.get hz
      refine ⟨a, xs, y, rfl, rfl, hH, h1, q y _ h2 ?_⟩
      rw [dropLast_take, dropLast_take, hx.length]
      exact hx.take _
    · cases h
  · split at h
    · rename_i hz
      split at h
      · rename_i k hk
        obtain ⟨z, h1, h2⟩ := Option.map_eq_some_iff.mp h
        cases h2
        cases hv with
        | cons g1 g2 =>
          cases g2
          cases g1
          rw [← hx.length] at hk hz
          obtain ⟨y, h3, h4⟩ := hx.get h1
          obtain ⟨i1, i2, i3, i4⟩ := ixN_seq hk
          have : (sizeLine : Int) < 2 ^ 63 := by decide
          exact ⟨a, xs, _, k, y, rfl, rfl, hH, by omega, by omega, i1, h3, q y _ h4 (hx.eraseIdx k)⟩
      · cases h
    · cases h
  · cases h
    cases hv
    exact ⟨a, xs, rfl, rfl, hH, q _ _ .non .nil⟩
  · cases h
theorem snd_mut {ex : Expr} {m : Mu} {i : Nat} {es : List Expr} {ms : En → Rs (List D)} (h : PE X ex (tBM X.K "list" (muR X.K m) (tVar i) (tR X.K mg (OOf X.K (OVs X.K)) XW ms)) ∨ (es = [] ∧ ms = (fun e => .ok [] e) ∧ PE X ex (tBM0 X.K "list" (muR X.K m) (tVar i)))) :
    PE X ex (tE X.K mg XW fun e => match lstSlot e i with
      | false => .no
      | true => (ms e).bind fun ds e => mutS m i ds e) := by
  have key : ∀ {σ : St} {H : Hp} {Q : VK}, tE X.K mg XW (fun e => match lstSlot e i with
      | false => .no
      | true => (ms e).bind fun ds e => mutS m i ds e) σ H Q → ∃ a, σ[i]? = some (some (.ref a)) ∧ (∃ xs, H a = some (.lst xs)) ∧ tR X.K mg (OOf X.K (OVs X.K)) XW ms σ H fun vs H2 => muR X.K m (.ref a) vs H2 Q := fun {σ H Q} q => by
    obtain ⟨W, G, B, F, e, rel, q⟩ := q
    dsimp only at q
    have lst : lstSlot e i = true → ∃ a, σ[i]? = some (some (.ref a)) ∧ ∃ xs, H a = some (.lst xs) := fun hl => by
      unfold lstSlot at hl
      split at hl
      · rename_i ds hs
        obtain ⟨a, h1, ⟨xs, h2, _⟩, _⟩ := slot_own rel hs
        exact ⟨a, h1, xs, h2⟩
      · rename_i ds hs
        obtain ⟨a, h1, ⟨xs, h2, _⟩, _⟩ := slot_bor rel hs
        exact ⟨a, h1, xs, h2⟩
      · cases hl
    cases hl : lstSlot e i with
    | false => rw [hl] at q; exact q.elim
    | true =>
      rw [hl] at q
      obtain ⟨a, h1, h2⟩ := lst hl
      refine ⟨a, h1, h2, W, G, B, F, e, rel, seq adv_of reb_out rel q fun ds e1 vs H1 F1 r1 s1 o1 q => ?_⟩
      have o1 : DpAs X.K (AV W F1) H1 vs ds := o1
      have fin : ∀ (c : List D) (s : Slot) (mk : Cel → Slot), e1[i]? = some (some s) → (s = mk (.lst c)) → ((∀ c', (∃ c, s = .own c ∧ mk c' = .own c') ∨ ∃ c, s = .bor c ∧ mk c' = .bor c')) → (∃ b, σ[i]? = some (some (.ref b)) ∧ CelAt X.K (AV W F1) H1 b (.lst c) ∧ F1 i b) →
          Res X.K mg XW (OOut X.K W G B σ) W G B F1 H1 σ (match muD m c ds with
            | some (d, ys) => .ok (.r (.v d)) (e1.set i (some (mk (.lst ys))))
            | none => .no) Q → muR X.K m (.ref a) vs H1 Q := fun c s mk hs hm hk ⟨b, y1, ⟨xs, y2, y3⟩, y4⟩ q => by
        rw [h1] at y1
        cases y1
        split at q
        · rename_i d ys hd
          refine muOk X.K m _ H1 a xs c vs ds d ys Q y2 y3 o1 hd fun v xs' p ps => ?_
          have mu : Mut (H1 a) := by rw [y2]; trivial
          have trk : Step (AV W F1) H1 (AV W F1) (upd H1 a (.lst xs')) := ⟨fun b u z n => by
            rw [upd_ne fun w => n (by subst w; exact .inr ⟨i, y4⟩)]
            exact z, fun b z => by
            by_cases w : b = a
            · subst w; rw [upd_same]; simp
            · rw [upd_ne w]; exact z, fun b z _ => z⟩
          obtain ⟨r2, s2⟩ := r1.write (o := .lst xs') y4 mu (.lst ys) (s' := mk (.lst ys)) ⟨s, hs, hk _⟩ h1 ⟨xs', upd_same, ps.step trk⟩
          exact q v _ F1 ⟨r2, s2, p.step trk⟩
        · exact q.elim
      unfold mutS at q
      split at q
      · rename_i c hs
        obtain ⟨b, y1, y2, y3, _⟩ := slot_own r1 hs
        exact fin c _ Slot.own hs rfl (fun c' => .inl ⟨_, rfl, rfl⟩) ⟨b, y1, y2, y3⟩ q
      · rename_i c hs
        obtain ⟨b, y1, y2, y3, _⟩ := slot_bor r1 hs
        exact fin c _ Slot.bor hs rfl (fun c' => .inr ⟨_, rfl, rfl⟩) ⟨b, y1, y2, y3⟩ q
      · exact q.elim
  rcases h with h | ⟨rfl, rfl, h⟩
  · refine PE.imp h fun σ H Q q => ?_
    obtain ⟨a, h1, ⟨xs, h2⟩, h3⟩ := key q
    exact ⟨_, h1, .inl ⟨rfl, xs, .of h2⟩, h3⟩
  · refine PE.imp h fun σ H Q q => ?_
    obtain ⟨a, h1, ⟨xs, h2⟩, W, G, B, F, e, rel, h3⟩ := key q
    exact ⟨_, h1, .inl ⟨rfl, xs, .of h2⟩, h3 [] H F ⟨rel, .refl, .nil⟩⟩
/-- isinstance -/
theorem snd_isi {ex : Expr} {t : Ty} {ty : Expr} (h : ∀ ta, L2.PA X [a, ty] ta → PE X ex (tCB (fun vs H Q => ∃ A x d, vs = [x, .ty (tyN t)] ∧ PK X.K A H x d ∧ isRo d = false ∧ Q (.bl (isTy t d)) H) ta)) (hty : PE X ty (tC (.ty (tyN t))))
    (hs : starEach [a, ty] X.env = (false, eval a X.env) :: starEach [ty] X.env) (hs2 : starEach [ty] X.env = (false, eval ty X.env) :: starEach [] X.env) (ha : PE X a (tE X.K mg XW ma)) :
    PE X ex (tE X.K mg XW fun e => (ma e).bind fun x e => app1 (isiD t) x e) := by
  refine PE.imp (h _ (pa_cons ha (pa_cons hty pa_nil hs2) hs)) fun σ H Q q => ?_
  obtain ⟨W, G, B, F, e, rel, q⟩ := q
  refine ⟨W, G, B, F, e, rel, seq adv_out reb_out rel q fun x e1 v H1 F1 r1 s1 o1 q => ?_⟩
  obtain ⟨d, r, z1, z2, z3, z4⟩ := app1_out r1 o1 q
  unfold isiD at z3
  split at z3
  · cases z3
  · rename_i hr
    cases z3
    exact ⟨AV W F1, v, d, rfl, z2, by simpa using hr, z4 _ _ (pout_same (.bl _))⟩
theorem snd_rev {k : Nat} {p1 p2 p3 : Pos} (ha : PE X a (tE X.K mg XW ma)) : PE X (.Subscript a (.Slice none none (some (.UnaryOp .USub (.Constant (.int 1) k p1) p2)) p3) pos) (tE X.K mg XW fun e => (ma e).bind fun x e => app1 revD x e) := by
  refine PE.imp (pe_revA ha) fun σ H Q q => ?_
  obtain ⟨W, G, B, F, e, rel, q⟩ := q
  refine ⟨W, G, B, F, e, rel, seq adv_out reb_out rel q fun x e1 v H1 F1 r1 s1 o1 q => ?_⟩
  obtain ⟨d, r, z1, z2, z3, z4⟩ := app1_out r1 o1 q
  unfold revD at z3
  split at z3
  · cases z3
    obtain ⟨a, xs, rfl, h1, h2⟩ := z2.list
    exact ⟨a, xs, rfl, .inl ⟨.inl h1, fun p n => z4 _ _ (pout_lst n z1 h2.reverse)⟩⟩
  · cases z3
    obtain ⟨a, xs, rfl, h1, h2⟩ := z2.tup
    exact ⟨a, xs, rfl, .inr ⟨h1.sq, fun p n => z4 _ _ (pout_tup n z1 h2.reverse)⟩⟩
  · cases z3
theorem rg_dpa {K : PySem.W.Frag} {A : AS} {H : Hp} : ∀ (l : List Nat), DpAs K A H (l.map fun i => V.int (0 + (i : Nat))) (l.map fun (k : Nat) => .int (k : Int))
  | [] => .nil
  | n :: l => by
    rw [List.map_cons, List.map_cons, Int.zero_add]
    exact .cons (.int _) (rg_dpa l)
theorem snd_listRange {p p2 pos2 : Pos} (hc : X.calm = true) (hg : Gl X "list") (hm : X.mg "list" = none) (hg2 : Gl X "range") (hm2 : X.mg "range" = none) (hs : starEach [a] X.env = (false, eval a X.env) :: starEach [] X.env) (ha : PE X a (tE X.K mg XW ma)) :
    PE X (.Call (.Name "list" p) [.Call (.Name "range" p2) [a] [] pos2] [] pos) (tE X.K mg XW fun e => (ma e).bind fun x e => app1 (fun d => biD .listRange [d]) x e) := by
  refine PE.imp (pe_listRg hc hg hm (prg_1 hg2 hm2 ha hs)) fun σ H Q q => ?_
  obtain ⟨W, G, B, F, e, rel, q⟩ := q
  refine ⟨W, G, B, F, e, rel, seq adv_out reb_out rel q fun x e1 v H1 F1 r1 s1 o1 q => ?_⟩
  obtain ⟨d, r, z1, z2, z3, z4⟩ := app1_out r1 o1 q
  cases d <;> first | (simp [biD] at z3; done) | skip
  rename_i n
  simp only [biD] at z3
  split at z3
  · rename_i hz
    cases z3
    cases z2.int
    refine ⟨n, rfl, ⟨by omega, by omega, by omega, by omega, by omega⟩, fun q n' => z4 _ _ ?_⟩
    unfold rgV
    rw [Int.sub_zero]
    exact pout_lst n' z1 (rg_dpa _)
  · cases z3
theorem snd_sortedR {p pk : Pos} {k : Nat} {kp : Pos} (hg : Gl X "sorted") (hm : X.mg "sorted" = none) (hs : starEach [a] X.env = (false, eval a X.env) :: starEach [] X.env) (ha : PE X a (tE X.K mg XW ma)) :
    PE X (.Call (.Name "sorted" p) [a] [⟨some "reverse", .Constant (.bool true) k kp, pk⟩] pos) (tE X.K mg XW fun e => (ma e).bind fun x e => app1 (fun d => biD .sortedR [d]) x e) := by
  have hp : backTo pos (starEach [a] X.env) = (false, eval a X.env) :: backTo pos (starEach [] X.env) := by rw [hs]; rfl
  have cr : CallRK X (.builtin "sorted") [Str.ofString "reverse"] (fun vs zs H Q => rSortedKw X.K true [.bl true] vs zs H Q ∨ ∃ (a : Addr) (ns : List Int), vs = [V.ref a] ∧ zs = [.bl true] ∧ SqT X.K H a (ns.map V.int) ∧
      ∀ (ms : List Int) (p : Addr), ms.Perm ns → ms.Pairwise (· ≥ ·) → H p = none → Q (.ref p) (upd H p (.lst (ms.map V.int)))) := fun pins s σ H xs zs us ws Q I r1 r2 h =>
    h.elim (cr_sortedRev pins s σ H xs zs us ws Q I r1 r2) (cr_tupR pins s σ H xs zs us ws Q I r1 r2)
  refine PE.imp (pe_callBK cr hg hm (by decide +kernel) (pa_cons ha pa_nil hs) (pk_cons pe_bl pk_nil) (he := hp) (hpl := by rw [hp]; rfl)) fun σ H Q q => ?_
  obtain ⟨W, G, B, F, e, rel, q⟩ := q
  refine ⟨W, G, B, F, e, rel, seq adv_out reb_out rel q fun x e1 v H1 F1 r1 s1 o1 q => ?_⟩
  obtain ⟨d, r, z1, z2, z3, z4⟩ := app1_out r1 o1 q
  cases d <;> first | (simp [biD] at z3; done) | skip
  · obtain ⟨ns, h1, rfl⟩ := Option.map_eq_some_iff.mp z3
    obtain ⟨t, rfl, h3⟩ := z2.intsL h1
    refine .inl ⟨t, ns, rfl, rfl, h3, fun ms p k1 k2 n => ?_⟩
    rw [sorted_dn k1 k2]
    exact z4 _ _ (pout_lst n z1 (.of_ints _))
  · obtain ⟨ns, h1, rfl⟩ := Option.map_eq_some_iff.mp z3
    obtain ⟨t, rfl, h3⟩ := z2.ints h1
    refine .inr ⟨t, ns, rfl, rfl, h3, fun ms p k1 k2 n => ?_⟩
    rw [sorted_dn k1 k2]
    exact z4 _ _ (pout_lst n z1 (.of_ints _))
/-! sets of rows -/
theorem snd_sortSet {p p2 q : Pos} (hc : X.calm = true) (hu : X.A.units + 64 < cLine) (hg : Gl X "sorted") (hm : X.mg "sorted" = none) (hg2 : Gl X "set") (hm2 : X.mg "set" = none) (hs : starEach [a] X.env = (false, eval a X.env) :: starEach [] X.env) (ha : PE X a (tE X.K mg XW ma)) :
    PE X (.Call (.Name "sorted" p) [.Call (.Name "set" p2) [a] [] q] [] pos) (tE X.K mg XW fun e => (ma e).bind fun x e => app1 sortSetD x e) := by
  refine PE.imp (pe_callB (cr_sortedT hc) hg hm (show bootBuiltins "sorted" = some (.builtin "sorted") by decide +kernel) (pa_cons (pe_callTy (cr_setD hc hu) hg2 hm2 PyProof.Rows.boot_set (pa_cons ha pa_nil hs) (he := hs)) pa_nil)) fun σ H Q h => ?_
  obtain ⟨W, G, B, F, e, rel, h⟩ := h
  refine ⟨W, G, B, F, e, rel, seq adv_out reb_out rel h fun x e1 v H1 F1 r1 s1 o1 h => ?_⟩
  obtain ⟨d, r, z1, z2, z3, z4⟩ := app1_out r1 o1 h
  obtain ⟨M0, h1, rfl⟩ := Option.map_eq_some_iff.mp z3
  obtain ⟨ds, h2, h1⟩ := Option.bind_eq_some_iff.mp h1
  obtain ⟨L, h3, h1⟩ := Option.bind_eq_some_iff.mp h1
  split at h1
  case isFalse => cases h1
  rename_i ok
  cases h1
  refine ⟨AV W F1, v, d, ds, L, rfl, z2, h2, h3, ok, fun a M n hM eM => ?_⟩
  have st : Step (AV W F1) H1 (plus (AV W F1) fun b => b = a) (upd H1 a (SetTO X.prog X.w a M)) := step_new n _ z1
  have sq : ∀ q ∈ M, SqT X.K (upd H1 a (SetTO X.prog X.w a M)) q.1 (q.2.map V.int) := fun q hq => by
    obtain ⟨t, e, g⟩ := tupI_of ((hM q hq).step st)
    cases e
    exact g
  obtain ⟨hl, dd, BB, hd, hB⟩ := okRows_at ok
  refine ⟨a, M, dd, BB, rfl, upd_same, sq, hd, fun q hq => hB q.2 ((eM q.2).mp (List.mem_map.mpr ⟨q, hq, rfl⟩)), fun L' p pm nd few pw np => ?_⟩
  have pl : (L'.map (·.2)).Perm (dedR L) := perm_ded nd fun r => by
    rw [← eM r]
    exact (List.Perm.map (·.2) pm).mem_iff
  have hcode : L'.map (·.2) = sortR (dedR L) := sortR_code pl (fun r hr => hB r (dedR_sub r hr)) (by
    rw [List.pairwise_map]
    exact pw)
  have dp : DpAs X.K (AV W F1) (upd H1 a (SetTO X.prog X.w a M)) (L'.map fun q => V.ref q.1) ((L'.map (·.2)).map rowD) := ks_dpas fun q hq => ((hM q (pm.mem_iff.mp hq)).step st).fewer fun b z => .inl z
  have z1' : ∀ b, AV W F1 b → upd H1 a (SetTO X.prog X.w a M) b ≠ none := fun b z => st.trk b (z1 b z)
  have po := pout_lst np z1' dp
  rw [hcode] at po
  obtain ⟨p', e1, n1, sm, c1⟩ := po
  cases e1
  have nH : H1 p = none := by
    by_cases e : p = a
    · subst e; exact n
    · have := np
      rw [upd_ne e] at this
      exact this
  exact z4 _ _ ⟨p, rfl, nH, (same_upd n).trans sm, c1⟩
theorem snd_lenSet {p p2 q : Pos} (hc : X.calm = true) (hu : X.A.units + 64 < cLine) (hg : Gl X "len") (hm : X.mg "len" = none) (hg2 : Gl X "set") (hm2 : X.mg "set" = none) (hs : starEach [a] X.env = (false, eval a X.env) :: starEach [] X.env) (ha : PE X a (tE X.K mg XW ma)) :
    PE X (.Call (.Name "len" p) [.Call (.Name "set" p2) [a] [] q] [] pos) (tE X.K mg XW fun e => (ma e).bind fun x e => app1 lenSetD x e) := by
  refine PE.imp (pe_callB (cr_lenT hc) hg hm (show bootBuiltins "len" = some (.builtin "len") by decide +kernel) (pa_cons (pe_callTy (cr_setD hc hu) hg2 hm2 PyProof.Rows.boot_set (pa_cons ha pa_nil hs) (he := hs)) pa_nil)) fun σ H Q h => ?_
  obtain ⟨W, G, B, F, e, rel, h⟩ := h
  refine ⟨W, G, B, F, e, rel, seq adv_out reb_out rel h fun x e1 v H1 F1 r1 s1 o1 h => ?_⟩
  obtain ⟨d, r, z1, z2, z3, z4⟩ := app1_out r1 o1 h
  obtain ⟨M0, h1, rfl⟩ := Option.map_eq_some_iff.mp z3
  obtain ⟨ds, h2, h1⟩ := Option.bind_eq_some_iff.mp h1
  obtain ⟨L, h3, h1⟩ := Option.bind_eq_some_iff.mp h1
  split at h1
  case isFalse => cases h1
  rename_i ok
  cases h1
  refine ⟨AV W F1, v, d, ds, L, rfl, z2, h2, h3, ok, fun a M n hM eM => ?_⟩
  have st : Step (AV W F1) H1 (plus (AV W F1) fun b => b = a) (upd H1 a (SetTO X.prog X.w a M)) := step_new n _ z1
  have sq : ∀ q ∈ M, SqT X.K (upd H1 a (SetTO X.prog X.w a M)) q.1 (q.2.map V.int) := fun q hq => by
    obtain ⟨t, e, g⟩ := tupI_of ((hM q hq).step st)
    cases e
    exact g
  refine ⟨a, M, rfl, upd_same, sq, fun nd => ?_⟩
  have pl := (perm_ded nd eM).length_eq
  rw [List.length_map] at pl
  rw [pl]
  exact z4 _ _ ⟨same_upd n, .int _⟩
theorem snd_dicZip {p p2 q : Pos} (hc : X.calm = true) (hg : Gl X "dict") (hm : X.mg "dict" = none) (hg2 : Gl X "zip") (hm2 : X.mg "zip" = none)
    (hs : starEach [a, b] X.env = (false, eval a X.env) :: starEach [b] X.env) (hs2 : starEach [b] X.env = (false, eval b X.env) :: starEach [] X.env) (hpl : (backTo q (starEach [b] X.env)).any (·.1) = false) (ha : PE X a (tE X.K mg XW ma)) (hb : PE X b (tE X.K mg XW mb)) :
    PE X (.Call (.Name "dict" p) [.Call (.Name "zip" p2) [a, b] [] q] [] pos) (tE X.K mg XW fun e => (ma e).bind fun x e => (mb e).bind fun y e => app2 dicZipD x y e) := by
  refine PE.imp (pe_dzip hc hg hm hg2 hm2 (pa_cons ha (pa_cons hb pa_nil hs2) hs) hs hpl) fun σ H Q h => ?_
  obtain ⟨W, G, B, F, e, rel, h⟩ := h
  refine ⟨W, G, B, F, e, rel, seq adv_out reb_out rel h fun x e1 v H1 F1 r1 s1 o1 h => ?_⟩
  refine ⟨W, G, B, F1, e1, r1, seq adv_out reb_out r1 h fun y e2 w H2 F2 r2 s2 o2 h => ?_⟩
  obtain ⟨A, d, d', r, z1, z2, z3, z4, z5⟩ := app2_out r2 (o1.step s2.step) o2 h
  unfold dicZipD at z4
  split at z4
  · rename_i ds es
    obtain ⟨ks, h1, rfl⟩ := Option.map_eq_some_iff.mp z4
    obtain ⟨l1, rfl, g1⟩ := z2.intsL h1
    obtain ⟨l2, ys, rfl, g2, g3⟩ := z3.list
    refine ⟨l1, l2, ks, ys, rfl, g1, .inl g2, fun p n => z5 _ _ ⟨p, rfl, n, same_upd n, .inl ⟨_, upd_same, ?_⟩⟩⟩
    have st := step_new n (.dK (mergeK [] ((ks.zip ys).map fun q => ((Sum.inl q.1 : Key), q.2)))) z1
    have aux : ∀ (ks : List Int) (ys : List V) (es : List D) (kv : List (Key × V)) (kvs : List (D × D)), DpAs X.K (plus A fun b => b = p) (upd H2 p (.dK (mergeK [] ((ks.zip ys).map fun q => ((Sum.inl q.1 : Key), q.2))))) ys es → True := fun _ _ _ _ _ _ => trivial
    have main : ∀ {Hx : Hp} {Ax : AS} (ks : List Int) (ys : List V) (es : List D) (kv : List (Key × V)) (kvs : List (D × D)), DpAs X.K Ax Hx ys es → DpKs X.K Ax Hx kv kvs →
        DpKs X.K Ax Hx (mergeK kv ((ks.zip ys).map fun q => ((Sum.inl q.1 : Key), q.2))) ((ks.zip es).foldl (fun m p => dputK m (.inl p.1) p.2) kvs) := fun {Hx Ax} ks => by
      induction ks with
      | nil => intro ys es kv kvs _ h; simpa [mergeK] using h
      | cons k ks ih =>
        intro ys es kv kvs h1 h2
        cases h1 with
        | nil => simpa [mergeK] using h2
        | cons hv t =>
          simp only [List.zip_cons_cons, List.map_cons, mergeK, List.foldl_cons]
          exact ih _ _ _ _ t (dpks_put h2 hv)
    exact main ks ys es [] [] (g3.step st) .nil
  · cases z4
theorem pairs_dp {K : PySem.W.Frag} {A : AS} {H0 H Hx : Hp} (hA : ∀ b, A b → H0 b ≠ none) (s0 : Same H0 Hx) (s1 : Same H Hx) : ∀ {ps xs ys : List V} {ds es : List D}, Pairs H0 H ps xs ys → DpAs K A H0 xs ds → DpAs K A H0 ys es → DpAs K A Hx ps (List.zipWith (fun x y => PyData.tuple [x, y]) ds es) := by
  have st : Step A H0 A Hx := ⟨fun b o e _ => s0 b o e, (fun b e z => by
    cases q : H0 b with
    | none => exact e q
    | some o => rw [s0 b o q] at z; cases z), fun b z _ => z⟩
  intro ps
  induction ps with
  | nil =>
    intro xs ys ds es hp hx hy
    cases xs with
    | cons _ _ => exact hp.elim
    | nil =>
      cases ys with
      | cons _ _ => exact hp.elim
      | nil =>
        cases hx
        cases hy
        exact .nil
  | cons v ps ih =>
    intro xs ys ds es hp hx hy
    cases xs with
    | nil => cases ys <;> exact hp.elim
    | cons x xs =>
      cases ys with
      | nil => exact hp.elim
      | cons y ys =>
        obtain ⟨⟨a, rfl, h1, h2⟩, h3⟩ := hp
        cases hx with
        | cons d1 d2 =>
          cases hy with
          | cons e1 e2 => exact .cons (.tup (.inl ⟨.of (s1 a _ h1), fun z => hA a z h2⟩) (.cons (d1.step st) (.cons (e1.step st) .nil))) (ih h3 d2 e2)
theorem snd_tupZip {p p2 q : Pos} (hc : X.calm = true) (hg : Gl X "tuple") (hm : X.mg "tuple" = none) (hg2 : Gl X "zip") (hm2 : X.mg "zip" = none)
    (hs : starEach [a, b] X.env = (false, eval a X.env) :: starEach [b] X.env) (hs2 : starEach [b] X.env = (false, eval b X.env) :: starEach [] X.env) (hpl : (backTo q (starEach [b] X.env)).any (·.1) = false) (ha : PE X a (tE X.K mg XW ma)) (hb : PE X b (tE X.K mg XW mb)) :
    PE X (.Call (.Name "tuple" p) [.Call (.Name "zip" p2) [a, b] [] q] [] pos) (tE X.K mg XW fun e => (ma e).bind fun x e => (mb e).bind fun y e => app2 tupZipD x y e) := by
  refine PE.imp (pe_tTZip hc hg hm hg2 hm2 (pa_cons ha (pa_cons hb pa_nil hs2) hs) hs hpl) fun σ H Q h => ?_
  obtain ⟨W, G, B, F, e, rel, h⟩ := h
  refine ⟨W, G, B, F, e, rel, seq adv_out reb_out rel h fun x e1 v H1 F1 r1 s1 o1 h => ?_⟩
  refine ⟨W, G, B, F1, e1, r1, seq adv_out reb_out r1 h fun y e2 w H2 F2 r2 s2 o2 h => ?_⟩
  obtain ⟨A, d, d', r, z1, z2, z3, z4, z5⟩ := app2_out r2 (o1.step s2.step) o2 h
  unfold tupZipD at z4
  split at z4
  · rename_i ds es
    split at z4
    · rename_i hl
      cases z4
      obtain ⟨l1, xs, rfl, g1, g2⟩ := z2.tup
      obtain ⟨l2, ys, rfl, g3, g4⟩ := z3.list
      refine ⟨l1, l2, xs, ys, rfl, g1.sq, .inl g3, by rw [g2.length, g4.length]; exact hl, fun H3 ps p sm pr n => ?_⟩
      have s4 : Same H3 (upd H3 p (.tup ps)) := fun b o q => by rw [upd_ne (ne_of_none q n)]; exact q
      have s5 : Same H2 (upd H3 p (.tup ps)) := fun b o q => s4 b o (sm b o q)
      have np : ¬ A p := fun z => z1 p z (by
        cases q : H2 p with
        | none => rfl
        | some o => rw [sm p o q] at n; cases n)
      exact z5 _ _ ⟨s5, .tup (.inl ⟨.of upd_same, np⟩) (pairs_dp z1 s5 s4 pr g2 g4)⟩
    · cases z4
  · cases z4
/-! list.index -/
theorem isL_at {K : PySem.W.Frag} {W G : AS} {B : Nat → AS × AS} {F : Nat → AS} {H : Hp} {σ : St} {e : En} {x : PV} {v : V} (r : Rel K W G B F H σ e) (o : Opv K (AV W F) H σ v x) (h : isL x e = true) : ∃ a xs, v = .ref a ∧ SqL K H a xs := by
  unfold isL at h
  split at h
  · rename_i ds hd
    obtain ⟨a, xs, h1, h2, _⟩ := (o.pk r hd).list
    exact ⟨a, xs, h1, .inl h2⟩
  · cases h
theorem find_spec {ds : List D} {p : D → Bool} {j : Nat} (h : ds.findIdx? p = some j) : ∃ z, ds[j]? = some z ∧ p z = true ∧ ∀ (m : Nat) z', m < j → ds[m]? = some z' → p z' = false := by
  obtain ⟨hlt, h1, h2⟩ := List.findIdx?_eq_some_iff_getElem.mp h
  refine ⟨ds[j], List.getElem?_eq_getElem hlt, h1, fun m z' hm hz => ?_⟩
  have hml : m < ds.length := Nat.lt_trans hm hlt
  rw [List.getElem?_eq_getElem hml] at hz
  cases hz
  simpa using h2 m hm
theorem snd_index {o e : Expr} {apos cpos : Pos} {mo me : En → Rs PV} (hu : X.A.units + 65 < cLine) (ho : PE X o (tE X.K mg XW mo)) (he : PE X e (tE X.K mg XW me)) (hbase : attributeBase o "index" X.env (eval o X.env) = eval o X.env)
    (hline : (apos.endLine == cpos.line) = true) (hs : starEach [e] X.env = (false, eval e X.env) :: starEach [] X.env) :
    PE X (.Call (.Attribute o "index" apos) [e] [] cpos) (tE X.K mg XW fun en => (mo en).bind fun x en => match isL x en with
      | false => .no
      | true => (me en).bind fun y en => app2 indexD x y en) := by
  have hfew : ((backTo cpos (starEach [e] X.env)).all (fun x => !x.1) && (backToKw cpos (keywordEach [] X.env)).all (fun x => x.1.isSome)
      && decide (([e] : List Expr).length + ([] : List Keyword).length + (if ([] : List Keyword).isEmpty then 0 else 1) < 30)) = true := by
    rw [hs]; rfl
  refine PE.imp (pe_bm PySem.F.plainAttrs_list PySem.F.slot_list_index PySem.F.type_list_index (mt_indexD hu) ho (pa_cons he pa_nil hs) hbase hfew hline hs rfl) fun σ H Q h => ?_
  obtain ⟨W, G, B, F, en, rel, h⟩ := h
  refine ⟨W, G, B, F, en, rel, seq adv_out reb_out rel h fun x e1 v H1 F1 r1 s1 o1 h => ?_⟩
  cases hl : isL x e1 with
  | false => rw [hl] at h; exact h.elim
  | true =>
    rw [hl] at h
    obtain ⟨l, xs, rfl, hq⟩ := isL_at r1 o1 hl
    refine ⟨.inl ⟨rfl, xs, hq⟩, W, G, B, F1, e1, r1, seq adv_out reb_out r1 h fun y e2 w H2 F2 r2 s2 o2 h => ?_⟩
    obtain ⟨A, d, d', r, z1, z2, z3, z4, z5⟩ := app2_out r2 (o1.step s2.step) o2 h
    unfold indexD at z4
    split at z4
    · rename_i ds
      split at z4
      · rename_i hz
        obtain ⟨j, hj, rfl⟩ := Option.map_eq_some_iff.mp z4
        obtain ⟨z, g1, g2, g3⟩ := find_spec hj
        exact ⟨l, w, d', ds, j, z, rfl, rfl, z2.dp (SeqAt.canLay_of_shaped hz.2), z3.dp (SeqAt.canLay_of_shaped hz.1), hz.2, hz.1, g1, g2, g3, z5 _ _ (pout_same (.int _))⟩
      · cases z4
    · cases z4
end
end Ev
namespace Ev
open PySem L2 RZ
section
variable {X : Cx} {mg : Str → Option Value} {XW : WX} {a b c : Expr} {pos : Pos} {ma mb mc : En → Rs PV} {x : Str}
/-! comprehensions -/
theorem tgOwn {N : List Str} {own : List Nat} {own' : List (Str × Nat)} (h : own'.map (·.2) = own) : True := trivial
theorem snd_lc {elt tg iter : Expr} {ifs : List Expr} {scope : Scope} {own : List (Str × Nat)} {t : Tg} {mi : En → Rs (List PV × List D)} {mt : En → Rs Bool} {me : En → Rs PV} (htg : ∀ j, j ∈ tgS t → j ∈ own.map (·.2)) (hc : X.calm = true) (hN : X.N.Nodup)
    (hi : PI X tg iter (tR X.K mg (OIt X.K) XW mi)) (ok : BlkOk X.N X.env.scope scope own)
    (hg : ∀ (s : Shared) (H : Hp) (C : Addr) (cl : List (Str × Addr)) (fp : List Addr), PG (X.blk s H scope (compEnvC scope cl C X.env) fp) tg (gT X.K t))
    (ht : ∀ (s : Shared) (H : Hp) (C : Addr) (cl : List (Str × Addr)) (fp : List Addr), PTs (X.blk s H scope (compEnvC scope cl C X.env) fp) ifs (tTst X.K mg XWF mt))
    (he : ∀ (s : Shared) (H : Hp) (C : Addr) (cl : List (Str × Addr)) (fp : List Addr), PE (X.blk s H scope (compEnvC scope cl C X.env) fp) elt (tE X.K mg XWF me)) (hs : ∀ x, foldedSetIterable iter X.env x = pure x) :
    PE X (.ListComp elt [⟨tg, iter, ifs, 0⟩] scope pos) (tE X.K mg XW (lcM (own.map (·.2)) t mi mt me)) :=
  PE.imp (pe_lc hc hN hi ok hg ht he hs) fun σ H Q q => lc_read htg q
end
end Ev

/-! Ev, part L: the checker, and its soundness for expressions. -/
namespace Ev
open PySem L2 RZ
/-- what a text has: constants and defs by index, the built-ins' names that stand unshadowed -/
structure Tx where
  cs : Nat → Option D
  FT : Nat → Fn
  cn : List Str
  fs : List Str
  bl : List Str
/-- a block: all names by slot, its scope, the scope whose own names it stores -/
structure SC where
  N : List Str
  sc : Scope
  raw : Scope
def dbg (x : Str) : Bool := !(x == ("__debug__" : Str))
def visB (sc : Scope) (x : Str) : Bool := match sc.names.lookup x with
  | some .local => true
  | some .cell => true
  | some .free => true
  | _ => false
def locB (sc : Scope) (x : Str) : Bool := match sc.names.lookup x with
  | some .local => true
  | some .cell => true
  | _ => false
def glB (sc : Scope) (x : Str) : Bool := match sc.names.lookup x with
  | some .globalImplicit => true
  | _ => false
def chkV (S : SC) (i : Nat) (x : Str) : Bool := decide (S.N[i]? = some x) && visB S.sc x && dbg x && !(x == ("__classdict__" : Str))
def bltB (T : Tx) (S : SC) (n x : Str) : Bool := decide (x = n) && glB S.sc n && decide (n ∈ T.bl)
def chkC : D → Const → Bool
  | .int k, .int j => decide (k = j)
  | .bool b, .bool c => decide (b = c)
  | .none, .none => true
  | .str x, .str y => decide (x = y)
  | _, _ => false
def biN : Bi → Str
  | .len => "len"
  | .all => "all"
  | .any => "any"
  | .max => "max"
  | .min => "min"
  | .sum => "sum"
  | .list => "list"
  | .tuple => "tuple"
  | .sorted => "sorted"
  | .sortedR => "sorted"
  | .int => "int"
  | .str => "str"
  | .abs => "abs"
  | .divmod => "divmod"
  | .repr => "repr"
  | .listRange => "list"
  | .setLen => "len"
def tyS : Ty → Str
  | .int => "int"
  | .bool => "bool"
  | .str => "str"
  | .tuple => "tuple"
  | .list => "list"
def muN : Mu → Str
  | .append => "append"
  | .extend => "extend"
  | .pop => "pop"
  | .popAt => "pop"
  | .clear => "clear"
def noStars : List Expr → Bool
  | [] => true
  | .Starred _ _ :: _ => false
  | _ :: es => noStars es
mutual
/-- what may stand as a test -/
def tstOk : Expr → Bool
  | .IfExp _ _ _ _ => false
  | .UnaryOp .Not x _ => tstOk x
  | .BoolOp _ xs _ => tstOks xs
  | _ => true
def tstOks : List Expr → Bool
  | [] => true
  | x :: xs => tstOk x && tstOks xs
end
def isSet : Expr → Bool
  | .Set _ _ _ => true
  | _ => false
mutual
def chkTg (S : SC) : Tg → Expr → Bool
  | .nm i, e => match e with
    | .Name x _ => decide (S.N[i]? = some x) && locB S.raw x
    | _ => false
  | .tup ts, e => match e with
    | .Tuple es _ _ => chkTgs S ts es
    | _ => false
def chkTgs (S : SC) : Tgs → List Expr → Bool
  | .nil, es => es.isEmpty
  | .cons t ts, es => match es with
    | e :: es => chkTg S t e && chkTgs S ts es
    | [] => false
end
def ownNames (N : List Str) (own : List Nat) : List (Str × Nat) := own.filterMap fun i => (N[i]?).map fun x => (x, i)
mutual
def chkE (T : Tx) : SC → CE → Expr → Bool
  | S, .var i, e => match e with
    | .Name x _ => chkV S i x
    | _ => false
  | S, .mov i, e => match e with
    | .Name x _ => chkV S i x
    | _ => false
  | _, .con d, e => match e with
    | .Constant c _ _ => chkC d c
    | _ => false
  | S, .glob k, e => match e with
    | .Name x _ => decide (T.cn[k]? = some x) && glB S.sc x && dbg x
    | _ => false
  | S, .tup es, e => match e with
    | .Tuple xs _ _ => chkEs T S es xs
    | _ => false
  | S, .lst es, e => match e with
    | .List xs _ => chkEs T S es xs
    | _ => false
  | S, .bin op a b, e => match e with
    | .BinOp x o y _ => decide (op = o) && chkE T S a x && chkE T S b y
    | _ => false
  | S, .neg a, e => match e with
    | .UnaryOp .USub x _ => chkE T S a x
    | _ => false
  | S, .cmp op a b, e => match e with
    | .Compare x [o] [y] _ => decide (op = o) && !behindInMarks o y && chkE T S a x && chkE T S b y
    | _ => false
  | S, .chn o1 o2 a b c, e => match e with
    | .Compare x [p, q] [y, z] _ => decide (o1 = p) && decide (o2 = q) && !lastMarks [p, q] [y, z] && chkE T S a x && chkE T S b y && chkE T S c z
    | _ => false
  | S, .not a, e => match e with
    | .UnaryOp .Not x _ => chkE T S a x
    | _ => false
  | S, .bo an es, e => match e with
    | .BoolOp op xs _ => (an == (op == .And)) && chkEs T S es xs && !xs.isEmpty
    | _ => false
  | S, .ite c a b, e => match e with
    | .IfExp x y z _ => tstOk x && chkE T S c x && chkE T S a y && chkE T S b z
    | _ => false
  | S, .idx a i, e => match e with
    | .Subscript x y _ => chkE T S a x && chkE T S i y
    | _ => false
  | S, .slc a lo hi, e => match e with
    | .Subscript x (.Slice l h none _) _ => chkE T S a x && chkO T S lo l && chkO T S hi h
    | _ => false
  | S, .rev a, e => match e with
    | .Subscript x (.Slice none none (some (.UnaryOp .USub (.Constant (.int k) _ _) _)) _) _ => decide (k = 1) && chkE T S a x
    | _ => false
  | S, .bi f es, e => match e with
    | .Call (.Name x _) xs [] _ => (match f with
      | .sortedR => false
      | .setLen => false
      | .listRange => false
      | f => bltB T S (biN f) x && chkEs T S es xs && !xs.isEmpty)
    | _ => false
  | S, .sortedR a, e => match e with
    | .Call (.Name x _) [y] [⟨some kw, .Constant c _ _, _⟩] _ => bltB T S "sorted" x && decide (kw = "reverse") && decide (c = .bool true) && chkE T S a y
    | _ => false
  | S, .lstRange a, e => match e with
    | .Call (.Name x _) [.Call (.Name y _) [z] [] _] [] _ => bltB T S "list" x && bltB T S "range" y && chkE T S a z
    | _ => false
  | S, .isi a t, e => match e with
    | .Call (.Name x _) [y, .Name z _] [] _ => bltB T S "isinstance" x && bltB T S (tyS t) z && chkE T S a y
    | _ => false
  | S, .sortSet a, e => match e with
    | .Call (.Name x _) [.Call (.Name y _) [z] [] _] [] _ => bltB T S "sorted" x && bltB T S "set" y && chkE T S a z
    | _ => false
  | S, .lenSet a, e => match e with
    | .Call (.Name x _) [.Call (.Name y _) [z] [] _] [] _ => bltB T S "len" x && bltB T S "set" y && chkE T S a z
    | _ => false
  | S, .index a b, e => match e with
    | .Call (.Attribute (.Name x xp) nm ap) [z] [] cp => decide (nm = "index") && (ap.endLine == cp.line) && chkE T S a (.Name x xp) && chkE T S b z
    | _ => false
  | S, .dicZip a b, e => match e with
    | .Call (.Name x _) [.Call (.Name y _) [z, u] [] _] [] _ => bltB T S "dict" x && bltB T S "zip" y && chkE T S a z && chkE T S b u
    | _ => false
  | S, .tupZip a b, e => match e with
    | .Call (.Name x _) [.Call (.Name y _) [z, u] [] _] [] _ => bltB T S "tuple" x && bltB T S "zip" y && chkE T S a z && chkE T S b u
    | _ => false
  | _, .dic0, e => match e with
    | .Dict [] [] _ => true
    | _ => false
  | S, .call k ms es, e => match e with
    | .Call (.Name x _) xs [] _ => decide (T.fs[k]? = some x) && glB S.sc x && dbg x && decide (ms.length = xs.length) && chkEs T S es xs && !xs.isEmpty
    | _ => false
  | S, .mut m i es, e => match e with
    | .Call (.Attribute (.Name x _) nm ap) xs [] cp => chkV S i x && decide (nm = muN m) && (ap.endLine == cp.line) && decide (xs.length ≤ 1) && (xs.isEmpty == (match m with | .pop => true | .clear => true | _ => false)) && chkEs T S es xs
    | _ => false
  | S, .lc own tg it c x, e => match e with
    | .ListComp elt [⟨t, iter, ifs, 0⟩] scope _ => blkC S.N S.sc scope (ownNames S.N own) && decide ((ownNames S.N own).map (·.2) = own) && (tgS tg).all (fun j => decide (j ∈ own)) && !isSet iter && chkI T S it t iter &&
        chkTg ⟨S.N, relS scope S.sc, scope⟩ tg t && chkCs T ⟨S.N, relS scope S.sc, scope⟩ c ifs && chkE T ⟨S.N, relS scope S.sc, scope⟩ x elt
    | _ => false
def chkEs (T : Tx) : SC → CEs → List Expr → Bool
  | _, .nil, es => es.isEmpty
  | S, .cons c cs, es => match es with
    | e :: es => chkE T S c e && chkEs T S cs es
    | [] => false
def chkO (T : Tx) : SC → CEo → Option Expr → Bool
  | _, .none, o => o.isNone
  | S, .some c, o => match o with
    | some e => chkE T S c e
    | none => false
def chkCs (T : Tx) : SC → CEo → List Expr → Bool
  | _, .none, es => es.isEmpty
  | S, .some c, es => match es with
    | [e] => tstOk e && chkE T S c e
    | _ => false
def chkI (T : Tx) : SC → IT → Expr → Expr → Bool
  | S, .val c, _, e => chkE T S c e
  | S, .range1 a, _, e => match e with
    | .Call (.Name x _) [y] [] _ => bltB T S "range" x && chkE T S a y
    | _ => false
  | S, .range2 a b, _, e => match e with
    | .Call (.Name x _) [y, z] [] _ => bltB T S "range" x && chkE T S a y && chkE T S b z
    | _ => false
  | S, .zip a b, t, e => match e, t with
    | .Call (.Name x _) [y, z] [] _, .Tuple _ _ _ => bltB T S "zip" x && chkE T S a y && chkE T S b z
    | _, _ => false
  | S, .enum a, t, e => match e, t with
    | .Call (.Name x _) [y] [] _, .Tuple _ _ _ => bltB T S "enumerate" x && chkE T S a y
    | _, _ => false
end
structure CxOk (T : Tx) (gk : Bool) (S : SC) (XW : WX) (X : Cx) : Prop where
  hN : X.N = S.N
  hs : X.env.scope = S.sc
  nd : S.N.Nodup
  calm : X.calm = true
  room : ∃ k, Room k X.A ∧ ∀ j x, T.fs[j]? = some x → Known gk X x (T.FT j) k
  gs : X.A.guards = some []
  tk : Takes X XW
  con : ∀ k x d, T.cn[k]? = some x → T.cs k = some d → ∃ v u, X.mg x = some u ∧ RelV v u ∧ ∀ A H, DpA X.K A H v d
  bl : ∀ x ∈ T.bl, X.mg x = none
  loc : ∀ x, locB S.raw x = true → Loc X.env.scope x ∧ (X.fn x = true ∨ X.env.scope.names.lookup x = some .local)
section
variable {T : Tx} {gk : Bool} {S : SC} {XW : WX} {X : Cx}
theorem CxOk.units (c : CxOk T gk S XW X) : X.A.units + 65 < cLine := by
  obtain ⟨k, r, _⟩ := c.room
  have := r.un
  omega
theorem CxOk.var (c : CxOk T gk S XW X) {i : Nat} {x : Str} {pos : Pos} (h : chkV S i x = true) : PE X (.Name x pos) (tVar i) := by
  unfold chkV at h
  simp only [Bool.and_eq_true, decide_eq_true_eq, dbg, Bool.not_eq_true'] at h
  obtain ⟨⟨⟨h1, h2⟩, h3⟩, h4⟩ := h
  refine pe_var (by rw [c.hN]; exact h1) ?_ h3 h4
  rw [c.hs]
  unfold visB at h2
  unfold Vis
  split at h2 <;> simp_all
theorem CxOk.gl (c : CxOk T gk S XW X) {x : Str} (h : glB S.sc x = true) : Gl X x := by
  unfold glB at h
  show X.env.scope.names.lookup x = some .globalImplicit
  rw [c.hs]
  split at h
  · assumption
  · cases h
theorem CxOk.blt (c : CxOk T gk S XW X) {n x : Str} (h : bltB T S n x = true) : x = n ∧ Gl X n ∧ X.mg n = none := by
  unfold bltB at h
  simp only [Bool.and_eq_true, decide_eq_true_eq] at h
  exact ⟨h.1.1, c.gl h.1.2, c.bl n h.2⟩
theorem star_of {c : CE} {e : Expr} (h : chkE T S c e = true) (es : List Expr) (env : PySem.Env) : starEach (e :: es) env = (false, eval e env) :: starEach es env := by
  cases e <;> first | rfl | (cases c <;> simp [chkE] at h)
theorem stars_of : ∀ {cs : CEs} {es : List Expr}, chkEs T S cs es = true → ∀ env : PySem.Env, ∀ p ∈ starEach es env, p.1 = false
  | _, [], _, env => fun p hp => by simp [starEach] at hp
  | .nil, e :: es, h, _ => by simp [chkEs] at h
  | .cons c cs, e :: es, h, env => fun p hp => by
    simp only [chkEs, Bool.and_eq_true] at h
    rw [star_of h.1 es env] at hp
    rcases List.mem_cons.mp hp with q | hp
    · subst q; rfl
    · exact stars_of h.2 env p hp
theorem plain_of {pos : Pos} {l : List (Bool × Sem Value)} (h : ∀ p ∈ l, p.1 = false) : (backTo pos l).any (·.1) = false := by
  rw [List.any_eq_false]
  intro p hp
  unfold backTo at hp
  obtain ⟨q, h1, h2⟩ := List.mem_map.mp hp
  subst h2
  simp [h q h1]
theorem CxOk.blk (c : CxOk T gk S XW X) (s : Shared) (H : Hp) (scope : Scope) (C : Addr) (cl : List (Str × Addr)) (fp : List Addr) : CxOk T gk ⟨S.N, relS scope S.sc, scope⟩ XWF (X.blk s H scope (compEnvC scope cl C X.env) fp) where
  hN := c.hN
  hs := by
    show relS scope X.env.scope = relS scope S.sc
    rw [c.hs]
  nd := c.nd
  calm := c.calm
  room := c.room
  gs := c.gs
  tk := takes0
  con := c.con
  bl := c.bl
  loc := fun x h => by
    have h' : scope.names.lookup x = some .local ∨ scope.names.lookup x = some .cell := by
      unfold locB at h
      dsimp only at h
      split at h
      · exact .inl (by assumption)
      · exact .inr (by assumption)
      · cases h
    have e : (X.blk s H scope (compEnvC scope cl C X.env) fp).env.scope = relS scope X.env.scope := rfl
    rw [e]
    rcases h' with h' | h'
    · have q : (relS scope X.env.scope).names.lookup x = some .local := lookup_relS_keep (by decide) h'
      exact ⟨.inl q, .inr q⟩
    · have q : (relS scope X.env.scope).names.lookup x = some .cell := lookup_relS_keep (by decide) h'
      refine ⟨.inr q, .inl ?_⟩
      show (scope.names.lookup x == some .cell) = true
      rw [h']
      rfl
end
end Ev

/-! Ev, part M: soundness for expressions. -/
namespace Ev
open PySem L2 RZ
section
variable {T : Tx} {gk : Bool}
/-- a value's reading, and where it may be, its reading as a test -/
def SndE (T : Tx) (gk : Bool) (c : CE) : Prop := ∀ (S : SC) (XW : WX) (X : Cx) (e : Expr), CxOk T gk S XW X → chkE T S c e = true →
  (∀ pk, PE X e (tE X.K X.mg XW fun en => evM T.cs T.FT c pk en)) ∧ (tstOk e = true → PT X e (tTst X.K X.mg XW (okB fun en => evM T.cs T.FT c false en)))
def SndEs (T : Tx) (gk : Bool) (cs : CEs) : Prop := ∀ (S : SC) (XW : WX) (X : Cx) (es : List Expr), CxOk T gk S XW X → chkEs T S cs es = true →
  L2.PA X es (tR X.K X.mg (OOf X.K (OVs X.K)) XW fun en => evVs T.cs T.FT cs en) ∧ L2.PA X es (tR X.K X.mg (OOf X.K (OPs X.K)) XW fun en => evPs T.cs T.FT cs en) ∧
  (∀ ms, ms.length = es.length → L2.PA X es (tR X.K X.mg (OOf X.K (OAs X.K)) XW fun en => evAs T.cs T.FT ms cs en)) ∧
  (es ≠ [] → ∀ op an pos, an = (op == .And) → PE X (.BoolOp op es pos) (tE X.K X.mg XW fun en => evB T.cs T.FT an cs en) ∧
    (tstOks es = true → PW X (.BoolOp op es pos) (tTst X.K X.mg XW (okB fun en => evB T.cs T.FT an cs en))))
def SndO (T : Tx) (gk : Bool) (c : CEo) : Prop := (∀ (S : SC) (XW : WX) (X : Cx) (e : Option Expr), CxOk T gk S XW X → chkO T S c e = true → PO X e (tR X.K X.mg (OOf X.K fun _ _ _ b a => b = a) XW fun en => evO T.cs T.FT c en)) ∧
  ∀ (S : SC) (XW : WX) (X : Cx) (es : List Expr), CxOk T gk S XW X → chkCs T S c es = true → PTs X es (tTst X.K X.mg XW fun en => evC T.cs T.FT c en)
def SndI (T : Tx) (gk : Bool) (c : IT) : Prop := ∀ (S : SC) (XW : WX) (X : Cx) (tg e : Expr), CxOk T gk S XW X → chkI T S c tg e = true → ∀ pk, PI X tg e (tR X.K X.mg (OIt X.K) XW fun en => evI T.cs T.FT pk c en)

theorem both {X : Cx} {e : Expr} {XW : WX} {m : En → Rs PV} {c : CE} (hm : ∀ pk, (fun en => evM T.cs T.FT c pk en) = m) (h : PE X e (tE X.K X.mg XW m)) (he : tstOk e = true → ∀ whole, isTrue e X.env whole = (do let v ← whole; standAt e.pos; holding [v] (truthy v))) :
    (∀ pk, PE X e (tE X.K X.mg XW fun en => evM T.cs T.FT c pk en)) ∧ (tstOk e = true → PT X e (tTst X.K X.mg XW (okB fun en => evM T.cs T.FT c false en))) :=
  ⟨fun pk => by rw [hm pk]; exact h, fun ht => by rw [hm false]; exact sndT_val h (he ht)⟩
theorem E_var (i : Nat) : SndE T gk (.var i) := fun S XW X e c h => by
  simp only [chkE] at h
  split at h
  · exact ⟨fun pk => snd_var (c.var h), fun _ => sndT_val (snd_var (pk := false) (c.var h)) fun _ => rfl⟩
  · cases h
theorem E_mov (i : Nat) : SndE T gk (.mov i) := fun S XW X e c h => by
  simp only [chkE] at h
  split at h
  · exact both (fun _ => rfl) (snd_mov (c.var h)) fun _ _ => rfl
  · cases h
theorem E_con (d : D) : SndE T gk (.con d) := fun S XW X e c h => by
  simp only [chkE] at h
  split at h
  · unfold chkC at h
    split at h
    · obtain rfl := of_decide_eq_true h
      exact both (fun _ => rfl) (snd_con pe_int fun _ _ => .int _) fun _ _ => rfl
    · obtain rfl := of_decide_eq_true h
      exact both (fun _ => rfl) (snd_con pe_bl fun _ _ => .bl _) fun _ _ => rfl
    · exact both (fun _ => rfl) (snd_con pe_non fun _ _ => .non) fun _ _ => rfl
    · obtain rfl := of_decide_eq_true h
      exact both (fun _ => rfl) (snd_con pe_str fun _ _ => .str _) fun _ _ => rfl
    · cases h
  · cases h
theorem E_glob (k : Nat) : SndE T gk (.glob k) := fun S XW X e c h => by
  simp only [chkE] at h
  split at h
  · simp only [Bool.and_eq_true, decide_eq_true_eq, dbg, Bool.not_eq_true'] at h
    obtain ⟨⟨h1, h2⟩, h3⟩ := h
    have key : ∀ {pos : Pos}, PE X (.Name _ pos) (tE X.K X.mg XW fun en => match T.cs k with
        | some d => .ok (.r (.v d)) en
        | none => .no) := fun {pos} => by
      cases hd : T.cs k with
      | none =>
        refine ⟨fun pins s σ H Q I q => ?_⟩
        obtain ⟨W, G, B, F, en, rel, q⟩ := q
        exact q.elim
      | some d =>
        obtain ⟨v, u, q1, q2, q3⟩ := c.con k _ d h1 hd
        exact snd_con (pe_glob (c.gl h2) q1 q2 h3) q3
    exact both (fun _ => rfl) key fun _ _ => rfl
  · cases h
theorem E_tup (es : CEs) (ih : SndEs T gk es) : SndE T gk (.tup es) := fun S XW X e c h => by
  simp only [chkE] at h
  split at h
  · exact both (fun _ => rfl) (snd_tup (ih S XW X _ c h).1) fun _ _ => rfl
  · cases h
theorem E_lst (es : CEs) (ih : SndEs T gk es) : SndE T gk (.lst es) := fun S XW X e c h => by
  simp only [chkE] at h
  split at h
  · exact both (fun _ => rfl) (snd_lst (ih S XW X _ c h).1) fun _ _ => rfl
  · cases h
theorem E_dic0 : SndE T gk .dic0 := fun S XW X e c h => by
  simp only [chkE] at h
  split at h
  · exact both (fun _ => rfl) snd_dic0 fun _ _ => rfl
  · cases h
theorem E_bin (op : Operator) (a b : CE) (ia : SndE T gk a) (ib : SndE T gk b) : SndE T gk (.bin op a b) := fun S XW X e c h => by
  simp only [chkE] at h
  split at h
  · simp only [Bool.and_eq_true, decide_eq_true_eq] at h
    obtain ⟨⟨rfl, h1⟩, h2⟩ := h
    exact both (fun _ => rfl) (snd_bin ((ia S XW X _ c h1).1 true) ((ib S XW X _ c h2).1 true)) fun _ _ => rfl
  · cases h
theorem E_neg (a : CE) (ia : SndE T gk a) : SndE T gk (.neg a) := fun S XW X e c h => by
  simp only [chkE] at h
  split at h
  · exact both (fun _ => rfl) (snd_neg ((ia S XW X _ c h).1 false)) fun _ _ => rfl
  · cases h
theorem E_cmp (op : CmpOp) (a b : CE) (ia : SndE T gk a) (ib : SndE T gk b) : SndE T gk (.cmp op a b) := fun S XW X e c h => by
  simp only [chkE] at h
  split at h
  · simp only [Bool.and_eq_true, decide_eq_true_eq, Bool.not_eq_true'] at h
    obtain ⟨⟨⟨rfl, h0⟩, h1⟩, h2⟩ := h
    exact ⟨fun pk => snd_cmp c.units h0 ((ia S XW X _ c h1).1 true) ((ib S XW X _ c h2).1 true), fun _ => sndT_cmp c.units h0 ((ia S XW X _ c h1).1 true) ((ib S XW X _ c h2).1 true)⟩
  · cases h
theorem E_chn (o1 o2 : CmpOp) (a b d : CE) (ia : SndE T gk a) (ib : SndE T gk b) (id : SndE T gk d) : SndE T gk (.chn o1 o2 a b d) := fun S XW X e c h => by
  simp only [chkE] at h
  split at h
  · simp only [Bool.and_eq_true, decide_eq_true_eq, Bool.not_eq_true'] at h
    obtain ⟨⟨⟨⟨⟨rfl, rfl⟩, h0⟩, h1⟩, h2⟩, h3⟩ := h
    exact ⟨fun pk => snd_chn c.units h0 ((ia S XW X _ c h1).1 true) ((ib S XW X _ c h2).1 true) ((id S XW X _ c h3).1 true), fun _ => sndT_chn c.units h0 ((ia S XW X _ c h1).1 true) ((ib S XW X _ c h2).1 true) ((id S XW X _ c h3).1 true)⟩
  · cases h
theorem E_not (a : CE) (ia : SndE T gk a) : SndE T gk (.not a) := fun S XW X e c h => by
  simp only [chkE] at h
  split at h
  · exact ⟨fun pk => snd_not ((ia S XW X _ c h).1 false), fun ht => sndT_not ((ia S XW X _ c h).2 (by simpa [tstOk] using ht))⟩
  · cases h
theorem E_bo (an : Bool) (es : CEs) (ih : SndEs T gk es) : SndE T gk (.bo an es) := fun S XW X e c h => by
  simp only [chkE] at h
  split at h
  · simp only [Bool.and_eq_true, beq_iff_eq, Bool.not_eq_true'] at h
    obtain ⟨⟨h0, h1⟩, h2⟩ := h
    obtain ⟨q1, q2⟩ := (ih S XW X _ c h1).2.2.2 (by intro z; rw [z] at h2; cases h2) _ an _ h0
    exact ⟨fun pk => q1, fun ht => (q2 (by simpa [tstOk] using ht)).pt⟩
  · cases h
theorem okB_ite {ma mb mc : En → Rs PV} {e : En} : (testB (mc e) fun k e => match k with
    | true => ma e
    | false => mb e) = (okB mc e).bind fun k e => match k with
    | true => ma e
    | false => mb e := by
  unfold okB testB
  cases mc e with
  | no => rfl
  | ex x e1 => rfl
  | ok x e1 =>
    simp only [Rs.bind_ok]
    cases boolOf x <;> rfl
theorem E_ite (d a b : CE) (id : SndE T gk d) (ia : SndE T gk a) (ib : SndE T gk b) : SndE T gk (.ite d a b) := fun S XW X e c h => by
  simp only [chkE] at h
  split at h
  · simp only [Bool.and_eq_true] at h
    obtain ⟨⟨⟨h0, h1⟩, h2⟩, h3⟩ := h
    refine ⟨fun pk => ?_, fun ht => by simp [tstOk] at ht⟩
    have q := snd_ite (pos := ‹Pos›) ((id S XW X _ c h1).2 h0) ((ia S XW X _ c h2).1 false) ((ib S XW X _ c h3).1 false)
    have e1 : (fun en => evM T.cs T.FT (.ite d a b) pk en) = fun e => (okB (fun en => evM T.cs T.FT d false en) e).bind fun k e => match k with
        | true => evM T.cs T.FT a false e
        | false => evM T.cs T.FT b false e := funext fun en => okB_ite (mc := fun en => evM T.cs T.FT d false en)
    rw [e1]
    exact q
  · cases h
theorem plainIx_of {i : CE} {y : Expr} {S : SC} (h : chkE T S i y = true) : PlainIx y := fun o i' => by
  cases y <;> first | rfl | (cases i <;> simp [chkE] at h)
theorem E_idx (a i : CE) (ia : SndE T gk a) (ii : SndE T gk i) : SndE T gk (.idx a i) := fun S XW X e c h => by
  simp only [chkE] at h
  split at h
  · simp only [Bool.and_eq_true] at h
    exact both (fun _ => rfl) (snd_idx (by have := c.units; omega) ((ia S XW X _ c h.1).1 true) ((ii S XW X _ c h.2).1 true) (plainIx_of h.2)) fun _ _ => rfl
  · cases h
theorem E_slc (a : CE) (lo hi : CEo) (ia : SndE T gk a) (il : SndO T gk lo) (ih : SndO T gk hi) : SndE T gk (.slc a lo hi) := fun S XW X e c h => by
  simp only [chkE] at h
  split at h
  · simp only [Bool.and_eq_true] at h
    exact both (fun _ => rfl) (snd_slc ((ia S XW X _ c h.1.1).1 true) (il.1 S XW X _ c h.1.2) (ih.1 S XW X _ c h.2)) fun _ _ => rfl
  · cases h
theorem E_rev (a : CE) (ia : SndE T gk a) : SndE T gk (.rev a) := fun S XW X e c h => by
  simp only [chkE] at h
  split at h
  · simp only [Bool.and_eq_true, decide_eq_true_eq] at h
    obtain ⟨rfl, h⟩ := h
    exact both (fun _ => rfl) (snd_rev ((ia S XW X _ c h).1 true)) fun _ _ => rfl
  · cases h
end
end Ev

/-! Ev, part N: soundness for expressions, the rest. -/
namespace Ev
open PySem L2 RZ
theorem bt_any : bootBuiltins "any" = some (.builtin "any") := by decide +kernel
theorem bt_all : bootBuiltins "all" = some (.builtin "all") := by decide +kernel
theorem bt_max : bootBuiltins "max" = some (.builtin "max") := by decide +kernel
theorem bt_min : bootBuiltins "min" = some (.builtin "min") := by decide +kernel
theorem bt_sum : bootBuiltins "sum" = some (.builtin "sum") := by decide +kernel
theorem bt_len : bootBuiltins "len" = some (.builtin "len") := by decide +kernel
theorem bt_abs : bootBuiltins "abs" = some (.builtin "abs") := by decide +kernel
theorem bt_sorted : bootBuiltins "sorted" = some (.builtin "sorted") := by decide +kernel
theorem bt_divmod : bootBuiltins "divmod" = some (.builtin "divmod") := by decide +kernel
theorem bt_repr : bootBuiltins "repr" = some (.builtin "repr") := by decide +kernel
theorem bt_isi : bootBuiltins "isinstance" = some (.builtin "isinstance") := by decide +kernel
theorem bt_list : bootBuiltins "list" = some (.type "list") := by decide +kernel
theorem bt_tuple : bootBuiltins "tuple" = some (.type "tuple") := by decide +kernel
theorem bt_int : bootBuiltins "int" = some (.type "int") := by decide +kernel
theorem bt_str : bootBuiltins "str" = some (.type "str") := by decide +kernel
theorem bt_bool : bootBuiltins "bool" = some (.type "bool") := by decide +kernel
section
variable {T : Tx} {gk : Bool}
theorem star1 {X : Cx} {c : CE} {S : SC} {e : Expr} (h : chkE T S c e = true) : starEach [e] X.env = (false, eval e X.env) :: starEach [] X.env := star_of h [] X.env
theorem stars_fn {X : Cx} {es : List Expr} (h : ∀ p ∈ starEach es X.env, p.1 = false) {pos : Pos} : (backTo pos (starEach es X.env)).any (·.1) = false := plain_of h
theorem bi_call {X : Cx} {f : Bi} (hc : X.calm = true) (hgd : X.A.guards = some []) (hu : X.A.units + 65 < cLine) (hf : f ≠ .sortedR ∧ f ≠ .listRange ∧ f ≠ .setLen) {e : Expr} {es : List Expr} {x : Str} {p pos : Pos} (hx : x = biN f) (hg : Gl X (biN f)) (hm : X.mg (biN f) = none)
    (he : starEach (e :: es) X.env = (false, eval e X.env) :: starEach es X.env) (hpl : (backTo pos (starEach es X.env)).any (·.1) = false) (t : TA) (ha : L2.PA X (e :: es) t) : PE X (.Call (.Name x p) (e :: es) [] pos) (tCB (rN X.K (biD f)) t) := by
  subst hx
  have hc := call_biD (X := X) hc hgd hu f hf
  cases f with
  | sortedR => exact absurd rfl hf.1
  | listRange => exact absurd rfl hf.2.1
  | setLen => exact absurd rfl hf.2.2
  | len => exact pe_callB hc hg hm bt_len ha (he := he) (hpl := hpl)
  | all => exact pe_callB hc hg hm bt_all ha (he := he) (hpl := hpl)
  | any => exact pe_callB hc hg hm bt_any ha (he := he) (hpl := hpl)
  | max => exact pe_callB hc hg hm bt_max ha (he := he) (hpl := hpl)
  | min => exact pe_callB hc hg hm bt_min ha (he := he) (hpl := hpl)
  | sum => exact pe_callB hc hg hm bt_sum ha (he := he) (hpl := hpl)
  | list => exact pe_callTy hc hg hm bt_list ha (he := he) (hpl := hpl)
  | tuple => exact pe_callTy hc hg hm bt_tuple ha (he := he) (hpl := hpl)
  | sorted => exact pe_callB hc hg hm bt_sorted ha (he := he) (hpl := hpl)
  | int => exact pe_callTy hc hg hm bt_int ha (he := he) (hpl := hpl)
  | str => exact pe_callTy hc hg hm bt_str ha (he := he) (hpl := hpl)
  | abs => exact pe_callB hc hg hm bt_abs ha (he := he) (hpl := hpl)
  | divmod => exact pe_callB hc hg hm bt_divmod ha (he := he) (hpl := hpl)
  | repr => exact pe_callB hc hg hm bt_repr ha (he := he) (hpl := hpl)
theorem E_bi (f : Bi) (es : CEs) (ih : SndEs T gk es) : SndE T gk (.bi f es) := fun S XW X e c h => by
  simp only [chkE] at h
  split at h
  · rename_i x p xs pos
    have key : ∀ (hf : f ≠ .sortedR ∧ f ≠ .listRange ∧ f ≠ .setLen), (bltB T S (biN f) x && chkEs T S es xs && !xs.isEmpty) = true →
        PE X (.Call (.Name x p) xs [] pos) (tE X.K X.mg XW fun en => (evPs T.cs T.FT es en).bind fun xs e => appN (biD f) xs e) := fun hf h => by
      simp only [Bool.and_eq_true, Bool.not_eq_true'] at h
      obtain ⟨⟨h1, h2⟩, h3⟩ := h
      obtain ⟨rfl, q1, q2⟩ := c.blt h1
      have st := stars_of h2 X.env
      cases xs with
      | nil => cases h3
      | cons y ys =>
        cases es with
        | nil => simp [chkEs] at h2
        | cons d ds =>
          have h2' := h2
          simp only [chkEs, Bool.and_eq_true] at h2'
          refine snd_bi (ta := fun t => tE X.K X.mg XW fun _ => .no) (fun t ht => bi_call c.calm c.gs c.units hf rfl q1 q2 (star_of h2'.1 ys X.env) (stars_fn (stars_of h2'.2 X.env)) t ht) (ih S XW X _ c h2).2.1
    cases f <;> first
      | (cases h; done)
      | exact both (fun _ => rfl) (key ⟨nofun, nofun, nofun⟩ h) fun _ _ => rfl
  · cases h
theorem E_sortedR (a : CE) (ia : SndE T gk a) : SndE T gk (.sortedR a) := fun S XW X e c h => by
  simp only [chkE] at h
  split at h
  · simp only [Bool.and_eq_true, decide_eq_true_eq] at h
    obtain ⟨⟨⟨h1, rfl⟩, rfl⟩, h2⟩ := h
    obtain ⟨rfl, q1, q2⟩ := c.blt h1
    exact both (fun _ => rfl) (snd_sortedR q1 q2 (star1 h2) ((ia S XW X _ c h2).1 true)) fun _ _ => rfl
  · cases h
theorem E_lstRange (a : CE) (ia : SndE T gk a) : SndE T gk (.lstRange a) := fun S XW X e c h => by
  simp only [chkE] at h
  split at h
  · simp only [Bool.and_eq_true] at h
    obtain ⟨⟨h1, h3⟩, h2⟩ := h
    obtain ⟨rfl, q1, q2⟩ := c.blt h1
    obtain ⟨rfl, q3, q4⟩ := c.blt h3
    exact both (fun _ => rfl) (snd_listRange c.calm q1 q2 q3 q4 (star1 h2) ((ia S XW X _ c h2).1 true)) fun _ _ => rfl
  · cases h
theorem ty_boot (t : Ty) : bootBuiltins (tyS t) = some (.type (tyN t)) := by cases t <;> decide +kernel
theorem ty_name (t : Ty) : tyS t ≠ "__name__" ∧ (tyS t == ("__debug__" : Str)) = false := by cases t <;> decide
theorem E_isi (a : CE) (t : Ty) (ia : SndE T gk a) : SndE T gk (.isi a t) := fun S XW X e c h => by
  simp only [chkE] at h
  split at h
  · simp only [Bool.and_eq_true] at h
    obtain ⟨⟨h1, h3⟩, h2⟩ := h
    obtain ⟨rfl, q1, q2⟩ := c.blt h1
    obtain ⟨rfl, q3, q4⟩ := c.blt h3
    refine both (fun _ => rfl) (snd_isi (t := t) (fun ta hta => pe_callB (call_isiD t) q1 q2 bt_isi hta (he := star_of h2 _ X.env) (hpl := rfl)) (pe_bltn q3 q4 (ty_boot t) rfl (ty_name t).1 (ty_name t).2) (star_of h2 _ X.env) rfl ((ia S XW X _ c h2).1 true)) fun _ _ => rfl
  · cases h
theorem E_sortSet (a : CE) (ia : SndE T gk a) : SndE T gk (.sortSet a) := fun S XW X e c h => by
  simp only [chkE] at h
  split at h
  · simp only [Bool.and_eq_true] at h
    obtain ⟨⟨h1, h3⟩, h2⟩ := h
    obtain ⟨rfl, q1, q2⟩ := c.blt h1
    obtain ⟨rfl, q3, q4⟩ := c.blt h3
    exact both (fun _ => rfl) (snd_sortSet c.calm (by have := c.units; omega) q1 q2 q3 q4 (star1 h2) ((ia S XW X _ c h2).1 true)) fun _ _ => rfl
  · cases h
theorem E_lenSet (a : CE) (ia : SndE T gk a) : SndE T gk (.lenSet a) := fun S XW X e c h => by
  simp only [chkE] at h
  split at h
  · simp only [Bool.and_eq_true] at h
    obtain ⟨⟨h1, h3⟩, h2⟩ := h
    obtain ⟨rfl, q1, q2⟩ := c.blt h1
    obtain ⟨rfl, q3, q4⟩ := c.blt h3
    exact both (fun _ => rfl) (snd_lenSet c.calm (by have := c.units; omega) q1 q2 q3 q4 (star1 h2) ((ia S XW X _ c h2).1 true)) fun _ _ => rfl
  · cases h
theorem E_index (a b : CE) (ia : SndE T gk a) (ib : SndE T gk b) : SndE T gk (.index a b) := fun S XW X e c h => by
  simp only [chkE] at h
  split at h
  · simp only [Bool.and_eq_true, decide_eq_true_eq] at h
    obtain ⟨⟨⟨rfl, h1⟩, h2⟩, h3⟩ := h
    exact both (fun _ => rfl) (snd_index c.units ((ia S XW X _ c h2).1 true) ((ib S XW X _ c h3).1 true) rfl h1 (star1 h3)) fun _ _ => rfl
  · cases h
theorem E_dicZip (a b : CE) (ia : SndE T gk a) (ib : SndE T gk b) : SndE T gk (.dicZip a b) := fun S XW X e c h => by
  simp only [chkE] at h
  split at h
  · simp only [Bool.and_eq_true] at h
    obtain ⟨⟨⟨h1, h2⟩, h3⟩, h4⟩ := h
    obtain ⟨rfl, q1, q2⟩ := c.blt h1
    obtain ⟨rfl, q3, q4⟩ := c.blt h2
    exact both (fun _ => rfl) (snd_dicZip c.calm q1 q2 q3 q4 (star_of h3 _ X.env) (star1 h4) (by rw [star1 h4]; rfl) ((ia S XW X _ c h3).1 true) ((ib S XW X _ c h4).1 true)) fun _ _ => rfl
  · cases h
theorem E_tupZip (a b : CE) (ia : SndE T gk a) (ib : SndE T gk b) : SndE T gk (.tupZip a b) := fun S XW X e c h => by
  simp only [chkE] at h
  split at h
  · simp only [Bool.and_eq_true] at h
    obtain ⟨⟨⟨h1, h2⟩, h3⟩, h4⟩ := h
    obtain ⟨rfl, q1, q2⟩ := c.blt h1
    obtain ⟨rfl, q3, q4⟩ := c.blt h2
    exact both (fun _ => rfl) (snd_tupZip c.calm q1 q2 q3 q4 (star_of h3 _ X.env) (star1 h4) (by rw [star1 h4]; rfl) ((ia S XW X _ c h3).1 true) ((ib S XW X _ c h4).1 true)) fun _ _ => rfl
  · cases h
theorem E_call (k : Nat) (ms : List Bool) (es : CEs) (ih : SndEs T gk es) : SndE T gk (.call k ms es) := fun S XW X e c h => by
  simp only [chkE] at h
  split at h
  · simp only [Bool.and_eq_true, decide_eq_true_eq, dbg, Bool.not_eq_true'] at h
    obtain ⟨⟨⟨⟨⟨h1, h2⟩, h3⟩, h4⟩, h5⟩, h6⟩ := h
    rename_i x p xs pos
    cases xs with
    | nil => cases h6
    | cons y ys =>
      cases es with
      | nil => simp [chkEs] at h5
      | cons d ds =>
        have h5' := h5
        simp only [chkEs, Bool.and_eq_true] at h5'
        obtain ⟨j, r, kn⟩ := c.room
        exact both (fun _ => rfl) (snd_call (kn k _ h1) c.tk (fun _ => c.gs) r (c.gl h2) h3 (star_of h5'.1 ys X.env) (stars_fn (stars_of h5'.2 X.env)) ((ih S XW X _ c h5).2.2.1 ms h4)) fun _ _ => rfl
  · cases h
theorem pm_list {X : Cx} {m : Mu} : MtR X ("list." ++ (match m with | .append => "append" | .extend => "extend" | .pop => "pop" | .popAt => "pop" | .clear => "clear")) (muR X.K m) := by
  cases m with
  | append => exact mt_append
  | extend => exact mt_extendR
  | pop => exact mt_pop
  | popAt => exact mt_popAt
  | clear => exact mt_clear
theorem E_mut (m : Mu) (i : Nat) (es : CEs) (ih : SndEs T gk es) : SndE T gk (.mut m i es) := fun S XW X e c h => by
  simp only [chkE] at h
  split at h
  · simp only [Bool.and_eq_true, decide_eq_true_eq] at h
    rename_i x np nm ap xs cp
    obtain ⟨⟨⟨⟨⟨h1, rfl⟩, h3⟩, h4⟩, h5⟩, h6⟩ := h
    have hv := c.var (pos := np) h1
    have st := stars_of h6 X.env
    refine both (fun _ => rfl) (snd_mut (es := xs) ?_) fun _ _ => rfl
    cases xs with
    | nil =>
      cases es with
      | cons d ds => simp [chkEs] at h6
      | nil =>
        refine .inr ⟨rfl, by funext e; rfl, ?_⟩
        cases m with
        | append => simp at h5
        | extend => simp at h5
        | popAt => simp at h5
        | pop => exact pe_bm0 PySem.F.plainAttrs_list PySem.F.slot_list_pop PySem.F.type_list_pop mt_pop hv rfl h3
        | clear => exact pe_bm0 PySem.F.plainAttrs_list PySem.F.slot_list_clear PySem.F.type_list_clear mt_clear hv rfl h3
    | cons y ys =>
      cases ys with
      | cons z zs => simp at h4
      | nil =>
        cases es with
        | nil => simp [chkEs] at h6
        | cons d ds =>
          have h6' := h6
          simp only [chkEs, Bool.and_eq_true] at h6'
          have sy := star_of h6'.1 [] X.env
          have hfew : ((backTo cp (starEach [y] X.env)).all (fun x => !x.1) && (backToKw cp (keywordEach [] X.env)).all (fun x => x.1.isSome)
              && decide (([y] : List Expr).length + ([] : List Keyword).length + (if ([] : List Keyword).isEmpty then 0 else 1) < 30)) = true := by
            rw [sy]; rfl
          have ha := (ih S XW X _ c h6).1
          refine .inl ?_
          cases m with
          | pop => simp at h5
          | clear => simp at h5
          | append => exact pe_bm PySem.F.plainAttrs_list PySem.F.slot_list_append PySem.F.type_list_append mt_append hv ha rfl hfew h3 sy rfl
          | extend => exact pe_bm PySem.F.plainAttrs_list PySem.F.slot_list_extend PySem.F.type_list_extend mt_extendR hv ha rfl hfew h3 sy rfl
          | popAt => exact pe_bm PySem.F.plainAttrs_list PySem.F.slot_list_pop PySem.F.type_list_pop mt_popAt hv ha rfl hfew h3 sy rfl
  · cases h
/-! targets -/
theorem assign_tg {t : Tg} {e : Expr} {S : SC} (h : chkTg S t e = true) (es : List Expr) (env : PySem.Env) : assignEach (e :: es) env = (false, assign e env) :: assignEach es env := by
  cases e <;> first | rfl | (cases t <;> simp [chkTg] at h)
theorem chkTgs_env {S : SC} : ∀ {ts : Tgs} {es : List Expr}, chkTgs S ts es = true → ∀ env : PySem.Env, (assignEach es env).length = tgsN ts ∧ ∀ p ∈ assignEach es env, p.1 = false
  | .nil, [], _, env => ⟨rfl, fun p hp => by simp [assignEach] at hp⟩
  | .nil, e :: es, h, _ => by simp [chkTgs] at h
  | .cons t ts, [], h, _ => by simp [chkTgs] at h
  | .cons t ts, e :: es, h, env => by
    simp only [chkTgs, Bool.and_eq_true] at h
    obtain ⟨q1, q2⟩ := chkTgs_env h.2 env
    rw [assign_tg h.1 es env]
    refine ⟨by simp [tgsN, q1], fun p hp => ?_⟩
    rcases List.mem_cons.mp hp with e | hp
    · subst e; rfl
    · exact q2 p hp
theorem find_none {α : Type} {l : List (Bool × α)} (h : ∀ p ∈ l, p.1 = false) : l.findIdx? (·.1) = none := by
  rw [List.findIdx?_eq_none_iff]
  exact h
mutual
theorem tg_snd {S : SC} {XW : WX} {X : Cx} (c : CxOk T gk S XW X) : ∀ {t : Tg} {e : Expr}, chkTg S t e = true → PG X e (gT X.K t)
  | .nm i, e, h => by
    simp only [chkTg] at h
    split at h
    · simp only [Bool.and_eq_true, decide_eq_true_eq] at h
      obtain ⟨q1, q2⟩ := c.loc _ h.2
      exact sndG_nm (pg_name (by rw [c.hN]; exact c.nd) (by rw [c.hN]; exact h.1) q1 q2)
    · cases h
  | .tup ts, e, h => by
    simp only [chkTg] at h
    split at h
    · obtain ⟨q1, q2⟩ := chkTgs_env h X.env
      exact sndG_tup c.calm (tgs_snd c h) q1 (find_none q2)
    · cases h
theorem tgs_snd {S : SC} {XW : WX} {X : Cx} (c : CxOk T gk S XW X) : ∀ {ts : Tgs} {es : List Expr}, chkTgs S ts es = true → PGs X es (gTs X.K ts)
  | .nil, [], _ => sndGs_nil
  | .nil, e :: es, h => by simp [chkTgs] at h
  | .cons t ts, [], h => by simp [chkTgs] at h
  | .cons t ts, e :: es, h => by
    simp only [chkTgs, Bool.and_eq_true] at h
    exact sndGs_cons (by rw [assign_tg h.1 es X.env]; rfl) (tg_snd c h.1) (tgs_snd c h.2)
end
theorem E_lc (own : List Nat) (tg : Tg) (it : IT) (c : CEo) (x : CE) (ii : SndI T gk it) (ic : SndO T gk c) (ix : SndE T gk x) : SndE T gk (.lc own tg it c x) := fun S XW X e k h => by
  simp only [chkE] at h
  split at h
  · simp only [Bool.and_eq_true, decide_eq_true_eq, List.all_eq_true, Bool.not_eq_true'] at h
    obtain ⟨⟨⟨⟨⟨⟨⟨h1, h2⟩, h3⟩, h4⟩, h5⟩, h6⟩, h7⟩, h8⟩ := h
    rename_i elt t iter ifs scope pos
    have hb : BlkOk X.N X.env.scope scope (ownNames S.N own) := by
      rw [k.hN, k.hs]
      exact blkOk_by h1
    have q := snd_lc (mg := X.mg) (XW := XW) (X := X) (pos := pos) (elt := elt) (tg := t) (iter := iter) (ifs := ifs) (scope := scope) (own := ownNames S.N own) (t := tg) (mi := fun en => evI T.cs T.FT true it en) (mt := fun en => evC T.cs T.FT c en) (me := fun en => evM T.cs T.FT x false en)
      (fun j hj => by rw [h2]; exact h3 j hj) k.calm (by rw [k.hN]; exact k.nd) (ii S XW X t iter k h5 true) hb
      (fun s H C cl fp => tg_snd (k.blk s H scope C cl fp) h6) (fun s H C cl fp => ic.2 _ _ _ _ (k.blk s H scope C cl fp) h7) (fun s H C cl fp => (ix _ _ _ _ (k.blk s H scope C cl fp) h8).1 false)
      (fun x => by
        unfold foldedSetIterable
        cases iter <;> first | rfl | (simp [isSet] at h4))
    rw [h2] at q
    refine both (fun pk => ?_) q fun _ _ => rfl
    funext en
    simp only [evM, lcM]
    all_goals first | rfl | congr 1
  · cases h
theorem Es_nil : SndEs T gk .nil := fun S XW X es c h => by
  cases es with
  | cons e es => simp [chkEs] at h
  | nil =>
    refine ⟨sndV_nil, sndP_nil, fun ms hm => ?_, fun z => absurd rfl z⟩
    cases ms with
    | nil => exact sndA_nil
    | cons m ms => cases hm
theorem Es_cons (x : CE) (xs : CEs) (ix : SndE T gk x) (ih : SndEs T gk xs) : SndEs T gk (.cons x xs) := fun S XW X es c h => by
  cases es with
  | nil => simp [chkEs] at h
  | cons e es =>
    simp only [chkEs, Bool.and_eq_true] at h
    obtain ⟨v1, v2⟩ := ix S XW X e c h.1
    obtain ⟨r1, r2, r3, r4⟩ := ih S XW X es c h.2
    have hs := star_of h.1 es X.env
    refine ⟨sndV_cons hs (v1 false) r1, sndP_cons hs (v1 true) r2, fun ms hm => ?_, fun _ op an pos hop => ?_⟩
    · cases ms with
      | nil => cases hm
      | cons m ms =>
        have hm' : ms.length = es.length := by simpa using hm
        cases m with
        | false => exact sndA_d hs (v1 false) (r3 ms hm')
        | true => exact sndA_b hs (v1 true) (r3 ms hm')
    · cases es with
      | nil =>
        cases xs with
        | cons y ys => simp [chkEs] at h
        | nil => exact ⟨pe_one (v1 false), fun ht => sndBt_one (v2 (by simpa [tstOks] using ht))⟩
      | cons y ys =>
        cases xs with
        | nil => simp [chkEs] at h
        | cons d ds =>
          obtain ⟨q1, q2⟩ := r4 (by simp) op an pos hop
          refine ⟨sndBv_cons hop (v1 false) q1, fun ht => ?_⟩
          simp only [tstOks, Bool.and_eq_true] at ht
          refine sndBt_cons hop (v2 ht.1) (q2 ?_)
          simp only [tstOks, Bool.and_eq_true]
          exact ht.2
theorem O_none : SndO T gk .none := ⟨fun S XW X e c h => by
  cases e with
  | some e => simp [chkO] at h
  | none =>
    refine ⟨fun pins s σ H Q I q => po_none.run pins s σ H _ I ?_⟩
    obtain ⟨W, G, B, F, en, rel, q⟩ := q
    exact q none H F ⟨rel, .refl, rfl⟩, fun S XW X es c h => by
  cases es with
  | cons e es => simp [chkCs] at h
  | nil =>
    refine ⟨fun pins s σ H Q I q => pts_nil.run pins s σ H _ I ?_⟩
    obtain ⟨W, G, B, F, en, rel, q⟩ := q
    exact q true H F ⟨rel, .refl, rfl⟩⟩
theorem O_some (x : CE) (ix : SndE T gk x) : SndO T gk (.some x) := ⟨fun S XW X e c h => by
  cases e with
  | none => simp [chkO] at h
  | some e =>
    simp only [chkO] at h
    refine ⟨fun pins s σ H Q I q => (po_some ((ix S XW X e c h).1 false)).run pins s σ H _ I ?_⟩
    obtain ⟨W, G, B, F, en, rel, q⟩ := q
    refine ⟨W, G, B, F, en, rel, seq adv_out reb_of rel q fun y e1 v H1 F1 r1 s1 o1 q => ?_⟩
    split at q
    · rename_i i hi
      exact ⟨i, intOf_opv hi o1, q (some i) H1 F1 ⟨r1, .refl, rfl⟩⟩
    · exact q.elim, fun S XW X es c h => by
  cases es with
  | nil => simp [chkCs] at h
  | cons e es =>
    cases es with
    | cons y ys => simp [chkCs] at h
    | nil =>
      simp only [chkCs, Bool.and_eq_true] at h
      exact pts_one ((ix S XW X e c h.2).2 h.1)⟩
theorem I_val (x : CE) (ix : SndE T gk x) : SndI T gk (.val x) := fun S XW X tg e c h pk => by
  simp only [chkI] at h
  exact sndI_val ((ix S XW X e c h).1 pk)
theorem I_range1 (a : CE) (ia : SndE T gk a) : SndI T gk (.range1 a) := fun S XW X tg e c h pk => by
  simp only [chkI] at h
  split at h
  · simp only [Bool.and_eq_true] at h
    obtain ⟨rfl, q1, q2⟩ := c.blt h.1
    exact sndI_range1 q1 q2 (star1 h.2) ((ia S XW X _ c h.2).1 pk)
  · cases h
theorem I_range2 (a b : CE) (ia : SndE T gk a) (ib : SndE T gk b) : SndI T gk (.range2 a b) := fun S XW X tg e c h pk => by
  simp only [chkI] at h
  split at h
  · simp only [Bool.and_eq_true] at h
    obtain ⟨⟨h1, h2⟩, h3⟩ := h
    obtain ⟨rfl, q1, q2⟩ := c.blt h1
    exact sndI_range2 q1 q2 (by rw [star_of h2, star_of h3]; rfl) (star1 h3) ((ia S XW X _ c h2).1 pk) ((ib S XW X _ c h3).1 pk)
  · cases h
theorem I_zip (a b : CE) (ia : SndE T gk a) (ib : SndE T gk b) : SndI T gk (.zip a b) := fun S XW X tg e c h pk => by
  simp only [chkI] at h
  split at h
  · simp only [Bool.and_eq_true] at h
    obtain ⟨⟨h1, h2⟩, h3⟩ := h
    obtain ⟨rfl, q1, q2⟩ := c.blt h1
    exact sndI_zip q1 q2 (star_of h2 _ X.env) (star1 h3) (by rw [star1 h3]; rfl) ((ia S XW X _ c h2).1 pk) ((ib S XW X _ c h3).1 pk)
  · cases h
theorem I_enum (a : CE) (ia : SndE T gk a) : SndI T gk (.enum a) := fun S XW X tg e c h pk => by
  simp only [chkI] at h
  split at h
  · simp only [Bool.and_eq_true] at h
    obtain ⟨rfl, q1, q2⟩ := c.blt h.1
    exact sndI_enum q1 q2 (star1 h.2) ((ia S XW X _ c h.2).1 pk)
  · cases h
mutual
theorem sndE (T : Tx) (gk : Bool) : ∀ c : CE, SndE T gk c
  | .var i => E_var i
  | .mov i => E_mov i
  | .con d => E_con d
  | .glob k => E_glob k
  | .tup es => E_tup es (sndEs T gk es)
  | .lst es => E_lst es (sndEs T gk es)
  | .bin op a b => E_bin op a b (sndE T gk a) (sndE T gk b)
  | .neg a => E_neg a (sndE T gk a)
  | .cmp op a b => E_cmp op a b (sndE T gk a) (sndE T gk b)
  | .chn o1 o2 a b c => E_chn o1 o2 a b c (sndE T gk a) (sndE T gk b) (sndE T gk c)
  | .not a => E_not a (sndE T gk a)
  | .bo an es => E_bo an es (sndEs T gk es)
  | .ite c a b => E_ite c a b (sndE T gk c) (sndE T gk a) (sndE T gk b)
  | .idx a i => E_idx a i (sndE T gk a) (sndE T gk i)
  | .slc a lo hi => E_slc a lo hi (sndE T gk a) (sndO T gk lo) (sndO T gk hi)
  | .rev a => E_rev a (sndE T gk a)
  | .bi f es => E_bi f es (sndEs T gk es)
  | .sortedR a => E_sortedR a (sndE T gk a)
  | .lstRange a => E_lstRange a (sndE T gk a)
  | .isi a t => E_isi a t (sndE T gk a)
  | .sortSet a => E_sortSet a (sndE T gk a)
  | .lenSet a => E_lenSet a (sndE T gk a)
  | .index a b => E_index a b (sndE T gk a) (sndE T gk b)
  | .dicZip a b => E_dicZip a b (sndE T gk a) (sndE T gk b)
  | .tupZip a b => E_tupZip a b (sndE T gk a) (sndE T gk b)
  | .dic0 => E_dic0
  | .call k ms es => E_call k ms es (sndEs T gk es)
  | .mut m i es => E_mut m i es (sndEs T gk es)
  | .lc own tg it c x => E_lc own tg it c x (sndI T gk it) (sndO T gk c) (sndE T gk x)
theorem sndEs (T : Tx) (gk : Bool) : ∀ cs : CEs, SndEs T gk cs
  | .nil => Es_nil
  | .cons x xs => Es_cons x xs (sndE T gk x) (sndEs T gk xs)
theorem sndO (T : Tx) (gk : Bool) : ∀ c : CEo, SndO T gk c
  | .none => O_none
  | .some x => O_some x (sndE T gk x)
theorem sndI (T : Tx) (gk : Bool) : ∀ c : IT, SndI T gk c
  | .val x => I_val x (sndE T gk x)
  | .range1 a => I_range1 a (sndE T gk a)
  | .range2 a b => I_range2 a b (sndE T gk a) (sndE T gk b)
  | .zip a b => I_zip a b (sndE T gk a) (sndE T gk b)
  | .enum a => I_enum a (sndE T gk a)
end
end
end Ev

/-! Ev, part O: statements. -/
namespace Ev
open PySem L2 RZ
section
variable (K : PySem.W.Frag) (mg : Str → Option Value) (XW : WX)
def SRes (W G : AS) (B : Nat → AS × AS) (F : Nat → AS) (H : Hp) (D : Ends) : SR → Prop
  | .no => False
  | .nx e' => ∀ σ' H' F', Rel K W G B F' H' σ' e' → Stp W F H W F' H' → D.nx σ' H'
  | .bk e' => ∀ σ' H' F', Rel K W G B F' H' σ' e' → Stp W F H W F' H' → D.bk σ' H'
  | .ct e' => ∀ σ' H' F', Rel K W G B F' H' σ' e' → Stp W F H W F' H' → D.ct σ' H'
  | .rt r e' => ∀ v σ' H' F', Out K W G B F H σ' F' H' e' v (.r r) → D.rt v H'
  | .ex x e' => ∀ cls d σ' H' F', XOut K mg W G B F H σ' F' H' e' x cls d → XW cls d σ' H'
def tS (m : En → SR) : TS := fun D σ H => ∃ W G B F e, Rel K W G B F H σ e ∧ SRes K mg XW W G B F H D (m e)
end
section
variable {K : PySem.W.Frag} {mg : Str → Option Value} {XW : WX} {W G : AS} {B : Nat → AS × AS} {F F1 : Nat → AS} {H H1 : Hp} {σ σ1 : St} {e e1 : En} {D : Ends}
theorem out_rb {F' : Nat → AS} {H' : Hp} {e' : En} {v : V} {r : R} (hw : ∀ i b, F1 i b → ¬ W b) (st : Stp W F H W F1 H1) (o : Out K W G B F1 H1 σ1 F' H' e' v (.r r)) : Out K W G B F H σ1 F' H' e' v (.r r) := by
  cases r with
  | v d => exact ⟨o.1, st.trans o.2.1, o.2.2⟩
  | o c =>
    obtain ⟨a, fp, rfl, h1, h2, h3, h4, h5⟩ := o
    refine ⟨a, fp, rfl, h1, fun b z => ⟨(h2 b z).1, ?_⟩, h3, st.trans h4, h5⟩
    by_cases q : H b = none
    · exact .inl q
    · rcases (h2 b z).2 with w | ⟨i, w⟩
      · exact absurd w (st.trk b q)
      · exact .inr (st.subM i b w q)
theorem SRes.at {r : SR} (h : SRes K mg XW W G B F H D r) (hw : ∀ i b, F1 i b → ¬ W b) (st : Stp W F H W F1 H1) : SRes K mg XW W G B F1 H1 D r := by
  cases r with
  | no => exact h
  | nx e' => exact fun σ' H' F' r s => h σ' H' F' r (st.trans s)
  | bk e' => exact fun σ' H' F' r s => h σ' H' F' r (st.trans s)
  | ct e' => exact fun σ' H' F' r s => h σ' H' F' r (st.trans s)
  | rt r e' => exact fun v σ' H' F' o => h v σ' H' F' (out_rb hw st o)
  | ex x e' => exact fun cls d σ' H' F' o => h cls d σ' H' F' ⟨o.1, st.trans o.2.1, o.2.2⟩
/-- an expression first -/
theorem seqT {α β : Type} {O1 : OT α β} {P1 : AS → Hp → St → β → α → Prop} (adv : Adv K O1 P1) {m : Rs α} {f : α → En → SR} {P : β → Hp → Prop} (r : Rel K W G B F H σ e)
    (h : SRes K mg XW W G B F H D (m.thn f))
    (k : ∀ a e1 b H1 F1, Rel K W G B F1 H1 σ e1 → Stp W F H W F1 H1 → P1 (AV W F1) H1 σ b a → SRes K mg XW W G B F1 H1 D (f a e1) → P b H1) :
    Res K mg XW (O1 W G B σ) W G B F H σ m P := by
  cases m with
  | no => exact h.elim
  | ex x e1 => exact fun cls d H' F' o => h cls d σ H' F' o
  | ok a e1 =>
    intro b H1 F1 o
    obtain ⟨r1, st, p⟩ := adv W G B σ F H e F1 H1 e1 b a r o
    exact k a e1 b H1 F1 r1 st p (SRes.at h r1.fw st)
/-- the same with the outcome as it is -/
theorem seqO {m : Rs PV} {f : PV → En → SR} {P : V → Hp → Prop} (r : Rel K W G B F H σ e)
    (h : SRes K mg XW W G B F H D (m.thn f)) (k : ∀ y e1 v H1 F1, Out K W G B F H σ F1 H1 e1 v y → SRes K mg XW W G B F H D (f y e1) → P v H1) :
    Res K mg XW (OOut K W G B σ) W G B F H σ m P := by
  cases m with
  | no => exact h.elim
  | ex x e1 => exact fun cls d H' F' o => h cls d σ H' F' o
  | ok a e1 => exact fun b H1 F1 o => k a e1 b H1 F1 o h
theorem PSimp {X : Cx} {st : Stmt} {t t' : TS} (h : PS X st t) (i : ∀ D σ H, t' D σ H → t D σ H) : PS X st t' := ⟨fun pins s σ H D I q => h.run pins s σ H D I (i D σ H q)⟩
theorem PSsimp {X : Cx} {st : List Stmt} {t t' : TS} (h : PSs X st t) (i : ∀ D σ H, t' D σ H → t D σ H) : PSs X st t' := ⟨fun pins s σ H D I q => h.run pins s σ H D I (i D σ H q)⟩
/-- a result put into a variable -/
theorem put_out {i : Nat} {r : R} {e2 : En} {v : V} (o : Out K W G B F H σ F1 H1 e1 v (.r r)) (r0 : Rel K W G B F H σ e) (hp : putR i r e1 = some e2) : ∃ F2, Rel K W G B F2 H1 (σ.set i (some v)) e2 ∧ Stp W F H W F2 H1 := by
  cases r with
  | v d =>
    obtain ⟨r1, st, p⟩ := o
    simp only [putR] at hp
    have fin : i < e1.length → e2 = e1.set i (some (.val d)) → ∃ F2, Rel K W G B F2 H1 (σ.set i (some v)) e2 ∧ Stp W F H W F2 H1 := fun hi h => ⟨F1, by subst h; exact r1.putVal p hi, st⟩
    cases hs : e1[i]? with
    | none => rw [hs] at hp; cases hp
    | some s =>
      have hi := lt_of_slot hs
      rw [hs] at hp
      cases s with
      | none => cases hp; exact fin hi rfl
      | some s =>
        cases s with
        | bor c => cases hp
        | val c => cases hp; exact fin hi rfl
        | own c => cases hp; exact fin hi rfl
  | o c =>
    obtain ⟨a, fp, rfl, h1, h2, h3, h4, h5⟩ := o
    simp only [putR] at hp
    have hw : ∀ b, fp b → ¬ W b := fun b z w => by
      rcases (h2 b z).2 with q | ⟨j, q⟩
      · exact r0.wt b w q
      · exact r0.fw j b q w
    have fin : i < e1.length → e2 = e1.set i (some (.own c)) → ∃ F2, Rel K W G B F2 H1 (σ.set i (some (.ref a))) e2 ∧ Stp W F H W F2 H1 := fun hi h => by
      subst h
      obtain ⟨r2, sub⟩ := h3.putOwn h5 h1 (fun b z => (h2 b z).1) hw hi
      refine ⟨_, r2, h4.keep, h4.trk, fun b z q => h4.sub b (sub b z) q, fun j b z q => ?_⟩
      by_cases hj : j = i
      · subst hj
        rcases (h2 b (fset_same.mp z)).2 with w | w
        · exact absurd w q
        · exact w
      · exact h4.subM j b ((fset_ne hj).mp z) q
    cases hs : e1[i]? with
    | none => rw [hs] at hp; cases hp
    | some s =>
      have hi := lt_of_slot hs
      rw [hs] at hp
      cases s with
      | none => cases hp; exact fin hi rfl
      | some s =>
        cases s with
        | bor c => cases hp
        | val c => cases hp; exact fin hi rfl
        | own c => cases hp; exact fin hi rfl
end
section
variable {X : Cx} {mg : Str → Option Value} {XW : WX} {pos : Pos} {ex : Expr} {m : En → Rs PV} {st : Stmt}
theorem sndS_expr (h : PS X st (tDrop (tE X.K mg XW m))) : PS X st (tS X.K mg XW fun e => (m e).thn fun _ e => .nx e) := by
  refine PSimp h fun D σ H q => ?_
  obtain ⟨W, G, B, F, e, rel, q⟩ := q
  exact ⟨W, G, B, F, e, rel, seqT adv_out rel q fun y e1 v H1 F1 r1 s1 o1 q => q σ H1 F1 r1 .refl⟩
theorem sndS_asg {i : Nat} (h : PS X st (tAsg (tE X.K mg XW m) (gName i))) : PS X st (tS X.K mg XW fun e => (m e).thn fun y e => match y with
    | .r y => match putR i y e with
      | some e => .nx e
      | none => .no
    | .sl _ => .no) := by
  refine PSimp h fun D σ H q => ?_
  obtain ⟨W, G, B, F, e, rel, q⟩ := q
  refine ⟨W, G, B, F, e, rel, seqO rel q fun y e1 v H1 F1 o q => ?_⟩
  cases y with
  | sl _ => exact q.elim
  | r r =>
    dsimp only at q
    split at q
    · rename_i e2 hp
      obtain ⟨F2, r2, s2⟩ := put_out o rel hp
      exact q _ H1 F2 r2 s2
    · exact q.elim
theorem sndS_asgTg {ts : Tgs} (h : PS X st (tAsg (tE X.K mg XW m) (gT X.K (.tup ts)))) : PS X st (tS X.K mg XW fun e => (m e).thn fun y e => match y with
    | .r y => match y.d with
      | .tuple ds => match putTgs ts ds e with
        | some e => .nx e
        | none => .no
      | _ => .no
    | .sl _ => .no) := by
  refine PSimp h fun D σ H q => ?_
  obtain ⟨W, G, B, F, e, rel, q⟩ := q
  refine ⟨W, G, B, F, e, rel, seqT adv_out rel q fun y e1 v H1 F1 r1 s1 o1 q => ?_⟩
  cases y with
  | sl _ => exact q.elim
  | r r =>
    dsimp only at q
    split at q
    · rename_i ds hd
      split at q
      · rename_i e2 hp
        have o1 : DpA X.K (AV W F1) H1 v r.d := o1
        rw [hd] at o1
        exact ⟨W, G, B, F1, e1, .tuple ds, e2, r1, o1, by simpa [putTg] using hp, fun σ' r' l n => q σ' H1 F1 r' .refl⟩
      · exact q.elim
    · exact q.elim
theorem sndS_ret (h : PE X ex (tE X.K mg XW m)) : PS X (.Return (some ex) pos) (tS X.K mg XW fun e => (m e).thn fun y e => match y with
    | .r y => .rt y e
    | .sl _ => .no) := by
  refine PSimp (ps_ret h) fun D σ H q => ?_
  obtain ⟨W, G, B, F, e, rel, q⟩ := q
  refine ⟨W, G, B, F, e, rel, seqO rel q fun y e1 v H1 F1 o q => ?_⟩
  cases y with
  | sl _ => exact q.elim
  | r r => exact q v σ H1 F1 o
theorem sndS_retN : PS X (.Return none pos) (tS X.K mg XW fun e => .rt (.v .none) e) := by
  refine PSimp ps_retN fun D σ H q => ?_
  obtain ⟨W, G, B, F, e, rel, q⟩ := q
  exact q .non σ H F ⟨rel, .refl, .non⟩
theorem sndS_nx (h : PS X st tNext) : PS X st (tS X.K mg XW fun e => .nx e) := by
  refine PSimp h fun D σ H q => ?_
  obtain ⟨W, G, B, F, e, rel, q⟩ := q
  exact q σ H F rel .refl
theorem sndS_brk : PS X (.Break pos) (tS X.K mg XW fun e => .bk e) := by
  refine PSimp ps_break fun D σ H q => ?_
  obtain ⟨W, G, B, F, e, rel, q⟩ := q
  exact q σ H F rel .refl
theorem sndS_cnt : PS X (.Continue pos) (tS X.K mg XW fun e => .ct e) := by
  refine PSimp ps_continue fun D σ H q => ?_
  obtain ⟨W, G, B, F, e, rel, q⟩ := q
  exact q σ H F rel .refl
theorem sndS_if {a b : List Stmt} {ma mb : En → SR} (hc : PT X ex (tTst X.K mg XW (okB m))) (ha : PSs X a (tS X.K mg XW ma)) (hb : PSs X b (tS X.K mg XW mb)) :
    PS X (.If ex a b pos) (tS X.K mg XW fun e => (testB (m e) fun k e => .ok k e).thn fun k e => match k with
      | true => ma e
      | false => mb e) := by
  refine PSimp (ps_if hc ha hb) fun D σ H q => ?_
  obtain ⟨W, G, B, F, e, rel, q⟩ := q
  refine ⟨W, G, B, F, e, rel, seqT (m := okB m e) adv_of rel q fun k e1 b' H1 F1 r1 s1 o1 q => ?_⟩
  have o1 : b' = k := o1
  subst o1
  cases b' with
  | true => exact iteT ⟨W, G, B, F1, e1, r1, q⟩
  | false => exact iteF ⟨W, G, B, F1, e1, r1, q⟩
theorem sndSs_nil : PSs X [] (tS X.K mg XW fun e => .nx e) := by
  refine PSsimp pss_nil fun D σ H q => ?_
  obtain ⟨W, G, B, F, e, rel, q⟩ := q
  exact q σ H F rel .refl
theorem sndSs_cons {rest : List Stmt} {ms mr : En → SR} (h : PS X st (tS X.K mg XW ms)) (hr : PSs X rest (tS X.K mg XW mr)) : PSs X (st :: rest) (tS X.K mg XW fun e => match ms e with
    | .nx e => mr e
    | .rt r e => .rt r e
    | .bk e => .bk e
    | .ct e => .ct e
    | .ex x e => .ex x e
    | .no => .no) := by
  refine PSsimp (pss_cons h hr) fun D σ H q => ?_
  obtain ⟨W, G, B, F, e, rel, q⟩ := q
  refine ⟨W, G, B, F, e, rel, ?_⟩
  dsimp only at q
  cases hm : ms e with
  | no => rw [hm] at q; exact q
  | nx e1 =>
    rw [hm] at q
    exact fun σ' H' F' r' s' => ⟨W, G, B, F', e1, r', SRes.at q r'.fw s'⟩
  | bk e1 => rw [hm] at q; exact q
  | ct e1 => rw [hm] at q; exact q
  | rt r e1 => rw [hm] at q; exact q
  | ex x e1 => rw [hm] at q; exact q
theorem allR {K : PySem.W.Frag} {A : AS} {H : Hp} {σ : St} {ps : List PV} {vs : List V} (o : OPs K A H σ vs ps) : ∀ {ds : List D} {e : En}, ps.all PV.isR = true → gets ps e = some ds → DpAs K A H vs ds := by
  induction o with
  | nil => exact fun {ds e} _ g => by cases g; exact .nil
  | @cons v p vs ps o os ih =>
    intro ds e h g
    rw [List.all_cons, Bool.and_eq_true] at h
    cases p with
    | sl i => exact absurd h.1 (by simp [PV.isR])
    | r x =>
      unfold gets at g
      split at g
      · rename_i d ds' h3 h4
        cases g
        simp only [PV.get, Option.some.injEq] at h3
        subst h3
        exact .cons o (ih h.2 h4)
      · cases g
theorem pk_of {K : PySem.W.Frag} {A : AS} {H : Hp} : ∀ {vs : List V} {ds : List D}, DpAs K A H vs ds → Paired (PK K A H) vs ds
  | _, _, .nil => .nil
  | _, _, .cons h t => .cons (.inl h) (pk_of t)
theorem sndS_for {tg iter : Expr} {t : Tg} {body : List Stmt} {mi : En → Rs (List PV × List D)} {mb : En → SR} (hp : PassesOwn (model X.prog X.w) X.A X.env X.xe) (hc : X.calm = true) (hi : PI X tg iter (tR X.K mg (OIt X.K) XW mi)) (hg : PG X tg (gT X.K t)) (hb : PSs X body (tS X.K mg XW mb))
    (hs : ∀ x, foldedSetIterable iter X.env x = pure x) : PS X (.For tg iter body [] pos) (tS X.K mg XW fun e => (mi e).thn fun p e => match p.1.all PV.isR with
      | false => .no
      | true => forL (fun d e => match putTg t d e with
        | none => .no
        | some e => mb e) p.2 e) := by
  refine PSimp (ps_for hp hc hi hg hb hs) fun D σ H q => ?_
  obtain ⟨W, G, B, F, e, rel, q⟩ := q
  refine ⟨W, G, B, F, e, rel, ?_⟩
  dsimp only at q
  cases hm : mi e with
  | no => rw [hm] at q; exact q.elim
  | ex x e1 => rw [hm] at q; exact fun cls d H' F' o => q cls d σ H' F' o
  | ok p e1 =>
    rw [hm] at q
    intro J H1 F1 o
    obtain ⟨r1, s1, vs, ds0, o1, g1, ok⟩ := o
    dsimp only [Rs.thn] at q
    cases hr : p.1.all PV.isR with
    | false => rw [hr] at q; exact q.elim
    | true =>
      rw [hr] at q
      have q := SRes.at q r1.fw s1
      have src := allR o1 hr g1
      generalize hit : p.2 = items at q ok
      refine ⟨fun i m σ H => m = items.length - i ∧ i ≤ items.length ∧ ∃ F' e', Rel X.K W G B F' H σ e' ∧ Stp W F1 H1 W F' H ∧ SRes X.K mg XW W G B F' H D (forL (fun d e => match putTg t d e with
        | none => .no
        | some e => mb e) (items.drop i) e'), ⟨_, rfl, Nat.zero_le _, F1, e1, r1, .refl, q⟩, ?_⟩
      rintro i m σ2 H2 ⟨rfl, hi, F2, e2, r2, s2, q2⟩
      obtain ⟨k1, k2, k3⟩ := ok (AV W F2) H2 r2.at (pk_of (src.step s2.step))
      by_cases hlt : i < items.length
      · refine .inr ⟨k1 i hlt, fun σ' H' => (i + 1 ≤ items.length ∧ ∃ F' e', Rel X.K W G B F' H' σ' e' ∧ Stp W F1 H1 W F' H' ∧ SRes X.K mg XW W G B F' H' D (forL (fun d e => match putTg t d e with
          | none => .no
          | some e => mb e) (items.drop (i + 1)) e')), fun σ' H' n => ⟨items.length - (i + 1), by omega, rfl, n⟩, fun x H' y => ?_⟩
        obtain ⟨same, d, hd, pd⟩ := k3 i x H' hlt y
        have r3 := r2.ext (W' := W) same fun b z => .inl z
        have s3 : Stp W F2 H2 W F2 H' := stp_of same (fun _ z _ => z) fun i _ z _ => ⟨i, z⟩
        have hdr : items.drop i = d :: items.drop (i + 1) := by
          rw [List.drop_eq_getElem_cons hlt]
          rw [List.getElem?_eq_getElem hlt] at hd
          cases hd
          rfl
        rw [hdr] at q2
        unfold forL at q2
        cases hpt : putTg t d e2 with
        | none => simp only [hpt] at q2; exact q2.elim
        | some e3 =>
          simp only [hpt] at q2
          refine ⟨W, G, B, F2, e2, d, e3, r3, pd, hpt, fun σ3 r4 _ _ => ⟨W, G, B, F2, e3, r4, ?_⟩⟩
          have back : ∀ {F4 : Nat → AS} {H4 : Hp}, Stp W F2 H' W F4 H4 → Stp W F1 H1 W F4 H4 := fun z => s2.trans (s3.trans z)
          cases hb' : mb e3 with
          | no => rw [hb'] at q2; exact q2
          | nx e4 =>
            rw [hb'] at q2
            exact fun σ5 H5 F5 r5 s5 => ⟨hlt, F5, e4, r5, back s5, SRes.at q2 r5.fw (s3.trans s5)⟩
          | ct e4 =>
            rw [hb'] at q2
            exact fun σ5 H5 F5 r5 s5 => ⟨hlt, F5, e4, r5, back s5, SRes.at q2 r5.fw (s3.trans s5)⟩
          | bk e4 =>
            rw [hb'] at q2
            exact fun σ5 H5 F5 r5 s5 => q2 σ5 H5 F5 r5 (s3.trans s5)
          | rt r e4 =>
            rw [hb'] at q2
            exact fun v σ5 H5 F5 o5 => q2 v σ5 H5 F5 (out_rb r3.fw s3 o5)
          | ex x e4 =>
            rw [hb'] at q2
            exact fun cls d σ5 H5 F5 o5 => q2 cls d σ5 H5 F5 ⟨o5.1, s3.trans o5.2.1, o5.2.2⟩
      · have hi' : i = items.length := by omega
        subst hi'
        refine .inl ⟨k2, ?_⟩
        rw [List.drop_length] at q2
        exact q2 σ2 H2 F2 r2 .refl
theorem sndS_while {body : List Stmt} {mb : En → SR} {fu : Nat} (hp : PassesOwn (model X.prog X.w) X.A X.env X.xe) (hc : PT X ex (tTst X.K mg XW (okB m))) (hb : PSs X body (tS X.K mg XW mb)) :
    PS X (.While ex body [] pos) (tS X.K mg XW fun e => whlL m mb fu e) := by
  refine PSimp (ps_while hp hc hb) fun D σ H q => ?_
  obtain ⟨W, G, B, F, e, rel, q⟩ := q
  refine ⟨fun n σ H => ∃ F' e', Rel X.K W G B F' H σ e' ∧ SRes X.K mg XW W G B F' H D (whlL m mb n e'), ⟨fu, F, e, rel, q⟩, ?_⟩
  rintro n σ2 H2 ⟨F2, e2, r2, q2⟩
  cases n with
  | zero => exact q2.elim
  | succ n =>
    unfold whlL at q2
    refine ⟨W, G, B, F2, e2, r2, seqT (m := okB m e2) adv_of r2 q2 fun k e3 b' H3 F3 r3 s3 o3 q3 => ?_⟩
    have o3 : b' = k := o3
    subst o3
    cases b' with
    | false => exact iteF (q3 σ2 H3 F3 r3 .refl)
    | true =>
      refine iteT ⟨fun σ' H' => ∃ F' e', Rel X.K W G B F' H' σ' e' ∧ SRes X.K mg XW W G B F' H' D (whlL m mb n e'), fun σ' H' z => ⟨n, Nat.lt_succ_self n, z⟩, W, G, B, F3, e3, r3, ?_⟩
      dsimp only at q3
      cases hb' : mb e3 with
      | no => rw [hb'] at q3; exact q3
      | nx e4 =>
        rw [hb'] at q3
        exact fun σ5 H5 F5 r5 s5 => ⟨F5, e4, r5, SRes.at q3 r5.fw s5⟩
      | ct e4 =>
        rw [hb'] at q3
        exact fun σ5 H5 F5 r5 s5 => ⟨F5, e4, r5, SRes.at q3 r5.fw s5⟩
      | bk e4 => rw [hb'] at q3; exact q3
      | rt r e4 => rw [hb'] at q3; exact q3
      | ex x e4 => rw [hb'] at q3; exact q3
theorem sndS_raise {x : Str} {C : Addr} {pc : Expr} (hc : X.calm = true) (tk : Takes X XW) (hC : mg x = some (.ref C)) (h : PMk X pc (fun _ H Q => Q (.ref C) none H)) : PS X (.Raise (some pc) none pos) (tS X.K mg XW fun e => .ex ⟨x, none⟩ e) := by
  refine PSimp (ps_raise hc tk h) fun D σ H q => ?_
  obtain ⟨W, G, B, F, e, rel, q⟩ := q
  exact q _ _ σ H F ⟨rel, .refl, C, hC, rfl, rfl⟩
end
end Ev

/-! Ev, part P: the checker for statements, soundness, defs. -/
namespace Ev
open PySem L2 RZ
def notComp : Expr → Bool
  | .ListComp _ _ _ _ => false
  | .SetComp _ _ _ _ => false
  | .DictComp _ _ _ _ _ => false
  | _ => true
def notTup : Expr → Bool
  | .Tuple _ _ _ => false
  | _ => true
def noRest : List Stmt → Bool
  | [] => true
  | _ => false
def chkST (S : SC) : ST → Expr → Bool
  | .tg t, e => chkTg S t e
  | .ix i k, e => match e with
    | .Subscript (.Name x _) (.Constant (.int j) _ _) _ => chkV S i x && decide (k = j)
    | _ => false
def chkSTs (S : SC) : List ST → List Expr → Bool
  | [], es => es.isEmpty
  | t :: ts, es => match es with
    | e :: es => chkST S t e && chkSTs S ts es
    | [] => false
/-- names on one line, each of its own -/
def parT (S : SC) : List Nat → List Expr → Bool
  | [i, j], [.Name x px, .Name y py] => decide (S.N[i]? = some x) && decide (S.N[j]? = some y) && lkB S.sc x && lkB S.sc y && decide (x ≠ y) && (px.line == px.line) && (py.line == px.line)
  | [i, j, l], [.Name x px, .Name y py, .Name z pz] => decide (S.N[i]? = some x) && decide (S.N[j]? = some y) && decide (S.N[l]? = some z) && lkB S.sc x && lkB S.sc y && lkB S.sc z && decide (x ≠ y) && decide (x ≠ z) && decide (y ≠ z) &&
      (px.line == px.line) && (py.line == px.line) && (pz.line == px.line)
  | _, _ => false
where
  lkB (sc : Scope) (x : Str) : Bool := match sc.names.lookup x with
    | some .local => true
    | _ => false
def parOk (n : Nat) (vs : List Expr) : Bool := decide (vs.length = n) && !(vs.any fun | .Starred .. => true | _ => false) && !vs.all (foldedForSure 8) && !vs.all (constantsAlone 8)
mutual
def chkS (T : Tx) (xs : List Str) (S : SC) : CS → Stmt → Bool
  | .expr c, st => match st with
    | .Expr e _ => notComp e && chkE T S c e
    | _ => false
  | .asg i c, st => match st with
    | .Assign [.Name x _] e _ => decide (S.N[i]? = some x) && locB S.raw x && chkE T S c e
    | _ => false
  | .asgF i c, st => match st with
    | .Assign [.Name x _] e _ => decide (S.N[i]? = some x) && locB S.raw x && chkE T S c e
    | _ => false
  | .par is c, st => match st with
    | .Assign [.Tuple ts _ _] (.Tuple es _ _) _ => parT S is ts && parOk ts.length es && chkEs T S c es
    | _ => false
  | .asgTg ts c, st => match st with
    | .Assign [.Tuple es _ _] e _ => chkTgs S ts es && notTup e && chkE T S c e
    | _ => false
  | .asgT ts c, st => match st with
    | .Assign [.Tuple es _ _] e _ => chkSTs S ts es && notTup e && chkE T S c e
    | _ => false
  | .set i k c, st => match st with
    | .Assign [.Subscript (.Name x _) y _] e _ => chkV S i x && notComp e && chkE T S k y && chkE T S c e
    | _ => false
  | .setD i k c, st => match st with
    | .Assign [.Subscript (.Name x _) y _] e _ => chkV S i x && notComp e && chkE T S k y && chkE T S c e
    | _ => false
  | .iff c a b, st => match st with
    | .If e p q _ => tstOk e && chkE T S c e && chkSs T xs S a p && chkSs T xs S b q
    | _ => false
  | .forr t it b, st => match st with
    | .For tg iter body [] _ => !isSet iter && chkI T S it tg iter && chkTg S t tg && chkSs T xs S b body
    | _ => false
  | .whl c b, st => match st with
    | .While e body [] _ => tstOk e && chkE T S c e && chkSs T xs S b body
    | _ => false
  | .ret c, st => match st with
    | .Return (some e) _ => chkE T S c e
    | _ => false
  | .retN, st => match st with
    | .Return none _ => true
    | _ => false
  | .rais x, st => match st with
    | .Raise (some (.Call (.Name y _) [.Constant (.str _) _ _] [] _)) none _ => decide (y = x) && decide (x ∈ xs) && glB S.sc x && dbg x
    | _ => false
  | .pas, st => match st with
    | .Pass _ => true
    | .Expr (.Constant (.str _) _ _) _ => true
    | _ => false
  | .brk, st => match st with
    | .Break _ => true
    | _ => false
  | .cnt, st => match st with
    | .Continue _ => true
    | _ => false
def chkSs (T : Tx) (xs : List Str) (S : SC) : CSs → List Stmt → Bool
  | .nil, st => match st with
    | [] => true
    | _ => false
  | .cons s ss, st => match st with
    | st :: rest => chkS T xs S s st && chkSs T xs S ss rest
    | [] => false
end
structure SxOk (T : Tx) (xs : List Str) (gk : Bool) (S : SC) (XW : WX) (X : Cx) : Prop extends CxOk T gk S XW X where
  po : PassesOwn (model X.prog X.w) X.A X.env X.xe
  fk : X.env.scope.kind = .function
  xc : ∀ x ∈ xs, ∃ C, X.mg x = some (.ref C) ∧ (Gl X x → (x == ("__debug__" : Str)) = false → ∀ p m j p2 pos, PMk X (.Call (.Name x p) [.Constant (.str m) j p2] [] pos) (fun _ H Q => Q (.ref C) none H))
section
variable {T : Tx} {xs : List Str} {gk : Bool}
def SndS (T : Tx) (xs : List Str) (gk : Bool) (fu : Nat) (c : CS) : Prop := ∀ (S : SC) (XW : WX) (X : Cx) (st : Stmt), SxOk T xs gk S XW X → chkS T xs S c st = true → PS X st (tS X.K X.mg XW fun e => evS T.cs T.FT fu c e)
def SndSs (T : Tx) (xs : List Str) (gk : Bool) (fu : Nat) (c : CSs) : Prop := ∀ (S : SC) (XW : WX) (X : Cx) (st : List Stmt), SxOk T xs gk S XW X → chkSs T xs S c st = true → PSs X st (tS X.K X.mg XW fun e => evSs T.cs T.FT fu c e)
theorem sw_no {e : Expr} {t : Option Expr} {l : Nat} {env : PySem.Env} (h : notComp e = true) : swapsWith e t l env = pure false := by
  cases e <;> first | rfl | (simp [notComp] at h)
theorem sw_tup {e : Expr} {es : List Expr} {k : Nat} {p : Pos} {l : Nat} {env : PySem.Env} : swapsWithSole [.Tuple es k p] e l env = pure false := by
  cases e <;> rfl
theorem sw_sub {e a b : Expr} {p : Pos} {l : Nat} {env : PySem.Env} : swapsWithSole [.Subscript a b p] e l env = pure false := by
  cases e <;> rfl
theorem ss_sub {e a b : Expr} {p : Pos} {env : PySem.Env} : swappedStores [.Subscript a b p] e env = pure none := by
  cases e <;> rfl
theorem ss_tup {e : Expr} {es : List Expr} {k : Nat} {p : Pos} {env : PySem.Env} (h : notTup e = true) : swappedStores [.Tuple es k p] e env = pure none := by
  cases e <;> first | rfl | (simp [notTup] at h)
theorem sw_or {elt : Expr} {gs : List Comprehension} {scope : Scope} {pos py : Pos} {y : Str} {l : Nat} {env : PySem.Env} (hk : env.scope.kind = .function) :
    (env.scope.names.lookup y = some .local ∧ swapsWith (.ListComp elt gs scope pos) (some (.Name y py)) l env = pure true) ∨ swapsWith (.ListComp elt gs scope pos) (some (.Name y py)) l env = pure false := by
  have hb : env.blockKind = .function := by unfold PySem.Env.blockKind; rw [hk]; rfl
  by_cases ky : env.kindOf y = some .local
  · cases hl : (py.line == pos.line) with
    | false =>
      refine .inr ?_
      unfold swapsWith
      simp only [hb, ky, Expr.pos, hl]
      rfl
    | true =>
      cases ha : (scope.names.any fun (n, k) => n == y && (k == .local || k == .cell)) with
      | false => exact .inl ⟨ky, sw_true hk ky hl ha⟩
      | true =>
        refine .inr ?_
        unfold swapsWith
        simp only [hb, ky, ha, Expr.pos, hl]
        rfl
  · refine .inr ?_
    have : (env.kindOf y == some .local) = false := by
      cases h : env.kindOf y with
      | none => rfl
      | some k => cases k <;> first | rfl | exact absurd h ky
    unfold swapsWith
    simp only [hb, this]
    rfl
variable {fu : Nat}
theorem S_expr (c : CE) : SndS T xs gk fu (.expr c) := fun S XW X st k h => by
  simp only [chkS] at h
  split at h
  · simp only [Bool.and_eq_true] at h
    exact sndS_expr (ps_expr ((sndE T gk c S XW X _ k.toCxOk h.2).1 false) (sw_no h.1))
  · cases h
theorem S_asg (i : Nat) (c : CE) : SndS T xs gk fu (.asg i c) := fun S XW X st k h => by
  simp only [chkS] at h
  split at h
  · rename_i x px e pos
    simp only [Bool.and_eq_true, decide_eq_true_eq] at h
    obtain ⟨⟨h1, h2⟩, h3⟩ := h
    obtain ⟨q1, q2⟩ := k.loc _ h2
    have hN : X.N.Nodup := by rw [k.hN]; exact k.nd
    have hi : X.N[i]? = some x := by rw [k.hN]; exact h1
    have he := (sndE T gk c S XW X _ k.toCxOk h3).1 false
    have plain : swapsWith e (some (.Name x px)) pos.line X.env = pure false → PS X (.Assign [.Name x px] e pos) (tS X.K X.mg XW fun e => evS T.cs T.FT fu (.asg i c) e) := fun hs =>
      sndS_asg (ps_set hN hi q1 he hs q2)
    cases hc : notComp e with
    | true => exact plain (sw_no hc)
    | false =>
      cases c with
      | lc own tg it co x2 =>
        simp only [chkE] at h3
        split at h3
        · rename_i elt t iter ifs scope p2
          rcases sw_or (elt := elt) (gs := [⟨t, iter, ifs, 0⟩]) (scope := scope) (pos := p2) (py := px) (y := x) (l := pos.line) k.fk with ⟨hyl, hsw⟩ | hsw
          · simp only [Bool.and_eq_true, decide_eq_true_eq, List.all_eq_true, Bool.not_eq_true'] at h3
            obtain ⟨⟨⟨⟨⟨⟨⟨h1, h2⟩, h3⟩, h4⟩, h5⟩, h6⟩, h7⟩, h8⟩ := h3
            have hb : BlkOk X.N X.env.scope scope (ownNames S.N own) := by
              rw [k.hN, k.hs]
              exact blkOk_by h1
            have q := ps_setLc (te := tE X.K X.mg XWF fun en => evM T.cs T.FT x2 false en) (tt := tTst X.K X.mg XWF fun en => evC T.cs T.FT co en) (g := gT X.K tg) k.calm hN hi hyl hsw (sndI T gk it S XW X t iter k.toCxOk h5 true) hb
              (fun s H C cl fp => tg_snd (k.toCxOk.blk s H scope C cl fp) h6) (fun s H C cl fp => (sndO T gk co).2 _ _ _ _ (k.toCxOk.blk s H scope C cl fp) h7) (fun s H C cl fp => (sndE T gk x2 _ _ _ _ (k.toCxOk.blk s H scope C cl fp) h8).1 false)
              (fun x => by
                unfold foldedSetIterable
                cases iter <;> first | rfl | (simp [isSet] at h4))
            rw [h2] at q
            refine sndS_asg (m := fun e => evM T.cs T.FT (.lc own tg it co x2) false e) (PSimp q fun D σ H z => ?_)
            have z : tE X.K X.mg XW (lcM own tg (fun en => evI T.cs T.FT true it en) (fun en => evC T.cs T.FT co en) fun en => evM T.cs T.FT x2 false en) σ H (fun x H1 => gName i x σ H1 D.nx) := z
            exact lc_read (fun j hj => h3 j hj) z
          · exact plain hsw
        · cases h3
      | _ => cases e <;> first | (simp [notComp] at hc; done) | (simp [chkE] at h3)
  · cases h
theorem Rd_c {c : Cel} : R.d (.o c) = c.d := rfl
theorem S_asgF (i : Nat) (c : CE) : SndS T xs gk fu (.asgF i c) := fun S XW X st k h => by
  have h' : chkS T xs S (.asg i c) st = true := by
    simp only [chkS] at h ⊢
    exact h
  refine PSimp (S_asg (fu := fu) i c S XW X st k h') fun D σ H q => ?_
  obtain ⟨W, G, B, F, e, rel, q⟩ := q
  refine ⟨W, G, B, F, e, rel, ?_⟩
  simp only [evS] at q ⊢
  cases hm : evM T.cs T.FT c false e with
  | no => rw [hm] at q; exact q
  | ex x e1 => rw [hm] at q; exact q
  | ok y e1 =>
    rw [hm] at q
    cases y with
    | sl j => exact q
    | r y =>
      cases y with
      | v d => exact q
      | o cl =>
        simp only [Rs.thn_ok, putR, Rd_c] at q ⊢
        cases hs : e1[i]? with
        | none => rw [hs] at q; exact q
        | some s =>
          have hi := lt_of_slot hs
          have key : (∀ σ' H' F', Rel X.K W G B F' H' σ' (e1.set i (some (.val cl.d))) → Stp W F H W F' H' → D.nx σ' H') → ∀ σ' H' F', Rel X.K W G B F' H' σ' (e1.set i (some (.own cl))) → Stp W F H W F' H' → D.nx σ' H' := fun z σ' H' F' r s => by
            obtain ⟨a, _, _, r2⟩ := r.freeze (i := i) (c := cl) (List.getElem?_set_self hi)
            rw [List.set_set] at r2
            exact z σ' H' _ r2 ⟨s.keep, s.trk, fun b z q => s.sub b (z.elim .inl fun ⟨j, z⟩ => .inr ⟨j, fset_sub z⟩) q, fun j b z q => s.subM j b (fset_sub z) q⟩
          rw [hs] at q
          cases s with
          | none => exact key q
          | some s =>
            cases s with
            | bor c' => exact q
            | val d => exact key q
            | own c' => exact key q
theorem S_asgTg (ts : Tgs) (c : CE) : SndS T xs gk fu (.asgTg ts c) := fun S XW X st k h => by
  simp only [chkS] at h
  split at h
  · simp only [Bool.and_eq_true] at h
    obtain ⟨⟨h1, h2⟩, h3⟩ := h
    exact sndS_asgTg (ps_asg ((sndE T gk c S XW X _ k.toCxOk h3).1 false) (tg_snd (t := .tup ts) k.toCxOk (by simpa [chkTg] using h1)) sw_tup (ss_tup h2) rfl)
  · cases h
def gST (K : PySem.W.Frag) (t : ST) : TG := fun v σ H Q => ∃ W G B F e d e', Rel K W G B F H σ e ∧ DpA K (AV W F) H v d ∧ putST t d e = some e' ∧
  ∀ σ' H' F', Rel K W G B F' H' σ' e' → Stp W F H W F' H' → Q σ' H'
def gSTs (K : PySem.W.Frag) (ts : List ST) : TGs := fun vs σ H Q => ∃ W G B F e ds e', Rel K W G B F H σ e ∧ DpAs K (AV W F) H vs ds ∧ putSTs ts ds e = some e' ∧
  ∀ σ' H' F', Rel K W G B F' H' σ' e' → Stp W F H W F' H' → Q σ' H'
/-- a store into a list's place -/
theorem setIx_to {K : PySem.W.Frag} {W G : AS} {B : Nat → AS × AS} {F : Nat → AS} {H : Hp} {σ : St} {e e3 : En} {i : Nat} {z d : PyData} {w v : V} {Q : Hp → Prop} (r2 : Rel K W G B F H σ e) (oz : DpA K (AV W F) H w z) (o1 : DpA K (AV W F) H v d) (hp : setIx i z d e = some e3)
    (q : ∀ H', Rel K W G B F H' σ e3 → Stp W F H W F H' → Q H') : ∃ a, σ[i]? = some (some (.ref a)) ∧ rSetL (.ref a) w v H Q := by
  have fin : ∀ (cs : List PyData) (s : Slot) (mk : Cel → Slot) (kk : Int) (j : Nat), z = .int kk → ixN cs.length kk = some j → e[i]? = some (some s) → s = mk (.lst cs) → (∀ c', (∃ c, s = .own c ∧ mk c' = .own c') ∨ ∃ c, s = .bor c ∧ mk c' = .bor c') →
      (∃ b, σ[i]? = some (some (.ref b)) ∧ CelAt K (AV W F) H b (.lst cs) ∧ F i b) → e3 = e.set i (some (mk (.lst (cs.set j d)))) → ∃ a, σ[i]? = some (some (.ref a)) ∧ rSetL (.ref a) w v H Q := fun cs s mk kk j hz hj hs hm hk ⟨a, ha, ⟨ys, y2, y3⟩, y4⟩ he3 => by
    subst hz
    cases oz
    have mu : Mut (H a) := by rw [y2]; trivial
    have trk : Step (AV W F) H (AV W F) (upd H a (.lst (ys.set j v))) := ⟨fun b u z n => by
      rw [upd_ne fun w => n (by subst w; exact .inr ⟨i, y4⟩)]
      exact z, fun b z => by
      by_cases w : b = a
      · subst w; rw [upd_same]; simp
      · rw [upd_ne w]; exact z, fun b z _ => z⟩
    obtain ⟨r3, s3⟩ := r2.write (o := .lst (ys.set j v)) y4 mu (.lst (cs.set j d)) (s' := mk (.lst (cs.set j d))) ⟨s, hs, hk _⟩ ha ⟨_, upd_same, (DpAs.set o1 j y3).step trk⟩
    refine ⟨a, ha, a, ys, kk, j, rfl, rfl, y2, by rw [y3.length]; exact hj, ?_⟩
    subst he3
    exact q _ r3 s3
  unfold setIx at hp
  split at hp
  · rename_i cs kk hs
    obtain ⟨j, h5, h6⟩ := Option.map_eq_some_iff.mp hp
    obtain ⟨b, y1, y2, y3, _⟩ := slot_own r2 hs
    exact fin cs _ Slot.own kk j rfl h5 hs rfl (fun c' => .inl ⟨_, rfl, rfl⟩) ⟨b, y1, y2, y3⟩ h6.symm
  · rename_i cs kk hs
    obtain ⟨j, h5, h6⟩ := Option.map_eq_some_iff.mp hp
    obtain ⟨b, y1, y2, y3, _⟩ := slot_bor r2 hs
    exact fin cs _ Slot.bor kk j rfl h5 hs rfl (fun c' => .inr ⟨_, rfl, rfl⟩) ⟨b, y1, y2, y3⟩ h6.symm
  · cases hp
theorem st_snd {S : SC} {XW : WX} {X : Cx} (c : CxOk T gk S XW X) {t : ST} {e : Expr} (h : chkST S t e = true) : PG X e (gST X.K t) := by
  cases t with
  | tg t =>
    refine PGimp (tg_snd c h) fun v σ H Q q => ?_
    obtain ⟨W, G, B, F, e, d, e', rel, p, hp, q⟩ := q
    exact ⟨W, G, B, F, e, d, e', rel, p, hp, fun σ' r _ _ => q σ' H F r .refl⟩
  | ix i k =>
    simp only [chkST] at h
    split at h
    · simp only [Bool.and_eq_true, decide_eq_true_eq] at h
      obtain ⟨h1, rfl⟩ := h
      refine PGimp (pg_sub (c.var h1) pe_int set_list) fun v σ H Q q => ?_
      obtain ⟨W, G, B, F, e, d, e', rel, p, hp, q⟩ := q
      obtain ⟨a, h2, h3⟩ := setIx_to (Q := fun H' => Q σ H') rel (.int _) p hp fun H' r s => q σ H' F r s
      exact ⟨_, h2, h3⟩
    · cases h
theorem assign_st {t : ST} {e : Expr} {S : SC} (h : chkST S t e = true) (es : List Expr) (env : PySem.Env) : assignEach (e :: es) env = (false, assign e env) :: assignEach es env := by
  cases t with
  | tg t => exact assign_tg h es env
  | ix i k => cases e <;> first | rfl | (simp [chkST] at h)
theorem chkSTs_env {S : SC} : ∀ {ts : List ST} {es : List Expr}, chkSTs S ts es = true → ∀ env : PySem.Env, (assignEach es env).length = ts.length ∧ ∀ p ∈ assignEach es env, p.1 = false
  | [], [], _, env => ⟨rfl, fun p hp => by simp [assignEach] at hp⟩
  | [], e :: es, h, _ => by simp [chkSTs] at h
  | t :: ts, [], h, _ => by simp [chkSTs] at h
  | t :: ts, e :: es, h, env => by
    simp only [chkSTs, Bool.and_eq_true] at h
    obtain ⟨q1, q2⟩ := chkSTs_env h.2 env
    rw [assign_st h.1 es env]
    refine ⟨by simp [q1], fun p hp => ?_⟩
    rcases List.mem_cons.mp hp with e | hp
    · subst e; rfl
    · exact q2 p hp
theorem putSTs_len : ∀ {ts : List ST} {ds : List PyData} {e e' : En}, putSTs ts ds e = some e' → ds.length = ts.length
  | [], [], _, _, _ => rfl
  | [], _ :: _, _, _, h => by simp [putSTs] at h
  | t :: ts, [], _, _, h => by simp [putSTs] at h
  | t :: ts, d :: ds, e, e', h => by
    unfold putSTs at h
    split at h
    · rw [List.length_cons, putSTs_len h]; rfl
    · cases h
theorem sts_snd {S : SC} {XW : WX} {X : Cx} (c : CxOk T gk S XW X) : ∀ {ts : List ST} {es : List Expr}, chkSTs S ts es = true → PGs X es (gSTs X.K ts)
  | [], [], _ => PGsimp pgs_nil fun vs σ H Q q => by
    obtain ⟨W, G, B, F, e, ds, e', rel, p, hp, q⟩ := q
    cases ds with
    | nil =>
      cases p
      cases hp
      exact ⟨rfl, q σ H F rel .refl⟩
    | cons d ds => simp [putSTs] at hp
  | [], e :: es, h => by simp [chkSTs] at h
  | t :: ts, [], h => by simp [chkSTs] at h
  | t :: ts, e :: es, h => by
    simp only [chkSTs, Bool.and_eq_true] at h
    refine PGsimp (pgs_cons (st_snd c h.1) (sts_snd c h.2) (by rw [assign_st h.1 es X.env]; rfl)) fun vs σ H Q q => ?_
    obtain ⟨W, G, B, F, e, ds, e', rel, p, hp, q⟩ := q
    cases ds with
    | nil => simp [putSTs] at hp
    | cons d ds =>
      cases p with
      | cons p ps =>
        unfold putSTs at hp
        split at hp
        · rename_i e1 h1
          refine ⟨_, _, rfl, W, G, B, F, e, d, e1, rel, p, h1, fun σ1 H1 F1 r1 s1 => ?_⟩
          exact ⟨W, G, B, F1, e1, ds, e', r1, ps.step s1.step, hp, fun σ2 H2 F2 r2 s2 => q σ2 H2 F2 r2 (s1.trans s2)⟩
        · cases hp
theorem S_asgT (ts : List ST) (c : CE) : SndS T xs gk fu (.asgT ts c) := fun S XW X st k h => by
  simp only [chkS] at h
  split at h
  · simp only [Bool.and_eq_true] at h
    obtain ⟨⟨h1, h2⟩, h3⟩ := h
    obtain ⟨q1, q2⟩ := chkSTs_env h1 X.env
    refine PSimp (ps_asg ((sndE T gk c S XW X _ k.toCxOk h3).1 false) (pg_tup k.calm (sts_snd k.toCxOk h1) q1 (find_none q2)) sw_tup (ss_tup h2) rfl) fun D σ H q => ?_
    obtain ⟨W, G, B, F, e, rel, q⟩ := q
    simp only [evS] at q
    refine ⟨W, G, B, F, e, rel, seqT adv_out rel q fun y e1 v H1 F1 r1 s1 o1 q => ?_⟩
    cases y with
    | sl _ => exact q.elim
    | r r =>
      dsimp only at q
      split at q
      · rename_i ds hd
        split at q
        · rename_i e2 hp
          have o1 : DpA X.K (AV W F1) H1 v r.d := o1
          rw [hd] at o1
          cases o1 with
          | tup g1 g2 => exact ⟨_, _, rfl, g1.sq, g2.length.trans (putSTs_len hp), W, G, B, F1, e1, ds, e2, r1, g2, hp, fun σ' H' F' r' s' => q σ' H' F' r' s'⟩
        · exact q.elim
      · exact q.elim
  · cases h
theorem S_set (i : Nat) (kx c : CE) : SndS T xs gk fu (.set i kx c) := fun S XW X st k h => by
  simp only [chkS] at h
  split at h
  · simp only [Bool.and_eq_true] at h
    obtain ⟨⟨⟨h1, h2⟩, h3⟩, h4⟩ := h
    refine PSimp (ps_asg ((sndE T gk c S XW X _ k.toCxOk h4).1 false) (pg_sub (k.toCxOk.var h1) ((sndE T gk kx S XW X _ k.toCxOk h3).1 false) set_list ?_) sw_sub ss_sub rfl) fun D σ H q => ?_
    · have := plainIx_of h3
      rename_i y _ e _
      intro v
      cases y <;> first | rfl | (cases kx <;> simp [chkE] at h3)
    · obtain ⟨W, G, B, F, e, rel, q⟩ := q
      simp only [evS] at q
      refine ⟨W, G, B, F, e, rel, seqT adv_out rel q fun y e1 v H1 F1 r1 s1 o1 q => ?_⟩
      cases hl : lstSlot e1 i with
      | false => simp only [hl] at q; exact q.elim
      | true =>
        cases y with
        | sl j => simp only [hl] at q; exact q.elim
        | r y =>
          simp only [hl] at q
          have lst : ∃ a, σ[i]? = some (some (.ref a)) := by
            unfold lstSlot at hl
            split at hl
            · rename_i ds hs
              obtain ⟨a, h1, _⟩ := slot_own r1 hs
              exact ⟨a, h1⟩
            · rename_i ds hs
              obtain ⟨a, h1, _⟩ := slot_bor r1 hs
              exact ⟨a, h1⟩
            · cases hl
          obtain ⟨a, ha⟩ := lst
          refine ⟨_, ha, W, G, B, F1, e1, r1, seqT adv_out r1 q fun z e2 w H2 F2 r2 s2 o2 q => ?_⟩
          cases z with
          | sl j => exact q.elim
          | r z =>
            dsimp only at q
            have o1 : DpA X.K (AV W F2) H2 v y.d := DpA.step s2.step o1
            have o2 : DpA X.K (AV W F2) H2 w z.d := o2
            cases hp : setIx i z.d y.d e2 with
            | none => rw [hp] at q; exact q.elim
            | some e3 =>
              rw [hp] at q
              obtain ⟨a', h2, h3⟩ := setIx_to (Q := fun H' => D.nx σ H') r2 o2 o1 hp fun H' r s => q σ H' F2 r s
              rw [ha] at h2
              cases h2
              exact h3
  · cases h
theorem setDk_to {K : PySem.W.Frag} {W G : AS} {B : Nat → AS × AS} {F : Nat → AS} {H : Hp} {σ : St} {e e3 : En} {i : Nat} {z d : PyData} {w v : V} {Q : Hp → Prop} (r2 : Rel K W G B F H σ e) (oz : DpA K (AV W F) H w z) (o1 : DpA K (AV W F) H v d) (hp : setDk i z d e = some e3)
    (q : ∀ H', Rel K W G B F H' σ e3 → Stp W F H W F H' → Q H') : ∃ a, σ[i]? = some (some (.ref a)) ∧ ∃ H4, DPut H a w v H4 ∧ Q H4 := by
  have fin : ∀ (kvs : List (D × D)) (s : Slot) (mk : Cel → Slot) (k : Key), keyOf z = some k → isKD kvs = true → kvs.length < sizeLine → e[i]? = some (some s) → s = mk (.dic kvs) → (∀ c', (∃ c, s = .own c ∧ mk c' = .own c') ∨ ∃ c, s = .bor c ∧ mk c' = .bor c') →
      (∃ b, σ[i]? = some (some (.ref b)) ∧ CelAt K (AV W F) H b (.dic kvs) ∧ F i b) → e3 = e.set i (some (mk (.dic (dputK kvs k d)))) → ∃ a, σ[i]? = some (some (.ref a)) ∧ ∃ H4, DPut H a w v H4 ∧ Q H4 := fun kvs s mk k hz hk hl hs hm hmk ⟨a, ha, hc, hf⟩ he3 => by
    obtain rfl := key_at (.inl oz) hz
    have hc' : ∃ kv : List (Key × V), H a = some (.dK kv) ∧ DpKs K (AV W F) H kv kvs := by
      rcases hc with h | ⟨kv, h4, h5⟩
      · exact h
      · cases h5 with
        | nil => cases hk
        | cons _ _ => cases hk
    obtain ⟨kv, y2, y3⟩ := hc'
    have lk : ∀ {kv : List (Key × V)} {kvs : List (D × D)}, DpKs K (AV W F) H kv kvs → kv.length = kvs.length := fun {kv kvs} h => by
      induction kv generalizing kvs with
      | nil => cases h; rfl
      | cons p kv ih =>
        cases h with
        | cons _ t => rw [List.length_cons, List.length_cons, ih t]
    have mu : Mut (H a) := by rw [y2]; trivial
    have trk : Step (AV W F) H (AV W F) (upd H a (.dK (putK kv k v))) := ⟨fun b u z n => by
      rw [upd_ne fun w => n (by subst w; exact .inr ⟨i, hf⟩)]
      exact z, fun b z => by
      by_cases w : b = a
      · subst w; rw [upd_same]; simp
      · rw [upd_ne w]; exact z, fun b z _ => z⟩
    obtain ⟨r3, s3⟩ := r2.write (o := .dK (putK kv k v)) hf mu (.dic (dputK kvs k d)) (s' := mk (.dic (dputK kvs k d))) ⟨s, hs, hmk _⟩ ha (.inl ⟨_, upd_same, (dpks_put y3 o1).step trk⟩)
    subst he3
    exact ⟨a, ha, _, .k y2 (by rw [lk y3]; exact hl), q _ r3 s3⟩
  unfold setDk at hp
  split at hp
  · rename_i kvs k hs hz
    split at hp
    · rename_i hh
      cases hp
      obtain ⟨b, y1, y2, y3, _⟩ := slot_own r2 hs
      exact fin kvs _ Slot.own k hz hh.1 hh.2 hs rfl (fun c' => .inl ⟨_, rfl, rfl⟩) ⟨b, y1, y2, y3⟩ rfl
    · cases hp
  · rename_i kvs k hs hz
    split at hp
    · rename_i hh
      cases hp
      obtain ⟨b, y1, y2, y3, _⟩ := slot_bor r2 hs
      exact fin kvs _ Slot.bor k hz hh.1 hh.2 hs rfl (fun c' => .inr ⟨_, rfl, rfl⟩) ⟨b, y1, y2, y3⟩ rfl
    · cases hp
  · cases hp
theorem S_setD (i : Nat) (kx c : CE) : SndS T xs gk fu (.setD i kx c) := fun S XW X st k h => by
  simp only [chkS] at h
  split at h
  · simp only [Bool.and_eq_true] at h
    obtain ⟨⟨⟨h1, h2⟩, h3⟩, h4⟩ := h
    refine PSimp (ps_dput (by have := k.toCxOk.units; omega) (k.toCxOk.var h1) ((sndE T gk kx S XW X _ k.toCxOk h3).1 false) ((sndE T gk c S XW X _ k.toCxOk h4).1 false) (sw_no h2)) fun D σ H q => ?_
    obtain ⟨W, G, B, F, e, rel, q⟩ := q
    simp only [evS] at q
    refine ⟨W, G, B, F, e, rel, seqT adv_out rel q fun y e1 v H1 F1 r1 s1 o1 q => ?_⟩
    cases hl : dicSlot e1 i with
    | false => simp only [hl] at q; exact q.elim
    | true =>
      cases y with
      | sl j => simp only [hl] at q; exact q.elim
      | r y =>
        simp only [hl] at q
        have dic : ∃ a, σ[i]? = some (some (.ref a)) := by
          unfold dicSlot at hl
          split at hl
          · rename_i ds hs
            obtain ⟨a, h1, _⟩ := slot_own r1 hs
            exact ⟨a, h1⟩
          · rename_i ds hs
            obtain ⟨a, h1, _⟩ := slot_bor r1 hs
            exact ⟨a, h1⟩
          · cases hl
        obtain ⟨a, ha⟩ := dic
        refine ⟨_, ha, W, G, B, F1, e1, r1, seqT adv_out r1 q fun z e2 w H2 F2 r2 s2 o2 q => ?_⟩
        cases z with
        | sl j => exact q.elim
        | r z =>
          dsimp only at q
          have o1 : DpA X.K (AV W F2) H2 v y.d := DpA.step s2.step o1
          have o2 : DpA X.K (AV W F2) H2 w z.d := o2
          cases hp : setDk i z.d y.d e2 with
          | none => rw [hp] at q; exact q.elim
          | some e3 =>
            rw [hp] at q
            obtain ⟨a', h2, H4, h3, h4⟩ := setDk_to (Q := fun H' => D.nx σ H') r2 o2 o1 hp fun H' r s => q σ H' F2 r s
            rw [ha] at h2
            cases h2
            exact ⟨_, H4, rfl, h3, h4⟩
  · cases h
theorem lkB_of {sc : Scope} {x : Str} (h : parT.lkB sc x = true) : sc.names.lookup x = some .local := by
  unfold parT.lkB at h
  split at h
  · assumption
  · cases h
theorem ss_par2 {x y : Str} {px py p p2 : Pos} {k k2} {es : List Expr} {env : PySem.Env} (hb : env.blockKind = .function) (hx : env.kindOf x = some .local) (hy : env.kindOf y = some .local) (hxy : x ≠ y)
    (h0 : (px.line == px.line) = true) (hl : (py.line == px.line) = true) (ho : parOk 2 es = true) : swappedStores [.Tuple [.Name x px, .Name y py] k p] (.Tuple es k2 p2) env = pure (some [x, y]) := by
  unfold parOk at ho
  simp only [Bool.and_eq_true, decide_eq_true_eq, Bool.not_eq_true'] at ho
  obtain ⟨⟨⟨q1, q2⟩, q3⟩, q4⟩ := ho
  unfold swappedStores
  have b1 : (y == x) = false := by simpa using Ne.symm hxy
  simp only [hb, q1, q2, q3, q4, List.filterMap_cons, List.filterMap_nil, hx, hy, List.head?_cons, Option.map_some, Option.getD_some, Expr.pos, h0, hl, beq_self_eq_true, Bool.and_true, Bool.and_self, if_true, List.eraseDups_cons, List.filter_cons, b1, List.filter_nil, Bool.not_false, List.eraseDups_nil]
  refine (if_neg (by simp)).trans ((if_neg fun z => ?_).trans ((if_neg (by simp)).trans rfl))
  exact absurd (z.symm.trans q2) (by simp)
theorem ss_par3 {x y z : Str} {px py pz p p2 : Pos} {k k2} {es : List Expr} {env : PySem.Env} (hb : env.blockKind = .function) (hx : env.kindOf x = some .local) (hy : env.kindOf y = some .local) (hz : env.kindOf z = some .local) (hxy : x ≠ y) (hxz : x ≠ z) (hyz : y ≠ z)
    (h0 : (px.line == px.line) = true) (hl : (py.line == px.line) = true) (hl2 : (pz.line == px.line) = true) (ho : parOk 3 es = true) : swappedStores [.Tuple [.Name x px, .Name y py, .Name z pz] k p] (.Tuple es k2 p2) env = pure (some [x, y, z]) := by
  unfold parOk at ho
  simp only [Bool.and_eq_true, decide_eq_true_eq, Bool.not_eq_true'] at ho
  obtain ⟨⟨⟨q1, q2⟩, q3⟩, q4⟩ := ho
  unfold swappedStores
  have b1 : (y == x) = false := by simpa using Ne.symm hxy
  have b2 : (z == x) = false := by simpa using Ne.symm hxz
  have b3 : (z == y) = false := by simpa using Ne.symm hyz
  simp only [hb, q1, q2, q3, q4, List.filterMap_cons, List.filterMap_nil, hx, hy, hz, List.head?_cons, Option.map_some, Option.getD_some, Expr.pos, h0, hl, hl2, beq_self_eq_true, Bool.and_true, Bool.and_self, if_true, List.eraseDups_cons, List.filter_cons, b1, b2, b3, List.filter_nil, Bool.not_false, List.eraseDups_nil]
  refine (if_neg (by simp)).trans ((if_neg fun z => ?_).trans ((if_neg (by simp)).trans rfl))
  exact absurd (z.symm.trans q2) (by simp)
theorem putR_at {i : Nat} {d : D} {e e' : En} (h : putR i (.v d) e = some e') : i < e.length ∧ e' = e.set i (some (.val d)) := by
  simp only [putR] at h
  split at h
  · cases h
  · rename_i h0
    cases h
    exact ⟨(List.getElem?_eq_some_iff.mp h0).1, rfl⟩
  · cases h
def setIs : List Nat → List V → St → St
  | i :: is, v :: vs, σ => setIs is vs (σ.set i (some v))
  | _, _, σ => σ
theorem putIs_rel {K : PySem.W.Frag} {W G : AS} {B : Nat → AS × AS} {F : Nat → AS} {H : Hp} : ∀ {is : List Nat} {ds : List D} {vs : List V} {σ : St} {e e' : En}, Rel K W G B F H σ e → DpAs K (AV W F) H vs ds → putIs is ds e = some e' → Rel K W G B F H (setIs is vs σ) e'
  | [], [], vs, σ, e, e', r, o, h => by
    cases h
    cases o
    exact r
  | i :: is, d :: ds, vs, σ, e, e', r, o, h => by
    cases o with
    | cons o1 o2 =>
      simp only [putIs] at h
      split at h
      · rename_i e1 h1
        obtain ⟨q1, rfl⟩ := putR_at h1
        have := putIs_rel (r.putVal o1 q1) o2 h
        exact this
      · cases h
  | [], _ :: _, vs, σ, e, e', r, o, h => by simp [putIs] at h
  | _ :: _, [], vs, σ, e, e', r, o, h => by simp [putIs] at h
theorem putIs_len : ∀ {is : List Nat} {ds : List D} {e e' : En}, putIs is ds e = some e' → ds.length = is.length
  | [], [], _, _, _ => rfl
  | i :: is, d :: ds, e, e', h => by
    simp only [putIs] at h
    split at h
    · rw [List.length_cons, List.length_cons, putIs_len h]
    · cases h
  | [], _ :: _, e, e', h => by simp [putIs] at h
  | _ :: _, [], e, e', h => by simp [putIs] at h
theorem S_par (is : List Nat) (cs : CEs) : SndS T xs gk fu (.par is cs) := fun S XW X st k h => by
  simp only [chkS] at h
  split at h
  · rename_i ts _ _ es _ _ _
    simp only [Bool.and_eq_true] at h
    obtain ⟨⟨h1, h2⟩, h3⟩ := h
    have hN : X.N.Nodup := by rw [k.hN]; exact k.nd
    have hb : X.env.blockKind = .function := by unfold PySem.Env.blockKind; rw [k.fk]; rfl
    have ha := (sndEs T gk cs S XW X _ k.toCxOk h3).1
    have hl : es.length = ts.length := by
      unfold parOk at h2
      simp only [Bool.and_eq_true, decide_eq_true_eq] at h2
      exact h2.1.1.1
    have kd : ∀ x, parT.lkB S.sc x = true → X.env.scope.names.lookup x = some .local := fun x z => by rw [k.hs]; exact lkB_of z
    unfold parT at h1
    split at h1
    · rename_i i j x px y py
      simp only [Bool.and_eq_true, decide_eq_true_eq] at h1
      obtain ⟨⟨⟨⟨⟨⟨n1, n2⟩, l1⟩, l2⟩, xy⟩, p0⟩, p1⟩ := h1
      have ij : i ≠ j := fun z => by subst z; rw [n1] at n2; cases n2; exact xy rfl
      match es, hl with
      | [a, b], _ =>
        refine PSimp (ps_par k.calm hN (by rw [k.hN]; exact n1) (by rw [k.hN]; exact n2) ij (kd _ l1) (kd _ l2) ha (ss_par2 hb (kd _ l1) (kd _ l2) xy p0 p1 h2)) fun D σ H q => ?_
        obtain ⟨W, G, B, F, e, rel, q⟩ := q
        simp only [evS] at q
        refine ⟨W, G, B, F, e, rel, seqT adv_of rel q fun ds e1 vs H1 F1 r1 s1 o1 q => ?_⟩
        split at q
        · rename_i e2 hp
          have o1 : DpAs X.K (AV W F1) H1 vs ds := o1
          have hd := putIs_len hp
          match vs, o1.length.trans hd with
          | [v, w], _ => exact ⟨v, w, rfl, q _ H1 F1 (putIs_rel r1 o1 hp) .refl⟩
        · exact q.elim
    · rename_i i j l x px y py z pz
      simp only [Bool.and_eq_true, decide_eq_true_eq] at h1
      obtain ⟨⟨⟨⟨⟨⟨⟨⟨⟨⟨⟨n1, n2⟩, n3⟩, l1⟩, l2⟩, l3⟩, xy⟩, xz⟩, yz⟩, p0⟩, p1⟩, p2⟩ := h1
      have ij : i ≠ j := fun z => by subst z; rw [n1] at n2; cases n2; exact xy rfl
      have il : i ≠ l := fun z => by subst z; rw [n1] at n3; cases n3; exact xz rfl
      have jl : j ≠ l := fun z => by subst z; rw [n2] at n3; cases n3; exact yz rfl
      match es, hl with
      | [a, b, c], _ =>
        refine PSimp (ps_par3 k.calm hN (by rw [k.hN]; exact n1) (by rw [k.hN]; exact n2) (by rw [k.hN]; exact n3) ij il jl (kd _ l1) (kd _ l2) (kd _ l3) ha (ss_par3 hb (kd _ l1) (kd _ l2) (kd _ l3) xy xz yz p0 p1 p2 h2)) fun D σ H q => ?_
        obtain ⟨W, G, B, F, e, rel, q⟩ := q
        simp only [evS] at q
        refine ⟨W, G, B, F, e, rel, seqT adv_of rel q fun ds e1 vs H1 F1 r1 s1 o1 q => ?_⟩
        split at q
        · rename_i e2 hp
          have o1 : DpAs X.K (AV W F1) H1 vs ds := o1
          have hd := putIs_len hp
          match vs, o1.length.trans hd with
          | [u, v, w], _ => exact ⟨u, v, w, rfl, q _ H1 F1 (putIs_rel r1 o1 hp) .refl⟩
        · exact q.elim
    · cases h1
  · cases h
theorem S_ret (c : CE) : SndS T xs gk fu (.ret c) := fun S XW X st k h => by
  simp only [chkS] at h
  split at h
  · exact sndS_ret ((sndE T gk c S XW X _ k.toCxOk h).1 false)
  · cases h
theorem S_retN : SndS T xs gk fu .retN := fun S XW X st k h => by
  simp only [chkS] at h
  split at h
  · exact sndS_retN
  · cases h
theorem S_pas : SndS T xs gk fu .pas := fun S XW X st k h => by
  simp only [chkS] at h
  split at h
  · exact sndS_nx ps_pass
  · exact sndS_nx ps_doc
  · cases h
theorem S_brk : SndS T xs gk fu .brk := fun S XW X st k h => by
  simp only [chkS] at h
  split at h
  · exact sndS_brk
  · cases h
theorem S_cnt : SndS T xs gk fu .cnt := fun S XW X st k h => by
  simp only [chkS] at h
  split at h
  · exact sndS_cnt
  · cases h
theorem S_rais (x : Str) : SndS T xs gk fu (.rais x) := fun S XW X st k h => by
  simp only [chkS] at h
  split at h
  · simp only [Bool.and_eq_true, decide_eq_true_eq, dbg, Bool.not_eq_true'] at h
    obtain ⟨⟨⟨rfl, h2⟩, h3⟩, h4⟩ := h
    obtain ⟨C, hC, pm⟩ := k.xc _ h2
    exact sndS_raise k.calm k.tk hC (pm (k.toCxOk.gl h3) h4 _ _ _ _ _)
  · cases h
theorem S_if (c : CE) (a b : CSs) (ia : SndSs T xs gk fu a) (ib : SndSs T xs gk fu b) : SndS T xs gk fu (.iff c a b) := fun S XW X st k h => by
  simp only [chkS] at h
  split at h
  · simp only [Bool.and_eq_true] at h
    obtain ⟨⟨⟨h1, h2⟩, h3⟩, h4⟩ := h
    have q := sndS_if (pos := ‹Pos›) ((sndE T gk c S XW X _ k.toCxOk h2).2 h1) (ia S XW X _ k h3) (ib S XW X _ k h4)
    refine PSimp q fun D σ H z => ?_
    obtain ⟨W, G, B, F, e, rel, z⟩ := z
    refine ⟨W, G, B, F, e, rel, ?_⟩
    simp only [evS] at z
    exact z
  · cases h
theorem S_for (t : Tg) (it : IT) (b : CSs) (ib : SndSs T xs gk fu b) : SndS T xs gk fu (.forr t it b) := fun S XW X st k h => by
  simp only [chkS] at h
  split at h
  · rename_i tg iter body pos
    simp only [Bool.and_eq_true, Bool.not_eq_true'] at h
    obtain ⟨⟨⟨h1, h2⟩, h3⟩, h4⟩ := h
    have q := sndS_for (pos := pos) k.po k.calm (sndI T gk it S XW X tg iter k.toCxOk h2 false) (tg_snd k.toCxOk h3) (ib S XW X _ k h4)
      (fun x => by
        unfold foldedSetIterable
        cases iter <;> first | rfl | (simp [isSet] at h1))
    refine PSimp q fun D σ H z => ?_
    obtain ⟨W, G, B, F, e, rel, z⟩ := z
    refine ⟨W, G, B, F, e, rel, ?_⟩
    simp only [evS] at z
    exact z
  · cases h
theorem S_whl (c : CE) (b : CSs) (ib : SndSs T xs gk fu b) : SndS T xs gk fu (.whl c b) := fun S XW X st k h => by
  simp only [chkS] at h
  split at h
  · simp only [Bool.and_eq_true] at h
    obtain ⟨⟨h1, h2⟩, h3⟩ := h
    have q := sndS_while (pos := ‹Pos›) (fu := fu) k.po ((sndE T gk c S XW X _ k.toCxOk h2).2 h1) (ib S XW X _ k h3)
    refine PSimp q fun D σ H z => ?_
    obtain ⟨W, G, B, F, e, rel, z⟩ := z
    refine ⟨W, G, B, F, e, rel, ?_⟩
    simp only [evS] at z
    exact z
  · cases h
mutual
theorem sndS (T : Tx) (xs : List Str) (gk : Bool) (fu : Nat) : ∀ c : CS, SndS T xs gk fu c
  | .expr c => S_expr c
  | .asg i c => S_asg i c
  | .asgF i c => S_asgF i c
  | .par is cs => S_par is cs
  | .asgTg ts c => S_asgTg ts c
  | .asgT ts c => S_asgT ts c
  | .set i k c => S_set i k c
  | .setD i k c => S_setD i k c
  | .iff c a b => S_if c a b (sndSs T xs gk fu a) (sndSs T xs gk fu b)
  | .forr t it b => S_for t it b (sndSs T xs gk fu b)
  | .whl c b => S_whl c b (sndSs T xs gk fu b)
  | .ret c => S_ret c
  | .retN => S_retN
  | .rais x => S_rais x
  | .pas => S_pas
  | .brk => S_brk
  | .cnt => S_cnt
theorem sndSs (T : Tx) (xs : List Str) (gk : Bool) (fu : Nat) : ∀ c : CSs, SndSs T xs gk fu c
  | .nil => fun S XW X st k h => by
    cases st with
    | cons s ss => simp [chkSs] at h
    | nil =>
      refine PSsimp (sndSs_nil (mg := X.mg) (XW := XW)) fun D σ H z => ?_
      obtain ⟨W, G, B, F, e, rel, z⟩ := z
      refine ⟨W, G, B, F, e, rel, ?_⟩
      simp only [evSs] at z
      exact z
  | .cons c cs => fun S XW X st k h => by
    cases st with
    | nil => simp [chkSs] at h
    | cons s ss =>
      simp only [chkSs, Bool.and_eq_true] at h
      refine PSsimp (sndSs_cons (sndS T xs gk fu c S XW X s k h.1) (sndSs T xs gk fu cs S XW X ss k h.2)) fun D σ H z => ?_
      obtain ⟨W, G, B, F, e, rel, z⟩ := z
      refine ⟨W, G, B, F, e, rel, ?_⟩
      simp only [evSs] at z
      exact z
end
end
end Ev

/-! Ev, part Q: a def by its embedded body. -/
namespace Ev
open PySem L2 RZ
section
variable {K : PySem.W.Frag} {mg : Str → Option Value} {W W' G : AS} {B : Nat → AS × AS} {F F' : Nat → AS} {H H' : Hp} {σ σ' : St}
theorem backArgs_at : ∀ {t e t' : En}, backArgs t e = some t' → t'.length = t.length ∧ ∀ (i : Nat) (s : Slot), t'[i]? = some (some s) →
    (t[i]? = some (some s) ∧ ∀ c, s ≠ .bor c) ∨ ∃ c c0, s = .bor c ∧ e[i]? = some (some (.bor c)) ∧ t[i]? = some (some (.bor c0))
  | [], e, t', h => by
    cases h
    exact ⟨rfl, fun i s q => by simp at q⟩
  | a :: t, [], t', h => by
    cases a with
    | none => simp [backArgs] at h
    | some s => cases s <;> simp [backArgs] at h
  | a :: t, o :: e, t', h => by
    have shift : ∀ (b : Option Slot) (t1 : En), backArgs t e = some t1 → (∀ s, b = some s → (a = some s ∧ ∀ c, s ≠ .bor c) ∨ ∃ c c0, s = .bor c ∧ o = some (.bor c) ∧ a = some (.bor c0)) → t' = b :: t1 →
        t'.length = (a :: t).length ∧ ∀ (i : Nat) (s : Slot), t'[i]? = some (some s) → ((a :: t)[i]? = some (some s) ∧ ∀ c, s ≠ .bor c) ∨ ∃ c c0, s = .bor c ∧ (o :: e)[i]? = some (some (.bor c)) ∧ (a :: t)[i]? = some (some (.bor c0)) := fun b t1 h1 hb e1 => by
      subst e1
      obtain ⟨l1, p1⟩ := backArgs_at h1
      refine ⟨by simp [l1], fun i s q => ?_⟩
      cases i with
      | zero =>
        have q : b = some s := by simpa using q
        rcases hb s q with ⟨z1, z2⟩ | ⟨c, c0, z1, z2, z3⟩
        · exact .inl ⟨by simp [z1], z2⟩
        · exact .inr ⟨c, c0, z1, by simp [z2], by simp [z3]⟩
      | succ i =>
        rcases p1 i s (by simpa using q) with ⟨z1, z2⟩ | ⟨c, c0, z1, z2, z3⟩
        · exact .inl ⟨by simpa using z1, z2⟩
        · exact .inr ⟨c, c0, z1, by simpa using z2, by simpa using z3⟩
    cases a with
    | none =>
      simp only [backArgs] at h
      obtain ⟨t1, h1, h2⟩ := Option.map_eq_some_iff.mp h
      exact shift none t1 h1 (fun s z => nomatch z) h2.symm
    | some sa =>
      cases sa with
      | val d =>
        simp only [backArgs] at h
        obtain ⟨t1, h1, h2⟩ := Option.map_eq_some_iff.mp h
        exact shift _ t1 h1 (fun s z => by cases z; exact .inl ⟨rfl, fun c z => nomatch z⟩) h2.symm
      | own c =>
        simp only [backArgs] at h
        obtain ⟨t1, h1, h2⟩ := Option.map_eq_some_iff.mp h
        exact shift _ t1 h1 (fun s z => by cases z; exact .inl ⟨rfl, fun c z => nomatch z⟩) h2.symm
      | bor c0 =>
        cases o with
        | none => simp [backArgs] at h
        | some so =>
          cases so with
          | val d => simp [backArgs] at h
          | own d => simp [backArgs] at h
          | bor c =>
            simp only [backArgs] at h
            obtain ⟨t1, h1, h2⟩ := Option.map_eq_some_iff.mp h
            exact shift _ t1 h1 (fun s z => by cases z; exact .inr ⟨c, c0, rfl, rfl, rfl⟩) h2.symm
theorem slot_arg {t : En} (h : t.all isArg = true) {i : Nat} {s : Slot} (q : t[i]? = some (some s)) : (∃ d, s = .val d) ∨ ∃ c, s = .bor c := by
  rw [List.all_eq_true] at h
  have := h _ (List.mem_of_getElem? q)
  cases s with
  | val d => exact .inl ⟨d, rfl⟩
  | bor c => exact .inr ⟨c, rfl⟩
  | own c => simp [isArg] at this
/-- behind the body, at the arguments -/
theorem rel_back {t e t' : En} (r0 : Rel K W G B F H σ t) (ha : t.all isArg = true) (r : Rel K W' G B F' H' σ' e) (st : Stp W F H W' F' H') (h : backArgs t e = some t') : Rel K W' G B F' H' σ t' := by
  obtain ⟨l, p⟩ := backArgs_at h
  refine ⟨r0.len.trans l.symm, r.wt, r.gt, r.ft, r.fw, r.ff, fun i s q => ?_⟩
  rcases p i s q with ⟨z1, z2⟩ | ⟨c, c0, rfl, z2, z3⟩
  · obtain ⟨v, h1, h2⟩ := r0.slot i s z1
    rcases slot_arg ha z1 with ⟨d, rfl⟩ | ⟨c, rfl⟩
    · exact ⟨v, h1, DpA.step st.step h2⟩
    · exact absurd rfl (z2 c)
  · obtain ⟨a, h1, h2, h3, h4, h5⟩ := slot_bor r z2
    obtain ⟨a0, g1, g2, g3, g4, g5⟩ := slot_bor r0 z3
    have : a = a0 := (g4 a).mp ((h4 a).mpr rfl)
    subst this
    exact ⟨_, g1, a, rfl, h2, h3, h4, h5⟩
theorem start_rel {t : En} {vs : List V} {N : List Str} (r : Rel K W G B F H (vs.map some) t) : Rel K W G B F H (L2.start N vs) (t ++ List.replicate (N.length - vs.length) none) := by
  have hl : t.length = vs.length := by rw [← r.len, List.length_map]
  refine ⟨by unfold L2.start; rw [List.length_append, List.length_append, r.len, List.length_replicate, List.length_replicate], r.wt, r.gt, r.ft, r.fw, r.ff, fun i s h => ?_⟩
  by_cases hi : i < t.length
  · rw [List.getElem?_append_left hi] at h
    obtain ⟨v, h1, h2⟩ := r.slot i s h
    refine ⟨v, ?_, h2⟩
    unfold L2.start
    rw [List.getElem?_append_left (by rw [List.length_map]; omega)]
    exact h1
  · rw [List.getElem?_append_right (by omega)] at h
    have := List.mem_of_getElem? h
    rw [List.mem_replicate] at this
    exact nomatch this.2
/-- the body's reading from the def's promise -/
theorem body_res {cs : Nat → Option D} {FT : Nat → Fn} {fu np n : Nat} {body : CSs} {vs : List V} {Q : VK} {E : XK} {N : List Str} (hn : np ≤ N.length → n = N.length - np) (hle : np ≤ N.length) (h : Spec K mg (runF cs FT fu np n body) vs H Q E) :
    tS K mg (fun cls d _ H => E cls d H) (fun e => evSs cs FT fu body e) { nx := fun _ H' => Q .non H', rt := Q } (L2.start N vs) H := by
  obtain ⟨hl, W, G, B, F, t, rel, hG, q⟩ := h
  have hl : vs.length = np := hl
  have r1 := start_rel (N := N) rel
  have en : n = N.length - vs.length := by rw [hl]; exact hn hle
  rw [← en] at r1
  refine ⟨W, G, B, F, _, r1, ?_⟩
  show SRes K mg (fun cls d _ H => E cls d H) W G B F H { nx := fun _ H' => Q .non H', rt := Q } (evSs cs FT fu body (t ++ List.replicate n none))
  dsimp only [runF] at q
  split at q
  · rename_i ha
    have fin : ∀ {e' : En} {r : R}, Res K mg (fun cls d _ H' => E cls d H') (fun F H F' H' t' v r => Out K W G B F H (vs.map some) F' H' t' v (.r r)) W G B F H (vs.map some) (match backArgs t e' with
        | some t => .ok r t
        | none => .no : Rs R) Q → ∀ (v : V) (σ' : St) (H' : Hp) (F' : Nat → AS), Out K W G B F H σ' F' H' e' v (.r r) → Q v H' := fun {e' r} q v σ' H' F' o => by
      cases hb : backArgs t e' with
      | none => rw [hb] at q; exact q.elim
      | some t' =>
        rw [hb] at q
        refine q v H' F' ?_
        cases r with
        | v d =>
          obtain ⟨o1, o2, o3⟩ := o
          exact ⟨rel_back rel ha.2 o1 o2 hb, o2, o3⟩
        | o c =>
          obtain ⟨a, fp, rfl, h1, h2, h3, h4, h5⟩ := o
          exact ⟨a, fp, rfl, h1, h2, rel_back rel ha.2 h3 h4 hb, h4, h5⟩
    cases hs : evSs cs FT fu body (t ++ List.replicate n none) with
    | no => rw [hs] at q; exact q.elim
    | bk e' => rw [hs] at q; exact q.elim
    | ct e' => rw [hs] at q; exact q.elim
    | nx e' =>
      rw [hs] at q
      exact fun σ' H' F' r' s' => fin q .non σ' H' F' ⟨r', s', .non⟩
    | rt r e' =>
      rw [hs] at q
      exact fun v σ' H' F' o => fin q v σ' H' F' o
    | ex x e' =>
      rw [hs] at q
      dsimp only at q
      intro cls d σ' H' F' o
      cases hb : backArgs t e' with
      | none => rw [hb] at q; exact q.elim
      | some t' =>
        rw [hb] at q
        obtain ⟨o1, o2, o3⟩ := o
        exact q cls d H' F' ⟨rel_back rel ha.2 o1 o2 hb, o2, o3⟩
  · exact q.elim
end
/-- what stands around a def -/
structure Top (T : Tx) (xs : List Str) (gk : Bool) (k : Nat) (P : Program) (w : World) (K : PySem.W.Frag) (mg : Str → Option Value) (base : Heap) : Prop where
  fn : ∀ j x, T.fs[j]? = some x → ∃ f fd ps, mg x = some (.ref f) ∧ PySem.W.keepIn K (.ref f) = true ∧ Binds K fd ps [] ∧ FnX gk P w K mg base k f fd ps (Spec K mg (T.FT j))
  con : ∀ k x d, T.cn[k]? = some x → T.cs k = some d → ∃ v u, mg x = some u ∧ RelV v u ∧ ∀ A H, DpA K A H v d
  bl : ∀ x ∈ T.bl, mg x = none
  xc : ∀ x ∈ xs, ∃ C, mg x = some (.ref C) ∧ ∀ X : Cx, X.K = K → X.mg = mg → X.base = base → Gl X x → (x == ("__debug__" : Str)) = false → ∀ p m j p2 pos, PMk X (.Call (.Name x p) [.Constant (.str m) j p2] [] pos) (fun _ H Q => Q (.ref C) none H)
theorem Top.sx {T : Tx} {xs : List Str} {gk : Bool} {k : Nat} {P : Program} {w : World} {K : PySem.W.Frag} {mg : Str → Option Value} {base : Heap} (tp : Top T xs gk k P w K mg base) {N ps : List Str} {qual : Str} {scope : Scope} {f : Addr} {cdv : Value} {A : Around} {outer : List PySem.Env} {s : Shared} {H : Hp} {E : XK}
    (S : FnScope N ps scope) (hr : Room k (A.deeper (PyProof.Rows.envOfC qual scope s.heap.objs.size f cdv))) (hg : (A.deeper (PyProof.Rows.envOfC qual scope s.heap.objs.size f cdv)).guards = some []) :
    SxOk T xs gk ⟨N, scope, scope⟩ (fun cls d _ H => E cls d H) (cxOf (L2.CX P w) P w K mg base N qual scope f cdv A outer s H E) where
  hN := rfl
  hs := rfl
  nd := S.nd
  calm := rfl
  room := ⟨k, hr, fun j x h => tp.fn j x h⟩
  gs := hg
  tk := takes_of rfl rfl rfl rfl
  con := tp.con
  bl := tp.bl
  loc := fun x h => by
    unfold locB at h
    refine ⟨?_, .inl rfl⟩
    dsimp only at h
    split at h
    · exact .inl (by assumption)
    · exact .inr (by assumption)
    · cases h
  po := passes_of rfl
  fk := S.kind
  xc := fun x hx => by
    obtain ⟨C, h1, h2⟩ := tp.xc x hx
    exact ⟨C, h1, fun hg hd => h2 _ rfl rfl rfl hg hd⟩
/-- no promise at the ground -/
theorem fn_no {gk : Bool} {P : Program} {w : World} {K : PySem.W.Frag} {mg : Str → Option Value} {base : Heap} {k : Nat} {f : Addr} {fd : FuncData} {ps : List Str} : FnX gk P w K mg base k f fd ps (Spec K mg ⟨ps.length, fun _ => .no⟩) :=
  ⟨fun vs H Q E h => h.1, fun A outer s H args us vs Q E _ _ _ _ _ h => by
    obtain ⟨_, _, _, _, _, _, _, _, q⟩ := h
    exact q.elim⟩
end Ev

/-! Ev, part V: defs and the law where what stands around is known to repr (its guards are none). -/
namespace EvG
open PySem PySem.Spec L2 PyProof.Rows
/-- a def by its body, the guards known -/
theorem fnX_of {Pg : Program} {wd : World} {Kf : PySem.W.Frag} {gl : Str → Option Value} {bs : Heap} {n : Nat} {fa : Addr} {nm ql : Str} {prm : Arguments} {bdy : List Stmt} {scp : Scope} {dV kV doc pm cdv ct oc : Value} {an od : Option Addr} {osl : Array (Option Value)} {Nm prs : List Str} {wish : Sp}
    (lk : Kf.lookup fa = some ⟨oc, od, .func (PySem.W.fnOf nm ql prm bdy scp dV kV doc pm an cdv ct), osl⟩) (cd : PySem.W.codeIn Kf cdv ql = true) (SC : FnScope Nm prs scp) (len : ∀ vs H Q E, wish vs H Q E → vs.length = prs.length)
    (body : ∀ (A : Around) (outer : List PySem.Env) (s : Shared) (H : Hp) (vs : List V) (Q : VK) (E : XK), A.guards = some [] → Room n (A.deeper (envOfC ql scp s.heap.objs.size fa cdv)) → wish vs H Q E →
      ∃ t, PSs (cxOf (L2.CX Pg wd) Pg wd Kf gl bs Nm ql scp fa cdv A outer s H E) bdy t ∧ t { nx := fun _ H' => Q .non H', rt := Q } (L2.start Nm vs) H) :
    Ev.FnX true Pg wd Kf gl bs (n + 1) fa (PySem.W.fnOf nm ql prm bdy scp dV kV doc pm an cdv ct) prs wish := by
  refine ⟨len, fun A up s H as us vs Q E hg room en hb rv q => ?_⟩
  have lv := len _ _ _ _ q
  have inK : Kf.In s.heap := en.mod.kin.keeps fun b o e => (en.bs b o e).1
  have nolim : s.heap.NoLimit := en.mod.nolimit.keeps fun b o e => (en.bs b o e).1
  have kinds : ∀ z ∈ prs.zip us, scp.names.lookup z.1 = some .local ∨ (scp.names.lookup z.1 = some .cell ∧ ((cellsFrom (s.heap.objs.size + 1) scp.names []).lookup z.1).isSome = true) := by
    rintro ⟨m, v⟩ hz
    rcases SC.par m (List.of_mem_zip hz).1 with c | c
    · exact Or.inl c
    · exact Or.inr ⟨c, PySem.W.cellsFrom_some _ _ _ (Or.inl c)⟩
  refine codeAny_call_function room.depth (inK _ _ lk) rfl SC.co SC.gen rfl (PySem.W.codeRec_of inK cd) (hb _ _ _ _ (wpAny_newFunctionEnv_cells SC.kind kinds fun env he s1 inc => ?_))
  subst he
  refine ⟨nolim.keeps inc.toInCall.keep, codeAny_func ?_⟩
  obtain ⟨t, ht, hq⟩ := body A up s H vs Q E (hg rfl) (room.deeper _) q
  have J : Inv (cxOf (L2.CX Pg wd) Pg wd Kf gl bs Nm ql scp fa cdv A up s H E) [] (L2.start Nm vs) H s1 := inv_start SC room.hd en lv rv inc
  refine wpAny_mono (ht.run [] s1 _ H _ J hq) (fun fl s2 hs => ?_) fun e s2 hs => hs
  cases fl with
  | brk => exact (let ⟨_, _, _, z⟩ := hs; z).elim
  | cont => exact (let ⟨_, _, _, z⟩ := hs; z).elim
  | next =>
    obtain ⟨σ2, H2, I2, z⟩ := hs
    exact ⟨.non, H2, I2.os, I2.bare, I2.base, I2.hok, rfl, z⟩
  | ret u =>
    obtain ⟨v, σ2, H2, I2, rr, z⟩ := hs
    exact ⟨v, H2, I2.os, I2.bare, I2.base, I2.hok, rr, z⟩
/-- law(script), called by the claim's caller -/
theorem law_callX {Pg : Program} {wd : World} {Kf : PySem.W.Frag} {gl bl : Str → Option Value} {n : Nat} {fa at_ : Addr} {fd : FuncData} {x : Str} {wish : Sp} {st : Shared} {us : List Value} {ms : List Int}
    (inK : Kf.In st.heap) (gns : st.heap.Ns mainGlobals gl) (bns : st.heap.Ns builtinsNs bl) (bbl : ∀ z : Str, z ≠ "__name__" → bl z = bootBuiltins z) (nolim : st.heap.NoLimit) (gen0 : st.gens = #[])
    (obj : st.heap.get? at_ = some { cls := .type "list", data := .seq us.toArray }) (hin : IntsAre us ms) (few : ms.length ≤ sizeLine) (room : Room n callerA)
    (F : ∀ bs : Heap, Kf.In bs → bs.Ns mainGlobals gl → Ev.FnX true Pg wd Kf gl bs n fa fd [x] wish) (bind1 : ∀ (s : Shared) (u : Value), BindsTo s fd ⟨[u], []⟩ [(x, u)])
    (asks : ∀ H : Hp, Only H → SqL Kf H at_ (ms.map V.int) → wish [.ref at_] H (fun v _ => v = .bl true) fun _ _ _ => False) :
    codeAny (model Pg wd) callerA (.call (.ref fa) ⟨[.ref at_], []⟩) (fun r s' => r = .ok (.ret (.bool true)) ∧ OldK st.heap s'.heap ∧ s'.os = st.os ∧ AllBare s'.gens) st := by
  have rv := vals_ints hin
  have lv := hin.length
  have main : ∀ H : Hp, Only H → SqL Kf H at_ (ms.map V.int) → HOk Pg wd H st.heap → (∀ b, H b ≠ none → b = at_) → (H at_ ≠ none → Kf.lookup at_ = none) →
      codeAny (model Pg wd) callerA (.call (.ref fa) ⟨[.ref at_], []⟩) (fun r s' => r = .ok (.ret (.bool true)) ∧ OldK st.heap s'.heap ∧ s'.os = st.os ∧ AllBare s'.gens) st := by
    intro H only sq hok just away
    have other : ∀ {b : Addr} {o : Obj}, st.heap.get? b = some o → (b = at_ → H b = none) → (hidT st.heap H).get? b = some o := fun {b o} e h => hidT_get e (by
      cases hb : H b with
      | none => rfl
      | some u => rw [h (just b (by rw [hb]; simp))] at hb; cases hb)
    have nsB : ∀ {b : Addr} {m : Str → Option Value}, st.heap.Ns b m → (hidT st.heap H).Ns b m := fun {b m} ⟨o, es, ep, e, d, r⟩ => ⟨o, es, ep, other e (fun hb => by
      rw [hb, obj] at e
      cases e
      exact absurd d (by simp)), d, r⟩
    have kB : Kf.In (hidT st.heap H) := fun b o e => other (inK b o e) fun hb => by
      cases q : H b with
      | none => rfl
      | some u =>
        rw [hb] at q e
        rw [away (by rw [q]; simp)] at e
        cases e
    have mB : Mod Kf gl (hidT st.heap H) := ⟨kB, nsB gns, ⟨bl, nsB bns, bbl⟩, let ⟨mc, h1, h2⟩ := nolim; ⟨mc, nsB h1, h2⟩⟩
    have en : Env0 Pg wd Kf gl (hidT st.heap H) callerA [] st H := ⟨rfl, mB, fun b o e => of_hidT e, Nat.le_of_eq (hidT_size _ _), trivial, (fun b hb => absurd (show b ∈ ([] : List Addr) from hb) List.not_mem_nil), hok, .of_eq gen0⟩
    have run := (F _ kB (nsB gns)).run callerA [] st H ⟨[.ref at_], []⟩ [.ref at_] [.ref at_] _ _ (fun _ => rfl) room en (bind1 st (.ref at_)) (.cons rfl .nil) (asks H only sq)
    refine codeAny_mono run fun r s2 h => ?_
    cases r with
    | error e =>
      obtain ⟨_, _, _, _, _, _, _, _, _, _, _, _, z⟩ := h
      exact z.elim
    | ok fl =>
      cases fl with
      | next => exact h.elim
      | brk => exact h.elim
      | cont => exact h.elim
      | ret u =>
        obtain ⟨v, H2, os, bare, un, hok2, rr, vt⟩ := h
        have vt : v = .bl true := vt
        subst vt
        obtain rfl : u = Value.bool true := rr
        refine ⟨rfl, OldK.of_keep fun b o e => ?_, os, bare⟩
        cases q : H b with
        | none => exact un.keep b o e q (fun z => absurd (show b ∈ ([] : List Addr) from z) List.not_mem_nil) (by simp)
        | some w0 =>
          rcases only b with z | ⟨ob, ys, z⟩
          · rw [q] at z
            cases z
          · obtain ⟨a1, _⟩ := hok b _ z
            obtain ⟨a2, _⟩ := hok2 b _ (un.frzs b ob _ z)
            rw [e] at a1
            cases a1
            exact a2
  cases own : Kf.lookup at_ with
  | some o =>
    have e := inK at_ o own
    rw [obj] at e
    cases e
    exact main (fun _ => none) (fun _ => Or.inl rfl) (Or.inr ⟨_, us.toArray, _, own, rfl, rfl, rfl, by rw [List.size_toArray, lv]; exact few, by simpa using rv⟩) (fun b u z => by cases (show (none : Option HO) = some u from z)) (fun b z => absurd rfl z) fun z => absurd rfl z
  | none =>
    have here : ∀ b, b = at_ → (fun c => if c = at_ then some (HO.frz { cls := .type "list", data := .seq us.toArray } (.lst (ms.map V.int))) else none) b = some (HO.frz { cls := .type "list", data := .seq us.toArray } (.lst (ms.map V.int))) := fun b e => if_pos e
    have gone : ∀ b, b ≠ at_ → (fun c => if c = at_ then some (HO.frz { cls := .type "list", data := .seq us.toArray } (.lst (ms.map V.int))) else none) b = none := fun b e => if_neg e
    refine main (fun c => if c = at_ then some (HO.frz { cls := .type "list", data := .seq us.toArray } (.lst (ms.map V.int))) else none) (fun b => ?_) (Or.inl (Or.inr ⟨_, here at_ rfl⟩)) (fun b u z => ?_) (fun b z => Classical.byContradiction fun e => z (gone b e)) fun _ => own
    · by_cases e : b = at_
      · exact Or.inr ⟨_, _, here b e⟩
      · exact Or.inl (gone b e)
    · by_cases e : b = at_
      · have z2 := (here b e).symm.trans z
        cases z2
        subst e
        exact ⟨obj, by rw [List.length_map]; exact few, us, _, rv, obj⟩
      · have z2 := (gone b e).symm.trans z
        cases z2
theorem walkX {l : PySem.W.OpenLaw} {m n : Nat} {q : Program} {loose : List Str} {XP : (Str → Option Value) → Heap → Prop} {YP : World → Heap → Prop} {d : DefRec} {Kf : Params → PySem.W.Frag} {wish : World → Sp} {x : Str} (most : l.most = some m) (fits : m ≤ sizeLine) (nod : d.params.defaults = []) (room : Room n callerA)
    (ins : ∀ (w : World) (h : Heap), YP w h → (Kf w.params).In h)
    (F : ∀ (w : World) (gl : Str → Option Value) (fa : Addr) (h : Heap), (Kf w.params).In h → h.Ns mainGlobals gl → gl d.name = some (.ref fa) → ∃ fd : FuncData, (∀ (s : Shared) (u : Value), BindsTo s fd ⟨[u], []⟩ [(x, u)]) ∧ ∀ bs : Heap, (Kf w.params).In bs → bs.Ns mainGlobals gl → Ev.FnX true l.prog w (Kf w.params) gl bs n fa fd [x] (wish w))
    (asks : ∀ (w : World) (H : Hp) (a : Addr) (ms : List Int), ms.length ≤ m → (∀ z ∈ ms, Builtin.Int.intBits z ≤ 1048576) → Only H → SqL (Kf w.params) H a (ms.map V.int) → wish w [.ref a] H (fun v _ => v = .bl true) fun _ _ _ => False) :
    PySem.W.WalkO q loose XP YP l.row.toRowW d [] (fun f vs => PySem.call f vs) := by
  refine Att.attach_callB most nod fun w s0 s1 gl bl fa o pm cd doc a us ms G Y ho hd hcd hgl hobj hints hlen hbits hgen => ?_
  have inK := ins w _ Y
  obtain ⟨fd, hb, hF⟩ := F w gl fa _ inK G.T.g hgl
  exact law_callX inK G.T.g G.T.b G.T.builtins G.T.nolimit hgen hobj hints (Nat.le_trans hlen fits) room hF hb fun H hO hS => asks w H a ms hlen hbits hO hS
end EvG
namespace Ev
open PySem L2 RZ
theorem fn_evX {T : Tx} {xs : List Str} {k : Nat} {P : Program} {w : World} {K : PySem.W.Frag} {mg : Str → Option Value} {base : Heap} (tp : Top T xs true k P w K mg base) {f : Addr} {name qual : Str} {params : Arguments} {body : List Stmt} {scope : Scope} {dV kV doc pm cdv ct oc : Value} {an od : Option Addr}
    {osl : Array (Option Value)} {N ps : List Str} {b : CSs} {fu n : Nat} (lk : K.lookup f = some ⟨oc, od, .func (PySem.W.fnOf name qual params body scope dV kV doc pm an cdv ct), osl⟩) (hcd : PySem.W.codeIn K cdv qual = true) (S : FnScope N ps scope)
    (hn : N.length = ps.length + n) (hb : chkSs T xs ⟨N, scope, scope⟩ b body = true) :
    FnX true P w K mg base (k + 1) f (PySem.W.fnOf name qual params body scope dV kV doc pm an cdv ct) ps (Spec K mg (runF T.cs T.FT fu ps.length n b)) := by
  refine EvG.fnX_of lk hcd S (fun vs H Q E h => h.1) fun A outer s H vs Q E hg hr h => ?_
  exact ⟨_, sndSs T xs true fu b _ _ _ body (tp.sx S hr hg) hb, body_res (fun _ => by omega) (by omega) h⟩
end Ev

/-! Ev, part R: a whole text. -/
namespace Ev
open PySem L2 RZ
structure Prg where
  cs : Nat → Option PyData
  cn : List Str
  fs : List Str
  bl : List Str
  xs : List Str
  st : Nat → Stmt
  N : Nat → List Str
  ps : Nat → List Str
  body : Nat → CSs
  fu : Nat
  ext : Nat → Option ((Nat → Fn) → Fn)
noncomputable def Prg.FT (p : Prg) : Nat → Nat → Fn
  | 0, j => ⟨(p.ps j).length, fun _ => .no⟩
  | k + 1, j => match p.ext j with
    | some E => E (p.FT k)
    | none => runF p.cs (p.FT k) p.fu (p.ps j).length ((p.N j).length - (p.ps j).length) (p.body j)
theorem Prg.FT_in {p : Prg} {j : Nat} (h : p.ext j = none) (k : Nat) : p.FT (k + 1) j = runF p.cs (p.FT k) p.fu (p.ps j).length ((p.N j).length - (p.ps j).length) (p.body j) := by
  show (match p.ext j with
    | some E => E (p.FT k)
    | none => _) = _
  rw [h]
theorem Prg.FT_ex {p : Prg} {j : Nat} {E : (Nat → Fn) → Fn} (h : p.ext j = some E) (k : Nat) : p.FT (k + 1) j = E (p.FT k) := by
  show (match p.ext j with
    | some E => E (p.FT k)
    | none => _) = _
  rw [h]
def Prg.T (p : Prg) (F : Nat → Fn) : Tx := ⟨p.cs, F, p.cn, p.fs, p.bl⟩
structure Prg.Ok (p : Prg) : Prop where
  sc : ∀ j x, p.fs[j]? = some x → p.ext j = none → FnScope (p.N j) (p.ps j) (defScope (p.st j)) ∧ (p.N j).length = (p.ps j).length + ((p.N j).length - (p.ps j).length)
  ck : ∀ j x, p.fs[j]? = some x → p.ext j = none → ∀ F, chkSs (p.T F) p.xs ⟨p.N j, defScope (p.st j), defScope (p.st j)⟩ (p.body j) (defBody (p.st j)) = true
  bd : ∀ j x, p.fs[j]? = some x → ∀ (kV doc pm : Value) (an : Option Addr) (cdv ct : Value) (us : List Value), us.length = (p.ps j).length → bindArgs (PySem.W.fnOf x x (defArgs (p.st j)) (defBody (p.st j)) (defScope (p.st j)) .none kV doc pm an cdv ct) ⟨us, []⟩ = pure ((p.ps j).zip us)
structure Prg.At (p : Prg) (K : PySem.W.Frag) (mg : Str → Option Value) : Prop where
  fn : ∀ j x, p.fs[j]? = some x → ∃ f fd, mg x = some (.ref f) ∧ L2.Fun K x x (p.st j) f fd
  con : ∀ k x d, p.cn[k]? = some x → p.cs k = some d → ∃ v u, mg x = some u ∧ RelV v u ∧ ∀ A H, DpA K A H v d
  bl : ∀ x ∈ p.bl, mg x = none
  xc : ∀ x ∈ p.xs, ∃ C, mg x = some (.ref C) ∧ ∀ X : Cx, X.K = K → X.mg = mg → Gl X x → (x == ("__debug__" : Str)) = false → ∀ p m j p2 pos, PMk X (.Call (.Name x p) [.Constant (.str m) j p2] [] pos) (fun _ H Q => Q (.ref C) none H)
  ex : ∀ j x E, p.fs[j]? = some x → p.ext j = some E → ∀ (k : Nat) (P : Program) (w : World) (base : Heap), Top (p.T (p.FT k)) p.xs true k P w K mg base → ∀ f fd, mg x = some (.ref f) → L2.Fun K x x (p.st j) f fd → FnX true P w K mg base (k + 1) f fd (p.ps j) (Spec K mg (E (p.FT k)))
theorem Prg.top {p : Prg} (ok : p.Ok) {P : Program} {w : World} {K : PySem.W.Frag} {mg : Str → Option Value} {base : Heap} (h : p.At K mg) : ∀ k, Top (p.T (p.FT k)) p.xs true k P w K mg base := by
  have mk : ∀ k, (∀ j x, p.fs[j]? = some x → ∀ f fd, mg x = some (.ref f) → L2.Fun K x x (p.st j) f fd → FnX true P w K mg base k f fd (p.ps j) (Spec K mg (p.FT k j))) → Top (p.T (p.FT k)) p.xs true k P w K mg base := fun k hk => {
    fn := fun j x hj => by
      obtain ⟨f, fd, h1, h2⟩ := h.fn j x hj
      exact ⟨f, fd, p.ps j, h1, h2.kp, h2.binds (ok.bd j x hj), hk j x hj f fd h1 h2⟩
    con := h.con
    bl := h.bl
    xc := fun x hx => by
      obtain ⟨C, h1, h2⟩ := h.xc x hx
      exact ⟨C, h1, fun X hK hm _ => h2 X hK hm⟩ }
  intro k
  induction k with
  | zero => exact mk 0 fun j x hj f fd _ _ => fn_no
  | succ k ih =>
    refine mk (k + 1) fun j x hj f fd hf F => ?_
    cases hx : p.ext j with
    | some E =>
      rw [Prg.FT_ex hx]
      exact h.ex j x E hj hx k P w base ih f fd hf F
    | none =>
      rw [Prg.FT_in hx]
      obtain ⟨oc, od, kV, doc, pm, an, cdv, ct, osl, rfl, lk, hcd⟩ := F.ex
      obtain ⟨s1, s2⟩ := ok.sc j x hj hx
      exact fn_evX ih lk hcd s1 s2 (ok.ck j x hj hx _)
/-- the script, as the law takes it -/
theorem entry {K : PySem.W.Frag} {mg : Str → Option Value} {H : Hp} {a : Addr} {ns : List Int} {t : En} {Q : VK} {E : XK} {f : Fn} (hp : f.np = 1) (hS : SqL K H a (ns.map V.int)) (hs : f.S [some (.val (roL (ns.map PyData.int)))] = .ok (.v (.bool true)) t) (hQ : ∀ H', Q (.bl true) H') :
    Spec K mg f [.ref a] H Q E := by
  refine ⟨hp.symm, fun _ => False, fun b => H b ≠ none, fun _ => (fun _ => False, fun _ => False), fun _ _ => False, [some (.val (roL (ns.map PyData.int)))], ⟨rfl, fun b z => z.elim, fun b z => z, fun i b z => z.elim, fun i b z => z.elim, fun i j b z => z.elim, fun i s q => ?_⟩, fun b z => z, ?_⟩
  · cases i with
    | succ i => simp at q
    | zero =>
      simp only [List.getElem?_cons_zero, Option.some.injEq] at q
      subst q
      refine ⟨.ref a, rfl, .ro (xs := ns.map V.int) ?_ (DpAs.of_ints ns)⟩
      rcases hS with h | h
      · exact .inl ⟨h, fun z => z.elim id fun ⟨_, z⟩ => z⟩
      · exact .inr h
  · rw [hs]
    intro v H' F' o
    obtain ⟨_, _, o⟩ := o
    cases o
    exact hQ H'
/-- what law(script) promises -/
def spLaw (K : PySem.W.Frag) : Sp := fun vs H Q _ => ∃ (a : Addr) (ns : List Int), vs = [.ref a] ∧ SqL K H a (ns.map V.int) ∧ ns.length ≤ 63 ∧ (∀ z ∈ ns, Builtin.Int.intBits z ≤ 1048576) ∧ ∀ H', Q (.bl true) H'
theorem FnX.imp {gk : Bool} {P : Program} {w : World} {K : PySem.W.Frag} {mg : Str → Option Value} {base : Heap} {k : Nat} {f : Addr} {fd : FuncData} {ps : List Str} {sp sp' : Sp} (F : FnX gk P w K mg base k f fd ps sp) (h : ∀ vs H Q E, sp' vs H Q E → sp vs H Q E) : FnX gk P w K mg base k f fd ps sp' :=
  ⟨fun vs H Q E q => F.len vs H Q E (h _ _ _ _ q), fun A outer s H args us vs Q E g r e b v q => F.run A outer s H args us vs Q E g r e b v (h _ _ _ _ q)⟩
theorem law_ok {p : Prg} (ok : p.Ok) {P : Program} {w : World} {K : PySem.W.Frag} {mg : Str → Option Value} {base : Heap} (h : p.At K mg) {k j : Nat} {x : Str} {f : Addr} (hj : p.fs[j]? = some x) (hx : p.ext j = none) (hf : mg x = some (.ref f)) (hp : (p.ps j).length = 1)
    (hs : ∀ ns : List Int, ns.length ≤ 63 → (∀ z ∈ ns, Builtin.Int.intBits z ≤ 1048576) → ∃ t, (p.FT (k + 1) j).S [some (.val (roL (ns.map PyData.int)))] = .ok (.v (.bool true)) t) {fd : FuncData} (F : L2.Fun K x x (p.st j) f fd) : FnX true P w K mg base (k + 1) f fd (p.ps j) (spLaw K) := by
  obtain ⟨oc, od, kV, doc, pm, an, cdv, ct, osl, rfl, lk, hcd⟩ := F.ex
  obtain ⟨s1, s2⟩ := ok.sc j x hj hx
  have X := fn_evX (Prg.top ok (P := P) (w := w) (base := base) h k) (fu := p.fu) lk hcd s1 s2 (ok.ck j x hj hx _)
  refine X.imp fun vs H Q E q => ?_
  obtain ⟨a, ns, rfl, q1, q2, q3, q4⟩ := q
  obtain ⟨t, ht⟩ := hs ns q2 q3
  rw [Prg.FT_in hx] at ht
  exact entry (f := runF p.cs (p.FT k) p.fu (p.ps j).length ((p.N j).length - (p.ps j).length) (p.body j)) hp q1 ht q4
end Ev

/-! Ev, part S: how the evaluator is reckoned: rows that fire at states that are written out. -/
namespace Ev
open PySem L2
def SR.sq (r : SR) (f : En → SR) : SR := match r with
  | .nx e => f e
  | .rt r e => .rt r e
  | .bk e => .bk e
  | .ct e => .ct e
  | .ex x e => .ex x e
  | .no => .no
section
variable {f : En → SR} {e : En} {r : R} {x : Xc}
@[simp] theorem sq_nx : SR.sq (.nx e) f = f e := rfl
@[simp] theorem sq_rt : SR.sq (.rt r e) f = .rt r e := rfl
@[simp] theorem sq_bk : SR.sq (.bk e) f = .bk e := rfl
@[simp] theorem sq_ct : SR.sq (.ct e) f = .ct e := rfl
@[simp] theorem sq_ex : SR.sq (.ex x e) f = .ex x e := rfl
@[simp] theorem sq_no : SR.sq .no f = .no := rfl
end
def nb : Option Slot → Bool
  | some (.bor _) => false
  | _ => true
@[simp] theorem nb_none : nb none = true := rfl
@[simp] theorem nb_val {d : PyData} : nb (some (.val d)) = true := rfl
@[simp] theorem nb_own {c : Cel} : nb (some (.own c)) = true := rfl
def forT (cs : Nat → Option PyData) (FT : Nat → Fn) (fu : Nat) (t : Tg) (b : CSs) (d : PyData) (e : En) : Option (En) := putTg t d e
noncomputable def turnF (cs : Nat → Option PyData) (FT : Nat → Fn) (fu : Nat) (t : Tg) (b : CSs) (d : PyData) (e : En) : SR := match putTg t d e with
  | none => .no
  | some e => evSs cs FT fu b e
noncomputable def turnC (cs : Nat → Option PyData) (FT : Nat → Fn) (own : List Nat) (t : Tg) (c : CEo) (x : CE) (d : PyData) (e : En) : Rs (Option PyData) := lcTurn own t (fun e => evC cs FT c e) (fun e => evM cs FT x false e) d e
section
variable {cs : Nat → Option PyData} {FT : Nat → Fn} {fu : Nat} {s : Option Slot} {e : En} {pk : Bool}
@[simp] theorem evSs_nil : evSs cs FT fu .nil e = .nx e := by simp only [evSs] <;> rfl
@[simp] theorem evSs_cons {c : CS} {ss : CSs} : evSs cs FT fu (.cons c ss) (s :: e) = (evS cs FT fu c (s :: e)).sq fun e => evSs cs FT fu ss e := by
  simp only [evSs]
  cases evS cs FT fu c (s :: e) <;> rfl
@[simp] theorem evS_expr {x : CE} : evS cs FT fu (.expr x) (s :: e) = (evM cs FT x false (s :: e)).thn fun _ e => .nx e := by simp only [evS] <;> rfl
@[simp] theorem evS_asg {i : Nat} {x : CE} : evS cs FT fu (.asg i x) (s :: e) = (evM cs FT x false (s :: e)).thn fun y e => match y with
    | .r y => match putR i y e with
      | some e => .nx e
      | none => .no
    | .sl _ => .no := by simp only [evS] <;> rfl
@[simp] theorem evS_asgF {i : Nat} {x : CE} : evS cs FT fu (.asgF i x) (s :: e) = (evM cs FT x false (s :: e)).thn fun y e => match y with
    | .r y => match putR i (.v y.d) e with
      | some e => .nx e
      | none => .no
    | .sl _ => .no := by simp only [evS] <;> rfl
@[simp] theorem evS_par {is : List Nat} {xs : CEs} : evS cs FT fu (.par is xs) (s :: e) = (evVs cs FT xs (s :: e)).thn fun ds e => match putIs is ds e with
    | some e => .nx e
    | none => .no := by simp only [evS] <;> rfl
@[simp] theorem putIs_nil {e : En} : putIs [] [] e = some e := rfl
@[simp] theorem putIs_cons {i : Nat} {is : List Nat} {d : D} {ds : List D} {e : En} : putIs (i :: is) (d :: ds) e = match putR i (.v d) e with
    | some e => putIs is ds e
    | none => none := rfl
@[simp] theorem evS_asgTg {ts : Tgs} {x : CE} : evS cs FT fu (.asgTg ts x) (s :: e) = (evM cs FT x false (s :: e)).thn fun y e => match y with
    | .r y => match y.d with
      | .tuple ds => match putTgs ts ds e with
        | some e => .nx e
        | none => .no
      | _ => .no
    | .sl _ => .no := by simp only [evS] <;> rfl
@[simp] theorem evS_asgT {ts : List ST} {x : CE} : evS cs FT fu (.asgT ts x) (s :: e) = (evM cs FT x false (s :: e)).thn fun y e => match y with
    | .r y => match y.d with
      | .tuple ds => match putSTs ts ds e with
        | some e => .nx e
        | none => .no
      | _ => .no
    | .sl _ => .no := by simp only [evS] <;> rfl
@[simp] theorem evS_set {i : Nat} {k x : CE} : evS cs FT fu (.set i k x) (s :: e) = (evM cs FT x false (s :: e)).thn fun y e => match lstSlot e i, y with
    | true, .r y => (evM cs FT k false e).thn fun z e => match z with
      | .r z => match setIx i z.d y.d e with
        | some e => .nx e
        | none => .no
      | .sl _ => .no
    | _, _ => .no := by simp only [evS] <;> rfl
@[simp] theorem evS_setD {i : Nat} {k x : CE} : evS cs FT fu (.setD i k x) (s :: e) = (evM cs FT x false (s :: e)).thn fun y e => match dicSlot e i, y with
    | true, .r y => (evM cs FT k false e).thn fun z e => match z with
      | .r z => match setDk i z.d y.d e with
        | some e => .nx e
        | none => .no
      | .sl _ => .no
    | _, _ => .no := by simp only [evS] <;> rfl
@[simp] theorem evS_iff {c : CE} {a b : CSs} : evS cs FT fu (.iff c a b) (s :: e) = (testB (evM cs FT c false (s :: e)) fun k e => .ok k e).thn fun k e => match k with
    | true => evSs cs FT fu a e
    | false => evSs cs FT fu b e := by simp only [evS] <;> rfl
@[simp] theorem evS_forr {t : Tg} {it : IT} {b : CSs} : evS cs FT fu (.forr t it b) (s :: e) = (evI cs FT false it (s :: e)).thn fun p e => match p.1.all PV.isR with
    | false => .no
    | true => forL (turnF cs FT fu t b) p.2 e := by
  simp only [evS] <;> rfl
@[simp] theorem evS_whl {c : CE} {b : CSs} : evS cs FT fu (.whl c b) (s :: e) = whlL (fun e => evM cs FT c false e) (fun e => evSs cs FT fu b e) fu (s :: e) := by simp only [evS] <;> rfl
@[simp] theorem evS_ret {x : CE} : evS cs FT fu (.ret x) (s :: e) = (evM cs FT x false (s :: e)).thn fun y e => match y with
    | .r y => .rt y e
    | .sl _ => .no := by simp only [evS] <;> rfl
@[simp] theorem evS_retN : evS cs FT fu .retN (s :: e) = .rt (.v .none) (s :: e) := by simp only [evS] <;> rfl
@[simp] theorem evS_rais {x : Str} : evS cs FT fu (.rais x) (s :: e) = .ex ⟨x, none⟩ (s :: e) := by simp only [evS] <;> rfl
@[simp] theorem evS_pas : evS cs FT fu .pas (s :: e) = .nx (s :: e) := by simp only [evS] <;> rfl
@[simp] theorem evS_brk : evS cs FT fu .brk (s :: e) = .bk (s :: e) := by simp only [evS] <;> rfl
@[simp] theorem evS_cnt : evS cs FT fu .cnt (s :: e) = .ct (s :: e) := by simp only [evS] <;> rfl
@[simp] theorem turnF_cons {t : Tg} {b : CSs} {d : PyData} : turnF cs FT fu t b d (s :: e) = match putTg t d (s :: e) with
  | none => .no
  | some e => evSs cs FT fu b e := rfl
@[simp] theorem evM_var {i : Nat} : evM cs FT (.var i) pk (s :: e) = rdVar i pk (s :: e) := by simp only [evM] <;> rfl
@[simp] theorem evM_mov {i : Nat} : evM cs FT (.mov i) pk (s :: e) = mvVar i (s :: e) := by simp only [evM] <;> rfl
@[simp] theorem evM_con {d : PyData} : evM cs FT (.con d) pk (s :: e) = .ok (.r (.v d)) (s :: e) := by simp only [evM] <;> rfl
@[simp] theorem evM_glob {k : Nat} : evM cs FT (.glob k) pk (s :: e) = match cs k with
    | some d => .ok (.r (.v d)) (s :: e)
    | none => .no := by simp only [evM] <;> rfl
@[simp] theorem evM_tup {es : CEs} : evM cs FT (.tup es) pk (s :: e) = (evVs cs FT es (s :: e)).bind fun ds e => if ds.length ≤ sizeLine then .ok (.r (.v (.tuple ds))) e else .no := by simp only [evM] <;> rfl
@[simp] theorem evM_lst {es : CEs} : evM cs FT (.lst es) pk (s :: e) = (evVs cs FT es (s :: e)).bind fun ds e => if ds.length ≤ sizeLine then .ok (.r (.o (.lst ds))) e else .no := by simp only [evM] <;> rfl
@[simp] theorem evM_bin {op : Operator} {a b : CE} : evM cs FT (.bin op a b) pk (s :: e) = (evM cs FT a true (s :: e)).bind fun x e => (evM cs FT b true e).bind fun y e => app2 (bopD op) x y e := by simp only [evM] <;> rfl
@[simp] theorem evM_neg {a : CE} : evM cs FT (.neg a) pk (s :: e) = (evM cs FT a false (s :: e)).bind fun x e => match intOf x with
    | some i => .ok (.r (.v (.int (-i)))) e
    | none => .no := by simp only [evM] <;> rfl
@[simp] theorem evM_cmp {op : CmpOp} {a b : CE} : evM cs FT (.cmp op a b) pk (s :: e) = (evM cs FT a true (s :: e)).bind fun x e => (evM cs FT b true e).bind fun y e => app2 (cmpR op) x y e := by simp only [evM] <;> rfl
@[simp] theorem evM_chn {o1 o2 : CmpOp} {a b c : CE} : evM cs FT (.chn o1 o2 a b c) pk (s :: e) = (evM cs FT a true (s :: e)).bind fun x e => (evM cs FT b true e).bind fun y e => testB (app2 (cmpR o1) x y e) fun k e =>
      match k with
      | false => .ok (.r (.v (.bool false))) e
      | true => (evM cs FT c true e).bind fun z e => app2 (cmpR o2) y z e := by simp only [evM] <;> rfl
@[simp] theorem evM_not {a : CE} : evM cs FT (.not a) pk (s :: e) = testB (evM cs FT a false (s :: e)) fun k e => .ok (.r (.v (.bool (!k)))) e := by simp only [evM] <;> rfl
@[simp] theorem evM_bo {an : Bool} {es : CEs} : evM cs FT (.bo an es) pk (s :: e) = evB cs FT an es (s :: e) := by simp only [evM] <;> rfl
@[simp] theorem evM_ite {c a b : CE} : evM cs FT (.ite c a b) pk (s :: e) = testB (evM cs FT c false (s :: e)) fun k e => match k with
      | true => evM cs FT a false e
      | false => evM cs FT b false e := by simp only [evM] <;> rfl
@[simp] theorem evM_idx {a i : CE} : evM cs FT (.idx a i) pk (s :: e) = (evM cs FT a true (s :: e)).bind fun x e => (evM cs FT i true e).bind fun y e => app2 idxD x y e := by simp only [evM] <;> rfl
@[simp] theorem evM_slc {a : CE} {lo hi : CEo} : evM cs FT (.slc a lo hi) pk (s :: e) = (evM cs FT a true (s :: e)).bind fun x e => (evO cs FT lo e).bind fun l e => (evO cs FT hi e).bind fun h e => app1 (fun d => slcD d l h) x e := by simp only [evM] <;> rfl
@[simp] theorem evM_rev {a : CE} : evM cs FT (.rev a) pk (s :: e) = (evM cs FT a true (s :: e)).bind fun x e => app1 revD x e := by simp only [evM] <;> rfl
@[simp] theorem evM_bi {g : Bi} {es : CEs} : evM cs FT (.bi g es) pk (s :: e) = (evPs cs FT es (s :: e)).bind fun xs e => appN (biD g) xs e := by simp only [evM] <;> rfl
@[simp] theorem evM_sortedR {a : CE} : evM cs FT (.sortedR a) pk (s :: e) = (evM cs FT a true (s :: e)).bind fun x e => app1 (fun d => biD .sortedR [d]) x e := by simp only [evM] <;> rfl
@[simp] theorem evM_lstRange {a : CE} : evM cs FT (.lstRange a) pk (s :: e) = (evM cs FT a true (s :: e)).bind fun x e => app1 (fun d => biD .listRange [d]) x e := by simp only [evM] <;> rfl
@[simp] theorem evM_isi {a : CE} {t : Ty} : evM cs FT (.isi a t) pk (s :: e) = (evM cs FT a true (s :: e)).bind fun x e => app1 (isiD t) x e := by simp only [evM] <;> rfl
@[simp] theorem evM_sortSet {a : CE} : evM cs FT (.sortSet a) pk (s :: e) = (evM cs FT a true (s :: e)).bind fun x e => app1 sortSetD x e := by simp only [evM] <;> rfl
@[simp] theorem evM_lenSet {a : CE} : evM cs FT (.lenSet a) pk (s :: e) = (evM cs FT a true (s :: e)).bind fun x e => app1 lenSetD x e := by simp only [evM] <;> rfl
@[simp] theorem evM_index {a b : CE} : evM cs FT (.index a b) pk (s :: e) = (evM cs FT a true (s :: e)).bind fun x e => match isL x e with
      | false => .no
      | true => (evM cs FT b true e).bind fun y e => app2 indexD x y e := by simp only [evM] <;> rfl
@[simp] theorem evM_dicZip {a b : CE} : evM cs FT (.dicZip a b) pk (s :: e) = (evM cs FT a true (s :: e)).bind fun x e => (evM cs FT b true e).bind fun y e => app2 dicZipD x y e := by simp only [evM] <;> rfl
@[simp] theorem evM_tupZip {a b : CE} : evM cs FT (.tupZip a b) pk (s :: e) = (evM cs FT a true (s :: e)).bind fun x e => (evM cs FT b true e).bind fun y e => app2 tupZipD x y e := by simp only [evM] <;> rfl
@[simp] theorem evM_dic0 : evM cs FT .dic0 pk (s :: e) = .ok (.r (.o (.dic []))) (s :: e) := by simp only [evM] <;> rfl
@[simp] theorem evM_call {k : Nat} {ms : List Bool} {es : CEs} : evM cs FT (.call k ms es) pk (s :: e) = (evAs cs FT ms es (s :: e)).bind fun as e => callS (FT k) as e := by simp only [evM] <;> rfl
@[simp] theorem evM_mut {m : Mu} {i : Nat} {es : CEs} : evM cs FT (.mut m i es) pk (s :: e) = match lstSlot (s :: e) i with
    | false => .no
    | true => (evVs cs FT es (s :: e)).bind fun ds e => mutS m i ds e := by simp only [evM] <;> rfl
@[simp] theorem evM_lc {own : List Nat} {tg : Tg} {it : IT} {c : CEo} {x : CE} : evM cs FT (.lc own tg it c x) pk (s :: e) = (evI cs FT true it (s :: e)).bind fun p e => match mayWipe e own with
    | false => .no
    | true => (compL (turnC cs FT own tg c x) (stands (wipeE e own) p.1) p.2 [] (wipeE e own)).bind fun ds e' => .ok (.r (.o (.lst ds))) (backE e own e') := by
  simp only [evM] <;> rfl
@[simp] theorem evVs_nil : evVs cs FT .nil e = .ok [] e := by simp only [evVs] <;> rfl
@[simp] theorem evVs_cons {x : CE} {xs : CEs} : evVs cs FT (.cons x xs) (s :: e) = (evM cs FT x false (s :: e)).bind fun y e => match y with
    | .r y => (evVs cs FT xs e).bind fun ys e => .ok (y.d :: ys) e
    | .sl _ => .no := by simp only [evVs] <;> rfl
@[simp] theorem evPs_nil : evPs cs FT .nil e = .ok [] e := by simp only [evPs] <;> rfl
@[simp] theorem evPs_cons {x : CE} {xs : CEs} : evPs cs FT (.cons x xs) (s :: e) = (evM cs FT x true (s :: e)).bind fun y e => (evPs cs FT xs e).bind fun ys e => .ok (y :: ys) e := by simp only [evPs] <;> rfl
@[simp] theorem evAs_nil : evAs cs FT [] .nil e = .ok [] e := by simp only [evAs] <;> rfl
@[simp] theorem evAs_d {ms : List Bool} {x : CE} {xs : CEs} : evAs cs FT (false :: ms) (.cons x xs) (s :: e) = (evM cs FT x false (s :: e)).bind fun y e => match y with
    | .r y => (evAs cs FT ms xs e).bind fun ys e => .ok (.d y.d :: ys) e
    | .sl _ => .no := by simp only [evAs] <;> rfl
@[simp] theorem evAs_b {ms : List Bool} {x : CE} {xs : CEs} : evAs cs FT (true :: ms) (.cons x xs) (s :: e) = (evM cs FT x true (s :: e)).bind fun y e => match y with
    | .sl i => (evAs cs FT ms xs e).bind fun ys e => .ok (.b i :: ys) e
    | .r _ => .no := by simp only [evAs] <;> rfl
@[simp] theorem evO_none : evO cs FT .none e = .ok none e := by simp only [evO] <;> rfl
@[simp] theorem evO_some {x : CE} : evO cs FT (.some x) (s :: e) = (evM cs FT x false (s :: e)).bind fun y e => match intOf y with
    | some i => .ok (some i) e
    | none => .no := by simp only [evO] <;> rfl
@[simp] theorem evC_none : evC cs FT .none e = .ok true e := by simp only [evC] <;> rfl
@[simp] theorem evC_some {x : CE} : evC cs FT (.some x) (s :: e) = testB (evM cs FT x false (s :: e)) fun k e => .ok k e := by simp only [evC] <;> rfl
@[simp] theorem evB_one {an : Bool} {x : CE} : evB cs FT an (.cons x .nil) (s :: e) = evM cs FT x false (s :: e) := by simp only [evB] <;> rfl
@[simp] theorem evB_cons {an : Bool} {x y : CE} {ys : CEs} : evB cs FT an (.cons x (.cons y ys)) (s :: e) = testB (evM cs FT x false (s :: e)) fun k e => if k = an then evB cs FT an (.cons y ys) e else .ok (.r (.v (.bool k))) e := by simp only [evB] <;> rfl
@[simp] theorem evI_val {x : CE} : evI cs FT pk (.val x) (s :: e) = (evM cs FT x pk (s :: e)).bind fun p e => match (p.get e).bind itemsD with
    | some ds => .ok ([p], ds) e
    | none => .no := by simp only [evI] <;> rfl
@[simp] theorem evI_range1 {a : CE} : evI cs FT pk (.range1 a) (s :: e) = (evM cs FT a pk (s :: e)).bind fun p e => match (p.get e).bind range1D with
    | some ds => .ok ([], ds) e
    | none => .no := by simp only [evI] <;> rfl
@[simp] theorem evI_range2 {a b : CE} : evI cs FT pk (.range2 a b) (s :: e) = (evM cs FT a pk (s :: e)).bind fun p e => (evM cs FT b pk e).bind fun q e => match p.get e, q.get e with
    | some x, some y => (match range2D x y with
      | some ds => .ok ([], ds) e
      | none => .no)
    | _, _ => .no := by simp only [evI] <;> rfl
@[simp] theorem evI_zip {a b : CE} : evI cs FT pk (.zip a b) (s :: e) = (evM cs FT a pk (s :: e)).bind fun p e => (evM cs FT b pk e).bind fun q e => match p.get e, q.get e with
    | some x, some y => (match zipItems x y with
      | some ds => .ok ([p, q], ds) e
      | none => .no)
    | _, _ => .no := by simp only [evI] <;> rfl
@[simp] theorem evI_enum {a : CE} : evI cs FT pk (.enum a) (s :: e) = (evM cs FT a pk (s :: e)).bind fun p e => match (p.get e).bind enumItems with
    | some ds => .ok ([p], ds) e
    | none => .no := by simp only [evI] <;> rfl
@[simp] theorem turnC_cons {own : List Nat} {t : Tg} {c : CEo} {x : CE} {d : PyData} : turnC cs FT own t c x d (s :: e) = match putTg t d (s :: e) with
  | none => .no
  | some e => (evC cs FT c e).noEx.bind fun k e => match k with
    | false => .ok none (wipeE e own)
    | true => (evM cs FT x false e).noEx.bind fun y e => match y with
      | .r y => .ok (some y.d) (wipeE e own)
      | .sl _ => .no := rfl
end
section
variable {s s' : Option Slot} {e : En} {pk : Bool} {i : Nat} {d d' : PyData} {r : R} {c : Cel}
theorem rdVar_val (h : e[i]? = some (some (.val d))) : rdVar i pk e = .ok (.r (.v d)) e := by unfold rdVar; rw [h]
theorem rdVar_ownP (h : e[i]? = some (some (.own c))) : rdVar i true e = .ok (.sl i) e := by unfold rdVar; rw [h]
theorem rdVar_ownV (h : e[i]? = some (some (.own c))) : rdVar i false e = .ok (.r (.v c.d)) (e.set i (some (.val c.d))) := by unfold rdVar; rw [h]
theorem rdVar_borP (h : e[i]? = some (some (.bor c))) : rdVar i true e = .ok (.sl i) e := by unfold rdVar; rw [h]
@[simp] theorem rdVar_cons : rdVar i pk (s :: e) = match (s :: e)[i]? with
  | some (some (.val d)) => .ok (.r (.v d)) (s :: e)
  | some (some (.own c)) => (match pk with
    | true => .ok (.sl i) (s :: e)
    | false => .ok (.r (.v c.d)) ((s :: e).set i (some (.val c.d))))
  | some (some (.bor c)) => (match pk with
    | true => .ok (.sl i) (s :: e)
    | false => .no)
  | _ => .no := rfl
@[simp] theorem mvVar_cons : mvVar i (s :: e) = match (s :: e)[i]? with
  | some (some (.val d)) => .ok (.r (.v d)) (s :: e)
  | some (some (.own c)) => .ok (.r (.o c)) ((s :: e).set i none)
  | _ => .no := rfl
@[simp] theorem get_r : PV.get (.r r) e = some r.d := rfl
@[simp] theorem get_sl : PV.get (.sl i) (s :: e) = match (s :: e)[i]? with
  | some (some t) => some t.d
  | _ => none := rfl
@[simp] theorem Rd_v : R.d (.v d) = d := rfl
@[simp] theorem Rd_o : R.d (.o c) = c.d := rfl
@[simp] theorem Cd_d {kvs : List (PyData × PyData)} : Cel.d (.dic kvs) = .dict kvs := rfl
@[simp] theorem dicSlot_cons : dicSlot (s :: e) i = match (s :: e)[i]? with
  | some (some (.own (.dic kvs))) => isKD kvs
  | some (some (.bor (.dic kvs))) => isKD kvs
  | _ => false := rfl
@[simp] theorem setDk_cons {k : PyData} : setDk i k d (s :: e) = match (s :: e)[i]?, keyOf k with
  | some (some (.own (.dic kvs))), some k => if isKD kvs = true ∧ kvs.length < sizeLine then some ((s :: e).set i (some (.own (.dic (dputK kvs k d))))) else none
  | some (some (.bor (.dic kvs))), some k => if isKD kvs = true ∧ kvs.length < sizeLine then some ((s :: e).set i (some (.bor (.dic (dputK kvs k d))))) else none
  | _, _ => none := rfl
@[simp] theorem isL_cons {x : PV} : isL x (s :: e) = match x.get (s :: e) with
  | some (.list _) => true
  | _ => false := rfl
@[simp] theorem Cd_l {ds : List PyData} : Cel.d (.lst ds) = .list ds := rfl
@[simp] theorem Sd_v : Slot.d (.val d) = d := rfl
@[simp] theorem Sd_o : Slot.d (.own c) = c.d := rfl
@[simp] theorem Sd_b : Slot.d (.bor c) = c.d := rfl
@[simp] theorem app1_cons {f : PyData → Option R} {x : PV} : app1 f x (s :: e) = match x.get (s :: e) with
  | some d => (match f d with
    | some r => .ok (.r r) (s :: e)
    | none => .no)
  | none => .no := rfl
@[simp] theorem app2_cons {f : PyData → PyData → Option R} {x y : PV} : app2 f x y (s :: e) = match x.get (s :: e), y.get (s :: e) with
  | some d, some d' => (match f d d' with
    | some r => .ok (.r r) (s :: e)
    | none => .no)
  | _, _ => .no := rfl
@[simp] theorem gets_nil : gets [] e = some [] := rfl
@[simp] theorem gets_cons {x : PV} {xs : List PV} : gets (x :: xs) (s :: e) = match x.get (s :: e), gets xs (s :: e) with
  | some d, some ds => some (d :: ds)
  | _, _ => none := rfl
@[simp] theorem appN_cons {f : List PyData → Option R} {xs : List PV} : appN f xs (s :: e) = match gets xs (s :: e) with
  | some ds => (match f ds with
    | some r => .ok (.r r) (s :: e)
    | none => .no)
  | none => .no := rfl
@[simp] theorem boolOf_b {b : Bool} : boolOf (.r (.v (.bool b))) = some b := rfl
@[simp] theorem intOf_i {b : Int} : intOf (.r (.v (.int b))) = some b := rfl
@[simp] theorem testB_b {α : Type} {b : Bool} {f : Bool → En → Rs α} : testB (.ok (.r (.v (.bool b))) e) f = f b e := rfl
@[simp] theorem testB_no {α : Type} {f : Bool → En → Rs α} : testB .no f = .no := rfl
@[simp] theorem testB_ex {α : Type} {x : Xc} {f : Bool → En → Rs α} : testB (.ex x e) f = .ex x e := rfl
@[simp] theorem noEx_ok' {α : Type} {a : α} : Rs.noEx (.ok a e) = .ok a e := rfl
@[simp] theorem isR_r : PV.isR (.r r) = true := rfl
@[simp] theorem isR_sl : PV.isR (.sl i) = false := rfl
theorem putTg_nm (h : (s :: e)[i]? = some s') (hb : nb s' = true) : putTg (.nm i) d (s :: e) = some ((s :: e).set i (some (.val d))) := by
  unfold putTg
  rw [h]
  cases s' with
  | none => rfl
  | some s' => cases s' <;> first | rfl | cases hb
@[simp] theorem putTg_nm' : putTg (.nm i) d (s :: e) = match (s :: e)[i]? with
  | some t => if nb t = true then some ((s :: e).set i (some (.val d))) else none
  | none => none := by
  cases h : (s :: e)[i]? with
  | none => unfold putTg; rw [h]
  | some t =>
    dsimp only
    cases hb : nb t with
    | true => rw [if_pos rfl, putTg_nm h hb]
    | false =>
      rw [if_neg (by simp)]
      unfold putTg
      rw [h]
      cases t with
      | none => cases hb
      | some t => cases t <;> first | rfl | cases hb
@[simp] theorem putTg_tup {ts : Tgs} {ds : List PyData} : putTg (.tup ts) (.tuple ds) e = putTgs ts ds e := by simp only [putTg] <;> rfl
@[simp] theorem putTgs_nil : putTgs .nil [] e = some e := by simp only [putTgs] <;> rfl
@[simp] theorem putTgs_cons {t : Tg} {ts : Tgs} {ds : List PyData} : putTgs (.cons t ts) (d :: ds) e = match putTg t d e with
    | some e => putTgs ts ds e
    | none => none := by simp only [putTgs] <;> rfl
@[simp] theorem putR_v : putR i (.v d) (s :: e) = match (s :: e)[i]? with
  | some t => if nb t = true then some ((s :: e).set i (some (.val d))) else none
  | none => none := by
  unfold putR
  dsimp only
  generalize (s :: e)[i]? = o
  cases o with
  | none => rfl
  | some t =>
    cases t with
    | none => rfl
    | some t => cases t <;> rfl
@[simp] theorem putR_o : putR i (.o c) (s :: e) = match (s :: e)[i]? with
  | some t => if nb t = true then some ((s :: e).set i (some (.own c))) else none
  | none => none := by
  unfold putR
  dsimp only
  generalize (s :: e)[i]? = o
  cases o with
  | none => rfl
  | some t =>
    cases t with
    | none => rfl
    | some t => cases t <;> rfl
@[simp] theorem putST_tg {t : Tg} : putST (.tg t) d e = putTg t d e := rfl
@[simp] theorem putST_ix {k : Int} : putST (.ix i k) d e = setIx i (.int k) d e := rfl
@[simp] theorem putSTs_nil : putSTs [] [] e = some e := rfl
@[simp] theorem putSTs_cons {t : ST} {ts : List ST} {ds : List PyData} : putSTs (t :: ts) (d :: ds) e = match putST t d e with
  | some e => putSTs ts ds e
  | none => none := rfl
@[simp] theorem setIx_cons {k : Int} : setIx i (.int k) d (s :: e) = match (s :: e)[i]? with
  | some (some (.own (.lst xs))) => (ixN xs.length k).map fun j => (s :: e).set i (some (.own (.lst (xs.set j d))))
  | some (some (.bor (.lst xs))) => (ixN xs.length k).map fun j => (s :: e).set i (some (.bor (.lst (xs.set j d))))
  | _ => none := by
  unfold setIx
  generalize (s :: e)[i]? = o
  cases o with
  | none => rfl
  | some t =>
    cases t with
    | none => rfl
    | some t =>
      cases t with
      | val d => rfl
      | own c => cases c <;> rfl
      | bor c => cases c <;> rfl
@[simp] theorem lstSlot_cons : lstSlot (s :: e) i = match (s :: e)[i]? with
  | some (some (.own (.lst _))) => true
  | some (some (.bor (.lst _))) => true
  | _ => false := rfl
@[simp] theorem mutS_cons {m : Mu} {ds : List PyData} : mutS m i ds (s :: e) = match (s :: e)[i]? with
  | some (some (.own (.lst xs))) => (match muD m xs ds with
    | some (d, ys) => .ok (.r (.v d)) ((s :: e).set i (some (.own (.lst ys))))
    | none => .no)
  | some (some (.bor (.lst xs))) => (match muD m xs ds with
    | some (d, ys) => .ok (.r (.v d)) ((s :: e).set i (some (.bor (.lst ys))))
    | none => .no)
  | _ => .no := rfl
@[simp] theorem mayWipe_nil : mayWipe e [] = true := rfl
@[simp] theorem mayWipe_cons {is : List Nat} : mayWipe (s :: e) (i :: is) = ((match (s :: e)[i]? with
    | some (some (.own _)) => false
    | some (some (.bor _)) => false
    | _ => true) && mayWipe (s :: e) is) := rfl
@[simp] theorem wipeE_nil : wipeE e [] = e := rfl
@[simp] theorem wipeE_cons {is : List Nat} : wipeE (s :: e) (i :: is) = (wipeE (s :: e) is).set i none := rfl
@[simp] theorem backE_nil {e0 : En} : backE e0 [] e = e := rfl
@[simp] theorem backE_cons {e0 : En} {is : List Nat} : backE (s :: e0) (i :: is) e = match (s :: e0)[i]? with
    | some t => (backE (s :: e0) is e).set i t
    | none => backE (s :: e0) is e := rfl
@[simp] theorem stands_nil {e0 : En} : stands e0 [] e = True := rfl
@[simp] theorem stands_sl {e0 : En} {ps : List PV} : stands e0 (.sl i :: ps) e = (e[i]? = e0[i]? ∧ stands e0 ps e) := rfl
@[simp] theorem stands_r {e0 : En} {ps : List PV} : stands e0 (.r r :: ps) e = stands e0 ps e := rfl
@[simp] theorem forL_nil {turn : PyData → En → SR} : forL turn [] e = .nx e := rfl
def finA (args : En) : SR → Rs R
  | .nx e => (match backArgs args e with
      | some t => .ok (.v .none) t
      | none => .no)
  | .rt r e => (match backArgs args e with
      | some t => .ok r t
      | none => .no)
  | .ex x e => (match backArgs args e with
      | some t => .ex x t
      | none => .no)
  | _ => .no
@[simp] theorem finA_nx {args : En} : finA args (.nx e) = match backArgs args e with
      | some t => .ok (.v .none) t
      | none => .no := rfl
@[simp] theorem finA_rt {args : En} : finA args (.rt r e) = match backArgs args e with
      | some t => .ok r t
      | none => .no := rfl
@[simp] theorem finA_ex {args : En} {x : Xc} : finA args (.ex x e) = match backArgs args e with
      | some t => .ex x t
      | none => .no := rfl
theorem runF_S {cs : Nat → Option PyData} {FT : Nat → Fn} {fu np n : Nat} {body : CSs} {args : En} (h : args.length = np ∧ args.all isArg = true) : (runF cs FT fu np n body).S args = finA args (evSs cs FT fu body (args ++ List.replicate n none)) := by
  show (if _ then _ else _) = _
  rw [if_pos h]
  cases evSs cs FT fu body (args ++ List.replicate n none) <;> rfl
@[simp] theorem backArgs_nil : backArgs [] e = some [] := rfl
@[simp] theorem backArgs_val {as : En} : backArgs (some (.val d) :: as) (s :: e) = (backArgs as e).map (some (.val d) :: ·) := rfl
@[simp] theorem backArgs_bor {as : En} {c' : Cel} : backArgs (some (.bor c) :: as) (some (.bor c') :: e) = (backArgs as e).map (some (.bor c') :: ·) := rfl
@[simp] theorem callS_cons {f : Fn} {as : List Ar} : callS f as (s :: e) = match mkArgs as (s :: e), lentOnce as && as.length == f.np with
  | some t, true => (match f.S t with
    | .no => .no
    | .ok r t' => (match putBack as t' (s :: e) with
      | some e => .ok (.r r) e
      | none => .no)
    | .ex x t' => (match putBack as t' (s :: e) with
      | some e => .ex x e
      | none => .no))
  | _, _ => .no := rfl
@[simp] theorem mkArgs_nil : mkArgs [] e = some [] := rfl
@[simp] theorem mkArgs_d {as : List Ar} : mkArgs (.d d :: as) (s :: e) = match mkArgs as (s :: e) with
  | some t => some (some (.val d) :: t)
  | none => none := by
  rw [mkArgs, mkArg]
  generalize mkArgs as (s :: e) = o
  cases o <;> rfl
@[simp] theorem mkArgs_b {as : List Ar} : mkArgs (.b i :: as) (s :: e) = match (s :: e)[i]? with
  | some (some (.own c)) => (match mkArgs as (s :: e) with
    | some t => some (some (.bor c) :: t)
    | none => none)
  | some (some (.bor c)) => (match mkArgs as (s :: e) with
    | some t => some (some (.bor c) :: t)
    | none => none)
  | _ => none := by
  rw [mkArgs, mkArg]
  generalize mkArgs as (s :: e) = q
  generalize (s :: e)[i]? = o
  cases o with
  | none => rfl
  | some t =>
    cases t with
    | none => rfl
    | some t =>
      cases t with
      | val d => rfl
      | own c => cases q <;> rfl
      | bor c => cases q <;> rfl
@[simp] theorem putBack_nil {t : En} : putBack [] t e = some e := rfl
@[simp] theorem putBack_d {as : List Ar} {t : En} : putBack (.d d :: as) (s' :: t) e = putBack as t e := rfl
@[simp] theorem putBack_b {as : List Ar} {t : En} : putBack (.b i :: as) (some (.bor c) :: t) (s :: e) = match (s :: e)[i]? with
  | some (some (.own _)) => putBack as t ((s :: e).set i (some (.own c)))
  | some (some (.bor _)) => putBack as t ((s :: e).set i (some (.bor c)))
  | _ => none := by
  rw [putBack, putBack1]
  generalize (s :: e)[i]? = o
  cases o with
  | none => rfl
  | some t =>
    cases t with
    | none => rfl
    | some t => cases t <;> rfl
@[simp] theorem lentOnce_nil : lentOnce [] = true := rfl
@[simp] theorem lentOnce_d {as : List Ar} : lentOnce (.d d :: as) = lentOnce as := rfl
@[simp] theorem lentOnce_b {as : List Ar} : lentOnce (.b i :: as) = ((as.all fun a => match a with | .b j => j != i | _ => true) && lentOnce as) := rfl
end
/-! operations -/
section
variable {i j : Int} {x y : Str} {xs ys : List PyData} {d d' : PyData} {b c : Bool}
@[simp] theorem bop_ii : bopD .Add (.int i) (.int j) = some (.v (.int (i + j))) := rfl
@[simp] theorem bop_ll : bopD .Add (.list xs) (.list ys) = if xs.length + ys.length ≤ sizeLine then some (.o (.lst (xs ++ ys))) else none := rfl
@[simp] theorem bop_tt : bopD .Add (.tuple xs) (.tuple ys) = if xs.length + ys.length ≤ sizeLine then some (.v (.tuple (xs ++ ys))) else none := rfl
@[simp] theorem bop_ss : bopD .Add (.str x) (.str y) = if x.length + y.length ≤ sizeLine then some (.v (.str (x ++ y))) else none := rfl
@[simp] theorem bop_bi : bopD .Add (.bool b) (.int i) = some (.v (.int ((if b then 1 else 0) + i))) := rfl
@[simp] theorem bop_sbi : bopD .Sub (.bool b) (.int i) = some (.v (.int ((if b then 1 else 0) - i))) := rfl
@[simp] theorem bi_strI : biD .str [.int i] = if i.natAbs.log2 < 1920 then some (.v (.str (toString i))) else none := rfl
@[simp] theorem bi_repr : biD .repr [d] = if reprOk d = true then some (.v (.str d.shown)) else none := by cases d <;> rfl
@[simp] theorem bi_strB : biD .str [.bool b] = some (.v (.str (if b then "True" else "False"))) := rfl
@[simp] theorem cmp_isb : cmpD .Is (.bool b) (.bool c) = some (b == c) := rfl
@[simp] theorem cmp_isnb : cmpD .IsNot (.bool b) (.bool c) = some (b != c) := rfl
@[simp] theorem bop_sub : bopD .Sub (.int i) (.int j) = some (.v (.int (i - j))) := rfl
theorem bop_mul : bopD .Mult (.int i) (.int j) = if (i.natAbs < 2 ^ 200 ∧ j.natAbs < 2 ^ 200) ∨ i.natAbs.log2 + j.natAbs.log2 < 1000000 then some (.v (.int (i * j))) else none := rfl
theorem bop_mul' (h1 : i.natAbs < 2 ^ 200) (h2 : j.natAbs < 2 ^ 200) : bopD .Mult (.int i) (.int j) = some (.v (.int (i * j))) := by rw [bop_mul, if_pos (.inl ⟨h1, h2⟩)]
theorem bop_fdiv (h : 0 < j) (h2 : j < 2 ^ 200) : bopD .FloorDiv (.int i) (.int j) = some (.v (.int (i / j))) := by
  show (if _ then _ else _) = _
  rw [if_pos ⟨h, .inl h2⟩]
theorem bop_mod (h : 0 < j) : bopD .Mod (.int i) (.int j) = some (.v (.int (i % j))) := by
  show (if _ then _ else _) = _
  rw [if_pos h]
theorem bop_pow (h : 0 ≤ j ∧ j ≤ 1000000 ∧ i.natAbs < 2 ^ 64) : bopD .Pow (.int i) (.int j) = some (.v (.int (i ^ j.toNat))) := by
  show (if _ then _ else _) = _
  rw [if_pos h]
@[simp] theorem cmpR_eq {op : CmpOp} : cmpR op d d' = (cmpD op d d').map fun b => .v (.bool b) := rfl
@[simp] theorem cmp_eq : cmpD .Eq d d' = eqD d d' := rfl
@[simp] theorem cmp_ne : cmpD .NotEq d d' = (eqD d d').map not := rfl
@[simp] theorem cmp_lt : cmpD .Lt (.int i) (.int j) = some (decide (i < j)) := rfl
@[simp] theorem cmp_gt : cmpD .Gt (.int i) (.int j) = some (decide (j < i)) := rfl
@[simp] theorem cmp_le : cmpD .LtE (.int i) (.int j) = some (decide (i ≤ j)) := rfl
@[simp] theorem cmp_ge : cmpD .GtE (.int i) (.int j) = some (decide (j ≤ i)) := rfl
@[simp] theorem cmp_is : cmpD .Is d .none = some (isNoneD d) := by cases d <;> rfl
@[simp] theorem cmp_isn : cmpD .IsNot d .none = some (!isNoneD d) := by cases d <;> rfl
@[simp] theorem cmp_in : cmpD .In d d' = inD d d' := rfl
@[simp] theorem cmp_nin : cmpD .NotIn d d' = (inD d d').map not := rfl
@[simp] theorem isN_n : isNoneD .none = true := rfl
@[simp] theorem isN_i : isNoneD (.int i) = false := rfl
@[simp] theorem isN_l : isNoneD (.list xs) = false := rfl
@[simp] theorem isN_t : isNoneD (.tuple xs) = false := rfl
@[simp] theorem eq_ii : eqD (.int i) (.int j) = some (decide (i = j)) := by
  unfold eqD
  rw [if_pos ⟨rfl, rfl⟩]
  show some (i == j) = _
  rw [Bool.beq_eq_decide_eq]
@[simp] theorem idx_l : idxD (.list xs) (.int i) = (atI xs i).map .v := rfl
@[simp] theorem idx_t : idxD (.tuple xs) (.int i) = (atI xs i).map .v := rfl
@[simp] theorem idx_ro : idxD (roL xs) (.int i) = (atI xs i).map .v := rfl
@[simp] theorem len_l : biD .len [.list xs] = some (.v (.int xs.length)) := rfl
@[simp] theorem len_t : biD .len [.tuple xs] = some (.v (.int xs.length)) := rfl
@[simp] theorem len_ro : biD .len [roL xs] = some (.v (.int xs.length)) := rfl
@[simp] theorem bi_max : biD .max [.int i, .int j] = some (.v (.int (if j > i then j else i))) := rfl
@[simp] theorem bi_min : biD .min [.int i, .int j] = some (.v (.int (if j < i then j else i))) := rfl
@[simp] theorem bi_abs : biD .abs [.int i] = some (.v (.int (if i < 0 then -i else i))) := rfl
@[simp] theorem bi_divmod : biD .divmod [.int i, .int j] = if 0 < j ∧ j < 1073741824 then some (.v (.tuple [.int (i / j), .int (i % j)])) else none := rfl
@[simp] theorem bi_all : biD .all [.list xs] = (boolsD xs).map fun bs => .v (.bool (bs.all id)) := rfl
@[simp] theorem bi_any : biD .any [.list xs] = (boolsD xs).map fun bs => .v (.bool (bs.any id)) := rfl
@[simp] theorem bi_minT : biD .min [.tuple xs] = (intsD xs).bind fun ns => (minI ns).map fun m => .v (.int m) := rfl
@[simp] theorem bi_sum : biD .sum [.list xs] = (intsD xs).map fun ns => .v (.int ns.sum) := rfl
@[simp] theorem bi_tupL : biD .tuple [.list xs] = some (.v (.tuple xs)) := rfl
@[simp] theorem bi_tupT : biD .tuple [.tuple xs] = some (.v (.tuple xs)) := rfl
@[simp] theorem bi_lstL : biD .list [.list xs] = some (.o (.lst xs)) := rfl
@[simp] theorem bi_lstT : biD .list [.tuple xs] = some (.o (.lst xs)) := rfl
@[simp] theorem bi_sortL : biD .sorted [.list xs] = (match intsD xs with
    | some ns => some (.o (.lst ((sortI ns).map .int)))
    | none => (rowsD xs).bind fun L => if okRows L = true then some (.o (.lst ((sortR L).map rowD))) else none) := rfl
@[simp] theorem enum_t : enumItems (.tuple xs) = some (enumD xs) := rfl
theorem in_l : inD d (.list xs) = if SeqAt.shaped d = true ∧ SeqAt.shaped (.list xs) = true then some (xs.any fun x => PyData.eqv x d) else none := by cases d <;> rfl
theorem in_t : inD d (.tuple xs) = if SeqAt.shaped d = true ∧ SeqAt.shaped (.tuple xs) = true then some (xs.any fun x => PyData.eqv x d) else none := by cases d <;> rfl
@[simp] theorem index_l : indexD (.list xs) d = if SeqAt.shaped d = true ∧ SeqAt.shaped (.list xs) = true then (xs.findIdx? fun x => PyData.eqv x d).map fun (j : Nat) => .v (.int (j : Int)) else none := by cases d <;> rfl
@[simp] theorem dicZip_l : dicZipD (.list xs) (.list ys) = (intsD xs).map fun ks => .o (.dic (zipDic ks ys)) := rfl
@[simp] theorem tupZip_l : tupZipD (.tuple xs) (.list ys) = if xs.length = ys.length then some (.v (.tuple (List.zipWith (fun x y => .tuple [x, y]) xs ys))) else none := rfl
@[simp] theorem keyOf_i : keyOf (.int i) = some (.inl i) := rfl
@[simp] theorem bi_sortT : biD .sorted [.tuple xs] = (intsD xs).map fun ns => .o (.lst ((sortI ns).map .int)) := rfl
@[simp] theorem bi_sortRL : biD .sortedR [.list xs] = (intsD xs).map fun ns => .o (.lst ((sortI ns).reverse.map .int)) := rfl
@[simp] theorem bi_sortRT : biD .sortedR [.tuple xs] = (intsD xs).map fun ns => .o (.lst ((sortI ns).reverse.map .int)) := rfl
@[simp] theorem bi_lrange : biD .listRange [.int i] = if 0 ≤ i ∧ i ≤ 1000000 then some (.o (.lst ((List.range i.toNat).map fun (k : Nat) => .int (k : Int)))) else none := rfl
@[simp] theorem slc_l {lo hi : Option Int} : slcD (.list xs) lo hi = some (.o (.lst (cutD xs lo hi))) := rfl
@[simp] theorem slc_t {lo hi : Option Int} : slcD (.tuple xs) lo hi = some (.v (.tuple (cutD xs lo hi))) := rfl
@[simp] theorem rev_t : revD (.tuple xs) = some (.v (.tuple xs.reverse)) := rfl
@[simp] theorem rev_l : revD (.list xs) = some (.o (.lst xs.reverse)) := rfl
@[simp] theorem isi_int {t : Ty} : isiD t (.int i) = some (.v (.bool (isTy t (.int i)))) := rfl
@[simp] theorem isi_bool {t : Ty} : isiD t (.bool b) = some (.v (.bool (isTy t (.bool b)))) := rfl
@[simp] theorem isi_tup {t : Ty} : isiD t (.tuple xs) = some (.v (.bool (isTy t (.tuple xs)))) := rfl
@[simp] theorem isi_list {t : Ty} : isiD t (.list xs) = some (.v (.bool (isTy t (.list xs)))) := rfl
@[simp] theorem isi_none {t : Ty} : isiD t .none = some (.v (.bool (isTy t .none))) := rfl
@[simp] theorem isi_str {t : Ty} : isiD t (.str x) = some (.v (.bool (isTy t (.str x)))) := rfl
@[simp] theorem ty_ii : isTy .int (.int i) = true := rfl
@[simp] theorem ty_ib : isTy .int (.bool b) = true := rfl
@[simp] theorem ty_bb : isTy .bool (.bool b) = true := rfl
@[simp] theorem ty_bi : isTy .bool (.int i) = false := rfl
@[simp] theorem ty_bn : isTy .bool .none = false := rfl
@[simp] theorem ty_in : isTy .int .none = false := rfl
@[simp] theorem ty_tt : isTy .tuple (.tuple xs) = true := rfl
@[simp] theorem ty_ll : isTy .list (.list xs) = true := rfl
@[simp] theorem items_l : itemsD (.list xs) = some xs := rfl
@[simp] theorem items_t : itemsD (.tuple xs) = some xs := rfl
@[simp] theorem zip_ll : zipItems (.list xs) (.list ys) = some (zipD xs ys) := rfl
@[simp] theorem zip_tt : zipItems (.tuple xs) (.tuple ys) = some (zipD xs ys) := rfl
@[simp] theorem enum_l : enumItems (.list xs) = some (enumD xs) := rfl
@[simp] theorem mu_app : muD .append xs [d] = if xs.length < sizeLine then some (.none, xs ++ [d]) else none := rfl
@[simp] theorem mu_ext : muD .extend xs [.list ys] = if xs.length + ys.length ≤ sizeLine then some (.none, xs ++ ys) else none := rfl
@[simp] theorem mu_clr : muD .clear xs [] = some (.none, []) := rfl
theorem range1_ok (h : inR62 i) : range1D (.int i) = some (rangeD 0 i) := by
  show (if _ then _ else _) = _
  rw [if_pos h]
theorem range2_ok (h : inR62 i) (h2 : inR62 j) : range2D (.int i) (.int j) = some (rangeD i j) := by
  show (if _ then _ else _) = _
  rw [if_pos ⟨h, h2⟩]
@[simp] theorem intsD_nil : intsD [] = some [] := rfl
@[simp] theorem intsD_ints : ∀ ns : List Int, intsD (ns.map PyData.int) = some ns
  | [] => rfl
  | n :: ns => by
    show (intsD (ns.map PyData.int)).map (n :: ·) = _
    rw [intsD_ints ns]; rfl
@[simp] theorem boolsD_bools : ∀ ns : List Bool, boolsD (ns.map PyData.bool) = some ns
  | [] => rfl
  | n :: ns => by
    show (boolsD (ns.map PyData.bool)).map (n :: ·) = _
    rw [boolsD_bools ns]; rfl
theorem sl_lt {n : Nat} (h : n < 16777216) : n < sizeLine := by rw [sizeLine_eq]; exact h
theorem sl_le {n : Nat} (h : n ≤ 16777216) : n ≤ sizeLine := by rw [sizeLine_eq]; exact h
end
theorem forL_inv {turn : PyData → En → SR} {I : List PyData → En → Prop} (hs : ∀ x xs e, I (x :: xs) e → ∃ e', (turn x e = .nx e' ∨ turn x e = .ct e') ∧ I xs e') : ∀ {items : List PyData} {e : En}, I items e → ∃ e', forL turn items e = .nx e' ∧ I [] e'
  | [], e, h => ⟨e, rfl, h⟩
  | x :: xs, e, h => by
    obtain ⟨e1, h1, h2⟩ := hs x xs e h
    obtain ⟨e2, h3, h4⟩ := forL_inv hs h2
    refine ⟨e2, ?_, h4⟩
    unfold forL
    rcases h1 with h1 | h1
    · rw [h1]; exact h3
    · rw [h1]; exact h3
/-- with an end amid -/
theorem forL_or {turn : PyData → En → SR} {I : List PyData → En → Prop} {G : SR → Prop} (hs : ∀ x xs e, I (x :: xs) e → (∃ e', (turn x e = .nx e' ∨ turn x e = .ct e') ∧ I xs e') ∨ (∃ r e', turn x e = .rt r e' ∧ G (.rt r e')) ∨ (∃ r e', turn x e = .ex r e' ∧ G (.ex r e'))) :
    ∀ {items : List PyData} {e : En}, I items e → (∃ e', forL turn items e = .nx e' ∧ I [] e') ∨ (∃ r e', forL turn items e = .rt r e' ∧ G (.rt r e')) ∨ (∃ r e', forL turn items e = .ex r e' ∧ G (.ex r e'))
  | [], e, h => .inl ⟨e, rfl, h⟩
  | x :: xs, e, h => by
    rcases hs x xs e h with ⟨e1, h1, h2⟩ | ⟨r, e1, h1, h2⟩ | ⟨r, e1, h1, h2⟩
    · have q := forL_or hs h2
      unfold forL
      rcases h1 with h1 | h1
      · rw [h1]; exact q
      · rw [h1]; exact q
    · refine .inr (.inl ⟨r, e1, ?_, h2⟩)
      unfold forL
      rw [h1]
    · refine .inr (.inr ⟨r, e1, ?_, h2⟩)
      unfold forL
      rw [h1]
/-- a comprehension whose turns leave all as it is -/
theorem compL_map {turn : PyData → En → Rs (Option PyData)} {g : En → Prop} {e : En} {f : PyData → Option PyData} (hg : g e) : ∀ {items acc : List PyData}, (∀ x ∈ items, turn x e = .ok (f x) e) → acc.length + items.length ≤ sizeLine → compL turn g items acc e = .ok (acc ++ items.filterMap f) e
  | [], acc, _, _ => by
    unfold compL
    rw [if_pos hg]
    simp
  | x :: xs, acc, h, hz => by
    unfold compL
    rw [if_pos hg, h x List.mem_cons_self]
    simp only [Rs.bind_ok]
    rw [List.length_cons] at hz
    cases hf : f x with
    | none =>
      dsimp only
      rw [compL_map hg (fun y hy => h y (List.mem_cons_of_mem _ hy)) (by omega)]
      simp [hf]
    | some d =>
      dsimp only
      rw [if_pos (by omega), compL_map hg (fun y hy => h y (List.mem_cons_of_mem _ hy)) (by rw [List.length_append]; simp; omega)]
      simp [hf]
end Ev

/-! Ev, part T: plain facts that many texts want. -/
namespace Ev
open PySem L2
@[simp] theorem isArg_val {d : PyData} : isArg (some (.val d)) = true := rfl
@[simp] theorem isArg_bor {c : Cel} : isArg (some (.bor c)) = true := rfl
def prodI : List Int → Int
  | [] => 1
  | n :: ns => n * prodI ns
theorem prodI_pos : ∀ {ns : List Int}, (∀ n ∈ ns, 1 ≤ n) → 1 ≤ prodI ns
  | [], _ => by decide
  | n :: ns, h => by
    have h1 := h n List.mem_cons_self
    have h2 := prodI_pos fun x hx => h x (List.mem_cons_of_mem n hx)
    show 1 ≤ n * prodI ns
    have := Int.mul_le_mul h1 h2 (by decide) (by omega)
    omega
theorem prodI_append : ∀ (a b : List Int), prodI (a ++ b) = prodI a * prodI b
  | [], b => by simp [prodI]
  | n :: a, b => by
    rw [List.cons_append, prodI, prodI, prodI_append a b, Int.mul_assoc]
theorem le_mul_of {a b : Int} (ha : 1 ≤ a) (hb : 1 ≤ b) : a ≤ a * b := by
  have := Int.mul_le_mul_of_nonneg_left hb (show 0 ≤ a by omega)
  omega
/-! data that stand for other things, one for one -/
structure EmbD {α : Type} [DecidableEq α] (f : α → PyData) (k : Nat) : Prop where
  lay : ∀ a, (f a).canLay0 = true
  dep : ∀ a, (f a).depth ≤ k
  eqv : ∀ a b, PyData.eqv (f a) (f b) = decide (a = b)
theorem emb_int : EmbD PyData.int 0 := ⟨fun _ => rfl, fun _ => Nat.le_refl _, fun a b => by show (a == b) = _; rw [Bool.beq_eq_decide_eq]⟩
section
variable {α : Type} [DecidableEq α] {f : α → PyData} {k : Nat}
theorem emb_all (h : EmbD f k) : ∀ l : List α, PyData.canLayAll0 (l.map f) = true ∧ PyData.depthAll (l.map f) ≤ k
  | [] => ⟨rfl, Nat.zero_le _⟩
  | a :: l => by
    obtain ⟨h1, h2⟩ := emb_all h l
    have h3 := h.dep a
    refine ⟨by simp [PyData.canLayAll0, h.lay a, h1], ?_⟩
    simp only [List.map_cons, PyData.depthAll]
    omega
theorem emb_eqAll (h : EmbD f k) : ∀ a b : List α, PyData.eqvAll (a.map f) (b.map f) = decide (a = b)
  | [], [] => rfl
  | [], _ :: _ => rfl
  | _ :: _, [] => rfl
  | x :: a, y :: b => by
    simp only [List.map_cons, PyData.eqvAll, h.eqv, emb_eqAll h a b]
    by_cases h1 : x = y <;> by_cases h2 : a = b <;> simp [h1, h2]
theorem emb_list (h : EmbD f k) : EmbD (fun l : List α => PyData.list (l.map f)) (k + 1) where
  lay := fun l => by simp [PyData.canLay0, (emb_all h l).1]
  dep := fun l => by
    have := (emb_all h l).2
    simp only [PyData.depth]
    omega
  eqv := fun a b => by simp only [PyData.eqv, emb_eqAll h]
theorem emb_tup (h : EmbD f k) : EmbD (fun l : List α => PyData.tuple (l.map f)) (k + 1) where
  lay := fun l => by simp [PyData.canLay0, (emb_all h l).1]
  dep := fun l => by
    have := (emb_all h l).2
    simp only [PyData.depth]
    omega
  eqv := fun a b => by simp only [PyData.eqv, emb_eqAll h]
theorem emb_sh (h : EmbD f k) (hk : k ≤ 64) (a : α) : SeqAt.shaped (f a) = true := by
  unfold SeqAt.shaped
  rw [h.lay a, decide_eq_true (Nat.le_trans (h.dep a) hk)]
  rfl
theorem emb_eq (h : EmbD f k) (hk : k ≤ 64) (a b : α) : eqD (f a) (f b) = some (decide (a = b)) := by
  unfold eqD
  rw [if_pos ⟨emb_sh h hk a, emb_sh h hk b⟩, h.eqv]
theorem emb_any (h : EmbD f k) (a : α) (l : List α) : ((l.map f).any fun x => PyData.eqv x (f a)) = decide (a ∈ l) := by
  induction l with
  | nil => rfl
  | cons b l ih =>
    rw [List.map_cons, List.any_cons, ih, h.eqv]
    by_cases h1 : b = a
    · subst h1
      simp
    · have h1' : ¬ a = b := fun e => h1 e.symm
      simp [h1, h1']
theorem emb_inL (h : EmbD f k) (hk : k < 64) (a : α) (l : List α) : inD (f a) (.list (l.map f)) = some (decide (a ∈ l)) := by
  rw [in_l, if_pos ⟨emb_sh h (by omega) a, emb_sh (emb_list h) (by omega) l⟩, emb_any h]
theorem emb_inT (h : EmbD f k) (hk : k < 64) (a : α) (l : List α) : inD (f a) (.tuple (l.map f)) = some (decide (a ∈ l)) := by
  rw [in_t, if_pos ⟨emb_sh h (by omega) a, emb_sh (emb_tup h) (by omega) l⟩, emb_any h]
end
theorem emb_row : EmbD rowD 1 := emb_tup emb_int
theorem rowsD_rows : ∀ L : List (List Int), rowsD (L.map rowD) = some L
  | [] => rfl
  | r :: L => by
    rw [List.map_cons]
    simp only [rowsD, rowD, intsD_ints]
    rw [rowsD_rows L]
theorem sort_rows {L : List (List Int)} (ok : okRows L = true) : biD .sorted [.list (L.map rowD)] = some (.o (.lst ((sortR L).map rowD))) := by
  cases L with
  | nil => rfl
  | cons r L =>
    show (match intsD (rowD r :: L.map rowD) with
      | some ns => some (R.o (.lst ((sortI ns).map .int)))
      | none => (rowsD (rowD r :: L.map rowD)).bind fun L => if okRows L = true then some (.o (.lst ((sortR L).map rowD))) else none) = _
    rw [show intsD (rowD r :: L.map rowD) = none from rfl]
    dsimp only
    rw [show (rowD r :: L.map rowD) = (r :: L).map rowD from rfl, rowsD_rows]
    simp only [Option.bind_some, if_pos ok]
theorem okRows_of {L : List (List Int)} {d : Nat} (hd : 1 ≤ d) (hl : L.length < 64) (h : ∀ r ∈ L, r.length = d ∧ ∀ x ∈ r, 0 ≤ x) : okRows L = true := by
  cases L with
  | nil => rfl
  | cons r L =>
    have hr := h r List.mem_cons_self
    simp only [okRows, Bool.and_eq_true, decide_eq_true_eq, List.all_eq_true]
    rw [List.length_cons] at hl
    refine ⟨⟨fun e => ?_, by omega⟩, fun s hs => ⟨?_, fun x hx => (h s hs).2 x hx⟩⟩
    · rw [e] at hr
      simp at hr
      omega
    · rw [(h s hs).1, hr.1]
theorem setR_t {L : List (List Int)} (ok : okRows L = true) : setR (.tuple (L.map rowD)) = some (dedR L) := by
  show (Option.bind (some (L.map rowD)) _) = _
  rw [Option.bind_some, rowsD_rows, Option.bind_some, if_pos ok]
theorem setR_l {L : List (List Int)} (ok : okRows L = true) : setR (.list (L.map rowD)) = some (dedR L) := by
  show (Option.bind (some (L.map rowD)) _) = _
  rw [Option.bind_some, rowsD_rows, Option.bind_some, if_pos ok]
theorem sortSet_of {d : PyData} {L : List (List Int)} (h : setR d = some L) : sortSetD d = some (.o (.lst ((sortR L).map rowD))) := by
  unfold sortSetD
  rw [h]
  rfl
theorem lenSet_of {d : PyData} {L : List (List Int)} (h : setR d = some L) : lenSetD d = some (.v (.int L.length)) := by
  unfold lenSetD
  rw [h]
  rfl
/-- products by a loop -/
theorem map_nil_iff {α β : Type} {f : α → β} {l : List α} (h : [] = l.map f) : l = [] := by
  cases l with
  | nil => rfl
  | cons _ _ => cases h
structure Shape (ns : List Int) : Prop where
  ne : ns ≠ []
  len : ns.length ≤ 8
  el : ∀ n ∈ ns, 2 ≤ n ∧ n ≤ 9
  pr : prodI ns ≤ 256
theorem Shape.pos {ns : List Int} (h : Shape ns) : ∀ n ∈ ns, 1 ≤ n := fun n hn => by
  have := h.el n hn
  omega
theorem all_true {bs : List Bool} (h : ∀ b ∈ bs, b = true) : bs.all id = true := by
  rw [List.all_eq_true]
  exact h
theorem boolsD_rep {α : Type} (f : α → Bool) (l : List α) : boolsD (l.map fun x => .bool (f x)) = some (l.map f) := by
  rw [show (l.map fun x => PyData.bool (f x)) = (l.map f).map PyData.bool by rw [List.map_map]; rfl]
  exact boolsD_bools _
theorem filterMap_some {α β : Type} (f : α → β) (l : List α) : l.filterMap (fun x => some (f x)) = l.map f := by
  induction l with
  | nil => rfl
  | cons x l ih => simp [ih]
/-- a comprehension over data of one kind -/
theorem compL_all {α : Type} {turn : PyData → En → Rs (Option PyData)} {g : En → Prop} {e : En} {mk : α → PyData} {f : α → PyData} {items : List α} (hg : g e) (h : ∀ x ∈ items, turn (mk x) e = .ok (some (f x)) e) (hl : items.length ≤ 16777216) : compL turn g (items.map mk) [] e = .ok (items.map f) e := by
  have aux : ∀ (l : List α) (acc : List PyData), (∀ x ∈ l, turn (mk x) e = .ok (some (f x)) e) → acc.length + l.length ≤ sizeLine → compL turn g (l.map mk) acc e = .ok (acc ++ l.map f) e := by
    intro l
    induction l with
    | nil =>
      intro acc _ _
      unfold compL
      rw [List.map_nil]
      simp [hg]
    | cons x l ih =>
      intro acc h1 h2
      rw [List.length_cons] at h2
      rw [List.map_cons]
      unfold compL
      rw [if_pos hg, h1 x List.mem_cons_self]
      simp only [Rs.bind_ok]
      rw [if_pos (by omega), ih _ (fun y hy => h1 y (List.mem_cons_of_mem _ hy)) (by rw [List.length_append]; simp; omega)]
      simp
  rw [aux items [] h (by simpa using sl_le hl)]
  simp
/-- the same with some left out -/
theorem compL_some {α : Type} {turn : PyData → En → Rs (Option PyData)} {g : En → Prop} {e : En} {mk : α → PyData} {f : α → Option PyData} {items : List α} (hg : g e) (h : ∀ x ∈ items, turn (mk x) e = .ok (f x) e) (hl : items.length ≤ 16777216) : compL turn g (items.map mk) [] e = .ok (items.filterMap f) e := by
  have aux : ∀ (l : List α) (acc : List PyData), (∀ x ∈ l, turn (mk x) e = .ok (f x) e) → acc.length + l.length ≤ sizeLine → compL turn g (l.map mk) acc e = .ok (acc ++ l.filterMap f) e := by
    intro l
    induction l with
    | nil =>
      intro acc _ _
      unfold compL
      rw [List.map_nil]
      simp [hg]
    | cons x l ih =>
      intro acc h1 h2
      rw [List.length_cons] at h2
      rw [List.map_cons]
      unfold compL
      rw [if_pos hg, h1 x List.mem_cons_self]
      simp only [Rs.bind_ok]
      cases hf : f x with
      | none =>
        dsimp only
        rw [ih _ (fun y hy => h1 y (List.mem_cons_of_mem _ hy)) (by omega)]
        simp [hf]
      | some d =>
        dsimp only
        rw [if_pos (by omega), ih _ (fun y hy => h1 y (List.mem_cons_of_mem _ hy)) (by rw [List.length_append]; simp; omega)]
        simp [hf]
  rw [aux items [] h (by simpa using sl_le hl)]
  simp
theorem inR_small {i : Int} (h : -1000000000 ≤ i ∧ i ≤ 1000000000) : inR62 i := by
  unfold inR62
  omega
theorem atI_get {α : Type} {l : List α} {i : Int} {k : Nat} {x : α} (hi : i = (k : Int)) (h : l[k]? = some x) : atI l i = some x := by
  subst hi
  exact atI_nat h
@[simp] theorem all_tt {α : Type} (l : List α) : (l.all fun _ => true) = true := by
  rw [List.all_eq_true]
  exact fun _ _ => rfl
/-- a walk over data of one kind; b is what the state hangs on -/
theorem forL_st {α β : Type} {turn : PyData → En → SR} (mk : α → PyData) (st : β → En) (P : List α → β → Prop) (hs : ∀ x xs b, P (x :: xs) b → ∃ b', turn (mk x) (st b) = .nx (st b') ∧ P xs b') : ∀ (xs : List α) (b : β), P xs b → ∃ b', forL turn (xs.map mk) (st b) = .nx (st b') ∧ P [] b'
  | [], b, h => ⟨b, rfl, h⟩
  | x :: xs, b, h => by
    obtain ⟨b1, h1, h2⟩ := hs x xs b h
    obtain ⟨b2, h3, h4⟩ := forL_st mk st P hs xs b1 h2
    refine ⟨b2, ?_, h4⟩
    rw [List.map_cons]
    unfold forL
    rw [h1]
    exact h3
/-- the same with an end amid -/
theorem forL_stE {α β : Type} {turn : PyData → En → SR} (mk : α → PyData) (st : β → En) (P : List α → β → Prop) (G : SR → Prop) (hG : ∀ r e, G (.rt r e) → True) (hs : ∀ x xs b, P (x :: xs) b → (∃ b', turn (mk x) (st b) = .nx (st b') ∧ P xs b') ∨ ∃ r e', turn (mk x) (st b) = .rt r e' ∧ G (.rt r e')) :
    ∀ (xs : List α) (b : β), P xs b → (∃ b', forL turn (xs.map mk) (st b) = .nx (st b') ∧ P [] b') ∨ ∃ r e', forL turn (xs.map mk) (st b) = .rt r e' ∧ G (.rt r e')
  | [], b, h => .inl ⟨b, rfl, h⟩
  | x :: xs, b, h => by
    rcases hs x xs b h with ⟨b1, h1, h2⟩ | ⟨r, e', h1, h2⟩
    · have q := forL_stE mk st P G hG hs xs b1 h2
      rw [List.map_cons]
      unfold forL
      rw [h1]
      exact q
    · refine .inr ⟨r, e', ?_, h2⟩
      rw [List.map_cons]
      unfold forL
      rw [h1]
theorem cut_from {ds : List PyData} {i : Int} (h : 0 ≤ i) : cutD ds (some i) none = ds.drop i.toNat := by
  unfold cutD
  have e1 : HT.sIx ds.length 0 (some i) = min i.toNat ds.length := by
    have := HT.sIx_nat ds.length 0 i.toNat
    rwa [Int.toNat_of_nonneg h] at this
  rw [e1, HT.sIx_none]
  by_cases hi : i.toNat ≤ ds.length
  · rw [Nat.min_eq_left hi, List.take_of_length_le (by rw [List.length_drop]; omega)]
  · rw [Nat.min_eq_right (by omega), List.drop_length, List.drop_eq_nil_of_le (by omega)]
    simp
theorem cut_to {ds : List PyData} {i : Int} (h : 0 ≤ i) : cutD ds none (some i) = ds.take i.toNat := by
  unfold cutD
  have e1 : HT.sIx ds.length ds.length (some i) = min i.toNat ds.length := by
    have := HT.sIx_nat ds.length ds.length i.toNat
    rwa [Int.toNat_of_nonneg h] at this
  rw [e1, HT.sIx_none, List.drop_zero, Nat.sub_zero]
  by_cases hi : i.toNat ≤ ds.length
  · rw [Nat.min_eq_left hi]
  · rw [Nat.min_eq_right (by omega), List.take_of_length_le (by omega), List.take_of_length_le (by omega)]
theorem zipD_map {α β : Type} (f : α → PyData) (g : β → PyData) (a : List α) (b : List β) : zipD (a.map f) (b.map g) = (a.zip b).map fun p => .tuple [f p.1, g p.2] := by
  unfold zipD
  rw [List.zip_map, List.map_map]
  rfl
theorem enumD_map {α : Type} (f : α → PyData) (a : List α) : enumD (a.map f) = a.zipIdx.map fun p => .tuple [.int (p.2 : Int), f p.1] := by
  unfold enumD
  rw [List.zipIdx_map, List.map_map]
  rfl
theorem lay_ints : ∀ ns : List Int, PyData.canLayAll0 (ns.map PyData.int) = true ∧ PyData.depthAll (ns.map PyData.int) = 0
  | [] => ⟨rfl, rfl⟩
  | n :: ns => by
    obtain ⟨h1, h2⟩ := lay_ints ns
    exact ⟨by simp [PyData.canLayAll0, PyData.canLay0, h1], by simp [PyData.depthAll, PyData.depth, h2]⟩
theorem shaped_ints (ns : List Int) : SeqAt.shaped (.list (ns.map PyData.int)) = true ∧ SeqAt.shaped (.tuple (ns.map PyData.int)) = true := by
  obtain ⟨h1, h2⟩ := lay_ints ns
  unfold SeqAt.shaped
  simp [PyData.canLay0, PyData.depth, h1, h2]
theorem eqvAll_ints : ∀ a b : List Int, PyData.eqvAll (a.map PyData.int) (b.map PyData.int) = decide (a = b)
  | [], [] => rfl
  | [], _ :: _ => rfl
  | _ :: _, [] => rfl
  | x :: a, y :: b => by
    simp only [List.map_cons, PyData.eqvAll, PyData.eqv, eqvAll_ints a b]
    by_cases h : x = y <;> by_cases k : a = b <;> simp [h, k]
theorem eq_lints (a b : List Int) : eqD (.list (a.map .int)) (.list (b.map .int)) = some (decide (a = b)) := by
  unfold eqD
  rw [if_pos ⟨(shaped_ints a).1, (shaped_ints b).1⟩]
  simp only [PyData.eqv, eqvAll_ints]
theorem eq_lnil (a : List Int) : eqD (.list (a.map .int)) (.list []) = some (decide (a = [])) := eq_lints a []
@[simp] theorem eq_nn : eqD .none .none = some true := rfl
@[simp] theorem eq_ni {i : Int} : eqD .none (.int i) = some false := rfl
@[simp] theorem eq_in {i : Int} : eqD (.int i) .none = some false := rfl
end Ev

/-! Ev, part Sh: what repr tells is a text that can be laid; its length; data bounded in width. -/
namespace Ev
open PySem L2
theorem strOk_str (s : String) : PyData.strOk (s : Str) = true := by
  show PyData.strOk (Str.ofString s) = true
  rw [Str.ofString_eq_toList]
  unfold PyData.strOk
  rw [Array.all_eq_true']
  intro x hx
  simp only [List.mem_toArray, List.mem_map] at hx
  obtain ⟨c, _, rfl⟩ := hx
  have h := c.valid
  simp only [UInt32.isValidChar, Nat.isValidChar] at h
  have e : c.toNat = c.val.toNat := rfl
  simp only [decide_eq_true_eq]
  omega
theorem ok_cat {a b : Str} (ha : PyData.strOk a = true) (hb : PyData.strOk b = true) : PyData.strOk (a ++ b) = true := by
  show (a.cps ++ b.cps).all (· < 0x110000) = true
  rw [Array.all_append, Bool.and_eq_true]
  exact ⟨ha, hb⟩
theorem ok_from : ∀ (ts : List Str) (k : Nat) (acc : Str), PyData.strOk acc = true → (∀ t ∈ ts, PyData.strOk t = true) → PyData.strOk (textFrom k acc ts) = true
  | [], _, _, h, _ => h
  | t :: ts, k, acc, h, ht => ok_from ts (k + 1) _ (ok_cat (ok_cat h (strOk_str _)) (ht t List.mem_cons_self)) fun x hx => ht x (List.mem_cons_of_mem _ hx)
theorem ok_join : ∀ ts : List Str, (∀ t ∈ ts, PyData.strOk t = true) → PyData.strOk (Str.join ", " ts) = true
  | [], _ => by decide +kernel
  | [x], h => h x List.mem_cons_self
  | x :: y :: r, h => ok_cat (ok_cat (h x List.mem_cons_self) (strOk_str _)) (ok_join (y :: r) fun t ht => h t (List.mem_cons_of_mem _ ht))
theorem char_lt (c : Char) : c.toNat < 0x110000 := by
  have h := c.valid
  simp only [UInt32.isValidChar, Nat.isValidChar] at h
  have e : c.toNat = c.val.toNat := rfl
  omega
theorem ok_char {q c : Nat} (hc : c < 0x110000) : ∀ y ∈ Builtin.Str.reprChar q c, y < 0x110000 := by
  have hex : ∀ w : Nat, ∀ y ∈ List.replicate (w - ((Nat.toDigits 16 c).map Char.toNat).length) 48 ++ (Nat.toDigits 16 c).map Char.toNat, y < 0x110000 := fun w y hy => by
    rcases List.mem_append.mp hy with hy | hy
    · rw [(List.mem_replicate.mp hy).2]
      decide
    · obtain ⟨z, _, rfl⟩ := List.mem_map.mp hy
      exact char_lt z
  have two : ∀ a b : Nat, a < 0x110000 → b < 0x110000 → ∀ y ∈ [a, b], y < 0x110000 := fun a b ha hb y hy => by
    simp only [List.mem_cons, List.not_mem_nil, or_false] at hy
    rcases hy with rfl | rfl <;> assumption
  have esc : ∀ (a b w : Nat), a < 0x110000 → b < 0x110000 → ∀ y ∈ [a, b] ++ (List.replicate (w - ((Nat.toDigits 16 c).map Char.toNat).length) 48 ++ (Nat.toDigits 16 c).map Char.toNat), y < 0x110000 := fun a b w ha hb y hy => by
    rcases List.mem_append.mp hy with hy | hy
    · exact two a b ha hb y hy
    · exact hex w y hy
  unfold Builtin.Str.reprChar
  dsimp only
  split
  · exact two _ _ (by decide) hc
  · split
    · exact two _ _ (by decide) (by decide)
    · split
      · exact two _ _ (by decide) (by decide)
      · split
        · exact two _ _ (by decide) (by decide)
        · split
          · intro y hy
            rw [List.mem_singleton.mp hy]
            exact hc
          · split
            · exact esc _ _ _ (by decide) (by decide)
            · split
              · exact esc _ _ _ (by decide) (by decide)
              · exact esc _ _ _ (by decide) (by decide)
theorem ok_text {x : Str} (h : PyData.strOk x = true) : PyData.strOk (reprText x) = true := by
  have hq : reprQuote x < 0x110000 := by
    unfold reprQuote
    split <;> decide
  have hx : ∀ c ∈ x.cps.toList, c < 0x110000 := fun c hc => by
    have := Array.all_eq_true'.mp h c (by simpa using hc)
    simpa using this
  have aux : ∀ (l : List Nat) (acc : Array Nat), (∀ c ∈ l, c < 0x110000) → (∀ c ∈ acc, c < 0x110000) → ∀ c ∈ l.foldl (fun out c => out ++ (Builtin.Str.reprChar (reprQuote x) c).toArray) acc, c < 0x110000 := by
    intro l
    induction l with
    | nil => exact fun acc _ ha => ha
    | cons c l ih =>
      intro acc hl ha
      refine ih _ (fun y hy => hl y (List.mem_cons_of_mem _ hy)) fun y hy => ?_
      rcases Array.mem_append.mp hy with hy | hy
      · exact ha y hy
      · exact ok_char (hl c List.mem_cons_self) y (by simpa using hy)
  unfold PyData.strOk reprText
  rw [Array.all_eq_true']
  intro y hy
  simp only [decide_eq_true_eq]
  rcases Array.mem_push.mp hy with hy | hy
  · rw [← Array.foldl_toList] at hy
    exact aux x.cps.toList _ hx (fun c hc => by
      simp at hc
      rw [hc]
      exact hq) y hy
  · rw [hy]
    exact hq
mutual
theorem shown_ok : ∀ d : PyData, d.canLay0 = true → PyData.strOk d.shown = true
  | .none, _ => strOk_str _
  | .bool b, _ => by cases b <;> exact strOk_str _
  | .int i, _ => strOk_str _
  | .str x, h => by
    simp only [PyData.shown]
    exact ok_text (by simpa [PyData.canLay0] using h)
  | .list xs, h => by
    simp only [PyData.shown]
    exact ok_cat (ok_from _ _ _ (strOk_str _) (shownAll_ok xs (by simpa [PyData.canLay0] using h))) (strOk_str _)
  | .tuple xs, h => by
    simp only [PyData.shown]
    exact ok_cat (ok_cat (strOk_str _) (ok_join _ (shownAll_ok xs (by simpa [PyData.canLay0] using h)))) (strOk_str _)
  | .dict _, h => by simp [PyData.canLay0] at h
theorem shownAll_ok : ∀ xs : List PyData, PyData.canLayAll0 xs = true → ∀ t ∈ PyData.shownAll xs, PyData.strOk t = true
  | [], _ => fun t ht => by simp [PyData.shownAll] at ht
  | x :: xs, h => fun t ht => by
    simp only [PyData.canLayAll0, Bool.and_eq_true] at h
    simp only [PyData.shownAll, List.mem_cons] at ht
    rcases ht with rfl | ht
    · exact shown_ok x h.1
    · exact shownAll_ok xs h.2 t ht
end
theorem shown_eq {d : PyData} (h : d.canLay0 = true) : eqD (.str d.shown) (.str d.shown) = some true := by
  have sh : SeqAt.shaped (.str d.shown) = true := by
    unfold SeqAt.shaped
    rw [show (PyData.str d.shown).canLay0 = true by simpa [PyData.canLay0] using shown_ok d h, decide_eq_true (by simp [PyData.depth])]
    rfl
  unfold eqD
  rw [if_pos ⟨sh, sh⟩]
  congr 1
  exact beq_self_eq_true _
theorem repr_bool (b : Bool) : reprOk (.bool b) = true := by cases b <;> decide +kernel
/-! how long -/
def intL (i : Int) : Nat := if i.natAbs < 10 then 2 else if i.natAbs < 1000 then 4 else if i.natAbs < 10 ^ 40 then 41 else 1921
mutual
def cL : PyData → Nat
  | .none => 4
  | .bool _ => 5
  | .int i => intL i
  | .str x => (reprText x).length
  | .list xs => cLs xs + 3
  | .tuple xs => cLs xs + 3
  | .dict _ => 2
def cLs : List PyData → Nat
  | [] => 0
  | x :: xs => cL x + 2 + cLs xs
end
theorem len_of (s : String) : (Str.ofString s).length = s.length := by
  rw [Str.ofString_eq_toList]
  show (s.toList.map Char.toNat).toArray.size = _
  rw [List.size_toArray, List.length_map, String.length_toList]
theorem int_cL {i : Int} (h : i.natAbs.log2 < 1920) : (PyData.shown (.int i)).length ≤ intL i := by
  show (Str.ofString (toString i)).length ≤ _
  rw [len_of]
  unfold intL
  split
  · rename_i q
    exact int_text_length_le10 (k := 1) (by decide) (by simpa using q)
  · split
    · rename_i q
      exact int_text_length_le10 (k := 3) (by decide) (by simpa using q)
    · split
      · rename_i q
        exact int_text_length_le10 (k := 40) (by decide) q
      · exact int_text_length_le (by decide) h
mutual
theorem shown_cL : ∀ d : PyData, d.canLay0 = true → d.showable = true → d.shown.length ≤ cL d
  | .none, _, _ => by decide +kernel
  | .bool b, _, _ => by cases b <;> decide +kernel
  | .int i, _, h => int_cL (by simpa [PyData.showable] using h)
  | .str x, _, _ => Nat.le_refl _
  | .list xs, h1, h2 => by
    have h := shownAll_cL xs (by simpa [PyData.canLay0] using h1) (by simpa [PyData.showable] using h2)
    have a := listText_len_le (PyData.shownAll xs)
    simp only [PyData.shown, cL]
    omega
  | .tuple xs, h1, h2 => by
    have h := shownAll_cL xs (by simpa [PyData.canLay0] using h1) (by simpa [PyData.showable] using h2)
    have a := tupleText_len_le (PyData.shownAll xs)
    simp only [PyData.shown, cL]
    omega
  | .dict _, h, _ => by simp [PyData.canLay0] at h
theorem shownAll_cL : ∀ xs : List PyData, PyData.canLayAll0 xs = true → PyData.showableAll xs = true → ((PyData.shownAll xs).map (·.length)).sum + 2 * (PyData.shownAll xs).length ≤ cLs xs
  | [], _, _ => Nat.le_refl _
  | x :: xs, h1, h2 => by
    simp only [PyData.canLayAll0, Bool.and_eq_true] at h1
    simp only [PyData.showableAll, Bool.and_eq_true] at h2
    have a := shown_cL x h1.1 h2.1
    have b := shownAll_cL xs h1.2 h2.2
    simp only [PyData.shownAll, List.map_cons, List.sum_cons, List.length_cons, cLs]
    omega
end
theorem repr_of {d : PyData} (h1 : d.canLay0 = true) (h2 : d.showable = true) (h3 : d.depth ≤ 60) (h4 : cL d ≤ 16777216) : reprOk d = true := by
  have := shown_cL d h1 h2
  unfold reprOk
  rw [h1, h2, decide_eq_true h3, decide_eq_true (sl_le (by omega))]
  rfl
theorem cLs_le {b : Nat} : ∀ {xs : List PyData}, (∀ x ∈ xs, cL x ≤ b) → cLs xs ≤ xs.length * (b + 2)
  | [], _ => by simp [cLs]
  | x :: xs, h => by
    have h1 := h x List.mem_cons_self
    have h2 := cLs_le fun y hy => h y (List.mem_cons_of_mem x hy)
    rw [cLs, List.length_cons, Nat.add_mul]
    omega
theorem cLs_append : ∀ xs ys : List PyData, cLs (xs ++ ys) = cLs xs + cLs ys
  | [], ys => by simp [cLs]
  | x :: xs, ys => by
    rw [List.cons_append, cLs, cLs, cLs_append xs ys]
    omega
theorem cLs_mem {x : PyData} : ∀ {xs : List PyData}, x ∈ xs → cL x ≤ cLs xs
  | y :: ys, h => by
    rw [cLs]
    rcases List.mem_cons.mp h with e | h
    · subst e
      omega
    · have := cLs_mem h
      omega
theorem cLs_sub {xs ys : List PyData} (h : xs.Sublist ys) : cLs xs ≤ cLs ys := by
  induction h with
  | slnil => exact Nat.le_refl _
  | cons a _ ih => rw [cLs]; omega
  | cons_cons a _ ih => rw [cLs, cLs]; omega
end Ev

/-! plain: rows, distances, heaps that cover -/
namespace NR
def rg (n : Int) : List Int := (List.range n.toNat).map fun i : Nat => (i : Int)
theorem mem_rg {n i : Int} : i ∈ rg n ↔ 0 ≤ i ∧ i < n := by
  unfold rg
  rw [List.mem_map]
  constructor
  · rintro ⟨k, hk, rfl⟩
    have := List.mem_range.mp hk
    omega
  · rintro ⟨h1, h2⟩
    exact ⟨i.toNat, List.mem_range.mpr (by omega), by omega⟩
theorem rg_length (n : Int) : (rg n).length = n.toNat := by unfold rg; simp
theorem nodup_map_inj {α β : Type} {f : α → β} {l : List α} (hf : ∀ x ∈ l, ∀ y ∈ l, f x = f y → x = y) (h : l.Nodup) : (l.map f).Nodup := by
  induction l with
  | nil => exact List.nodup_nil
  | cons x l ih =>
    rw [List.map_cons]
    obtain ⟨h1, h2⟩ := List.nodup_cons.mp h
    refine List.nodup_cons.mpr ⟨fun z => ?_, ih (fun a ha b hb => hf a (List.mem_cons_of_mem _ ha) b (List.mem_cons_of_mem _ hb)) h2⟩
    obtain ⟨y, hy, e⟩ := List.mem_map.mp z
    rw [hf y (List.mem_cons_of_mem _ hy) x List.mem_cons_self e] at hy
    exact h1 hy
theorem rg_nodup (n : Int) : (rg n).Nodup := nodup_map_inj (fun a _ b _ h => by omega) List.nodup_range
/-- how many stand among others -/
theorem nodup_len {α : Type} [DecidableEq α] : ∀ {l m : List α}, l.Nodup → (∀ x ∈ l, x ∈ m) → l.length ≤ m.length
  | [], _, _, _ => Nat.zero_le _
  | x :: l, m, h, hs => by
    obtain ⟨h1, h2⟩ := List.nodup_cons.mp h
    have hm := hs x List.mem_cons_self
    have q := nodup_len (l := l) (m := m.erase x) h2 fun y hy => by
      have hne : y ≠ x := fun e => h1 (by rw [← e]; exact hy)
      exact (List.mem_erase_of_ne hne).mpr (hs y (List.mem_cons_of_mem _ hy))
    have := List.length_erase_of_mem hm
    have := List.length_pos_of_mem hm
    rw [List.length_cons]
    omega
/-- unlike ones of as many are all -/
theorem nodup_all {α : Type} [DecidableEq α] {l m : List α} (h : l.Nodup) (hs : ∀ x ∈ l, x ∈ m) (hl : m.length ≤ l.length) : ∀ x ∈ m, x ∈ l := fun x hx => by
  refine Classical.byContradiction fun hn => ?_
  have q := nodup_len (l := l) (m := m.erase x) h fun y hy => by
    have hne : y ≠ x := fun e => hn (by rw [← e]; exact hy)
    exact (List.mem_erase_of_ne hne).mpr (hs y hy)
  have := List.length_erase_of_mem hx
  have := List.length_pos_of_mem hx
  omega
theorem nodup_perm {α : Type} [DecidableEq α] : ∀ {l m : List α}, l.Nodup → (∀ x ∈ l, x ∈ m) → m.length = l.length → l.Perm m
  | [], m, _, _, e => by
    have : m = [] := List.eq_nil_of_length_eq_zero (by simpa using e)
    rw [this]
  | x :: l, m, h, hs, e => by
    obtain ⟨h1, h2⟩ := List.nodup_cons.mp h
    have hm := hs x List.mem_cons_self
    have := List.length_erase_of_mem hm
    have := List.length_pos_of_mem hm
    rw [List.length_cons] at e
    have q := nodup_perm (l := l) (m := m.erase x) h2 (fun y hy => by
      have hne : y ≠ x := fun e => h1 (by rw [← e]; exact hy)
      exact (List.mem_erase_of_ne hne).mpr (hs y (List.mem_cons_of_mem _ hy))) (by omega)
    exact (q.cons x).trans (List.perm_cons_erase hm).symm

/-! rows -/
def IsRow : List Int → List Int → Prop
  | [], [] => True
  | s :: sh, x :: r => 0 ≤ x ∧ x < s ∧ IsRow sh r
  | _, _ => False
theorem IsRow.len : ∀ {sh r : List Int}, IsRow sh r → r.length = sh.length
  | [], [], _ => rfl
  | s :: sh, x :: r, h => by rw [List.length_cons, List.length_cons, h.2.2.len]
  | [], _ :: _, h => h.elim
  | _ :: _, [], h => h.elim
theorem isRow_snoc : ∀ {sh r : List Int} {s x : Int}, IsRow (sh ++ [s]) (r ++ [x]) ↔ IsRow sh r ∧ 0 ≤ x ∧ x < s
  | [], [], s, x => by simp [IsRow]
  | _ :: sh, _ :: r, s, x => by
    rw [List.cons_append, List.cons_append]
    simp only [IsRow, isRow_snoc (sh := sh) (r := r)]
    constructor
    · rintro ⟨a, b, c, d⟩; exact ⟨⟨a, b, c⟩, d⟩
    · rintro ⟨⟨a, b, c⟩, d⟩; exact ⟨a, b, c, d⟩
  | [], y :: r, s, x => by
    simp only [List.nil_append, List.cons_append, IsRow]
    constructor
    · rintro ⟨_, _, h⟩
      cases r <;> simp [IsRow] at h
    · rintro ⟨h, _⟩; exact h.elim
  | s' :: sh, [], s, x => by
    simp only [List.nil_append, List.cons_append, IsRow]
    constructor
    · rintro ⟨_, _, h⟩
      cases sh <;> simp [IsRow] at h
    · rintro ⟨h, _⟩; exact h.elim
theorem isRow_get : ∀ {sh r : List Int}, IsRow sh r ↔ r.length = sh.length ∧ ∀ i : Nat, ∀ x s, r[i]? = some x → sh[i]? = some s → 0 ≤ x ∧ x < s
  | [], [] => by simp [IsRow]
  | [], x :: r => by simp [IsRow]
  | s :: sh, [] => by simp [IsRow]
  | s :: sh, x :: r => by
    simp only [IsRow, isRow_get (sh := sh) (r := r), List.length_cons]
    constructor
    · rintro ⟨a, b, c, d⟩
      refine ⟨by omega, fun i y t h1 h2 => ?_⟩
      cases i with
      | zero =>
        simp at h1 h2
        subst h1 h2
        exact ⟨a, b⟩
      | succ i => exact d i y t (by simpa using h1) (by simpa using h2)
    · rintro ⟨a, b⟩
      obtain ⟨c, d⟩ := b 0 x s (by simp) (by simp)
      exact ⟨c, d, by omega, fun i y t h1 h2 => b (i + 1) y t (by simpa using h1) (by simpa using h2)⟩
/-- the rows that begin as some do -/
def rowsF : List Int → List (List Int) → List (List Int)
  | [], acc => acc
  | s :: sh, acc => rowsF sh (acc.flatMap fun r => (rg s).map fun i => r ++ [i])
def rowsI (sh : List Int) : List (List Int) := rowsF sh [[]]
theorem rowsF_eq : ∀ (sh : List Int) (acc : List (List Int)), rowsF sh acc = acc.flatMap fun r => (rowsI sh).map fun t => r ++ t
  | [], acc => by simp [rowsF, rowsI]
  | s :: sh, acc => by
    unfold rowsI
    rw [rowsF, rowsF_eq sh, rowsF, rowsF_eq sh]
    simp [List.flatMap_assoc, List.flatMap_map, List.map_flatMap, Function.comp_def]
theorem rowsI_cons (s : Int) (sh : List Int) : rowsI (s :: sh) = (rg s).flatMap fun i => (rowsI sh).map fun t => i :: t := by
  unfold rowsI
  rw [rowsF, rowsF_eq]
  simp [List.flatMap_map, rowsI]
theorem mem_rows : ∀ {sh r : List Int}, r ∈ rowsI sh ↔ IsRow sh r
  | [], r => by
    cases r <;> simp [rowsI, rowsF, IsRow]
  | s :: sh, r => by
    rw [rowsI_cons, List.mem_flatMap]
    constructor
    · rintro ⟨i, hi, h⟩
      obtain ⟨t, ht, rfl⟩ := List.mem_map.mp h
      exact ⟨(mem_rg.mp hi).1, (mem_rg.mp hi).2, mem_rows.mp ht⟩
    · intro h
      cases r with
      | nil => exact h.elim
      | cons x r => exact ⟨x, mem_rg.mpr ⟨h.1, h.2.1⟩, List.mem_map.mpr ⟨r, mem_rows.mpr h.2.2, rfl⟩⟩
theorem nodup_flatMap {α β : Type} {f : α → List β} : ∀ {l : List α}, l.Nodup → (∀ x ∈ l, (f x).Nodup) → (∀ x ∈ l, ∀ y ∈ l, ∀ b, b ∈ f x → b ∈ f y → x = y) → (l.flatMap f).Nodup
  | [], _, _, _ => by simp
  | x :: l, h, h1, h2 => by
    obtain ⟨n1, n2⟩ := List.nodup_cons.mp h
    rw [List.flatMap_cons]
    refine List.nodup_append.mpr ⟨h1 x List.mem_cons_self, nodup_flatMap n2 (fun y hy => h1 y (List.mem_cons_of_mem _ hy)) (fun y hy z hz => h2 y (List.mem_cons_of_mem _ hy) z (List.mem_cons_of_mem _ hz)), ?_⟩
    intro a ha b hb e
    subst e
    obtain ⟨y, hy, hb⟩ := List.mem_flatMap.mp hb
    have := h2 x List.mem_cons_self y (List.mem_cons_of_mem _ hy) a ha hb
    subst this
    exact n1 hy
theorem rows_nodup : ∀ sh : List Int, (rowsI sh).Nodup
  | [] => by simp [rowsI, rowsF]
  | s :: sh => by
    rw [rowsI_cons]
    refine nodup_flatMap (rg_nodup s) (fun i _ => nodup_map_inj (fun a _ b _ e => by simpa using e) (rows_nodup sh)) fun i _ j _ b hb hb' => ?_
    obtain ⟨t, _, rfl⟩ := List.mem_map.mp hb
    obtain ⟨u, _, e⟩ := List.mem_map.mp hb'
    simp at e
    exact e.1.symm
def prodI : List Int → Int
  | [] => 1
  | s :: sh => s * prodI sh
theorem rows_length : ∀ {sh : List Int}, (∀ s ∈ sh, 0 ≤ s) → ((rowsI sh).length : Int) = prodI sh
  | [], _ => rfl
  | s :: sh, h => by
    rw [rowsI_cons, List.length_flatMap]
    simp only [List.length_map]
    rw [List.map_const', List.sum_replicate_nat, rg_length, Int.natCast_mul, rows_length fun x hx => h x (List.mem_cons_of_mem _ hx), prodI]
    rw [Int.toNat_of_nonneg (h s List.mem_cons_self)]

/-! distances -/
def apI : List Int → List Int → Nat
  | x :: a, y :: b => (if x = y then 0 else 1) + apI a b
  | _, _ => 0
theorem apI_eq : ∀ a b : List Int, apI a b = ((a.zip b).filter fun p => decide (p.1 ≠ p.2)).length
  | [], b => by simp [apI]
  | x :: a, [] => by simp [apI]
  | x :: a, y :: b => by
    rw [apI, apI_eq a b, List.zip_cons_cons, List.filter_cons]
    by_cases h : x = y <;> simp [h] <;> omega
theorem apI_self : ∀ a : List Int, apI a a = 0
  | [] => rfl
  | x :: a => by rw [apI, apI_self a]; simp
theorem apI_comm : ∀ a b : List Int, apI a b = apI b a
  | [], [] => rfl
  | [], _ :: _ => rfl
  | _ :: _, [] => rfl
  | x :: a, y :: b => by
    rw [apI, apI, apI_comm a b]
    by_cases h : x = y <;> simp [h, eq_comm]
theorem apI_le : ∀ a b : List Int, apI a b ≤ a.length
  | [], b => by simp [apI]
  | x :: a, [] => by simp [apI]
  | x :: a, y :: b => by
    rw [apI, List.length_cons]
    have := apI_le a b
    split <;> omega
theorem apI_zero : ∀ {a b : List Int}, a.length = b.length → apI a b = 0 → a = b
  | [], [], _, _ => rfl
  | [], _ :: _, h, _ => by simp at h
  | _ :: _, [], h, _ => by simp at h
  | x :: a, y :: b, h, e => by
    rw [apI] at e
    by_cases hx : x = y
    · subst hx
      rw [apI_zero (a := a) (b := b) (by simpa using h) (by simpa using e)]
    · simp [hx] at e
theorem apI_tri : ∀ {a b c : List Int}, a.length = b.length → b.length = c.length → apI a c ≤ apI a b + apI b c
  | [], [], [], _, _ => Nat.zero_le _
  | [], _ :: _, _, h, _ => by simp at h
  | _ :: _, [], _, h, _ => by simp at h
  | _, [], _ :: _, _, h => by simp at h
  | _, _ :: _, [], _, h => by simp at h
  | x :: a, y :: b, z :: c, h, k => by
    have q := apI_tri (a := a) (b := b) (c := c) (by simpa using h) (by simpa using k)
    simp only [apI]
    by_cases h1 : x = y <;> by_cases h2 : y = z <;> by_cases h3 : x = z <;> simp [h1, h2, h3] <;> first | omega | (subst_vars; first | omega | contradiction)

/-! far rows, balls -/
def farR (rows : List (List Int)) (ch : List (List Int)) (n : Nat) : List (List Int) := rows.filter fun r => ch.all fun o => decide (n < apI r o)
def ballI (sh r : List Int) (n : Nat) : List (List Int) := (rowsI sh).filter fun o => decide (apI r o ≤ n)
def Cov (sh : List Int) (n : Nat) (hp : List (List Int)) : Prop := ∀ r, IsRow sh r → ∃ o ∈ hp, apI r o ≤ n
theorem mem_far {rows ch : List (List Int)} {n : Nat} {r : List Int} : r ∈ farR rows ch n ↔ r ∈ rows ∧ ∀ o ∈ ch, n < apI r o := by
  unfold farR
  simp [List.mem_filter]
theorem mem_ball {sh r o : List Int} {n : Nat} : o ∈ ballI sh r n ↔ IsRow sh o ∧ apI r o ≤ n := by
  unfold ballI
  rw [List.mem_filter, mem_rows]
  simp
theorem far_nil {sh : List Int} {ch : List (List Int)} {n : Nat} : farR (rowsI sh) ch n = [] ↔ Cov sh n ch := by
  constructor
  · intro h r hr
    refine Classical.byContradiction fun z => ?_
    have : r ∈ farR (rowsI sh) ch n := mem_far.mpr ⟨mem_rows.mpr hr, fun o ho => by
      refine Nat.lt_of_not_le fun q => z ⟨o, ho, q⟩⟩
    rw [h] at this
    cases this
  · intro h
    rw [List.eq_nil_iff_forall_not_mem]
    intro r hr
    obtain ⟨h1, h2⟩ := mem_far.mp hr
    obtain ⟨o, ho, q⟩ := h r (mem_rows.mp h1)
    have := h2 o ho
    omega
theorem filter_two {α : Type} (p : α → Bool) : ∀ l : List α, l.length = (l.filter p).length + (l.filter fun x => !p x).length
  | [] => rfl
  | x :: l => by
    have := filter_two p l
    rw [List.filter_cons, List.filter_cons, List.length_cons]
    cases p x <;> simp <;> omega
/-- so many are met by so few -/
theorem count_le {α β : Type} (P : α → β → Bool) (M : Nat) : ∀ (L : List β) (F : List α), (∀ x ∈ F, ∃ l ∈ L, P x l = true) → (∀ l ∈ L, (F.filter fun x => P x l).length ≤ M) → F.length ≤ L.length * M
  | [], F, h, _ => by
    cases F with
    | nil => simp
    | cons x F =>
      obtain ⟨l, hl, _⟩ := h x List.mem_cons_self
      cases hl
  | l :: L, F, h, hM => by
    have e := filter_two (fun x => P x l) F
    have q := count_le P M L (F.filter fun x => !P x l) (fun x hx => by
      obtain ⟨h1, h2⟩ := List.mem_filter.mp hx
      obtain ⟨l', hl, hp⟩ := h x h1
      rcases List.mem_cons.mp hl with z | z
      · subst z
        rw [hp] at h2
        cases h2
      · exact ⟨l', z, hp⟩) fun l' hl => by
        refine Nat.le_trans ?_ (hM l' (List.mem_cons_of_mem _ hl))
        refine List.Sublist.length_le ?_
        exact List.Sublist.filter _ List.filter_sublist
    have m := hM l List.mem_cons_self
    rw [List.length_cons, Nat.add_mul]
    omega
def mxL : List Nat → Nat
  | [] => 0
  | x :: l => max x (mxL l)
theorem le_mxL : ∀ {l : List Nat} {x : Nat}, x ∈ l → x ≤ mxL l
  | y :: l, x, h => by
    rw [mxL]
    rcases List.mem_cons.mp h with z | z
    · subst z; omega
    · have := le_mxL z
      omega
/-- the greatest number of some rows in a ball -/
def mostI (sh : List Int) (rows : List (List Int)) (n : Nat) : Nat := mxL ((rowsI sh).map fun m => (rows.filter fun r => decide (apI r m ≤ n)).length)
def fewB (sh : List Int) (n : Nat) (rows : List (List Int)) (left : Int) : Bool := decide (left * (mostI sh rows n : Int) < (rows.length : Int))
theorem few_sound {sh : List Int} {n : Nat} {ch L : List (List Int)} {left : Int} (h : fewB sh n (farR (rowsI sh) ch n) left = true) (hl : (L.length : Int) ≤ left) (hL : ∀ x ∈ L, IsRow sh x) : ¬ Cov sh n (ch ++ L) := fun c => by
  have q := count_le (fun (r o : List Int) => decide (apI r o ≤ n)) (mostI sh (farR (rowsI sh) ch n) n) L (farR (rowsI sh) ch n) (fun r hr => by
    obtain ⟨h1, h2⟩ := mem_far.mp hr
    obtain ⟨o, ho, hd⟩ := c r (mem_rows.mp h1)
    rcases List.mem_append.mp ho with z | z
    · have := h2 o z
      omega
    · exact ⟨o, z, by simpa using hd⟩) fun l hl => le_mxL (List.mem_map.mpr ⟨l, mem_rows.mpr (hL l hl), rfl⟩)
  simp only [fewB, decide_eq_true_eq] at h
  have : (L.length : Int) * (mostI sh (farR (rowsI sh) ch n) n : Int) ≤ left * (mostI sh (farR (rowsI sh) ch n) n : Int) := Int.mul_le_mul_of_nonneg_right hl (by omega)
  have q' : ((farR (rowsI sh) ch n).length : Int) ≤ (L.length : Int) * (mostI sh (farR (rowsI sh) ch n) n : Int) := by
    rw [← Int.natCast_mul]
    exact_mod_cast q
  omega
end NR

/-! plain: exchanges -/
namespace NR
def atL (l : List Int) (i : Int) : Int := l.getD i.toNat 0
theorem atL_get {l : List Int} {i : Nat} {x : Int} (h : l[i]? = some x) : atL l (i : Int) = x := by
  unfold atL
  simp [List.getD, h]
theorem get_atL {l : List Int} {i : Int} (h : 0 ≤ i ∧ i < l.length) : l[i.toNat]? = some (atL l i) := by
  unfold atL
  have : i.toNat < l.length := by omega
  simp [List.getD, List.getElem?_eq_getElem this]
theorem atL_mem {l : List Int} {i : Int} (h : 0 ≤ i ∧ i < l.length) : atL l i ∈ l := List.mem_of_getElem? (get_atL h)
theorem map_atL : ∀ l : List Int, (rg l.length).map (atL l) = l := fun l => by
  refine List.ext_getElem (by rw [List.length_map, rg_length]; omega) fun i h1 h2 => ?_
  unfold rg
  simp [atL, List.getD, List.getElem?_eq_getElem h2]
theorem row_at {sh r : List Int} (h : IsRow sh r) {i : Int} (hi : 0 ≤ i ∧ i < sh.length) : 0 ≤ atL r i ∧ atL r i < atL sh i := by
  obtain ⟨h1, h2⟩ := isRow_get.mp h
  exact h2 i.toNat _ _ (get_atL (by omega)) (get_atL hi)
theorem nodup_inj {l : List Int} (h : l.Nodup) {i j : Int} (hi : 0 ≤ i ∧ i < l.length) (hj : 0 ≤ j ∧ j < l.length) (e : atL l i = atL l j) : i = j := by
  have h1 := get_atL hi
  have h2 := get_atL hj
  rw [e, ← h2] at h1
  have := (List.getElem?_inj (by omega) h).mp h1
  omega
def IsPm (m : Int) (l : List Int) : Prop := l.Perm (rg m)
theorem IsPm.nodup {m : Int} {l : List Int} (h : IsPm m l) : l.Nodup := (List.Perm.nodup_iff h).mpr (rg_nodup m)
theorem IsPm.len {m : Int} {l : List Int} (h : IsPm m l) : (l.length : Int) = max m 0 := by
  have := List.Perm.length_eq h
  rw [rg_length] at this
  omega
theorem IsPm.mem {m : Int} {l : List Int} (h : IsPm m l) {x : Int} : x ∈ l ↔ 0 ≤ x ∧ x < m := by
  rw [List.Perm.mem_iff h, mem_rg]
abbrev Exch := List Int × List (List Int)
def thr (E : Exch) (r : List Int) : List Int := (E.1.zip E.2).map fun p => atL p.2 (atL r p.1)
def shThr (sh : List Int) (E : Exch) : List Int := E.1.map (atL sh)
structure ExO (sh : List Int) (E : Exch) : Prop where
  o : IsPm sh.length E.1
  len : E.2.length = sh.length
  s : ∀ p ∈ E.1.zip E.2, IsPm (atL sh p.1) p.2
section
variable {sh : List Int} {E : Exch} {r r' : List Int}
theorem ExO.olen (h : ExO sh E) : E.1.length = sh.length := by
  have := h.o.len
  omega
theorem ExO.fst (h : ExO sh E) : (E.1.zip E.2).map (·.1) = E.1 := by
  rw [List.map_fst_zip]
  have := h.len
  have := h.olen
  omega
theorem ExO.at (h : ExO sh E) {p : Int × List Int} (hp : p ∈ E.1.zip E.2) : 0 ≤ p.1 ∧ p.1 < sh.length := h.o.mem.mp (List.of_mem_zip hp).1
theorem thr_at (h : ExO sh E) (hr : IsRow sh r) {p : Int × List Int} (hp : p ∈ E.1.zip E.2) : 0 ≤ atL p.2 (atL r p.1) ∧ atL p.2 (atL r p.1) < atL sh p.1 := by
  have h1 := row_at hr (h.at hp)
  have h2 := (h.s p hp)
  have h3 := h2.len
  exact h2.mem.mp (atL_mem ⟨h1.1, by omega⟩)
theorem apI_map {α : Type} (f g : α → Int) : ∀ l : List α, apI (l.map f) (l.map g) = (l.filter fun x => decide (f x ≠ g x)).length
  | [] => rfl
  | x :: l => by
    rw [List.map_cons, List.map_cons, apI, apI_map f g l, List.filter_cons]
    by_cases h : f x = g x <;> simp [h] <;> omega
theorem apI_rg (h : r.length = r'.length) : apI r r' = ((rg r.length).filter fun i => decide (atL r i ≠ atL r' i)).length := by
  rw [← apI_map, map_atL, h, map_atL]
theorem thr_apI (h : ExO sh E) (hr : IsRow sh r) (hr' : IsRow sh r') : apI (thr E r) (thr E r') = apI r r' := by
  unfold thr
  rw [apI_map, apI_rg (by rw [hr.len, hr'.len]), hr.len]
  have e : ((E.1.zip E.2).filter fun p => decide (atL p.2 (atL r p.1) ≠ atL p.2 (atL r' p.1))) = (E.1.zip E.2).filter fun p => decide (atL r p.1 ≠ atL r' p.1) := by
    refine List.filter_congr fun p hp => ?_
    have h1 := row_at hr (h.at hp)
    have h2 := row_at hr' (h.at hp)
    have h3 := h.s p hp
    have h4 := h3.len
    congr 1
    refine propext (not_congr ⟨fun z => nodup_inj h3.nodup (by omega) (by omega) z, fun z => by rw [z]⟩)
  rw [e]
  have e2 : ((E.1.zip E.2).filter fun p => decide (atL r p.1 ≠ atL r' p.1)).length = (E.1.filter fun i => decide (atL r i ≠ atL r' i)).length := by
    conv => rhs; rw [← h.fst]
    rw [List.filter_map, List.length_map]
    rfl
  rw [e2]
  exact (List.Perm.filter _ h.o).length_eq
theorem thr_len (h : ExO sh E) : (thr E r).length = sh.length := by
  unfold thr
  rw [List.length_map, List.length_zip, h.len, h.olen, Nat.min_self]
theorem thr_row (h : ExO sh E) (hr : IsRow sh r) : IsRow (shThr sh E) (thr E r) := by
  refine isRow_get.mpr ⟨by rw [thr_len h, shThr, List.length_map, h.olen], fun i x s h1 h2 => ?_⟩
  unfold thr at h1
  rw [List.getElem?_map, Option.map_eq_some_iff] at h1
  obtain ⟨p, hp, rfl⟩ := h1
  have hz := List.getElem?_zip_eq_some.mp hp
  have hm := List.mem_of_getElem? hp
  unfold shThr at h2
  rw [List.getElem?_map, hz.1] at h2
  cases h2
  exact thr_at h hr hm
theorem thr_inj (h : ExO sh E) (hr : IsRow sh r) (hr' : IsRow sh r') (e : thr E r = thr E r') : r = r' :=
  apI_zero (by rw [hr.len, hr'.len]) (by rw [← thr_apI h hr hr', e, apI_self])
theorem prodI_perm : ∀ {a b : List Int}, a.Perm b → prodI a = prodI b := fun p => by
  induction p with
  | nil => rfl
  | cons x _ ih => rw [prodI, prodI, ih]
  | swap x y l => simp only [prodI]; rw [← Int.mul_assoc, ← Int.mul_assoc, Int.mul_comm x y]
  | trans _ _ a b => exact a.trans b
theorem shThr_perm (h : ExO sh E) : (shThr sh E).Perm sh := by
  have := List.Perm.map (atL sh) h.o
  rw [map_atL] at this
  exact this
theorem thr_all (h : ExO sh E) (h0 : ∀ s ∈ sh, 0 ≤ s) {q : List Int} (hq : IsRow (shThr sh E) q) : ∃ r, IsRow sh r ∧ thr E r = q := by
  have pm := shThr_perm h
  have h1 := rows_length h0
  have h2 := rows_length (sh := shThr sh E) fun s hs => h0 s (pm.mem_iff.mp hs)
  rw [prodI_perm pm] at h2
  have := nodup_all (l := (rowsI sh).map (thr E)) (m := rowsI (shThr sh E)) (nodup_map_inj (fun a ha b hb e => thr_inj h (mem_rows.mp ha) (mem_rows.mp hb) e) (rows_nodup sh)) (fun x hx => by
    obtain ⟨r, hr, rfl⟩ := List.mem_map.mp hx
    exact mem_rows.mpr (thr_row h (mem_rows.mp hr))) (by rw [List.length_map]; omega) q (mem_rows.mpr hq)
  obtain ⟨r, hr, e⟩ := List.mem_map.mp this
  exact ⟨r, mem_rows.mp hr, e⟩
theorem cov_thr (h : ExO sh E) (h0 : ∀ s ∈ sh, 0 ≤ s) {n : Nat} {hp : List (List Int)} (hr : ∀ x ∈ hp, IsRow sh x) (c : Cov sh n hp) : Cov (shThr sh E) n (hp.map (thr E)) := fun q hq => by
  obtain ⟨r, hr', rfl⟩ := thr_all h h0 hq
  obtain ⟨o, ho, hd⟩ := c r hr'
  exact ⟨_, List.mem_map.mpr ⟨o, ho, rfl⟩, by rw [thr_apI h hr' (hr o ho)]; exact hd⟩
end

/-! which signs go where -/
def lookF : List (Int × Int) → Int → Option Int
  | [], _ => none
  | p :: ps, s => if p.1 = s then some p.2 else lookF ps s
def sbGo (prs : List (Int × Int)) : List Int → List Int → List Int
  | [], _ => []
  | s :: ss, sp => match lookF prs s with
    | some o => o :: sbGo prs ss sp
    | none => sp.headD 0 :: sbGo prs ss sp.tail
def spare (m : Int) (others : List Int) : List Int := (rg m).filter fun s => !others.contains s
def sb (m : Int) (signs others : List Int) : List Int := sbGo (signs.zip others) (rg m) (spare m others)
theorem lookF_none {s : Int} : ∀ {ps : List (Int × Int)}, lookF ps s = none ↔ ∀ p ∈ ps, p.1 ≠ s
  | [] => by simp [lookF]
  | p :: ps => by
    rw [lookF]
    by_cases h : p.1 = s
    · simp [h]
    · simp [h, lookF_none (ps := ps)]
theorem lookF_some {s o : Int} : ∀ {ps : List (Int × Int)}, lookF ps s = some o → (s, o) ∈ ps
  | p :: ps, h => by
    rw [lookF] at h
    split at h
    · rename_i e
      cases h
      subst e
      exact List.mem_cons_self
    · exact List.mem_cons_of_mem _ (lookF_some h)
/-- one to one -/
def OneOne (ps : List (Int × Int)) : Prop := ∀ p ∈ ps, ∀ q ∈ ps, p.1 = q.1 ↔ p.2 = q.2
theorem lookF_of {ps : List (Int × Int)} (h : OneOne ps) {s o : Int} (hm : (s, o) ∈ ps) : lookF ps s = some o := by
  cases e : lookF ps s with
  | none => exact absurd rfl (lookF_none.mp e _ hm)
  | some o' =>
    have := (h _ (lookF_some e) _ hm).mp rfl
    dsimp only at this
    rw [this]
theorem sbGo_len (prs : List (Int × Int)) : ∀ ss sp : List Int, (sbGo prs ss sp).length = ss.length
  | [], _ => rfl
  | s :: ss, sp => by
    rw [sbGo]
    split <;> simp [sbGo_len prs ss]
theorem sbGo_at (prs : List (Int × Int)) {o : Int} : ∀ (ss sp : List Int) (i : Nat) (s : Int), ss[i]? = some s → lookF prs s = some o → (sbGo prs ss sp)[i]? = some o
  | [], _, i, s, h, _ => by simp at h
  | t :: ss, sp, 0, s, h, e => by
    simp at h
    subst h
    rw [sbGo, e]
    rfl
  | t :: ss, sp, i + 1, s, h, e => by
    rw [sbGo]
    have q := fun sp' => sbGo_at prs ss sp' i s (by simpa using h) e
    split <;> simpa using q _
/-- what comes of it: of the told ones, and of the spare ones, in turn -/
theorem sbGo_perm (prs : List (Int × Int)) : ∀ (ss sp : List Int), (ss.filter fun s => (lookF prs s).isNone).length ≤ sp.length → (sbGo prs ss sp).Perm ((ss.filterMap fun s => lookF prs s) ++ sp.take (ss.filter fun s => (lookF prs s).isNone).length)
  | [], sp, _ => by simp [sbGo]
  | s :: ss, sp, h => by
    rw [sbGo]
    cases e : lookF prs s with
    | some o =>
      simp only [List.filter_cons, e, Option.isNone_some, List.filterMap_cons] at h ⊢
      simpa using (sbGo_perm prs ss sp (by simpa using h)).cons o
    | none =>
      simp only [List.filter_cons, e, Option.isNone_none, if_true, List.filterMap_cons, List.length_cons] at h ⊢
      cases sp with
      | nil => simp at h
      | cons x sp =>
        have q := sbGo_perm prs ss sp (by simpa using h)
        simp only [List.headD_cons, List.tail_cons, List.take_succ_cons]
        exact (q.cons x).trans List.perm_middle.symm
theorem sb_spec {m : Int} {signs others : List Int} (hl : signs.length = others.length) (h1 : ∀ x ∈ signs, 0 ≤ x ∧ x < m) (h2 : ∀ x ∈ others, 0 ≤ x ∧ x < m) (ho : OneOne (signs.zip others)) :
    IsPm m (sb m signs others) ∧ ((rg m).filter fun s => (lookF (signs.zip others) s).isNone).length = (spare m others).length ∧ ∀ p ∈ signs.zip others, atL (sb m signs others) p.1 = p.2 := by
  have len := sbGo_len (signs.zip others) (rg m) (spare m others)
  -- the told ones are unlike, and are the others
  have t1 : ((rg m).filterMap fun s => lookF (signs.zip others) s).Nodup := by
    have aux : ∀ l : List Int, l.Nodup → (l.filterMap fun s => lookF (signs.zip others) s).Nodup := fun l hn => by
      induction l with
      | nil => simp
      | cons s l ih =>
        obtain ⟨n1, n2⟩ := List.nodup_cons.mp hn
        rw [List.filterMap_cons]
        cases e : lookF (signs.zip others) s with
        | none => exact ih n2
        | some o =>
          refine List.nodup_cons.mpr ⟨fun z => ?_, ih n2⟩
          obtain ⟨s', hs', e'⟩ := List.mem_filterMap.mp z
          have := (ho _ (lookF_some e) _ (lookF_some e')).mpr rfl
          dsimp only at this
          subst this
          exact n1 hs'
    exact aux _ (rg_nodup m)
  have t2 : ∀ o, o ∈ ((rg m).filterMap fun s => lookF (signs.zip others) s) ↔ o ∈ others := fun o => by
    rw [List.mem_filterMap]
    constructor
    · rintro ⟨s, _, e⟩
      exact (List.of_mem_zip (lookF_some e)).2
    · intro hm
      obtain ⟨i, hi⟩ := List.getElem?_of_mem hm
      have hlt : i < others.length := (List.getElem?_eq_some_iff.mp hi).1
      have hs : signs[i]? = some (signs[i]'(by omega)) := List.getElem?_eq_getElem (by omega)
      have hz : (signs[i]'(by omega), o) ∈ signs.zip others := List.mem_of_getElem? (List.getElem?_zip_eq_some.mpr ⟨hs, hi⟩)
      exact ⟨_, mem_rg.mpr (h1 _ (List.mem_of_getElem? hs)), lookF_of ho hz⟩
  have t3 : (((rg m).filterMap fun s => lookF (signs.zip others) s) ++ spare m others).Perm (rg m) := by
    have two := List.filter_append_perm (fun s => others.contains s) (rg m)
    refine List.Perm.trans ?_ two
    refine List.Perm.append_right _ ?_
    refine nodup_perm t1 (fun x hx => ?_) ?_
    · have hx' := (t2 x).mp hx
      exact List.mem_filter.mpr ⟨mem_rg.mpr (h2 x hx'), by simpa using hx'⟩
    · have hn : ((rg m).filter fun s => others.contains s).Nodup := (rg_nodup m).filter _
      have a := nodup_len t1 (m := (rg m).filter fun s => others.contains s) fun x hx => by
        have hx' := (t2 x).mp hx
        exact List.mem_filter.mpr ⟨mem_rg.mpr (h2 x hx'), by simpa using hx'⟩
      have b := nodup_len hn (m := (rg m).filterMap fun s => lookF (signs.zip others) s) fun x hx => by
        obtain ⟨_, hx⟩ := List.mem_filter.mp hx
        exact (t2 x).mpr (by simpa using hx)
      omega
  have cnt : ((rg m).filterMap fun s => lookF (signs.zip others) s).length + ((rg m).filter fun s => (lookF (signs.zip others) s).isNone).length = (rg m).length := by
    have aux : ∀ l : List Int, (l.filterMap fun s => lookF (signs.zip others) s).length + (l.filter fun s => (lookF (signs.zip others) s).isNone).length = l.length := fun l => by
      induction l with
      | nil => rfl
      | cons s l ih =>
        rw [List.filterMap_cons, List.filter_cons, List.length_cons]
        cases e : lookF (signs.zip others) s <;> simp [e] <;> omega
    exact aux _
  have l3 := t3.length_eq
  rw [List.length_append] at l3
  have eq : ((rg m).filter fun s => (lookF (signs.zip others) s).isNone).length = (spare m others).length := by omega
  have pm := sbGo_perm (signs.zip others) (rg m) (spare m others) (by omega)
  rw [eq, List.take_length] at pm
  refine ⟨pm.trans t3, eq, fun p hp => ?_⟩
  have hp1 := h1 p.1 (List.of_mem_zip hp).1
  have hg : (rg m)[p.1.toNat]? = some p.1 := by
    unfold rg
    rw [List.getElem?_map, List.getElem?_range (by omega)]
    simp
    omega
  have := sbGo_at (signs.zip others) (rg m) (spare m others) p.1.toNat p.1 hg (lookF_of ho hp)
  have e := atL_get this
  rw [Int.toNat_of_nonneg hp1.1] at e
  exact e
end NR

/-! plain: heaps that an exchange leads to one another; cases -/
namespace NR
def ordersF {α : Type} : List α → List (List α) → List (List α)
  | [], acc => acc
  | r :: rows, acc => ordersF rows (acc.flatMap fun l => (List.range (l.length + 1)).map fun k => l.take k ++ [r] ++ l.drop k)
theorem orders_perm {α : Type} : ∀ {rows : List α} {acc : List (List α)} {x : List α}, x ∈ ordersF rows acc → ∃ a ∈ acc, x.Perm (a ++ rows)
  | [], acc, x, h => ⟨x, h, by simp⟩
  | r :: rows, acc, x, h => by
    rw [ordersF] at h
    obtain ⟨a, ha, p⟩ := orders_perm h
    obtain ⟨l, hl, ha⟩ := List.mem_flatMap.mp ha
    obtain ⟨k, _, rfl⟩ := List.mem_map.mp ha
    refine ⟨l, hl, p.trans ?_⟩
    have e : (l.take k ++ [r] ++ l.drop k).Perm (l ++ [r]) := by
      have h1 : (l.take k ++ [r] ++ l.drop k).Perm ([r] ++ (l.take k ++ l.drop k)) := by
        rw [List.append_assoc]
        exact List.perm_append_comm_assoc _ _ _
      rw [List.take_append_drop] at h1
      exact h1.trans List.perm_append_comm
    have := e.append_right rows
    simpa using this
def col (rows : List (List Int)) (k : Int) : List Int := rows.map fun r => atL r k
def fsts (c : List Int) : List Int := c.map fun x => (c.idxOf x : Int)
abbrev Pat := Int × List Int
def pat (sh : List Int) (rows : List (List Int)) : List Pat := sh.zipIdx.map fun p => (p.1, fsts (col rows (p.2 : Int)))
def fit (own : List Pat) (due : Pat) (found : List Int) : List Int := (own.zipIdx.filter fun p => decide (p.1 = due) && !found.contains (p.2 : Int)).map fun p => (p.2 : Int)
def obF (own : List Pat) : List Pat → List Int → Option (List Int)
  | [], found => some found
  | due :: rest, found => match fit own due found with
    | [] => none
    | s :: _ => obF own rest (found ++ [s])
theorem mem_fit {own : List Pat} {due : Pat} {found : List Int} {s : Int} (h : s ∈ fit own due found) : (∃ i : Nat, s = i ∧ own[i]? = some due) ∧ s ∉ found := by
  unfold fit at h
  obtain ⟨p, hp, rfl⟩ := List.mem_map.mp h
  obtain ⟨h1, h2⟩ := List.mem_filter.mp hp
  rw [Bool.and_eq_true] at h2
  obtain ⟨h2, h3⟩ := h2
  have h2 := of_decide_eq_true h2
  have := List.mem_zipIdx_iff_getElem?.mp h1
  rw [h2] at this
  exact ⟨⟨p.2, rfl, this⟩, by simpa using h3⟩
theorem ob_spec {own : List Pat} : ∀ {rest : List Pat} {found order : List Int}, obF own rest found = some order → found.Nodup →
    ∃ new, order = found ++ new ∧ order.Nodup ∧ new.length = rest.length ∧ (∀ s ∈ new, 0 ≤ s ∧ s < own.length) ∧ ∀ (k : Nat) s, new[k]? = some s → own[s.toNat]? = rest[k]?
  | [], found, order, h, hn => by
    cases h
    exact ⟨[], by simp, hn, rfl, (fun s h => nomatch h), fun k s h => nomatch h⟩
  | due :: rest, found, order, h, hn => by
    rw [obF] at h
    split at h
    · cases h
    · rename_i s tl e
      obtain ⟨⟨i, rfl, hi⟩, hf⟩ := mem_fit (show s ∈ fit own due found by rw [e]; exact List.mem_cons_self)
      obtain ⟨new, h1, h2, h3, h4, h5⟩ := ob_spec h (by
        rw [List.nodup_append]
        refine ⟨hn, by simp, fun a ha b hb => ?_⟩
        rw [List.mem_singleton.mp hb]
        exact fun e => hf (by rw [← e]; exact ha))
      have hlt : i < own.length := (List.getElem?_eq_some_iff.mp hi).1
      refine ⟨(i : Int) :: new, by rw [h1]; simp, h2, by simp [h3], fun s hs => ?_, fun k s hs => ?_⟩
      · rcases List.mem_cons.mp hs with z | z
        · subst z; omega
        · exact h4 s z
      · cases k with
        | zero =>
          simp at hs
          subst hs
          simpa using hi
        | succ k => simpa using h5 k s (by simpa using hs)
theorem fsts_eq {c c' : List Int} (hl : c.length = c'.length) (h : fsts c = fsts c') : OneOne (c.zip c') := by
  have key : ∀ {c c' : List Int}, c.length = c'.length → fsts c = fsts c' → ∀ p ∈ c.zip c', ∀ q ∈ c.zip c', p.1 = q.1 → p.2 = q.2 := fun {c c'} hl h p hp q hq e => by
    obtain ⟨i, hi⟩ := List.getElem?_of_mem hp
    obtain ⟨j, hj⟩ := List.getElem?_of_mem hq
    obtain ⟨i1, i2⟩ := List.getElem?_zip_eq_some.mp hi
    obtain ⟨j1, j2⟩ := List.getElem?_zip_eq_some.mp hj
    have fi : (fsts c)[i]? = some (c.idxOf p.1 : Int) := by unfold fsts; rw [List.getElem?_map, i1]; rfl
    have fj : (fsts c)[j]? = some (c.idxOf q.1 : Int) := by unfold fsts; rw [List.getElem?_map, j1]; rfl
    have fi' : (fsts c')[i]? = some (c'.idxOf p.2 : Int) := by unfold fsts; rw [List.getElem?_map, i2]; rfl
    have fj' : (fsts c')[j]? = some (c'.idxOf q.2 : Int) := by unfold fsts; rw [List.getElem?_map, j2]; rfl
    rw [h, fi'] at fi
    rw [h, fj'] at fj
    rw [e] at fi
    have : c'.idxOf p.2 = c'.idxOf q.2 := by
      simp only [Option.some.injEq] at fi fj
      omega
    have m1 := List.mem_of_getElem? i2
    have m2 := List.mem_of_getElem? j2
    have g1 := List.getElem_idxOf (List.idxOf_lt_length_of_mem m1)
    have g2 := List.getElem_idxOf (List.idxOf_lt_length_of_mem m2)
    rw [← g1, ← g2]
    simp only [this]
  intro p hp q hq
  refine ⟨key hl h p hp q hq, fun e => ?_⟩
  have sw : ∀ p ∈ c.zip c', (p.2, p.1) ∈ c'.zip c := fun p hp => by
    obtain ⟨i, hi⟩ := List.getElem?_of_mem hp
    obtain ⟨i1, i2⟩ := List.getElem?_zip_eq_some.mp hi
    exact List.mem_of_getElem? (List.getElem?_zip_eq_some.mpr ⟨i2, i1⟩)
  exact key hl.symm h.symm _ (sw p hp) _ (sw q hq) e
def likeE (sh : List Int) (one rows : List (List Int)) (order : List Int) : Exch :=
  (order, order.zipIdx.map fun p => sb (atL sh p.1) (col one p.1) (col rows (p.2 : Int)))
theorem like_sound {sh : List Int} {one rows : List (List Int)} {order : List Int} (hl : one.length = rows.length) (h1 : ∀ r ∈ one, IsRow sh r) (h2 : ∀ r ∈ rows, IsRow sh r) (h : obF (pat sh one) (pat sh rows) [] = some order) :
    ExO sh (likeE sh one rows order) ∧ shThr sh (likeE sh one rows order) = sh ∧ one.map (thr (likeE sh one rows order)) = rows ∧
    (∀ p ∈ order.zipIdx, ((rg (atL sh p.1)).filter fun s => (lookF ((col one p.1).zip (col rows (p.2 : Int))) s).isNone).length = (spare (atL sh p.1) (col rows (p.2 : Int))).length) := by
  obtain ⟨new, e0, hn, hlen, hr, hp⟩ := ob_spec h List.nodup_nil
  rw [List.nil_append] at e0
  subst e0
  have plen : ∀ rows, (pat sh rows).length = sh.length := fun rows => by simp [pat]
  rw [plen] at hlen hr
  have pget : ∀ rows (i : Nat), (pat sh rows)[i]? = (sh[i]?).map fun s => (s, fsts (col rows (i : Int))) := fun rows i => by
    unfold pat
    rw [List.getElem?_map, List.getElem?_zipIdx]
    cases sh[i]? <;> simp
  have at_ : ∀ (k : Nat) s, order[k]? = some s → atL sh s = atL sh (k : Int) ∧ fsts (col one s) = fsts (col rows (k : Int)) ∧ 0 ≤ s ∧ s < sh.length ∧ k < sh.length := fun k s hs => by
    have q := hp k s hs
    have hk : k < order.length := (List.getElem?_eq_some_iff.mp hs).1
    have b := hr s (List.mem_of_getElem? hs)
    rw [pget, pget] at q
    have g1 : sh[s.toNat]? = some (atL sh s) := get_atL b
    have g2 : sh[k]? = some (atL sh (k : Int)) := by have := get_atL (l := sh) (i := (k : Int)) (by omega); simpa using this
    rw [g1, g2] at q
    simp only [Option.map_some, Option.some.injEq, Prod.mk.injEq] at q
    obtain ⟨q1, q2⟩ := q
    rw [Int.toNat_of_nonneg b.1] at q2
    exact ⟨q1, q2, b.1, b.2, by omega⟩
  have colen : ∀ s k, (col one s).length = (col rows k).length := fun s k => by simp [col, hl]
  have sbs : ∀ (k : Nat) s, order[k]? = some s → _ := fun k s hs => by
    obtain ⟨q1, q2, q3, q4, q5⟩ := at_ k s hs
    exact sb_spec (m := atL sh s) (colen s k) (fun x hx => by
      obtain ⟨r, hr, rfl⟩ := List.mem_map.mp hx
      exact row_at (h1 r hr) ⟨q3, q4⟩) (fun x hx => by
      obtain ⟨r, hr, rfl⟩ := List.mem_map.mp hx
      rw [q1]
      exact row_at (h2 r hr) (by omega)) (fsts_eq (colen s k) q2)
  have zget : ∀ (k : Nat) s, order[k]? = some s → (order.zip (likeE sh one rows order).2)[k]? = some (s, sb (atL sh s) (col one s) (col rows (k : Int))) := fun k s hs => by
    refine List.getElem?_zip_eq_some.mpr ⟨hs, ?_⟩
    unfold likeE
    rw [List.getElem?_map, List.getElem?_zipIdx, hs]
    simp
  have olen : order.length = sh.length := hlen
  have zlen : (order.zip (likeE sh one rows order).2).length = sh.length := by
    rw [List.length_zip]
    simp [likeE, olen]
  have ex : ExO sh (likeE sh one rows order) := by
    refine ⟨nodup_perm hn (fun s hs => mem_rg.mpr (hr s hs)) (by show (rg (sh.length : Int)).length = order.length; rw [rg_length]; omega), by simp [likeE, olen], fun p hp => ?_⟩
    have hp : p ∈ order.zip (likeE sh one rows order).2 := hp
    obtain ⟨k, hk⟩ := List.getElem?_of_mem hp
    have hk' : k < sh.length := by rw [← zlen]; exact (List.getElem?_eq_some_iff.mp hk).1
    have ho : order[k]? = some (order[k]'(by omega)) := List.getElem?_eq_getElem (by omega)
    have : (order.zip (likeE sh one rows order).2)[k]? = some p := hk
    rw [zget k _ ho] at this
    cases this
    exact (sbs k _ ho).1
  refine ⟨ex, ?_, ?_, fun p hp => ?_⟩
  · refine List.ext_getElem? fun k => ?_
    show (order.map (atL sh))[k]? = _
    rw [List.getElem?_map]
    by_cases hk : k < sh.length
    · have ho : order[k]? = some (order[k]'(by omega)) := List.getElem?_eq_getElem (by omega)
      rw [ho, Option.map_some, (at_ k _ ho).1]
      have := get_atL (l := sh) (i := (k : Int)) (by omega)
      simpa using this.symm
    · rw [List.getElem?_eq_none (by omega), List.getElem?_eq_none (by omega)]
      rfl
  · refine List.ext_getElem? fun i => ?_
    rw [List.getElem?_map]
    by_cases hi : i < one.length
    · have g1 : one[i]? = some one[i] := List.getElem?_eq_getElem hi
      have g2 : rows[i]? = some (rows[i]'(by omega)) := List.getElem?_eq_getElem (by omega)
      rw [g1, g2, Option.map_some]
      congr 1
      have r1 := h1 _ (List.mem_of_getElem? g1)
      have r2 := h2 _ (List.mem_of_getElem? g2)
      refine List.ext_getElem? fun k => ?_
      unfold thr
      rw [List.getElem?_map]
      by_cases hk : k < sh.length
      · have ho : order[k]? = some (order[k]'(by omega)) := List.getElem?_eq_getElem (by omega)
        have z := zget k _ ho
        have e3 : ((likeE sh one rows order).1.zip (likeE sh one rows order).2)[k]? = _ := z
        rw [e3, Option.map_some]
        have mz : (atL one[i] (order[k]'(by omega)), atL (rows[i]'(by omega)) (k : Int)) ∈ (col one (order[k]'(by omega))).zip (col rows (k : Int)) := by
          refine List.mem_of_getElem? (i := i) (List.getElem?_zip_eq_some.mpr ⟨?_, ?_⟩)
          · unfold col; rw [List.getElem?_map, g1]; rfl
          · unfold col; rw [List.getElem?_map, g2]; rfl
        have e4 := (sbs k _ ho).2.2 _ mz
        dsimp only at e4 ⊢
        rw [e4]
        have := get_atL (l := rows[i]'(by omega)) (i := (k : Int)) (by rw [r2.len]; omega)
        simpa using this.symm
      · have zl : ((likeE sh one rows order).1.zip (likeE sh one rows order).2).length = sh.length := zlen
        rw [List.getElem?_eq_none (by rw [zl]; omega), List.getElem?_eq_none (by rw [r2.len]; omega)]
        rfl
    · rw [List.getElem?_eq_none (by omega), List.getElem?_eq_none (by omega)]
      rfl
  · have := List.mem_zipIdx_iff_getElem?.mp hp
    exact (sbs p.2 p.1 this).2.1

theorem like_at {sh : List Int} {one rows : List (List Int)} {order : List Int} (hl : one.length = rows.length) (h : obF (pat sh one) (pat sh rows) [] = some order) :
    order.length = sh.length ∧ ∀ p ∈ order.zipIdx, (0 ≤ p.1 ∧ p.1 < sh.length) ∧ p.2 < sh.length ∧ atL sh p.1 = atL sh (p.2 : Int) ∧ OneOne ((col one p.1).zip (col rows (p.2 : Int))) := by
  obtain ⟨new, e0, hn, hlen, hr, hp⟩ := ob_spec h List.nodup_nil
  rw [List.nil_append] at e0
  subst e0
  have plen : ∀ rows, (pat sh rows).length = sh.length := fun rows => by simp [pat]
  rw [plen] at hlen hr
  refine ⟨hlen, fun p hp' => ?_⟩
  have hs := List.mem_zipIdx_iff_getElem?.mp hp'
  have q := hp p.2 p.1 hs
  have hk : p.2 < order.length := (List.getElem?_eq_some_iff.mp hs).1
  have b := hr p.1 (List.mem_of_getElem? hs)
  have pget : ∀ rows (i : Nat), (pat sh rows)[i]? = (sh[i]?).map fun s => (s, fsts (col rows (i : Int))) := fun rows i => by
    unfold pat
    rw [List.getElem?_map, List.getElem?_zipIdx]
    cases sh[i]? <;> simp
  rw [pget, pget] at q
  have g1 : sh[p.1.toNat]? = some (atL sh p.1) := get_atL b
  have g2 : sh[p.2]? = some (atL sh (p.2 : Int)) := by have := get_atL (l := sh) (i := (p.2 : Int)) (by omega); simpa using this
  rw [g1, g2] at q
  simp only [Option.map_some, Option.some.injEq, Prod.mk.injEq] at q
  obtain ⟨q1, q2⟩ := q
  rw [Int.toNat_of_nonneg b.1] at q2
  exact ⟨b, by omega, q1, fsts_eq (by simp [col, hl]) q2⟩

/-! cases: that there are some -/
/-- an earlier one that an exchange leads it to -/
def Lk (sh : List Int) (ch ball : List (List Int)) (j : Nat) (b : List Int) : Prop :=
  ∃ (k : Nat) (b' : List Int) (E : Exch), k < j ∧ ball[k]? = some b' ∧ ExO sh E ∧ shThr sh E = sh ∧ ((ch ++ [b]).map (thr E)).Perm (ch ++ [b'])
inductive RdS (sh : List Int) (n : Nat) : Int → List (List Int) → Prop
  | few {left : Int} {ch : List (List Int)} : fewB sh n (farR (rowsI sh) ch n) left = true → RdS sh n left ch
  | row {left : Int} {ch : List (List Int)} (r : List Int) : 1 ≤ left → IsRow sh r → (∀ o ∈ ch, n < apI r o) →
    (∀ (j : Nat) b, (ballI sh r n)[j]? = some b → ¬ Lk sh ch (ballI sh r n) j b → RdS sh n (left - 1) (ch ++ [b])) → RdS sh n left ch
theorem RdS.no {sh : List Int} {n : Nat} (h0 : ∀ s ∈ sh, 0 ≤ s) {left : Int} {ch : List (List Int)} (h : RdS sh n left ch) : (∀ x ∈ ch, IsRow sh x) → ∀ L : List (List Int), (∀ x ∈ L, IsRow sh x) → (L.length : Int) ≤ left → ¬ Cov sh n (ch ++ L) := by
  induction h with
  | few h => exact fun _ L hL hl => few_sound h hl hL
  | @row left ch r hl hr hf hb ih =>
    intro hc L hL hle cov
    -- no row of the ball may be chosen
    have key : ∀ (j : Nat) b, (ballI sh r n)[j]? = some b → ∀ M : List (List Int), (∀ x ∈ M, IsRow sh x) → (M.length : Int) ≤ left - 1 → ¬ Cov sh n (ch ++ [b] ++ M) := fun j => by
      induction j using Nat.strongRecOn with
      | _ j ihj =>
        intro b hj M hM hm c
        have rb : IsRow sh b := (mem_ball.mp (List.mem_of_getElem? hj)).1
        by_cases lk : Lk sh ch (ballI sh r n) j b
        · obtain ⟨k, b', E, hk, hb', ex, es, pm⟩ := lk
          refine ihj k hk b' hb' (M.map (thr E)) (fun x hx => ?_) (by rw [List.length_map]; exact hm) ?_
          · obtain ⟨y, hy, rfl⟩ := List.mem_map.mp hx
            have := thr_row ex (hM y hy)
            rwa [es] at this
          · have c' := cov_thr ex h0 (fun x hx => by
              rcases List.mem_append.mp hx with z | z
              · rcases List.mem_append.mp z with z | z
                · exact hc x z
                · rw [List.mem_singleton.mp z]; exact rb
              · exact hM x z) c
            rw [es, List.map_append] at c'
            intro q hq
            obtain ⟨o, ho, hd⟩ := c' q hq
            refine ⟨o, ?_, hd⟩
            rcases List.mem_append.mp ho with z | z
            · exact List.mem_append_left _ (pm.mem_iff.mp z)
            · exact List.mem_append_right _ z
        · refine ih j b hj lk (fun x hx => ?_) M hM hm c
          rcases List.mem_append.mp hx with z | z
          · exact hc x z
          · rw [List.mem_singleton.mp z]; exact rb
    obtain ⟨o, ho, hd⟩ := cov r hr
    rcases List.mem_append.mp ho with z | z
    · have := hf o z
      omega
    · obtain ⟨j, hj⟩ := List.getElem?_of_mem (mem_ball.mpr ⟨hL o z, hd⟩)
      have pe := List.perm_cons_erase z
      have le := pe.length_eq
      rw [List.length_cons] at le
      refine key j o hj (L.erase o) (fun x hx => hL x (List.mem_of_mem_erase hx)) (by omega) fun q hq => ?_
      obtain ⟨x, hx, hd⟩ := cov q hq
      refine ⟨x, ?_, hd⟩
      rcases List.mem_append.mp hx with y | y
      · exact List.mem_append_left _ (List.mem_append_left _ y)
      · rcases List.mem_cons.mp (pe.mem_iff.mp y) with e | y
        · exact List.mem_append_left _ (List.mem_append_right _ (List.mem_singleton.mpr e))
        · exact List.mem_append_right _ y
end NR

namespace C85
open PySem L2 Ev
def top (i : Nat) : Stmt := PySem.Challenge.pw_nearrows_k85_whole_told_apart.main.body.getD i (.Pass ⟨0, 0, 0, 0⟩)
def n0 : List Str := ["thing"]
def b0 : CSs := (.cons (.ret (.bo true (.cons (.isi (.var 0) .int) (.cons (.not (.isi (.var 0) .bool)) .nil)))) .nil)
def n1 : List Str := ["shape", "found", "signs"]
def p1_0 : CSs := (.cons (.asgF 1 (.bin .Mult (.var 1) (.var 2))) .nil)
def b1 : CSs := (.cons (.asgF 1 (.con (.int 1))) (.cons (.forr (.nm 2) (.val (.var 0)) p1_0) (.cons (.ret (.mov 1)) .nil)))
def n2 : List Str := ["thing", "signs"]
def e2_0 : CE := (.lc [1] (.nm 1) (.val (.var 0)) .none (.bo true (.cons (.call 0 [false] (.cons (.var 1) .nil)) (.cons (.chn .LtE .LtE (.glob 1) (.var 1) (.glob 2)) .nil))))
def b2 : CSs := (.cons (.iff (.bo false (.cons (.not (.isi (.var 0) .tuple)) (.cons (.not (.chn .LtE .LtE (.con (.int 1)) (.bi .len (.cons (.var 0) .nil)) (.glob 0))) .nil))) (.cons (.ret (.con (.bool false))) .nil) .nil) (.cons (.iff (.not (.bi .all (.cons e2_0 .nil))) (.cons (.ret (.con (.bool false))) .nil) .nil) (.cons (.ret (.cmp .LtE (.call 1 [false] (.cons (.var 0) .nil)) (.glob 3))) .nil)))
def n3 : List Str := ["shape", "thing", "sign", "signs"]
def e3_0 : CE := (.lc [2, 3] (.tup (.cons (.nm 2) (.cons (.nm 3) .nil))) (.zip (.var 1) (.var 0)) .none (.bo true (.cons (.call 0 [false] (.cons (.var 2) .nil)) (.cons (.chn .LtE .Lt (.con (.int 0)) (.var 2) (.var 3)) .nil))))
def b3 : CSs := (.cons (.iff (.bo false (.cons (.not (.isi (.var 1) .tuple)) (.cons (.cmp .NotEq (.bi .len (.cons (.var 1) .nil)) (.bi .len (.cons (.var 0) .nil))) .nil))) (.cons (.ret (.con (.bool false))) .nil) .nil) (.cons (.ret (.bi .all (.cons e3_0 .nil))) .nil))
def n4 : List Str := ["thing"]
def b4 : CSs := (.cons (.iff (.not (.call 2 [false] (.cons (.var 0) .nil))) (.cons (.rais "NoShape") .nil) .nil) .nil)
def n5 : List Str := ["shape", "found", "signs", "longer", "row", "sign"]
def e5_0 : CE := (.lc [5] (.nm 5) (.range1 (.var 2)) .none (.bin .Add (.var 4) (.tup (.cons (.var 5) .nil))))
def p5_1 : CSs := (.cons (.expr (.mut .extend 3 (.cons e5_0 .nil))) .nil)
def p5_2 : CSs := (.cons (.asg 3 (.lst .nil)) (.cons (.forr (.nm 4) (.val (.var 1)) p5_1) (.cons (.asgF 1 (.var 3)) .nil)))
def b5 : CSs := (.cons (.asgF 1 (.lst (.cons (.tup .nil) .nil))) (.cons (.forr (.nm 2) (.val (.var 0)) p5_2) (.cons (.ret (.mov 1)) .nil)))
def n6 : List Str := ["one", "other", "here", "there"]
def e6_0 : CE := (.lc [2, 3] (.tup (.cons (.nm 2) (.cons (.nm 3) .nil))) (.zip (.var 0) (.var 1)) (.some (.cmp .NotEq (.var 2) (.var 3))) (.var 2))
def b6 : CSs := (.cons (.ret (.bi .len (.cons e6_0 .nil))) .nil)
def n7 : List Str := ["shape", "thing", "row", "one", "other"]
def e7_0 : CE := (.lc [2] (.nm 2) (.val (.var 1)) .none (.call 3 [false, false] (.cons (.var 0) (.cons (.var 2) .nil))))
def e7_1 : CE := (.lc [3, 4] (.tup (.cons (.nm 3) (.cons (.nm 4) .nil))) (.zip (.var 1) (.slc (.var 1) (.some (.con (.int 1))) .none)) .none (.cmp .Lt (.var 3) (.var 4)))
def b7 : CSs := (.cons (.iff (.bo false (.cons (.not (.isi (.var 1) .tuple)) (.cons (.not (.bi .all (.cons e7_0 .nil))) .nil))) (.cons (.ret (.con (.bool false))) .nil) .nil) (.cons (.ret (.bi .all (.cons e7_1 .nil))) .nil))
def n8 : List Str := ["shape", "thing"]
def b8 : CSs := (.cons (.iff (.not (.call 7 [false, false] (.cons (.var 0) (.cons (.var 1) .nil)))) (.cons (.rais "NoHeap") .nil) .nil) .nil)
def n9 : List Str := ["shape", "thing"]
def b9 : CSs := (.cons (.iff (.bo false (.cons (.not (.isi (.var 1) .tuple)) (.cons (.cmp .NotEq (.bi .len (.cons (.var 1) .nil)) (.glob 4)) (.cons (.not (.call 3 [false, false] (.cons (.var 0) (.cons (.idx (.var 1) (.con (.int 0))) .nil)))) .nil)))) (.cons (.ret (.con (.bool false))) .nil) .nil) (.cons (.ret (.bo true (.cons (.call 0 [false] (.cons (.idx (.var 1) (.con (.int 1))) .nil)) (.cons (.cmp .GtE (.idx (.var 1) (.con (.int 1))) (.con (.int 0))) .nil)))) .nil))
def n10 : List Str := ["shape", "thing", "one"]
def e10_0 : CE := (.lc [2] (.nm 2) (.val (.var 1)) .none (.call 9 [false, false] (.cons (.var 0) (.cons (.var 2) .nil))))
def b10 : CSs := (.cons (.expr (.call 4 [false] (.cons (.var 0) .nil))) (.cons (.ret (.bo true (.cons (.isi (.var 1) .tuple) (.cons (.bi .all (.cons e10_0 .nil)) .nil)))) .nil))
def n11 : List Str := ["shape", "thing"]
def b11 : CSs := (.cons (.iff (.not (.call 10 [false, false] (.cons (.var 0) (.cons (.var 1) .nil)))) (.cons (.rais "NoAnswers") .nil) .nil) .nil)
def n12 : List Str := ["row", "answers", "other", "many"]
def e12_0 : CE := (.lc [2, 3] (.tup (.cons (.nm 2) (.cons (.nm 3) .nil))) (.val (.var 1)) .none (.cmp .Eq (.call 6 [false, false] (.cons (.var 0) (.cons (.var 2) .nil))) (.var 3)))
def b12 : CSs := (.cons (.ret (.bi .all (.cons e12_0 .nil))) .nil)
def n13 : List Str := ["shape", "answers", "row"]
def e13_0 : CE := (.lc [2] (.nm 2) (.val (.call 5 [false] (.cons (.var 0) .nil))) (.some (.call 12 [false, false] (.cons (.var 2) (.cons (.var 1) .nil)))) (.var 2))
def b13 : CSs := (.cons (.expr (.call 4 [false] (.cons (.var 0) .nil))) (.cons (.expr (.call 11 [false, false] (.cons (.var 0) (.cons (.var 1) .nil)))) (.cons (.ret e13_0) .nil)))
def n14 : List Str := ["row", "heap", "one"]
def e14_0 : CE := (.lc [2] (.nm 2) (.val (.var 1)) .none (.call 6 [false, false] (.cons (.var 0) (.cons (.var 2) .nil))))
def b14 : CSs := (.cons (.ret (.bi .tuple (.cons e14_0 .nil))) .nil)
def n15 : List Str := ["shape", "heap", "told", "row", "k", "one", "own", "some", "other", "again"]
def e15_0 : CE := (.lc [3] (.nm 3) (.val (.call 5 [false] (.cons (.var 0) .nil))) .none (.tup (.cons (.var 3) (.cons (.call 14 [false, false] (.cons (.var 3) (.cons (.var 1) .nil))) .nil))))
def e15_1 : CE := (.lc [8, 9] (.tup (.cons (.nm 8) (.cons (.nm 9) .nil))) (.val (.slc (.var 2) (.some (.bin .Add (.var 4) (.con (.int 1)))) .none)) (.some (.cmp .Eq (.var 9) (.var 6))) (.var 8))
def p15_2 : CSs := (.cons (.asgF 7 e15_1) (.cons (.iff (.cmp .NotEq (.var 7) (.lst .nil)) (.cons (.ret (.tup (.cons (.var 5) (.cons (.idx (.var 7) (.con (.int 0))) .nil)))) .nil) .nil) .nil))
def b15 : CSs := (.cons (.expr (.call 4 [false] (.cons (.var 0) .nil))) (.cons (.expr (.call 8 [false, false] (.cons (.var 0) (.cons (.var 1) .nil)))) (.cons (.asgF 2 e15_0) (.cons (.forr (.tup (.cons (.nm 4) (.cons (.tup (.cons (.nm 5) (.cons (.nm 6) .nil))) .nil))) (.enum (.var 2)) p15_2) (.cons (.ret (.con .none)) .nil)))))
def n16 : List Str := ["_law_script", "_law_k", "_law_cell"]
def b16 : CSs := (.cons (.asgF 2 (.bin .Add (.bin .Mult (.con (.int 7)) (.var 1)) (.con (.int 5)))) (.cons (.iff (.cmp .Lt (.var 1) (.bi .len (.cons (.var 0) .nil))) (.cons (.asgF 2 (.idx (.var 0) (.var 1))) .nil) .nil) (.cons (.ret (.lst (.cons (.bi .max (.cons (.con (.int 0)) (.cons (.bin .Sub (.bi .abs (.cons (.var 2) .nil)) (.bin .Pow (.con (.int 10)) (.con (.int 18)))) .nil))) (.cons (.bin .Add (.bin .Mod (.bi .abs (.cons (.var 2) .nil)) (.con (.int 2147483579))) (.con (.int 1))) .nil)))) .nil)))
def n17 : List Str := ["_law_pot_here", "_law_many", "_law_digit"]
def b17 : CSs := (.cons (.iff (.cmp .Gt (.idx (.var 0) (.con (.int 0))) (.con (.int 0))) (.cons (.asgT [.ix 0 0, .tg (.nm 2)] (.bi .divmod (.cons (.idx (.var 0) (.con (.int 0))) (.cons (.var 1) .nil)))) (.cons (.ret (.mov 2)) .nil)) .nil) (.cons (.set 0 (.con (.int 1)) (.bin .Mod (.bin .Add (.bin .Mult (.idx (.var 0) (.con (.int 1))) (.con (.int 48271))) (.con (.int 12345))) (.con (.int 2147483647)))) (.cons (.ret (.bin .Mod (.bin .FloorDiv (.bin .Mod (.bin .Mult (.idx (.var 0) (.con (.int 1))) (.idx (.var 0) (.con (.int 1)))) (.con (.int 2147483629))) (.con (.int 5))) (.var 1))) .nil)))
def n18 : List Str := ["_law_pot_here", "_law_most", "_law_found", "_law_many", "_law_k", "_law_signs"]
def p18_0 : CSs := (.cons (.asgF 5 (.bin .Add (.con (.int 2)) (.call 17 [true, false] (.cons (.var 0) (.cons (.idx (.lst (.cons (.con (.int 1)) (.cons (.con (.int 2)) (.cons (.con (.int 8)) .nil)))) (.call 17 [true, false] (.cons (.var 0) (.cons (.con (.int 3)) .nil)))) .nil))))) (.cons (.iff (.cmp .LtE (.bin .Mult (.var 3) (.var 5)) (.var 1)) (.cons (.asgF 2 (.bin .Add (.var 2) (.tup (.cons (.var 5) .nil)))) (.cons (.asgF 3 (.bin .Mult (.var 3) (.var 5))) .nil)) .nil) .nil))
def b18 : CSs := (.cons (.asgF 2 (.tup .nil)) (.cons (.asgF 3 (.con (.int 1))) (.cons (.forr (.nm 4) (.range1 (.bin .Add (.con (.int 1)) (.call 17 [true, false] (.cons (.var 0) (.cons (.con (.int 8)) .nil))))) p18_0) (.cons (.ret (.mov 2)) .nil))))
def n19 : List Str := ["_law_shape_here", "_law_found", "_law_signs", "_law_longer", "_law_row", "_law_sign"]
def e19_0 : CE := (.lc [5] (.nm 5) (.range1 (.var 2)) .none (.bin .Add (.var 4) (.tup (.cons (.var 5) .nil))))
def p19_1 : CSs := (.cons (.expr (.mut .extend 3 (.cons e19_0 .nil))) .nil)
def p19_2 : CSs := (.cons (.asg 3 (.lst .nil)) (.cons (.forr (.nm 4) (.val (.var 1)) p19_1) (.cons (.asgF 1 (.var 3)) .nil)))
def b19 : CSs := (.cons (.asgF 1 (.lst (.cons (.tup .nil) .nil))) (.cons (.forr (.nm 2) (.val (.var 0)) p19_2) (.cons (.ret (.mov 1)) .nil)))
def n20 : List Str := ["_law_one", "_law_other", "_law_here", "_law_there"]
def e20_0 : CE := (.lc [2, 3] (.tup (.cons (.nm 2) (.cons (.nm 3) .nil))) (.zip (.var 0) (.var 1)) .none (.bi .int (.cons (.cmp .NotEq (.var 2) (.var 3)) .nil)))
def b20 : CSs := (.cons (.ret (.bi .sum (.cons e20_0 .nil))) .nil)
def n21 : List Str := ["_law_pot_here", "_law_shape_here", "_law_most", "_law_rows_here", "_law_found", "_law_k", "_law_row"]
def p21_0 : CSs := (.cons (.asgF 6 (.idx (.var 3) (.call 17 [true, false] (.cons (.var 0) (.cons (.bi .len (.cons (.var 3) .nil)) .nil))))) (.cons (.iff (.cmp .NotIn (.var 6) (.var 4)) (.cons (.expr (.mut .append 4 (.cons (.var 6) .nil))) .nil) .nil) .nil))
def b21 : CSs := (.cons (.asgF 3 (.call 19 [false] (.cons (.var 1) .nil))) (.cons (.asg 4 (.lst .nil)) (.cons (.forr (.nm 5) (.range1 (.call 17 [true, false] (.cons (.var 0) (.cons (.bin .Add (.var 2) (.con (.int 1))) .nil)))) p21_0) (.cons (.ret (.bi .tuple (.cons (.bi .sorted (.cons (.var 4) .nil)) .nil))) .nil))))
def n22 : List Str := ["_law_row", "_law_heap_here", "_law_other"]
def e22_0 : CE := (.lc [2] (.nm 2) (.val (.var 1)) .none (.call 20 [false, false] (.cons (.var 0) (.cons (.var 2) .nil))))
def b22 : CSs := (.cons (.ret e22_0) .nil)
def n23 : List Str := ["_law_shape_here", "_law_heap_here", "_law_rows_here", "_law_told", "_law_row", "_law_k", "_law_j"]
def e23_0 : CE := (.lc [4] (.nm 4) (.val (.var 2)) .none (.call 22 [false, false] (.cons (.var 4) (.cons (.var 1) .nil))))
def p23_1 : CSs := (.cons (.iff (.cmp .Eq (.idx (.var 3) (.var 5)) (.idx (.var 3) (.var 6))) (.cons (.ret (.tup (.cons (.idx (.var 2) (.var 5)) (.cons (.idx (.var 2) (.var 6)) .nil)))) .nil) .nil) .nil)
def p23_2 : CSs := (.cons (.forr (.nm 6) (.range2 (.bin .Add (.var 5) (.con (.int 1))) (.bi .len (.cons (.var 2) .nil))) p23_1) .nil)
def b23 : CSs := (.cons (.asgF 2 (.call 19 [false] (.cons (.var 0) .nil))) (.cons (.asgF 3 e23_0) (.cons (.forr (.nm 5) (.range1 (.bi .len (.cons (.var 2) .nil))) p23_2) (.cons (.ret (.con .none)) .nil))))
def n24 : List Str := ["_law_pot_here", "_law_shape_here", "_law_heap_here", "_law_rows_here", "_law_row", "_law_answers"]
def b24 : CSs := (.cons (.asgF 3 (.call 19 [false] (.cons (.var 1) .nil))) (.cons (.asgF 4 (.idx (.var 3) (.call 17 [true, false] (.cons (.var 0) (.cons (.bi .len (.cons (.var 3) .nil)) .nil))))) (.cons (.asgF 5 (.tupZip (.var 2) (.call 22 [false, false] (.cons (.var 4) (.cons (.var 2) .nil))))) (.cons (.ret (.call 13 [false, false] (.cons (.var 1) (.cons (.var 5) .nil)))) .nil))))
def n25 : List Str := ["_law_shape_here", "_law_heap_here"]
def b25 : CSs := (.cons (.ret (.cmp .Eq (.bi .repr (.cons (.call 15 [false, false] (.cons (.var 0) (.cons (.var 1) .nil))) .nil)) (.bi .repr (.cons (.call 23 [false, false] (.cons (.var 0) (.cons (.var 1) .nil))) .nil)))) .nil)
def n26 : List Str := ["_law_script", "_law_k", "_law_pot_here", "_law_shape_here", "_law_heap_here", "_law_more", "_law_some", "_law_pair"]
def p26_0 : CSs := (.cons (.asg 2 (.call 16 [false, false] (.cons (.var 0) (.cons (.var 1) .nil)))) (.cons (.asgF 3 (.call 18 [true, false] (.cons (.var 2) (.cons (.idx (.lst (.cons (.con (.int 16)) (.cons (.con (.int 64)) .nil))) (.bi .int (.cons (.cmp .Eq (.call 17 [true, false] (.cons (.var 2) (.cons (.con (.int 4)) .nil))) (.con (.int 3))) .nil))) .nil)))) (.cons (.asgF 4 (.call 21 [true, false, false] (.cons (.var 2) (.cons (.var 3) (.cons (.con (.int 10)) .nil))))) (.cons (.asgF 5 (.bi .tuple (.cons (.sortSet (.bin .Add (.var 4) (.call 21 [true, false, false] (.cons (.var 2) (.cons (.var 3) (.cons (.con (.int 1)) .nil)))))) .nil))) (.cons (.iff (.bo false (.cons (.not (.call 25 [false, false] (.cons (.var 3) (.cons (.var 4) .nil)))) (.cons (.not (.call 25 [false, false] (.cons (.var 3) (.cons (.var 5) .nil)))) (.cons (.not (.call 25 [false, false] (.cons (.var 3) (.cons (.slc (.var 4) (.some (.con (.int 1))) .none) .nil)))) .nil)))) (.cons (.ret (.con (.bool false))) .nil) .nil) (.cons (.iff (.bo true (.cons (.cmp .Is (.call 15 [false, false] (.cons (.var 3) (.cons (.var 4) .nil))) (.con .none)) (.cons (.cmp .IsNot (.call 15 [false, false] (.cons (.var 3) (.cons (.var 5) .nil))) (.con .none)) .nil))) (.cons (.ret (.con (.bool false))) .nil) .nil) (.cons (.asgF 6 (.call 24 [true, false, false] (.cons (.var 2) (.cons (.var 3) (.cons (.var 4) .nil))))) (.cons (.iff (.bo false (.cons (.bo true (.cons (.cmp .Is (.call 15 [false, false] (.cons (.var 3) (.cons (.var 4) .nil))) (.con .none)) (.cons (.cmp .NotEq (.bi .len (.cons (.var 6) .nil)) (.con (.int 1))) .nil))) (.cons (.cmp .Eq (.var 6) (.lst .nil)) .nil))) (.cons (.ret (.con (.bool false))) .nil) .nil) (.cons (.asgF 7 (.call 15 [false, false] (.cons (.var 3) (.cons (.var 4) .nil)))) (.cons (.iff (.cmp .IsNot (.var 7) (.con .none)) (.cons (.asgF 6 (.call 13 [false, false] (.cons (.var 3) (.cons (.tupZip (.var 4) (.call 22 [false, false] (.cons (.idx (.var 7) (.con (.int 0))) (.cons (.var 4) .nil)))) .nil)))) (.cons (.iff (.bo false (.cons (.cmp .NotEq (.idx (.var 6) (.con (.int 0))) (.idx (.var 7) (.con (.int 0)))) (.cons (.cmp .NotIn (.idx (.var 7) (.con (.int 1))) (.var 6)) .nil))) (.cons (.ret (.con (.bool false))) .nil) .nil) .nil)) .nil) .nil))))))))))
def b26 : CSs := (.cons (.forr (.nm 1) (.range1 (.bi .max (.cons (.con (.int 2)) (.cons (.bi .min (.cons (.con (.int 4)) (.cons (.bi .len (.cons (.var 0) .nil)) .nil))) .nil)))) p26_0) (.cons (.ret (.con (.bool true))) .nil))
def cN : List Str := ["MOST_SPOTS", "LEAST_SIGNS", "MOST_SIGNS", "MOST_ROWS", "PARTS_OF_ANSWER"]
def cS : Nat → Option PyData
  | 0 => some (.int 8)
  | 1 => some (.int 2)
  | 2 => some (.int 9)
  | 3 => some (.int 256)
  | 4 => some (.int 2)
  | _ => none
def sT : Nat → Stmt
  | 0 => top 10
  | 1 => top 11
  | 2 => top 12
  | 3 => top 13
  | 4 => top 14
  | 5 => top 15
  | 6 => top 16
  | 7 => top 18
  | 8 => top 19
  | 9 => top 22
  | 10 => top 23
  | 11 => top 24
  | 12 => top 25
  | 13 => top 26
  | 14 => top 27
  | 15 => top 28
  | 16 => top 30
  | 17 => top 31
  | 18 => top 32
  | 19 => top 33
  | 20 => top 34
  | 21 => top 35
  | 22 => top 36
  | 23 => top 37
  | 24 => top 38
  | 25 => top 39
  | 26 => top 40
  | _ => top 0
def nN : Nat → List Str
  | 0 => n0
  | 1 => n1
  | 2 => n2
  | 3 => n3
  | 4 => n4
  | 5 => n5
  | 6 => n6
  | 7 => n7
  | 8 => n8
  | 9 => n9
  | 10 => n10
  | 11 => n11
  | 12 => n12
  | 13 => n13
  | 14 => n14
  | 15 => n15
  | 16 => n16
  | 17 => n17
  | 18 => n18
  | 19 => n19
  | 20 => n20
  | 21 => n21
  | 22 => n22
  | 23 => n23
  | 24 => n24
  | 25 => n25
  | 26 => n26
  | _ => []
def pS : Nat → List Str
  | 0 => ["thing"]
  | 1 => ["shape"]
  | 2 => ["thing"]
  | 3 => ["shape", "thing"]
  | 4 => ["thing"]
  | 5 => ["shape"]
  | 6 => ["one", "other"]
  | 7 => ["shape", "thing"]
  | 8 => ["shape", "thing"]
  | 9 => ["shape", "thing"]
  | 10 => ["shape", "thing"]
  | 11 => ["shape", "thing"]
  | 12 => ["row", "answers"]
  | 13 => ["shape", "answers"]
  | 14 => ["row", "heap"]
  | 15 => ["shape", "heap"]
  | 16 => ["_law_script", "_law_k"]
  | 17 => ["_law_pot_here", "_law_many"]
  | 18 => ["_law_pot_here", "_law_most"]
  | 19 => ["_law_shape_here"]
  | 20 => ["_law_one", "_law_other"]
  | 21 => ["_law_pot_here", "_law_shape_here", "_law_most"]
  | 22 => ["_law_row", "_law_heap_here"]
  | 23 => ["_law_shape_here", "_law_heap_here"]
  | 24 => ["_law_pot_here", "_law_shape_here", "_law_heap_here"]
  | 25 => ["_law_shape_here", "_law_heap_here"]
  | 26 => ["_law_script"]
  | _ => []
def bD : Nat → CSs
  | 0 => b0
  | 1 => b1
  | 2 => b2
  | 3 => b3
  | 4 => b4
  | 5 => b5
  | 6 => b6
  | 7 => b7
  | 8 => b8
  | 9 => b9
  | 10 => b10
  | 11 => b11
  | 12 => b12
  | 13 => b13
  | 14 => b14
  | 15 => b15
  | 16 => b16
  | 17 => b17
  | 18 => b18
  | 19 => b19
  | 20 => b20
  | 21 => b21
  | 22 => b22
  | 23 => b23
  | 24 => b24
  | 25 => b25
  | 26 => b26
  | _ => .nil
def xT : Nat → Option ((Nat → Fn) → Fn) := fun _ => none
noncomputable def prg : Prg := ⟨cS, cN, ("is_whole" :: "size_of" :: "is_shape" :: "is_row_of" :: "want_shape" :: "rows_of" :: "apart" :: "is_heap_of" :: "want_heap" :: "is_answer" :: "are_answers" :: "want_answers" :: "has_told" :: "left" :: "distances_of" :: "not_apart" :: "_law_pot" :: "_law_take" :: "_law_shape" :: "_law_rows" :: "_law_off" :: "_law_heap" :: "_law_distances" :: "_law_due" :: "_law_left_alone" :: "_law_right" :: "law" :: []), ["abs", "all", "bool", "divmod", "enumerate", "int", "isinstance", "len", "max", "min", "range", "repr", "set", "sorted", "sum", "tuple", "zip"], ["NoAnswers", "NoHeap", "NoShape"], sT, nN, pS, bD, 1000, xT⟩
noncomputable abbrev FT := prg.FT
@[simp] theorem cS0 : cS 0 = some (.int 8) := rfl
@[simp] theorem cS1 : cS 1 = some (.int 2) := rfl
@[simp] theorem cS2 : cS 2 = some (.int 9) := rfl
@[simp] theorem cS3 : cS 3 = some (.int 256) := rfl
@[simp] theorem cS4 : cS 4 = some (.int 2) := rfl
theorem ok : prg.Ok where
  sc := fun j x h hx => by
    match j, h, hx with
    | 0, h, hx => exact ⟨⟨rfl, rfl, rfl, by decide +kernel, rfl, by decide +kernel, by decide +kernel⟩, rfl⟩
    | 1, h, hx => exact ⟨⟨rfl, rfl, rfl, by decide +kernel, rfl, by decide +kernel, by decide +kernel⟩, rfl⟩
    | 2, h, hx => exact ⟨⟨rfl, rfl, rfl, by decide +kernel, rfl, by decide +kernel, by decide +kernel⟩, rfl⟩
    | 3, h, hx => exact ⟨⟨rfl, rfl, rfl, by decide +kernel, rfl, by decide +kernel, by decide +kernel⟩, rfl⟩
    | 4, h, hx => exact ⟨⟨rfl, rfl, rfl, by decide +kernel, rfl, by decide +kernel, by decide +kernel⟩, rfl⟩
    | 5, h, hx => exact ⟨⟨rfl, rfl, rfl, by decide +kernel, rfl, by decide +kernel, by decide +kernel⟩, rfl⟩
    | 6, h, hx => exact ⟨⟨rfl, rfl, rfl, by decide +kernel, rfl, by decide +kernel, by decide +kernel⟩, rfl⟩
    | 7, h, hx => exact ⟨⟨rfl, rfl, rfl, by decide +kernel, rfl, by decide +kernel, by decide +kernel⟩, rfl⟩
    | 8, h, hx => exact ⟨⟨rfl, rfl, rfl, by decide +kernel, rfl, by decide +kernel, by decide +kernel⟩, rfl⟩
    | 9, h, hx => exact ⟨⟨rfl, rfl, rfl, by decide +kernel, rfl, by decide +kernel, by decide +kernel⟩, rfl⟩
    | 10, h, hx => exact ⟨⟨rfl, rfl, rfl, by decide +kernel, rfl, by decide +kernel, by decide +kernel⟩, rfl⟩
    | 11, h, hx => exact ⟨⟨rfl, rfl, rfl, by decide +kernel, rfl, by decide +kernel, by decide +kernel⟩, rfl⟩
    | 12, h, hx => exact ⟨⟨rfl, rfl, rfl, by decide +kernel, rfl, by decide +kernel, by decide +kernel⟩, rfl⟩
    | 13, h, hx => exact ⟨⟨rfl, rfl, rfl, by decide +kernel, rfl, by decide +kernel, by decide +kernel⟩, rfl⟩
    | 14, h, hx => exact ⟨⟨rfl, rfl, rfl, by decide +kernel, rfl, by decide +kernel, by decide +kernel⟩, rfl⟩
    | 15, h, hx => exact ⟨⟨rfl, rfl, rfl, by decide +kernel, rfl, by decide +kernel, by decide +kernel⟩, rfl⟩
    | 16, h, hx => exact ⟨⟨rfl, rfl, rfl, by decide +kernel, rfl, by decide +kernel, by decide +kernel⟩, rfl⟩
    | 17, h, hx => exact ⟨⟨rfl, rfl, rfl, by decide +kernel, rfl, by decide +kernel, by decide +kernel⟩, rfl⟩
    | 18, h, hx => exact ⟨⟨rfl, rfl, rfl, by decide +kernel, rfl, by decide +kernel, by decide +kernel⟩, rfl⟩
    | 19, h, hx => exact ⟨⟨rfl, rfl, rfl, by decide +kernel, rfl, by decide +kernel, by decide +kernel⟩, rfl⟩
    | 20, h, hx => exact ⟨⟨rfl, rfl, rfl, by decide +kernel, rfl, by decide +kernel, by decide +kernel⟩, rfl⟩
    | 21, h, hx => exact ⟨⟨rfl, rfl, rfl, by decide +kernel, rfl, by decide +kernel, by decide +kernel⟩, rfl⟩
    | 22, h, hx => exact ⟨⟨rfl, rfl, rfl, by decide +kernel, rfl, by decide +kernel, by decide +kernel⟩, rfl⟩
    | 23, h, hx => exact ⟨⟨rfl, rfl, rfl, by decide +kernel, rfl, by decide +kernel, by decide +kernel⟩, rfl⟩
    | 24, h, hx => exact ⟨⟨rfl, rfl, rfl, by decide +kernel, rfl, by decide +kernel, by decide +kernel⟩, rfl⟩
    | 25, h, hx => exact ⟨⟨rfl, rfl, rfl, by decide +kernel, rfl, by decide +kernel, by decide +kernel⟩, rfl⟩
    | 26, h, hx => exact ⟨⟨rfl, rfl, rfl, by decide +kernel, rfl, by decide +kernel, by decide +kernel⟩, rfl⟩
    | j + 27, h, hx => simp [prg] at h
  ck := fun j x h hx F => by
    match j, h, hx with
    | 0, h, hx => kernel_rfl
    | 1, h, hx => kernel_rfl
    | 2, h, hx => kernel_rfl
    | 3, h, hx => kernel_rfl
    | 4, h, hx => kernel_rfl
    | 5, h, hx => kernel_rfl
    | 6, h, hx => kernel_rfl
    | 7, h, hx => kernel_rfl
    | 8, h, hx => kernel_rfl
    | 9, h, hx => kernel_rfl
    | 10, h, hx => kernel_rfl
    | 11, h, hx => kernel_rfl
    | 12, h, hx => kernel_rfl
    | 13, h, hx => kernel_rfl
    | 14, h, hx => kernel_rfl
    | 15, h, hx => kernel_rfl
    | 16, h, hx => kernel_rfl
    | 17, h, hx => kernel_rfl
    | 18, h, hx => kernel_rfl
    | 19, h, hx => kernel_rfl
    | 20, h, hx => kernel_rfl
    | 21, h, hx => kernel_rfl
    | 22, h, hx => kernel_rfl
    | 23, h, hx => kernel_rfl
    | 24, h, hx => kernel_rfl
    | 25, h, hx => kernel_rfl
    | 26, h, hx => kernel_rfl
    | j + 27, h, hx => simp [prg] at h
  bd := fun j x h kV doc pm an cdv ct us hl => by
    match j, h with
    | 0, h => cases h; exact match us, hl with | [_], _ => rfl
    | 1, h => cases h; exact match us, hl with | [_], _ => rfl
    | 2, h => cases h; exact match us, hl with | [_], _ => rfl
    | 3, h => cases h; exact match us, hl with | [_, _], _ => rfl
    | 4, h => cases h; exact match us, hl with | [_], _ => rfl
    | 5, h => cases h; exact match us, hl with | [_], _ => rfl
    | 6, h => cases h; exact match us, hl with | [_, _], _ => rfl
    | 7, h => cases h; exact match us, hl with | [_, _], _ => rfl
    | 8, h => cases h; exact match us, hl with | [_, _], _ => rfl
    | 9, h => cases h; exact match us, hl with | [_, _], _ => rfl
    | 10, h => cases h; exact match us, hl with | [_, _], _ => rfl
    | 11, h => cases h; exact match us, hl with | [_, _], _ => rfl
    | 12, h => cases h; exact match us, hl with | [_, _], _ => rfl
    | 13, h => cases h; exact match us, hl with | [_, _], _ => rfl
    | 14, h => cases h; exact match us, hl with | [_, _], _ => rfl
    | 15, h => cases h; exact match us, hl with | [_, _], _ => rfl
    | 16, h => cases h; exact match us, hl with | [_, _], _ => rfl
    | 17, h => cases h; exact match us, hl with | [_, _], _ => rfl
    | 18, h => cases h; exact match us, hl with | [_, _], _ => rfl
    | 19, h => cases h; exact match us, hl with | [_], _ => rfl
    | 20, h => cases h; exact match us, hl with | [_, _], _ => rfl
    | 21, h => cases h; exact match us, hl with | [_, _, _], _ => rfl
    | 22, h => cases h; exact match us, hl with | [_, _], _ => rfl
    | 23, h => cases h; exact match us, hl with | [_, _], _ => rfl
    | 24, h => cases h; exact match us, hl with | [_, _, _], _ => rfl
    | 25, h => cases h; exact match us, hl with | [_, _], _ => rfl
    | 26, h => cases h; exact match us, hl with | [_], _ => rfl
    | j + 27, h => simp [prg] at h
@[simp] theorem np0 (k : Nat) : (FT k 0).np = 1 := by cases k <;> rfl
theorem rF0 {k : Nat} {s0 : Option Slot} (h : [s0].all isArg = true) : (FT (k + 1) 0).S [s0] = finA [s0] (evSs cS (FT k) 1000 b0 [s0]) := runF_S ⟨rfl, h⟩
theorem fT0 (k : Nat) : FT (k + 1) 0 = runF cS (FT k) 1000 1 0 b0 := rfl
@[simp] theorem np1 (k : Nat) : (FT k 1).np = 1 := by cases k <;> rfl
theorem rF1 {k : Nat} {s0 : Option Slot} (h : [s0].all isArg = true) : (FT (k + 1) 1).S [s0] = finA [s0] (evSs cS (FT k) 1000 b1 [s0, none, none]) := runF_S ⟨rfl, h⟩
theorem fT1 (k : Nat) : FT (k + 1) 1 = runF cS (FT k) 1000 1 2 b1 := rfl
@[simp] theorem np2 (k : Nat) : (FT k 2).np = 1 := by cases k <;> rfl
theorem rF2 {k : Nat} {s0 : Option Slot} (h : [s0].all isArg = true) : (FT (k + 1) 2).S [s0] = finA [s0] (evSs cS (FT k) 1000 b2 [s0, none]) := runF_S ⟨rfl, h⟩
theorem fT2 (k : Nat) : FT (k + 1) 2 = runF cS (FT k) 1000 1 1 b2 := rfl
@[simp] theorem np3 (k : Nat) : (FT k 3).np = 2 := by cases k <;> rfl
theorem rF3 {k : Nat} {s0 s1 : Option Slot} (h : [s0, s1].all isArg = true) : (FT (k + 1) 3).S [s0, s1] = finA [s0, s1] (evSs cS (FT k) 1000 b3 [s0, s1, none, none]) := runF_S ⟨rfl, h⟩
theorem fT3 (k : Nat) : FT (k + 1) 3 = runF cS (FT k) 1000 2 2 b3 := rfl
@[simp] theorem np4 (k : Nat) : (FT k 4).np = 1 := by cases k <;> rfl
theorem rF4 {k : Nat} {s0 : Option Slot} (h : [s0].all isArg = true) : (FT (k + 1) 4).S [s0] = finA [s0] (evSs cS (FT k) 1000 b4 [s0]) := runF_S ⟨rfl, h⟩
theorem fT4 (k : Nat) : FT (k + 1) 4 = runF cS (FT k) 1000 1 0 b4 := rfl
@[simp] theorem np5 (k : Nat) : (FT k 5).np = 1 := by cases k <;> rfl
theorem rF5 {k : Nat} {s0 : Option Slot} (h : [s0].all isArg = true) : (FT (k + 1) 5).S [s0] = finA [s0] (evSs cS (FT k) 1000 b5 [s0, none, none, none, none, none]) := runF_S ⟨rfl, h⟩
theorem fT5 (k : Nat) : FT (k + 1) 5 = runF cS (FT k) 1000 1 5 b5 := rfl
@[simp] theorem np6 (k : Nat) : (FT k 6).np = 2 := by cases k <;> rfl
theorem rF6 {k : Nat} {s0 s1 : Option Slot} (h : [s0, s1].all isArg = true) : (FT (k + 1) 6).S [s0, s1] = finA [s0, s1] (evSs cS (FT k) 1000 b6 [s0, s1, none, none]) := runF_S ⟨rfl, h⟩
theorem fT6 (k : Nat) : FT (k + 1) 6 = runF cS (FT k) 1000 2 2 b6 := rfl
@[simp] theorem np7 (k : Nat) : (FT k 7).np = 2 := by cases k <;> rfl
theorem rF7 {k : Nat} {s0 s1 : Option Slot} (h : [s0, s1].all isArg = true) : (FT (k + 1) 7).S [s0, s1] = finA [s0, s1] (evSs cS (FT k) 1000 b7 [s0, s1, none, none, none]) := runF_S ⟨rfl, h⟩
theorem fT7 (k : Nat) : FT (k + 1) 7 = runF cS (FT k) 1000 2 3 b7 := rfl
@[simp] theorem np8 (k : Nat) : (FT k 8).np = 2 := by cases k <;> rfl
theorem rF8 {k : Nat} {s0 s1 : Option Slot} (h : [s0, s1].all isArg = true) : (FT (k + 1) 8).S [s0, s1] = finA [s0, s1] (evSs cS (FT k) 1000 b8 [s0, s1]) := runF_S ⟨rfl, h⟩
theorem fT8 (k : Nat) : FT (k + 1) 8 = runF cS (FT k) 1000 2 0 b8 := rfl
@[simp] theorem np9 (k : Nat) : (FT k 9).np = 2 := by cases k <;> rfl
theorem rF9 {k : Nat} {s0 s1 : Option Slot} (h : [s0, s1].all isArg = true) : (FT (k + 1) 9).S [s0, s1] = finA [s0, s1] (evSs cS (FT k) 1000 b9 [s0, s1]) := runF_S ⟨rfl, h⟩
theorem fT9 (k : Nat) : FT (k + 1) 9 = runF cS (FT k) 1000 2 0 b9 := rfl
@[simp] theorem np10 (k : Nat) : (FT k 10).np = 2 := by cases k <;> rfl
theorem rF10 {k : Nat} {s0 s1 : Option Slot} (h : [s0, s1].all isArg = true) : (FT (k + 1) 10).S [s0, s1] = finA [s0, s1] (evSs cS (FT k) 1000 b10 [s0, s1, none]) := runF_S ⟨rfl, h⟩
theorem fT10 (k : Nat) : FT (k + 1) 10 = runF cS (FT k) 1000 2 1 b10 := rfl
@[simp] theorem np11 (k : Nat) : (FT k 11).np = 2 := by cases k <;> rfl
theorem rF11 {k : Nat} {s0 s1 : Option Slot} (h : [s0, s1].all isArg = true) : (FT (k + 1) 11).S [s0, s1] = finA [s0, s1] (evSs cS (FT k) 1000 b11 [s0, s1]) := runF_S ⟨rfl, h⟩
theorem fT11 (k : Nat) : FT (k + 1) 11 = runF cS (FT k) 1000 2 0 b11 := rfl
@[simp] theorem np12 (k : Nat) : (FT k 12).np = 2 := by cases k <;> rfl
theorem rF12 {k : Nat} {s0 s1 : Option Slot} (h : [s0, s1].all isArg = true) : (FT (k + 1) 12).S [s0, s1] = finA [s0, s1] (evSs cS (FT k) 1000 b12 [s0, s1, none, none]) := runF_S ⟨rfl, h⟩
theorem fT12 (k : Nat) : FT (k + 1) 12 = runF cS (FT k) 1000 2 2 b12 := rfl
@[simp] theorem np13 (k : Nat) : (FT k 13).np = 2 := by cases k <;> rfl
theorem rF13 {k : Nat} {s0 s1 : Option Slot} (h : [s0, s1].all isArg = true) : (FT (k + 1) 13).S [s0, s1] = finA [s0, s1] (evSs cS (FT k) 1000 b13 [s0, s1, none]) := runF_S ⟨rfl, h⟩
theorem fT13 (k : Nat) : FT (k + 1) 13 = runF cS (FT k) 1000 2 1 b13 := rfl
@[simp] theorem np14 (k : Nat) : (FT k 14).np = 2 := by cases k <;> rfl
theorem rF14 {k : Nat} {s0 s1 : Option Slot} (h : [s0, s1].all isArg = true) : (FT (k + 1) 14).S [s0, s1] = finA [s0, s1] (evSs cS (FT k) 1000 b14 [s0, s1, none]) := runF_S ⟨rfl, h⟩
theorem fT14 (k : Nat) : FT (k + 1) 14 = runF cS (FT k) 1000 2 1 b14 := rfl
@[simp] theorem np15 (k : Nat) : (FT k 15).np = 2 := by cases k <;> rfl
theorem rF15 {k : Nat} {s0 s1 : Option Slot} (h : [s0, s1].all isArg = true) : (FT (k + 1) 15).S [s0, s1] = finA [s0, s1] (evSs cS (FT k) 1000 b15 [s0, s1, none, none, none, none, none, none, none, none]) := runF_S ⟨rfl, h⟩
theorem fT15 (k : Nat) : FT (k + 1) 15 = runF cS (FT k) 1000 2 8 b15 := rfl
@[simp] theorem np16 (k : Nat) : (FT k 16).np = 2 := by cases k <;> rfl
theorem rF16 {k : Nat} {s0 s1 : Option Slot} (h : [s0, s1].all isArg = true) : (FT (k + 1) 16).S [s0, s1] = finA [s0, s1] (evSs cS (FT k) 1000 b16 [s0, s1, none]) := runF_S ⟨rfl, h⟩
theorem fT16 (k : Nat) : FT (k + 1) 16 = runF cS (FT k) 1000 2 1 b16 := rfl
@[simp] theorem np17 (k : Nat) : (FT k 17).np = 2 := by cases k <;> rfl
theorem rF17 {k : Nat} {s0 s1 : Option Slot} (h : [s0, s1].all isArg = true) : (FT (k + 1) 17).S [s0, s1] = finA [s0, s1] (evSs cS (FT k) 1000 b17 [s0, s1, none]) := runF_S ⟨rfl, h⟩
theorem fT17 (k : Nat) : FT (k + 1) 17 = runF cS (FT k) 1000 2 1 b17 := rfl
@[simp] theorem np18 (k : Nat) : (FT k 18).np = 2 := by cases k <;> rfl
theorem rF18 {k : Nat} {s0 s1 : Option Slot} (h : [s0, s1].all isArg = true) : (FT (k + 1) 18).S [s0, s1] = finA [s0, s1] (evSs cS (FT k) 1000 b18 [s0, s1, none, none, none, none]) := runF_S ⟨rfl, h⟩
theorem fT18 (k : Nat) : FT (k + 1) 18 = runF cS (FT k) 1000 2 4 b18 := rfl
@[simp] theorem np19 (k : Nat) : (FT k 19).np = 1 := by cases k <;> rfl
theorem rF19 {k : Nat} {s0 : Option Slot} (h : [s0].all isArg = true) : (FT (k + 1) 19).S [s0] = finA [s0] (evSs cS (FT k) 1000 b19 [s0, none, none, none, none, none]) := runF_S ⟨rfl, h⟩
theorem fT19 (k : Nat) : FT (k + 1) 19 = runF cS (FT k) 1000 1 5 b19 := rfl
@[simp] theorem np20 (k : Nat) : (FT k 20).np = 2 := by cases k <;> rfl
theorem rF20 {k : Nat} {s0 s1 : Option Slot} (h : [s0, s1].all isArg = true) : (FT (k + 1) 20).S [s0, s1] = finA [s0, s1] (evSs cS (FT k) 1000 b20 [s0, s1, none, none]) := runF_S ⟨rfl, h⟩
theorem fT20 (k : Nat) : FT (k + 1) 20 = runF cS (FT k) 1000 2 2 b20 := rfl
@[simp] theorem np21 (k : Nat) : (FT k 21).np = 3 := by cases k <;> rfl
theorem rF21 {k : Nat} {s0 s1 s2 : Option Slot} (h : [s0, s1, s2].all isArg = true) : (FT (k + 1) 21).S [s0, s1, s2] = finA [s0, s1, s2] (evSs cS (FT k) 1000 b21 [s0, s1, s2, none, none, none, none]) := runF_S ⟨rfl, h⟩
theorem fT21 (k : Nat) : FT (k + 1) 21 = runF cS (FT k) 1000 3 4 b21 := rfl
@[simp] theorem np22 (k : Nat) : (FT k 22).np = 2 := by cases k <;> rfl
theorem rF22 {k : Nat} {s0 s1 : Option Slot} (h : [s0, s1].all isArg = true) : (FT (k + 1) 22).S [s0, s1] = finA [s0, s1] (evSs cS (FT k) 1000 b22 [s0, s1, none]) := runF_S ⟨rfl, h⟩
theorem fT22 (k : Nat) : FT (k + 1) 22 = runF cS (FT k) 1000 2 1 b22 := rfl
@[simp] theorem np23 (k : Nat) : (FT k 23).np = 2 := by cases k <;> rfl
theorem rF23 {k : Nat} {s0 s1 : Option Slot} (h : [s0, s1].all isArg = true) : (FT (k + 1) 23).S [s0, s1] = finA [s0, s1] (evSs cS (FT k) 1000 b23 [s0, s1, none, none, none, none, none]) := runF_S ⟨rfl, h⟩
theorem fT23 (k : Nat) : FT (k + 1) 23 = runF cS (FT k) 1000 2 5 b23 := rfl
@[simp] theorem np24 (k : Nat) : (FT k 24).np = 3 := by cases k <;> rfl
theorem rF24 {k : Nat} {s0 s1 s2 : Option Slot} (h : [s0, s1, s2].all isArg = true) : (FT (k + 1) 24).S [s0, s1, s2] = finA [s0, s1, s2] (evSs cS (FT k) 1000 b24 [s0, s1, s2, none, none, none]) := runF_S ⟨rfl, h⟩
theorem fT24 (k : Nat) : FT (k + 1) 24 = runF cS (FT k) 1000 3 3 b24 := rfl
@[simp] theorem np25 (k : Nat) : (FT k 25).np = 2 := by cases k <;> rfl
theorem rF25 {k : Nat} {s0 s1 : Option Slot} (h : [s0, s1].all isArg = true) : (FT (k + 1) 25).S [s0, s1] = finA [s0, s1] (evSs cS (FT k) 1000 b25 [s0, s1]) := runF_S ⟨rfl, h⟩
theorem fT25 (k : Nat) : FT (k + 1) 25 = runF cS (FT k) 1000 2 0 b25 := rfl
@[simp] theorem np26 (k : Nat) : (FT k 26).np = 1 := by cases k <;> rfl
theorem rF26 {k : Nat} {s0 : Option Slot} (h : [s0].all isArg = true) : (FT (k + 1) 26).S [s0] = finA [s0] (evSs cS (FT k) 1000 b26 [s0, none, none, none, none, none, none, none]) := runF_S ⟨rfl, h⟩
theorem fT26 (k : Nat) : FT (k + 1) 26 = runF cS (FT k) 1000 1 7 b26 := rfl
end C85

namespace C85
open PySem L2 Ev

theorem forL_go {α β : Type} {C : Prop} {turn : PyData → En → SR} {l : List PyData} {e0 : En} {L : SR} (hL : forL turn l e0 = L) (mk : α → PyData) (st : β → En) (P : List α → β → Prop) (xs : List α) (b : β) (hl : l = xs.map mk) (he : e0 = st b) (hP : P xs b)
    (hs : ∀ x xs b, P (x :: xs) b → ∀ S, turn (mk x) (st b) = S → ∃ b', S = .nx (st b') ∧ P xs b') (k : ∀ b', L = .nx (st b') → P [] b' → C) : C := by
  subst hl he hL
  obtain ⟨b', h1, h2⟩ := forL_st mk st P (fun x xs b h => hs x xs b h _ rfl) xs b hP
  exact k b' h1 h2
theorem rangeD_rg (n : Int) : rangeD 0 n = (NR.rg n).map .int := by
  unfold rangeD NR.rg
  rw [Int.sub_zero, List.map_map]
  refine List.map_congr_left fun i _ => ?_
  show PyData.int (0 + (i : Int)) = PyData.int (i : Int)
  rw [Int.zero_add]
theorem prd_eq : ∀ ns : List Int, NR.prodI ns = prodI ns
  | [] => rfl
  | n :: ns => by rw [NR.prodI, prodI, prd_eq ns]
theorem rows_len {sh : List Int} (h : Shape sh) : ((NR.rowsI sh).length : Int) = prodI sh := by
  rw [NR.rows_length fun s hs => by have := h.el s hs; omega, prd_eq]
theorem rows_le {sh : List Int} (h : Shape sh) : (NR.rowsI sh).length ≤ 256 := by
  have := rows_len h
  have := h.pr
  omega
theorem row_len {sh r : List Int} (h : Shape sh) (hr : NR.IsRow sh r) : r.length ≤ 8 := by
  rw [hr.len]
  exact h.len

theorem run_rows_of (k : Nat) (sh : List Int) (h : Shape sh) : (FT (k + 1) 5).S [some (.val (.tuple (sh.map .int)))] = .ok (.v (.list ((NR.rowsI sh).map rowD))) [some (.val (.tuple (sh.map .int)))] := by
  refine (rF5 rfl).trans ?_
  simp [b5, sl_le]
  generalize hL : forL _ _ _ = L
  refine forL_go hL .int (fun b : List (List Int) × Option Slot × Option Slot × Option Slot => [some (.val (.tuple (sh.map .int))), some (.val (.list (b.1.map rowD))), b.2.1, b.2.2.1, b.2.2.2, none])
    (fun rest b => nb b.2.1 = true ∧ nb b.2.2.1 = true ∧ nb b.2.2.2 = true ∧ NR.rowsF rest b.1 = NR.rowsI sh ∧ (b.1.length : Int) * prodI rest ≤ 256 ∧ (∀ r ∈ b.1, r.length + rest.length ≤ 8) ∧ ∀ s ∈ rest, 2 ≤ s ∧ s ≤ 9) sh ([[]], none, none, none) rfl rfl
    ⟨rfl, rfl, rfl, rfl, by have := h.pr; simpa using this, by have := h.len; simpa using this, h.el⟩ (fun s rest ⟨acc, s2, s3, s4⟩ ⟨q1, q2, q3, q4, q5, q6, q7⟩ S hS => ?_) fun ⟨acc, s2, s3, s4⟩ e ⟨q1, q2, q3, q4, _⟩ => ?_
  rotate_left
  · subst e
    dsimp only at q4
    rw [NR.rowsF] at q4
    subst q4
    simp [h]
  · dsimp only at q1 q2 q3 q4 q5 q6 q7 ⊢
    simp [p5_2, sl_le, q1, q2, q3] at hS
    generalize hL2 : forL _ _ _ = L2 at hS
    have hs := q7 s List.mem_cons_self
    have pr := prodI_pos (ns := rest) fun x hx => by have := q7 x (List.mem_cons_of_mem _ hx); omega
    have tot : (acc.flatMap fun r => (NR.rg s).map fun i => r ++ [i]).length = acc.length * s.toNat := by
      rw [List.length_flatMap]
      simp [NR.rg_length, List.map_const', List.sum_replicate_nat]
    have e0 : (acc.length : Int) * prodI (s :: rest) = ((acc.length : Int) * s) * prodI rest := by rw [prodI, Int.mul_assoc]
    rw [e0] at q5
    have bd : (acc.length : Int) * s ≤ 256 := by
      have := Int.mul_le_mul_of_nonneg_left pr (show 0 ≤ (acc.length : Int) * s from Int.mul_nonneg (by omega) (by omega))
      omega
    have bd' : acc.length * s.toNat ≤ 256 := by
      have : ((acc.length * s.toNat : Nat) : Int) = (acc.length : Int) * s := by rw [Int.natCast_mul, Int.toNat_of_nonneg (by omega)]
      omega
    refine forL_go hL2 rowD (fun b : List (List Int) × Option Slot => [some (.val (.tuple (sh.map .int))), some (.val (.list (acc.map rowD))), some (.val (.int s)), some (.own (.lst (b.1.map rowD))), b.2, none])
      (fun rows b => nb b.2 = true ∧ (b.1 ++ rows.flatMap fun r => (NR.rg s).map fun i => r ++ [i]) = (acc.flatMap fun r => (NR.rg s).map fun i => r ++ [i]) ∧ ∀ r ∈ rows, r.length + 1 ≤ 8) acc ([], s4) rfl rfl
      ⟨q3, by simp, fun r hr => by have := q6 r hr; simp at this; omega⟩ (fun r rows ⟨lo, t4⟩ ⟨p1, p2, p3⟩ S' hS' => ?_) fun ⟨lo, t4⟩ e ⟨p1, p2, _⟩ => ?_
    rotate_left
    · subst e
      dsimp only at p2
      simp at p2
      subst p2
      refine ⟨(acc.flatMap fun r => (NR.rg s).map fun i => r ++ [i], some (.val (.int s)), some (.val (.list ((acc.flatMap fun r => (NR.rg s).map fun i => r ++ [i]).map rowD))), t4), ?_, rfl, rfl, p1, q4, ?_, fun r hr => ?_, fun x hx => q7 x (List.mem_cons_of_mem _ hx)⟩
      · simpa using hS.symm
      · dsimp only
        rw [tot, Int.natCast_mul, Int.toNat_of_nonneg (by omega)]
        exact q5
      · obtain ⟨r', hr', hr⟩ := List.mem_flatMap.mp hr
        obtain ⟨i, _, rfl⟩ := List.mem_map.mp hr
        have := q6 r' hr'
        simp at this ⊢
        omega
    · dsimp only at p1 p2 p3 ⊢
      have hr := p3 r List.mem_cons_self
      have hl : (lo ++ (NR.rg s).map fun i => r ++ [i]).length ≤ 256 := by
        have := congrArg List.length p2
        rw [tot] at this
        simp at this ⊢
        omega
      have hin : inR62 s := inR_small (by omega)
      subst hS'
      refine ⟨(lo ++ (NR.rg s).map fun i => r ++ [i], some (.val (rowD r))), ?_, rfl, ?_, fun x hx => p3 x (List.mem_cons_of_mem _ hx)⟩
      · simp [p5_1, e5_0, p1, range1_ok hin, rangeD_rg]
        rw [compL_all (f := fun i => rowD (r ++ [i])) (by simp) (fun i hi => by simp [rowD, sl_le, show r.length + 1 ≤ sizeLine from sl_le (by omega)]) (by rw [NR.rg_length]; omega)]
        simp at hl
        simp (disch := first | omega | simp) [sl_le, Function.comp_def]
      · dsimp only
        simpa [List.flatMap_cons] using p2

theorem zip_ints (a b : List Int) : zipD (a.map PyData.int) (b.map PyData.int) = (a.zip b).map fun p => .tuple [.int p.1, .int p.2] := zipD_map _ _ _ _
theorem run_apart (k : Nat) (a b : List Int) (h : a.length ≤ 256) : (FT (k + 1) 6).S [some (.val (rowD a)), some (.val (rowD b))] = .ok (.v (.int (NR.apI a b : Nat))) [some (.val (rowD a)), some (.val (rowD b))] := by
  refine (rF6 rfl).trans ?_
  simp [b6, e6_0, rowD, zip_ints]
  rw [compL_some (f := fun p : Int × Int => if p.1 = p.2 then none else some (.int p.1)) (by simp) (fun p hp => by by_cases h : p.1 = p.2 <;> simp [h]) (by rw [List.length_zip]; omega)]
  simp
  rw [NR.apI_eq]
  congr 1
  induction a.zip b with
  | nil => rfl
  | cons p l ih => by_cases h : p.1 = p.2 <;> simp [h, ih]

end C85

namespace C85
open PySem L2 Ev

theorem run_is_whole (k : Nat) (n : Int) : (FT (k + 1) 0).S [some (.val (.int n))] = .ok (.v (.bool true)) [some (.val (.int n))] := by
  refine (rF0 rfl).trans ?_
  simp [b0]

theorem run_size_of (k : Nat) (ns : List Int) (h : ∀ n ∈ ns, 1 ≤ n) (hb : prodI ns < 2 ^ 100) : (FT (k + 1) 1).S [some (.val (.tuple (ns.map .int)))] = .ok (.v (.int (prodI ns))) [some (.val (.tuple (ns.map .int)))] := by
  refine (rF1 rfl).trans ?_
  simp [b1]
  generalize hL : forL _ _ _ = L
  refine forL_go hL .int (fun b : Int × Option Slot => [some (.val (.tuple (ns.map .int))), some (.val (.int b.1)), b.2]) (fun rest b => (∀ n ∈ rest, 1 ≤ n) ∧ nb b.2 = true ∧ b.1 * prodI rest = prodI ns ∧ 1 ≤ b.1) ns (1, none) rfl rfl ⟨h, rfl, Int.one_mul _, by decide⟩
    (fun n rest ⟨a, s⟩ ⟨q2, q3, q4, q5⟩ S hS => ?_) fun ⟨a, s⟩ e ⟨_, q3, q4, _⟩ => ?_
  · dsimp only at q3 q4 q5 hS ⊢
    subst hS
    have hn := q2 n List.mem_cons_self
    have hr := prodI_pos fun x hx => q2 x (List.mem_cons_of_mem n hx)
    have e1 : a * n * prodI rest = prodI ns := by rw [Int.mul_assoc]; exact q4
    have han : 1 ≤ a * n := Int.le_trans q5 (le_mul_of q5 hn)
    have := le_mul_of han hr
    have := le_mul_of q5 hn
    have := le_mul_of hn q5
    rw [Int.mul_comm n a] at this
    refine ⟨(a * n, some (.val (.int n))), ?_, fun x hx => q2 x (List.mem_cons_of_mem _ hx), rfl, e1, han⟩
    simp [p1_0, q3, bop_mul' (show a.natAbs < 2 ^ 200 by omega) (show n.natAbs < 2 ^ 200 by omega)]
  · subst e
    dsimp only at q4
    rw [prodI, Int.mul_one] at q4
    subst q4
    simp

theorem run_is_shape (k : Nat) (ns : List Int) (h : Shape ns) : (FT (k + 2) 2).S [some (.val (.tuple (ns.map .int)))] = .ok (.v (.bool true)) [some (.val (.tuple (ns.map .int)))] := by
  refine (rF2 rfl).trans ?_
  have h1 := h.len
  have h2 : 1 ≤ ns.length := by
    have := h.ne
    cases ns with
    | nil => exact absurd rfl this
    | cons _ _ => simp
  have h3 := h.pr
  have sz := run_size_of (k := k) ns h.pos (by omega)
  have bs := boolsD_rep (fun _ : Int => true) ns
  have z1 : (1 : Int) ≤ ns.length := by omega
  have z2 : (ns.length : Int) ≤ 8 := by omega
  simp [b2, e2_0, z1, z2]
  rw [compL_all (f := fun n : Int => .bool true) (by simp) (fun n hn => by
      have := h.el n hn
      simp [run_is_whole, this.1, this.2]) (by omega)]
  simp [bs, sz, h3]

theorem run_want_shape (k : Nat) (ns : List Int) (h : Shape ns) : (FT (k + 3) 4).S [some (.val (.tuple (ns.map .int)))] = .ok (.v .none) [some (.val (.tuple (ns.map .int)))] := by
  refine (rF4 rfl).trans ?_
  simp [b4, run_is_shape k ns h]

theorem run_is_row (k : Nat) (sh r : List Int) (h : NR.IsRow sh r) (hl : sh.length ≤ 256) : (FT (k + 2) 3).S [some (.val (.tuple (sh.map .int))), some (.val (rowD r))] = .ok (.v (.bool true)) [some (.val (.tuple (sh.map .int))), some (.val (rowD r))] := by
  refine (rF3 rfl).trans ?_
  have e := h.len
  simp [b3, e3_0, rowD, e, zip_ints]
  rw [compL_all (f := fun p : Int × Int => .bool true) (by simp) (fun p hp => by
      obtain ⟨i, hi⟩ := List.getElem?_of_mem hp
      obtain ⟨h1, h2⟩ := List.getElem?_zip_eq_some.mp hi
      obtain ⟨z1, z2⟩ := (NR.isRow_get.mp h).2 i _ _ h1 h2
      simp [run_is_whole, z1, z2]) (by rw [List.length_zip]; omega)]
  have bs := boolsD_rep (fun _ : Int × Int => true) (r.zip sh)
  simp [bs]

theorem run_is_heap (k : Nat) (sh : List Int) (hp : List (List Int)) (h : ∀ r ∈ hp, NR.IsRow sh r) (hl : sh.length ≤ 256) (hn : hp.length ≤ 10000) (hs : hp.Pairwise fun a b => HT.lexLt a b = true) : (FT (k + 3) 7).S [some (.val (.tuple (sh.map .int))), some (.val (.tuple (hp.map rowD)))] = .ok (.v (.bool true)) [some (.val (.tuple (sh.map .int))), some (.val (.tuple (hp.map rowD)))] := by
  refine (rF7 rfl).trans ?_
  simp [b7, e7_0]
  rw [compL_all (f := fun r : List Int => .bool true) (by simp) (fun r hr => by
    simp [run_is_row k sh r (h r hr) hl]) (by omega)]
  have bs := boolsD_rep (fun _ : List Int => true) hp
  have e1 : cutD (hp.map rowD) (some 1) none = (hp.drop 1).map rowD := by
    rw [cut_from (by decide), List.map_drop]
    rfl
  simp [bs, e7_1, e1, zipD_map]
  rw [show zipD (hp.map rowD) (hp.map rowD).tail = (hp.zip hp.tail).map fun p => .tuple [rowD p.1, rowD p.2] by rw [← zipD_map, List.map_tail]]
  rw [compL_all (f := fun p : List Int × List Int => .bool true) (by simp) (fun p hp' => by
    have : HT.lexLt p.1 p.2 = true := by
      obtain ⟨i, hi⟩ := List.getElem?_of_mem hp'
      obtain ⟨h1, h2⟩ := List.getElem?_zip_eq_some.mp hi
      rw [List.getElem?_tail] at h2
      have l1 := (List.getElem?_eq_some_iff.mp h2).1
      rw [List.getElem?_eq_getElem (by omega)] at h1 h2
      rw [← Option.some.inj h1, ← Option.some.inj h2]
      exact List.pairwise_iff_getElem.mp hs i (i + 1) (by omega) l1 (by omega)
    have q : cmpD .Lt (rowD p.1) (rowD p.2) = some (HT.lexLt p.1 p.2) := by
      show (match intsD (p.1.map PyData.int), intsD (p.2.map PyData.int) with
        | some ns, some ms => some (HT.lexLt ns ms)
        | _, _ => none) = _
      rw [intsD_ints, intsD_ints]
    simp [q, this]) (by rw [List.length_zip]; omega)]
  have bs2 := boolsD_rep (fun _ : List Int × List Int => true) (hp.zip hp.tail)
  simp [bs2]

theorem run_want_heap (k : Nat) (sh : List Int) (hp : List (List Int)) (h : ∀ r ∈ hp, NR.IsRow sh r) (hl : sh.length ≤ 256) (hn : hp.length ≤ 10000) (hs : hp.Pairwise fun a b => HT.lexLt a b = true) : (FT (k + 4) 8).S [some (.val (.tuple (sh.map .int))), some (.val (.tuple (hp.map rowD)))] = .ok (.v .none) [some (.val (.tuple (sh.map .int))), some (.val (.tuple (hp.map rowD)))] := by
  refine (rF8 rfl).trans ?_
  simp [b8, run_is_heap k sh hp h hl hn hs]

end C85

namespace C85
open PySem L2 Ev

theorem run_take (k : Nat) (x y m : Int) (hm : 1 ≤ m ∧ m ≤ 1000000) (hy : 0 ≤ y ∧ y ≤ 2147483647) : ∃ d x' y' : Int, (FT (k + 1) 17).S [some (.bor (.lst [.int x, .int y])), some (.val (.int m))] = .ok (.v (.int d)) [some (.bor (.lst [.int x', .int y'])), some (.val (.int m))] ∧ (0 ≤ d ∧ d < m) ∧ 0 ≤ y' ∧ y' ≤ 2147483647 := by
  by_cases hx : 0 < x
  · refine ⟨x % m, x / m, y, (rF17 rfl).trans ?_, ⟨Int.emod_nonneg _ (by omega), Int.emod_lt_of_pos _ (by omega)⟩, hy⟩
    have g1 : 0 < m ∧ m < 1073741824 := by omega
    simp [b17, atI, ixN, hx, g1]
  · have hy2 := Int.emod_nonneg (y * 48271 + 12345) (show (2147483647 : Int) ≠ 0 by decide)
    have hy3 := Int.emod_lt_of_pos (y * 48271 + 12345) (show (0 : Int) < 2147483647 by decide)
    refine ⟨(y * 48271 + 12345) % 2147483647 * ((y * 48271 + 12345) % 2147483647) % 2147483629 / 5 % m, x, (y * 48271 + 12345) % 2147483647, (rF17 rfl).trans ?_, ⟨Int.emod_nonneg _ (by omega), Int.emod_lt_of_pos _ (by omega)⟩, by omega, by omega⟩
    have g1 : y.natAbs < 2 ^ 200 := by omega
    generalize hz : (y * 48271 + 12345) % 2147483647 = z at *
    have g2 : z.natAbs < 2 ^ 200 := by omega
    simp [b17, atI, ixN, hx, bop_mul' g1 (show (48271 : Int).natAbs < 2 ^ 200 by decide), bop_mod (show (0 : Int) < 2147483647 by decide), hz, bop_mul' g2 g2, bop_mod (show (0 : Int) < 2147483629 by decide), bop_fdiv (show (0 : Int) < 5 by decide) (by decide), bop_mod (show 0 < m by omega)]

theorem run_pot (k : Nat) (ns : List Int) (i : Int) (h0 : 0 ≤ i ∧ i ≤ 1000) : ∃ x y : Int, (FT (k + 1) 16).S [some (.val (roL (ns.map .int))), some (.val (.int i))] = .ok (.o (.lst [.int x, .int y])) [some (.val (roL (ns.map .int))), some (.val (.int i))] ∧ 0 ≤ y ∧ y ≤ 2147483647 := by
  have fin : ∀ c : Int, ∃ x y : Int, (0 ≤ y ∧ y ≤ 2147483647) ∧ x = (if 1000000000000000000 < (if c < 0 then -c else c) then (if c < 0 then -c else c) - 1000000000000000000 else 0) ∧ y = (if c < 0 then -c else c) % 2147483579 + 1 := fun c => by
    have h1 := Int.emod_nonneg (if c < 0 then -c else c) (show (2147483579 : Int) ≠ 0 by decide)
    have h2 := Int.emod_lt_of_pos (if c < 0 then -c else c) (show (0 : Int) < 2147483579 by decide)
    exact ⟨_, _, ⟨by omega, by omega⟩, rfl, rfl⟩
  have e1 := bop_mul' (i := 7) (j := i) (by decide) (by omega)
  have e2 := bop_pow (i := 10) (j := 18) ⟨by decide, by decide, by decide⟩
  have e3 : ∀ c : Int, bopD .Mod (.int c) (.int 2147483579) = _ := fun c => bop_mod (i := c) (j := 2147483579) (by decide)
  by_cases hi : i < ns.length
  · obtain ⟨c, hc⟩ : ∃ c, atI (ns.map PyData.int) i = some (.int c) := by
      refine ⟨ns[i.toNat]'(by omega), atI_get (k := i.toNat) (by omega) ?_⟩
      rw [List.getElem?_map, List.getElem?_eq_getElem (by omega)]
      rfl
    obtain ⟨x, y, h1, h2, h3⟩ := fin c
    refine ⟨x, y, (rF16 rfl).trans ?_, h1⟩
    simp [b16, e1, hi, hc, e2, e3, sl_le, ← h2, ← h3]
  · obtain ⟨x, y, h1, h2, h3⟩ := fin (7 * i + 5)
    refine ⟨x, y, (rF16 rfl).trans ?_, h1⟩
    simp [b16, e1, hi, e2, e3, sl_le, ← h2, ← h3]

theorem run_shape (k : Nat) (x y m : Int) (hm : 9 ≤ m ∧ m ≤ 256) (hy : 0 ≤ y ∧ y ≤ 2147483647) : ∃ (ns : List Int) (x' y' : Int), (FT (k + 2) 18).S [some (.bor (.lst [.int x, .int y])), some (.val (.int m))] = .ok (.v (.tuple (ns.map .int))) [some (.bor (.lst [.int x', .int y'])), some (.val (.int m))] ∧ Shape ns ∧ prodI ns ≤ m ∧ 0 ≤ y' ∧ y' ≤ 2147483647 := by
  obtain ⟨d, x1, y1, t1, hd, hy1⟩ := run_take k x y 8 (by omega) hy
  have hr : inR62 (1 + d) := inR_small (by omega)
  obtain ⟨⟨z1, z2, ns, s4, s5⟩, h1, q1, q2, q3, q4, q5, q6, q7⟩ := forL_st (turn := turnF cS (FT (k + 1)) 1000 (.nm 4) p18_0) (fun i : Nat => PyData.int (0 + (i : Int)))
    (fun b : Int × Int × List Int × Option Slot × Option Slot => [some (.bor (.lst [.int b.1, .int b.2.1])), some (.val (.int m)), some (.val (.tuple (b.2.2.1.map .int))), some (.val (.int (prodI b.2.2.1))), b.2.2.2.1, b.2.2.2.2])
    (fun rest b => (0 ≤ b.2.1 ∧ b.2.1 ≤ 2147483647) ∧ nb b.2.2.2.1 = true ∧ nb b.2.2.2.2 = true ∧ (∀ n ∈ b.2.2.1, 2 ≤ n ∧ n ≤ 9) ∧ prodI b.2.2.1 ≤ m ∧ rest.length + b.2.2.1.length ≤ 8 ∧ (b.2.2.1 ≠ [] ∨ rest ≠ []))
    (fun i rest ⟨x, y, ns, s4, s5⟩ ⟨q1, q2, q3, q4, q5, q6, q7⟩ => by
      dsimp only at q1 q2 q3 q4 q5 q6 ⊢
      obtain ⟨d3, x2, y2, t2, hd3, hy2⟩ := run_take k x y 3 (by omega) q1
      obtain ⟨c, hc, hc2⟩ : ∃ c : Int, atI [PyData.int 1, .int 2, .int 8] d3 = some (.int c) ∧ 1 ≤ c ∧ c ≤ 8 := by
        have : d3 = 0 ∨ d3 = 1 ∨ d3 = 2 := by omega
        rcases this with h | h | h <;> subst h
        · exact ⟨1, rfl, by decide, by decide⟩
        · exact ⟨2, rfl, by decide, by decide⟩
        · exact ⟨8, rfl, by decide, by decide⟩
      obtain ⟨d4, x3, y3, t3, hd4, hy3⟩ := run_take k x2 y2 c (by omega) hy2
      have p0 := prodI_pos fun n hn => show (1 : Int) ≤ n by have := q4 n hn; omega
      have pm := bop_mul' (i := prodI ns) (j := 2 + d4) (by omega) (by omega)
      rw [List.length_cons] at q6
      have e1 : prodI (ns ++ [2 + d4]) = prodI ns * (2 + d4) := by rw [prodI_append]; simp [prodI]
      by_cases hle : prodI ns * (2 + d4) ≤ m
      · refine ⟨(x3, y3, ns ++ [2 + d4], some (.val (.int (0 + (i : Int)))), some (.val (.int (2 + d4)))), ?_, hy3, rfl, rfl, fun n hn => ?_, by dsimp only; rw [e1]; exact hle, by dsimp only; rw [List.length_append, List.length_singleton]; omega, .inl (by simp)⟩
        · have sz : ns.length + 1 ≤ sizeLine := sl_le (by omega)
          simp [p18_0, q2, q3, t2, hc, t3, pm, hle, sl_le, sz, e1]
        · rcases List.mem_append.mp hn with h | h
          · exact q4 n h
          · obtain rfl := List.mem_singleton.mp h
            omega
      · refine ⟨(x3, y3, ns, some (.val (.int (0 + (i : Int)))), some (.val (.int (2 + d4)))), ?_, hy3, rfl, rfl, q4, q5, by dsimp only; omega, ?_⟩
        · simp [p18_0, q2, q3, t2, hc, t3, pm, hle, sl_le]
        · refine .inl fun z => ?_
          dsimp only at z
          subst z
          simp only [prodI] at hle
          omega) (List.range (1 + d).toNat) (x1, y1, [], none, none) ⟨hy1, rfl, rfl, (fun n hn => nomatch hn), (by simp only [prodI]; omega), (by simp; omega), .inr (by
            intro z
            have := congrArg List.length z
            simp at this
            omega)⟩
  dsimp only at h1 q1 q4 q5 q6 q7
  have hrd : rangeD 0 (1 + d) = (List.range (1 + d).toNat).map fun i : Nat => PyData.int (0 + (i : Int)) := by
    unfold rangeD
    rw [Int.sub_zero]
  rw [← hrd] at h1
  refine ⟨ns, z1, z2, (rF18 rfl).trans ?_, ⟨?_, by simpa using q6, q4, by omega⟩, q5, q1⟩
  · simp only [prodI, List.map_nil] at h1
    simp [b18, t1, range1_ok hr, h1, sl_le]
  · rcases q7 with z | z
    · exact z
    · exact absurd rfl z



theorem run_lrows (k : Nat) (sh : List Int) (h : Shape sh) : (FT (k + 1) 19).S [some (.val (.tuple (sh.map .int)))] = .ok (.v (.list ((NR.rowsI sh).map rowD))) [some (.val (.tuple (sh.map .int)))] := by
  refine (rF19 rfl).trans ?_
  simp [b19, sl_le]
  generalize hL : forL _ _ _ = L
  refine forL_go hL .int (fun b : List (List Int) × Option Slot × Option Slot × Option Slot => [some (.val (.tuple (sh.map .int))), some (.val (.list (b.1.map rowD))), b.2.1, b.2.2.1, b.2.2.2, none])
    (fun rest b => nb b.2.1 = true ∧ nb b.2.2.1 = true ∧ nb b.2.2.2 = true ∧ NR.rowsF rest b.1 = NR.rowsI sh ∧ (b.1.length : Int) * prodI rest ≤ 256 ∧ (∀ r ∈ b.1, r.length + rest.length ≤ 8) ∧ ∀ s ∈ rest, 2 ≤ s ∧ s ≤ 9) sh ([[]], none, none, none) rfl rfl
    ⟨rfl, rfl, rfl, rfl, by have := h.pr; simpa using this, by have := h.len; simpa using this, h.el⟩ (fun s rest ⟨acc, s2, s3, s4⟩ ⟨q1, q2, q3, q4, q5, q6, q7⟩ S hS => ?_) fun ⟨acc, s2, s3, s4⟩ e ⟨q1, q2, q3, q4, _⟩ => ?_
  rotate_left
  · subst e
    dsimp only at q4
    rw [NR.rowsF] at q4
    subst q4
    simp [h]
  · dsimp only at q1 q2 q3 q4 q5 q6 q7 ⊢
    simp [p19_2, sl_le, q1, q2, q3] at hS
    generalize hL2 : forL _ _ _ = L2 at hS
    have hs := q7 s List.mem_cons_self
    have pr := prodI_pos (ns := rest) fun x hx => by have := q7 x (List.mem_cons_of_mem _ hx); omega
    have tot : (acc.flatMap fun r => (NR.rg s).map fun i => r ++ [i]).length = acc.length * s.toNat := by
      rw [List.length_flatMap]
      simp [NR.rg_length, List.map_const', List.sum_replicate_nat]
    have e0 : (acc.length : Int) * prodI (s :: rest) = ((acc.length : Int) * s) * prodI rest := by rw [prodI, Int.mul_assoc]
    rw [e0] at q5
    have bd : (acc.length : Int) * s ≤ 256 := by
      have := Int.mul_le_mul_of_nonneg_left pr (show 0 ≤ (acc.length : Int) * s from Int.mul_nonneg (by omega) (by omega))
      omega
    have bd' : acc.length * s.toNat ≤ 256 := by
      have : ((acc.length * s.toNat : Nat) : Int) = (acc.length : Int) * s := by rw [Int.natCast_mul, Int.toNat_of_nonneg (by omega)]
      omega
    refine forL_go hL2 rowD (fun b : List (List Int) × Option Slot => [some (.val (.tuple (sh.map .int))), some (.val (.list (acc.map rowD))), some (.val (.int s)), some (.own (.lst (b.1.map rowD))), b.2, none])
      (fun rows b => nb b.2 = true ∧ (b.1 ++ rows.flatMap fun r => (NR.rg s).map fun i => r ++ [i]) = (acc.flatMap fun r => (NR.rg s).map fun i => r ++ [i]) ∧ ∀ r ∈ rows, r.length + 1 ≤ 8) acc ([], s4) rfl rfl
      ⟨q3, by simp, fun r hr => by have := q6 r hr; simp at this; omega⟩ (fun r rows ⟨lo, t4⟩ ⟨p1, p2, p3⟩ S' hS' => ?_) fun ⟨lo, t4⟩ e ⟨p1, p2, _⟩ => ?_
    rotate_left
    · subst e
      dsimp only at p2
      simp at p2
      subst p2
      refine ⟨(acc.flatMap fun r => (NR.rg s).map fun i => r ++ [i], some (.val (.int s)), some (.val (.list ((acc.flatMap fun r => (NR.rg s).map fun i => r ++ [i]).map rowD))), t4), ?_, rfl, rfl, p1, q4, ?_, fun r hr => ?_, fun x hx => q7 x (List.mem_cons_of_mem _ hx)⟩
      · simpa using hS.symm
      · dsimp only
        rw [tot, Int.natCast_mul, Int.toNat_of_nonneg (by omega)]
        exact q5
      · obtain ⟨r', hr', hr⟩ := List.mem_flatMap.mp hr
        obtain ⟨i, _, rfl⟩ := List.mem_map.mp hr
        have := q6 r' hr'
        simp at this ⊢
        omega
    · dsimp only at p1 p2 p3 ⊢
      have hr := p3 r List.mem_cons_self
      have hl : (lo ++ (NR.rg s).map fun i => r ++ [i]).length ≤ 256 := by
        have := congrArg List.length p2
        rw [tot] at this
        simp at this ⊢
        omega
      have hin : inR62 s := inR_small (by omega)
      subst hS'
      refine ⟨(lo ++ (NR.rg s).map fun i => r ++ [i], some (.val (rowD r))), ?_, rfl, ?_, fun x hx => p3 x (List.mem_cons_of_mem _ hx)⟩
      · simp [p19_1, e19_0, p1, range1_ok hin, rangeD_rg]
        rw [compL_all (f := fun i => rowD (r ++ [i])) (by simp) (fun i hi => by simp [rowD, sl_le, show r.length + 1 ≤ sizeLine from sl_le (by omega)]) (by rw [NR.rg_length]; omega)]
        simp at hl
        simp (disch := first | omega | simp) [sl_le, Function.comp_def]
      · dsimp only
        simpa [List.flatMap_cons] using p2

end C85

namespace C85
open PySem L2 Ev
/-! answers: what the program does -/

def ansI (A : List (List Int × Int)) : PyData := .tuple (A.map fun p => .tuple [rowD p.1, .int p.2])
def toldB (A : List (List Int × Int)) (r : List Int) : Bool := A.all fun p => decide ((NR.apI r p.1 : Int) = p.2)
def OkA (sh : List Int) (A : List (List Int × Int)) : Prop := A.length ≤ 10000 ∧ ∀ p ∈ A, NR.IsRow sh p.1 ∧ 0 ≤ p.2
/-- a row's distances -/
def dsI (hp : List (List Int)) (r : List Int) : List Int := hp.map fun o => (NR.apI r o : Int)
/-- the first pair that is not told apart -/
def fpair (f : List Int → List Int) : List (List Int) → Option (List Int × List Int)
  | [] => none
  | r :: rs => match rs.filter fun o => decide (f o = f r) with
    | o :: _ => some (r, o)
    | [] => fpair f rs
def pairD : Option (List Int × List Int) → PyData
  | some (a, b) => .tuple [rowD a, rowD b]
  | none => .none

theorem run_is_answer (k : Nat) (sh r : List Int) (m : Int) (h : NR.IsRow sh r) (hl : sh.length ≤ 256) (hm : 0 ≤ m) : (FT (k + 3) 9).S [some (.val (.tuple (sh.map .int))), some (.val (.tuple [rowD r, .int m]))] = .ok (.v (.bool true)) [some (.val (.tuple (sh.map .int))), some (.val (.tuple [rowD r, .int m]))] := by
  refine (rF9 rfl).trans ?_
  have a0 : atI [rowD r, .int m] 0 = some (rowD r) := rfl
  have a1 : atI [rowD r, .int m] 1 = some (.int m) := rfl
  simp [b9, a0, a1, run_is_row k sh r h hl, run_is_whole (k + 1) m, hm]

theorem run_are_answers (k : Nat) (sh : List Int) (A : List (List Int × Int)) (h : Shape sh) (ha : OkA sh A) : (FT (k + 4) 10).S [some (.val (.tuple (sh.map .int))), some (.val (ansI A))] = .ok (.v (.bool true)) [some (.val (.tuple (sh.map .int))), some (.val (ansI A))] := by
  refine (rF10 rfl).trans ?_
  have h8 := h.len
  simp [b10, e10_0, ansI, run_want_shape k sh h]
  rw [compL_all (f := fun p : List Int × Int => .bool true) (by simp) (fun p hp => by
    obtain ⟨q1, q2⟩ := ha.2 p hp
    simp [run_is_answer k sh p.1 p.2 q1 (by omega) q2]) (by have := ha.1; omega)]
  have bs := boolsD_rep (fun _ : List Int × Int => true) A
  simp [bs]

theorem run_want_answers (k : Nat) (sh : List Int) (A : List (List Int × Int)) (h : Shape sh) (ha : OkA sh A) : (FT (k + 5) 11).S [some (.val (.tuple (sh.map .int))), some (.val (ansI A))] = .ok (.v .none) [some (.val (.tuple (sh.map .int))), some (.val (ansI A))] := by
  refine (rF11 rfl).trans ?_
  simp [b11, run_are_answers k sh A h ha]

theorem run_has_told (k : Nat) (r : List Int) (A : List (List Int × Int)) (hr : r.length ≤ 256) (ha : A.length ≤ 10000) : (FT (k + 2) 12).S [some (.val (rowD r)), some (.val (ansI A))] = .ok (.v (.bool (toldB A r))) [some (.val (rowD r)), some (.val (ansI A))] := by
  refine (rF12 rfl).trans ?_
  simp [b12, e12_0, ansI]
  rw [compL_all (f := fun p : List Int × Int => .bool (decide ((NR.apI r p.1 : Int) = p.2))) (by simp) (fun p hp => by
    simp [run_apart k r p.1 hr]) (by omega)]
  have bs := boolsD_rep (fun p : List Int × Int => decide ((NR.apI r p.1 : Int) = p.2)) A
  simp [bs, toldB, -List.map_map]

theorem run_left (k : Nat) (sh : List Int) (A : List (List Int × Int)) (h : Shape sh) (ha : OkA sh A) : (FT (k + 6) 13).S [some (.val (.tuple (sh.map .int))), some (.val (ansI A))] = .ok (.o (.lst (((NR.rowsI sh).filter (toldB A)).map rowD))) [some (.val (.tuple (sh.map .int))), some (.val (ansI A))] := by
  refine (rF13 rfl).trans ?_
  have rl := rows_le h
  have zl : (NR.rowsI sh).length ≤ sizeLine := sl_le (by omega)
  simp [b13, e13_0, run_want_shape (k + 2) sh h, run_want_answers k sh A h ha, run_rows_of (k + 4) sh h]
  rw [compL_some (f := fun r : List Int => if toldB A r = true then some (rowD r) else none) (by simp) (fun r hr => by
    have hl := row_len h (NR.mem_rows.mp hr)
    by_cases t : toldB A r = true <;> simp [run_has_told (k + 3) r A (by omega) ha.1, t]) (by omega)]
  have e1 : (NR.rowsI sh).filterMap (fun r : List Int => if toldB A r = true then some (rowD r) else none) = ((NR.rowsI sh).filter (toldB A)).map rowD := by
    induction NR.rowsI sh with
    | nil => rfl
    | cons r rs ih => by_cases t : toldB A r = true <;> simp [t, ih]
  simp [e1]

theorem run_distances_of (k : Nat) (r : List Int) (hp : List (List Int)) (hr : r.length ≤ 256) (hl : hp.length ≤ 10000) : (FT (k + 2) 14).S [some (.val (rowD r)), some (.val (.tuple (hp.map rowD)))] = .ok (.v (rowD (dsI hp r))) [some (.val (rowD r)), some (.val (.tuple (hp.map rowD)))] := by
  refine (rF14 rfl).trans ?_
  simp [b14, e14_0]
  rw [compL_all (f := fun o : List Int => .int (NR.apI r o : Int)) (by simp) (fun o ho => by
    simp [run_apart k r o hr]) (by omega)]
  have zl : hp.length ≤ sizeLine := sl_le (by omega)
  simp [zl, rowD, dsI]

end C85

namespace C85
open PySem L2 Ev

theorem eq_rowD (a b : List Int) : eqD (rowD a) (rowD b) = some (decide (a = b)) := emb_eq emb_row (by decide) a b
theorem eq_lrn (l : List (List Int)) : eqD (.list (l.map rowD)) (.list []) = some (decide (l = [])) := emb_eq (emb_list emb_row) (by decide) l []
def toldD (hp : List (List Int)) (r : List Int) : PyData := .tuple [rowD r, rowD (dsI hp r)]
theorem na_loop (k : Nat) (sh : List Int) (hp rows : List (List Int)) (hn : rows.length ≤ 10000) : ∀ (rs pre : List (List Int)), pre ++ rs = rows → ∀ s4 s5 s6 s7 : Option Slot, nb s4 = true → nb s5 = true → nb s6 = true → nb s7 = true →
    ∃ s4' s5' s6' s7' : Option Slot, forL (turnF cS (FT (k + 1)) 1000 (.tup (.cons (.nm 4) (.cons (.tup (.cons (.nm 5) (.cons (.nm 6) .nil))) .nil))) p15_2) ((rs.zipIdx pre.length).map fun p => .tuple [.int (p.2 : Int), toldD hp p.1])
        [some (.val (.tuple (sh.map .int))), some (.val (.tuple (hp.map rowD))), some (.val (.list (rows.map (toldD hp)))), none, s4, s5, s6, s7, none, none] =
      (match fpair (dsI hp) rs with
        | none => SR.nx [some (.val (.tuple (sh.map .int))), some (.val (.tuple (hp.map rowD))), some (.val (.list (rows.map (toldD hp)))), none, s4', s5', s6', s7', none, none]
        | some q => SR.rt (.v (pairD (some q))) [some (.val (.tuple (sh.map .int))), some (.val (.tuple (hp.map rowD))), some (.val (.list (rows.map (toldD hp)))), none, s4', s5', s6', s7', none, none])
  | [], pre, e, s4, s5, s6, s7, n4, n5, n6, n7 => ⟨s4, s5, s6, s7, rfl⟩
  | r :: rs, pre, e, s4, s5, s6, s7, n4, n5, n6, n7 => by
    have hdrop : (rows.map (toldD hp)).drop (pre.length + 1) = rs.map (toldD hp) := by
      rw [← List.map_drop, ← e, show pre ++ r :: rs = (pre ++ [r]) ++ rs by simp, show pre.length + 1 = (pre ++ [r]).length by simp, List.drop_left]
    have c1 : cutD (rows.map (toldD hp)) (some ((pre.length : Int) + 1)) none = rs.map (toldD hp) := by
      rw [cut_from (by omega), show ((pre.length : Int) + 1).toNat = pre.length + 1 by omega, hdrop]
    have hl : rs.length ≤ 10000 := by
      have := congrArg List.length e
      simp at this
      omega
    have lc : ∀ s7 : Option Slot, compL (turnC cS (FT (k + 1)) [8, 9] (.tup (.cons (.nm 8) (.cons (.nm 9) .nil))) (.some (.cmp .Eq (.var 9) (.var 6))) (.var 8))
        (stands [some (.val (.tuple (sh.map .int))), some (.val (.tuple (hp.map rowD))), some (.val (.list (rows.map (toldD hp)))), none, some (.val (.int pre.length)), some (.val (rowD r)), some (.val (rowD (dsI hp r))), s7, none, none] [.r (.o (.lst (rs.map (toldD hp))))]) (rs.map (toldD hp)) []
        [some (.val (.tuple (sh.map .int))), some (.val (.tuple (hp.map rowD))), some (.val (.list (rows.map (toldD hp)))), none, some (.val (.int pre.length)), some (.val (rowD r)), some (.val (rowD (dsI hp r))), s7, none, none] =
        .ok ((rs.filter fun o => decide (dsI hp o = dsI hp r)).map rowD) [some (.val (.tuple (sh.map .int))), some (.val (.tuple (hp.map rowD))), some (.val (.list (rows.map (toldD hp)))), none, some (.val (.int pre.length)), some (.val (rowD r)), some (.val (rowD (dsI hp r))), s7, none, none] := fun s7 => by
      rw [compL_some (f := fun o : List Int => if dsI hp o = dsI hp r then some (rowD o) else none) (by simp) (fun o ho => by
        by_cases t : dsI hp o = dsI hp r <;> simp [toldD, eq_rowD, t]) (by omega)]
      congr 1
      clear hl c1 hdrop e
      induction rs with
      | nil => rfl
      | cons o rs ih => by_cases t : dsI hp o = dsI hp r <;> simp [t, ih]
    have sz : (rs.filter fun o => decide (dsI hp o = dsI hp r)).length ≤ sizeLine := sl_le (by
      have := List.length_filter_le (fun o => decide (dsI hp o = dsI hp r)) rs
      omega)
    rw [List.zipIdx_cons, List.map_cons]
    unfold forL fpair
    cases hf : rs.filter fun o => decide (dsI hp o = dsI hp r) with
    | nil =>
      have lc' := lc s7
      rw [hf] at lc'
      have tt : turnF cS (FT (k + 1)) 1000 (.tup (.cons (.nm 4) (.cons (.tup (.cons (.nm 5) (.cons (.nm 6) .nil))) .nil))) p15_2 (.tuple [.int (pre.length : Int), toldD hp r])
          [some (.val (.tuple (sh.map .int))), some (.val (.tuple (hp.map rowD))), some (.val (.list (rows.map (toldD hp)))), none, s4, s5, s6, s7, none, none] =
          .nx [some (.val (.tuple (sh.map .int))), some (.val (.tuple (hp.map rowD))), some (.val (.list (rows.map (toldD hp)))), none, some (.val (.int pre.length)), some (.val (rowD r)), some (.val (rowD (dsI hp r))), some (.val (.list [])), none, none] := by
        simp [toldD, p15_2, e15_1, n4, n5, n6, n7, c1]
        have en0 : eqD (.list []) (.list []) = some true := by simpa using eq_lrn []
        simp [lc', sl_le, n7, en0]
      obtain ⟨z4, z5, z6, z7, q⟩ := na_loop k sh hp rows hn rs (pre ++ [r]) (by rw [← e]; simp) (some (.val (.int pre.length))) (some (.val (rowD r))) (some (.val (rowD (dsI hp r)))) (some (.val (.list []))) rfl rfl rfl rfl
      refine ⟨z4, z5, z6, z7, ?_⟩
      rw [tt]
      rw [show (pre ++ [r]).length = pre.length + 1 by simp] at q
      exact q
    | cons o os =>
      have lc' := lc s7
      rw [hf] at lc'
      rw [hf] at sz
      have tt : turnF cS (FT (k + 1)) 1000 (.tup (.cons (.nm 4) (.cons (.tup (.cons (.nm 5) (.cons (.nm 6) .nil))) .nil))) p15_2 (.tuple [.int (pre.length : Int), toldD hp r])
          [some (.val (.tuple (sh.map .int))), some (.val (.tuple (hp.map rowD))), some (.val (.list (rows.map (toldD hp)))), none, s4, s5, s6, s7, none, none] =
          .rt (.v (.tuple [rowD r, rowD o])) [some (.val (.tuple (sh.map .int))), some (.val (.tuple (hp.map rowD))), some (.val (.list (rows.map (toldD hp)))), none, some (.val (.int pre.length)), some (.val (rowD r)), some (.val (rowD (dsI hp r))), some (.val (.list ((o :: os).map rowD))), none, none] := by
        have en := eq_lrn (o :: os)
        have a0 : atI ((o :: os).map rowD) 0 = some (rowD o) := atI_get (k := 0) rfl rfl
        simp only [List.map_cons] at en a0 lc'
        simp [toldD, p15_2, e15_1, n4, n5, n6, n7, c1]
        simp [lc', sl_le, n7, en, a0, -List.map_cons]
      exact ⟨_, _, _, _, by rw [tt]; rfl⟩
theorem run_not_apart (k : Nat) (sh : List Int) (hp : List (List Int)) (h : Shape sh) (hr : ∀ r ∈ hp, NR.IsRow sh r) (hn : hp.length ≤ 10000) (hs : hp.Pairwise fun a b => HT.lexLt a b = true) : (FT (k + 5) 15).S [some (.val (.tuple (sh.map .int))), some (.val (.tuple (hp.map rowD)))] = .ok (.v (pairD (fpair (dsI hp) (NR.rowsI sh)))) [some (.val (.tuple (sh.map .int))), some (.val (.tuple (hp.map rowD)))] := by
  refine (rF15 rfl).trans ?_
  have h8 := h.len
  have rl := rows_le h
  have zl : (NR.rowsI sh).length ≤ sizeLine := sl_le (by omega)
  simp [b15, e15_0, run_want_shape (k + 1) sh h, run_want_heap k sh hp hr (by omega) hn hs, run_rows_of (k + 3) sh h, zl]
  rw [compL_all (f := toldD hp) (by simp) (fun r hr' => by
    have hl := row_len h (NR.mem_rows.mp hr')
    simp [run_distances_of (k + 2) r hp (by omega) hn, toldD, sl_le]) (by omega)]
  obtain ⟨z4, z5, z6, z7, q⟩ := na_loop (k + 3) sh hp (NR.rowsI sh) (by omega) (NR.rowsI sh) [] rfl none none none none rfl rfl rfl rfl
  have en := enumD_map (toldD hp) (NR.rowsI sh)
  cases hf : fpair (dsI hp) (NR.rowsI sh) with
  | none =>
    rw [hf] at q
    simp only [List.length_nil] at q
    simp [en, q, pairD]
  | some p =>
    rw [hf] at q
    simp only [List.length_nil] at q
    simp [en, q, pairD]

end C85

namespace C85
open PySem L2 Ev
/-! the law's own words -/

theorem intsD_map' {α : Type} (f : α → Int) (l : List α) : intsD (l.map fun x => .int (f x)) = some (l.map f) := by
  rw [show (l.map fun x => PyData.int (f x)) = (l.map f).map PyData.int by rw [List.map_map]; rfl]
  exact intsD_ints _
@[simp] theorem bi_intB {b : Bool} : biD .int [.bool b] = some (.v (.int (if b then 1 else 0))) := rfl
theorem run_off (k : Nat) (a b : List Int) (h : a.length ≤ 256) : (FT (k + 1) 20).S [some (.val (rowD a)), some (.val (rowD b))] = .ok (.v (.int (NR.apI a b : Nat))) [some (.val (rowD a)), some (.val (rowD b))] := by
  refine (rF20 rfl).trans ?_
  simp [b20, e20_0, rowD, zip_ints]
  rw [compL_all (f := fun p : Int × Int => .int (if p.1 = p.2 then 0 else 1)) (by simp) (fun p hp => by by_cases h : p.1 = p.2 <;> simp [h]) (by rw [List.length_zip]; omega)]
  have e1 := intsD_map' (fun p : Int × Int => if p.1 = p.2 then (0 : Int) else 1) (a.zip b)
  have e2 : ((a.zip b).map fun p : Int × Int => if p.1 = p.2 then (0 : Int) else 1).sum = (NR.apI a b : Nat) := by
    rw [NR.apI_eq]
    induction a.zip b with
    | nil => rfl
    | cons p l ih => by_cases h : p.1 = p.2 <;> simp [h, ih] <;> omega
  simp [e1, e2]

theorem run_dist (k : Nat) (r : List Int) (hp : List (List Int)) (hr : r.length ≤ 256) (hl : hp.length ≤ 10000) : (FT (k + 2) 22).S [some (.val (rowD r)), some (.val (.tuple (hp.map rowD)))] = .ok (.o (.lst ((dsI hp r).map .int))) [some (.val (rowD r)), some (.val (.tuple (hp.map rowD)))] := by
  refine (rF22 rfl).trans ?_
  simp [b22, e22_0]
  rw [compL_all (f := fun o : List Int => .int (NR.apI r o : Int)) (by simp) (fun o ho => by
    simp [run_off k r o hr]) (by omega)]
  simp [dsI]

def dsD (hp : List (List Int)) (r : List Int) : PyData := .list ((dsI hp r).map .int)
theorem rangeD_nil (p : Int) : rangeD p p = [] := by simp [rangeD]
theorem rangeD_cons {p n : Int} (h : p < n) : rangeD p n = .int p :: rangeD (p + 1) n := by
  unfold rangeD
  rw [show (n - p).toNat = (n - (p + 1)).toNat + 1 by omega, List.range_succ_eq_map, List.map_cons, List.map_map]
  congr 1
  · simp
  · refine List.map_congr_left fun i _ => ?_
    simp
    omega
def STd (sh : List Int) (hp rows : List (List Int)) (s5 s6 : Option Slot) : En := [some (.val (.tuple (sh.map .int))), some (.val (.tuple (hp.map rowD))), some (.val (.list (rows.map rowD))), some (.val (.list (rows.map (dsD hp)))), none, s5, s6]
theorem due_in (k : Nat) (sh : List Int) (hp rows : List (List Int)) (r : List Int) (pre : Nat) (hpre : rows[pre]? = some r) : ∀ (rs pre2 : List (List Int)), pre2 ++ rs = rows → ∀ s6 : Option Slot, nb s6 = true →
    ∃ s6' : Option Slot, nb s6' = true ∧ forL (turnF cS (FT k) 1000 (.nm 6) p23_1) (rangeD pre2.length rows.length) (STd sh hp rows (some (.val (.int pre))) s6) =
      (match rs.filter fun o => decide (dsI hp o = dsI hp r) with
        | [] => SR.nx (STd sh hp rows (some (.val (.int pre))) s6')
        | o :: _ => SR.rt (.v (.tuple [rowD r, rowD o])) (STd sh hp rows (some (.val (.int pre))) s6'))
  | [], pre2, e, s6, n6 => ⟨s6, n6, by
    rw [List.append_nil] at e
    subst e
    rw [rangeD_nil]
    rfl⟩
  | o :: rs, pre2, e, s6, n6 => by
    have lt : pre2.length < rows.length := by rw [← e]; simp
    have ho : rows[pre2.length]? = some o := by rw [← e]; simp
    have a1 : atI (rows.map (dsD hp)) (pre : Int) = some (dsD hp r) := atI_get (k := pre) rfl (by rw [List.getElem?_map, hpre]; rfl)
    have a2 : atI (rows.map (dsD hp)) (pre2.length : Int) = some (dsD hp o) := atI_get (k := pre2.length) rfl (by rw [List.getElem?_map, ho]; rfl)
    have a3 : atI (rows.map rowD) (pre : Int) = some (rowD r) := atI_get (k := pre) rfl (by rw [List.getElem?_map, hpre]; rfl)
    have a4 : atI (rows.map rowD) (pre2.length : Int) = some (rowD o) := atI_get (k := pre2.length) rfl (by rw [List.getElem?_map, ho]; rfl)
    have eq := eq_lints (dsI hp r) (dsI hp o)
    rw [rangeD_cons (by omega)]
    unfold forL
    by_cases t : dsI hp o = dsI hp r
    · have tt : turnF cS (FT k) 1000 (.nm 6) p23_1 (.int pre2.length) (STd sh hp rows (some (.val (.int pre))) s6) = .rt (.v (.tuple [rowD r, rowD o])) (STd sh hp rows (some (.val (.int pre))) (some (.val (.int pre2.length)))) := by
        rw [t] at eq
        simp [STd, p23_1, n6, a1, a2, a3, a4, dsD, t, eq, sl_le]
      exact ⟨_, rfl, by rw [tt, List.filter_cons_of_pos (by simpa using t)]⟩
    · have t' : ¬ dsI hp r = dsI hp o := fun z => t z.symm
      have tt : turnF cS (FT k) 1000 (.nm 6) p23_1 (.int pre2.length) (STd sh hp rows (some (.val (.int pre))) s6) = .nx (STd sh hp rows (some (.val (.int pre))) (some (.val (.int pre2.length)))) := by
        simp [STd, p23_1, n6, a1, a2, dsD, t', eq]
      obtain ⟨s', n', q⟩ := due_in k sh hp rows r pre hpre rs (pre2 ++ [o]) (by rw [← e]; simp) (some (.val (.int pre2.length))) rfl
      refine ⟨s', n', ?_⟩
      rw [tt, List.filter_cons_of_neg (by simpa using t)]
      rw [show (((pre2 ++ [o]).length : Nat) : Int) = (pre2.length : Int) + 1 by simp] at q
      exact q
theorem due_out (k : Nat) (sh : List Int) (hp rows : List (List Int)) (hn : rows.length ≤ 10000) : ∀ (rs pre : List (List Int)), pre ++ rs = rows → ∀ s5 s6 : Option Slot, nb s5 = true → nb s6 = true →
    ∃ s5' s6' : Option Slot, forL (turnF cS (FT k) 1000 (.nm 5) p23_2) (rangeD pre.length rows.length) (STd sh hp rows s5 s6) =
      (match fpair (dsI hp) rs with
        | none => SR.nx (STd sh hp rows s5' s6')
        | some q => SR.rt (.v (pairD (some q))) (STd sh hp rows s5' s6'))
  | [], pre, e, s5, s6, n5, n6 => ⟨s5, s6, by
    rw [List.append_nil] at e
    subst e
    rw [rangeD_nil]
    rfl⟩
  | r :: rs, pre, e, s5, s6, n5, n6 => by
    have lt : pre.length < rows.length := by rw [← e]; simp
    have hr : rows[pre.length]? = some r := by rw [← e]; simp
    have e' : (pre ++ [r]) ++ rs = rows := by rw [← e]; simp
    have el : (((pre ++ [r]).length : Nat) : Int) = (pre.length : Int) + 1 := by simp
    obtain ⟨z6, m6, q⟩ := due_in k sh hp rows r pre.length hr rs (pre ++ [r]) e' s6 n6
    rw [el] at q
    have rg := range2_ok (i := (pre.length : Int) + 1) (j := (rows.length : Int)) (inR_small (by omega)) (inR_small (by omega))
    have tt : turnF cS (FT k) 1000 (.nm 5) p23_2 (.int pre.length) (STd sh hp rows s5 s6) = (match rs.filter fun o => decide (dsI hp o = dsI hp r) with
        | [] => SR.nx (STd sh hp rows (some (.val (.int pre.length))) z6)
        | o :: _ => SR.rt (.v (.tuple [rowD r, rowD o])) (STd sh hp rows (some (.val (.int pre.length))) z6)) := by
      simp only [STd] at q ⊢
      simp [p23_2, n5, rg, q]
      cases rs.filter fun o => decide (dsI hp o = dsI hp r) <;> simp
    rw [rangeD_cons (by omega)]
    unfold forL fpair
    rw [tt]
    cases hf : rs.filter fun o => decide (dsI hp o = dsI hp r) with
    | nil =>
      obtain ⟨y5, y6, q2⟩ := due_out k sh hp rows hn rs (pre ++ [r]) e' (some (.val (.int pre.length))) z6 rfl m6
      rw [el] at q2
      exact ⟨y5, y6, q2⟩
    | cons o os => exact ⟨_, _, rfl⟩
theorem run_due (k : Nat) (sh : List Int) (hp : List (List Int)) (h : Shape sh) (hn : hp.length ≤ 10000) : (FT (k + 3) 23).S [some (.val (.tuple (sh.map .int))), some (.val (.tuple (hp.map rowD)))] = .ok (.v (pairD (fpair (dsI hp) (NR.rowsI sh)))) [some (.val (.tuple (sh.map .int))), some (.val (.tuple (hp.map rowD)))] := by
  refine (rF23 rfl).trans ?_
  have rl := rows_le h
  have zl : (NR.rowsI sh).length ≤ sizeLine := sl_le (by omega)
  simp [b23, e23_0, run_lrows (k + 1) sh h, zl]
  rw [compL_all (f := dsD hp) (by simp) (fun r hr' => by
    have hl := row_len h (NR.mem_rows.mp hr')
    simp [run_dist k r hp (by omega) hn, dsD]) (by omega)]
  obtain ⟨z5, z6, q⟩ := due_out (k + 2) sh hp (NR.rowsI sh) (by omega) (NR.rowsI sh) [] rfl none none rfl rfl
  have rg := range1_ok (i := ((NR.rowsI sh).length : Int)) (inR_small (by omega))
  rw [show ((([] : List (List Int)).length : Nat) : Int) = 0 from rfl] at q
  simp only [STd] at q
  cases hf : fpair (dsI hp) (NR.rowsI sh) with
  | none =>
    rw [hf] at q
    simp [rg, q, pairD]
  | some p =>
    rw [hf] at q
    simp [rg, q, pairD]

end C85

namespace C85
open PySem L2 Ev

structure HeapOk (sh : List Int) (hp : List (List Int)) : Prop where
  row : ∀ r ∈ hp, NR.IsRow sh r
  srt : hp.Pairwise fun a b => HT.lexLt a b = true
theorem heap_of {sh : List Int} {ch : List (List Int)} (h : ∀ r ∈ ch, NR.IsRow sh r) (hn : ch.Nodup) : HeapOk sh (sortR ch) where
  row := fun r hr => h r ((sortR_perm ch).mem_iff.mp hr)
  srt := by
    have nd := (sortR_perm ch).nodup_iff.mpr hn
    refine List.Pairwise.imp_of_mem (fun {a b} ha hb hab => ?_) (List.Pairwise.and (sortR_sorted ch) nd)
    obtain ⟨h1, h2⟩ := hab
    cases q : HT.lexLt a b with
    | true => rfl
    | false => exact absurd (lex_tot q h1) h2
theorem ok_rows {sh : List Int} (h : Shape sh) {ch : List (List Int)} (hr : ∀ r ∈ ch, NR.IsRow sh r) (hl : ch.length < 64) : okRows ch = true := by
  refine okRows_of (d := sh.length) (List.length_pos_iff.mpr h.ne) hl fun r hr' => ⟨(hr r hr').len, fun x hx => ?_⟩
  obtain ⟨i, hi⟩ := List.getElem?_of_mem hx
  have hlt := (List.getElem?_eq_some_iff.mp hi).1
  have e := (hr r hr').len
  exact ((NR.isRow_get.mp (hr r hr')).2 i x _ hi (List.getElem?_eq_getElem (by omega))).1

theorem run_heap (k : Nat) (sh : List Int) (x y m : Int) (h : Shape sh) (hm : 0 ≤ m ∧ m ≤ 10) (hy : 0 ≤ y ∧ y ≤ 2147483647) : ∃ (hp : List (List Int)) (x' y' : Int), (FT (k + 2) 21).S [some (.bor (.lst [.int x, .int y])), some (.val (.tuple (sh.map .int))), some (.val (.int m))] =
    .ok (.v (.tuple (hp.map rowD))) [some (.bor (.lst [.int x', .int y'])), some (.val (.tuple (sh.map .int))), some (.val (.int m))] ∧ HeapOk sh hp ∧ (hp.length : Int) ≤ m ∧ 0 ≤ y' ∧ y' ≤ 2147483647 := by
  have rl := rows_le h
  have rn := rows_len h
  have pp := prodI_pos h.pos
  obtain ⟨d0, x0, y0, t0, hd0, hy0⟩ := run_take k x y (m + 1) (by omega) hy
  have lr := run_lrows k sh h
  have hin : inR62 d0 := inR_small (by omega)
  obtain ⟨⟨x1, y1, F, s5, s6⟩, h1, q1, q2, q3, q4, q5, q6⟩ := forL_st (turn := turnF cS (FT (k + 1)) 1000 (.nm 5) p21_0) (fun i : Int => PyData.int i)
    (fun b : Int × Int × List (List Int) × Option Slot × Option Slot => [some (.bor (.lst [.int b.1, .int b.2.1])), some (.val (.tuple (sh.map .int))), some (.val (.int m)), some (.val (.list ((NR.rowsI sh).map rowD))), some (.own (.lst (b.2.2.1.map rowD))), b.2.2.2.1, b.2.2.2.2])
    (fun rest b => (0 ≤ b.2.1 ∧ b.2.1 ≤ 2147483647) ∧ nb b.2.2.2.1 = true ∧ nb b.2.2.2.2 = true ∧ (∀ r ∈ b.2.2.1, NR.IsRow sh r) ∧ b.2.2.1.Nodup ∧ ((b.2.2.1.length + rest.length : Nat) : Int) ≤ d0)
    (fun i rest ⟨x, y, F, s5, s6⟩ ⟨q1, q2, q3, q4, q5, q6⟩ => by
      dsimp only at q1 q2 q3 q4 q5 q6 ⊢
      rw [List.length_cons] at q6
      obtain ⟨j, x1, y1, t1, hj, hy1⟩ := run_take k x y ((NR.rowsI sh).length : Int) (by omega) q1
      obtain ⟨r, hr, er⟩ : ∃ r ∈ NR.rowsI sh, atI ((NR.rowsI sh).map rowD) j = some (rowD r) := by
        have hjl : j.toNat < (NR.rowsI sh).length := by omega
        exact ⟨(NR.rowsI sh)[j.toNat], List.getElem_mem hjl, atI_get (k := j.toNat) (by omega) (by rw [List.getElem?_map, List.getElem?_eq_getElem hjl]; rfl)⟩
      have inn := emb_inL emb_row (by decide) r F
      have sz : F.length < sizeLine := sl_lt (by omega)
      by_cases hm : r ∈ F
      · refine ⟨(x1, y1, F, some (.val (.int i)), some (.val (rowD r))), ?_, hy1, rfl, rfl, q4, q5, by dsimp only; omega⟩
        simp [p21_0, q2, q3, t1, er, inn, hm]
      · refine ⟨(x1, y1, F ++ [r], some (.val (.int i)), some (.val (rowD r))), ?_, hy1, rfl, rfl, fun z hz => ?_, ?_, by simp; omega⟩
        · simp [p21_0, q2, q3, t1, er, inn, hm, sz]
        · rcases List.mem_append.mp hz with hz | hz
          · exact q4 z hz
          · rw [List.mem_singleton.mp hz]
            exact NR.mem_rows.mp hr
        · refine List.nodup_append.mpr ⟨q5, by simp, fun a ha b hb e => ?_⟩
          rw [List.mem_singleton.mp hb] at e
          exact hm (e ▸ ha)) (NR.rg d0) (x0, y0, [], none, none) ⟨hy0, rfl, rfl, (fun r hr => nomatch hr), List.nodup_nil, by rw [NR.rg_length]; simp; omega⟩
  dsimp only at h1 q1 q4 q5 q6
  have fl : (F.length : Int) ≤ 10 := by simp at q6; omega
  have srt : biD .sorted [.list (F.map rowD)] = some (.o (.lst ((sortR F).map rowD))) := sort_rows (ok_rows h q4 (by omega))
  have sl := (sortR_perm F).length_eq
  have zl : (sortR F).length ≤ sizeLine := sl_le (by omega)
  refine ⟨sortR F, x1, y1, (rF21 rfl).trans ?_, heap_of q4 q5, by rw [sl]; simp at q6; omega, q1⟩
  simp only [List.map_nil] at h1
  simp [b21, lr, t0, range1_ok hin, rangeD_rg, h1, srt, zl]

end C85

namespace C85
open PySem L2 Ev
/-! plain facts; the law's askings -/

theorem row_dig {sh r : List Int} (h : Shape sh) (hr : NR.IsRow sh r) : ∀ x ∈ r, 0 ≤ x ∧ x ≤ 9 := fun x hx => by
  obtain ⟨i, hi⟩ := List.getElem?_of_mem hx
  have hlt := (List.getElem?_eq_some_iff.mp hi).1
  have e := hr.len
  have q := (NR.isRow_get.mp hr).2 i x _ hi (List.getElem?_eq_getElem (by omega))
  have := h.el _ (List.getElem_mem (show i < sh.length by omega))
  omega
theorem ints_cL {l : List Int} (h : ∀ x ∈ l, 0 ≤ x ∧ x ≤ 9) : cL (rowD l) ≤ l.length * 4 + 3 := by
  have e : cL (rowD l) = cLs (l.map PyData.int) + 3 := rfl
  have := cLs_le (b := 2) (xs := l.map PyData.int) fun x hx => by
    obtain ⟨i, hi, rfl⟩ := List.mem_map.mp hx
    have := h i hi
    show intL i ≤ 2
    unfold intL
    rw [if_pos (by omega)]
    exact Nat.le_refl _
  rw [List.length_map] at this
  omega
theorem ints_show : ∀ {l : List Int}, (∀ x ∈ l, 0 ≤ x ∧ x ≤ 9) → PyData.showableAll (l.map PyData.int) = true
  | [], _ => rfl
  | x :: l, h => by
    have hx := h x List.mem_cons_self
    simp only [List.map_cons, PyData.showableAll, PyData.showable, Bool.and_eq_true, decide_eq_true_eq]
    refine ⟨?_, ints_show fun y hy => h y (List.mem_cons_of_mem _ hy)⟩
    have : x = 0 ∨ x = 1 ∨ x = 2 ∨ x = 3 ∨ x = 4 ∨ x = 5 ∨ x = 6 ∨ x = 7 ∨ x = 8 ∨ x = 9 := by omega
    rcases this with e | e | e | e | e | e | e | e | e | e <;> subst e <;> decide
theorem fpair_mem {f : List Int → List Int} : ∀ {rs : List (List Int)} {a b : List Int}, fpair f rs = some (a, b) → a ∈ rs ∧ b ∈ rs ∧ f b = f a
  | [], a, b, h => by simp [fpair] at h
  | r :: rs, a, b, h => by
    unfold fpair at h
    split at h
    · rename_i o os hf
      have e : r = a ∧ o = b := by simpa using h
      have : o ∈ rs.filter fun o => decide (f o = f r) := by rw [hf]; exact List.mem_cons_self
      obtain ⟨h1, h2⟩ := List.mem_filter.mp this
      rw [← e.1, ← e.2]
      exact ⟨List.mem_cons_self, List.mem_cons_of_mem _ h1, of_decide_eq_true h2⟩
    · obtain ⟨h1, h2, h3⟩ := fpair_mem h
      exact ⟨List.mem_cons_of_mem _ h1, List.mem_cons_of_mem _ h2, h3⟩
/-- the first of a pair is the first with its distances -/
theorem fpair_head {f : List Int → List Int} : ∀ {rs : List (List Int)} {a b : List Int}, fpair f rs = some (a, b) → ∃ os, rs.filter (fun o => decide (f o = f a)) = a :: os
  | [], a, b, h => by simp [fpair] at h
  | r :: rs, a, b, h => by
    unfold fpair at h
    split at h
    · rename_i o os hf
      have e : r = a ∧ o = b := by simpa using h
      rw [← e.1]
      exact ⟨_, List.filter_cons_of_pos (by simp)⟩
    · rename_i hf
      obtain ⟨h1, h2, h3⟩ := fpair_mem h
      obtain ⟨os, ho⟩ := fpair_head h
      refine ⟨os, ?_⟩
      rw [List.filter_cons_of_neg, ho]
      intro z
      have z := of_decide_eq_true z
      have : a ∈ rs.filter fun o => decide (f o = f r) := List.mem_filter.mpr ⟨h1, by simpa using z.symm⟩
      rw [hf] at this
      cases this
theorem fpair_none {f : List Int → List Int} : ∀ {rs : List (List Int)}, rs.Nodup → (fpair f rs = none ↔ ∀ a ∈ rs, ∀ b ∈ rs, f a = f b → a = b)
  | [], _ => ⟨(fun _ a ha => nomatch ha), fun _ => rfl⟩
  | r :: rs, nd => by
    obtain ⟨n1, n2⟩ := List.nodup_cons.mp nd
    have ih := fpair_none (f := f) n2
    unfold fpair
    cases hf : rs.filter fun o => decide (f o = f r) with
    | cons o os =>
      have : o ∈ rs.filter fun o => decide (f o = f r) := by rw [hf]; exact List.mem_cons_self
      obtain ⟨h1, h2⟩ := List.mem_filter.mp this
      refine ⟨(fun z => nomatch z), fun z => ?_⟩
      have e := z o (List.mem_cons_of_mem _ h1) r List.mem_cons_self (of_decide_eq_true h2)
      exact absurd (e ▸ h1) n1
    | nil =>
      have no : ∀ o ∈ rs, f o ≠ f r := fun o ho e => by
        have : o ∈ rs.filter fun o => decide (f o = f r) := List.mem_filter.mpr ⟨ho, by simpa using e⟩
        rw [hf] at this
        cases this
      show fpair f rs = none ↔ _
      rw [ih]
      constructor
      · intro z a ha b hb e
        rcases List.mem_cons.mp ha with ea | ha'
        · rcases List.mem_cons.mp hb with eb | hb'
          · rw [ea, eb]
          · exact absurd (by rw [← e, ea]) (no b hb')
        · rcases List.mem_cons.mp hb with eb | hb'
          · exact absurd (by rw [e, eb]) (no a ha')
          · exact z a ha' b hb' e
      · exact fun z a ha b hb e => z a (List.mem_cons_of_mem _ ha) b (List.mem_cons_of_mem _ hb) e
/-- the answers of a row -/
def ansOf (hp : List (List Int)) (r : List Int) : List (List Int × Int) := hp.map fun o => (o, (NR.apI r o : Int))
theorem told_of (hp : List (List Int)) (r o : List Int) : toldB (ansOf hp r) o = decide (dsI hp o = dsI hp r) := by
  unfold toldB ansOf dsI
  induction hp with
  | nil => simp
  | cons h hp ih =>
    simp only [List.map_cons, List.all_cons, List.cons.injEq, Bool.decide_and] at ih ⊢
    rw [ih]
theorem zip_ans (hp : List (List Int)) (r : List Int) : PyData.tuple (List.zipWith (fun x y => PyData.tuple [x, y]) (hp.map rowD) ((dsI hp r).map .int)) = ansI (ansOf hp r) := by
  unfold ansI ansOf dsI
  congr 1
  induction hp with
  | nil => rfl
  | cons h hp ih =>
    simp only [List.map_cons, List.zipWith_cons_cons] at ih ⊢
    rw [ih]
theorem ok_ans {sh : List Int} {hp : List (List Int)} {r : List Int} (h : HeapOk sh hp) (hl : hp.length ≤ 10000) : OkA sh (ansOf hp r) := by
  refine ⟨by unfold ansOf; simpa using hl, fun p hp' => ?_⟩
  obtain ⟨o, ho, rfl⟩ := List.mem_map.mp hp'
  exact ⟨h.row o ho, Int.natCast_nonneg _⟩

theorem run_alone (k : Nat) (sh : List Int) (hp : List (List Int)) (x y : Int) (h : Shape sh) (hh : HeapOk sh hp) (hl : hp.length ≤ 20) (hy : 0 ≤ y ∧ y ≤ 2147483647) : ∃ (r : List Int) (x' y' : Int), r ∈ NR.rowsI sh ∧ (FT (k + 7) 24).S [some (.bor (.lst [.int x, .int y])), some (.val (.tuple (sh.map .int))), some (.val (.tuple (hp.map rowD)))] =
    .ok (.o (.lst (((NR.rowsI sh).filter fun o => decide (dsI hp o = dsI hp r)).map rowD))) [some (.bor (.lst [.int x', .int y'])), some (.val (.tuple (sh.map .int))), some (.val (.tuple (hp.map rowD)))] ∧ 0 ≤ y' ∧ y' ≤ 2147483647 := by
  have rl := rows_le h
  have rn := rows_len h
  have pp := prodI_pos h.pos
  obtain ⟨j, x1, y1, t1, hj, hy1⟩ := run_take (k + 5) x y ((NR.rowsI sh).length : Int) (by omega) hy
  obtain ⟨r, hr, er⟩ : ∃ r ∈ NR.rowsI sh, atI ((NR.rowsI sh).map rowD) j = some (rowD r) := by
    have hjl : j.toNat < (NR.rowsI sh).length := by omega
    exact ⟨(NR.rowsI sh)[j.toNat], List.getElem_mem hjl, atI_get (k := j.toNat) (by omega) (by rw [List.getElem?_map, List.getElem?_eq_getElem hjl]; rfl)⟩
  have hrl := row_len h (NR.mem_rows.mp hr)
  have d := run_dist (k + 4) r hp (by omega) (by omega)
  have lf := run_left k sh (ansOf hp r) h (ok_ans hh (by omega))
  have te : toldB (ansOf hp r) = fun o => decide (dsI hp o = dsI hp r) := funext fun o => told_of hp r o
  rw [te] at lf
  have za := zip_ans hp r
  simp at za
  have dl : (dsI hp r).length = hp.length := by unfold dsI; simp
  refine ⟨r, x1, y1, hr, (rF24 rfl).trans ?_, hy1⟩
  simp [b24, run_lrows (k + 5) sh h, t1, er, d, dl, za, lf, -List.map_map]

theorem pair_repr {sh : List Int} {rs : List (List Int)} {f : List Int → List Int} (h : Shape sh) (hr : ∀ r ∈ rs, NR.IsRow sh r) : reprOk (pairD (fpair f rs)) = true ∧ (pairD (fpair f rs)).canLay0 = true := by
  cases hf : fpair f rs with
  | none => exact ⟨by decide +kernel, rfl⟩
  | some p =>
    obtain ⟨a, b⟩ := p
    obtain ⟨h1, h2, _⟩ := fpair_mem hf
    have ra := row_dig h (hr a h1)
    have rb := row_dig h (hr b h2)
    have la := row_len h (hr a h1)
    have lb := row_len h (hr b h2)
    have em := (emb_tup emb_row)
    have lay : (PyData.tuple [rowD a, rowD b]).canLay0 = true := em.lay [a, b]
    have dep : (PyData.tuple [rowD a, rowD b]).depth ≤ 2 := em.dep [a, b]
    have ca := ints_cL ra
    have cb := ints_cL rb
    refine ⟨repr_of lay ?_ (by show (PyData.tuple [rowD a, rowD b]).depth ≤ 60; omega) ?_, lay⟩
    · show PyData.showable (.tuple [rowD a, rowD b]) = true
      simp [PyData.showable, PyData.showableAll, rowD, ints_show ra, ints_show rb]
    · show cL (.tuple [rowD a, rowD b]) ≤ _
      have e : cL (.tuple [rowD a, rowD b]) = cL (rowD a) + 2 + (cL (rowD b) + 2 + 0) + 3 := rfl
      omega
theorem run_right (k : Nat) (sh : List Int) (hp : List (List Int)) (h : Shape sh) (hh : HeapOk sh hp) (hn : hp.length ≤ 10000) : (FT (k + 6) 25).S [some (.val (.tuple (sh.map .int))), some (.val (.tuple (hp.map rowD)))] = .ok (.v (.bool true)) [some (.val (.tuple (sh.map .int))), some (.val (.tuple (hp.map rowD)))] := by
  refine (rF25 rfl).trans ?_
  have na := run_not_apart k sh hp h hh.row hn hh.srt
  have du := run_due (k + 2) sh hp h hn
  obtain ⟨r1, r2⟩ := pair_repr (f := dsI hp) h fun r hr => NR.mem_rows.mp hr
  have se := shown_eq r2
  simp [b25, na, du, r1, se]

end C85

namespace C85
open PySem L2 Ev

theorem mono_none {sh : List Int} {hp more : List (List Int)} (hs : ∀ o ∈ hp, o ∈ more) (h : fpair (dsI hp) (NR.rowsI sh) = none) : fpair (dsI more) (NR.rowsI sh) = none := by
  rw [fpair_none (NR.rows_nodup sh)] at h ⊢
  intro a ha b hb e
  refine h a ha b hb ?_
  unfold dsI at e ⊢
  refine List.map_congr_left fun o ho => ?_
  exact List.map_inj_left.mp e o (hs o ho)
theorem one_left {sh : List Int} {hp : List (List Int)} {r : List Int} (hr : r ∈ NR.rowsI sh) (h : fpair (dsI hp) (NR.rowsI sh) = none) : ((NR.rowsI sh).filter fun o => decide (dsI hp o = dsI hp r)).length = 1 := by
  rw [fpair_none (NR.rows_nodup sh)] at h
  have e : (NR.rowsI sh).filter (fun o => decide (dsI hp o = dsI hp r)) = (NR.rowsI sh).filter (fun o => decide (o = r)) := List.filter_congr fun o ho => by
    rw [decide_eq_decide]
    exact ⟨fun z => h o ho r hr z, fun z => by rw [z]⟩
  rw [e]
  have key : ∀ {l : List (List Int)}, l.Nodup → r ∈ l → (l.filter fun o => decide (o = r)).length = 1 := by
    intro l
    induction l with
    | nil => intro _ z; cases z
    | cons x l ih =>
      intro nd hm
      obtain ⟨n1, n2⟩ := List.nodup_cons.mp nd
      by_cases hx : x = r
      · subst hx
        rw [List.filter_cons_of_pos (by simp), List.length_cons, List.filter_eq_nil_iff.mpr fun o ho => by simp; intro z; exact n1 (z ▸ ho)]
        rfl
      · rw [List.filter_cons_of_neg (by simpa using hx)]
        exact ih n2 ((List.mem_cons.mp hm).elim (fun z => absurd z.symm hx) id)
  exact key (NR.rows_nodup sh) hr
theorem tail_ok {sh : List Int} {hp : List (List Int)} (h : HeapOk sh hp) : HeapOk sh (hp.drop 1) := ⟨fun r hr => h.row r (List.mem_of_mem_drop hr), h.srt.sublist (List.drop_sublist 1 hp)⟩
theorem law_turn (k : Nat) (ns : List Int) (i : Int) (hi : 0 ≤ i ∧ i ≤ 1000) (s1 s2 s3 s4 s5 s6 s7 : Option Slot) (n1 : nb s1 = true) (n2 : nb s2 = true) (n3 : nb s3 = true) (n4 : nb s4 = true) (n5 : nb s5 = true) (n6 : nb s6 = true) (n7 : nb s7 = true) :
    ∃ z1 z2 z3 z4 z5 z6 z7 : Option Slot, nb z1 = true ∧ nb z2 = true ∧ nb z3 = true ∧ nb z4 = true ∧ nb z5 = true ∧ nb z6 = true ∧ nb z7 = true ∧
    turnF cS (FT (k + 7)) 1000 (.nm 1) p26_0 (.int i) [some (.val (roL (ns.map .int))), s1, s2, s3, s4, s5, s6, s7] = .nx [some (.val (roL (ns.map .int))), z1, z2, z3, z4, z5, z6, z7] := by
  obtain ⟨x, y, t1, hy⟩ := run_pot (k + 6) ns i hi
  obtain ⟨d, x1, y1, t2, hd, hy1⟩ := run_take (k + 6) x y 4 (by omega) hy
  obtain ⟨m, hm, em⟩ : ∃ m : Int, (m = 16 ∨ m = 64) ∧ atI ([.int 16, .int 64] : List PyData) (if d = 3 then 1 else 0) = some (.int m) := by
    by_cases h3 : d = 3
    · exact ⟨64, .inr rfl, by rw [if_pos h3]; rfl⟩
    · exact ⟨16, .inl rfl, by rw [if_neg h3]; rfl⟩
  obtain ⟨sh, x2, y2, t3, hs, hp64, hy2⟩ := run_shape (k + 5) x1 y1 m (by omega) hy1
  obtain ⟨hp, x3, y3, t4, hh, hl, hy3⟩ := run_heap (k + 5) sh x2 y2 10 hs (by omega) hy2
  obtain ⟨hp2, x4, y4, t5, hh2, hl2, hy4⟩ := run_heap (k + 5) sh x3 y3 1 hs (by omega) hy3
  have okr : okRows (hp ++ hp2) = true := ok_rows hs (fun r hr => (List.mem_append.mp hr).elim (hh.row r) (hh2.row r)) (by simp; omega)
  have ss := sortSet_of (setR_t okr)
  rw [List.map_append] at ss
  have hm' : HeapOk sh (sortR (dedR (hp ++ hp2))) := heap_of (fun r hr => (List.mem_append.mp (dedR_sub r hr)).elim (hh.row r) (hh2.row r)) (dedR_nodup _)
  have ml : (sortR (dedR (hp ++ hp2))).length ≤ 11 := by
    rw [(sortR_perm _).length_eq]
    refine Nat.le_trans (NR.nodup_len (dedR_nodup _) dedR_sub) ?_
    rw [List.length_append]
    omega
  have sub : ∀ o ∈ hp, o ∈ sortR (dedR (hp ++ hp2)) := fun o ho => (sortR_perm _).mem_iff.mpr (mem_dedR.mpr (List.mem_append_left _ ho))
  generalize hmo : sortR (dedR (hp ++ hp2)) = more at *
  have r1 := run_right (k + 1) sh hp hs hh (by omega)
  have r2 := run_right (k + 1) sh more hs hm' (by omega)
  have r3 := run_right (k + 1) sh (hp.drop 1) hs (tail_ok hh) (by rw [List.length_drop]; omega)
  have c1 : cutD (hp.map rowD) (some 1) none = (hp.drop 1).map rowD := by rw [cut_from (by decide), List.map_drop]; rfl
  have e3 : (hp.drop 1).map rowD = (hp.map rowD).tail := by simp
  rw [e3] at r3 c1
  have na1 := run_not_apart (k + 2) sh hp hs hh.row (by omega) hh.srt
  have na2 := run_not_apart (k + 2) sh more hs hm'.row (by omega) hm'.srt
  obtain ⟨r, x5, y5, hr, t6, hy5⟩ := run_alone k sh hp x4 y4 hs hh (by omega) hy4
  have zl1 : hp.length + hp2.length ≤ sizeLine := sl_le (by omega)
  have zl2 : more.length ≤ sizeLine := sl_le (by omega)
  have inF : r ∈ (NR.rowsI sh).filter fun o => decide (dsI hp o = dsI hp r) := List.mem_filter.mpr ⟨hr, by simp⟩
  cases hf : fpair (dsI hp) (NR.rowsI sh) with
  | none =>
    have one := one_left hr hf
    have hf2 := mono_none sub hf
    rw [hf] at na1
    rw [hf2] at na2
    generalize (NR.rowsI sh).filter (fun o => decide (dsI hp o = dsI hp r)) = F at *
    have en := eq_lrn F
    have hF : F ≠ [] := fun z => by rw [z] at one; cases one
    rw [decide_eq_false hF] at en
    refine ⟨some (.val (.int i)), some (.own (.lst [.int x5, .int y5])), some (.val (.tuple (sh.map .int))), some (.val (.tuple (hp.map rowD))), some (.val (.tuple (more.map rowD))), some (.val (.list (F.map rowD))), some (.val .none), rfl, rfl, rfl, rfl, rfl, rfl, rfl, ?_⟩
    simp only [pairD] at na1 na2
    simp [p26_0, n1, n2, n3, n4, n5, n6, n7, t1, t2, em, t3, t4, t5, zl1, ss, zl2, r1, r2, c1, r3, na1, na2, t6, one, en, sl_le]
  | some p =>
    obtain ⟨a, b⟩ := p
    obtain ⟨ma, mb, fb⟩ := fpair_mem hf
    obtain ⟨os, ho⟩ := fpair_head hf
    rw [hf] at na1
    have len1 : ∀ q : Option (List Int × List Int), fpair (dsI more) (NR.rowsI sh) = q → True := fun _ _ => trivial
    generalize hF : (NR.rowsI sh).filter (fun o => decide (dsI hp o = dsI hp r)) = F at *
    have en := eq_lrn F
    have hFn : F ≠ [] := fun z => by rw [z] at inF; cases inF
    rw [decide_eq_false hFn] at en
    have al := row_len hs (NR.mem_rows.mp ma)
    have di := run_dist (k + 5) a hp (by omega) (by omega)
    have lf := run_left (k + 1) sh (ansOf hp a) hs (ok_ans hh (by omega))
    have te : toldB (ansOf hp a) = fun o => decide (dsI hp o = dsI hp a) := funext fun o => told_of hp a o
    rw [te, ho] at lf
    have za := zip_ans hp a
    simp at za
    have dl : (dsI hp a).length = hp.length := by unfold dsI; simp
    have bin : b ∈ a :: os := by rw [← ho]; exact List.mem_filter.mpr ⟨mb, by simpa using fb⟩
    have inn : inD (rowD b) (.list ((a :: os).map rowD)) = some true := by
      have q := emb_inL emb_row (by decide) b (a :: os)
      simp only [bin, decide_true] at q
      exact q
    have eq := eq_rowD a a
    have a0 : atI ((a :: os).map rowD) 0 = some (rowD a) := atI_get (k := 0) rfl rfl
    have p0 : atI [rowD a, rowD b] 0 = some (rowD a) := rfl
    have p1 : atI [rowD a, rowD b] 1 = some (rowD b) := rfl
    refine ⟨some (.val (.int i)), some (.own (.lst [.int x5, .int y5])), some (.val (.tuple (sh.map .int))), some (.val (.tuple (hp.map rowD))), some (.val (.tuple (more.map rowD))), some (.val (.list ((a :: os).map rowD))), some (.val (.tuple [rowD a, rowD b])), rfl, rfl, rfl, rfl, rfl, rfl, rfl, ?_⟩
    simp only [pairD] at na1
    simp [p26_0, n1, n2, n3, n4, n5, n6, n7, t1, t2, em, t3, t4, t5, zl1, ss, zl2, r1, r2, c1, r3, na1, t6, en, sl_le, di, za, dl, lf, a0, p0, p1, eq, inn, -List.map_cons, -List.map_map]
theorem law_true : ∀ ns : List Int, ns.length ≤ 63 → (∀ z ∈ ns, Builtin.Int.intBits z ≤ 1048576) → ∃ t, (prg.FT (7 + 1) 26).S [some (.val (roL (ns.map PyData.int)))] = .ok (.v (.bool true)) t := fun ns hl _ => by
  have hr : ∀ m : Int, 0 ≤ m ∧ m ≤ 10 → range1D (.int m) = some ((List.range m.toNat).map fun i : Nat => PyData.int (0 + (i : Int))) := fun m hm => by
    rw [range1_ok (inR_small (by omega))]
    unfold rangeD
    rw [Int.sub_zero]
  generalize hn : (if 2 < (if (ns.length : Int) < 4 then (ns.length : Int) else 4) then (if (ns.length : Int) < 4 then (ns.length : Int) else 4) else 2) = m
  have hm : 0 ≤ m ∧ m ≤ 10 := by
    rw [← hn]
    split <;> split <;> omega
  obtain ⟨e1, h1, hq⟩ := forL_st (turn := turnF cS (FT (0 + 7)) 1000 (.nm 1) p26_0) (fun i : Nat => PyData.int (0 + (i : Int)))
    (fun b : En => b)
    (fun rest b => (∃ s1 s2 s3 s4 s5 s6 s7 : Option Slot, nb s1 = true ∧ nb s2 = true ∧ nb s3 = true ∧ nb s4 = true ∧ nb s5 = true ∧ nb s6 = true ∧ nb s7 = true ∧ b = [some (.val (roL (ns.map .int))), s1, s2, s3, s4, s5, s6, s7]) ∧ ∀ i ∈ rest, i ≤ 10)
    (fun i rest b ⟨⟨s1, s2, s3, s4, s5, s6, s7, n1, n2, n3, n4, n5, n6, n7, e⟩, h⟩ => by
      have := h i List.mem_cons_self
      subst e
      obtain ⟨z1, z2, z3, z4, z5, z6, z7, m1, m2, m3, m4, m5, m6, m7, ht⟩ := law_turn 0 ns (0 + (i : Int)) (by omega) s1 s2 s3 s4 s5 s6 s7 n1 n2 n3 n4 n5 n6 n7
      exact ⟨_, ht, ⟨z1, z2, z3, z4, z5, z6, z7, m1, m2, m3, m4, m5, m6, m7, rfl⟩, fun j hj => h j (List.mem_cons_of_mem _ hj)⟩) (List.range m.toNat) [some (.val (roL (ns.map .int))), none, none, none, none, none, none, none] ⟨⟨none, none, none, none, none, none, none, rfl, rfl, rfl, rfl, rfl, rfl, rfl, rfl⟩, fun i hi => by
        have := List.mem_range.mp hi
        omega⟩
  obtain ⟨⟨s1, s2, s3, s4, s5, s6, s7, _, _, _, _, _, _, _, e⟩, _⟩ := hq
  subst e
  refine ⟨[some (.val (roL (ns.map PyData.int)))], (rF26 rfl).trans ?_⟩
  have hrm := hr m hm
  simp only [Int.zero_add, Nat.zero_add] at h1 hrm
  simp [b26, hn, hrm, h1]

end C85

namespace C85
open PySem L2 Ev
theorem at_mk {K : PySem.W.Frag} {hp : Heap} {mg : Str → Option Value} {f0 f1 f2 f3 f4 f5 f6 f7 f8 f9 f10 f11 f12 f13 f14 f15 f16 f17 f18 f19 f20 f21 f22 f23 f24 f25 f26 : Addr} (X : K.In hp) (G : hp.Ns mainGlobals mg)
    {oc0 kV0 dc0 pm0 cd0 ct0 : Value} {od0 an0 : Option Addr} {sl0 : Array (Option Value)}
    (a0 : PySem.W.nsIn K mainGlobals "is_whole" = some (some (.ref f0)))
    (l0 : K.lookup f0 = some ⟨oc0, od0, .func (PySem.W.fnOf "is_whole" "is_whole" (defArgs (sT 0)) (defBody (sT 0)) (defScope (sT 0)) .none kV0 dc0 pm0 an0 cd0 ct0), sl0⟩)
    (c0 : PySem.W.codeIn K cd0 "is_whole" = true) (k0 : PySem.W.keepIn K (.ref f0) = true)
    {oc1 kV1 dc1 pm1 cd1 ct1 : Value} {od1 an1 : Option Addr} {sl1 : Array (Option Value)}
    (a1 : PySem.W.nsIn K mainGlobals "size_of" = some (some (.ref f1)))
    (l1 : K.lookup f1 = some ⟨oc1, od1, .func (PySem.W.fnOf "size_of" "size_of" (defArgs (sT 1)) (defBody (sT 1)) (defScope (sT 1)) .none kV1 dc1 pm1 an1 cd1 ct1), sl1⟩)
    (c1 : PySem.W.codeIn K cd1 "size_of" = true) (k1 : PySem.W.keepIn K (.ref f1) = true)
    {oc2 kV2 dc2 pm2 cd2 ct2 : Value} {od2 an2 : Option Addr} {sl2 : Array (Option Value)}
    (a2 : PySem.W.nsIn K mainGlobals "is_shape" = some (some (.ref f2)))
    (l2 : K.lookup f2 = some ⟨oc2, od2, .func (PySem.W.fnOf "is_shape" "is_shape" (defArgs (sT 2)) (defBody (sT 2)) (defScope (sT 2)) .none kV2 dc2 pm2 an2 cd2 ct2), sl2⟩)
    (c2 : PySem.W.codeIn K cd2 "is_shape" = true) (k2 : PySem.W.keepIn K (.ref f2) = true)
    {oc3 kV3 dc3 pm3 cd3 ct3 : Value} {od3 an3 : Option Addr} {sl3 : Array (Option Value)}
    (a3 : PySem.W.nsIn K mainGlobals "is_row_of" = some (some (.ref f3)))
    (l3 : K.lookup f3 = some ⟨oc3, od3, .func (PySem.W.fnOf "is_row_of" "is_row_of" (defArgs (sT 3)) (defBody (sT 3)) (defScope (sT 3)) .none kV3 dc3 pm3 an3 cd3 ct3), sl3⟩)
    (c3 : PySem.W.codeIn K cd3 "is_row_of" = true) (k3 : PySem.W.keepIn K (.ref f3) = true)
    {oc4 kV4 dc4 pm4 cd4 ct4 : Value} {od4 an4 : Option Addr} {sl4 : Array (Option Value)}
    (a4 : PySem.W.nsIn K mainGlobals "want_shape" = some (some (.ref f4)))
    (l4 : K.lookup f4 = some ⟨oc4, od4, .func (PySem.W.fnOf "want_shape" "want_shape" (defArgs (sT 4)) (defBody (sT 4)) (defScope (sT 4)) .none kV4 dc4 pm4 an4 cd4 ct4), sl4⟩)
    (c4 : PySem.W.codeIn K cd4 "want_shape" = true) (k4 : PySem.W.keepIn K (.ref f4) = true)
    {oc5 kV5 dc5 pm5 cd5 ct5 : Value} {od5 an5 : Option Addr} {sl5 : Array (Option Value)}
    (a5 : PySem.W.nsIn K mainGlobals "rows_of" = some (some (.ref f5)))
    (l5 : K.lookup f5 = some ⟨oc5, od5, .func (PySem.W.fnOf "rows_of" "rows_of" (defArgs (sT 5)) (defBody (sT 5)) (defScope (sT 5)) .none kV5 dc5 pm5 an5 cd5 ct5), sl5⟩)
    (c5 : PySem.W.codeIn K cd5 "rows_of" = true) (k5 : PySem.W.keepIn K (.ref f5) = true)
    {oc6 kV6 dc6 pm6 cd6 ct6 : Value} {od6 an6 : Option Addr} {sl6 : Array (Option Value)}
    (a6 : PySem.W.nsIn K mainGlobals "apart" = some (some (.ref f6)))
    (l6 : K.lookup f6 = some ⟨oc6, od6, .func (PySem.W.fnOf "apart" "apart" (defArgs (sT 6)) (defBody (sT 6)) (defScope (sT 6)) .none kV6 dc6 pm6 an6 cd6 ct6), sl6⟩)
    (c6 : PySem.W.codeIn K cd6 "apart" = true) (k6 : PySem.W.keepIn K (.ref f6) = true)
    {oc7 kV7 dc7 pm7 cd7 ct7 : Value} {od7 an7 : Option Addr} {sl7 : Array (Option Value)}
    (a7 : PySem.W.nsIn K mainGlobals "is_heap_of" = some (some (.ref f7)))
    (l7 : K.lookup f7 = some ⟨oc7, od7, .func (PySem.W.fnOf "is_heap_of" "is_heap_of" (defArgs (sT 7)) (defBody (sT 7)) (defScope (sT 7)) .none kV7 dc7 pm7 an7 cd7 ct7), sl7⟩)
    (c7 : PySem.W.codeIn K cd7 "is_heap_of" = true) (k7 : PySem.W.keepIn K (.ref f7) = true)
    {oc8 kV8 dc8 pm8 cd8 ct8 : Value} {od8 an8 : Option Addr} {sl8 : Array (Option Value)}
    (a8 : PySem.W.nsIn K mainGlobals "want_heap" = some (some (.ref f8)))
    (l8 : K.lookup f8 = some ⟨oc8, od8, .func (PySem.W.fnOf "want_heap" "want_heap" (defArgs (sT 8)) (defBody (sT 8)) (defScope (sT 8)) .none kV8 dc8 pm8 an8 cd8 ct8), sl8⟩)
    (c8 : PySem.W.codeIn K cd8 "want_heap" = true) (k8 : PySem.W.keepIn K (.ref f8) = true)
    {oc9 kV9 dc9 pm9 cd9 ct9 : Value} {od9 an9 : Option Addr} {sl9 : Array (Option Value)}
    (a9 : PySem.W.nsIn K mainGlobals "is_answer" = some (some (.ref f9)))
    (l9 : K.lookup f9 = some ⟨oc9, od9, .func (PySem.W.fnOf "is_answer" "is_answer" (defArgs (sT 9)) (defBody (sT 9)) (defScope (sT 9)) .none kV9 dc9 pm9 an9 cd9 ct9), sl9⟩)
    (c9 : PySem.W.codeIn K cd9 "is_answer" = true) (k9 : PySem.W.keepIn K (.ref f9) = true)
    {oc10 kV10 dc10 pm10 cd10 ct10 : Value} {od10 an10 : Option Addr} {sl10 : Array (Option Value)}
    (a10 : PySem.W.nsIn K mainGlobals "are_answers" = some (some (.ref f10)))
    (l10 : K.lookup f10 = some ⟨oc10, od10, .func (PySem.W.fnOf "are_answers" "are_answers" (defArgs (sT 10)) (defBody (sT 10)) (defScope (sT 10)) .none kV10 dc10 pm10 an10 cd10 ct10), sl10⟩)
    (c10 : PySem.W.codeIn K cd10 "are_answers" = true) (k10 : PySem.W.keepIn K (.ref f10) = true)
    {oc11 kV11 dc11 pm11 cd11 ct11 : Value} {od11 an11 : Option Addr} {sl11 : Array (Option Value)}
    (a11 : PySem.W.nsIn K mainGlobals "want_answers" = some (some (.ref f11)))
    (l11 : K.lookup f11 = some ⟨oc11, od11, .func (PySem.W.fnOf "want_answers" "want_answers" (defArgs (sT 11)) (defBody (sT 11)) (defScope (sT 11)) .none kV11 dc11 pm11 an11 cd11 ct11), sl11⟩)
    (c11 : PySem.W.codeIn K cd11 "want_answers" = true) (k11 : PySem.W.keepIn K (.ref f11) = true)
    {oc12 kV12 dc12 pm12 cd12 ct12 : Value} {od12 an12 : Option Addr} {sl12 : Array (Option Value)}
    (a12 : PySem.W.nsIn K mainGlobals "has_told" = some (some (.ref f12)))
    (l12 : K.lookup f12 = some ⟨oc12, od12, .func (PySem.W.fnOf "has_told" "has_told" (defArgs (sT 12)) (defBody (sT 12)) (defScope (sT 12)) .none kV12 dc12 pm12 an12 cd12 ct12), sl12⟩)
    (c12 : PySem.W.codeIn K cd12 "has_told" = true) (k12 : PySem.W.keepIn K (.ref f12) = true)
    {oc13 kV13 dc13 pm13 cd13 ct13 : Value} {od13 an13 : Option Addr} {sl13 : Array (Option Value)}
    (a13 : PySem.W.nsIn K mainGlobals "left" = some (some (.ref f13)))
    (l13 : K.lookup f13 = some ⟨oc13, od13, .func (PySem.W.fnOf "left" "left" (defArgs (sT 13)) (defBody (sT 13)) (defScope (sT 13)) .none kV13 dc13 pm13 an13 cd13 ct13), sl13⟩)
    (c13 : PySem.W.codeIn K cd13 "left" = true) (k13 : PySem.W.keepIn K (.ref f13) = true)
    {oc14 kV14 dc14 pm14 cd14 ct14 : Value} {od14 an14 : Option Addr} {sl14 : Array (Option Value)}
    (a14 : PySem.W.nsIn K mainGlobals "distances_of" = some (some (.ref f14)))
    (l14 : K.lookup f14 = some ⟨oc14, od14, .func (PySem.W.fnOf "distances_of" "distances_of" (defArgs (sT 14)) (defBody (sT 14)) (defScope (sT 14)) .none kV14 dc14 pm14 an14 cd14 ct14), sl14⟩)
    (c14 : PySem.W.codeIn K cd14 "distances_of" = true) (k14 : PySem.W.keepIn K (.ref f14) = true)
    {oc15 kV15 dc15 pm15 cd15 ct15 : Value} {od15 an15 : Option Addr} {sl15 : Array (Option Value)}
    (a15 : PySem.W.nsIn K mainGlobals "not_apart" = some (some (.ref f15)))
    (l15 : K.lookup f15 = some ⟨oc15, od15, .func (PySem.W.fnOf "not_apart" "not_apart" (defArgs (sT 15)) (defBody (sT 15)) (defScope (sT 15)) .none kV15 dc15 pm15 an15 cd15 ct15), sl15⟩)
    (c15 : PySem.W.codeIn K cd15 "not_apart" = true) (k15 : PySem.W.keepIn K (.ref f15) = true)
    {oc16 kV16 dc16 pm16 cd16 ct16 : Value} {od16 an16 : Option Addr} {sl16 : Array (Option Value)}
    (a16 : PySem.W.nsIn K mainGlobals "_law_pot" = some (some (.ref f16)))
    (l16 : K.lookup f16 = some ⟨oc16, od16, .func (PySem.W.fnOf "_law_pot" "_law_pot" (defArgs (sT 16)) (defBody (sT 16)) (defScope (sT 16)) .none kV16 dc16 pm16 an16 cd16 ct16), sl16⟩)
    (c16 : PySem.W.codeIn K cd16 "_law_pot" = true) (k16 : PySem.W.keepIn K (.ref f16) = true)
    {oc17 kV17 dc17 pm17 cd17 ct17 : Value} {od17 an17 : Option Addr} {sl17 : Array (Option Value)}
    (a17 : PySem.W.nsIn K mainGlobals "_law_take" = some (some (.ref f17)))
    (l17 : K.lookup f17 = some ⟨oc17, od17, .func (PySem.W.fnOf "_law_take" "_law_take" (defArgs (sT 17)) (defBody (sT 17)) (defScope (sT 17)) .none kV17 dc17 pm17 an17 cd17 ct17), sl17⟩)
    (c17 : PySem.W.codeIn K cd17 "_law_take" = true) (k17 : PySem.W.keepIn K (.ref f17) = true)
    {oc18 kV18 dc18 pm18 cd18 ct18 : Value} {od18 an18 : Option Addr} {sl18 : Array (Option Value)}
    (a18 : PySem.W.nsIn K mainGlobals "_law_shape" = some (some (.ref f18)))
    (l18 : K.lookup f18 = some ⟨oc18, od18, .func (PySem.W.fnOf "_law_shape" "_law_shape" (defArgs (sT 18)) (defBody (sT 18)) (defScope (sT 18)) .none kV18 dc18 pm18 an18 cd18 ct18), sl18⟩)
    (c18 : PySem.W.codeIn K cd18 "_law_shape" = true) (k18 : PySem.W.keepIn K (.ref f18) = true)
    {oc19 kV19 dc19 pm19 cd19 ct19 : Value} {od19 an19 : Option Addr} {sl19 : Array (Option Value)}
    (a19 : PySem.W.nsIn K mainGlobals "_law_rows" = some (some (.ref f19)))
    (l19 : K.lookup f19 = some ⟨oc19, od19, .func (PySem.W.fnOf "_law_rows" "_law_rows" (defArgs (sT 19)) (defBody (sT 19)) (defScope (sT 19)) .none kV19 dc19 pm19 an19 cd19 ct19), sl19⟩)
    (c19 : PySem.W.codeIn K cd19 "_law_rows" = true) (k19 : PySem.W.keepIn K (.ref f19) = true)
    {oc20 kV20 dc20 pm20 cd20 ct20 : Value} {od20 an20 : Option Addr} {sl20 : Array (Option Value)}
    (a20 : PySem.W.nsIn K mainGlobals "_law_off" = some (some (.ref f20)))
    (l20 : K.lookup f20 = some ⟨oc20, od20, .func (PySem.W.fnOf "_law_off" "_law_off" (defArgs (sT 20)) (defBody (sT 20)) (defScope (sT 20)) .none kV20 dc20 pm20 an20 cd20 ct20), sl20⟩)
    (c20 : PySem.W.codeIn K cd20 "_law_off" = true) (k20 : PySem.W.keepIn K (.ref f20) = true)
    {oc21 kV21 dc21 pm21 cd21 ct21 : Value} {od21 an21 : Option Addr} {sl21 : Array (Option Value)}
    (a21 : PySem.W.nsIn K mainGlobals "_law_heap" = some (some (.ref f21)))
    (l21 : K.lookup f21 = some ⟨oc21, od21, .func (PySem.W.fnOf "_law_heap" "_law_heap" (defArgs (sT 21)) (defBody (sT 21)) (defScope (sT 21)) .none kV21 dc21 pm21 an21 cd21 ct21), sl21⟩)
    (c21 : PySem.W.codeIn K cd21 "_law_heap" = true) (k21 : PySem.W.keepIn K (.ref f21) = true)
    {oc22 kV22 dc22 pm22 cd22 ct22 : Value} {od22 an22 : Option Addr} {sl22 : Array (Option Value)}
    (a22 : PySem.W.nsIn K mainGlobals "_law_distances" = some (some (.ref f22)))
    (l22 : K.lookup f22 = some ⟨oc22, od22, .func (PySem.W.fnOf "_law_distances" "_law_distances" (defArgs (sT 22)) (defBody (sT 22)) (defScope (sT 22)) .none kV22 dc22 pm22 an22 cd22 ct22), sl22⟩)
    (c22 : PySem.W.codeIn K cd22 "_law_distances" = true) (k22 : PySem.W.keepIn K (.ref f22) = true)
    {oc23 kV23 dc23 pm23 cd23 ct23 : Value} {od23 an23 : Option Addr} {sl23 : Array (Option Value)}
    (a23 : PySem.W.nsIn K mainGlobals "_law_due" = some (some (.ref f23)))
    (l23 : K.lookup f23 = some ⟨oc23, od23, .func (PySem.W.fnOf "_law_due" "_law_due" (defArgs (sT 23)) (defBody (sT 23)) (defScope (sT 23)) .none kV23 dc23 pm23 an23 cd23 ct23), sl23⟩)
    (c23 : PySem.W.codeIn K cd23 "_law_due" = true) (k23 : PySem.W.keepIn K (.ref f23) = true)
    {oc24 kV24 dc24 pm24 cd24 ct24 : Value} {od24 an24 : Option Addr} {sl24 : Array (Option Value)}
    (a24 : PySem.W.nsIn K mainGlobals "_law_left_alone" = some (some (.ref f24)))
    (l24 : K.lookup f24 = some ⟨oc24, od24, .func (PySem.W.fnOf "_law_left_alone" "_law_left_alone" (defArgs (sT 24)) (defBody (sT 24)) (defScope (sT 24)) .none kV24 dc24 pm24 an24 cd24 ct24), sl24⟩)
    (c24 : PySem.W.codeIn K cd24 "_law_left_alone" = true) (k24 : PySem.W.keepIn K (.ref f24) = true)
    {oc25 kV25 dc25 pm25 cd25 ct25 : Value} {od25 an25 : Option Addr} {sl25 : Array (Option Value)}
    (a25 : PySem.W.nsIn K mainGlobals "_law_right" = some (some (.ref f25)))
    (l25 : K.lookup f25 = some ⟨oc25, od25, .func (PySem.W.fnOf "_law_right" "_law_right" (defArgs (sT 25)) (defBody (sT 25)) (defScope (sT 25)) .none kV25 dc25 pm25 an25 cd25 ct25), sl25⟩)
    (c25 : PySem.W.codeIn K cd25 "_law_right" = true) (k25 : PySem.W.keepIn K (.ref f25) = true)
    {oc26 kV26 dc26 pm26 cd26 ct26 : Value} {od26 an26 : Option Addr} {sl26 : Array (Option Value)}
    (a26 : PySem.W.nsIn K mainGlobals "law" = some (some (.ref f26)))
    (l26 : K.lookup f26 = some ⟨oc26, od26, .func (PySem.W.fnOf "law" "law" (defArgs (sT 26)) (defBody (sT 26)) (defScope (sT 26)) .none kV26 dc26 pm26 an26 cd26 ct26), sl26⟩)
    (c26 : PySem.W.codeIn K cd26 "law" = true) (k26 : PySem.W.keepIn K (.ref f26) = true)
    {t0 : Tok} (g0 : PySem.W.nsIn K mainGlobals "MOST_SPOTS" = some (some (.int 8 t0)))
    {t1 : Tok} (g1 : PySem.W.nsIn K mainGlobals "LEAST_SIGNS" = some (some (.int 2 t1)))
    {t2 : Tok} (g2 : PySem.W.nsIn K mainGlobals "MOST_SIGNS" = some (some (.int 9 t2)))
    {t3 : Tok} (g3 : PySem.W.nsIn K mainGlobals "MOST_ROWS" = some (some (.int 256 t3)))
    {t4 : Tok} (g4 : PySem.W.nsIn K mainGlobals "PARTS_OF_ANSWER" = some (some (.int 2 t4)))
    (z0 : PySem.W.nsIn K mainGlobals "abs" = some none)
    (z1 : PySem.W.nsIn K mainGlobals "all" = some none)
    (z2 : PySem.W.nsIn K mainGlobals "bool" = some none)
    (z3 : PySem.W.nsIn K mainGlobals "divmod" = some none)
    (z4 : PySem.W.nsIn K mainGlobals "enumerate" = some none)
    (z5 : PySem.W.nsIn K mainGlobals "int" = some none)
    (z6 : PySem.W.nsIn K mainGlobals "isinstance" = some none)
    (z7 : PySem.W.nsIn K mainGlobals "len" = some none)
    (z8 : PySem.W.nsIn K mainGlobals "max" = some none)
    (z9 : PySem.W.nsIn K mainGlobals "min" = some none)
    (z10 : PySem.W.nsIn K mainGlobals "range" = some none)
    (z11 : PySem.W.nsIn K mainGlobals "repr" = some none)
    (z12 : PySem.W.nsIn K mainGlobals "set" = some none)
    (z13 : PySem.W.nsIn K mainGlobals "sorted" = some none)
    (z14 : PySem.W.nsIn K mainGlobals "sum" = some none)
    (z15 : PySem.W.nsIn K mainGlobals "tuple" = some none)
    (z16 : PySem.W.nsIn K mainGlobals "zip" = some none)
    {C0 : Addr} (xa0 : PySem.W.nsIn K mainGlobals "NoAnswers" = some (some (.ref C0))) (xk0 : PySem.W.keepIn K (.ref C0) = true)
    (xq0 : PySem.W.excIn K C0 [.type "ValueError", .type "Exception", .type "BaseException", .type "object"] "ValueError.__new__" = true)
    (xb0 : PySem.W.subIn K (.ref C0) (.type "BaseException") = some true) (xt0 : PySem.W.typeIn K (.ref C0) = some (.type "type"))
    {C1 : Addr} (xa1 : PySem.W.nsIn K mainGlobals "NoHeap" = some (some (.ref C1))) (xk1 : PySem.W.keepIn K (.ref C1) = true)
    (xq1 : PySem.W.excIn K C1 [.type "ValueError", .type "Exception", .type "BaseException", .type "object"] "ValueError.__new__" = true)
    (xb1 : PySem.W.subIn K (.ref C1) (.type "BaseException") = some true) (xt1 : PySem.W.typeIn K (.ref C1) = some (.type "type"))
    {C2 : Addr} (xa2 : PySem.W.nsIn K mainGlobals "NoShape" = some (some (.ref C2))) (xk2 : PySem.W.keepIn K (.ref C2) = true)
    (xq2 : PySem.W.excIn K C2 [.type "ValueError", .type "Exception", .type "BaseException", .type "object"] "ValueError.__new__" = true)
    (xb2 : PySem.W.subIn K (.ref C2) (.type "BaseException") = some true) (xt2 : PySem.W.typeIn K (.ref C2) = some (.type "type")) : prg.At K mg ∧ ∃ fd, mg "law" = some (.ref f26) ∧ L2.Fun K "law" "law" (sT 26) f26 fd := by
  refine ⟨⟨fun j x hj => ?_, fun k x d h1 h2 => ?_, fun x hx => ?_, fun x hx => ?_, fun j x E hj hx => ?_⟩, _, PySem.W.mg_of X G a26, fun_mk (st := sT 26) l26 c26 k26⟩
  · match j, hj with
    | 0, hj => cases hj; exact ⟨f0, _, PySem.W.mg_of X G a0, fun_mk (st := sT 0) l0 c0 k0⟩
    | 1, hj => cases hj; exact ⟨f1, _, PySem.W.mg_of X G a1, fun_mk (st := sT 1) l1 c1 k1⟩
    | 2, hj => cases hj; exact ⟨f2, _, PySem.W.mg_of X G a2, fun_mk (st := sT 2) l2 c2 k2⟩
    | 3, hj => cases hj; exact ⟨f3, _, PySem.W.mg_of X G a3, fun_mk (st := sT 3) l3 c3 k3⟩
    | 4, hj => cases hj; exact ⟨f4, _, PySem.W.mg_of X G a4, fun_mk (st := sT 4) l4 c4 k4⟩
    | 5, hj => cases hj; exact ⟨f5, _, PySem.W.mg_of X G a5, fun_mk (st := sT 5) l5 c5 k5⟩
    | 6, hj => cases hj; exact ⟨f6, _, PySem.W.mg_of X G a6, fun_mk (st := sT 6) l6 c6 k6⟩
    | 7, hj => cases hj; exact ⟨f7, _, PySem.W.mg_of X G a7, fun_mk (st := sT 7) l7 c7 k7⟩
    | 8, hj => cases hj; exact ⟨f8, _, PySem.W.mg_of X G a8, fun_mk (st := sT 8) l8 c8 k8⟩
    | 9, hj => cases hj; exact ⟨f9, _, PySem.W.mg_of X G a9, fun_mk (st := sT 9) l9 c9 k9⟩
    | 10, hj => cases hj; exact ⟨f10, _, PySem.W.mg_of X G a10, fun_mk (st := sT 10) l10 c10 k10⟩
    | 11, hj => cases hj; exact ⟨f11, _, PySem.W.mg_of X G a11, fun_mk (st := sT 11) l11 c11 k11⟩
    | 12, hj => cases hj; exact ⟨f12, _, PySem.W.mg_of X G a12, fun_mk (st := sT 12) l12 c12 k12⟩
    | 13, hj => cases hj; exact ⟨f13, _, PySem.W.mg_of X G a13, fun_mk (st := sT 13) l13 c13 k13⟩
    | 14, hj => cases hj; exact ⟨f14, _, PySem.W.mg_of X G a14, fun_mk (st := sT 14) l14 c14 k14⟩
    | 15, hj => cases hj; exact ⟨f15, _, PySem.W.mg_of X G a15, fun_mk (st := sT 15) l15 c15 k15⟩
    | 16, hj => cases hj; exact ⟨f16, _, PySem.W.mg_of X G a16, fun_mk (st := sT 16) l16 c16 k16⟩
    | 17, hj => cases hj; exact ⟨f17, _, PySem.W.mg_of X G a17, fun_mk (st := sT 17) l17 c17 k17⟩
    | 18, hj => cases hj; exact ⟨f18, _, PySem.W.mg_of X G a18, fun_mk (st := sT 18) l18 c18 k18⟩
    | 19, hj => cases hj; exact ⟨f19, _, PySem.W.mg_of X G a19, fun_mk (st := sT 19) l19 c19 k19⟩
    | 20, hj => cases hj; exact ⟨f20, _, PySem.W.mg_of X G a20, fun_mk (st := sT 20) l20 c20 k20⟩
    | 21, hj => cases hj; exact ⟨f21, _, PySem.W.mg_of X G a21, fun_mk (st := sT 21) l21 c21 k21⟩
    | 22, hj => cases hj; exact ⟨f22, _, PySem.W.mg_of X G a22, fun_mk (st := sT 22) l22 c22 k22⟩
    | 23, hj => cases hj; exact ⟨f23, _, PySem.W.mg_of X G a23, fun_mk (st := sT 23) l23 c23 k23⟩
    | 24, hj => cases hj; exact ⟨f24, _, PySem.W.mg_of X G a24, fun_mk (st := sT 24) l24 c24 k24⟩
    | 25, hj => cases hj; exact ⟨f25, _, PySem.W.mg_of X G a25, fun_mk (st := sT 25) l25 c25 k25⟩
    | 26, hj => cases hj; exact ⟨f26, _, PySem.W.mg_of X G a26, fun_mk (st := sT 26) l26 c26 k26⟩
    | j + 27, hj => simp [prg] at hj
  · match k, h1, h2 with
    | 0, h1, h2 => cases h1; cases h2; exact ⟨.int 8, _, PySem.W.mg_of X G g0, ⟨_, rfl⟩, fun _ _ => .int _⟩
    | 1, h1, h2 => cases h1; cases h2; exact ⟨.int 2, _, PySem.W.mg_of X G g1, ⟨_, rfl⟩, fun _ _ => .int _⟩
    | 2, h1, h2 => cases h1; cases h2; exact ⟨.int 9, _, PySem.W.mg_of X G g2, ⟨_, rfl⟩, fun _ _ => .int _⟩
    | 3, h1, h2 => cases h1; cases h2; exact ⟨.int 256, _, PySem.W.mg_of X G g3, ⟨_, rfl⟩, fun _ _ => .int _⟩
    | 4, h1, h2 => cases h1; cases h2; exact ⟨.int 2, _, PySem.W.mg_of X G g4, ⟨_, rfl⟩, fun _ _ => .int _⟩
    | k + 5, h1, h2 => simp [prg, cN] at h1
  · have q : x = "abs" ∨ x = "all" ∨ x = "bool" ∨ x = "divmod" ∨ x = "enumerate" ∨ x = "int" ∨ x = "isinstance" ∨ x = "len" ∨ x = "max" ∨ x = "min" ∨ x = "range" ∨ x = "repr" ∨ x = "set" ∨ x = "sorted" ∨ x = "sum" ∨ x = "tuple" ∨ x = "zip" := by simpa [prg] using hx
    rcases q with rfl | rfl | rfl | rfl | rfl | rfl | rfl | rfl | rfl | rfl | rfl | rfl | rfl | rfl | rfl | rfl | rfl
    · exact PySem.W.mg_none_of X G z0
    · exact PySem.W.mg_none_of X G z1
    · exact PySem.W.mg_none_of X G z2
    · exact PySem.W.mg_none_of X G z3
    · exact PySem.W.mg_none_of X G z4
    · exact PySem.W.mg_none_of X G z5
    · exact PySem.W.mg_none_of X G z6
    · exact PySem.W.mg_none_of X G z7
    · exact PySem.W.mg_none_of X G z8
    · exact PySem.W.mg_none_of X G z9
    · exact PySem.W.mg_none_of X G z10
    · exact PySem.W.mg_none_of X G z11
    · exact PySem.W.mg_none_of X G z12
    · exact PySem.W.mg_none_of X G z13
    · exact PySem.W.mg_none_of X G z14
    · exact PySem.W.mg_none_of X G z15
    · exact PySem.W.mg_none_of X G z16
  · have q : x = "NoAnswers" ∨ x = "NoHeap" ∨ x = "NoShape" := by simpa [prg] using hx
    rcases q with rfl | rfl | rfl
    · exact ⟨C0, PySem.W.mg_of X G xa0, fun Y hK hm hg hd p m j p2 pos => pmk_own PySem.F.excBase_ValueError (by rw [hK]; exact xq0) (by rw [hm]; exact PySem.W.mg_of X G xa0) (by rw [hK]; exact xk0) (raises_own (by rw [hK]; exact xb0) (by rw [hK]; exact xt0)) hg hd⟩
    · exact ⟨C1, PySem.W.mg_of X G xa1, fun Y hK hm hg hd p m j p2 pos => pmk_own PySem.F.excBase_ValueError (by rw [hK]; exact xq1) (by rw [hm]; exact PySem.W.mg_of X G xa1) (by rw [hK]; exact xk1) (raises_own (by rw [hK]; exact xb1) (by rw [hK]; exact xt1)) hg hd⟩
    · exact ⟨C2, PySem.W.mg_of X G xa2, fun Y hK hm hg hd p m j p2 pos => pmk_own PySem.F.excBase_ValueError (by rw [hK]; exact xq2) (by rw [hm]; exact PySem.W.mg_of X G xa2) (by rw [hK]; exact xk2) (raises_own (by rw [hK]; exact xb2) (by rw [hK]; exact xt2)) hg hd⟩
  · exact nomatch (show none = some E from hx)
theorem walk {l : PySem.W.OpenLaw} {q : Program} {loose : List Str} {XP : (Str → Option Value) → Heap → Prop} {YP : World → Heap → Prop} {d : DefRec} {K : Params → PySem.W.Frag} (hn : l.most = some 63) (hdf : d.params.defaults = [])
    (hY : ∀ (w : World) (h : Heap), YP w h → (K w.params).In h)
    (F : ∀ (w : World) (mg : Str → Option Value) (fa : Addr) (h : Heap), (K w.params).In h → h.Ns mainGlobals mg → mg d.name = some (.ref fa) → prg.At (K w.params) mg ∧ ∃ fd, mg "law" = some (.ref fa) ∧ L2.Fun (K w.params) "law" "law" (sT 26) fa fd) :
    PySem.W.WalkO q loose XP YP l.row.toRowW d [] (fun f vs => PySem.call f vs) :=
  EvG.walkX (m := 63) (n := 8) (x := "_law_script") (wish := fun w => spLaw (K w.params)) hn (by decide) hdf ⟨rfl, by decide, by decide⟩ hY
    (fun w mg fa h KX G hmg => by
      obtain ⟨at_, fd, h1, h2⟩ := F w mg fa h KX G hmg
      have bd := h2.binds (ok.bd 26 "law" rfl)
      refine ⟨fd, fun s u => ?_, fun base _ _ => law_ok ok at_ (k := 7) (j := 26) rfl rfl h1 rfl law_true h2⟩
      obtain ⟨oc, od, kV, doc, pm, an, cdv, ct, osl, rfl, _, _⟩ := h2.ex
      exact .of_eq rfl)
    (fun w H a ns hl hb _ hS => ⟨a, ns, rfl, hS, hl, hb, fun _ => rfl⟩)
theorem close {K : PySem.W.Frag} {mg : Str → Option Value} {fa f : Addr} (hmg : mg "law" = some (.ref fa)) (h : prg.At K mg ∧ ∃ fd, mg "law" = some (.ref f) ∧ L2.Fun K "law" "law" (sT 26) f fd) : prg.At K mg ∧ ∃ fd, mg "law" = some (.ref fa) ∧ L2.Fun K "law" "law" (sT 26) fa fd := by
  obtain ⟨h1, fd, h2, h3⟩ := h
  rw [hmg] at h2
  cases h2
  exact ⟨h1, fd, hmg, h3⟩
end C85
open PySem PySem.W PyProof.Rows
set_option maxRecDepth 100000 in
set_option maxHeartbeats 0 in
set_option pp.maxSteps 300 in
theorem PySem.Challenge.cw_nearrows_k85_whole_told_apart_holds : PySem.Challenge.rw_nearrows_k85_whole_told_apart.Holds := by
  w_on; o_law; k_head; (case hw => w_witness2)
  k_fill
  refine C85.walk (l := PySem.Challenge.rw_nearrows_k85_whole_told_apart) rfl rfl (fun w h Y => PySem.W.kIn_of Y) ?F
  case F =>
    intro w mg fa h KX G hmg
    refine' C85.close hmg (C85.at_mk KX G ?eva0 ?evl0 ?evc0 ?evk0 ?eva1 ?evl1 ?evc1 ?evk1 ?eva2 ?evl2 ?evc2 ?evk2 ?eva3 ?evl3 ?evc3 ?evk3 ?eva4 ?evl4 ?evc4 ?evk4 ?eva5 ?evl5 ?evc5 ?evk5 ?eva6 ?evl6 ?evc6 ?evk6 ?eva7 ?evl7 ?evc7 ?evk7 ?eva8 ?evl8 ?evc8 ?evk8 ?eva9 ?evl9 ?evc9 ?evk9 ?eva10 ?evl10 ?evc10 ?evk10 ?eva11 ?evl11 ?evc11 ?evk11 ?eva12 ?evl12 ?evc12 ?evk12 ?eva13 ?evl13 ?evc13 ?evk13 ?eva14 ?evl14 ?evc14 ?evk14 ?eva15 ?evl15 ?evc15 ?evk15 ?eva16 ?evl16 ?evc16 ?evk16 ?eva17 ?evl17 ?evc17 ?evk17 ?eva18 ?evl18 ?evc18 ?evk18 ?eva19 ?evl19 ?evc19 ?evk19 ?eva20 ?evl20 ?evc20 ?evk20 ?eva21 ?evl21 ?evc21 ?evk21 ?eva22 ?evl22 ?evc22 ?evk22 ?eva23 ?evl23 ?evc23 ?evk23 ?eva24 ?evl24 ?evc24 ?evk24 ?eva25 ?evl25 ?evc25 ?evk25 ?eva26 ?evl26 ?evc26 ?evk26 ?evg0 ?evg1 ?evg2 ?evg3 ?evg4 ?evz0 ?evz1 ?evz2 ?evz3 ?evz4 ?evz5 ?evz6 ?evz7 ?evz8 ?evz9 ?evz10 ?evz11 ?evz12 ?evz13 ?evz14 ?evz15 ?evz16 ?evxa0 ?evxk0 ?evxq0 ?evxb0 ?evxt0 ?evxa1 ?evxk1 ?evxq1 ?evxb1 ?evxt1 ?evxa2 ?evxk2 ?evxq2 ?evxb2 ?evxt2)
    (case eva0 => k_is)
    (case evl0 => k_is)
    (case evc0 => k_is)
    (case evk0 => k_is)
    (case eva1 => k_is)
    (case evl1 => k_is)
    (case evc1 => k_is)
    (case evk1 => k_is)
    (case eva2 => k_is)
    (case evl2 => k_is)
    (case evc2 => k_is)
    (case evk2 => k_is)
    (case eva3 => k_is)
    (case evl3 => k_is)
    (case evc3 => k_is)
    (case evk3 => k_is)
    (case eva4 => k_is)
    (case evl4 => k_is)
    (case evc4 => k_is)
    (case evk4 => k_is)
    (case eva5 => k_is)
    (case evl5 => k_is)
    (case evc5 => k_is)
    (case evk5 => k_is)
    (case eva6 => k_is)
    (case evl6 => k_is)
    (case evc6 => k_is)
    (case evk6 => k_is)
    (case eva7 => k_is)
    (case evl7 => k_is)
    (case evc7 => k_is)
    (case evk7 => k_is)
    (case eva8 => k_is)
    (case evl8 => k_is)
    (case evc8 => k_is)
    (case evk8 => k_is)
    (case eva9 => k_is)
    (case evl9 => k_is)
    (case evc9 => k_is)
    (case evk9 => k_is)
    (case eva10 => k_is)
    (case evl10 => k_is)
    (case evc10 => k_is)
    (case evk10 => k_is)
    (case eva11 => k_is)
    (case evl11 => k_is)
    (case evc11 => k_is)
    (case evk11 => k_is)
    (case eva12 => k_is)
    (case evl12 => k_is)
    (case evc12 => k_is)
    (case evk12 => k_is)
    (case eva13 => k_is)
    (case evl13 => k_is)
    (case evc13 => k_is)
    (case evk13 => k_is)
    (case eva14 => k_is)
    (case evl14 => k_is)
    (case evc14 => k_is)
    (case evk14 => k_is)
    (case eva15 => k_is)
    (case evl15 => k_is)
    (case evc15 => k_is)
    (case evk15 => k_is)
    (case eva16 => k_is)
    (case evl16 => k_is)
    (case evc16 => k_is)
    (case evk16 => k_is)
    (case eva17 => k_is)
    (case evl17 => k_is)
    (case evc17 => k_is)
    (case evk17 => k_is)
    (case eva18 => k_is)
    (case evl18 => k_is)
    (case evc18 => k_is)
    (case evk18 => k_is)
    (case eva19 => k_is)
    (case evl19 => k_is)
    (case evc19 => k_is)
    (case evk19 => k_is)
    (case eva20 => k_is)
    (case evl20 => k_is)
    (case evc20 => k_is)
    (case evk20 => k_is)
    (case eva21 => k_is)
    (case evl21 => k_is)
    (case evc21 => k_is)
    (case evk21 => k_is)
    (case eva22 => k_is)
    (case evl22 => k_is)
    (case evc22 => k_is)
    (case evk22 => k_is)
    (case eva23 => k_is)
    (case evl23 => k_is)
    (case evc23 => k_is)
    (case evk23 => k_is)
    (case eva24 => k_is)
    (case evl24 => k_is)
    (case evc24 => k_is)
    (case evk24 => k_is)
    (case eva25 => k_is)
    (case evl25 => k_is)
    (case evc25 => k_is)
    (case evk25 => k_is)
    (case eva26 => k_is)
    (case evl26 => k_is)
    (case evc26 => k_is)
    (case evk26 => k_is)
    (case evg0 => k_is)
    (case evg1 => k_is)
    (case evg2 => k_is)
    (case evg3 => k_is)
    (case evg4 => k_is)
    (case evz0 => k_is)
    (case evz1 => k_is)
    (case evz2 => k_is)
    (case evz3 => k_is)
    (case evz4 => k_is)
    (case evz5 => k_is)
    (case evz6 => k_is)
    (case evz7 => k_is)
    (case evz8 => k_is)
    (case evz9 => k_is)
    (case evz10 => k_is)
    (case evz11 => k_is)
    (case evz12 => k_is)
    (case evz13 => k_is)
    (case evz14 => k_is)
    (case evz15 => k_is)
    (case evz16 => k_is)
    (case evxa0 => k_is)
    (case evxk0 => k_is)
    (case evxq0 => k_exc)
    (case evxb0 => k_is)
    (case evxt0 => k_is)
    (case evxa1 => k_is)
    (case evxk1 => k_is)
    (case evxq1 => k_exc)
    (case evxb1 => k_is)
    (case evxt1 => k_is)
    (case evxa2 => k_is)
    (case evxk2 => k_is)
    (case evxq2 => k_exc)
    (case evxb2 => k_is)
    (case evxt2 => k_is)

