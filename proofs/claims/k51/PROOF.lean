import PyProof.Rows.All
import Wide.All
import OpenK.AllK
import Wide.FinOn
import HandS.ForMost
import HandS.Exc
import HandS.TryOnly
import HandS.ExcOwn
import HandS.WordsExc
import HandS.CallSlots
import HandS.Walk
import HandS.Lambda
import HandS.Wide
import HandS.FStr
import HandS.IsInst
import HandS.TupAny
import HandS.Style
import HandS.Conv
import HandS.StrMore
import HandS.StrSplit
import KE.GoesMore
import PyProof.EnumMake
import PyProof.WalksEnum
import PyProof.Draws
import HandS.Zip
import KE.DatumIndex
import HandS.Deep
import HandS.RaiseMore
import HandS.WordsDict
import HandS.TupLen
import HandS.ForSpec
import KE.KExcInit
import HandS.ExcInit
import HandS.Small
import HandS.TryMany
import HandS.ReplaceLit
import HandS.EndTab
import KE.KNestM
import PySem.Challenge.RW_firmwide_k51_whole_great_frames_and_near
set_option Elab.async false
set_option linter.all false
set_option maxRecDepth 100000
set_option maxHeartbeats 4000000
/-! The M layer, 1: data, the mirror heap, how they stand in the abstract heap, expressions. -/
namespace FW
open PySem PySem.Spec PyProof.Rows L2

/-! ### data and the mirror heap -/
inductive D where
  | non | bl (b : Bool) | int (i : Int) | str (x : Str) | tup (xs : List D) | obj (i : Nat) | fz (xs : List D)
inductive Cell where
  | lst (xs : List D) | dK (kvs : List (Key × D)) | dT (kvs : List (List Key × D))
abbrev SS := List Cell
structure Exn where
  cls : Str
  pay : Option (Str × D)
inductive Res (α : Type) where
  | ok (a : α) (s : SS)
  | exc (x : Exn) (s : SS)
  | stk
def Res.wp {α : Type} (r : Res α) (P : α → SS → Prop) (E : Exn → SS → Prop) : Prop := match r with
  | .ok a s => P a s
  | .exc x s => E x s
  | .stk => False
def Res.bind {α β : Type} (r : Res α) (k : α → SS → Res β) : Res β := match r with
  | .ok a s => k a s
  | .exc x s => .exc x s
  | .stk => .stk
@[simp] theorem Res.bind_ok {α β : Type} (a : α) (s : SS) (k : α → SS → Res β) : (Res.ok a s).bind k = k a s := rfl
@[simp] theorem Res.bind_exc {α β : Type} (x : Exn) (s : SS) (k : α → SS → Res β) : (Res.exc x s : Res α).bind k = .exc x s := rfl
@[simp] theorem Res.bind_stk {α β : Type} (k : α → SS → Res β) : (Res.stk : Res α).bind k = .stk := rfl
theorem Res.wp_bind {α β : Type} {r : Res α} {k : α → SS → Res β} {P : β → SS → Prop} {E : Exn → SS → Prop} (h : (r.bind k).wp P E) : r.wp (fun a s => (k a s).wp P E) E := by
  cases r <;> exact h
theorem Res.wp.mono {α : Type} {r : Res α} {P P' : α → SS → Prop} {E E' : Exn → SS → Prop} (h : r.wp P E) (hP : ∀ a s, P a s → P' a s) (hE : ∀ x s, E x s → E' x s) : r.wp P' E' := by
  cases r with
  | ok a s => exact hP a s h
  | exc x s => exact hE x s h
  | stk => exact h

/-! ### how data stand in the abstract heap -/
/-- a list that nothing changes: frozen, or of the written part -/
def Pz (K : PySem.W.Frag) (H : Hp) (a : Addr) (xs : List V) : Prop := (∃ o, H a = some (.frz o (.lst xs))) ∨
  ∃ (o : Obj) (its : Array Value) (n : Nat), K.lookup a = some o ∧ o.cls = .type "list" ∧ o.dict = none ∧ o.data = .seq its n ∧ its.size ≤ sizeLine ∧ Vals xs its.toList
theorem Pz.sql {K : PySem.W.Frag} {H : Hp} {a : Addr} {xs : List V} (h : Pz K H a xs) : SqL K H a xs := by
  rcases h with h | h
  · exact .inl (.inr h)
  · exact .inr h
mutual
inductive Rp (K : PySem.W.Frag) (H : Hp) (ι : List Addr) : V → D → Prop
  | non : Rp K H ι .non .non
  | bl (b : Bool) : Rp K H ι (.bl b) (.bl b)
  | int (i : Int) : Rp K H ι (.int i) (.int i)
  | str (x : Str) : Rp K H ι (.str x) (.str x)
  | tup {a : Addr} {vs : List V} {ds : List D} : SqT K H a vs → RpA K H ι vs ds → Rp K H ι (.ref a) (.tup ds)
  | obj {i : Nat} {a : Addr} : ι[i]? = some a → Rp K H ι (.ref a) (.obj i)
  | fz {a : Addr} {vs : List V} {ds : List D} : Pz K H a vs → RpA K H ι vs ds → Rp K H ι (.ref a) (.fz ds)
inductive RpA (K : PySem.W.Frag) (H : Hp) (ι : List Addr) : List V → List D → Prop
  | nil : RpA K H ι [] []
  | cons {v : V} {vs : List V} {d : D} {ds : List D} : Rp K H ι v d → RpA K H ι vs ds → RpA K H ι (v :: vs) (d :: ds)
end
/-- no object but a table of code objects is known there -/
def NF (H : Hp) (a : Addr) : Prop := ∀ o, H a = some o → ∃ ps, o = .tbl ps
/-- what may change: the cells at ι, the tables of code objects; new cells were fresh -/
structure Tr (H : Hp) (ι : List Addr) (H' : Hp) (ι' : List Addr) : Prop where
  pre : ∃ more, ι' = ι ++ more
  new : ∀ a ∈ ι', a ∉ ι → NF H a
  keep : ∀ a o, H a = some o → a ∉ ι → (∀ ps, o ≠ .tbl ps) → H' a = some o
  keepT : ∀ a xs, H a = some (.tup xs) → H' a = some (.tup xs)
  keepF : ∀ a o u, H a = some (.frz o u) → H' a = some (.frz o u)
theorem Tr.refl {H : Hp} {ι : List Addr} : Tr H ι H ι := ⟨⟨[], by simp⟩, fun a h1 h2 => absurd h1 h2, fun _ _ h _ _ => h, fun _ _ h => h, fun _ _ _ h => h⟩
theorem Tr.sub {H H' : Hp} {ι ι' : List Addr} (t : Tr H ι H' ι') {a : Addr} (h : a ∈ ι) : a ∈ ι' := by
  obtain ⟨m, e⟩ := t.pre
  rw [e]
  exact List.mem_append_left _ h
theorem Tr.at {H H' : Hp} {ι ι' : List Addr} (t : Tr H ι H' ι') {i : Nat} {a : Addr} (h : ι[i]? = some a) : ι'[i]? = some a := by
  obtain ⟨m, e⟩ := t.pre
  rw [e, List.getElem?_append_left (List.getElem?_eq_some_iff.mp h).1]
  exact h
theorem NF.of_none {H : Hp} {a : Addr} (h : H a = none) : NF H a := fun o e => by rw [h] at e; cases e
theorem NF.ne {H : Hp} {a p : Addr} {o : HO} (hp : NF H p) (e : H a = some o) (n : ∀ ps, o ≠ .tbl ps) : a ≠ p := fun z => by
  obtain ⟨ps, q⟩ := hp o (z ▸ e)
  exact n ps q
/-- not taken behind the way: not taken before it -/
theorem Tr.nf {H H' : Hp} {ι ι' : List Addr} (t : Tr H ι H' ι') {p : Addr} (h : NF H' p) (hn : p ∉ ι) : NF H p := fun o e => by
  by_cases hb : ∃ ps, o = .tbl ps
  · exact hb
  · exact h o (t.keep p o e hn fun ps z => hb ⟨ps, z⟩)
theorem Tr.trans {H H1 H2 : Hp} {ι ι1 ι2 : List Addr} (t : Tr H ι H1 ι1) (u : Tr H1 ι1 H2 ι2) : Tr H ι H2 ι2 := by
  refine ⟨?_, fun a h1 h2 => ?_, fun a o h1 h2 h3 => ?_, fun a xs h => u.keepT _ _ (t.keepT _ _ h), fun a o x h => u.keepF _ _ _ (t.keepF _ _ _ h)⟩
  · obtain ⟨m, e⟩ := t.pre
    obtain ⟨m', e'⟩ := u.pre
    exact ⟨m ++ m', by rw [e', e, List.append_assoc]⟩
  · by_cases h : a ∈ ι1
    · exact t.new a h h2
    · exact t.nf (u.new a h1 h) h2
  · have k1 := t.keep a o h1 h2 h3
    refine u.keep a o k1 (fun h => ?_) h3
    obtain ⟨ps, e⟩ := t.new a h h2 o h1
    exact h3 ps e
theorem Tr.sqt {K : PySem.W.Frag} {H H' : Hp} {ι ι' : List Addr} (t : Tr H ι H' ι') {a : Addr} {xs : List V} (h : SqT K H a xs) : SqT K H' a xs := by
  rcases h with (h | ⟨o, h⟩) | h
  · exact .inl (.inl (t.keepT _ _ h))
  · exact .inl (.inr ⟨o, t.keepF _ _ _ h⟩)
  · exact .inr h
/-- a new object, no cell -/
theorem Tr.laid {H : Hp} {ι : List Addr} {p : Addr} {o : HO} (h : H p = none) : Tr H ι (upd H p o) ι :=
  ⟨⟨[], by simp⟩, fun a h1 h2 => absurd h1 h2, fun a u e _ _ => by rw [upd_ne (ne_of_none e h)]; exact e, fun a xs e => by rw [upd_ne (ne_of_none e h)]; exact e, fun a u x e => by rw [upd_ne (ne_of_none e h)]; exact e⟩
/-- a new object, a cell from now on -/
theorem Tr.cell {H : Hp} {ι : List Addr} {p : Addr} {o : HO} (h : H p = none) : Tr H ι (upd H p o) (ι ++ [p]) :=
  ⟨⟨[p], rfl⟩, fun a h1 h2 => by
      rcases List.mem_append.mp h1 with z | z
      · exact absurd z h2
      · rw [List.mem_singleton.mp z]; exact .of_none h,
    fun a u e _ _ => by rw [upd_ne (ne_of_none e h)]; exact e, fun a xs e => by rw [upd_ne (ne_of_none e h)]; exact e, fun a u x e => by rw [upd_ne (ne_of_none e h)]; exact e⟩
/-- what a cell may be -/
def IsC : Option HO → Prop
  | some (.lst _) => True
  | some (.dK _) => True
  | some (.dT _) => True
  | _ => False
/-- a cell written -/
theorem Tr.write {H : Hp} {ι : List Addr} {p : Addr} {o : HO} (hp : p ∈ ι) (hm : IsC (H p)) : Tr H ι (upd H p o) ι := by
  have ne : ∀ a u, H a = some u → ¬ IsC (some u) → a ≠ p := fun a u e n z => by rw [← z, e] at hm; exact n hm
  exact ⟨⟨[], by simp⟩, fun a h1 h2 => absurd h1 h2, fun a u e h2 _ => by rw [upd_ne (fun z => h2 (by rw [z]; exact hp))]; exact e, fun a xs e => by rw [upd_ne (ne a _ e (fun z => z))]; exact e,
    fun a u x e => by rw [upd_ne (ne a _ e (fun z => z))]; exact e⟩

/-- as much as data lean on -/
structure Lk (H : Hp) (ι : List Addr) (H' : Hp) (ι' : List Addr) : Prop where
  pre : ∃ more, ι' = ι ++ more
  keepT : ∀ a xs, H a = some (.tup xs) → H' a = some (.tup xs)
  keepF : ∀ a o u, H a = some (.frz o u) → H' a = some (.frz o u)
theorem Tr.lk {H H' : Hp} {ι ι' : List Addr} (t : Tr H ι H' ι') : Lk H ι H' ι' := ⟨t.pre, t.keepT, t.keepF⟩
theorem Lk.grow {H : Hp} {ι : List Addr} {p : Addr} : Lk H ι H (ι ++ [p]) := ⟨⟨[p], rfl⟩, fun _ _ h => h, fun _ _ _ h => h⟩
theorem Lk.at {H H' : Hp} {ι ι' : List Addr} (t : Lk H ι H' ι') {i : Nat} {a : Addr} (h : ι[i]? = some a) : ι'[i]? = some a := by
  obtain ⟨m, e⟩ := t.pre
  rw [e, List.getElem?_append_left (List.getElem?_eq_some_iff.mp h).1]
  exact h
theorem Lk.sqt {K : PySem.W.Frag} {H H' : Hp} {ι ι' : List Addr} (t : Lk H ι H' ι') {a : Addr} {xs : List V} (h : SqT K H a xs) : SqT K H' a xs := by
  rcases h with (h | ⟨o, h⟩) | h
  · exact .inl (.inl (t.keepT _ _ h))
  · exact .inl (.inr ⟨o, t.keepF _ _ _ h⟩)
  · exact .inr h
theorem Lk.pz {K : PySem.W.Frag} {H H' : Hp} {ι ι' : List Addr} (t : Lk H ι H' ι') {a : Addr} {xs : List V} (h : Pz K H a xs) : Pz K H' a xs := by
  rcases h with ⟨o, h⟩ | h
  · exact .inl ⟨o, t.keepF _ _ _ h⟩
  · exact .inr h
theorem Tr.grow {H H' : Hp} {ι ι' : List Addr} {p : Addr} (t : Tr H ι H' ι') (hp : NF H p) : Tr H ι H' (ι' ++ [p]) := by
  refine ⟨?_, fun a h1 h2 => ?_, t.keep, t.keepT, t.keepF⟩
  · obtain ⟨m, e⟩ := t.pre
    exact ⟨m ++ [p], by rw [e, List.append_assoc]⟩
  · rcases List.mem_append.mp h1 with z | z
    · exact t.new a z h2
    · rw [List.mem_singleton.mp z]; exact hp
mutual
theorem Rp.le {K : PySem.W.Frag} {H H' : Hp} {ι ι' : List Addr} (t : Lk H ι H' ι') : ∀ (d : D) {v : V}, Rp K H ι v d → Rp K H' ι' v d
  | .non, _, h => by cases h; exact .non
  | .bl b, _, h => by cases h; exact .bl b
  | .int i, _, h => by cases h; exact .int i
  | .str x, _, h => by cases h; exact .str x
  | .tup ds, _, h => by
    cases h with
    | tup h1 h2 => exact .tup (t.sqt h1) (RpA.le t ds h2)
  | .obj i, _, h => by
    cases h with
    | obj h1 => exact .obj (t.at h1)
  | .fz ds, _, h => by
    cases h with
    | fz h1 h2 => exact .fz (t.pz h1) (RpA.le t ds h2)
theorem RpA.le {K : PySem.W.Frag} {H H' : Hp} {ι ι' : List Addr} (t : Lk H ι H' ι') : ∀ (ds : List D) {vs : List V}, RpA K H ι vs ds → RpA K H' ι' vs ds
  | [], _, h => by cases h; exact .nil
  | d :: ds, _, h => by
    cases h with
    | cons h1 h2 => exact .cons (Rp.le t d h1) (RpA.le t ds h2)
end
theorem Rp.mono {K : PySem.W.Frag} {H H' : Hp} {ι ι' : List Addr} (t : Tr H ι H' ι') (d : D) {v : V} (h : Rp K H ι v d) : Rp K H' ι' v d := Rp.le t.lk d h
theorem RpA.mono {K : PySem.W.Frag} {H H' : Hp} {ι ι' : List Addr} (t : Tr H ι H' ι') (ds : List D) {vs : List V} (h : RpA K H ι vs ds) : RpA K H' ι' vs ds := RpA.le t.lk ds h
section
variable {K : PySem.W.Frag} {H : Hp} {ι : List Addr}
theorem RpA.length : ∀ {vs : List V} {ds : List D}, RpA K H ι vs ds → vs.length = ds.length
  | _, _, .nil => rfl
  | _, _, .cons _ h => by rw [List.length_cons, List.length_cons, h.length]
theorem RpA.get : ∀ {vs : List V} {ds : List D} {i : Nat} {d : D}, RpA K H ι vs ds → ds[i]? = some d → ∃ v, vs[i]? = some v ∧ Rp K H ι v d
  | _, _, _, _, .nil, e => by simp at e
  | _, _, 0, _, .cons r _, e => by simp at e; subst e; exact ⟨_, rfl, r⟩
  | _, _, i + 1, d, .cons _ h, e => by
    obtain ⟨v, h1, h2⟩ := RpA.get (i := i) (d := d) h (by simpa using e)
    exact ⟨v, by simpa using h1, h2⟩
theorem RpA.getV : ∀ {vs : List V} {ds : List D} {i : Nat} {v : V}, RpA K H ι vs ds → vs[i]? = some v → ∃ d, ds[i]? = some d ∧ Rp K H ι v d
  | _, _, _, _, .nil, e => by simp at e
  | _, _, 0, _, .cons r _, e => by simp at e; subst e; exact ⟨_, rfl, r⟩
  | _, _, i + 1, v, .cons _ h, e => by
    obtain ⟨d, h1, h2⟩ := RpA.getV (i := i) (v := v) h (by simpa using e)
    exact ⟨d, by simpa using h1, h2⟩
theorem RpA.append : ∀ {vs ws : List V} {ds es : List D}, RpA K H ι vs ds → RpA K H ι ws es → RpA K H ι (vs ++ ws) (ds ++ es)
  | _, _, _, _, .nil, h => h
  | _, _, _, _, .cons r h, h' => .cons r (h.append h')
theorem RpA.take : ∀ {vs : List V} {ds : List D} (n : Nat), RpA K H ι vs ds → RpA K H ι (vs.take n) (ds.take n)
  | _, _, 0, _ => .nil
  | _, _, _ + 1, .nil => .nil
  | _, _, n + 1, .cons r h => .cons r (h.take n)
theorem RpA.drop : ∀ {vs : List V} {ds : List D} (n : Nat), RpA K H ι vs ds → RpA K H ι (vs.drop n) (ds.drop n)
  | _, _, 0, h => h
  | _, _, _ + 1, .nil => .nil
  | _, _, n + 1, .cons _ h => h.drop n
theorem RpA.set : ∀ {vs : List V} {ds : List D} {v : V} {d : D} (n : Nat), Rp K H ι v d → RpA K H ι vs ds → RpA K H ι (vs.set n v) (ds.set n d)
  | _, _, _, _, _, _, .nil => .nil
  | _, _, _, _, 0, r, .cons _ h => .cons r h
  | _, _, _, _, n + 1, r, .cons q h => .cons q (h.set n r)
theorem RpA.reverse : ∀ {vs : List V} {ds : List D}, RpA K H ι vs ds → RpA K H ι vs.reverse ds.reverse
  | _, _, .nil => .nil
  | _, _, .cons r h => by
    rw [List.reverse_cons, List.reverse_cons]
    exact h.reverse.append (.cons r .nil)
theorem RpA.eraseIdx : ∀ {vs : List V} {ds : List D} (n : Nat), RpA K H ι vs ds → RpA K H ι (vs.eraseIdx n) (ds.eraseIdx n)
  | _, _, _, .nil => .nil
  | _, _, 0, .cons _ h => h
  | _, _, n + 1, .cons r h => .cons r (h.eraseIdx n)
end
/-- keys stand by themselves, values are data -/
def RpK {κ : Type} (K : PySem.W.Frag) (H : Hp) (ι : List Addr) : List (κ × V) → List (κ × D) → Prop := Paired fun p q => p.1 = q.1 ∧ Rp K H ι p.2 q.2
theorem RpK.le {κ : Type} {K : PySem.W.Frag} {H H' : Hp} {ι ι' : List Addr} (t : Lk H ι H' ι') {ws : List (κ × V)} {kvs : List (κ × D)} (h : RpK K H ι ws kvs) : RpK K H' ι' ws kvs :=
  Paired.mapP h fun _ q z => ⟨z.1, Rp.le t q.2 z.2⟩
theorem RpK.mono {κ : Type} {K : PySem.W.Frag} {H H' : Hp} {ι ι' : List Addr} (t : Tr H ι H' ι') {ws : List (κ × V)} {kvs : List (κ × D)} (h : RpK K H ι ws kvs) : RpK K H' ι' ws kvs := h.le t.lk
def CellOk (K : PySem.W.Frag) (H : Hp) (ι : List Addr) (a : Addr) : Cell → Prop
  | .lst ds => ∃ vs, H a = some (.lst vs) ∧ RpA K H ι vs ds
  | .dK kvs => ∃ ws, H a = some (.dK ws) ∧ RpK K H ι ws kvs
  | .dT kvs => ∃ ws, H a = some (.dT ws) ∧ RpK K H ι ws kvs
theorem CellOk.mut {K : PySem.W.Frag} {H : Hp} {ι : List Addr} {a : Addr} {c : Cell} (h : CellOk K H ι a c) : IsC (H a) := by
  cases c with
  | lst ds => obtain ⟨_, e, _⟩ := h; rw [e]; trivial
  | dK kvs => obtain ⟨_, e, _⟩ := h; rw [e]; trivial
  | dT kvs => obtain ⟨_, e, _⟩ := h; rw [e]; trivial
/-- the cell's own object as it was, the rest by Lk -/
theorem CellOk.le {K : PySem.W.Frag} {H H' : Hp} {ι ι' : List Addr} (t : Lk H ι H' ι') {a : Addr} {c : Cell} (e : H' a = H a) (h : CellOk K H ι a c) : CellOk K H' ι' a c := by
  cases c with
  | lst ds => obtain ⟨vs, e1, h1⟩ := h; exact ⟨vs, e.trans e1, RpA.le t _ h1⟩
  | dK kvs => obtain ⟨vs, e1, h1⟩ := h; exact ⟨vs, e.trans e1, h1.le t⟩
  | dT kvs => obtain ⟨vs, e1, h1⟩ := h; exact ⟨vs, e.trans e1, h1.le t⟩
theorem CellOk.mono {K : PySem.W.Frag} {H H' : Hp} {ι ι' : List Addr} (t : Tr H ι H' ι') {a : Addr} {c : Cell} (e : H' a = H a) (h : CellOk K H ι a c) : CellOk K H' ι' a c := h.le t.lk e

/-- what is the same through a law: the written part, the tables of code objects, the addresses of the exceptions' classes -/
structure Gx where
  K : PySem.W.Frag
  T : List (Addr × Str)
  C : Str → Option Addr
structure HR (G : Gx) (H : Hp) (ι : List Addr) (S : SS) : Prop where
  len : ι.length = S.length
  nd : ι.Nodup
  cell : ∀ (i : Nat) c a, S[i]? = some c → ι[i]? = some a → CellOk G.K H ι a c
  tabs : LamX.Tabs G.T H
section
variable {G : Gx} {H H' : Hp} {ι ι' : List Addr} {S : SS}
theorem HR.addr (h : HR G H ι S) {i : Nat} {c : Cell} (e : S[i]? = some c) : ∃ a, ι[i]? = some a ∧ a ∈ ι ∧ CellOk G.K H ι a c := by
  have hi : i < ι.length := by rw [h.len]; exact (List.getElem?_eq_some_iff.mp e).1
  exact ⟨ι[i], List.getElem?_eq_getElem hi, List.getElem_mem hi, h.cell i c _ e (List.getElem?_eq_getElem hi)⟩
theorem HR.mutOf (h : HR G H ι S) {a : Addr} (ha : a ∈ ι) : IsC (H a) := by
  obtain ⟨i, hi, e⟩ := List.getElem_of_mem ha
  have hs : i < S.length := by rw [← h.len]; exact hi
  exact (h.cell i S[i] a (List.getElem?_eq_getElem hs) (by rw [List.getElem?_eq_getElem hi, e])).mut
theorem HR.out (h : HR G H ι S) {p : Addr} (hp : H p = none) : p ∉ ι := fun z => by
  have := h.mutOf z
  rw [hp] at this
  exact this
/-- a new object beside the cells -/
theorem HR.laid (h : HR G H ι S) {p : Addr} {o : HO} (hp : H p = none) : HR G (upd H p o) ι S :=
  ⟨h.len, h.nd, fun i c a e1 e2 => (h.cell i c a e1 e2).mono (Tr.laid hp) (upd_ne fun z => h.out hp (z ▸ (List.mem_of_getElem? e2))), h.tabs.ext fun b u e => by rw [upd_ne (ne_of_none e hp)]; exact e⟩
/-- a new cell -/
theorem HR.add (h : HR G H ι S) {p : Addr} {o : HO} {c : Cell} (hp : H p = none) (hc : CellOk G.K (upd H p o) (ι ++ [p]) p c) : HR G (upd H p o) (ι ++ [p]) (S ++ [c]) := by
  refine ⟨by simp [h.len], ?_, fun i c' a e1 e2 => ?_, h.tabs.ext fun b u e => by rw [upd_ne (ne_of_none e hp)]; exact e⟩
  · rw [List.nodup_append]
    exact ⟨h.nd, by simp, fun a ha b hb => by rw [List.mem_singleton.mp hb]; exact fun z => h.out hp (z ▸ ha)⟩
  · by_cases hi : i < S.length
    · rw [List.getElem?_append_left hi] at e1
      rw [List.getElem?_append_left (by rw [h.len]; exact hi)] at e2
      exact (h.cell i c' a e1 e2).mono (Tr.cell hp) (upd_ne fun z => h.out hp (z ▸ (List.mem_of_getElem? e2)))
    · have e : i = S.length := by
        have := (List.getElem?_eq_some_iff.mp e1).1
        simp at this
        omega
      subst e
      rw [List.getElem?_append_right (Nat.le_refl _)] at e1
      rw [← h.len, List.getElem?_append_right (Nat.le_refl _)] at e2
      simp at e1 e2
      rw [← e1, ← e2]
      exact hc
/-- an object that stands, made a cell -/
theorem HR.take (h : HR G H ι S) {p : Addr} {c : Cell} (hp : p ∉ ι) (hc : CellOk G.K H (ι ++ [p]) p c) : HR G H (ι ++ [p]) (S ++ [c]) := by
  refine ⟨by simp [h.len], ?_, fun i c' a e1 e2 => ?_, h.tabs⟩
  · rw [List.nodup_append]
    exact ⟨h.nd, by simp, fun a ha b hb => by rw [List.mem_singleton.mp hb]; exact fun z => hp (z ▸ ha)⟩
  · by_cases hi : i < S.length
    · rw [List.getElem?_append_left hi] at e1
      rw [List.getElem?_append_left (by rw [h.len]; exact hi)] at e2
      exact (h.cell i c' a e1 e2).le Lk.grow rfl
    · have e : i = S.length := by
        have := (List.getElem?_eq_some_iff.mp e1).1
        simp at this
        omega
      subst e
      rw [List.getElem?_append_right (Nat.le_refl _)] at e1
      rw [← h.len, List.getElem?_append_right (Nat.le_refl _)] at e2
      simp at e1 e2
      rw [← e1, ← e2]
      exact hc
/-- a cell written -/
theorem HR.write (h : HR G H ι S) {i : Nat} {p : Addr} {o : HO} {c : Cell} (hi : ι[i]? = some p) (hc : CellOk G.K (upd H p o) ι p c) : HR G (upd H p o) ι (S.set i c) := by
  have hp : p ∈ ι := List.mem_of_getElem? hi
  have hm := h.mutOf hp
  have t : Tr H ι (upd H p o) ι := Tr.write hp hm
  have hl : i < ι.length := (List.getElem?_eq_some_iff.mp hi).1
  refine ⟨by rw [List.length_set]; exact h.len, h.nd, fun j c' a e1 e2 => ?_, fun q hq => ?_⟩
  · by_cases hj : i = j
    · subst hj
      rw [List.getElem?_set_self (by rw [← h.len]; exact hl)] at e1
      rw [hi] at e2
      cases e1
      cases e2
      exact hc
    · rw [List.getElem?_set_ne hj] at e1
      refine (h.cell j c' a e1 e2).mono t (upd_ne fun z => ?_)
      subst z
      have h1 := (List.getElem?_eq_some_iff.mp hi)
      have h2 := (List.getElem?_eq_some_iff.mp e2)
      obtain ⟨w1, q1⟩ := h1
      obtain ⟨w2, q2⟩ := h2
      exact hj ((List.getElem_inj h.nd).mp (q1.trans q2.symm))
  · obtain ⟨ps, h1, h2, h3⟩ := h.tabs q hq
    have n1 : q.1 ≠ p := fun z => by rw [← z, h1] at hm; exact hm
    refine ⟨ps, by rw [upd_ne n1]; exact h1, h2, fun pos cv e => ?_⟩
    obtain ⟨c0, a1, a2⟩ := h3 pos cv e
    refine ⟨c0, a1, ?_⟩
    have n2 : c0 ≠ p := fun z => by
      rw [← z, a2] at hm
      exact hm
    rw [upd_ne n2]
    exact a2
end
end FW

set_option Elab.async false
set_option linter.all false
set_option maxRecDepth 100000
set_option maxHeartbeats 4000000
/-! The M layer, 2: judgements; expressions. -/
namespace FW
open PySem PySem.Spec L2

abbrev En := List (Option D)
abbrev ME := En → SS → Res D
abbrev MT := En → SS → Res Bool
abbrev MA := En → SS → Res (List D)
/-- the slots -/
structure RE (K : PySem.W.Frag) (H : Hp) (ι : List Addr) (σ : St) (env : En) : Prop where
  len : σ.length = env.length
  get : ∀ (i : Nat) d, env[i]? = some (some d) → ∃ v, σ[i]? = some (some v) ∧ Rp K H ι v d
section
variable {K : PySem.W.Frag} {H H' : Hp} {ι ι' : List Addr} {σ : St} {env : En}
theorem RE.mono (r : RE K H ι σ env) (t : Tr H ι H' ι') : RE K H' ι' σ env := ⟨r.len, fun i d e => by
  obtain ⟨v, h1, h2⟩ := r.get i d e
  exact ⟨v, h1, Rp.mono t d h2⟩⟩
theorem RE.set (r : RE K H ι σ env) {i : Nat} {v : V} {d : D} (h : Rp K H ι v d) : RE K H ι (σ.set i (some v)) (env.set i (some d)) := by
  refine ⟨by rw [List.length_set, List.length_set]; exact r.len, fun j e hj => ?_⟩
  by_cases hij : i = j
  · subst hij
    have hl : i < env.length := by
      have := (List.getElem?_eq_some_iff.mp hj).1
      rwa [List.length_set] at this
    rw [List.getElem?_set_self hl] at hj
    have e2 : d = e := by
      have := Option.some.inj hj
      exact Option.some.inj this
    subst e2
    exact ⟨v, by rw [List.getElem?_set_self (by rw [r.len]; exact hl)], h⟩
  · rw [List.getElem?_set_ne hij] at hj
    rw [List.getElem?_set_ne hij]
    exact r.get j e hj
theorem RE.unset (r : RE K H ι σ env) (i : Nat) : RE K H ι (σ.set i none) (env.set i none) := by
  refine ⟨by rw [List.length_set, List.length_set]; exact r.len, fun j e hj => ?_⟩
  by_cases hij : i = j
  · subst hij
    have hl : i < env.length := by
      have := (List.getElem?_eq_some_iff.mp hj).1
      rwa [List.length_set] at this
    rw [List.getElem?_set_self hl] at hj
    cases hj
  · rw [List.getElem?_set_ne hij] at hj
    rw [List.getElem?_set_ne hij]
    exact r.get j e hj
end
def XRp (G : Gx) (H : Hp) (ι : List Addr) (x : Exn) (cls : Value) (dd : Option Addr) : Prop :=
  ∃ c, G.C x.cls = some c ∧ cls = .ref c ∧ match x.pay with
    | none => dd = none
    | some (f, d) => ∃ a v, dd = some a ∧ H a = some (.xd [(f, v)]) ∧ a ∉ ι ∧ Rp G.K H ι v d
abbrev PostE (G : Gx) (H : Hp) (ι : List Addr) (Q : VK) : D → SS → Prop := fun d S' => ∀ v H' ι', Tr H ι H' ι' → HR G H' ι' S' → Rp G.K H' ι' v d → Q v H'
abbrev PostB (G : Gx) (H : Hp) (ι : List Addr) (Q : Bool → Hp → Prop) : Bool → SS → Prop := fun b S' => ∀ H' ι', Tr H ι H' ι' → HR G H' ι' S' → Q b H'
abbrev PostA (G : Gx) (H : Hp) (ι : List Addr) (Q : List V → Hp → Prop) : List D → SS → Prop := fun ds S' => ∀ vs H' ι', Tr H ι H' ι' → HR G H' ι' S' → RpA G.K H' ι' vs ds → Q vs H'
/-- a new list that is no cell (yet) -/
abbrev PostL (G : Gx) (H : Hp) (ι : List Addr) (Q : VK) : List D → SS → Prop := fun ds S' => ∀ p vs H' ι', Tr H ι H' ι' → HR G H' ι' S' → NF H p → p ∉ ι' → H' p = some (.lst vs) → RpA G.K H' ι' vs ds → Q (.ref p) H'
abbrev PostX (G : Gx) (H : Hp) (ι : List Addr) (W : WX) (σ : St) : Exn → SS → Prop := fun x S' => ∀ cls dd H' ι', Tr H ι H' ι' → HR G H' ι' S' → XRp G H' ι' x cls dd → W cls dd σ H'
section
variable {G : Gx} {H H1 : Hp} {ι ι1 : List Addr} {S : SS}
theorem PostE.mono {Q : VK} {d : D} (t : Tr H ι H1 ι1) (h : PostE G H ι Q d S) : PostE G H1 ι1 Q d S := fun v H' ι' u => h v H' ι' (t.trans u)
theorem PostB.mono {Q : Bool → Hp → Prop} {d : Bool} (t : Tr H ι H1 ι1) (h : PostB G H ι Q d S) : PostB G H1 ι1 Q d S := fun H' ι' u => h H' ι' (t.trans u)
theorem PostA.mono {Q : List V → Hp → Prop} {d : List D} (t : Tr H ι H1 ι1) (h : PostA G H ι Q d S) : PostA G H1 ι1 Q d S := fun v H' ι' u => h v H' ι' (t.trans u)
theorem PostL.mono {Q : VK} {d : List D} (t : Tr H ι H1 ι1) (hm : HR G H ι S1) (h : PostL G H ι Q d S) : PostL G H1 ι1 Q d S := fun p vs H' ι' u hr hp hn => h p vs H' ι' (t.trans u) hr (t.nf hp fun z => hn (u.sub (t.sub z))) hn
theorem PostX.mono {W : WX} {σ : St} {x : Exn} (t : Tr H ι H1 ι1) (h : PostX G H ι W σ x S) : PostX G H1 ι1 W σ x S := fun c dd H' ι' u => h c dd H' ι' (t.trans u)
end
def EM (G : Gx) (W : WX) (te : TE) (m : ME) : Prop := ∀ (σ : St) (H : Hp) (ι : List Addr) (S : SS) (env : En) (Q : VK), HR G H ι S → RE G.K H ι σ env → (m env S).wp (PostE G H ι Q) (PostX G H ι W σ) → te σ H Q
def TM (G : Gx) (W : WX) (tt : TT) (m : MT) : Prop := ∀ (σ : St) (H : Hp) (ι : List Addr) (S : SS) (env : En) (Q : Bool → Hp → Prop), HR G H ι S → RE G.K H ι σ env → (m env S).wp (PostB G H ι Q) (PostX G H ι W σ) → tt σ H Q
def AM (G : Gx) (W : WX) (ta : TA) (m : MA) : Prop := ∀ (σ : St) (H : Hp) (ι : List Addr) (S : SS) (env : En) (Q : List V → Hp → Prop), HR G H ι S → RE G.K H ι σ env → (m env S).wp (PostA G H ι Q) (PostX G H ι W σ) → ta σ H Q
def LM (G : Gx) (W : WX) (te : TE) (m : MA) : Prop := ∀ (σ : St) (H : Hp) (ι : List Addr) (S : SS) (env : En) (Q : VK), HR G H ι S → RE G.K H ι σ env → (m env S).wp (PostL G H ι Q) (PostX G H ι W σ) → te σ H Q
/-- derivation and meaning -/
def XE (X : Cx) (G : Gx) (W : WX) (e : Expr) (m : ME) : Prop := ∃ te, PE X e te ∧ EM G W te m
def XT (X : Cx) (G : Gx) (W : WX) (e : Expr) (m : MT) : Prop := ∃ tt, PT X e tt ∧ TM G W tt m
def XW (X : Cx) (G : Gx) (W : WX) (e : Expr) (m : MT) : Prop := ∃ tt, PW X e tt ∧ TM G W tt m
def XA (X : Cx) (G : Gx) (W : WX) (es : List Expr) (m : MA) : Prop := ∃ ta, PA X es ta ∧ AM G W ta m
def XL (X : Cx) (G : Gx) (W : WX) (e : Expr) (m : MA) : Prop := ∃ te, PE X e te ∧ LM G W te m

/-! ### combinators -/
def mVar (i : Nat) : ME := fun env S => match env[i]? with
  | some (some d) => .ok d S
  | _ => .stk
def mC (d : D) : ME := fun _ S => .ok d S
def mOp2 (f : D → D → SS → Res D) (a b : ME) : ME := fun env S => (a env S).bind fun x S1 => (b env S1).bind fun y S2 => f x y S2
def mOp1 (f : D → SS → Res D) (a : ME) : ME := fun env S => (a env S).bind fun x S1 => f x S1
def mNil : MA := fun _ S => .ok [] S
def mCons (a : ME) (r : MA) : MA := fun env S => (a env S).bind fun x S1 => (r env S1).bind fun xs S2 => .ok (x :: xs) S2
def mOpA (f : List D → SS → Res D) (a : MA) : ME := fun env S => (a env S).bind fun xs S1 => f xs S1
def mTup (a : MA) : ME := fun env S => (a env S).bind fun xs S1 => if xs.length ≤ 1000000 then .ok (.tup xs) S1 else .stk
/-- a new list, made a cell -/
def mNew (a : MA) : ME := fun env S => (a env S).bind fun xs S1 => .ok (.obj S1.length) (S1 ++ [.lst xs])
def mTst (a : ME) : MT := fun env S => (a env S).bind fun x S1 => match x with
  | .bl b => .ok b S1
  | _ => .stk
def mAnd (a b : MT) : MT := fun env S => (a env S).bind fun x S1 => if x = true then b env S1 else .ok false S1
def mOr (a b : MT) : MT := fun env S => (a env S).bind fun x S1 => if x = true then .ok true S1 else b env S1
def mNot (a : MT) : MT := fun env S => (a env S).bind fun x S1 => .ok (!x) S1
def mIf (c : MT) (a b : ME) : ME := fun env S => (c env S).bind fun x S1 => if x = true then a env S1 else b env S1
/-- and, or of truth values, as a value -/
def mAndV (a b : ME) : ME := fun env S => (a env S).bind fun x S1 => match x with
  | .bl true => b env S1
  | .bl false => .ok (.bl false) S1
  | _ => .stk
def mOrV (a b : ME) : ME := fun env S => (a env S).bind fun x S1 => match x with
  | .bl true => .ok (.bl true) S1
  | .bl false => b env S1
  | _ => .stk
def mNotV (a : ME) : ME := fun env S => (a env S).bind fun x S1 => match x with
  | .bl b => .ok (.bl (!b)) S1
  | _ => .stk

/-! ### what an operation on values does to data -/
def Op2 (G : Gx) (r : R2) (f : D → D → SS → Res D) : Prop := ∀ {H : Hp} {ι : List Addr} {S : SS} {x y : V} {d e : D} {Q : VK} {E : Exn → SS → Prop}, HR G H ι S → Rp G.K H ι x d → Rp G.K H ι y e → (f d e S).wp (PostE G H ι Q) E → r x y H Q
def Op1 (G : Gx) (r : V → Hp → VK → Prop) (f : D → SS → Res D) : Prop := ∀ {H : Hp} {ι : List Addr} {S : SS} {x : V} {d : D} {Q : VK} {E : Exn → SS → Prop}, HR G H ι S → Rp G.K H ι x d → (f d S).wp (PostE G H ι Q) E → r x H Q
def OpA (G : Gx) (r : List V → Hp → VK → Prop) (f : List D → SS → Res D) : Prop := ∀ {H : Hp} {ι : List Addr} {S : SS} {xs : List V} {ds : List D} {Q : VK} {E : Exn → SS → Prop}, HR G H ι S → RpA G.K H ι xs ds → (f ds S).wp (PostE G H ι Q) E → r xs H Q
/-- a method: the receiver's type is asked first -/
def OpM (G : Gx) (T : String) (r : V → List V → Hp → VK → Prop) (f : D → List D → SS → Res D) : Prop := ∀ {H : Hp} {ι : List Addr} {S : SS} {x : V} {d : D} {xs : List V} {ds : List D} {Q : VK} {E : Exn → SS → Prop}, HR G H ι S → Rp G.K H ι x d → RpA G.K H ι xs ds → (f d ds S).wp (PostE G H ι Q) E → r x xs H Q

section
variable {X : Cx} {G : Gx} {W : WX} {a b c e : Expr} {es : List Expr} {pos : Pos} {ma mb : ME} {mc mt mu : MT} {mr : MA}

/-- the workhorse: one part, then the rest -/
theorem em_step {te : TE} {m : ME} {σ : St} {H : Hp} {ι : List Addr} {S : SS} {env : En} {β : Type} {k : D → SS → Res β} {P : β → SS → Prop} {E : Exn → SS → Prop} {Q : VK} (he : EM G W te m) (hr : HR G H ι S) (re : RE G.K H ι σ env)
    (hE : ∀ x s, E x s → PostX G H ι W σ x s) (h : ((m env S).bind k).wp P E) (hk : ∀ d S1 v H1 ι1, Tr H ι H1 ι1 → HR G H1 ι1 S1 → Rp G.K H1 ι1 v d → (∀ x s, E x s → PostX G H1 ι1 W σ x s) → (k d S1).wp P E → Q v H1) : te σ H Q :=
  he σ H ι S env Q hr re ((Res.wp_bind h).mono (fun d S1 q v H1 ι1 t h1 r1 => hk d S1 v H1 ι1 t h1 r1 (fun x s z => PostX.mono t (hE x s z)) q) hE)
theorem tm_step {tt : TT} {m : MT} {σ : St} {H : Hp} {ι : List Addr} {S : SS} {env : En} {β : Type} {k : Bool → SS → Res β} {P : β → SS → Prop} {E : Exn → SS → Prop} {Q : Bool → Hp → Prop} (he : TM G W tt m) (hr : HR G H ι S) (re : RE G.K H ι σ env)
    (hE : ∀ x s, E x s → PostX G H ι W σ x s) (h : ((m env S).bind k).wp P E) (hk : ∀ d S1 H1 ι1, Tr H ι H1 ι1 → HR G H1 ι1 S1 → (∀ x s, E x s → PostX G H1 ι1 W σ x s) → (k d S1).wp P E → Q d H1) : tt σ H Q :=
  he σ H ι S env Q hr re ((Res.wp_bind h).mono (fun d S1 q H1 ι1 t h1 => hk d S1 H1 ι1 t h1 (fun x s z => PostX.mono t (hE x s z)) q) hE)
theorem am_step {ta : TA} {m : MA} {σ : St} {H : Hp} {ι : List Addr} {S : SS} {env : En} {β : Type} {k : List D → SS → Res β} {P : β → SS → Prop} {E : Exn → SS → Prop} {Q : List V → Hp → Prop} (he : AM G W ta m) (hr : HR G H ι S) (re : RE G.K H ι σ env)
    (hE : ∀ x s, E x s → PostX G H ι W σ x s) (h : ((m env S).bind k).wp P E) (hk : ∀ d S1 v H1 ι1, Tr H ι H1 ι1 → HR G H1 ι1 S1 → RpA G.K H1 ι1 v d → (∀ x s, E x s → PostX G H1 ι1 W σ x s) → (k d S1).wp P E → Q v H1) : ta σ H Q :=
  he σ H ι S env Q hr re ((Res.wp_bind h).mono (fun d S1 q v H1 ι1 t h1 r1 => hk d S1 v H1 ι1 t h1 r1 (fun x s z => PostX.mono t (hE x s z)) q) hE)
theorem lm_step {te : TE} {m : MA} {σ : St} {H : Hp} {ι : List Addr} {S : SS} {env : En} {β : Type} {k : List D → SS → Res β} {P : β → SS → Prop} {E : Exn → SS → Prop} {Q : VK} (he : LM G W te m) (hr : HR G H ι S) (re : RE G.K H ι σ env)
    (hE : ∀ x s, E x s → PostX G H ι W σ x s) (h : ((m env S).bind k).wp P E) (hk : ∀ ds S1 p vs H1 ι1, Tr H ι H1 ι1 → HR G H1 ι1 S1 → NF H p → p ∉ ι1 → H1 p = some (.lst vs) → RpA G.K H1 ι1 vs ds → (∀ x s, E x s → PostX G H1 ι1 W σ x s) → (k ds S1).wp P E → Q (.ref p) H1) : te σ H Q :=
  he σ H ι S env Q hr re ((Res.wp_bind h).mono (fun d S1 q p vs H1 ι1 t h1 hp hn e r1 => hk d S1 p vs H1 ι1 t h1 hp hn e r1 (fun x s z => PostX.mono t (hE x s z)) q) hE)
theorem wpE_to {H H1 : Hp} {ι ι1 : List Addr} {r : Res D} {Q : VK} {E E' : Exn → SS → Prop} (t : Tr H ι H1 ι1) (h : r.wp (PostE G H ι Q) E) (hE : ∀ x s, E x s → E' x s) : r.wp (PostE G H1 ι1 Q) E' := h.mono (fun _ _ q => PostE.mono t q) hE
theorem wpB_to {H H1 : Hp} {ι ι1 : List Addr} {r : Res Bool} {Q : Bool → Hp → Prop} {E E' : Exn → SS → Prop} (t : Tr H ι H1 ι1) (h : r.wp (PostB G H ι Q) E) (hE : ∀ x s, E x s → E' x s) : r.wp (PostB G H1 ι1 Q) E' := h.mono (fun _ _ q => PostB.mono t q) hE
theorem wpA_to {H H1 : Hp} {ι ι1 : List Addr} {r : Res (List D)} {Q : List V → Hp → Prop} {E E' : Exn → SS → Prop} (t : Tr H ι H1 ι1) (h : r.wp (PostA G H ι Q) E) (hE : ∀ x s, E x s → E' x s) : r.wp (PostA G H1 ι1 Q) E' := h.mono (fun _ _ q => PostA.mono t q) hE
theorem x_var (i : Nat) {x : Str} (hN : X.N[i]? = some x := by rfl) (hv : Vis X.env.scope x := by first | exact Or.inl rfl | exact Or.inr (Or.inl rfl) | exact Or.inr (Or.inr rfl)) (hd : (x == ("__debug__" : Str)) = false := by decide)
    (hcd : (x == ("__classdict__" : Str)) = false := by decide) : XE X G W (.Name x pos) (mVar i) :=
  ⟨_, pe_var hN hv hd hcd, fun σ H ι S env Q hr re h => by
    unfold mVar at h
    cases q : env[i]? with
    | none => rw [q] at h; exact h.elim
    | some o =>
      rw [q] at h
      cases o with
      | none => exact h.elim
      | some d =>
        obtain ⟨v, h1, h2⟩ := re.get i d q
        exact ⟨v, h1, h v H ι Tr.refl hr h2⟩⟩
/-- a value that needs no heap -/
def Flat : V → D → Prop
  | .non, .non => True
  | .bl b, .bl c => b = c
  | .int i, .int j => i = j
  | .str x, .str y => x = y
  | _, _ => False
theorem Flat.rp {K : PySem.W.Frag} {H : Hp} {ι : List Addr} : ∀ {v : V} {d : D}, Flat v d → Rp K H ι v d
  | .non, .non, _ => .non
  | .bl b, .bl c, h => by cases (show b = c from h); exact .bl b
  | .int i, .int j, h => by cases (show i = j from h); exact .int i
  | .str x, .str y, h => by cases (show x = y from h); exact .str x
theorem em_c {v : V} {d : D} (f : Flat v d) : EM G W (tC v) (mC d) := fun σ H ι S env Q hr re h => h v H ι Tr.refl hr f.rp
theorem x_int {i : Int} {j : Nat} : XE X G W (.Constant (.int i) j pos) (mC (.int i)) := ⟨_, pe_int, em_c (v := .int i) rfl⟩
theorem x_str {x : Str} {j : Nat} : XE X G W (.Constant (.str x) j pos) (mC (.str x)) := ⟨_, pe_str, em_c (v := .str x) rfl⟩
theorem x_bl {b : Bool} {j : Nat} : XE X G W (.Constant (.bool b) j pos) (mC (.bl b)) := ⟨_, pe_bl, em_c (v := .bl b) rfl⟩
theorem x_non {j : Nat} : XE X G W (.Constant .none j pos) (mC .non) := ⟨_, pe_non, em_c (v := .non) trivial⟩
/-- a module's constant -/
theorem x_glob {x : Str} {v : V} {u : Value} {d : D} (hg : Gl X x) (hm : X.mg x = some u) (r : RelV v u) (f : Flat v d) (hd : (x == ("__debug__" : Str)) = false := by decide) : XE X G W (.Name x pos) (mC d) := ⟨_, pe_glob hg hm r hd, em_c f⟩
theorem x_bin {op : Operator} {r : R2} {f : D → D → SS → Res D} (ho : OpR X (binaryOp op) r) (hf : Op2 G r f) (ha : XE X G W a ma) (hb : XE X G W b mb) : XE X G W (.BinOp a op b pos) (mOp2 f ma mb) := by
  obtain ⟨ta, pa, ea⟩ := ha
  obtain ⟨tb, pb, eb⟩ := hb
  refine ⟨_, pe_op ho pa pb, fun σ H ι S env Q hr re h => ?_⟩
  show ta σ H fun x H1 => tb σ H1 fun y H2 => r x y H2 Q
  refine em_step ea hr re (fun _ _ z => z) h fun d S1 v H1 ι1 t1 h1 r1 k1 q1 => ?_
  refine em_step eb h1 (re.mono t1) k1 q1 fun d2 S2 v2 H2 ι2 t2 h2 r2 k2 q2 => ?_
  exact hf h2 (Rp.mono t2 _ r1) r2 (wpE_to (t1.trans t2) q2 k2)
theorem x_un {op : UnaryOp} {r : V → Hp → VK → Prop} {f : D → SS → Res D} (ho : UnR X (unaryOp op) r) (hf : Op1 G r f) (ha : XE X G W a ma) : XE X G W (.UnaryOp op a pos) (mOp1 f ma) := by
  obtain ⟨ta, pa, ea⟩ := ha
  refine ⟨_, pe_un ho pa, fun σ H ι S env Q hr re h => ?_⟩
  show ta σ H fun x H1 => r x H1 Q
  refine em_step ea hr re (fun _ _ z => z) h fun d S1 v H1 ι1 t1 h1 r1 k1 q1 => hf h1 r1 (wpE_to t1 q1 k1)
theorem x_cmp {op : CmpOp} {r : R2} {f : D → D → SS → Res D} (ho : OpR X (compareOp op) r) (hf : Op2 G r f) (ha : XE X G W a ma) (hb : XE X G W b mb) (hm : behindInMarks op b = false) : XE X G W (.Compare a [op] [b] pos) (mOp2 f ma mb) := by
  obtain ⟨ta, pa, ea⟩ := ha
  obtain ⟨tb, pb, eb⟩ := hb
  refine ⟨_, pe_cmpR ho pa pb hm, fun σ H ι S env Q hr re h => ?_⟩
  show ta σ H fun x H1 => tb σ H1 fun y H2 => r x y H2 Q
  refine em_step ea hr re (fun _ _ z => z) h fun d S1 v H1 ι1 t1 h1 r1 k1 q1 => ?_
  refine em_step eb h1 (re.mono t1) k1 q1 fun d2 S2 v2 H2 ι2 t2 h2 r2 k2 q2 => ?_
  exact hf h2 (Rp.mono t2 _ r1) r2 (wpE_to (t1.trans t2) q2 k2)
theorem tm_tst {te : TE} {m : ME} (he : EM G W te m) : TM G W (fun σ H Q => te σ H fun x H1 => ∃ k, x = .bl k ∧ Q k H1) (mTst m) := fun σ H ι S env Q hr re h => by
  refine em_step he hr re (fun _ _ z => z) h fun d S1 v H1 ι1 t1 h1 r1 k1 q1 => ?_
  cases r1 with
  | bl b => exact ⟨b, rfl, q1 H1 ι1 t1 h1⟩
  | non => exact (show False from q1).elim
  | int i => exact (show False from q1).elim
  | str x => exact (show False from q1).elim
  | tup _ _ => exact (show False from q1).elim
  | obj _ => exact (show False from q1).elim
  | fz _ _ => exact (show False from q1).elim
/-- a comparison as a test -/
theorem t_cmp {op : CmpOp} {r : R2} {f : D → D → SS → Res D} (ho : OpR X (compareOp op) r) (hf : Op2 G r f) (ha : XE X G W a ma) (hb : XE X G W b mb) (hm : behindInMarks op b = false) : XT X G W (.Compare a [op] [b] pos) (mTst (mOp2 f ma mb)) := by
  obtain ⟨ta, pa, ea⟩ := ha
  obtain ⟨tb, pb, eb⟩ := hb
  refine ⟨_, pt_cmpR ho pa pb hm, tm_tst fun σ H ι S env Q hr re h => ?_⟩
  show ta σ H fun x H1 => tb σ H1 fun y H2 => r x y H2 Q
  refine em_step ea hr re (fun _ _ z => z) h fun d S1 v H1 ι1 t1 h1 r1 k1 q1 => ?_
  refine em_step eb h1 (re.mono t1) k1 q1 fun d2 S2 v2 H2 ι2 t2 h2 r2 k2 q2 => ?_
  exact hf h2 (Rp.mono t2 _ r1) r2 (wpE_to (t1.trans t2) q2 k2)
/-- a truth value as a test -/
theorem t_val (ha : XE X G W a ma) (he : ∀ whole, isTrue a X.env whole = (do let v ← whole; standAt a.pos; holding [v] (truthy v)) := by intro _; rfl) : XT X G W a (mTst ma) := by
  obtain ⟨ta, pa, ea⟩ := ha
  exact ⟨_, pt_val pa he, tm_tst ea⟩
theorem XW.xt (h : XW X G W a mt) : XT X G W a mt := by
  obtain ⟨tt, p, e⟩ := h
  exact ⟨tt, p.pt, e⟩
theorem w_and1 (h : XT X G W a mt) : XW X G W (.BoolOp .And [a] pos) mt := by
  obtain ⟨tt, p, e⟩ := h
  exact ⟨tt, pw_and1 p, e⟩
theorem w_or1 (h : XT X G W a mt) : XW X G W (.BoolOp .Or [a] pos) mt := by
  obtain ⟨tt, p, e⟩ := h
  exact ⟨tt, pw_or1 p, e⟩
theorem w_and {rest : List Expr} (h : XT X G W a mt) (h2 : XW X G W (.BoolOp .And (b :: rest) pos) mu) : XW X G W (.BoolOp .And (a :: b :: rest) pos) (mAnd mt mu) := by
  obtain ⟨tt, p, e⟩ := h
  obtain ⟨tu, p2, e2⟩ := h2
  refine ⟨_, pw_and p p2, fun σ H ι S env Q hr re h => ?_⟩
  show tt σ H fun c H1 => if c = true then tu σ H1 Q else Q false H1
  refine tm_step e hr re (fun _ _ z => z) h fun d S1 H1 ι1 t1 h1 k1 q1 => ?_
  cases d with
  | true => exact e2 σ H1 ι1 S1 env Q h1 (re.mono t1) (wpB_to t1 (show (mu env S1).wp _ _ from q1) k1)
  | false => exact (show PostB G H ι Q false S1 from q1) H1 ι1 t1 h1
theorem w_or {rest : List Expr} (h : XT X G W a mt) (h2 : XW X G W (.BoolOp .Or (b :: rest) pos) mu) : XW X G W (.BoolOp .Or (a :: b :: rest) pos) (mOr mt mu) := by
  obtain ⟨tt, p, e⟩ := h
  obtain ⟨tu, p2, e2⟩ := h2
  refine ⟨_, pw_or p p2, fun σ H ι S env Q hr re h => ?_⟩
  show tt σ H fun c H1 => if c = true then Q true H1 else tu σ H1 Q
  refine tm_step e hr re (fun _ _ z => z) h fun d S1 H1 ι1 t1 h1 k1 q1 => ?_
  cases d with
  | false => exact e2 σ H1 ι1 S1 env Q h1 (re.mono t1) (wpB_to t1 (show (mu env S1).wp _ _ from q1) k1)
  | true => exact (show PostB G H ι Q true S1 from q1) H1 ι1 t1 h1
theorem t_and {rest : List Expr} (h : XT X G W a mt) (h2 : XW X G W (.BoolOp .And (b :: rest) pos) mu) : XT X G W (.BoolOp .And (a :: b :: rest) pos) (mAnd mt mu) := (w_and h h2).xt
theorem t_or {rest : List Expr} (h : XT X G W a mt) (h2 : XW X G W (.BoolOp .Or (b :: rest) pos) mu) : XT X G W (.BoolOp .Or (a :: b :: rest) pos) (mOr mt mu) := (w_or h h2).xt
theorem t_not (h : XT X G W a mt) : XT X G W (.UnaryOp .Not a pos) (mNot mt) := by
  obtain ⟨tt, p, e⟩ := h
  refine ⟨_, pt_not p, fun σ H ι S env Q hr re h => ?_⟩
  show tt σ H fun c H1 => Q (!c) H1
  exact tm_step e hr re (fun _ _ z => z) h fun d S1 H1 ι1 t1 h1 k1 q1 => (show PostB G H ι Q (!d) S1 from q1) H1 ι1 t1 h1
theorem x_one {op : BoolOp} (h : XE X G W a ma) : XE X G W (.BoolOp op [a] pos) ma := by
  obtain ⟨ta, pa, ea⟩ := h
  exact ⟨_, pe_one pa, ea⟩
theorem x_and {rest : List Expr} (h : XE X G W a ma) (h2 : XE X G W (.BoolOp .And (b :: rest) pos) mb) : XE X G W (.BoolOp .And (a :: b :: rest) pos) (mAndV ma mb) := by
  obtain ⟨ta, p, e⟩ := h
  obtain ⟨tb, p2, e2⟩ := h2
  refine ⟨_, pe_and p p2, fun σ H ι S env Q hr re h => ?_⟩
  show ta σ H fun x H1 => ∃ c, x = .bl c ∧ if c = true then tb σ H1 Q else Q (.bl false) H1
  refine em_step e hr re (fun _ _ z => z) h fun d S1 v H1 ι1 t1 h1 r1 k1 q1 => ?_
  cases r1 with
  | bl c =>
    refine ⟨c, rfl, ?_⟩
    cases c with
    | true => exact e2 σ H1 ι1 S1 env Q h1 (re.mono t1) (wpE_to t1 (show (mb env S1).wp _ _ from q1) k1)
    | false => exact (show PostE G H ι Q (.bl false) S1 from q1) (.bl false) H1 ι1 t1 h1 (.bl false)
  | non => exact (show False from q1).elim
  | int i => exact (show False from q1).elim
  | str x => exact (show False from q1).elim
  | tup _ _ => exact (show False from q1).elim
  | obj _ => exact (show False from q1).elim
  | fz _ _ => exact (show False from q1).elim
theorem x_or {rest : List Expr} (h : XE X G W a ma) (h2 : XE X G W (.BoolOp .Or (b :: rest) pos) mb) : XE X G W (.BoolOp .Or (a :: b :: rest) pos) (mOrV ma mb) := by
  obtain ⟨ta, p, e⟩ := h
  obtain ⟨tb, p2, e2⟩ := h2
  refine ⟨_, pe_or p p2, fun σ H ι S env Q hr re h => ?_⟩
  show ta σ H fun x H1 => ∃ c, x = .bl c ∧ if c = true then Q (.bl true) H1 else tb σ H1 Q
  refine em_step e hr re (fun _ _ z => z) h fun d S1 v H1 ι1 t1 h1 r1 k1 q1 => ?_
  cases r1 with
  | bl c =>
    refine ⟨c, rfl, ?_⟩
    cases c with
    | false => exact e2 σ H1 ι1 S1 env Q h1 (re.mono t1) (wpE_to t1 (show (mb env S1).wp _ _ from q1) k1)
    | true => exact (show PostE G H ι Q (.bl true) S1 from q1) (.bl true) H1 ι1 t1 h1 (.bl true)
  | non => exact (show False from q1).elim
  | int i => exact (show False from q1).elim
  | str x => exact (show False from q1).elim
  | tup _ _ => exact (show False from q1).elim
  | obj _ => exact (show False from q1).elim
  | fz _ _ => exact (show False from q1).elim
theorem x_not (h : XE X G W a ma) : XE X G W (.UnaryOp .Not a pos) (mNotV ma) := by
  obtain ⟨ta, p, e⟩ := h
  refine ⟨_, pe_not p, fun σ H ι S env Q hr re h => ?_⟩
  show ta σ H fun x H1 => ∃ c, x = .bl c ∧ Q (.bl (!c)) H1
  refine em_step e hr re (fun _ _ z => z) h fun d S1 v H1 ι1 t1 h1 r1 k1 q1 => ?_
  cases r1 with
  | bl c => exact ⟨c, rfl, (show PostE G H ι Q (.bl (!c)) S1 from q1) (.bl (!c)) H1 ι1 t1 h1 (.bl _)⟩
  | non => exact (show False from q1).elim
  | int i => exact (show False from q1).elim
  | str x => exact (show False from q1).elim
  | tup _ _ => exact (show False from q1).elim
  | obj _ => exact (show False from q1).elim
  | fz _ _ => exact (show False from q1).elim
theorem x_if (hc : XT X G W c mt) (ha : XE X G W a ma) (hb : XE X G W b mb) : XE X G W (.IfExp c a b pos) (mIf mt ma mb) := by
  obtain ⟨tt, p, e⟩ := hc
  obtain ⟨ta, pa, ea⟩ := ha
  obtain ⟨tb, pb, eb⟩ := hb
  refine ⟨_, pe_ifExp p pa pb, fun σ H ι S env Q hr re h => ?_⟩
  show tt σ H fun c H1 => if c = true then ta σ H1 Q else tb σ H1 Q
  refine tm_step e hr re (fun _ _ z => z) h fun d S1 H1 ι1 t1 h1 k1 q1 => ?_
  cases d with
  | true => exact ea σ H1 ι1 S1 env Q h1 (re.mono t1) (wpE_to t1 (show (ma env S1).wp _ _ from q1) k1)
  | false => exact eb σ H1 ι1 S1 env Q h1 (re.mono t1) (wpE_to t1 (show (mb env S1).wp _ _ from q1) k1)
/-! ### argument lists, displays -/
theorem a_nil : XA X G W [] mNil := ⟨_, pa_nil, fun σ H ι S env Q hr re h => h [] H ι Tr.refl hr .nil⟩
theorem a_cons (ha : XE X G W a ma) (hr' : XA X G W es mr) (hs : starEach (a :: es) X.env = (false, eval a X.env) :: starEach es X.env := by rfl) : XA X G W (a :: es) (mCons ma mr) := by
  obtain ⟨ta, pa, ea⟩ := ha
  obtain ⟨tr, pr, er⟩ := hr'
  refine ⟨_, pa_cons pa pr hs, fun σ H ι S env Q hr re h => ?_⟩
  show ta σ H fun x H1 => tr σ H1 fun xs H2 => Q (x :: xs) H2
  refine em_step ea hr re (fun _ _ z => z) h fun d S1 v H1 ι1 t1 h1 r1 k1 q1 => ?_
  refine am_step er h1 (re.mono t1) k1 q1 fun ds S2 vs H2 ι2 t2 h2 r2 k2 q2 => ?_
  exact (show PostA G H ι Q (d :: ds) S2 from q2) (v :: vs) H2 ι2 (t1.trans t2) h2 (.cons (Rp.mono t2 _ r1) r2)
theorem small_line {n : Nat} (h : n ≤ 1000000) : n ≤ sizeLine := Nat.le_trans h (by decide)
theorem x_tup {x1 : Nat} (ha : XA X G W es mr) : XE X G W (.Tuple es x1 pos) (mTup mr) := by
  obtain ⟨ta, pa, ea⟩ := ha
  refine ⟨_, pe_tup pa, fun σ H ι S env Q hr re h => ?_⟩
  show ta σ H fun xs H1 => xs.length ≤ sizeLine ∧ ∀ p, H1 p = none → Q (.ref p) (upd H1 p (.tup xs))
  refine am_step ea hr re (fun _ _ z => z) h fun ds S1 vs H1 ι1 t1 h1 r1 k1 q1 => ?_
  by_cases hl : ds.length ≤ 1000000
  · rw [if_pos hl] at q1
    exact ⟨by rw [r1.length]; exact small_line hl, fun p hp => (show PostE G H ι Q (.tup ds) S1 from q1) (.ref p) _ ι1 (t1.trans (Tr.laid hp)) (h1.laid hp) (.tup (.inl (.inl upd_same)) (RpA.mono (Tr.laid hp) _ r1))⟩
  · rw [if_neg hl] at q1
    exact q1.elim
/-- a list display: a new list -/
def mLst (a : MA) : MA := fun env S => (a env S).bind fun xs S1 => if xs.length ≤ 1000000 then .ok xs S1 else .stk
theorem l_lst (ha : XA X G W es mr) : XL X G W (.List es pos) (mLst mr) := by
  obtain ⟨ta, pa, ea⟩ := ha
  refine ⟨_, pe_lst pa, fun σ H ι S env Q hr re h => ?_⟩
  show ta σ H fun xs H1 => xs.length ≤ sizeLine ∧ ∀ p, H1 p = none → Q (.ref p) (upd H1 p (.lst xs))
  refine am_step ea hr re (fun _ _ z => z) h fun ds S1 vs H1 ι1 t1 h1 r1 k1 q1 => ?_
  by_cases hl : ds.length ≤ 1000000
  · rw [if_pos hl] at q1
    refine ⟨by rw [r1.length]; exact small_line hl, fun p hp => (show PostL G H ι Q ds S1 from q1) p vs _ ι1 (t1.trans (Tr.laid hp)) (h1.laid hp) ?_ (h1.out hp) upd_same (RpA.mono (Tr.laid hp) _ r1)⟩
    exact t1.nf (.of_none hp) fun z => h1.out hp (t1.sub z)
  · rw [if_neg hl] at q1
    exact q1.elim
/-- a new list becomes a cell -/
theorem x_new (ha : XL X G W a mr) : XE X G W a (mNew mr) := by
  obtain ⟨te, pe, ee⟩ := ha
  refine ⟨_, pe, fun σ H ι S env Q hr re h => ?_⟩
  refine lm_step ee hr re (fun _ _ z => z) h fun ds S1 p vs H1 ι1 t1 h1 hp hn e1 r1 k1 q1 => ?_
  refine (show PostE G H ι Q (.obj S1.length) (S1 ++ [.lst ds]) from q1) (.ref p) H1 (ι1 ++ [p]) (t1.grow hp) (h1.take hn ⟨vs, e1, RpA.le Lk.grow _ r1⟩) (.obj ?_)
  rw [← h1.len, List.getElem?_append_right (Nat.le_refl _)]
  simp
end
end FW

set_option Elab.async false
set_option linter.all false
set_option maxRecDepth 100000
set_option maxHeartbeats 4000000
/-! The M layer, 3: calls, methods, subscripts, slices, chains, truth, f-strings. -/
namespace FW
open PySem PySem.Spec L2

/-! ### combinators -/
def mChain (f g : D → D → SS → Res D) (a b c : ME) : ME := fun env S => (a env S).bind fun x S1 => (b env S1).bind fun y S2 => (f x y S2).bind fun z S3 => match z with
  | .bl true => (c env S3).bind fun u S4 => g y u S4
  | .bl false => .ok (.bl false) S3
  | _ => .stk
def mCall (n : Nat) (m : List D → SS → Res D) (a : MA) : ME := fun env S => (a env S).bind fun ds S1 => if ds.length = n then m ds S1 else .stk
def mM0 (f : Str → SS → Res D) (o : ME) : ME := fun env S => (o env S).bind fun d S1 => match d with
  | .str a => f a S1
  | _ => .stk
def mM1 (f : Str → D → SS → Res D) (o e : ME) : ME := fun env S => (o env S).bind fun d S1 => match d with
  | .str a => (e env S1).bind fun x S2 => f a x S2
  | _ => .stk
def mM1L (f : Str → D → SS → Res (List D)) (o e : ME) : MA := fun env S => (o env S).bind fun d S1 => match d with
  | .str a => (e env S1).bind fun x S2 => f a x S2
  | _ => .stk
/-- a method of a built-in type, its receiver's type asked by ty -/
def mMeth (ty : D → SS → Bool) (f : D → List D → SS → Res D) (o : ME) (a : MA) : ME := fun env S => (o env S).bind fun d S1 => if ty d S1 = true then (a env S1).bind fun xs S2 => f d xs S2 else .stk
abbrev MO := En → SS → Res (Option Int)
def mNoP : MO := fun _ S => .ok none S
def mP (a : ME) : MO := fun env S => (a env S).bind fun d S1 => match d with
  | .int i => .ok (some i) S1
  | _ => .stk
def mSl (f : D → Option Int → Option Int → SS → Res D) (a : ME) (l h : MO) : ME := fun env S => (a env S).bind fun x S1 => (l env S1).bind fun lo S2 => (h env S2).bind fun hi S3 => f x lo hi S3
def mSlL (f : D → Option Int → Option Int → SS → Res (List D)) (a : ME) (l h : MO) : MA := fun env S => (a env S).bind fun x S1 => (l env S1).bind fun lo S2 => (h env S2).bind fun hi S3 => f x lo hi S3
def mOpAL (f : List D → SS → Res (List D)) (a : MA) : MA := fun env S => (a env S).bind fun xs S1 => f xs S1
/-- a built-in of one new list -/
def mOfL (f : List D → SS → Res D) (a : MA) : ME := fun env S => (a env S).bind fun xs S1 => f xs S1
def mOfLL (f : List D → SS → Res (List D)) (a : MA) : MA := fun env S => (a env S).bind fun xs S1 => f xs S1
def mTru (tr : D → SS → Option Bool) (a : ME) : MT := fun env S => (a env S).bind fun x S1 => match tr x S1 with
  | some b => .ok b S1
  | none => .stk
def mFmt (a : ME) : ME := fun env S => (a env S).bind fun x S1 => match x with
  | .str y => if y.length ≤ 1000000 then .ok (.str y) S1 else .stk
  | .int i => if i.natAbs.log2 < 1920 then .ok (.str (toString i)) S1 else .stk
  | _ => .stk
def mJs : List ME → Str → En → SS → Res Str
  | [], acc, _, S => .ok acc S
  | m :: ms, acc, env, S => (m env S).bind fun x S1 => match x with
    | .str y => if (acc ++ y).length ≤ 1000000 then mJs ms (acc ++ y) env S1 else .stk
    | _ => .stk
def mJoined (ms : List ME) : ME := fun env S => (mJs ms Str.empty env S).bind fun y S1 => .ok (.str y) S1

/-! ### a def's promise -/
def spOf (G : Gx) (n : Nat) (m : List D → SS → Res D) : Sp := fun vs H Q E => vs.length = n ∧ ∃ ι S ds, HR G H ι S ∧ RpA G.K H ι vs ds ∧
  (m ds S).wp (PostE G H ι Q) (fun x S' => ∀ cls dd H' ι', Tr H ι H' ι' → HR G H' ι' S' → XRp G H' ι' x cls dd → E cls dd H')

def OpAL (G : Gx) (r : List V → Hp → VK → Prop) (f : List D → SS → Res (List D)) : Prop := ∀ {H : Hp} {ι : List Addr} {S : SS} {xs : List V} {ds : List D} {Q : VK} {E : Exn → SS → Prop}, HR G H ι S → RpA G.K H ι xs ds → (f ds S).wp (PostL G H ι Q) E → r xs H Q
def OpS0 (G : Gx) (r : V → List V → Hp → VK → Prop) (f : Str → SS → Res D) : Prop := ∀ {H : Hp} {ι : List Addr} {S : SS} {a : Str} {Q : VK} {E : Exn → SS → Prop}, HR G H ι S → (f a S).wp (PostE G H ι Q) E → r (.str a) [] H Q
def OpS1 (G : Gx) (r : V → List V → Hp → VK → Prop) (f : Str → D → SS → Res D) : Prop := ∀ {H : Hp} {ι : List Addr} {S : SS} {a : Str} {y : V} {e : D} {Q : VK} {E : Exn → SS → Prop}, HR G H ι S → Rp G.K H ι y e → (f a e S).wp (PostE G H ι Q) E → r (.str a) [y] H Q
def OpS1L (G : Gx) (r : V → List V → Hp → VK → Prop) (f : Str → D → SS → Res (List D)) : Prop := ∀ {H : Hp} {ι : List Addr} {S : SS} {a : Str} {y : V} {e : D} {Q : VK} {E : Exn → SS → Prop}, HR G H ι S → Rp G.K H ι y e → (f a e S).wp (PostL G H ι Q) E → r (.str a) [y] H Q
def OpSl (G : Gx) (r : V → Option Int → Option Int → Hp → VK → Prop) (f : D → Option Int → Option Int → SS → Res D) : Prop := ∀ {H : Hp} {ι : List Addr} {S : SS} {x : V} {d : D} {lo hi : Option Int} {Q : VK} {E : Exn → SS → Prop}, HR G H ι S → Rp G.K H ι x d → (f d lo hi S).wp (PostE G H ι Q) E → r x lo hi H Q
def OpSlL (G : Gx) (r : V → Option Int → Option Int → Hp → VK → Prop) (f : D → Option Int → Option Int → SS → Res (List D)) : Prop := ∀ {H : Hp} {ι : List Addr} {S : SS} {x : V} {d : D} {lo hi : Option Int} {Q : VK} {E : Exn → SS → Prop}, HR G H ι S → Rp G.K H ι x d → (f d lo hi S).wp (PostL G H ι Q) E → r x lo hi H Q
/-- of a new list -/
def OpL1 (G : Gx) (r : List V → Hp → VK → Prop) (f : List D → SS → Res D) : Prop := ∀ {H : Hp} {ι : List Addr} {S : SS} {p : Addr} {vs : List V} {ds : List D} {Q : VK} {E : Exn → SS → Prop}, HR G H ι S → p ∉ ι → H p = some (.lst vs) → RpA G.K H ι vs ds → (f ds S).wp (PostE G H ι Q) E → r [.ref p] H Q
def OpL1L (G : Gx) (r : List V → Hp → VK → Prop) (f : List D → SS → Res (List D)) : Prop := ∀ {H : Hp} {ι : List Addr} {S : SS} {p : Addr} {vs : List V} {ds : List D} {Q : VK} {E : Exn → SS → Prop}, HR G H ι S → p ∉ ι → H p = some (.lst vs) → RpA G.K H ι vs ds → (f ds S).wp (PostL G H ι Q) E → r [.ref p] H Q
def XO (X : Cx) (G : Gx) (W : WX) (e : Option Expr) (m : MO) : Prop := ∃ t, PO X e t ∧ ∀ (σ : St) (H : Hp) (ι : List Addr) (S : SS) (env : En) (Q : Option Int → Hp → Prop), HR G H ι S → RE G.K H ι σ env →
  (m env S).wp (fun o S' => ∀ H' ι', Tr H ι H' ι' → HR G H' ι' S' → Q o H') (PostX G H ι W σ) → t σ H Q

section
variable {X : Cx} {G : Gx} {W : WX} {a b c e o : Expr} {es : List Expr} {pos p apos cpos : Pos} {ma mb mo' mc : ME} {mt mu : MT} {mr : MA} {ml mh : MO}
theorem not_flat_bl {K : PySem.W.Frag} {H : Hp} {ι : List Addr} {v : V} {d : D} (r : Rp K H ι v d) {P : Prop} (h : ∀ b, v = .bl b → d = .bl b → P) (h2 : (∀ b, d ≠ .bl b) → P) : P := by
  cases r with
  | bl b => exact h b rfl rfl
  | non => exact h2 fun b z => by cases z
  | int i => exact h2 fun b z => by cases z
  | str x => exact h2 fun b z => by cases z
  | tup _ _ => exact h2 fun b z => by cases z
  | obj _ => exact h2 fun b z => by cases z
  | fz _ _ => exact h2 fun b z => by cases z
theorem em_chain {r r' : R2} {f g : D → D → SS → Res D} {ta tb tc : TE} (hf : Op2 G r f) (hg : Op2 G r' g) (ea : EM G W ta ma) (eb : EM G W tb mb) (ec : EM G W tc mc) : EM G W (tChain r r' ta tb tc) (mChain f g ma mb mc) := fun σ H ι S env Q hr re h => by
  show ta σ H fun x H1 => tb σ H1 fun y H2 => r x y H2 fun z H3 => ∃ k, z = .bl k ∧ (if k = true then tc σ H3 fun w' H4 => r' y w' H4 Q else Q (.bl false) H3)
  refine em_step ea hr re (fun _ _ z => z) h fun d S1 v H1 ι1 t1 h1 r1 k1 q1 => ?_
  refine em_step eb h1 (re.mono t1) k1 q1 fun d2 S2 v2 H2 ι2 t2 h2 r2 k2 q2 => ?_
  refine hf h2 (Rp.mono t2 _ r1) r2 ((Res.wp_bind q2).mono (fun z S3 q3 u H3 ι3 t3 h3 r3 => ?_) fun _ _ z => z)
  refine not_flat_bl r3 (fun b e1 e2 => ?_) fun n => ?_
  · subst e1
    subst e2
    refine ⟨b, rfl, ?_⟩
    cases b with
    | true =>
      rw [if_pos rfl]
      refine em_step ec h3 ((re.mono t1).mono (t2.trans t3)) (fun x s z => PostX.mono t3 (k2 x s z)) (show ((mc env S3).bind _).wp _ _ from q3) fun d4 S4 v4 H4 ι4 t4 h4 r4 k4 q4 => ?_
      exact hg h4 (Rp.mono (t3.trans t4) _ r2) r4 (wpE_to (((t1.trans t2).trans t3).trans t4) q4 k4)
    | false =>
      rw [if_neg (by simp)]
      exact (show PostE G H ι Q (.bl false) S3 from q3) (.bl false) H3 ι3 ((t1.trans t2).trans t3) h3 (.bl false)
  · cases z with
    | bl b => exact absurd rfl (n b)
    | non => exact (show False from q3).elim
    | int _ => exact (show False from q3).elim
    | str _ => exact (show False from q3).elim
    | tup _ => exact (show False from q3).elim
    | obj _ => exact (show False from q3).elim
    | fz _ => exact (show False from q3).elim
theorem x_chain {op op' : CmpOp} {r r' : R2} {f g : D → D → SS → Res D} (ho : OpR X (compareOp op) r) (hf : Op2 G r f) (ho' : OpR X (compareOp op') r') (hg : Op2 G r' g) (ha : XE X G W a ma) (hb : XE X G W b mb) (hc : XE X G W c mc)
    (hm : lastMarks [op, op'] [b, c] = false := by with_unfolding_all rfl) : XE X G W (.Compare a [op, op'] [b, c] pos) (mChain f g ma mb mc) := by
  obtain ⟨ta, pa, ea⟩ := ha
  obtain ⟨tb, pb, eb⟩ := hb
  obtain ⟨tc, pc, ec⟩ := hc
  exact ⟨_, pe_chain ho ho' pa pb pc hm, em_chain hf hg ea eb ec⟩
theorem t_chain {op op' : CmpOp} {r r' : R2} {f g : D → D → SS → Res D} (ho : OpR X (compareOp op) r) (hf : Op2 G r f) (ho' : OpR X (compareOp op') r') (hg : Op2 G r' g) (ha : XE X G W a ma) (hb : XE X G W b mb) (hc : XE X G W c mc)
    (hm : lastMarks [op, op'] [b, c] = false := by with_unfolding_all rfl) : XT X G W (.Compare a [op, op'] [b, c] pos) (mTst (mChain f g ma mb mc)) := by
  obtain ⟨ta, pa, ea⟩ := ha
  obtain ⟨tb, pb, eb⟩ := hb
  obtain ⟨tc, pc, ec⟩ := hc
  exact ⟨_, pt_chain ho ho' pa pb pc hm, tm_tst (em_chain hf hg ea eb ec)⟩

/-! ### calls -/
theorem x_callB {x : Str} {id : String} {r : List V → Hp → VK → Prop} {f : List D → SS → Res D} (hc : CallR X (.builtin id) r) (hf : OpA G r f) (hg : Gl X x) (hm : X.mg x = none) (hv : bootBuiltins x = some (.builtin id)) (ha : XA X G W (e :: es) mr)
    (hn : x ≠ "__name__" := by decide) (hdb : (x == ("__debug__" : Str)) = false := by decide)
    (he : starEach (e :: es) X.env = (false, eval e X.env) :: starEach es X.env := by rfl) (hpl : (backTo pos (starEach es X.env)).any (·.1) = false := by rfl) : XE X G W (.Call (.Name x p) (e :: es) [] pos) (mOpA f mr) := by
  obtain ⟨ta, pa, ea⟩ := ha
  refine ⟨_, pe_callB hc hg hm hv pa hn hdb he hpl, fun σ H ι S env Q hr re h => ?_⟩
  show ta σ H fun vs H1 => r vs H1 Q
  exact am_step ea hr re (fun _ _ z => z) h fun ds S1 vs H1 ι1 t1 h1 r1 k1 q1 => hf h1 r1 (wpE_to t1 q1 k1)
theorem x_callTy {x : Str} {T : String} {r : List V → Hp → VK → Prop} {f : List D → SS → Res D} (hc : CallR X (.type T) r) (hf : OpA G r f) (hg : Gl X x) (hm : X.mg x = none) (hv : bootBuiltins x = some (.type T)) (ha : XA X G W (e :: es) mr)
    (hn : x ≠ "__name__" := by decide) (hdb : (x == ("__debug__" : Str)) = false := by decide)
    (he : starEach (e :: es) X.env = (false, eval e X.env) :: starEach es X.env := by rfl) (hpl : (backTo pos (starEach es X.env)).any (·.1) = false := by rfl) : XE X G W (.Call (.Name x p) (e :: es) [] pos) (mOpA f mr) := by
  obtain ⟨ta, pa, ea⟩ := ha
  refine ⟨_, pe_callTy hc hg hm hv pa hn hdb he hpl, fun σ H ι S env Q hr re h => ?_⟩
  show ta σ H fun vs H1 => r vs H1 Q
  exact am_step ea hr re (fun _ _ z => z) h fun ds S1 vs H1 ι1 t1 h1 r1 k1 q1 => hf h1 r1 (wpE_to t1 q1 k1)
theorem wpL_to {H H1 : Hp} {ι ι1 : List Addr} {S0 : SS} {r : Res (List D)} {Q : VK} {E E' : Exn → SS → Prop} (h0 : HR G H ι S0) (t : Tr H ι H1 ι1) (h : r.wp (PostL G H ι Q) E) (hE : ∀ x s, E x s → E' x s) : r.wp (PostL G H1 ι1 Q) E' := h.mono (fun _ _ q => PostL.mono t h0 q) hE
theorem l_callB {x : Str} {id : String} {r : List V → Hp → VK → Prop} {f : List D → SS → Res (List D)} (hc : CallR X (.builtin id) r) (hf : OpAL G r f) (hg : Gl X x) (hm : X.mg x = none) (hv : bootBuiltins x = some (.builtin id)) (ha : XA X G W (e :: es) mr)
    (hn : x ≠ "__name__" := by decide) (hdb : (x == ("__debug__" : Str)) = false := by decide)
    (he : starEach (e :: es) X.env = (false, eval e X.env) :: starEach es X.env := by rfl) (hpl : (backTo pos (starEach es X.env)).any (·.1) = false := by rfl) : XL X G W (.Call (.Name x p) (e :: es) [] pos) (mOpAL f mr) := by
  obtain ⟨ta, pa, ea⟩ := ha
  refine ⟨_, pe_callB hc hg hm hv pa hn hdb he hpl, fun σ H ι S env Q hr re h => ?_⟩
  show ta σ H fun vs H1 => r vs H1 Q
  exact am_step ea hr re (fun _ _ z => z) h fun ds S1 vs H1 ι1 t1 h1 r1 k1 q1 => hf h1 r1 (wpL_to hr t1 q1 k1)
theorem l_callTy {x : Str} {T : String} {r : List V → Hp → VK → Prop} {f : List D → SS → Res (List D)} (hc : CallR X (.type T) r) (hf : OpAL G r f) (hg : Gl X x) (hm : X.mg x = none) (hv : bootBuiltins x = some (.type T)) (ha : XA X G W (e :: es) mr)
    (hn : x ≠ "__name__" := by decide) (hdb : (x == ("__debug__" : Str)) = false := by decide)
    (he : starEach (e :: es) X.env = (false, eval e X.env) :: starEach es X.env := by rfl) (hpl : (backTo pos (starEach es X.env)).any (·.1) = false := by rfl) : XL X G W (.Call (.Name x p) (e :: es) [] pos) (mOpAL f mr) := by
  obtain ⟨ta, pa, ea⟩ := ha
  refine ⟨_, pe_callTy hc hg hm hv pa hn hdb he hpl, fun σ H ι S env Q hr re h => ?_⟩
  show ta σ H fun vs H1 => r vs H1 Q
  exact am_step ea hr re (fun _ _ z => z) h fun ds S1 vs H1 ι1 t1 h1 r1 k1 q1 => hf h1 r1 (wpL_to hr t1 q1 k1)
/-- f([..]), f a built-in, of a new list -/
theorem x_ofL {x : Str} {id : String} {r : List V → Hp → VK → Prop} {f : List D → SS → Res D} (hc : CallR X (.builtin id) r) (hf : OpL1 G r f) (hg : Gl X x) (hm : X.mg x = none) (hv : bootBuiltins x = some (.builtin id)) (ha : XL X G W e mr)
    (hn : x ≠ "__name__" := by decide) (hdb : (x == ("__debug__" : Str)) = false := by decide)
    (he : starEach [e] X.env = (false, eval e X.env) :: starEach [] X.env := by rfl) (hpl : (backTo pos (starEach [] X.env)).any (·.1) = false := by rfl) : XE X G W (.Call (.Name x p) [e] [] pos) (mOfL f mr) := by
  obtain ⟨ta, pa, ea⟩ := ha
  refine ⟨_, pe_callB hc hg hm hv (pa_cons pa pa_nil he) hn hdb he hpl, fun σ H ι S env Q hr re h => ?_⟩
  show ta σ H fun x H1 => r [x] H1 Q
  exact lm_step ea hr re (fun _ _ z => z) h fun ds S1 q vs H1 ι1 t1 h1 hp hn e1 r1 k1 q1 => hf h1 hn e1 r1 (wpE_to t1 q1 k1)
theorem x_ofLTy {x : Str} {T : String} {r : List V → Hp → VK → Prop} {f : List D → SS → Res D} (hc : CallR X (.type T) r) (hf : OpL1 G r f) (hg : Gl X x) (hm : X.mg x = none) (hv : bootBuiltins x = some (.type T)) (ha : XL X G W e mr)
    (hn : x ≠ "__name__" := by decide) (hdb : (x == ("__debug__" : Str)) = false := by decide)
    (he : starEach [e] X.env = (false, eval e X.env) :: starEach [] X.env := by rfl) (hpl : (backTo pos (starEach [] X.env)).any (·.1) = false := by rfl) : XE X G W (.Call (.Name x p) [e] [] pos) (mOfL f mr) := by
  obtain ⟨ta, pa, ea⟩ := ha
  refine ⟨_, pe_callTy hc hg hm hv (pa_cons pa pa_nil he) hn hdb he hpl, fun σ H ι S env Q hr re h => ?_⟩
  show ta σ H fun x H1 => r [x] H1 Q
  exact lm_step ea hr re (fun _ _ z => z) h fun ds S1 q vs H1 ι1 t1 h1 hp hn e1 r1 k1 q1 => hf h1 hn e1 r1 (wpE_to t1 q1 k1)
theorem l_ofL {x : Str} {id : String} {r : List V → Hp → VK → Prop} {f : List D → SS → Res (List D)} (hc : CallR X (.builtin id) r) (hf : OpL1L G r f) (hg : Gl X x) (hm : X.mg x = none) (hv : bootBuiltins x = some (.builtin id)) (ha : XL X G W e mr)
    (hn : x ≠ "__name__" := by decide) (hdb : (x == ("__debug__" : Str)) = false := by decide)
    (he : starEach [e] X.env = (false, eval e X.env) :: starEach [] X.env := by rfl) (hpl : (backTo pos (starEach [] X.env)).any (·.1) = false := by rfl) : XL X G W (.Call (.Name x p) [e] [] pos) (mOfLL f mr) := by
  obtain ⟨ta, pa, ea⟩ := ha
  refine ⟨_, pe_callB hc hg hm hv (pa_cons pa pa_nil he) hn hdb he hpl, fun σ H ι S env Q hr re h => ?_⟩
  show ta σ H fun x H1 => r [x] H1 Q
  exact lm_step ea hr re (fun _ _ z => z) h fun ds S1 q vs H1 ι1 t1 h1 hp hn e1 r1 k1 q1 => hf h1 hn e1 r1 (wpL_to hr t1 q1 k1)
/-- a def of the program -/
theorem x_call {k j : Nat} {f : Addr} {fd : FuncData} {ps : List Str} {x : Str} {n : Nat} {m : List D → SS → Res D} (F : FnOk X.prog X.w X.K X.mg X.base (L2.CX X.prog X.w) k f fd ps (spOf G n m)) (hr : Room j X.A) (hkj : k ≤ j) (tk : Takes X W)
    (hg : Gl X x) (hm : X.mg x = some (.ref f)) (hk : PySem.W.keepIn X.K (.ref f) = true) (hb : Binds X.K fd ps [])
    (ha : XA X G W (e :: es) mr) (hdb : (x == ("__debug__" : Str)) = false := by decide) (he : starEach (e :: es) X.env = (false, eval e X.env) :: starEach es X.env := by rfl) (hpl : (backTo pos (starEach es X.env)).any (·.1) = false := by rfl) :
    XE X G W (.Call (.Name x p) (e :: es) [] pos) (mCall n m mr) := by
  obtain ⟨ta, pa, ea⟩ := ha
  refine ⟨_, pe_callS F (hr.mono hkj) hg hm hk hb (fun σ => passAt tk σ) pa hdb he hpl, fun σ H ι S env Q hr re h => ?_⟩
  show ta σ H fun vs H1 => spOf G n m vs H1 Q (WE W σ)
  refine am_step ea hr re (fun _ _ z => z) h fun ds S1 vs H1 ι1 t1 h1 r1 k1 q1 => ?_
  by_cases hl : ds.length = n
  · rw [if_pos hl] at q1
    exact ⟨by rw [r1.length]; exact hl, ι1, S1, ds, h1, r1, wpE_to t1 q1 k1⟩
  · rw [if_neg hl] at q1
    exact q1.elim

/-! ### methods -/
theorem x_m0 {id : String} {name : Str} {r : V → List V → Hp → VK → Prop} {f : Str → SS → Res D} (slot : Slot "str" name id) (ty : typeOf (.builtin id) = pure (.type "method_descriptor")) (rule : MtR X id r) (hf : OpS0 G r f) (ho : XE X G W o ma)
    (hbase : attributeBase o name X.env (eval o X.env) = eval o X.env := by rfl) (hline : (apos.endLine == pos.line) = true := by rfl) : XE X G W (.Call (.Attribute o name apos) [] [] pos) (mM0 f ma) := by
  obtain ⟨ta, pa, ea⟩ := ho
  refine ⟨_, pe_m0 slot ty rule pa hbase hline, fun σ H ι S env Q hr re h => ?_⟩
  show ta σ H fun x H1 => (∃ a, x = .str a) ∧ r x [] H1 Q
  refine em_step ea hr re (fun _ _ z => z) h fun d S1 v H1 ι1 t1 h1 r1 k1 q1 => ?_
  cases r1 with
  | str x => exact ⟨⟨x, rfl⟩, hf h1 (wpE_to t1 q1 k1)⟩
  | non => exact (show False from q1).elim
  | bl _ => exact (show False from q1).elim
  | int _ => exact (show False from q1).elim
  | tup _ _ => exact (show False from q1).elim
  | obj _ => exact (show False from q1).elim
  | fz _ _ => exact (show False from q1).elim
theorem x_m1 {id : String} {name : Str} {r : V → List V → Hp → VK → Prop} {f : Str → D → SS → Res D} (slot : Slot "str" name id) (ty : typeOf (.builtin id) = pure (.type "method_descriptor")) (rule : MtR X id r) (hf : OpS1 G r f) (ho : XE X G W o ma) (he : XE X G W e mb)
    (hs : starEach [e] X.env = [(false, eval e X.env)] := by rfl) (hbase : attributeBase o name X.env (eval o X.env) = eval o X.env := by rfl) (hline : (apos.endLine == pos.line) = true := by rfl) : XE X G W (.Call (.Attribute o name apos) [e] [] pos) (mM1 f ma mb) := by
  obtain ⟨ta, pa, ea⟩ := ho
  obtain ⟨tb, pb, eb⟩ := he
  refine ⟨_, pe_m1 slot ty rule pa pb hs hbase hline, fun σ H ι S env Q hr re h => ?_⟩
  show ta σ H fun x H1 => (∃ a, x = .str a) ∧ tb σ H1 fun y H2 => r x [y] H2 Q
  refine em_step ea hr re (fun _ _ z => z) h fun d S1 v H1 ι1 t1 h1 r1 k1 q1 => ?_
  cases r1 with
  | str x => exact ⟨⟨x, rfl⟩, em_step eb h1 (re.mono t1) k1 q1 fun d2 S2 v2 H2 ι2 t2 h2 r2 k2 q2 => hf h2 r2 (wpE_to (t1.trans t2) q2 k2)⟩
  | non => exact (show False from q1).elim
  | bl _ => exact (show False from q1).elim
  | int _ => exact (show False from q1).elim
  | tup _ _ => exact (show False from q1).elim
  | obj _ => exact (show False from q1).elim
  | fz _ _ => exact (show False from q1).elim
theorem l_m1 {id : String} {name : Str} {r : V → List V → Hp → VK → Prop} {f : Str → D → SS → Res (List D)} (slot : Slot "str" name id) (ty : typeOf (.builtin id) = pure (.type "method_descriptor")) (rule : MtR X id r) (hf : OpS1L G r f) (ho : XE X G W o ma) (he : XE X G W e mb)
    (hs : starEach [e] X.env = [(false, eval e X.env)] := by rfl) (hbase : attributeBase o name X.env (eval o X.env) = eval o X.env := by rfl) (hline : (apos.endLine == pos.line) = true := by rfl) : XL X G W (.Call (.Attribute o name apos) [e] [] pos) (mM1L f ma mb) := by
  obtain ⟨ta, pa, ea⟩ := ho
  obtain ⟨tb, pb, eb⟩ := he
  refine ⟨_, pe_m1 slot ty rule pa pb hs hbase hline, fun σ H ι S env Q hr re h => ?_⟩
  show ta σ H fun x H1 => (∃ a, x = .str a) ∧ tb σ H1 fun y H2 => r x [y] H2 Q
  refine em_step ea hr re (fun _ _ z => z) h fun d S1 v H1 ι1 t1 h1 r1 k1 q1 => ?_
  cases r1 with
  | str x => exact ⟨⟨x, rfl⟩, em_step eb h1 (re.mono t1) k1 q1 fun d2 S2 v2 H2 ι2 t2 h2 r2 k2 q2 => hf h2 r2 (wpL_to hr (t1.trans t2) q2 k2)⟩
  | non => exact (show False from q1).elim
  | bl _ => exact (show False from q1).elim
  | int _ => exact (show False from q1).elim
  | tup _ _ => exact (show False from q1).elim
  | obj _ => exact (show False from q1).elim
  | fz _ _ => exact (show False from q1).elim
/-- sep.join([..]), of a new list -/
def mM1OfL (f : Str → List D → SS → Res D) (o : ME) (a : MA) : ME := fun env S => (o env S).bind fun d S1 => match d with
  | .str x => (a env S1).bind fun xs S2 => f x xs S2
  | _ => .stk
def OpSL (G : Gx) (r : V → List V → Hp → VK → Prop) (f : Str → List D → SS → Res D) : Prop := ∀ {H : Hp} {ι : List Addr} {S : SS} {a : Str} {p : Addr} {vs : List V} {ds : List D} {Q : VK} {E : Exn → SS → Prop}, HR G H ι S → p ∉ ι → H p = some (.lst vs) → RpA G.K H ι vs ds → (f a ds S).wp (PostE G H ι Q) E → r (.str a) [.ref p] H Q
theorem x_m1ofL {id : String} {name : Str} {r : V → List V → Hp → VK → Prop} {f : Str → List D → SS → Res D} (slot : Slot "str" name id) (ty : typeOf (.builtin id) = pure (.type "method_descriptor")) (rule : MtR X id r) (hf : OpSL G r f) (ho : XE X G W o ma) (he : XL X G W e mr)
    (hs : starEach [e] X.env = [(false, eval e X.env)] := by rfl) (hbase : attributeBase o name X.env (eval o X.env) = eval o X.env := by rfl) (hline : (apos.endLine == pos.line) = true := by rfl) : XE X G W (.Call (.Attribute o name apos) [e] [] pos) (mM1OfL f ma mr) := by
  obtain ⟨ta, pa, ea⟩ := ho
  obtain ⟨tb, pb, eb⟩ := he
  refine ⟨_, pe_m1 slot ty rule pa pb hs hbase hline, fun σ H ι S env Q hr re h => ?_⟩
  show ta σ H fun x H1 => (∃ a, x = .str a) ∧ tb σ H1 fun y H2 => r x [y] H2 Q
  refine em_step ea hr re (fun _ _ z => z) h fun d S1 v H1 ι1 t1 h1 r1 k1 q1 => ?_
  cases r1 with
  | str x => exact ⟨⟨x, rfl⟩, lm_step eb h1 (re.mono t1) k1 q1 fun ds S2 q vs H2 ι2 t2 h2 hp hn e2 r2 k2 q2 => hf h2 hn e2 r2 (wpE_to (t1.trans t2) q2 k2)⟩
  | non => exact (show False from q1).elim
  | bl _ => exact (show False from q1).elim
  | int _ => exact (show False from q1).elim
  | tup _ _ => exact (show False from q1).elim
  | obj _ => exact (show False from q1).elim
  | fz _ _ => exact (show False from q1).elim
theorem x_bm {T id : String} {name : Str} {ty : D → SS → Bool} {r : V → List V → Hp → VK → Prop} {f : D → List D → SS → Res D} (pa : PlainAttrs T) (slot : Slot T name id) (hty : typeOf (.builtin id) = pure (.type "method_descriptor")) (hm : MtR X id r) (hf : OpM G T r f)
    (ht : ∀ {H : Hp} {ι : List Addr} {S : SS} {x : V} {d : D}, HR G H ι S → Rp G.K H ι x d → ty d S = true → tyV X.K T x H) (ho : XE X G W o ma) (ha : XA X G W (e :: es) mr)
    (hbase : attributeBase o name X.env (eval o X.env) = eval o X.env := by rfl)
    (hfew : ((backTo cpos (starEach (e :: es) X.env)).all (fun x => !x.1) && (backToKw cpos (keywordEach [] X.env)).all (fun x => x.1.isSome)
      && decide ((e :: es).length + ([] : List Keyword).length + (if ([] : List Keyword).isEmpty then 0 else 1) < 30)) = true := by rfl)
    (hline : (apos.endLine == cpos.line) = true := by rfl) (hs : starEach (e :: es) X.env = (false, eval e X.env) :: starEach es X.env := by rfl) (hplain : (backTo cpos (starEach es X.env)).any (·.1) = false := by rfl) :
    XE X G W (.Call (.Attribute o name apos) (e :: es) [] cpos) (mMeth ty f ma mr) := by
  obtain ⟨ta, pa', ea⟩ := ho
  obtain ⟨tr, pr, er⟩ := ha
  refine ⟨_, pe_bm pa slot hty hm pa' pr hbase hfew hline hs hplain, fun σ H ι S env Q hr re h => ?_⟩
  show ta σ H fun x H1 => tyV X.K T x H1 ∧ tr σ H1 fun xs H2 => r x xs H2 Q
  refine em_step ea hr re (fun _ _ z => z) h fun d S1 v H1 ι1 t1 h1 r1 k1 q1 => ?_
  by_cases hz : ty d S1 = true
  · rw [if_pos hz] at q1
    exact ⟨ht h1 r1 hz, am_step er h1 (re.mono t1) k1 q1 fun ds S2 vs H2 ι2 t2 h2 r2 k2 q2 => hf h2 (Rp.mono t2 _ r1) r2 (wpE_to (t1.trans t2) q2 k2)⟩
  · rw [if_neg hz] at q1
    exact q1.elim
theorem x_bm0 {T id : String} {name : Str} {ty : D → SS → Bool} {r : V → List V → Hp → VK → Prop} {f : D → List D → SS → Res D} (pa : PlainAttrs T) (slot : Slot T name id) (hty : typeOf (.builtin id) = pure (.type "method_descriptor")) (hm : MtR X id r) (hf : OpM G T r f)
    (ht : ∀ {H : Hp} {ι : List Addr} {S : SS} {x : V} {d : D}, HR G H ι S → Rp G.K H ι x d → ty d S = true → tyV X.K T x H) (ho : XE X G W o ma)
    (hbase : attributeBase o name X.env (eval o X.env) = eval o X.env := by rfl) (hline : (apos.endLine == cpos.line) = true := by rfl) : XE X G W (.Call (.Attribute o name apos) [] [] cpos) (mMeth ty f ma mNil) := by
  obtain ⟨ta, pa', ea⟩ := ho
  refine ⟨_, pe_bm0 pa slot hty hm pa' hbase hline, fun σ H ι S env Q hr re h => ?_⟩
  show ta σ H fun x H1 => tyV X.K T x H1 ∧ r x [] H1 Q
  refine em_step ea hr re (fun _ _ z => z) h fun d S1 v H1 ι1 t1 h1 r1 k1 q1 => ?_
  by_cases hz : ty d S1 = true
  · rw [if_pos hz] at q1
    exact ⟨ht h1 r1 hz, hf h1 r1 .nil (wpE_to t1 q1 k1)⟩
  · rw [if_neg hz] at q1
    exact q1.elim

/-! ### subscripts, slices -/
theorem x_ix {r : R2} {f : D → D → SS → Res D} (hi : IxR X r) (hf : Op2 G r f) (ha : XE X G W a ma) (hb : XE X G W b mb) (hs : PlainIx b) : XE X G W (.Subscript a b pos) (mOp2 f ma mb) := by
  obtain ⟨ta, pa, ea⟩ := ha
  obtain ⟨tb, pb, eb⟩ := hb
  refine ⟨_, pe_ix hi pa pb hs, fun σ H ι S env Q hr re h => ?_⟩
  show ta σ H fun x H1 => tb σ H1 fun y H2 => r x y H2 Q
  refine em_step ea hr re (fun _ _ z => z) h fun d S1 v H1 ι1 t1 h1 r1 k1 q1 => ?_
  refine em_step eb h1 (re.mono t1) k1 q1 fun d2 S2 v2 H2 ι2 t2 h2 r2 k2 q2 => ?_
  exact hf h2 (Rp.mono t2 _ r1) r2 (wpE_to (t1.trans t2) q2 k2)
theorem o_none : XO X G W none mNoP := ⟨_, po_none, fun σ H ι S env Q hr re h => h H ι Tr.refl hr⟩
theorem o_some (ha : XE X G W a ma) : XO X G W (some a) (mP ma) := by
  obtain ⟨ta, pa, ea⟩ := ha
  refine ⟨_, po_some pa, fun σ H ι S env Q hr re h => ?_⟩
  show ta σ H fun x H1 => ∃ i, x = .int i ∧ Q (some i) H1
  refine em_step ea hr re (fun _ _ z => z) h fun d S1 v H1 ι1 t1 h1 r1 k1 q1 => ?_
  cases r1 with
  | int i => exact ⟨i, rfl, q1 H1 ι1 t1 h1⟩
  | non => exact (show False from q1).elim
  | bl _ => exact (show False from q1).elim
  | str _ => exact (show False from q1).elim
  | tup _ _ => exact (show False from q1).elim
  | obj _ => exact (show False from q1).elim
  | fz _ _ => exact (show False from q1).elim
theorem xo_step {t : TO} {m : MO} {σ : St} {H : Hp} {ι : List Addr} {S : SS} {env : En} {β : Type} {k : Option Int → SS → Res β} {P : β → SS → Prop} {E : Exn → SS → Prop} {Q : Option Int → Hp → Prop}
    (he : ∀ (σ : St) (H : Hp) (ι : List Addr) (S : SS) (env : En) (Q : Option Int → Hp → Prop), HR G H ι S → RE G.K H ι σ env → (m env S).wp (fun o S' => ∀ H' ι', Tr H ι H' ι' → HR G H' ι' S' → Q o H') (PostX G H ι W σ) → t σ H Q)
    (hr : HR G H ι S) (re : RE G.K H ι σ env)
    (hE : ∀ x s, E x s → PostX G H ι W σ x s) (h : ((m env S).bind k).wp P E) (hk : ∀ d S1 H1 ι1, Tr H ι H1 ι1 → HR G H1 ι1 S1 → (∀ x s, E x s → PostX G H1 ι1 W σ x s) → (k d S1).wp P E → Q d H1) : t σ H Q :=
  he σ H ι S env Q hr re ((Res.wp_bind h).mono (fun d S1 q H1 ι1 t h1 => hk d S1 H1 ι1 t h1 (fun x s z => PostX.mono t (hE x s z)) q) hE)
theorem x_slice {lo hi : Option Expr} {p2 : Pos} {r : V → Option Int → Option Int → Hp → VK → Prop} {f : D → Option Int → Option Int → SS → Res D} (hs : SlR X r) (hf : OpSl G r f) (ha : XE X G W a ma) (hl : XO X G W lo ml) (hh : XO X G W hi mh) :
    XE X G W (.Subscript a (.Slice lo hi none p2) pos) (mSl f ma ml mh) := by
  obtain ⟨ta, pa, ea⟩ := ha
  obtain ⟨tl, pl, el⟩ := hl
  obtain ⟨th, ph, eh⟩ := hh
  refine ⟨_, pe_slice hs pa pl ph, fun σ H ι S env Q hr re h => ?_⟩
  show ta σ H fun x H1 => tl σ H1 fun l H2 => th σ H2 fun u H3 => r x l u H3 Q
  refine em_step ea hr re (fun _ _ z => z) h fun d S1 v H1 ι1 t1 h1 r1 k1 q1 => ?_
  refine xo_step el h1 (re.mono t1) k1 q1 fun l S2 H2 ι2 t2 h2 k2 q2 => ?_
  refine xo_step eh h2 ((re.mono t1).mono t2) k2 q2 fun u S3 H3 ι3 t3 h3 k3 q3 => ?_
  exact hf h3 (Rp.mono (t2.trans t3) _ r1) (wpE_to ((t1.trans t2).trans t3) q3 k3)
theorem l_slice {lo hi : Option Expr} {p2 : Pos} {r : V → Option Int → Option Int → Hp → VK → Prop} {f : D → Option Int → Option Int → SS → Res (List D)} (hs : SlR X r) (hf : OpSlL G r f) (ha : XE X G W a ma) (hl : XO X G W lo ml) (hh : XO X G W hi mh) :
    XL X G W (.Subscript a (.Slice lo hi none p2) pos) (mSlL f ma ml mh) := by
  obtain ⟨ta, pa, ea⟩ := ha
  obtain ⟨tl, pl, el⟩ := hl
  obtain ⟨th, ph, eh⟩ := hh
  refine ⟨_, pe_slice hs pa pl ph, fun σ H ι S env Q hr re h => ?_⟩
  show ta σ H fun x H1 => tl σ H1 fun l H2 => th σ H2 fun u H3 => r x l u H3 Q
  refine em_step ea hr re (fun _ _ z => z) h fun d S1 v H1 ι1 t1 h1 r1 k1 q1 => ?_
  refine xo_step el h1 (re.mono t1) k1 q1 fun l S2 H2 ι2 t2 h2 k2 q2 => ?_
  refine xo_step eh h2 ((re.mono t1).mono t2) k2 q2 fun u S3 H3 ι3 t3 h3 k3 q3 => ?_
  exact hf h3 (Rp.mono (t2.trans t3) _ r1) (wpL_to hr ((t1.trans t2).trans t3) q3 k3)

/-! ### truth of any value; f-strings -/
theorem t_tru {tr : D → SS → Option Bool} (ht : ∀ {H : Hp} {ι : List Addr} {S : SS} {x : V} {d : D} {b : Bool}, HR G H ι S → Rp G.K H ι x d → tr d S = some b → TruV X.K x H b) (ha : XE X G W a ma)
    (he : ∀ whole, isTrue a X.env whole = (do let v ← whole; standAt a.pos; holding [v] (truthy v)) := by intro _; rfl) : XT X G W a (mTru tr ma) := by
  obtain ⟨ta, pa, ea⟩ := ha
  refine ⟨_, pt_truth pa he, fun σ H ι S env Q hr re h => ?_⟩
  show ta σ H fun x H' => ∃ k, TruV X.K x H' k ∧ Q k H'
  refine em_step ea hr re (fun _ _ z => z) h fun d S1 v H1 ι1 t1 h1 r1 k1 q1 => ?_
  cases e : tr d S1 with
  | none => rw [e] at q1; exact q1.elim
  | some b =>
    rw [e] at q1
    exact ⟨b, ht h1 r1 e, q1 H1 ι1 t1 h1⟩
theorem x_fmt (ha : XE X G W a ma) : XE X G W (.FormattedValue a (-1) none pos) (mFmt ma) := by
  obtain ⟨ta, pa, ea⟩ := ha
  refine ⟨_, pe_fmt pa, fun σ H ι S env Q hr re h => ?_⟩
  show ta σ H fun x H1 => (∃ y : Str, x = .str y ∧ y.length ≤ sizeLine ∧ Q (.str y) H1) ∨ ∃ i : Int, x = .int i ∧ i.natAbs.log2 < 1920 ∧ Q (.str (toString i)) H1
  refine em_step ea hr re (fun _ _ z => z) h fun d S1 v H1 ι1 t1 h1 r1 k1 q1 => ?_
  cases r1 with
  | str y =>
    by_cases hl : y.length ≤ 1000000
    · exact .inl ⟨y, rfl, small_line hl, (show PostE G H ι Q (.str y) S1 from by simp only [if_pos hl] at q1; exact q1) (.str y) H1 ι1 t1 h1 (.str y)⟩
    · exact ((show False from by simp only [if_neg hl] at q1; exact q1)).elim
  | int i =>
    by_cases hl : i.natAbs.log2 < 1920
    · exact .inr ⟨i, rfl, hl, (show PostE G H ι Q (.str (toString i)) S1 from by simp only [if_pos hl] at q1; exact q1) (.str (toString i)) H1 ι1 t1 h1 (.str _)⟩
    · exact ((show False from by simp only [if_neg hl] at q1; exact q1)).elim
  | non => exact (show False from q1).elim
  | bl _ => exact (show False from q1).elim
  | tup _ _ => exact (show False from q1).elim
  | obj _ => exact (show False from q1).elim
  | fz _ _ => exact (show False from q1).elim
/-- the parts of an f-string -/
inductive XJ (X : Cx) (G : Gx) (W : WX) : List Expr → List ME → Prop
  | nil : XJ X G W [] []
  | cons {e : Expr} {m : ME} {es : List Expr} {ms : List ME} : XE X G W e m → XJ X G W es ms → XJ X G W (e :: es) (m :: ms)
theorem XJ.run : ∀ {es : List Expr} {ms : List ME}, XJ X G W es ms → ∃ ts, PJ X es ts ∧ ∀ (acc : Str) (σ : St) (H : Hp) (ι : List Addr) (S : SS) (env : En) (Q : Str → Hp → Prop), HR G H ι S → RE G.K H ι σ env →
    (mJs ms acc env S).wp (fun y S' => ∀ H' ι', Tr H ι H' ι' → HR G H' ι' S' → Q y H') (PostX G H ι W σ) → tJs ts acc σ H Q
  | _, _, .nil => ⟨[], .nil, fun acc σ H ι S env Q hr re h => h H ι Tr.refl hr⟩
  | _, _, .cons (m := m) (ms := ms) ⟨te, pe, ee⟩ hx => by
    obtain ⟨ts, pj, ej⟩ := XJ.run hx
    refine ⟨te :: ts, .cons pe pj, fun acc σ H ι S env Q hr re h => ?_⟩
    show te σ H fun x H1 => ∃ y : Str, x = .str y ∧ (acc ++ y).length ≤ sizeLine ∧ tJs ts (acc ++ y) σ H1 Q
    have h' : ((m env S).bind fun x S1 => match x with
      | .str y => if (acc ++ y).length ≤ 1000000 then mJs ms (acc ++ y) env S1 else .stk
      | _ => .stk).wp (fun y S' => ∀ H' ι', Tr H ι H' ι' → HR G H' ι' S' → Q y H') (PostX G H ι W σ) := h
    refine em_step ee hr re (fun _ _ z => z) h' fun d S1 v H1 ι1 t1 h1 r1 k1 q1 => ?_
    cases r1 with
    | str y =>
      by_cases hl : (acc ++ y).length ≤ 1000000
      · have q2 : (mJs ms (acc ++ y) env S1).wp (fun y S' => ∀ H' ι', Tr H ι H' ι' → HR G H' ι' S' → Q y H') (PostX G H ι W σ) := by simpa only [if_pos hl] using q1
        exact ⟨y, rfl, small_line hl, ej _ σ H1 ι1 S1 env Q h1 (re.mono t1) (q2.mono (fun y S' q H' ι' t => q H' ι' (t1.trans t)) k1)⟩
      · exact ((show False from by simp only [if_neg hl] at q1; exact q1)).elim
    | non => exact (show False from q1).elim
    | int _ => exact (show False from q1).elim
    | bl _ => exact (show False from q1).elim
    | tup _ _ => exact (show False from q1).elim
    | obj _ => exact (show False from q1).elim
    | fz _ _ => exact (show False from q1).elim
theorem x_joined {v1 v2 : Expr} {rest : List Expr} {ms : List ME} (h : XJ X G W (v1 :: v2 :: rest) ms) : XE X G W (.JoinedStr (v1 :: v2 :: rest) pos) (mJoined ms) := by
  obtain ⟨ts, pj, ej⟩ := h.run
  refine ⟨_, pe_joined pj, fun σ H ι S env Q hr re h => ?_⟩
  show tJs ts Str.empty σ H fun out H1 => Q (.str out) H1
  exact ej Str.empty σ H ι S env _ hr re ((Res.wp_bind h).mono (fun y S1 q H1 ι1 t h1 => (show PostE G H ι Q (.str y) S1 from q) (.str y) H1 ι1 t h1 (.str y)) fun _ _ z => z)
end
end FW

set_option Elab.async false
set_option linter.all false
set_option maxRecDepth 100000
set_option maxHeartbeats 4000000
/-! The M layer, 4: statements. -/
namespace FW
open PySem PySem.Spec L2

inductive RF where
  | nx (e : En) (S : SS) | rt (d : D) (S : SS) | bk (e : En) (S : SS) | ct (e : En) (S : SS) | ex (x : Exn) (e : En) (S : SS) | stk
structure FP where
  nx : En → SS → Prop
  rt : D → SS → Prop
  bk : En → SS → Prop
  ct : En → SS → Prop
  ex : Exn → En → SS → Prop
def RF.wp (r : RF) (P : FP) : Prop := match r with
  | .nx e S => P.nx e S
  | .rt d S => P.rt d S
  | .bk e S => P.bk e S
  | .ct e S => P.ct e S
  | .ex x e S => P.ex x e S
  | .stk => False
abbrev MS := En → SS → RF
/-- a value, then what is done with it -/
def lft {α : Type} (r : Res α) (env : En) (k : α → SS → RF) : RF := match r with
  | .ok a S => k a S
  | .exc x S => .ex x env S
  | .stk => .stk
@[simp] theorem lft_ok {α : Type} (a : α) (S : SS) (env : En) (k : α → SS → RF) : lft (.ok a S) env k = k a S := rfl
@[simp] theorem lft_exc {α : Type} (x : Exn) (S : SS) (env : En) (k : α → SS → RF) : lft (.exc x S : Res α) env k = .ex x env S := rfl
@[simp] theorem lft_stk {α : Type} (env : En) (k : α → SS → RF) : lft (.stk : Res α) env k = .stk := rfl
def mSeq (a b : MS) : MS := fun env S => match a env S with
  | .nx e1 S1 => b e1 S1
  | r => r
def mSet (i : Nat) (m : ME) : MS := fun env S => lft (m env S) env fun d S1 => .nx (env.set i (some d)) S1
def mDrop (m : ME) : MS := fun env S => lft (m env S) env fun _ S1 => .nx env S1
def mRet (m : ME) : MS := fun env S => lft (m env S) env fun d S1 => .rt d S1
def mRetN : MS := fun _ S => .rt .non S
def mNext : MS := fun env S => .nx env S
def mBrk : MS := fun env S => .bk env S
def mCnt : MS := fun env S => .ct env S
def mIfS (c : MT) (a b : MS) : MS := fun env S => lft (c env S) env fun x S1 => if x = true then a env S1 else b env S1
def mRaise (n : Str) : MS := fun env S => .ex ⟨n, none⟩ env S
def mAugI (i : Nat) (f : Int → Int → Int) (m : ME) : MS := fun env S => match env[i]? with
  | some (some (.int a)) => lft (m env S) env fun d S1 => match d with
    | .int b => .nx (env.set i (some (.int (f a b)))) S1
    | _ => .stk
  | _ => .stk
def mPar (i j : Nat) (m : MA) : MS := fun env S => lft (m env S) env fun ds S1 => match ds with
  | [a, b] => .nx ((env.set i (some a)).set j (some b)) S1
  | _ => .stk
/-! targets -/
abbrev MG := D → En → SS → Res En
def gmName (i : Nat) : MG := fun d env S => .ok (env.set i (some d)) S
def gmAll : List MG → List D → En → SS → Res En
  | [], [], env, S => .ok env S
  | g :: gs, d :: ds, env, S => (g d env S).bind fun e1 S1 => gmAll gs ds e1 S1
  | _, _, _, _ => .stk
def gmTup (gs : List MG) : MG := fun d env S => match d with
  | .tup ds => if ds.length = gs.length then gmAll gs ds env S else .stk
  | _ => .stk
/-- what a target leaves; nothing is raised -/
def Res.hush {α : Type} (r : Res α) (k : α → SS → RF) : RF := match r with
  | .ok a S => k a S
  | _ => .stk
@[simp] theorem hush_ok {α : Type} (a : α) (S : SS) (k : α → SS → RF) : (Res.ok a S).hush k = k a S := rfl
def mAsg (g : MG) (m : ME) : MS := fun env S => lft (m env S) env fun d S1 => (g d env S1).hush .nx

theorem RF.wp.mono {r : RF} {P P' : FP} (h : r.wp P) (h1 : ∀ e S, P.nx e S → P'.nx e S) (h2 : ∀ d S, P.rt d S → P'.rt d S) (h3 : ∀ e S, P.bk e S → P'.bk e S) (h4 : ∀ e S, P.ct e S → P'.ct e S) (h5 : ∀ x e S, P.ex x e S → P'.ex x e S) : r.wp P' := by
  cases r with
  | nx e S => exact h1 e S h
  | rt d S => exact h2 d S h
  | bk e S => exact h3 e S h
  | ct e S => exact h4 e S h
  | ex x e S => exact h5 x e S h
  | stk => exact h
abbrev PostN (G : Gx) (H : Hp) (ι : List Addr) (Q : St → Hp → Prop) : En → SS → Prop := fun e S => ∀ σ' H' ι', Tr H ι H' ι' → HR G H' ι' S → RE G.K H' ι' σ' e → Q σ' H'
abbrev PostXF (G : Gx) (H : Hp) (ι : List Addr) (W : WX) : Exn → En → SS → Prop := fun x e S => ∀ cls dd σ' H' ι', Tr H ι H' ι' → HR G H' ι' S → RE G.K H' ι' σ' e → XRp G H' ι' x cls dd → W cls dd σ' H'
def postF (G : Gx) (H : Hp) (ι : List Addr) (W : WX) (Dn : Ends) : FP :=
  ⟨PostN G H ι Dn.nx, PostE G H ι Dn.rt, PostN G H ι Dn.bk, PostN G H ι Dn.ct, PostXF G H ι W⟩
def SM (G : Gx) (W : WX) (ts : TS) (m : MS) : Prop := ∀ (σ : St) (H : Hp) (ι : List Addr) (S : SS) (env : En) (Dn : Ends), HR G H ι S → RE G.K H ι σ env → (m env S).wp (postF G H ι W Dn) → ts Dn σ H
def XS (X : Cx) (G : Gx) (W : WX) (st : Stmt) (m : MS) : Prop := ∃ t, PS X st t ∧ SM G W t m
def XSs (X : Cx) (G : Gx) (W : WX) (sts : List Stmt) (m : MS) : Prop := ∃ t, PSs X sts t ∧ SM G W t m
def GM (G : Gx) (W : WX) (g : TG) (m : MG) : Prop := ∀ (v : V) (d : D) (σ : St) (H : Hp) (ι : List Addr) (S : SS) (env : En) (Q : St → Hp → Prop), HR G H ι S → RE G.K H ι σ env → Rp G.K H ι v d →
  (m d env S).wp (PostN G H ι Q) (fun _ _ => False) → g v σ H Q
def XG (X : Cx) (G : Gx) (W : WX) (tg : Expr) (m : MG) : Prop := ∃ g, PG X tg g ∧ GM G W g m
section
variable {G : Gx} {H H1 : Hp} {ι ι1 : List Addr} {S : SS} {W : WX} {Dn : Ends}
theorem PostN.mono {Q : St → Hp → Prop} {e : En} (t : Tr H ι H1 ι1) (h : PostN G H ι Q e S) : PostN G H1 ι1 Q e S := fun σ' H' ι' u => h σ' H' ι' (t.trans u)
theorem PostXF.mono {x : Exn} {e : En} (t : Tr H ι H1 ι1) (h : PostXF G H ι W x e S) : PostXF G H1 ι1 W x e S := fun c dd σ' H' ι' u => h c dd σ' H' ι' (t.trans u)
theorem wpF_to {r : RF} (t : Tr H ι H1 ι1) (h : r.wp (postF G H ι W Dn)) : r.wp (postF G H1 ι1 W Dn) :=
  h.mono (fun _ _ q => PostN.mono t q) (fun _ _ q => PostE.mono t q) (fun _ _ q => PostN.mono t q) (fun _ _ q => PostN.mono t q) fun _ _ _ q => PostXF.mono t q
/-- the same, with another family that Tr may weaken -/
theorem ex_of {σ : St} {env : En} {x : Exn} {s : SS} (re : RE G.K H ι σ env) (h : PostXF G H ι W x env s) : PostX G H ι W σ x s := fun c dd H' ι' t hr xr => h c dd σ H' ι' t hr (re.mono t) xr
/-- a value ahead of a statement's rest -/
theorem emF {te : TE} {m : ME} {σ : St} {env : En} {k : D → SS → RF} {P : FP} {Q : VK} (he : EM G W te m) (hr : HR G H ι S) (re : RE G.K H ι σ env) (hP : ∀ x e s, P.ex x e s → PostXF G H ι W x e s) (h : (lft (m env S) env k).wp P)
    (hk : ∀ d S1 v H1 ι1, Tr H ι H1 ι1 → HR G H1 ι1 S1 → Rp G.K H1 ι1 v d → (k d S1).wp P → Q v H1) : te σ H Q := by
  refine he σ H ι S env Q hr re ?_
  cases e : m env S with
  | ok d S1 => rw [e] at h; exact fun v H1 ι1 t h1 r1 => hk d S1 v H1 ι1 t h1 r1 h
  | exc x S1 => rw [e] at h; exact ex_of re (hP _ _ _ h)
  | stk => rw [e] at h; exact h
theorem tmF {tt : TT} {m : MT} {σ : St} {env : En} {k : Bool → SS → RF} {P : FP} {Q : Bool → Hp → Prop} (he : TM G W tt m) (hr : HR G H ι S) (re : RE G.K H ι σ env) (hP : ∀ x e s, P.ex x e s → PostXF G H ι W x e s) (h : (lft (m env S) env k).wp P)
    (hk : ∀ d S1 H1 ι1, Tr H ι H1 ι1 → HR G H1 ι1 S1 → (k d S1).wp P → Q d H1) : tt σ H Q := by
  refine he σ H ι S env Q hr re ?_
  cases e : m env S with
  | ok d S1 => rw [e] at h; exact fun H1 ι1 t h1 => hk d S1 H1 ι1 t h1 h
  | exc x S1 => rw [e] at h; exact ex_of re (hP _ _ _ h)
  | stk => rw [e] at h; exact h
theorem amF {ta : TA} {m : MA} {σ : St} {env : En} {k : List D → SS → RF} {P : FP} {Q : List V → Hp → Prop} (he : AM G W ta m) (hr : HR G H ι S) (re : RE G.K H ι σ env) (hP : ∀ x e s, P.ex x e s → PostXF G H ι W x e s) (h : (lft (m env S) env k).wp P)
    (hk : ∀ d S1 v H1 ι1, Tr H ι H1 ι1 → HR G H1 ι1 S1 → RpA G.K H1 ι1 v d → (k d S1).wp P → Q v H1) : ta σ H Q := by
  refine he σ H ι S env Q hr re ?_
  cases e : m env S with
  | ok d S1 => rw [e] at h; exact fun v H1 ι1 t h1 r1 => hk d S1 v H1 ι1 t h1 r1 h
  | exc x S1 => rw [e] at h; exact ex_of re (hP _ _ _ h)
  | stk => rw [e] at h; exact h
theorem lmF {te : TE} {m : MA} {σ : St} {env : En} {k : List D → SS → RF} {P : FP} {Q : VK} (he : LM G W te m) (hr : HR G H ι S) (re : RE G.K H ι σ env) (hP : ∀ x e s, P.ex x e s → PostXF G H ι W x e s) (h : (lft (m env S) env k).wp P)
    (hk : ∀ ds S1 p vs H1 ι1, Tr H ι H1 ι1 → HR G H1 ι1 S1 → NF H p → p ∉ ι1 → H1 p = some (.lst vs) → RpA G.K H1 ι1 vs ds → (k ds S1).wp P → Q (.ref p) H1) : te σ H Q := by
  refine he σ H ι S env Q hr re ?_
  cases e : m env S with
  | ok d S1 => rw [e] at h; exact fun p vs H1 ι1 t h1 hp hn e1 r1 => hk d S1 p vs H1 ι1 t h1 hp hn e1 r1 h
  | exc x S1 => rw [e] at h; exact ex_of re (hP _ _ _ h)
  | stk => rw [e] at h; exact h
end
section
variable {X : Cx} {G : Gx} {W : WX} {a b c e : Expr} {st : Stmt} {rest : List Stmt} {pos pos' : Pos} {ma mb : ME} {mt : MT} {mr : MA} {m m' : MS}
theorem ss_nil : XSs X G W [] mNext := ⟨_, pss_nil, fun σ H ι S env Dn hr re h => (show PostN G H ι Dn.nx env S from h) σ H ι Tr.refl hr re⟩
theorem ss_one (h : XS X G W st m) : XSs X G W [st] m := by
  obtain ⟨t, p, s⟩ := h
  exact ⟨t, pss_one p, s⟩
theorem ss_cons (h : XS X G W st m) (h2 : XSs X G W rest m') : XSs X G W (st :: rest) (mSeq m m') := by
  obtain ⟨t, p, s⟩ := h
  obtain ⟨u, p2, s2⟩ := h2
  refine ⟨_, pss_cons p p2, fun σ H ι S env Dn hr re h => ?_⟩
  show t { Dn with nx := u Dn } σ H
  refine s σ H ι S env _ hr re ?_
  unfold mSeq at h
  cases e : m env S with
  | nx e1 S1 =>
    rw [e] at h
    exact fun σ' H' ι' tr hr' re' => s2 σ' H' ι' S1 e1 Dn hr' re' (wpF_to tr h)
  | rt d S1 => rw [e] at h; exact h
  | bk e1 S1 => rw [e] at h; exact h
  | ct e1 S1 => rw [e] at h; exact h
  | ex x e1 S1 => rw [e] at h; exact h
  | stk => rw [e] at h; exact h
theorem s_pass : XS X G W (.Pass pos) mNext := ⟨_, ps_pass, fun σ H ι S env Dn hr re h => (show PostN G H ι Dn.nx env S from h) σ H ι Tr.refl hr re⟩
theorem s_brk : XS X G W (.Break pos) mBrk := ⟨_, ps_break, fun σ H ι S env Dn hr re h => (show PostN G H ι Dn.bk env S from h) σ H ι Tr.refl hr re⟩
theorem s_cnt : XS X G W (.Continue pos) mCnt := ⟨_, ps_continue, fun σ H ι S env Dn hr re h => (show PostN G H ι Dn.ct env S from h) σ H ι Tr.refl hr re⟩
theorem s_set {i : Nat} {x : Str} (hN : X.N.Nodup) (hi : X.N[i]? = some x) (hx : Loc X.env.scope x) (ha : XE X G W a ma) (hs : swapsWith a (some (.Name x pos')) pos.line X.env = pure false := by rfl)
    (hf : X.fn x = true ∨ X.env.scope.names.lookup x = some .local := by first | exact .inl rfl | exact .inr rfl | assumption) : XS X G W (.Assign [.Name x pos'] a pos) (mSet i ma) := by
  obtain ⟨ta, pa, ea⟩ := ha
  refine ⟨_, ps_set hN hi hx pa hs hf, fun σ H ι S env Dn hr re h => ?_⟩
  show ta σ H fun x H1 => Dn.nx (σ.set i (some x)) H1
  exact emF ea hr re (fun _ _ _ z => z) h fun d S1 v H1 ι1 t1 h1 r1 q1 => (show PostN G H ι Dn.nx (env.set i (some d)) S1 from q1) _ H1 ι1 t1 h1 ((re.mono t1).set r1)
theorem s_drop (ha : XE X G W a ma) (hs : swapsWith a none pos.line X.env = pure false := by rfl) : XS X G W (.Expr a pos) (mDrop ma) := by
  obtain ⟨ta, pa, ea⟩ := ha
  refine ⟨_, ps_expr pa hs, fun σ H ι S env Dn hr re h => ?_⟩
  show ta σ H fun _ H1 => Dn.nx σ H1
  exact emF ea hr re (fun _ _ _ z => z) h fun d S1 v H1 ι1 t1 h1 r1 q1 => (show PostN G H ι Dn.nx env S1 from q1) _ H1 ι1 t1 h1 (re.mono t1)
theorem s_ret (ha : XE X G W a ma) : XS X G W (.Return (some a) pos) (mRet ma) := by
  obtain ⟨ta, pa, ea⟩ := ha
  refine ⟨_, ps_ret pa, fun σ H ι S env Dn hr re h => ?_⟩
  show ta σ H Dn.rt
  exact emF ea hr re (fun _ _ _ z => z) h fun d S1 v H1 ι1 t1 h1 r1 q1 => (show PostE G H ι Dn.rt d S1 from q1) v H1 ι1 t1 h1 r1
theorem s_retN : XS X G W (.Return none pos) mRetN := ⟨_, ps_retN, fun σ H ι S env Dn hr re h => (show PostE G H ι Dn.rt .non S from h) .non H ι Tr.refl hr .non⟩
theorem s_if {sa sb : List Stmt} (hc : XT X G W c mt) (ha : XSs X G W sa m) (hb : XSs X G W sb m') : XS X G W (.If c sa sb pos) (mIfS mt m m') := by
  obtain ⟨tc, pc, ec⟩ := hc
  obtain ⟨ta, pa, ea⟩ := ha
  obtain ⟨tb, pb, eb⟩ := hb
  refine ⟨_, ps_if pc pa pb, fun σ H ι S env Dn hr re h => ?_⟩
  show tc σ H fun b H1 => if b = true then ta Dn σ H1 else tb Dn σ H1
  refine tmF ec hr re (fun _ _ _ z => z) h fun d S1 H1 ι1 t1 h1 q1 => ?_
  cases d with
  | true => exact ea σ H1 ι1 S1 env Dn h1 (re.mono t1) (wpF_to t1 (show (m env S1).wp _ from q1))
  | false => exact eb σ H1 ι1 S1 env Dn h1 (re.mono t1) (wpF_to t1 (show (m' env S1).wp _ from q1))
theorem s_augI {i : Nat} {x : Str} {op : Operator} {f : Int → Int → Int} (hN : X.N.Nodup) (hi : X.N[i]? = some x) (hx : Loc X.env.scope x) (ho : PIp X op (ipI f)) (ha : XE X G W a ma)
    (hf : X.fn x = true ∨ X.env.scope.names.lookup x = some .local := by first | exact .inl rfl | exact .inr rfl | assumption) : XS X G W (.AugAssign (.Name x pos') op a pos) (mAugI i f ma) := by
  obtain ⟨ta, pa, ea⟩ := ha
  refine ⟨_, ps_aug hN hi hx pa ho hf, fun σ H ι S env Dn hr re h => ?_⟩
  show ∃ x, σ[i]? = some (some x) ∧ ta σ H fun y H1 => ipI f x y H1 fun z H2 => Dn.nx (σ.set i (some z)) H2
  unfold mAugI at h
  cases q : env[i]? with
  | none => rw [q] at h; exact h.elim
  | some o =>
    rw [q] at h
    cases o with
    | none => exact h.elim
    | some d =>
      obtain ⟨v, h1, h2⟩ := re.get i d q
      cases h2 with
      | int n =>
        refine ⟨.int n, h1, emF ea hr re (fun _ _ _ z => z) h fun d S1 v H1 ι1 t1 h1 r1 q1 => ?_⟩
        cases r1 with
        | int k => exact ⟨n, k, rfl, rfl, (show PostN G H ι Dn.nx _ S1 from q1) _ H1 ι1 t1 h1 ((re.mono t1).set (.int _))⟩
        | non => exact (show False from q1).elim
        | bl _ => exact (show False from q1).elim
        | str _ => exact (show False from q1).elim
        | tup _ _ => exact (show False from q1).elim
        | obj _ => exact (show False from q1).elim
        | fz _ _ => exact (show False from q1).elim
      | non => exact (show False from h).elim
      | bl _ => exact (show False from h).elim
      | str _ => exact (show False from h).elim
      | tup _ _ => exact (show False from h).elim
      | obj _ => exact (show False from h).elim
      | fz _ _ => exact (show False from h).elim
theorem s_par {i j : Nat} {x y : Str} {px py pt : Pos} {kt k2 : Nat} {pt2 : Pos} (hc : X.calm = true) (hN : X.N.Nodup) (hi : X.N[i]? = some x) (hj : X.N[j]? = some y) (hij : i ≠ j)
    (hx : X.env.scope.names.lookup x = some .local) (hy : X.env.scope.names.lookup y = some .local) (ha : XA X G W [a, b] mr)
    (hw : swappedStores [.Tuple [.Name x px, .Name y py] kt pt] (.Tuple [a, b] k2 pt2) X.env = pure (some [x, y]))
    (hs : swapsWithSole [.Tuple [.Name x px, .Name y py] kt pt] (.Tuple [a, b] k2 pt2) pos.line X.env = pure false := by rfl) :
    XS X G W (.Assign [.Tuple [.Name x px, .Name y py] kt pt] (.Tuple [a, b] k2 pt2) pos) (mPar i j mr) := by
  obtain ⟨ta, pa, ea⟩ := ha
  refine ⟨_, ps_par hc hN hi hj hij hx hy pa hw hs, fun σ H ι S env Dn hr re h => ?_⟩
  show ta σ H fun vs H1 => ∃ v w, vs = [v, w] ∧ Dn.nx ((σ.set i (some v)).set j (some w)) H1
  refine amF ea hr re (fun _ _ _ z => z) h fun ds S1 vs H1 ι1 t1 h1 r1 q1 => ?_
  cases r1 with
  | nil => exact (show False from q1).elim
  | cons r1 rs =>
    cases rs with
    | nil => exact (show False from q1).elim
    | cons r2 rs =>
      cases rs with
      | nil => exact ⟨_, _, rfl, (show PostN G H ι Dn.nx _ S1 from q1) _ H1 ι1 t1 h1 (((re.mono t1).set r1).set r2)⟩
      | cons _ _ => exact (show False from q1).elim

/-! ### targets -/
theorem g_name {i : Nat} {x : Str} (hN : X.N.Nodup) (hi : X.N[i]? = some x) (hx : Loc X.env.scope x) (hf : X.fn x = true ∨ X.env.scope.names.lookup x = some .local := by first | exact .inl rfl | exact .inr rfl | assumption) : XG X G W (.Name x pos) (gmName i) :=
  ⟨_, pg_name hN hi hx hf, fun v d σ H ι S env Q hr re r h => (show PostN G H ι Q (env.set i (some d)) S from h) _ H ι Tr.refl hr (re.set r)⟩
inductive XGs (X : Cx) (G : Gx) (W : WX) : List Expr → List MG → Prop
  | nil : XGs X G W [] []
  | cons {e : Expr} {m : MG} {es : List Expr} {ms : List MG} (h : XG X G W e m) (r : XGs X G W es ms) (hs : (assignEach (e :: es) X.env).map (·.2) = assign e X.env :: (assignEach es X.env).map (·.2) := by rfl) : XGs X G W (e :: es) (m :: ms)
def GsM (G : Gx) (W : WX) (g : TGs) (ms : List MG) : Prop := ∀ (vs : List V) (ds : List D) (σ : St) (H : Hp) (ι : List Addr) (S : SS) (env : En) (Q : St → Hp → Prop), HR G H ι S → RE G.K H ι σ env → RpA G.K H ι vs ds →
  (gmAll ms ds env S).wp (PostN G H ι Q) (fun _ _ => False) → g vs σ H Q
theorem XGs.run : ∀ {es : List Expr} {ms : List MG}, XGs X G W es ms → ∃ g, PGs X es g ∧ GsM G W g ms
  | _, _, .nil => ⟨_, pgs_nil, fun vs ds σ H ι S env Q hr re r h => by
    cases r with
    | nil => exact ⟨rfl, (show PostN G H ι Q env S from h) σ H ι Tr.refl hr re⟩
    | cons _ _ => exact (show False from h).elim⟩
  | _, _, .cons (m := m) (ms := ms) ⟨g, pg, gm⟩ r hs => by
    obtain ⟨g2, pg2, gm2⟩ := XGs.run r
    refine ⟨_, pgs_cons pg pg2 hs, fun vs ds σ H ι S env Q hr re r h => ?_⟩
    cases r with
    | nil => exact (show False from h).elim
    | @cons v vs d ds r1 rs =>
      refine ⟨v, vs, rfl, gm v d σ H ι S env _ hr re r1 ?_⟩
      exact (Res.wp_bind (show ((m d env S).bind fun e1 S1 => gmAll ms ds e1 S1).wp _ _ from h)).mono (fun e1 S1 q σ' H' ι' t hr' re' => gm2 vs ds σ' H' ι' S1 e1 Q hr' re' (RpA.mono t _ rs) (q.mono (fun _ _ q => PostN.mono t q) fun _ _ q => q)) fun _ _ q => q
theorem g_tup {es : List Expr} {ms : List MG} {k : Nat} (hc : X.calm = true) (hK : X.K = G.K) (h : XGs X G W es ms) (hn : (assignEach es X.env).length = ms.length := by rfl) (hst : (assignEach es X.env).findIdx? (·.1) = none := by rfl) : XG X G W (.Tuple es k pos) (gmTup ms) := by
  obtain ⟨g, pg, gm⟩ := h.run
  refine ⟨_, pg_tup hc pg hn hst, fun v d σ H ι S env Q hr re r h => ?_⟩
  show ∃ a xs, v = .ref a ∧ SqT X.K H a xs ∧ xs.length = ms.length ∧ g xs σ H Q
  cases r with
  | @tup a vs ds h1 h2 =>
    by_cases hl : ds.length = ms.length
    · refine ⟨a, vs, rfl, by rw [hK]; exact h1, by rw [h2.length]; exact hl, gm vs ds σ H ι S env Q hr re h2 ?_⟩
      simpa only [gmTup, if_pos hl] using h
    · simp only [gmTup, if_neg hl] at h
      exact h.elim
  | non => exact (show False from h).elim
  | bl _ => exact (show False from h).elim
  | int _ => exact (show False from h).elim
  | str _ => exact (show False from h).elim
  | obj _ => exact (show False from h).elim
  | fz _ => exact (show False from h).elim
theorem s_asg {tg : Expr} {g : MG} (ha : XE X G W a ma) (hg : XG X G W tg g) (hs : swapsWithSole [tg] a pos.line X.env = pure false := by rfl) (hw : swappedStores [tg] a X.env = pure none := by rfl)
    (h1 : (assignEach [tg] X.env).map (·.2) = [assign tg X.env] := by rfl) : XS X G W (.Assign [tg] a pos) (mAsg g ma) := by
  obtain ⟨ta, pa, ea⟩ := ha
  obtain ⟨gg, pg, gm⟩ := hg
  refine ⟨_, ps_asg pa pg hs hw h1, fun σ H ι S env Dn hr re h => ?_⟩
  show ta σ H fun x H1 => gg x σ H1 Dn.nx
  refine emF ea hr re (fun _ _ _ z => z) h fun d S1 v H1 ι1 t1 h1 r1 q1 => gm v d σ H1 ι1 S1 env _ h1 (re.mono t1) r1 ?_
  cases e : g d env S1 with
  | ok e1 S2 => rw [e] at q1; exact PostN.mono t1 q1
  | exc x S2 => rw [e] at q1; exact q1
  | stk => rw [e] at q1; exact q1
/-- raise C('..'), C an own class without __init__ -/
theorem s_raise {n : Str} {C : Addr} (hc : X.calm = true) (tk : Takes X W) (hn : G.C n = some C) (pm : PMk X a (fun _ H Q => Q (.ref C) none H)) : XS X G W (.Raise (some a) none pos) (mRaise n) :=
  ⟨_, ps_raise hc tk pm, fun σ H ι S env Dn hr re h => (show PostXF G H ι W ⟨n, none⟩ env S from h) (.ref C) none σ H ι Tr.refl hr re ⟨C, hn, rfl, rfl⟩⟩

/-! ### loops -/
/-- the turns of a for -/
def forGo (g : MG) (body : MS) : List D → En → SS → RF
  | [], env, S => .nx env S
  | d :: ds, env, S => (g d env S).hush fun e1 S1 => match body e1 S1 with
    | .nx e2 S2 => forGo g body ds e2 S2
    | .ct e2 S2 => forGo g body ds e2 S2
    | .bk e2 S2 => .nx e2 S2
    | r => r
/-- an iterable: its items as they were at the beginning, and what must stand so that they stay -/
structure Itm where
  items : List D
  keep : SS → Prop
open Classical in
/-- the turns of a for over what is watched: it must stand at each turn -/
noncomputable def forGoW (k : SS → Prop) (g : MG) (body : MS) : List D → En → SS → RF
  | [], env, S => if k S then .nx env S else .stk
  | d :: ds, env, S => if k S then (g d env S).hush fun e1 S1 => match body e1 S1 with
    | .nx e2 S2 => forGoW k g body ds e2 S2
    | .ct e2 S2 => forGoW k g body ds e2 S2
    | .bk e2 S2 => .nx e2 S2
    | r => r else .stk
abbrev MI := En → SS → Res Itm
noncomputable def mFor (it : MI) (g : MG) (body : MS) : MS := fun env S => lft (it env S) env fun w S1 => forGoW w.keep g body w.items env S1
/-- wi walks: at the start a walk J of n turns; G1 what must stand; Y what each turn gives -/
def IM (G : Gx) (W : WX) (wi : TI) (m : MI) : Prop := ∀ (σ : St) (H : Hp) (ι : List Addr) (S : SS) (env : En) (R : It → Hp → Prop), HR G H ι S → RE G.K H ι σ env →
  (m env S).wp (fun w S' => ∀ J H' ι' (G1 : Hp → Prop) (Y : Nat → Hp → V → Hp → Prop), Tr H ι H' ι' → HR G H' ι' S' → Walk J w.items.length G1 Y →
      (∀ H2 ι2 S2, Tr H' ι' H2 ι2 → HR G H2 ι2 S2 → w.keep S2 → G1 H2) →
      (∀ i d H2 ι2 S2 v H3, w.items[i]? = some d → Tr H' ι' H2 ι2 → HR G H2 ι2 S2 → w.keep S2 → Y i H2 v H3 → Tr H2 ι2 H3 ι2 ∧ HR G H3 ι2 S2 ∧ Rp G.K H3 ι2 v d) → R J H') (PostX G H ι W σ) → wi σ H R
def XI (X : Cx) (G : Gx) (W : WX) (tg e : Expr) (m : MI) : Prop := ∃ wi, PI X tg e wi ∧ IM G W wi m
theorem s_for {tg it : Expr} {body : List Stmt} {mi : MI} {g : MG} {mb' : MS} (hp : PassesOwn (model X.prog X.w) X.A X.env X.xe) (hc : X.calm = true) (hi : XI X G W tg it mi) (hg : XG X G W tg g) (hb : XSs X G W body mb') (hs : ∀ x, foldedSetIterable it X.env x = pure x := by intro _; rfl) : XS X G W (.For tg it body [] pos) (mFor mi g mb') := by
  obtain ⟨wi, pi, im⟩ := hi
  obtain ⟨gg, pg, gm⟩ := hg
  obtain ⟨tb, pb, sb⟩ := hb
  refine ⟨_, ps_for hp hc pi pg pb hs, fun σ H ι S env Dn hr re h => ?_⟩
  show wi σ H _
  refine im σ H ι S env _ hr re ?_
  unfold mFor at h
  cases e : mi env S with
  | exc x S1 => rw [e] at h; exact ex_of re h
  | stk => rw [e] at h; exact h
  | ok w S1 =>
    rw [e] at h
    intro J H1 ι1 G1 Y t1 h1 wk hG hY
    have h0 : (forGoW w.keep g mb' w.items env S1).wp (postF G H1 ι1 W Dn) := wpF_to t1 h
    refine for_it wk (fun i σ' H' => ∃ ι' S' env', Tr H1 ι1 H' ι' ∧ HR G H' ι' S' ∧ RE G.K H' ι' σ' env' ∧ (forGoW w.keep g mb' (w.items.drop i) env' S').wp (postF G H' ι' W Dn)) ⟨ι1, S1, env, Tr.refl, h1, re.mono t1, h0⟩ ?_ ?_ ?_
    · rintro i σ' H' hi ⟨ι', S', env', t, hr', re', q⟩
      refine hG H' ι' S' t hr' ?_
      cases el : w.items.drop i with
      | nil =>
        rw [el] at q
        unfold forGoW at q
        by_cases hk : w.keep S'
        · exact hk
        · rw [if_neg hk] at q; exact q.elim
      | cons d ds =>
        rw [el] at q
        unfold forGoW at q
        by_cases hk : w.keep S'
        · exact hk
        · rw [if_neg hk] at q; exact q.elim
    · rintro i x σ' H' H2 hi ⟨ι', S', env', t, hr', re', q⟩ hy
      have ed : w.items.drop i = w.items[i] :: w.items.drop (i + 1) := List.drop_eq_getElem_cons hi
      rw [ed] at q
      unfold forGoW at q
      by_cases hk : w.keep S'
      · rw [if_pos hk] at q
        obtain ⟨t2, h2, r2⟩ := hY i w.items[i] H' ι' S' x H2 (List.getElem?_eq_getElem hi) t hr' hk hy
        refine gm x w.items[i] σ' H2 ι' S' env' _ h2 (re'.mono t2) r2 ?_
        cases eg : g w.items[i] env' S' with
        | exc y S3 => rw [eg] at q; exact q
        | stk => rw [eg] at q; exact q
        | ok e3 S3 =>
          rw [eg] at q
          intro σ3 H3 ι3 t3 h3 re3
          refine sb σ3 H3 ι3 S3 e3 _ h3 re3 ?_
          have q' : (match mb' e3 S3 with
            | .nx e2 S2 => forGoW w.keep g mb' (w.items.drop (i + 1)) e2 S2
            | .ct e2 S2 => forGoW w.keep g mb' (w.items.drop (i + 1)) e2 S2
            | .bk e2 S2 => .nx e2 S2
            | r => r : RF).wp (postF G H' ι' W Dn) := q
          cases eb : mb' e3 S3 with
          | nx e4 S4 =>
            rw [eb] at q'
            exact fun σ4 H4 ι4 t4 h4 re4 => ⟨ι4, S4, e4, ((t.trans t2).trans t3).trans t4, h4, re4, wpF_to ((t2.trans t3).trans t4) q'⟩
          | ct e4 S4 =>
            rw [eb] at q'
            exact fun σ4 H4 ι4 t4 h4 re4 => ⟨ι4, S4, e4, ((t.trans t2).trans t3).trans t4, h4, re4, wpF_to ((t2.trans t3).trans t4) q'⟩
          | bk e4 S4 =>
            rw [eb] at q'
            exact PostN.mono (t2.trans t3) q'
          | rt d4 S4 =>
            rw [eb] at q'
            exact PostE.mono (t2.trans t3) q'
          | ex y e4 S4 =>
            rw [eb] at q'
            exact PostXF.mono (t2.trans t3) q'
          | stk => rw [eb] at q'; exact q'
      · rw [if_neg hk] at q
        exact q.elim
    · rintro σ' H' ⟨ι', S', env', t, hr', re', q⟩
      rw [List.drop_length] at q
      unfold forGoW at q
      by_cases hk : w.keep S'
      · rw [if_pos hk] at q
        exact (show PostN G H' ι' Dn.nx env' S' from q) σ' H' ι' Tr.refl hr' re'
      · rw [if_neg hk] at q
        exact q.elim

/-- a while, so many turns at most -/
def whileN (c : MT) (body : MS) : Nat → En → SS → RF
  | 0, _, _ => .stk
  | n + 1, env, S => lft (c env S) env fun b S1 => if b = true then (match body env S1 with
    | .nx e2 S2 => whileN c body n e2 S2
    | .ct e2 S2 => whileN c body n e2 S2
    | .bk e2 S2 => .nx e2 S2
    | r => r) else .nx env S1
open Classical in
/-- a while: as many turns as it takes -/
noncomputable def mWhile (c : MT) (body : MS) : MS := fun env S => if h : ∃ n, whileN c body n env S ≠ .stk then whileN c body h.choose env S else .stk
theorem s_while {body : List Stmt} {mb' : MS} (hp : PassesOwn (model X.prog X.w) X.A X.env X.xe) (hc : XT X G W c mt) (hb : XSs X G W body mb') : XS X G W (.While c body [] pos) (mWhile mt mb') := by
  obtain ⟨tc, pc, ec⟩ := hc
  obtain ⟨tb, pb, sb⟩ := hb
  refine ⟨_, ps_while hp pc pb, fun σ H ι S env Dn hr re h => ?_⟩
  have h0 : ∃ n, (whileN mt mb' n env S).wp (postF G H ι W Dn) := by
    unfold mWhile at h
    by_cases hx : ∃ n, whileN mt mb' n env S ≠ .stk
    · rw [dif_pos hx] at h
      exact ⟨_, h⟩
    · rw [dif_neg hx] at h
      exact h.elim
  obtain ⟨n0, h0⟩ := h0
  refine ⟨fun n σ' H' => ∃ ι' S' env', HR G H' ι' S' ∧ RE G.K H' ι' σ' env' ∧ (whileN mt mb' n env' S').wp (postF G H' ι' W Dn), ⟨n0, ι, S, env, hr, re, h0⟩, ?_⟩
  rintro n σ' H' ⟨ι', S', env', hr', re', q⟩
  cases n with
  | zero => exact q.elim
  | succ n =>
    refine tmF ec hr' re' (fun _ _ _ z => z) (show (lft (mt env' S') env' _).wp (postF G H' ι' W Dn) from q) fun b S1 H1 ι1 t1 h1 q1 => ?_
    cases b with
    | false => exact (show PostN G H' ι' Dn.nx env' S1 from q1) σ' H1 ι1 t1 h1 (re'.mono t1)
    | true =>
      rw [if_pos rfl]
      refine ⟨fun σ2 H2 => ∃ ι2 S2 env2, HR G H2 ι2 S2 ∧ RE G.K H2 ι2 σ2 env2 ∧ (whileN mt mb' n env2 S2).wp (postF G H2 ι2 W Dn), fun σ2 H2 z => ⟨n, Nat.lt_succ_self n, z⟩, ?_⟩
      refine sb σ' H1 ι1 S1 env' _ h1 (re'.mono t1) ?_
      have q' : (match mb' env' S1 with
        | .nx e2 S2 => whileN mt mb' n e2 S2
        | .ct e2 S2 => whileN mt mb' n e2 S2
        | .bk e2 S2 => .nx e2 S2
        | r => r : RF).wp (postF G H' ι' W Dn) := q1
      cases eb : mb' env' S1 with
      | nx e4 S4 =>
        rw [eb] at q'
        exact fun σ4 H4 ι4 t4 h4 re4 => ⟨ι4, S4, e4, h4, re4, wpF_to (t1.trans t4) q'⟩
      | ct e4 S4 =>
        rw [eb] at q'
        exact fun σ4 H4 ι4 t4 h4 re4 => ⟨ι4, S4, e4, h4, re4, wpF_to (t1.trans t4) q'⟩
      | bk e4 S4 =>
        rw [eb] at q'
        exact PostN.mono t1 q'
      | rt d4 S4 =>
        rw [eb] at q'
        exact PostE.mono t1 q'
      | ex y e4 S4 =>
        rw [eb] at q'
        exact PostXF.mono t1 q'
      | stk => rw [eb] at q'; exact q'
end
end FW

set_option Elab.async false
set_option linter.all false
set_option maxRecDepth 100000
set_option maxHeartbeats 4000000
/-! The M layer, turns: enumerate of a text and of a tuple. -/
namespace FW
open PySem PySem.Spec L2

/-- a text's signs at each turn, in new pairs -/
def ItEs (z : Str) : It := ⟨fun i _ => i < z.cps.size, fun i H v H' => ∃ T x, v = .ref T ∧ H T = none ∧ H' = upd H T (.tup [.int (i : Nat), x]) ∧ ∃ c, z.cps[i]? = some c ∧ x = .str ⟨#[c]⟩, fun i _ => i = z.cps.size⟩
/-- a tuple's items at each turn, in new pairs -/
def ItEt (K : PySem.W.Frag) (a : Addr) (xs : List V) : It := ⟨fun i H => SqT K H a xs ∧ i < xs.length, fun i H v H' => ∃ T x, v = .ref T ∧ H T = none ∧ H' = upd H T (.tup [.int (i : Nat), x]) ∧ xs[i]? = some x, fun i H => SqT K H a xs ∧ i = xs.length⟩
section
variable {P : Program} {w : World} {K : PySem.W.Frag} {elts : List Expr} {kk : Nat} {tpos : Pos}
theorem turn_es (z : Str) (t : Tok) (e it : Addr) : Turn P w K (.Tuple elts kk tpos) (ItEs z) [e, it] e (fun i h => (∃ old, IsEnum h e it ((i : Nat) : Int) old) ∧ h.IsStrIter it (strIterType z) z t i ∧ e ≠ it) where
  mem := by simp
  obj := fun i h st b hb => by
    obtain ⟨⟨old, he⟩, hs, _⟩ := st
    have e' : b = e ∨ b = it := by simpa using hb
    rcases e' with q | q
    · rw [q]; exact ⟨_, he, fun v q => nomatch q⟩
    · obtain ⟨o, ho, hc, hd⟩ := hs
      rw [q]; exact ⟨o, ho, fun v q => by rw [hd] at q; cases q⟩
  keep := fun i h h' st k => let ⟨⟨old, he⟩, hi, hne⟩ := st; ⟨⟨old, k e (by simp) _ he⟩, let ⟨o, ho, hcd⟩ := hi; ⟨o, k it (by simp) o ho, hcd⟩, hne⟩
  item := by
    intro X hP hw hK hc i pins s σ H E I hf st hg
    subst hP hw hK
    obtain ⟨⟨old, he⟩, hit, hne⟩ := st
    have hh : X.A.in1.handled = none := I.ok.hd hc
    have Wk := WalksT.enumerateD (prog := X.prog) (w := X.w) (A := X.A) (Draws.text hh it z t) e hne (by simpa using hne) (by simp)
    refine Wk.item i s _ E hg ⟨⟨old, he⟩, hit⟩ fun T vals h' tk hp hT htup hMid hk => ?_
    refine ⟨_, rfl, Wk.go elts kk tpos i T _ _ E hMid fun h'' hSt hk2 => ?_⟩
    obtain ⟨ti, x, ⟨c, u, hcu, rfl⟩, rfl⟩ := hp
    have hTw := Wk.apart i T h' hMid
    have htup2 : h''.IsTuple T #[.int (i : Nat) ti, .str ⟨#[c]⟩ u] := htup.at fun o q => hk2 T o hTw q
    have new : ObjOk X.prog X.w (upd H T (.tup [.int (i : Nat), .str ⟨#[c]⟩])) h'' T (.tup [.int (i : Nat), .str ⟨#[c]⟩]) :=
      ⟨by show 2 ≤ sizeLine; decide, [.int (i : Nat) ti, .str ⟨#[c]⟩ u], .cons ⟨_, rfl⟩ (.cons ⟨_, rfl⟩ .nil), htup2⟩
    have I1 : Inv X pins σ (upd H T (.tup [.int (i : Nat), .str ⟨#[c]⟩])) { s with heap := h'', toks := tk } :=
      I.turnedNew (ch := [e, it]) (fun b ob hb q => hk2 b ob hb (hk b ob hb q)) hf hT new
    refine ⟨.ref T, _, I1, rfl, ⟨T, _, rfl, I.hok.fresh hT, rfl, c, hcu, rfl⟩, ⟨by
      obtain ⟨q1, q2⟩ := hSt
      have e1 : ((i + 1 : Nat) : Int) = (i : Int) + 1 := by omega
      obtain ⟨old', q1⟩ := q1
      exact ⟨old', q1⟩, hSt.2, hne⟩, fun b hb => ?_⟩
    have hb' : b ≠ T := fun z => hTw (by rw [← z]; exact hb)
    rw [upd_ne hb']
    exact (hf b hb).1
  done := by
    intro X hP hw hK hc i pins s σ H E I hf st hg
    subst hP hw hK
    obtain ⟨⟨old, he⟩, hit, hne⟩ := st
    have hh : X.A.in1.handled = none := I.ok.hd hc
    have Wk := WalksT.enumerateD (prog := X.prog) (w := X.w) (A := X.A) (Draws.text hh it z t) e hne (by simpa using hne) (by simp)
    have hg' : i = z.cps.size := hg
    subst hg'
    exact Wk.done s _ E ⟨⟨old, he⟩, hit⟩ fun h' tk hk => ⟨rfl, I.step (g' := s.gens) (d' := s.drawn) (t' := tk) (ch := [e, it]) (fun b hb => ⟨(hf b hb).2.2.2.1, (hf b hb).2.1, (hf b hb).2.2.2.2.1, (hf b hb).2.2.2.2.2⟩)
      (fun b o _ _ hc e _ => hk b o hc e) (fun b o _ _ hc e _ => ⟨o.slots, hk b o hc e⟩) (fun b o _ _ n => n) (fun b o hc e => ⟨o, hk b o hc e⟩) (fun b xs e => e) (fun b o u e => e) (fun b ps e => ⟨#[], by simpa using e⟩)
      (fun m hm => by
        obtain ⟨o, es, ep, ho, r⟩ := hm
        exact ⟨o, es, ep, hk _ o (fun z => (hf _ z).2.1 rfl) ho, r⟩)
      (fun b u eb => (I.hok b u eb).stay (fun d v hd q => hk d v (fun z => by
          have n := (hf d z).1
          rcases hd with hd | hd
          · rw [hd] at n; rw [n] at eb; cases eb
          · rw [n] at hd; cases hd) q) (fun d q => q) fun d xs q => q) I.bare⟩
  self := fun A i s Q E st h => let ⟨⟨_, he⟩, _⟩ := st; wpAny_pyIter_enum he h
end
end FW

set_option Elab.async false
set_option linter.all false
set_option maxRecDepth 100000
set_option maxHeartbeats 4000000
/-! The M layer, 5: what is walked; comprehensions; a def as a whole. -/
namespace FW
open PySem PySem.Spec L2

/-! ### readings that the mirror gives: the same in every context -/
def tEM (G : Gx) (W : WX) (m : ME) : TE := fun σ H Q => ∃ ι S env, HR G H ι S ∧ RE G.K H ι σ env ∧ (m env S).wp (PostE G H ι Q) (PostX G H ι W σ)
def tTM (G : Gx) (W : WX) (m : MT) : TT := fun σ H Q => ∃ ι S env, HR G H ι S ∧ RE G.K H ι σ env ∧ (m env S).wp (PostB G H ι Q) (PostX G H ι W σ)
def tSM (G : Gx) (W : WX) (m : MS) : TS := fun Dn σ H => ∃ ι S env, HR G H ι S ∧ RE G.K H ι σ env ∧ (m env S).wp (postF G H ι W Dn)
theorem XE.canon {X : Cx} {G : Gx} {W : WX} {e : Expr} {m : ME} (h : XE X G W e m) : PE X e (tEM G W m) := by
  obtain ⟨te, p, em⟩ := h
  exact ⟨fun pins s σ H Q I ⟨ι, S, env, hr, re, q⟩ => p.run pins s σ H Q I (em σ H ι S env Q hr re q)⟩
theorem XT.canon {X : Cx} {G : Gx} {W : WX} {e : Expr} {m : MT} (h : XT X G W e m) : PT X e (tTM G W m) := by
  obtain ⟨te, p, em⟩ := h
  exact ⟨fun pins s σ H Q I ⟨ι, S, env, hr, re, q⟩ => p.run pins s σ H Q I (em σ H ι S env Q hr re q)⟩
theorem XSs.canon {X : Cx} {G : Gx} {W : WX} {e : List Stmt} {m : MS} (h : XSs X G W e m) : PSs X e (tSM G W m) := by
  obtain ⟨te, p, em⟩ := h
  exact ⟨fun pins s σ H Dn I ⟨ι, S, env, hr, re, q⟩ => p.run pins s σ H Dn I (em σ H ι S env Dn hr re q)⟩
theorem em_canon {G : Gx} {W : WX} {m : ME} : EM G W (tEM G W m) m := fun σ H ι S env Q hr re h => ⟨ι, S, env, hr, re, h⟩
theorem tm_canon {G : Gx} {W : WX} {m : MT} : TM G W (tTM G W m) m := fun σ H ι S env Q hr re h => ⟨ι, S, env, hr, re, h⟩
theorem sm_canon {G : Gx} {W : WX} {m : MS} : SM G W (tSM G W m) m := fun σ H ι S env Q hr re h => ⟨ι, S, env, hr, re, h⟩

/-! ### what is walked -/
def sgn (c : Nat) : D := .str ⟨#[c]⟩
def mItAny (m : ME) : MI := fun env S => (m env S).bind fun d S1 => match d with
  | .tup ds => .ok ⟨ds, fun _ => True⟩ S1
  | .obj i => match S1[i]? with
    | some (.lst xs) => .ok ⟨xs, fun S => S[i]? = some (.lst xs)⟩ S1
    | _ => .stk
  | .str z => .ok ⟨z.cps.toList.map sgn, fun _ => True⟩ S1
  | .fz ds => .ok ⟨ds, fun _ => True⟩ S1
  | _ => .stk
def mItNew (m : MA) : MI := fun env S => (m env S).bind fun ds S1 => .ok ⟨ds, fun _ => True⟩ S1
def rngD (lo : Int) (n : Nat) : List D := (List.range n).map fun i => .int (lo + (i : Nat))
def mItRng1 (m : MA) : MI := fun env S => (m env S).bind fun ds S1 => match ds with
  | [.int j] => if -(2 ^ 62) ≤ j ∧ j < 2 ^ 62 then .ok ⟨rngD 0 j.toNat, fun _ => True⟩ S1 else .stk
  | _ => .stk
def mItRng2 (m : MA) : MI := fun env S => (m env S).bind fun ds S1 => match ds with
  | [.int i, .int j] => if -(2 ^ 62) ≤ i ∧ i < 2 ^ 62 ∧ -(2 ^ 62) ≤ j ∧ j < 2 ^ 62 then .ok ⟨rngD i (j - i).toNat, fun _ => True⟩ S1 else .stk
  | _ => .stk
def enumD (ds : List D) : List D := ds.zipIdx.map fun p => .tup [.int (p.2 : Nat), p.1]
/-- enumerate(text) -/
def mItEnS (m : ME) : MI := fun env S => (m env S).bind fun d S1 => match d with
  | .str z => .ok ⟨enumD (z.cps.toList.map sgn), fun _ => True⟩ S1
  | _ => .stk
theorem Tr.pz {K : PySem.W.Frag} {H H' : Hp} {ι ι' : List Addr} {p : Addr} {vs : List V} (t : Tr H ι H' ι') (h : Pz K H p vs) : Pz K H' p vs := t.lk.pz h
theorem sqL_of_not {K : PySem.W.Frag} {H H' : Hp} {ι ι' : List Addr} {p : Addr} {vs : List V} (t : Tr H ι H' ι') (hp : p ∉ ι) (e : H p = some (.lst vs)) : SqL K H' p vs :=
  .inl (.inl (t.keep p _ e hp (by intro ps z; cases z)))
section
variable {X : Cx} {G : Gx} {W : WX} {a b c e tg : Expr} {es : List Expr} {pos p : Pos} {ma mb : ME} {mt : MT} {mr : MA}
theorem rp_str_sign {K : PySem.W.Frag} {H : Hp} {ι : List Addr} (c : Nat) : Rp K H ι (.str ⟨#[c]⟩) (sgn c) := .str _
theorem pi_or {w1 w2 : TI} (h1 : PI X tg e w1) (h2 : PI X tg e w2) : PI X tg e (fun σ H R => w1 σ H R ∨ w2 σ H R) :=
  ⟨fun pins s σ H R I h => h.elim (h1.run pins s σ H R I) (h2.run pins s σ H R I)⟩
theorem i_any (hK : X.K = G.K) (ha : XE X G W a ma) : XI X G W tg a (mItAny ma) := by
  obtain ⟨ta, pa, ea⟩ := ha
  refine ⟨_, pi_or (pi_tup pa) (pi_or (pi_list pa) (pi_str pa)), fun σ H ι S env R hr re h => ?_⟩
  unfold mItAny at h
  cases em : ma env S with
  | stk => rw [em] at h; exact h.elim
  | exc x S1 =>
    rw [em] at h
    exact .inl (show ta σ H _ from ea σ H ι S env _ hr re (by rw [em]; exact h))
  | ok d S1 =>
    rw [em] at h
    cases d with
    | tup ds =>
      refine .inl (show ta σ H _ from ea σ H ι S env _ hr re (by
        rw [em]
        intro v H1 ι1 t1 h1 r1
        cases r1 with
        | @tup q vs ds s1 r1 =>
          refine ⟨q, rfl, ⟨vs, by rw [hK]; exact s1⟩, ?_⟩
          rw [hK]
          refine (show ∀ J H' ι' (G1 : Hp → Prop) (Y : Nat → Hp → V → Hp → Prop), _ → _ → _ → _ → _ → R J H' from h) _ H1 ι1 (fun H2 => SqT G.K H2 q vs) (YAt vs) t1 h1 (by rw [← r1.length]; exact walk_tup) (fun H2 ι2 S2 t2 h2 k2 => t2.sqt s1) ?_
          rintro i d H2 ι2 S2 v H3 ei t2 h2 k2 ⟨rfl, ev⟩
          obtain ⟨v', ev', rv⟩ := r1.get ei
          rw [ev] at ev'
          cases ev'
          exact ⟨Tr.refl, h2, Rp.mono t2 _ rv⟩))
    | obj i =>
      refine .inr (.inl (show ta σ H _ from ea σ H ι S env _ hr re (by
        rw [em]
        intro v H1 ι1 t1 h1 r1
        cases r1 with
        | @obj i q e1 =>
          have h' : (match S1[i]? with
            | some (.lst xs) => .ok ⟨xs, fun S => S[i]? = some (.lst xs)⟩ S1
            | _ => .stk : Res Itm).wp _ _ := h
          cases ec : S1[i]? with
          | none => rw [ec] at h'; exact h'.elim
          | some cl =>
            rw [ec] at h'
            cases cl with
            | lst xs =>
              obtain ⟨vs, e2, r2⟩ := h1.cell i _ q ec e1
              refine ⟨q, rfl, ⟨vs, .inl (.inl e2)⟩, ?_⟩
              rw [hK]
              refine (show ∀ J H' ι' (G1 : Hp → Prop) (Y : Nat → Hp → V → Hp → Prop), _ → _ → _ → _ → _ → R J H' from h') _ H1 ι1 (fun H2 => ∃ ws, H2 q = some (.lst ws) ∧ ws.length = xs.length) (fun i H v H' => H' = H ∧ ∀ ws, H q = some (.lst ws) → ws[i]? = some v) t1 h1 ?_ (fun H2 ι2 S2 t2 h2 k2 => ?_) ?_
              · refine ⟨fun j H2 hj ⟨ws, e3, l3⟩ => ⟨ws, ws[j]'(by rw [l3]; exact hj), .inl (.inl e3), by simp⟩, fun H2 ⟨ws, e3, l3⟩ => ⟨ws, .inl (.inl e3), by rw [l3]; exact Nat.le_refl _⟩, fun j H2 x H3 hj ⟨ws, e3, l3⟩ y => ⟨y.1, fun ws' e4 => y.2 ws' (.inl (.inl e4))⟩⟩
              · obtain ⟨ws, e3, r3⟩ := h2.cell i _ q k2 (t2.at e1)
                exact ⟨ws, e3, r3.length⟩
              · rintro j d H2 ι2 S2 v H3 ej t2 h2 k2 ⟨rfl, ev⟩
                obtain ⟨ws, e3, r3⟩ := h2.cell i _ q k2 (t2.at e1)
                obtain ⟨v', ev', rv⟩ := r3.get ej
                have := ev ws e3
                rw [ev'] at this
                cases this
                exact ⟨Tr.refl, h2, rv⟩
            | dK _ => exact (show False from h').elim
            | dT _ => exact (show False from h').elim)))
    | fz ds =>
      refine .inr (.inl (show ta σ H _ from ea σ H ι S env _ hr re (by
        rw [em]
        intro v H1 ι1 t1 h1 r1
        cases r1 with
        | @fz q vs ds s1 r1 =>
          refine ⟨q, rfl, ⟨vs, by rw [hK]; exact s1.sql⟩, ?_⟩
          rw [hK]
          refine (show ∀ J H' ι' (G1 : Hp → Prop) (Y : Nat → Hp → V → Hp → Prop), _ → _ → _ → _ → _ → R J H' from h) _ H1 ι1 (fun H2 => SqL G.K H2 q vs) (YAt vs) t1 h1 (by rw [← r1.length]; exact walk_list) (fun H2 ι2 S2 t2 h2 k2 => (t2.pz s1).sql) ?_
          rintro i d H2 ι2 S2 v H3 ei t2 h2 k2 ⟨rfl, ev⟩
          obtain ⟨v', ev', rv⟩ := r1.get ei
          rw [ev] at ev'
          cases ev'
          exact ⟨Tr.refl, h2, Rp.mono t2 _ rv⟩)))
    | str z =>
      refine .inr (.inr (show ta σ H _ from ea σ H ι S env _ hr re (by
        rw [em]
        intro v H1 ι1 t1 h1 r1
        cases r1 with
        | str z =>
          refine ⟨z, rfl, ?_⟩
          refine (show ∀ J H' ι' (G1 : Hp → Prop) (Y : Nat → Hp → V → Hp → Prop), _ → _ → _ → _ → _ → R J H' from h) _ H1 ι1 (fun _ => True) _ t1 h1 (by simpa using walk_str (z := z)) (fun _ _ _ _ _ _ => trivial) ?_
          rintro j d H2 ι2 S2 v H3 ej t2 h2 k2 ⟨rfl, cc, ec, rfl⟩
          have ej' : (z.cps.toList.map sgn)[j]? = some d := ej
          rw [List.getElem?_map, Array.getElem?_toList, ec] at ej'
          cases ej'
          exact ⟨Tr.refl, h2, .str _⟩)))
    | non => exact (show False from h).elim
    | bl _ => exact (show False from h).elim
    | int _ => exact (show False from h).elim
theorem i_new (hK : X.K = G.K) (ha : XL X G W a mr) : XI X G W tg a (mItNew mr) := by
  obtain ⟨ta, pa, ea⟩ := ha
  refine ⟨_, pi_list pa, fun σ H ι S env R hr re h => ?_⟩
  show ta σ H fun x H1 => ∃ a, x = .ref a ∧ (∃ xs, SqL X.K H1 a xs) ∧ R (Itl X.K a) H1
  refine lm_step ea hr re (fun _ _ z => z) h fun ds S1 q vs H1 ι1 t1 h1 hp hn e1 r1 k1 q1 => ?_
  refine ⟨q, rfl, ⟨vs, .inl (.inl e1)⟩, ?_⟩
  rw [hK]
  refine (show ∀ J H' ι' (G1 : Hp → Prop) (Y : Nat → Hp → V → Hp → Prop), _ → _ → _ → _ → _ → R J H' from q1) _ H1 ι1 (fun H2 => SqL G.K H2 q vs) (YAt vs) t1 h1 (by rw [← r1.length]; exact walk_list) (fun H2 ι2 S2 t2 h2 k2 => sqL_of_not t2 hn e1) ?_
  rintro i d H2 ι2 S2 v H3 ei t2 h2 k2 ⟨rfl, ev⟩
  obtain ⟨v', ev', rv⟩ := r1.get ei
  rw [ev] at ev'
  cases ev'
  exact ⟨Tr.refl, h2, Rp.mono t2 _ rv⟩
theorem rngD_len (lo : Int) (n : Nat) : (rngD lo n).length = n := by simp [rngD]
theorem rngD_get {lo : Int} {n i : Nat} {d : D} (h : (rngD lo n)[i]? = some d) : d = .int (lo + (i : Nat)) := by
  unfold rngD at h
  rw [List.getElem?_map] at h
  by_cases hi : i < n
  · rw [List.getElem?_range hi] at h
    cases h
    rfl
  · rw [List.getElem?_eq_none (by simpa using hi)] at h
    cases h
theorem i_rng1 (hg : Gl X "range") (hm : X.mg "range" = none) (ha : XA X G W [a] mr) (hs : starEach [a] X.env = [(false, eval a X.env)] := by rfl) : XI X G W tg (.Call (.Name "range" p) [a] [] pos) (mItRng1 mr) := by
  obtain ⟨ta, pa, ea⟩ := ha
  refine ⟨_, pi_range1 hg hm pa hs, fun σ H ι S env R hr re h => ?_⟩
  show ta σ H fun vs H1 => ∃ j : Int, vs = [.int j] ∧ -(2 ^ 62) ≤ j ∧ j < 2 ^ 62 ∧ R (Itr 0 j.toNat) H1
  refine am_step ea hr re (fun _ _ z => z) h fun ds S1 vs H1 ι1 t1 h1 r1 k1 q1 => ?_
  cases r1 with
  | nil => exact (show False from q1).elim
  | cons r1 rs =>
    cases rs with
    | cons _ _ => cases r1 <;> exact (show False from q1).elim
    | nil =>
      cases r1 with
      | int j =>
        by_cases hj : -(2 ^ 62) ≤ j ∧ j < 2 ^ 62
        · simp only [if_pos hj] at q1
          refine ⟨j, rfl, hj.1, hj.2, ?_⟩
          refine (show ∀ J H' ι' (G1 : Hp → Prop) (Y : Nat → Hp → V → Hp → Prop), _ → _ → _ → _ → _ → R J H' from q1) _ H1 ι1 (fun _ => True) _ t1 h1 (by rw [rngD_len]; exact walk_range (lo := 0) (n := j.toNat)) (fun _ _ _ _ _ _ => trivial) ?_
          rintro i d H2 ι2 S2 v H3 ei t2 h2 k2 ⟨rfl, rfl⟩
          rw [rngD_get ei]
          exact ⟨Tr.refl, h2, .int _⟩
        · simp only [if_neg hj] at q1
          exact q1.elim
      | non => exact (show False from q1).elim
      | bl _ => exact (show False from q1).elim
      | str _ => exact (show False from q1).elim
      | tup _ _ => exact (show False from q1).elim
      | obj _ => exact (show False from q1).elim
      | fz _ _ => exact (show False from q1).elim
theorem enumD_get {ds : List D} {i : Nat} {d : D} (h : (enumD ds)[i]? = some d) : ∃ x, ds[i]? = some x ∧ d = .tup [.int (i : Nat), x] := by
  unfold enumD at h
  rw [List.getElem?_map, List.getElem?_zipIdx] at h
  cases e : ds[i]? with
  | none => rw [e] at h; simp at h
  | some x =>
    rw [e] at h
    simp at h
    exact ⟨x, rfl, by rw [← h]⟩
theorem enumD_len (ds : List D) : (enumD ds).length = ds.length := by simp [enumD]
def iEnS (te : TE) : TI := fun σ H R => te σ H fun v H1 => ∃ z, v = .str z ∧ R (ItEs z) H1
theorem pi_enS {elts : List Expr} {kk : Nat} {tpos : Pos} {te : TE} (hg : Gl X "enumerate") (hm : X.mg "enumerate" = none) (ha : PE X a te) (hs : starEach [a] X.env = [(false, eval a X.env)] := by rfl) (hs' : starEach [a] X.env = (false, eval a X.env) :: starEach [] X.env := by rfl) :
    PI X (.Tuple elts kk tpos) (.Call (.Name "enumerate" p) [a] [] pos) (iEnS te) := by
  refine ⟨fun pins s σ H R I h => ?_⟩
  have pa : PA X [a] (tCons te tNil) := pa_cons ha pa_nil hs'
  have h' : tCons te tNil σ H fun vs H1 => ∃ z, vs = [.str z] ∧ R (ItEs z) H1 := by
    refine (show te σ H fun x H1 => (fun xs H2 => ∃ z, (x :: xs) = [V.str z] ∧ R (ItEs z) H2) [] H1 from ?_)
    have : (fun (x : V) (H1 : Hp) => ∃ z, [x] = [V.str z] ∧ R (ItEs z) H1) = fun v H1 => ∃ z, v = .str z ∧ R (ItEs z) H1 := by
      funext x H1
      simp
    rw [show (fun (x : V) (H1 : Hp) => (fun xs H2 => ∃ z, (x :: xs) = [V.str z] ∧ R (ItEs z) H2) [] H1) = fun (x : V) (H1 : Hp) => ∃ z, [x] = [V.str z] ∧ R (ItEs z) H1 from rfl, this]
    exact h
  refine PyProof.Rows.Call_ (ld_blt I hg hm PyProof.Rows.boot_enumerate (PyProof.Rows.callWith_type1 (thn (pa.run pos pins s σ H _ I h') fun us s1 ⟨vs, H1, I1, r1, q1⟩ => ?_) hs rfl))
  obtain ⟨z, ez, q⟩ := q1
  subst ez
  cases r1 with
  | cons r rr =>
    cases rr
    obtain ⟨t, rfl⟩ := r
    refine call_enumerate_str fun h' he hit hsz hk => wpAny_pyIter_enum he ?_
    have I2 : Inv X pins σ H1 { s1 with heap := h' } := I1.kept (t' := s1.toks) hk
    refine ⟨s1.heap.objs.size + 1, [s1.heap.objs.size + 1, s1.heap.objs.size], _, _, H1, rfl, I2, turn_es z t (s1.heap.objs.size + 1) s1.heap.objs.size, ⟨⟨.none, he⟩, hit, Nat.succ_ne_self _⟩, fun b hb => ?_, q⟩
    have e' : b = s1.heap.objs.size + 1 ∨ b = s1.heap.objs.size := by simpa using hb
    have hle : s1.heap.objs.size ≤ b := by
      rcases e' with z | z
      · rw [z]; exact Nat.le_add_right _ _
      · rw [z]; exact Nat.le_refl _
    exact I1.fpOk hle (I1.hok.fresh hle)
theorem walk_es {z : Str} : Walk (ItEs z) z.cps.size (fun _ => True) (YPair (fun i => some (.int (i : Nat))) (fun i => z.cps[i]?.map fun c => .str ⟨#[c]⟩)) :=
  ⟨fun _ _ hi _ => hi, fun _ _ => rfl, fun i H v H' _ _ y => by
    obtain ⟨T, x, h1, h2, h3, c, h4, h5⟩ := y
    exact ⟨T, .int (i : Nat), x, h1, h2, h3, rfl, by show Option.map (fun c => V.str ⟨#[c]⟩) z.cps[i]? = some x; rw [h4, h5]; rfl⟩⟩
theorem i_enS {elts : List Expr} {kk : Nat} {tpos : Pos} (hg : Gl X "enumerate") (hm : X.mg "enumerate" = none) (ha : XE X G W a ma) (hs : starEach [a] X.env = [(false, eval a X.env)] := by rfl) (hs' : starEach [a] X.env = (false, eval a X.env) :: starEach [] X.env := by rfl) :
    XI X G W (.Tuple elts kk tpos) (.Call (.Name "enumerate" p) [a] [] pos) (mItEnS ma) := by
  obtain ⟨ta, pa, ea⟩ := ha
  refine ⟨_, pi_enS hg hm pa hs hs', fun σ H ι S env R hr re h => ?_⟩
  show ta σ H fun v H1 => ∃ z, v = .str z ∧ R (ItEs z) H1
  refine em_step ea hr re (fun _ _ z => z) h fun d S1 v H1 ι1 t1 h1 r1 k1 q1 => ?_
  cases r1 with
  | str z =>
    refine ⟨z, rfl, ?_⟩
    refine (show ∀ J H' ι' (G1 : Hp → Prop) (Y : Nat → Hp → V → Hp → Prop), _ → _ → _ → _ → _ → R J H' from q1) _ H1 ι1 (fun _ => True) _ t1 h1 (by simpa [enumD_len] using walk_es (z := z)) (fun _ _ _ _ _ _ => trivial) ?_
    rintro i d H2 ι2 S2 v H3 ei t2 h2 k2 ⟨T, x, y, rfl, nT, rfl, ex, ey⟩
    obtain ⟨x', e1, rfl⟩ := enumD_get ei
    rw [List.getElem?_map, Array.getElem?_toList] at e1
    cases ex
    have ey : Option.map (fun c => V.str ⟨#[c]⟩) z.cps[i]? = some y := ey
    cases ec : z.cps[i]? with
    | none => rw [ec] at ey; cases ey
    | some cc =>
      rw [ec] at e1 ey
      cases e1
      cases ey
      exact ⟨Tr.laid nT, h2.laid nT, .tup (.inl (.inl upd_same)) (.cons (.int _) (.cons (.str _) .nil))⟩
  | non => exact (show False from q1).elim
  | bl _ => exact (show False from q1).elim
  | int _ => exact (show False from q1).elim
  | tup _ _ => exact (show False from q1).elim
  | obj _ => exact (show False from q1).elim
  | fz _ _ => exact (show False from q1).elim
end
end FW

set_option Elab.async false
set_option linter.all false
set_option maxRecDepth 100000
set_option maxHeartbeats 4000000
/-! The M layer, 6: comprehensions; a def as a whole; try. -/
namespace FW
open PySem PySem.Spec L2

/-! ### list comprehensions -/
def wipeE (env : En) : List Nat → En
  | [] => env
  | v :: vs => (wipeE env vs).set v none
theorem RE.wipe {K : PySem.W.Frag} {H : Hp} {ι : List Addr} {σ : St} {env : En} (r : RE K H ι σ env) : ∀ vs : List Nat, RE K H ι (wipe σ vs) (wipeE env vs)
  | [] => r
  | v :: vs => (RE.wipe r vs).unset v
/-- what is raised within a comprehension is not followed -/
def Res.calm {α : Type} (r : Res α) : Res α := match r with
  | .exc _ _ => .stk
  | r => r
@[simp] theorem calm_ok {α : Type} (a : α) (S : SS) : (Res.ok a S).calm = .ok a S := rfl
theorem calm_bind {α β : Type} {r : Res α} {k : α → SS → Res β} {P : β → SS → Prop} {E E' : Exn → SS → Prop} (h : (r.calm.bind k).wp P E) : r.wp (fun a s => (k a s).wp P E) E' := by
  cases r with
  | ok a s => exact h
  | exc x s => exact h.elim
  | stk => exact h
open Classical in
/-- the turns: e0 the names ahead of each turn, acc what is made so far -/
noncomputable def lcGo (k : SS → Prop) (g : MG) (t : MT) (el : ME) (e0 : En) : List D → SS → List D → Res (List D)
  | [], S, acc => if k S then .ok acc S else .stk
  | d :: ds, S, acc => if k S then (g d e0 S).calm.bind fun e1 S1 => (t e1 S1).calm.bind fun b S2 => if b = true then (el e1 S2).calm.bind fun y S3 => if acc.length < 1000000 then lcGo k g t el e0 ds S3 (acc ++ [y]) else .stk
      else lcGo k g t el e0 ds S2 acc else .stk
noncomputable def mLc (own : List Nat) (it : MI) (g : MG) (t : MT) (el : ME) : MA := fun env S => (it env S).bind fun w S1 => lcGo w.keep g t el (wipeE env own) w.items S1 []
def mYes : MT := fun _ S => .ok true S
/-- a target that stores own names alone -/
def OwnG (g : TG) (vs : List Nat) : Prop := ∀ (v : V) (σ : St) (H : Hp) (Q : St → Hp → Prop), g v σ H Q → g v σ H fun σ' H' => wipe σ' vs = wipe σ vs ∧ Q σ' H'
theorem wipe_set {σ : St} {x : Option V} : ∀ {vs : List Nat} {i : Nat}, i ∈ vs → wipe (σ.set i x) vs = wipe σ vs
  | [], i, h => by cases h
  | v :: vs, i, h => by
    show (wipe (σ.set i x) vs).set v none = (wipe σ vs).set v none
    by_cases hi : i ∈ vs
    · rw [wipe_set hi]
    · rcases List.mem_cons.mp h with e | e
      · subst e
        have : wipe (σ.set i x) vs = (wipe σ vs).set i x := by
          clear h
          induction vs with
          | nil => rfl
          | cons w ws ih =>
            have h1 : i ≠ w := fun e => hi (by rw [e]; exact List.mem_cons_self)
            have h2 : i ∉ ws := fun z => hi (List.mem_cons_of_mem _ z)
            show (wipe (σ.set i x) ws).set w none = ((wipe σ ws).set w none).set i x
            rw [ih h2, List.set_comm _ _ h1]
        rw [this, List.set_set]
      · exact absurd e hi
theorem wipe_comm {σ : St} {x : Option V} : ∀ {vs : List Nat} {i : Nat}, (wipe σ vs).set i none = wipe (σ.set i none) vs
  | [], i => rfl
  | v :: vs, i => by
    show ((wipe σ vs).set v none).set i none = (wipe (σ.set i none) vs).set v none
    rw [← wipe_comm (x := x)]
    by_cases h : v = i
    · subst h; rfl
    · rw [List.set_comm _ _ h]
theorem wipe_idem {σ : St} : ∀ {vs : List Nat}, wipe (wipe σ vs) vs = wipe σ vs
  | [] => rfl
  | v :: vs => by
    show (wipe ((wipe σ vs).set v none) vs).set v none = (wipe σ vs).set v none
    rw [← wipe_comm (x := none), wipe_idem, List.set_set]
theorem ownG_name {i : Nat} {vs : List Nat} (h : i ∈ vs) : OwnG (gName i) vs := fun v σ H Q q => ⟨wipe_set h, q⟩
def OwnGs (g : TGs) (vs : List Nat) : Prop := ∀ (xs : List V) (σ : St) (H : Hp) (Q : St → Hp → Prop), g xs σ H Q → g xs σ H fun σ' H' => wipe σ' vs = wipe σ vs ∧ Q σ' H'
theorem ownGs_nil {vs : List Nat} : OwnGs gNil vs := fun xs σ H Q q => ⟨q.1, rfl, q.2⟩
def MonoG (g : TG) : Prop := ∀ (v : V) (σ : St) (H : Hp) (Q Q' : St → Hp → Prop), (∀ σ' H', Q σ' H' → Q' σ' H') → g v σ H Q → g v σ H Q'
def MonoGs (g : TGs) : Prop := ∀ (v : List V) (σ : St) (H : Hp) (Q Q' : St → Hp → Prop), (∀ σ' H', Q σ' H' → Q' σ' H') → g v σ H Q → g v σ H Q'
theorem monoG_name {i : Nat} : MonoG (gName i) := fun v σ H Q Q' h q => h _ _ q
theorem monoGs_nil : MonoGs gNil := fun v σ H Q Q' h q => ⟨q.1, h _ _ q.2⟩
theorem monoGs_cons {g : TG} {u : TGs} (h1 : MonoG g) (h2 : MonoGs u) : MonoGs (gCons g u) := fun xs σ H Q Q' h q => by
  obtain ⟨v, r, e, q⟩ := q
  exact ⟨v, r, e, h1 _ _ _ _ _ (fun σ' H' z => h2 _ _ _ _ _ h z) q⟩
theorem ownGs_cons {g : TG} {u : TGs} {vs : List Nat} (m : MonoG g) (mu : MonoGs u) (h1 : OwnG g vs) (h2 : OwnGs u vs) : OwnGs (gCons g u) vs := fun xs σ H Q q => by
  obtain ⟨v, r, e, q⟩ := q
  exact ⟨v, r, e, m _ _ _ _ _ (fun σ' H' z => mu _ _ _ _ _ (fun σ2 H2 w => ⟨w.1.trans z.1, w.2⟩) (h2 _ _ _ _ z.2)) (h1 _ _ _ _ q)⟩
theorem monoG_tup {K : PySem.W.Frag} {n : Nat} {u : TGs} (h : MonoGs u) : MonoG (gTup K n u) := fun v σ H Q Q' h' q => by
  obtain ⟨a, xs, e, s, l, q⟩ := q
  exact ⟨a, xs, e, s, l, h _ _ _ _ _ h' q⟩
theorem ownG_tup {K : PySem.W.Frag} {n : Nat} {u : TGs} {vs : List Nat} (h : OwnGs u vs) : OwnG (gTup K n u) vs := fun v σ H Q q => by
  obtain ⟨a, xs, e, s, l, q⟩ := q
  exact ⟨a, xs, e, s, l, h _ _ _ _ q⟩
theorem Tr.mut {H H' : Hp} {ι ι' : List Addr} {p : Addr} {o : HO} (t : Tr H ι H' ι') (hp : NF H p) : Tr H ι (upd H' p o) ι' :=
  ⟨t.pre, t.new, fun a u e h2 h3 => by rw [upd_ne (hp.ne e h3)]; exact t.keep a u e h2 h3, fun a xs e => by rw [upd_ne (hp.ne e fun ps z => by cases z)]; exact t.keepT a xs e,
    fun a u x e => by rw [upd_ne (hp.ne e fun ps z => by cases z)]; exact t.keepF a u x e⟩
theorem Lk.other {H : Hp} {ι : List Addr} {p : Addr} {o : HO} (hm : IsC (H p)) : Lk H ι (upd H p o) ι := by
  have ne : ∀ a u, H a = some u → ¬ IsC (some u) → a ≠ p := fun a u e n z => by rw [← z, e] at hm; exact n hm
  exact ⟨⟨[], by simp⟩, fun a xs e => by rw [upd_ne (ne a _ e (fun z => z))]; exact e, fun a u x e => by rw [upd_ne (ne a _ e (fun z => z))]; exact e⟩
/-- an object beside the cells written -/
theorem HR.other {G : Gx} {H : Hp} {ι : List Addr} {S : SS} (h : HR G H ι S) {p : Addr} {o : HO} (hp : p ∉ ι) (hm : IsC (H p)) : HR G (upd H p o) ι S := by
  refine ⟨h.len, h.nd, fun i c a e1 e2 => (h.cell i c a e1 e2).le (Lk.other hm) (upd_ne fun z => hp (z ▸ (List.mem_of_getElem? e2))), fun q hq => ?_⟩
  obtain ⟨ps, h1, h2, h3⟩ := h.tabs q hq
  have n1 : q.1 ≠ p := fun z => by rw [← z, h1] at hm; exact hm
  refine ⟨ps, by rw [upd_ne n1]; exact h1, h2, fun pos cv e => ?_⟩
  obtain ⟨c0, a1, a2⟩ := h3 pos cv e
  refine ⟨c0, a1, ?_⟩
  have n2 : c0 ≠ p := fun z => by
    rw [← z, a2] at hm
    exact hm
  rw [upd_ne n2]
  exact a2
abbrev W0 : WX := fun _ _ _ _ => False
section
variable {X : Cx} {G : Gx} {W : WX} {elt tg iter : Expr} {ifs : List Expr} {scope : Scope} {own : List (Str × Nat)} {pos : Pos} {mi : MI} {mg' : MG} {mt : MT} {me : ME}
theorem lm_lc {wi : TI} {g : TG} {tt : TT} {te : TE} (im : IM G W wi mi) (gm : GM G W0 g mg') (og : OwnG g (own.map (·.2))) (tm : TM G W0 tt mt) (em : EM G W0 te me) : LM G W (tLc wi g tt te (own.map (·.2))) (mLc (own.map (·.2)) mi mg' mt me) := fun σ H ι S env Q hr re h => by
  show wi σ H fun J H1 => ∀ D, H1 D = none → ∃ W : Nat → Nat → Hp → Prop, _
  refine im σ H ι S env _ hr re ?_
  refine (Res.wp_bind h).mono (fun w S1 q J H1 ι1 G1 Y t1 h1 wk hG hY Dl hD => ?_) fun _ _ z => z
  have hDι : Dl ∉ ι1 := h1.out hD
  have hD0 : NF H Dl := t1.nf (.of_none hD) fun z => hDι (t1.sub z)
  refine lc_it wk (fun i H' => ∃ ι' S' acc vs, Tr H1 ι1 H' ι' ∧ HR G H' ι' S' ∧ Dl ∉ ι' ∧ H' Dl = some (.lst vs) ∧ RpA G.K H' ι' vs acc ∧
    (lcGo w.keep mg' mt me (wipeE env (own.map (·.2))) (w.items.drop i) S' acc).wp (PostL G H ι Q) (PostX G H ι W σ)) ?_ ?_ ?_ ?_
  · exact ⟨ι1, S1, [], [], Tr.laid hD, h1.laid hD, hDι, upd_same, .nil, q⟩
  · rintro i H' hi ⟨ι', S', acc, vs, t, hr', hn, e, r, q'⟩
    refine hG H' ι' S' t hr' ?_
    cases el : w.items.drop i with
    | nil =>
      rw [el] at q'
      unfold lcGo at q'
      by_cases hk : w.keep S'
      · exact hk
      · rw [if_neg hk] at q'; exact q'.elim
    | cons d ds =>
      rw [el] at q'
      unfold lcGo at q'
      by_cases hk : w.keep S'
      · exact hk
      · rw [if_neg hk] at q'; exact q'.elim
  · rintro i x H' H2 hi ⟨ι', S', acc, vs, t, hr', hn, e, r, q'⟩ hy
    have ed : w.items.drop i = w.items[i] :: w.items.drop (i + 1) := List.drop_eq_getElem_cons hi
    rw [ed] at q'
    unfold lcGo at q'
    by_cases hk : w.keep S'
    · rw [if_pos hk] at q'
      obtain ⟨t2, h2, r2⟩ := hY i w.items[i] H' ι' S' x H2 (List.getElem?_eq_getElem hi) t hr' hk hy
      have e2 : H2 Dl = some (.lst vs) := t2.keep Dl _ e hn (by intro ps z; cases z)
      have reW : RE G.K H2 ι' (wipe σ (own.map (·.2))) (wipeE env (own.map (·.2))) := (re.wipe _).mono ((t1.trans t).trans t2)
      have z := og x (wipe σ (own.map (·.2))) H2
      rw [wipe_idem] at z
      refine z _ ?_
      clear z
      refine gm x w.items[i] (wipe σ (own.map (·.2))) H2 ι' S' (wipeE env (own.map (·.2))) _ h2 reW r2 ?_
      refine (calm_bind (E' := fun _ _ => False) q').mono (fun e1 S3 q3 σ3 H3 ι3 t3 h3 re3 => ?_) fun _ _ z => z
      have e3 : H3 Dl = some (.lst vs) := t3.keep Dl _ e2 hn (by intro ps z; cases z)
      have n3 : Dl ∉ ι3 := fun z => by
        by_cases h0 : Dl ∈ ι'
        · exact hn h0
        · exact (t3.new Dl z h0).ne e2 (by intro ps z; cases z) rfl
      refine tm σ3 H3 ι3 S3 e1 _ h3 re3 ((calm_bind (E' := PostX G H3 ι3 W0 σ3) q3).mono (fun b S4 q4 H4 ι4 t4 h4 => ?_) fun _ _ z => z)
      have e4 : H4 Dl = some (.lst vs) := t4.keep Dl _ e3 n3 (by intro ps z; cases z)
      have n4 : Dl ∉ ι4 := fun z => by
        by_cases h0 : Dl ∈ ι3
        · exact n3 h0
        · exact (t4.new Dl z h0).ne e3 (by intro ps z; cases z) rfl
      have t14 : Tr H1 ι1 H4 ι4 := ((t.trans t2).trans t3).trans t4
      cases b with
      | false => exact ⟨ι4, S4, acc, vs, t14, h4, n4, e4, RpA.mono ((t2.trans t3).trans t4) _ r, q4⟩
      | true =>
        rw [if_pos rfl] at q4
        dsimp only
        rw [if_pos rfl]
        refine em σ3 H4 ι4 S4 e1 _ h4 (re3.mono t4) ((calm_bind (E' := PostX G H4 ι4 W0 σ3) q4).mono (fun y S5 q5 u H5 ι5 t5 h5 r5 => ?_) fun _ _ z => z)
        have e5 : H5 Dl = some (.lst vs) := t5.keep Dl _ e4 n4 (by intro ps z; cases z)
        have n5 : Dl ∉ ι5 := fun z => by
          by_cases h0 : Dl ∈ ι4
          · exact n4 h0
          · exact (t5.new Dl z h0).ne e4 (by intro ps z; cases z) rfl
        have rA : RpA G.K H5 ι5 vs acc := RpA.mono (((t2.trans t3).trans t4).trans t5) _ r
        have hc : IsC (H5 Dl) := by rw [e5]; trivial
        by_cases hl : acc.length < 1000000
        · rw [if_pos hl] at q5
          refine ⟨vs, e5, by rw [rA.length]; exact Nat.lt_of_lt_of_le hl (by decide), ι5, S5, acc ++ [y], vs ++ [u], (t14.trans t5).mut (.of_none hD), h5.other n5 hc, n5, upd_same, RpA.le (Lk.other hc) _ (rA.append (.cons r5 .nil)), q5⟩
        · rw [if_neg hl] at q5
          exact q5.elim
    · rw [if_neg hk] at q'
      exact q'.elim
  · rintro H' ⟨ι', S', acc, vs, t, hr', hn, e, r, q'⟩
    rw [List.drop_length] at q'
    unfold lcGo at q'
    by_cases hk : w.keep S'
    · rw [if_pos hk] at q'
      exact (show PostL G H ι Q acc S' from q') Dl vs H' ι' (t1.trans t) hr' hD0 hn e r
    · rw [if_neg hk] at q'
      exact q'.elim
abbrev blkOf (X : Cx) (scope : Scope) (s : Shared) (H : Hp) (C : Addr) (cl : List (Str × Addr)) (fp : List Addr) : Cx := X.blk s H scope (compEnvC scope cl C X.env) fp
theorem gm_name {i : Nat} : GM G W (gName i) (gmName i) := fun v d σ H ι S env Q hr re r h => (show PostN G H ι Q (env.set i (some d)) S from h) _ H ι Tr.refl hr (re.set r)
theorem tm_yes : TM G W tYes mYes := fun σ H ι S env Q hr re h => (show PostB G H ι Q true S from h) H ι Tr.refl hr
/-- names alone as a tuple's targets -/
def gNs : List Nat → TGs
  | [] => gNil
  | i :: is => gCons (gName i) (gNs is)
theorem monoGs_ns : ∀ is : List Nat, MonoGs (gNs is)
  | [] => monoGs_nil
  | _ :: is => monoGs_cons monoG_name (monoGs_ns is)
theorem ownGs_ns {vs : List Nat} : ∀ is : List Nat, (∀ i ∈ is, i ∈ vs) → OwnGs (gNs is) vs
  | [], _ => ownGs_nil
  | i :: is, h => ownGs_cons monoG_name (monoGs_ns is) (ownG_name (h i List.mem_cons_self)) (ownGs_ns is fun j hj => h j (List.mem_cons_of_mem _ hj))
theorem gs_ns : ∀ is : List Nat, GsM G W (gNs is) (is.map gmName)
  | [] => fun vs ds σ H ι S env Q hr re r h => by
    cases r with
    | nil => exact ⟨rfl, (show PostN G H ι Q env S from h) σ H ι Tr.refl hr re⟩
    | cons _ _ => exact (show False from h).elim
  | i :: is => fun vs ds σ H ι S env Q hr re r h => by
    cases r with
    | nil => exact (show False from h).elim
    | @cons v vs d ds r1 rs => exact ⟨v, vs, rfl, gs_ns is vs ds _ H ι S _ Q hr (re.set r1) rs (show (gmAll (is.map gmName) ds (env.set i (some d)) S).wp _ _ from h)⟩
theorem gm_ns {is : List Nat} : GM G W (gTup G.K is.length (gNs is)) (gmTup (is.map gmName)) := fun v d σ H ι S env Q hr re r h => by
  cases r with
  | @tup a vs ds h1 h2 =>
    by_cases hl : ds.length = (is.map gmName).length
    · exact ⟨a, vs, rfl, h1, by rw [h2.length, hl, List.length_map], gs_ns (W := W) is vs ds σ H ι S env Q hr re h2 (by simpa only [gmTup, if_pos hl] using h)⟩
    · simp only [gmTup, if_neg hl] at h
      exact h.elim
  | non => exact (show False from h).elim
  | bl _ => exact (show False from h).elim
  | int _ => exact (show False from h).elim
  | str _ => exact (show False from h).elim
  | obj _ => exact (show False from h).elim
  | fz _ => exact (show False from h).elim
/-- a target of a comprehension: g told, stored in own names -/
structure TgOk (X : Cx) (G : Gx) (scope : Scope) (own : List (Str × Nat)) (tg : Expr) (g : TG) (m : MG) : Prop where
  pg : ∀ (s : Shared) (H : Hp) (C : Addr) (cl : List (Str × Addr)) (fp : List Addr), PG (blkOf X scope s H C cl fp) tg g
  gm : GM G W0 g m
  og : OwnG g (own.map (·.2))
theorem tg_name {i : Nat} {x : Str} {p : Pos} (ho : i ∈ own.map (·.2)) (h : ∀ (s : Shared) (H : Hp) (C : Addr) (cl : List (Str × Addr)) (fp : List Addr), PG (blkOf X scope s H C cl fp) (.Name x p) (gName i)) : TgOk X G scope own (.Name x p) (gName i) (gmName i) := ⟨h, gm_name, ownG_name ho⟩
theorem tg_ns {is : List Nat} {es : List Expr} {k : Nat} {p : Pos} (ho : ∀ i ∈ is, i ∈ own.map (·.2)) (h : ∀ (s : Shared) (H : Hp) (C : Addr) (cl : List (Str × Addr)) (fp : List Addr), PG (blkOf X scope s H C cl fp) (.Tuple es k p) (gTup G.K is.length (gNs is))) :
    TgOk X G scope own (.Tuple es k p) (gTup G.K is.length (gNs is)) (gmTup (is.map gmName)) := ⟨h, gm_ns, ownG_tup (ownGs_ns is ho)⟩
theorem l_lc0 {g : TG} (hc : X.calm = true) (hN : X.N.Nodup) (hi : XI X G W tg iter mi) (ok : BlkOk X.N X.env.scope scope own) (ht : TgOk X G scope own tg g mg')
    (he : ∀ (s : Shared) (H : Hp) (C : Addr) (cl : List (Str × Addr)) (fp : List Addr), XE (blkOf X scope s H C cl fp) G W0 elt me) (hs : ∀ x, foldedSetIterable iter X.env x = pure x := by intro _; rfl) :
    XL X G W (.ListComp elt [⟨tg, iter, [], 0⟩] scope pos) (mLc (own.map (·.2)) mi mg' mYes me) := by
  obtain ⟨wi, pi, im⟩ := hi
  exact ⟨_, pe_lc hc hN pi ok ht.pg (fun _ _ _ _ _ => pts_nil) (fun s H C cl fp => (he s H C cl fp).canon) hs, lm_lc im ht.gm ht.og tm_yes em_canon⟩
theorem l_lc1 {g : TG} {cond : Expr} (hc : X.calm = true) (hN : X.N.Nodup) (hi : XI X G W tg iter mi) (ok : BlkOk X.N X.env.scope scope own) (ht : TgOk X G scope own tg g mg')
    (hcd : ∀ (s : Shared) (H : Hp) (C : Addr) (cl : List (Str × Addr)) (fp : List Addr), XT (blkOf X scope s H C cl fp) G W0 cond mt)
    (he : ∀ (s : Shared) (H : Hp) (C : Addr) (cl : List (Str × Addr)) (fp : List Addr), XE (blkOf X scope s H C cl fp) G W0 elt me) (hs : ∀ x, foldedSetIterable iter X.env x = pure x := by intro _; rfl) :
    XL X G W (.ListComp elt [⟨tg, iter, [cond], 0⟩] scope pos) (mLc (own.map (·.2)) mi mg' mt me) := by
  obtain ⟨wi, pi, im⟩ := hi
  exact ⟨_, pe_lc hc hN pi ok ht.pg (fun s H C cl fp => pts_one (hcd s H C cl fp).canon) (fun s H C cl fp => (he s H C cl fp).canon) hs, lm_lc im ht.gm ht.og tm_canon em_canon⟩
/-- y = [..] -/
theorem s_setL {te : TE} {st : Stmt} {i : Nat} {mr : MA} (hp : PS X st (tAsg te (gName i))) (hl : LM G W te mr) : XS X G W st (mSet i (mNew mr)) := by
  refine ⟨_, hp, fun σ H ι S env Dn hr re h => ?_⟩
  show te σ H fun x H1 => Dn.nx (σ.set i (some x)) H1
  have h' : (lft (mr env S) env fun ds S1 => .nx (env.set i (some (.obj S1.length))) (S1 ++ [.lst ds])).wp (postF G H ι W Dn) := by
    unfold mSet mNew at h
    cases e : mr env S with
    | ok ds S1 => rw [e] at h; exact h
    | exc x S1 => rw [e] at h; exact h
    | stk => rw [e] at h; exact h
  refine lmF hl hr re (fun _ _ _ z => z) h' fun ds S1 p vs H1 ι1 t1 h1 hp hn e1 r1 q1 => ?_
  refine (show PostN G H ι Dn.nx _ _ from q1) _ H1 (ι1 ++ [p]) (t1.grow hp) (h1.take hn ⟨vs, e1, RpA.le Lk.grow _ r1⟩) ((re.mono (t1.grow hp)).set (.obj ?_))
  rw [← h1.len, List.getElem?_append_right (Nat.le_refl _)]
  simp
theorem s_setLc0 {g : TG} {i : Nat} {y : Str} {py spos : Pos} (hc : X.calm = true) (hN : X.N.Nodup) (hy : X.N[i]? = some y) (hyl : X.env.scope.names.lookup y = some .local)
    (hsw : swapsWith (.ListComp elt [⟨tg, iter, [], 0⟩] scope pos) (some (.Name y py)) spos.line X.env = pure true) (hi : XI X G W tg iter mi) (ok : BlkOk X.N X.env.scope scope own) (ht : TgOk X G scope own tg g mg')
    (he : ∀ (s : Shared) (H : Hp) (C : Addr) (cl : List (Str × Addr)) (fp : List Addr), XE (blkOf X scope s H C cl fp) G W0 elt me) (hs : ∀ x, foldedSetIterable iter X.env x = pure x := by intro _; rfl) :
    XS X G W (.Assign [.Name y py] (.ListComp elt [⟨tg, iter, [], 0⟩] scope pos) spos) (mSet i (mNew (mLc (own.map (·.2)) mi mg' mYes me))) := by
  obtain ⟨wi, pi, im⟩ := hi
  exact s_setL (ps_setLc hc hN hy hyl hsw pi ok ht.pg (fun _ _ _ _ _ => pts_nil) (fun s H C cl fp => (he s H C cl fp).canon) hs) (lm_lc im ht.gm ht.og tm_yes em_canon)
theorem s_setLc1 {g : TG} {i : Nat} {y : Str} {py spos : Pos} {cond : Expr} (hc : X.calm = true) (hN : X.N.Nodup) (hy : X.N[i]? = some y) (hyl : X.env.scope.names.lookup y = some .local)
    (hsw : swapsWith (.ListComp elt [⟨tg, iter, [cond], 0⟩] scope pos) (some (.Name y py)) spos.line X.env = pure true) (hi : XI X G W tg iter mi) (ok : BlkOk X.N X.env.scope scope own) (ht : TgOk X G scope own tg g mg')
    (hcd : ∀ (s : Shared) (H : Hp) (C : Addr) (cl : List (Str × Addr)) (fp : List Addr), XT (blkOf X scope s H C cl fp) G W0 cond mt)
    (he : ∀ (s : Shared) (H : Hp) (C : Addr) (cl : List (Str × Addr)) (fp : List Addr), XE (blkOf X scope s H C cl fp) G W0 elt me) (hs : ∀ x, foldedSetIterable iter X.env x = pure x := by intro _; rfl) :
    XS X G W (.Assign [.Name y py] (.ListComp elt [⟨tg, iter, [cond], 0⟩] scope pos) spos) (mSet i (mNew (mLc (own.map (·.2)) mi mg' mt me))) := by
  obtain ⟨wi, pi, im⟩ := hi
  exact s_setL (ps_setLc hc hN hy hyl hsw pi ok ht.pg (fun s H C cl fp => pts_one (hcd s H C cl fp).canon) (fun s H C cl fp => (he s H C cl fp).canon) hs) (lm_lc im ht.gm ht.og tm_canon em_canon)
end

/-! ### a def as a whole -/
mutual
def clD (n : Nat) : D → Bool
  | .tup ds => clA n ds
  | .obj i => decide (i < n)
  | .fz ds => clA n ds
  | _ => true
def clA (n : Nat) : List D → Bool
  | [] => true
  | d :: ds => clD n d && clA n ds
end
def clC (n : Nat) : Cell → Bool
  | .lst ds => clA n ds
  | .dK kvs => clA n (kvs.map (·.2))
  | .dT kvs => clA n (kvs.map (·.2))
def clS (n : Nat) (S : SS) : Bool := S.all (clC n)
/-- the cells of the def's own are dropped where nothing leads to them -/
def gc (n : Nat) (d : D) (S : SS) : Res D := if clS n (S.take n) = true then (if clD n d = true then .ok d (S.take n) else match d with
  | .obj j => match S[j]? with
    | some c => if clC n c = true then .ok (.obj n) (S.take n ++ [c]) else .ok d S
    | none => .ok d S
  | _ => .ok d S) else .ok d S
def clX (n : Nat) (x : Exn) : Bool := match x.pay with
  | none => true
  | some (_, d) => clD n d
def gcX (n : Nat) (x : Exn) (S : SS) : Res D := if (clS n (S.take n) && clX n x) = true then .exc x (S.take n) else .exc x S
/-- n parameters, N names in all -/
def mFn (n N : Nat) (body : MS) : List D → SS → Res D := fun ds S => if ds.length = n then (match body (ds.map some ++ List.replicate (N - ds.length) none) S with
  | .rt d S' => gc S.length d S'
  | .nx _ S' => gc S.length .non S'
  | .ex x _ S' => gcX S.length x S'
  | _ => .stk) else .stk
section
variable {K : PySem.W.Frag} {H : Hp} {ι : List Addr} {n : Nat}
theorem at_take {i : Nat} {a : Addr} (h : ι[i]? = some a) (hi : i < n) : (ι.take n)[i]? = some a := by
  rw [List.getElem?_take_of_lt hi]
  exact h
mutual
theorem Rp.cut : ∀ (d : D) {v : V}, Rp K H ι v d → clD n d = true → Rp K H (ι.take n) v d
  | .non, _, h, _ => by cases h; exact .non
  | .bl b, _, h, _ => by cases h; exact .bl b
  | .int i, _, h, _ => by cases h; exact .int i
  | .str x, _, h, _ => by cases h; exact .str x
  | .tup ds, _, h, c => by
    cases h with
    | tup h1 h2 => exact .tup h1 (RpA.cut ds h2 (by simpa [clD] using c))
  | .obj i, _, h, c => by
    cases h with
    | obj h1 => exact .obj (at_take h1 (by simpa [clD] using c))
  | .fz ds, _, h, c => by
    cases h with
    | fz h1 h2 => exact .fz h1 (RpA.cut ds h2 (by simpa [clD] using c))
theorem RpA.cut : ∀ (ds : List D) {vs : List V}, RpA K H ι vs ds → clA n ds = true → RpA K H (ι.take n) vs ds
  | [], _, h, _ => by cases h; exact .nil
  | d :: ds, _, h, c => by
    have c' : clD n d = true ∧ clA n ds = true := by simpa [clA] using c
    cases h with
    | cons h1 h2 => exact .cons (Rp.cut d h1 c'.1) (RpA.cut ds h2 c'.2)
end
theorem RpK.cut {κ : Type} : ∀ {ws : List (κ × V)} {kvs : List (κ × D)}, RpK K H ι ws kvs → clA n (kvs.map (·.2)) = true → RpK K H (ι.take n) ws kvs
  | _, _, .nil, _ => .nil
  | _, (k, d) :: kvs, .cons h1 h2, c => by
    have c' : clD n d = true ∧ clA n (kvs.map (·.2)) = true := by simpa [clA] using c
    exact .cons ⟨h1.1, Rp.cut d h1.2 c'.1⟩ (RpK.cut h2 c'.2)
theorem CellOk.cut {a : Addr} {c : Cell} (h : CellOk K H ι a c) (hc : clC n c = true) : CellOk K H (ι.take n) a c := by
  cases c with
  | lst ds => obtain ⟨vs, e, r⟩ := h; exact ⟨vs, e, RpA.cut ds r (by simpa [clC] using hc)⟩
  | dK ds => obtain ⟨vs, e, r⟩ := h; exact ⟨vs, e, r.cut (by simpa [clC] using hc)⟩
  | dT ds => obtain ⟨vs, e, r⟩ := h; exact ⟨vs, e, r.cut (by simpa [clC] using hc)⟩
theorem HR.cut {G : Gx} {S : SS} (h : HR G H ι S) (hc : clS n (S.take n) = true) : HR G H (ι.take n) (S.take n) := by
  refine ⟨by rw [List.length_take, List.length_take, h.len], h.nd.sublist (List.take_sublist _ _), fun i c a e1 e2 => ?_, h.tabs⟩
  have hi : i < n := by
    have := (List.getElem?_eq_some_iff.mp e1).1
    rw [List.length_take] at this
    omega
  rw [List.getElem?_take_of_lt hi] at e1 e2
  refine (h.cell i c a e1 e2).cut ?_
  unfold clS at hc
  rw [List.all_eq_true] at hc
  refine hc c (List.mem_of_getElem? (i := i) ?_)
  rw [List.getElem?_take_of_lt hi]
  exact e1
theorem Tr.cut {H0 : Hp} {ι0 : List Addr} (t : Tr H0 ι0 H ι) (hn : ι0.length = n) : ι.take n = ι0 ∧ Tr H0 ι0 H (ι.take n) := by
  obtain ⟨m, e⟩ := t.pre
  have e2 : ι.take n = ι0 := by rw [e, ← hn]; simp
  refine ⟨e2, ?_⟩
  rw [e2]
  exact ⟨⟨[], by simp⟩, fun a h1 h2 => absurd h1 h2, t.keep, t.keepT, t.keepF⟩
end
theorem gc_ok {G : Gx} {H0 H : Hp} {ι0 ι : List Addr} {S0 S : SS} {d : D} {v : V} {Q : VK} {E : Exn → SS → Prop} (h0 : HR G H0 ι0 S0) (t : Tr H0 ι0 H ι) (hr : HR G H ι S) (r : Rp G.K H ι v d) (h : (gc S0.length d S).wp (PostE G H0 ι0 Q) E) : Q v H := by
  have hn : ι0.length = S0.length := h0.len
  obtain ⟨e2, t2⟩ := t.cut hn
  unfold gc at h
  by_cases c1 : clS S0.length (S.take S0.length) = true
  · rw [if_pos c1] at h
    by_cases c2 : clD S0.length d = true
    · rw [if_pos c2] at h
      exact (show PostE G H0 ι0 Q d (S.take S0.length) from h) v H _ t2 (hr.cut c1) (Rp.cut d r c2)
    · rw [if_neg c2] at h
      have dflt : PostE G H0 ι0 Q d S → Q v H := fun q => q v H ι t hr r
      cases d with
      | obj j =>
        have h' : (match S[j]? with
          | some c => if clC S0.length c = true then .ok (.obj S0.length) (S.take S0.length ++ [c]) else .ok (.obj j) S
          | none => .ok (.obj j) S : Res D).wp (PostE G H0 ι0 Q) E := h
        cases ec : S[j]? with
        | none => rw [ec] at h'; exact dflt h'
        | some c =>
          rw [ec] at h'
          by_cases c3 : clC S0.length c = true
          · simp only [if_pos c3] at h'
            have hj : S0.length ≤ j := by
              have : ¬ j < S0.length := fun z => c2 (by simp [clD, z])
              omega
            cases r with
            | @obj _ a e1 =>
              have ha : a ∉ ι.take S0.length := fun z => by
                obtain ⟨k, hk, ek⟩ := List.getElem_of_mem z
                rw [List.length_take] at hk
                rw [List.getElem_take] at ek
                obtain ⟨w1, q1⟩ := List.getElem?_eq_some_iff.mp e1
                have := (List.getElem_inj hr.nd).mp (ek.trans q1.symm)
                omega
              have hN : NF H0 a := t.new a (List.mem_of_getElem? e1) (by rw [← e2]; exact ha)
              refine (show PostE G H0 ι0 Q (.obj S0.length) (S.take S0.length ++ [c]) from h') (.ref a) H (ι.take S0.length ++ [a]) (t2.grow hN) ((hr.cut c1).take ha ?_) (.obj ?_)
              · exact ((hr.cell j c a ec e1).cut c3).le Lk.grow rfl
              · rw [e2, ← hn, List.getElem?_append_right (Nat.le_refl _)]
                simp
          · simp only [if_neg c3] at h'
            exact dflt h'
      | non => exact dflt h
      | bl _ => exact dflt h
      | int _ => exact dflt h
      | str _ => exact dflt h
      | tup _ => exact dflt h
      | fz _ => exact dflt h
  · rw [if_neg c1] at h
    exact (show PostE G H0 ι0 Q d S from h) v H ι t hr r
theorem XRp.cut {G : Gx} {H : Hp} {ι : List Addr} {n : Nat} {x : Exn} {cls : Value} {dd : Option Addr} (r : XRp G H ι x cls dd) (h : clX n x = true) : XRp G H (ι.take n) x cls dd := by
  obtain ⟨c, h1, h2, h3⟩ := r
  refine ⟨c, h1, h2, ?_⟩
  unfold clX at h
  cases e : x.pay with
  | none => rw [e] at h3; exact h3
  | some p =>
    obtain ⟨f, d⟩ := p
    rw [e] at h3 h
    obtain ⟨a, v, q1, q2, q3, q4⟩ := h3
    exact ⟨a, v, q1, q2, fun z => q3 (List.mem_of_mem_take z), Rp.cut d q4 h⟩
theorem gcX_ok {G : Gx} {H0 H : Hp} {ι0 ι : List Addr} {S0 S : SS} {x : Exn} {cls : Value} {dd : Option Addr} {P : D → SS → Prop} {E : XK} (h0 : HR G H0 ι0 S0) (t : Tr H0 ι0 H ι) (hr : HR G H ι S) (r : XRp G H ι x cls dd)
    (h : (gcX S0.length x S).wp P (fun x S' => ∀ cls dd H' ι', Tr H0 ι0 H' ι' → HR G H' ι' S' → XRp G H' ι' x cls dd → E cls dd H')) : E cls dd H := by
  obtain ⟨e2, t2⟩ := t.cut h0.len
  unfold gcX at h
  by_cases c1 : (clS S0.length (S.take S0.length) && clX S0.length x) = true
  · rw [if_pos c1] at h
    have c2 : clS S0.length (S.take S0.length) = true ∧ clX S0.length x = true := by simpa using c1
    exact h cls dd H _ t2 (hr.cut c2.1) (r.cut c2.2)
  · rw [if_neg c1] at h
    exact h cls dd H ι t hr r
theorem RE_start {K : PySem.W.Frag} {H : Hp} {ι : List Addr} {N : List Str} {vs : List V} {ds : List D} (r : RpA K H ι vs ds) : RE K H ι (L2.start N vs) (ds.map some ++ List.replicate (N.length - ds.length) none) := by
  have hl := r.length
  refine ⟨by simp [L2.start, hl], fun i d e => ?_⟩
  by_cases hi : i < ds.length
  · rw [List.getElem?_append_left (by simpa using hi), List.getElem?_map] at e
    cases ed : ds[i]? with
    | none => rw [ed] at e; cases e
    | some d' =>
      rw [ed] at e
      cases e
      obtain ⟨v, ev, rv⟩ := r.get ed
      refine ⟨v, ?_, rv⟩
      unfold L2.start
      rw [List.getElem?_append_left (by simpa [hl] using hi), List.getElem?_map, ev]
      rfl
  · rw [List.getElem?_append_right (by simpa using Nat.le_of_not_lt hi)] at e
    rw [List.getElem?_replicate] at e
    split at e <;> cases e
/-- the rule for a def: its body's derivation and mirror -/
theorem fn_ok {P : Program} {w : World} {mg : Str → Option Value} {base : Heap} {G : Gx} {x qual : Str} {st : Stmt} {f : Addr} {fd : FuncData} {N ps : List Str} {k : Nat} {m : MS} (F : Fun G.K x qual st f fd) (S : FnScope N ps (defScope st)) {n : Nat} (hn : ps.length = n)
    (h : ∀ (cdv : Value) (A : Around) (outer : List Env) (s : Shared) (H : Hp) (E : XK), Room k (A.deeper (PyProof.Rows.envOfC qual (defScope st) s.heap.objs.size f cdv)) →
      XSs (cxOf (L2.CX P w) P w G.K mg base N qual (defScope st) f cdv A outer s H E) G (fun cls d _ H => E cls d H) (defBody st) m) :
    FnOk P w G.K mg base (L2.CX P w) (k + 1) f fd ps (spOf G n (mFn n N.length m)) := by
  refine F.okX S (fun vs H Q E q => by rw [hn]; exact q.1) fun cdv A outer s H vs Q E hr q => ?_
  obtain ⟨hl, ι, SS', ds, h0, r, q⟩ := q
  obtain ⟨t, p, sm⟩ := h cdv A outer s H E hr
  refine ⟨t, p, ?_⟩
  have hd : ds.length = n := by rw [← r.length]; exact hl
  unfold mFn at q
  rw [if_pos hd] at q
  refine sm (L2.start N vs) H ι SS' (ds.map some ++ List.replicate (N.length - ds.length) none) _ h0 (RE_start r) ?_
  cases e : m (ds.map some ++ List.replicate (N.length - ds.length) none) SS' with
  | nx e1 S1 => rw [e] at q; exact fun σ' H' ι' t1 h1 re1 => gc_ok h0 t1 h1 .non q
  | rt d S1 => rw [e] at q; exact fun v H' ι' t1 h1 r1 => gc_ok h0 t1 h1 r1 q
  | bk e1 S1 => rw [e] at q; exact q.elim
  | ct e1 S1 => rw [e] at q; exact q.elim
  | ex y e1 S1 => rw [e] at q; exact fun cls dd σ' H' ι' t1 h1 re1 xr => gcX_ok h0 t1 h1 xr q
  | stk => rw [e] at q; exact q.elim
end FW

set_option Elab.async false
set_option linter.all false
set_option maxRecDepth 100000
set_option maxHeartbeats 4000000
/-! The M layer, 7: operations on data. -/
namespace FW
open PySem PySem.Spec L2

/-! ### packed rules -/
def X2 (X : Cx) (G : Gx) (fn : Value → Value → Sem Value) (f : D → D → SS → Res D) : Prop := ∃ r, OpR X fn r ∧ Op2 G r f
def X1 (X : Cx) (G : Gx) (fn : Value → Sem Value) (f : D → SS → Res D) : Prop := ∃ r, UnR X fn r ∧ Op1 G r f
def XC (X : Cx) (G : Gx) (fn : Value) (f : List D → SS → Res D) : Prop := ∃ r, CallR X fn r ∧ OpA G r f
def XIx (X : Cx) (G : Gx) (f : D → D → SS → Res D) : Prop := ∃ r, IxR X r ∧ Op2 G r f
def XSl (X : Cx) (G : Gx) (f : D → Option Int → Option Int → SS → Res D) : Prop := ∃ r, SlR X r ∧ OpSl G r f
theorem CallR.or {X : Cx} {fn : Value} {r r' : List V → Hp → VK → Prop} (h : CallR X fn r) (h' : CallR X fn r') : CallR X fn (fun xs H Q => r xs H Q ∨ r' xs H Q) := by
  intro pins s σ H xs us Q I rv q
  rcases q with q | q
  · exact h pins s σ H xs us Q I rv q
  · exact h' pins s σ H xs us Q I rv q
theorem SlR.or {X : Cx} {r r' : V → Option Int → Option Int → Hp → VK → Prop} (h : SlR X r) (h' : SlR X r') : SlR X (fun x lo hi H Q => r x lo hi H Q ∨ r' x lo hi H Q) := by
  intro pins s σ H x v vl vu lo hi sl Q I rx hs pl pu q
  rcases q with q | q
  · exact h pins s σ H x v vl vu lo hi sl Q I rx hs pl pu q
  · exact h' pins s σ H x v vl vu lo hi sl Q I rx hs pl pu q
section
variable {X : Cx} {G : Gx} {W : WX} {a b c e : Expr} {es : List Expr} {pos p : Pos} {ma mb mc : ME} {mr : MA} {f g : D → D → SS → Res D}
theorem xb {op : Operator} (h : X2 X G (binaryOp op) f) (ha : XE X G W a ma) (hb : XE X G W b mb) : XE X G W (.BinOp a op b pos) (mOp2 f ma mb) := let ⟨_, h1, h2⟩ := h; x_bin h1 h2 ha hb
theorem xu {op : UnaryOp} {f : D → SS → Res D} (h : X1 X G (unaryOp op) f) (ha : XE X G W a ma) : XE X G W (.UnaryOp op a pos) (mOp1 f ma) := let ⟨_, h1, h2⟩ := h; x_un h1 h2 ha
theorem xcmp {op : CmpOp} (h : X2 X G (compareOp op) f) (ha : XE X G W a ma) (hb : XE X G W b mb) (hm : behindInMarks op b = false := by rfl) : XE X G W (.Compare a [op] [b] pos) (mOp2 f ma mb) := let ⟨_, h1, h2⟩ := h; x_cmp h1 h2 ha hb hm
theorem tcmp {op : CmpOp} (h : X2 X G (compareOp op) f) (ha : XE X G W a ma) (hb : XE X G W b mb) (hm : behindInMarks op b = false := by rfl) : XT X G W (.Compare a [op] [b] pos) (mTst (mOp2 f ma mb)) := let ⟨_, h1, h2⟩ := h; t_cmp h1 h2 ha hb hm
theorem xchain {op op' : CmpOp} (h : X2 X G (compareOp op) f) (h' : X2 X G (compareOp op') g) (ha : XE X G W a ma) (hb : XE X G W b mb) (hc : XE X G W c mc) (hm : lastMarks [op, op'] [b, c] = false := by with_unfolding_all rfl) :
    XE X G W (.Compare a [op, op'] [b, c] pos) (mChain f g ma mb mc) := let ⟨_, h1, h2⟩ := h; let ⟨_, h3, h4⟩ := h'; x_chain h1 h2 h3 h4 ha hb hc hm
theorem tchain {op op' : CmpOp} (h : X2 X G (compareOp op) f) (h' : X2 X G (compareOp op') g) (ha : XE X G W a ma) (hb : XE X G W b mb) (hc : XE X G W c mc) (hm : lastMarks [op, op'] [b, c] = false := by with_unfolding_all rfl) :
    XT X G W (.Compare a [op, op'] [b, c] pos) (mTst (mChain f g ma mb mc)) := let ⟨_, h1, h2⟩ := h; let ⟨_, h3, h4⟩ := h'; t_chain h1 h2 h3 h4 ha hb hc hm
theorem xcB {x : Str} {id : String} {f : List D → SS → Res D} (h : XC X G (.builtin id) f) (hv : bootBuiltins x = some (.builtin id)) (hg : Gl X x) (hm : X.mg x = none) (ha : XA X G W (e :: es) mr)
    (hn : x ≠ "__name__" := by decide) (hdb : (x == ("__debug__" : Str)) = false := by decide)
    (he : starEach (e :: es) X.env = (false, eval e X.env) :: starEach es X.env := by rfl) (hpl : (backTo pos (starEach es X.env)).any (·.1) = false := by rfl) : XE X G W (.Call (.Name x p) (e :: es) [] pos) (mOpA f mr) := let ⟨_, h1, h2⟩ := h; x_callB h1 h2 hg hm hv ha hn hdb he hpl
theorem xcT {x : Str} {T : String} {f : List D → SS → Res D} (h : XC X G (.type T) f) (hv : bootBuiltins x = some (.type T)) (hg : Gl X x) (hm : X.mg x = none) (ha : XA X G W (e :: es) mr)
    (hn : x ≠ "__name__" := by decide) (hdb : (x == ("__debug__" : Str)) = false := by decide)
    (he : starEach (e :: es) X.env = (false, eval e X.env) :: starEach es X.env := by rfl) (hpl : (backTo pos (starEach es X.env)).any (·.1) = false := by rfl) : XE X G W (.Call (.Name x p) (e :: es) [] pos) (mOpA f mr) := let ⟨_, h1, h2⟩ := h; x_callTy h1 h2 hg hm hv ha hn hdb he hpl
theorem xix (h : XIx X G f) (ha : XE X G W a ma) (hb : XE X G W b mb) (hs : PlainIx b := by intro _ _; rfl) : XE X G W (.Subscript a b pos) (mOp2 f ma mb) := let ⟨_, h1, h2⟩ := h; x_ix h1 h2 ha hb hs
theorem xsl {lo hi : Option Expr} {p2 : Pos} {ml mh : MO} {f : D → Option Int → Option Int → SS → Res D} (h : XSl X G f) (ha : XE X G W a ma) (hl : XO X G W lo ml) (hh : XO X G W hi mh) : XE X G W (.Subscript a (.Slice lo hi none p2) pos) (mSl f ma ml mh) := let ⟨_, h1, h2⟩ := h; x_slice h1 h2 ha hl hh
end

/-! ### what is laid -/
section
variable {G : Gx} {H : Hp} {ι : List Addr} {S : SS} {Q : VK} {vs : List V} {ds : List D}
theorem lay_lst (hr : HR G H ι S) (r : RpA G.K H ι vs ds) (h : PostE G H ι Q (.obj S.length) (S ++ [.lst ds])) : ∀ p, H p = none → Q (.ref p) (upd H p (.lst vs)) := fun p hp => by
  have l1 : Lk H ι (upd H p (.lst vs)) ι := (Tr.laid hp).lk
  refine h (.ref p) _ (ι ++ [p]) (Tr.cell hp) (hr.add hp ⟨vs, upd_same, RpA.le Lk.grow _ (RpA.le l1 _ r)⟩) (.obj ?_)
  rw [← hr.len, List.getElem?_append_right (Nat.le_refl _)]
  simp
theorem lay_tup (hr : HR G H ι S) (r : RpA G.K H ι vs ds) (h : PostE G H ι Q (.tup ds) S) : ∀ p, H p = none → Q (.ref p) (upd H p (.tup vs)) := fun p hp =>
  h (.ref p) _ ι (Tr.laid hp) (hr.laid hp) (.tup (.inl (.inl upd_same)) (RpA.mono (Tr.laid hp) _ r))
theorem now (hr : HR G H ι S) {v : V} {d : D} (r : Rp G.K H ι v d) (h : PostE G H ι Q d S) : Q v H := h v H ι Tr.refl hr r
end

/-! ### arithmetic -/
def repS (a : Str) (n : Nat) : Str := ⟨((List.replicate n a.cps.toList).flatten).toArray⟩
def dAdd : D → D → SS → Res D
  | .int i, .int j, S => .ok (.int (i + j)) S
  | .str a, .str b, S => if a.length + b.length ≤ 1000000 then .ok (.str (a ++ b)) S else .stk
  | .tup xs, .tup ys, S => if xs.length + ys.length ≤ 1000000 then .ok (.tup (xs ++ ys)) S else .stk
  | .obj i, .obj j, S => match S[i]?, S[j]? with
    | some (.lst xs), some (.lst ys) => if xs.length + ys.length ≤ 1000000 then .ok (.obj S.length) (S ++ [.lst (xs ++ ys)]) else .stk
    | _, _ => .stk
  | _, _, _ => .stk
def dSub : D → D → SS → Res D
  | .int i, .int j, S => .ok (.int (i - j)) S
  | _, _, _ => .stk
def dMul : D → D → SS → Res D
  | .int i, .int j, S => if i.natAbs.log2 + j.natAbs.log2 < 1000000 then .ok (.int (i * j)) S else .stk
  | .str a, .int n, S => if a.length * n.toNat ≤ 1000000 ∧ -1000000 ≤ n ∧ n ≤ 1000000 then .ok (.str (repS a n.toNat)) S else .stk
  | .obj i, .int n, S => match S[i]? with
    | some (.lst xs) => if xs.length * n.toNat ≤ 1000000 ∧ -1000000 ≤ n ∧ n ≤ 1000000 then .ok (.obj S.length) (S ++ [.lst (List.replicate n.toNat xs).flatten]) else .stk
    | _ => .stk
  | _, _, _ => .stk
def dDiv : D → D → SS → Res D
  | .int i, .int j, S => if 0 < j ∧ j.natAbs.log2 < 9000 then .ok (.int (i / j)) S else .stk
  | _, _, _ => .stk
def dMod : D → D → SS → Res D
  | .int i, .int j, S => if 0 < j then .ok (.int (i % j)) S else .stk
  | _, _, _ => .stk
def dPow : D → D → SS → Res D
  | .int i, .int j, S => if 0 ≤ j ∧ (Builtin.Int.intBits i : Int) * j ≤ 100000000 then .ok (.int (i ^ j.toNat)) S else .stk
  | _, _, _ => .stk
def dNeg : D → SS → Res D
  | .int i, S => .ok (.int (-i)) S
  | _, _ => .stk
theorem foldl_flat (c : Array Nat) : ∀ (n : Nat) (acc : Array Nat), (List.replicate n c).foldl (· ++ ·) acc = acc ++ ((List.replicate n c.toList).flatten).toArray
  | 0, acc => by simp
  | n + 1, acc => by
    rw [List.replicate_succ, List.foldl_cons, foldl_flat c n, List.replicate_succ, List.flatten_cons, Array.append_assoc]
    congr 1
    apply Array.toList_inj.mp
    simp
theorem mul_rep (a : Str) (n : Int) : Txt.mul a n = repS a n.toNat := by
  unfold Txt.mul repS
  by_cases h1 : n < 1
  · rw [if_pos h1]
    have : n.toNat = 0 := by omega
    rw [this]
    rfl
  · rw [if_neg h1]
    by_cases h2 : (n == 1 || a.length == 0) = true
    · rw [if_pos h2]
      rcases (Bool.or_eq_true _ _).mp h2 with h3 | h3
      · have : n = 1 := by simpa using h3
        subst this
        cases a
        simp
      · have h4 : a.cps.size = 0 := by simpa [Str.length] using h3
        have h5 : a.cps.toList = [] := by
          apply List.eq_nil_of_length_eq_zero
          simpa using h4
        rw [h5]
        cases a with
        | mk c =>
          have : c = #[] := by
            apply Array.toList_inj.mp
            simpa using h5
          subst this
          simp
    · rw [if_neg h2, foldl_flat]
      simp
section
variable {X : Cx} {G : Gx}
theorem op_mulStr : OpR X (binaryOp .Mult) (fun x y H Q => ∃ (a : Str) (n : Int), x = .str a ∧ y = .int n ∧ a.length * n.toNat ≤ 1000000 ∧ -1000000 ≤ n ∧ n ≤ 1000000 ∧ Q (.str (repS a n.toNat)) H) := by
  intro pins s σ H x y v u Q I rx ry h
  obtain ⟨a, n, rfl, rfl, h1, h2, h3, q⟩ := h
  obtain ⟨t, rfl⟩ := rx
  obtain ⟨t', rfl⟩ := ry
  refine PySem.SB.mul ⟨?_, fun h4 h5 => ?_, fun h4 h5 => ?_⟩ fun tt k => ⟨.str _, H, I.tok k, ⟨tt, rfl⟩, by rw [mul_rep]; exact q⟩
  · exact Bool.or_eq_false_iff.mpr ⟨decide_eq_false (by omega), decide_eq_false (by omega)⟩
  · intro h6
    have h7 : (0 : Int) < n := by omega
    have h8 := (Int.ediv_lt_iff_lt_mul h7).mp h6
    have h9 : (a.length : Int) * n ≤ 1000000 := by
      have e : (n.toNat : Int) = n := by omega
      rw [← e]
      have h10 : ((a.length * n.toNat : Nat) : Int) ≤ ((1000000 : Nat) : Int) := Int.ofNat_le.mpr h1
      rw [Int.natCast_mul] at h10
      exact h10
    omega
  · have hs : sizeLine = 16777216 := sizeLine_eq
    exact decide_eq_false (by omega)
theorem op_powW : OpR X (binaryOp .Pow) (rI (fun i j => 0 ≤ j ∧ (Builtin.Int.intBits i : Int) * j ≤ 100000000) fun i j => .int (i ^ j.toNat)) := opI fun _ _ _ _ _ _ _ hc q => PyProof.Rows.pow_int hc.1 (by have := hc.2; omega) q


theorem x2_add (hK : X.K = G.K) : X2 X G (binaryOp .Add) dAdd := by
  refine ⟨_, op_add.or (op_add_str.or (op_catA.or op_cat)), ?_⟩
  rw [hK]
  intro H ι S x y d e Q E hr r1 r2 h
  cases r1 <;> cases r2 <;> try exact (show False from h).elim
  case int.int => exact .inl ⟨_, _, rfl, rfl, now hr (.int _) h⟩
  case str.str a b =>
    by_cases c : a.length + b.length ≤ 1000000
    · rw [dAdd, if_pos c] at h
      exact .inr (.inl ⟨_, _, rfl, rfl, small_line c, now hr (.str _) h⟩)
    · rw [dAdd, if_neg c] at h
      exact h.elim
  case tup.tup a vs ds s1 q1 b ws es s2 q2 =>
    by_cases c : ds.length + es.length ≤ 1000000
    · rw [dAdd, if_pos c] at h
      refine .inr (.inr (.inl ⟨_, _, vs, ws, rfl, rfl, s1, s2, by rw [q1.length, q2.length]; exact small_line c, fun e => ?_, fun _ e => ?_, fun _ _ => lay_tup hr (q1.append q2) h⟩))
      · subst e
        cases q1
        exact now hr (.tup s2 q2) h
      · subst e
        cases q2
        rw [List.append_nil] at h
        exact now hr (.tup s1 q1) h
    · rw [dAdd, if_neg c] at h
      exact h.elim
  case obj.obj i a e1 j b e2 =>
    have h' : (match S[i]?, S[j]? with
      | some (.lst xs), some (.lst ys) => if xs.length + ys.length ≤ 1000000 then .ok (.obj S.length) (S ++ [.lst (xs ++ ys)]) else .stk
      | _, _ => .stk : Res D).wp (PostE G H ι Q) E := h
    cases c1 : S[i]? with
    | none => rw [c1] at h'; exact h'.elim
    | some x1 =>
      cases c2 : S[j]? with
      | none => rw [c1, c2] at h'; cases x1 <;> exact h'.elim
      | some x2 =>
        rw [c1, c2] at h'
        cases x1 <;> cases x2 <;> try exact (show False from h').elim
        rename_i xs ys
        obtain ⟨vs, k1, q1⟩ := hr.cell i _ a c1 e1
        obtain ⟨ws, k2, q2⟩ := hr.cell j _ b c2 e2
        by_cases c : xs.length + ys.length ≤ 1000000
        · simp only [if_pos c] at h'
          exact .inr (.inr (.inr ⟨a, b, vs, ws, rfl, rfl, k1, k2, by rw [q1.length, q2.length]; exact small_line c, lay_lst hr (q1.append q2) h'⟩))
        · simp only [if_neg c] at h'
          exact h'.elim
theorem x2_sub : X2 X G (binaryOp .Sub) dSub := by
  refine ⟨_, op_sub, ?_⟩
  intro H ι S x y d e Q E hr r1 r2 h
  cases r1 <;> cases r2 <;> try exact (show False from h).elim
  exact ⟨_, _, rfl, rfl, now hr (.int _) h⟩
theorem RpA.rep {K : PySem.W.Frag} {H : Hp} {ι : List Addr} {vs : List V} {ds : List D} (r : RpA K H ι vs ds) : ∀ n : Nat, RpA K H ι (List.replicate n vs).flatten (List.replicate n ds).flatten
  | 0 => .nil
  | n + 1 => by
    rw [List.replicate_succ, List.replicate_succ, List.flatten_cons, List.flatten_cons]
    exact r.append (r.rep n)
theorem x2_mul (hK : X.K = G.K) : X2 X G (binaryOp .Mult) dMul := by
  refine ⟨_, op_mulW.or (op_mulStr.or op_rep), ?_⟩
  intro H ι S x y d e Q E hr r1 r2 h
  cases r1 <;> cases r2 <;> try exact (show False from h).elim
  case int.int i j =>
    by_cases c : i.natAbs.log2 + j.natAbs.log2 < 1000000
    · rw [dMul, if_pos c] at h
      exact .inl ⟨_, _, rfl, rfl, c, now hr (.int _) h⟩
    · rw [dMul, if_neg c] at h
      exact h.elim
  case str.int a n =>
    by_cases c : a.length * n.toNat ≤ 1000000 ∧ -1000000 ≤ n ∧ n ≤ 1000000
    · rw [dMul, if_pos c] at h
      exact .inr (.inl ⟨_, _, rfl, rfl, c.1, c.2.1, c.2.2, now hr (.str _) h⟩)
    · rw [dMul, if_neg c] at h
      exact h.elim
  case obj.int i a e1 n =>
    have h' : (match S[i]? with
      | some (.lst xs) => if xs.length * n.toNat ≤ 1000000 ∧ -1000000 ≤ n ∧ n ≤ 1000000 then .ok (.obj S.length) (S ++ [.lst (List.replicate n.toNat xs).flatten]) else .stk
      | _ => .stk : Res D).wp (PostE G H ι Q) E := h
    cases c1 : S[i]? with
    | none => rw [c1] at h'; exact h'.elim
    | some x1 =>
      rw [c1] at h'
      cases x1 <;> try exact (show False from h').elim
      rename_i xs
      obtain ⟨vs, k1, q1⟩ := hr.cell i _ a c1 e1
      by_cases c : xs.length * n.toNat ≤ 1000000 ∧ -1000000 ≤ n ∧ n ≤ 1000000
      · simp only [if_pos c] at h'
        exact .inr (.inr ⟨a, n, vs, rfl, rfl, k1, by omega, by omega, by rw [q1.length]; exact small_line c.1, lay_lst hr (q1.rep _) h'⟩)
      · simp only [if_neg c] at h'
        exact h'.elim
theorem x2_div : X2 X G (binaryOp .FloorDiv) dDiv := by
  refine ⟨_, op_fdivW, ?_⟩
  intro H ι S x y d e Q E hr r1 r2 h
  cases r1 <;> cases r2 <;> try exact (show False from h).elim
  rename_i i j
  by_cases c : 0 < j ∧ j.natAbs.log2 < 9000
  · rw [dDiv, if_pos c] at h
    exact ⟨_, _, rfl, rfl, c, now hr (.int _) h⟩
  · rw [dDiv, if_neg c] at h
    exact h.elim
theorem x2_mod : X2 X G (binaryOp .Mod) dMod := by
  refine ⟨_, op_mod, ?_⟩
  intro H ι S x y d e Q E hr r1 r2 h
  cases r1 <;> cases r2 <;> try exact (show False from h).elim
  rename_i i j
  by_cases c : 0 < j
  · rw [dMod, if_pos c] at h
    exact ⟨_, _, rfl, rfl, c, now hr (.int _) h⟩
  · rw [dMod, if_neg c] at h
    exact h.elim
theorem x2_pow : X2 X G (binaryOp .Pow) dPow := by
  refine ⟨_, op_powW, ?_⟩
  intro H ι S x y d e Q E hr r1 r2 h
  cases r1 <;> cases r2 <;> try exact (show False from h).elim
  rename_i i j
  by_cases c : 0 ≤ j ∧ (Builtin.Int.intBits i : Int) * j ≤ 100000000
  · rw [dPow, if_pos c] at h
    exact ⟨_, _, rfl, rfl, c, now hr (.int _) h⟩
  · rw [dPow, if_neg c] at h
    exact h.elim
theorem x1_neg : X1 X G (unaryOp .USub) dNeg := by
  refine ⟨_, un_neg, ?_⟩
  intro H ι S x d Q E hr r1 h
  cases r1 <;> try exact (show False from h).elim
  exact ⟨_, rfl, now hr (.int _) h⟩

/-! ### comparisons -/
/-- data as the library's plain data, the lists by the mirror heap -/
def pd : Nat → SS → D → Option PyData
  | 0, _, _ => none
  | _ + 1, _, .non => some .none
  | _ + 1, _, .bl b => some (.bool b)
  | _ + 1, _, .int i => some (.int i)
  | _ + 1, _, .str a => some (.str a)
  | n + 1, S, .tup xs => (xs.mapM (pd n S)).map .tuple
  | n + 1, S, .fz xs => (xs.mapM (pd n S)).map .list
  | n + 1, S, .obj i => match S[i]? with
    | some (.lst xs) => (xs.mapM (pd n S)).map .list
    | _ => none
theorem pd_all {n : Nat} {H : Hp} {ι : List Addr} {S : SS} (ih : ∀ (d : D) (v : V) (p : PyData), Rp G.K H ι v d → pd n S d = some p → Dp G.K H v p) : ∀ (ds : List D) (vs : List V) (ps : List PyData), RpA G.K H ι vs ds → ds.mapM (pd n S) = some ps → DpAll G.K H vs ps
  | [], _, _, r, h => by
    cases r
    simp at h
    subst h
    exact .nil
  | d :: ds, _, _, r, h => by
    cases r with
    | cons r1 r2 =>
      rw [List.mapM_cons] at h
      cases e1 : pd n S d with
      | none => rw [e1] at h; simp at h
      | some p =>
        cases e2 : ds.mapM (pd n S) with
        | none => rw [e1, e2] at h; simp at h
        | some ps =>
          rw [e1, e2] at h
          simp at h
          subst h
          exact .cons (ih d _ p r1 e1) (pd_all ih ds _ ps r2 e2)
theorem pd_ok {H : Hp} {ι : List Addr} {S : SS} (hr : HR G H ι S) : ∀ (n : Nat) (d : D) (v : V) (p : PyData), Rp G.K H ι v d → pd n S d = some p → Dp G.K H v p
  | 0, _, _, _, _, h => by cases h
  | n + 1, d, v, p, r, h => by
    cases r with
    | non => cases h; exact .non
    | bl b => cases h; exact .bl b
    | int i => cases h; exact .int i
    | str x => cases h; exact .str x
    | @tup a vs ds s1 q1 =>
      have h' : (ds.mapM (pd n S)).map PyData.tuple = some p := h
      cases e : ds.mapM (pd n S) with
      | none => rw [e] at h'; cases h'
      | some ps =>
        rw [e] at h'
        cases h'
        exact .tup s1 (pd_all (pd_ok hr n) ds vs ps q1 e)
    | @fz a vs ds s1 q1 =>
      have h' : (ds.mapM (pd n S)).map PyData.list = some p := h
      cases e : ds.mapM (pd n S) with
      | none => rw [e] at h'; cases h'
      | some ps =>
        rw [e] at h'
        cases h'
        exact .lst s1.sql (pd_all (pd_ok hr n) ds vs ps q1 e)
    | @obj i a e1 =>
      have h' : (match S[i]? with
        | some (.lst xs) => (xs.mapM (pd n S)).map PyData.list
        | _ => none) = some p := h
      cases ec : S[i]? with
      | none => rw [ec] at h'; cases h'
      | some cl =>
        rw [ec] at h'
        cases cl with
        | lst xs =>
          have h2 : (xs.mapM (pd n S)).map PyData.list = some p := h'
          obtain ⟨vs, k1, q1⟩ := hr.cell i _ a ec e1
          cases e : xs.mapM (pd n S) with
          | none => rw [e] at h2; cases h2
          | some ps =>
            rw [e] at h2
            cases h2
            exact .lst (.inl (.inl k1)) (pd_all (pd_ok hr n) xs vs ps q1 e)
        | dK _ => cases h'
        | dT _ => cases h'
def dEqB (d e : D) (S : SS) (k : Bool → Bool) : Res D := match pd 66 S d, pd 66 S e with
  | some p, some q => if SeqAt.shaped p = true ∧ SeqAt.shaped q = true then .ok (.bl (k (PyData.eqv p q))) S else .stk
  | _, _ => .stk
def dEq (d e : D) (S : SS) : Res D := dEqB d e S id
def dNe (d e : D) (S : SS) : Res D := dEqB d e S not
theorem dEqB_use {H : Hp} {ι : List Addr} {S : SS} {x y : V} {d e : D} {k : Bool → Bool} {Q : VK} {E : Exn → SS → Prop} (hr : HR G H ι S) (r1 : Rp G.K H ι x d) (r2 : Rp G.K H ι y e) (h : (dEqB d e S k).wp (PostE G H ι Q) E) :
    ∃ p q, Dp G.K H x p ∧ Dp G.K H y q ∧ SeqAt.shaped p = true ∧ SeqAt.shaped q = true ∧ Q (.bl (k (PyData.eqv p q))) H := by
  unfold dEqB at h
  cases e1 : pd 66 S d with
  | none => rw [e1] at h; exact h.elim
  | some p =>
    cases e2 : pd 66 S e with
    | none => rw [e1, e2] at h; exact h.elim
    | some q =>
      rw [e1, e2] at h
      dsimp only at h
      by_cases c : SeqAt.shaped p = true ∧ SeqAt.shaped q = true
      · rw [if_pos c] at h
        exact ⟨p, q, pd_ok hr 66 d x p r1 e1, pd_ok hr 66 e y q r2 e2, c.1, c.2, now hr (.bl _) h⟩
      · rw [if_neg c] at h
        exact h.elim
theorem x2_eq (hK : X.K = G.K) (hu : X.A.units + 64 < cLine) : X2 X G (compareOp .Eq) dEq := by
  refine ⟨_, op_eqD hu, ?_⟩
  rw [hK]
  intro H ι S x y d e Q E hr r1 r2 h
  exact dEqB_use hr r1 r2 h
theorem x2_ne (hK : X.K = G.K) (hu : X.A.units + 64 < cLine) : X2 X G (compareOp .NotEq) dNe := by
  refine ⟨_, op_neD hu, ?_⟩
  rw [hK]
  intro H ι S x y d e Q E hr r1 r2 h
  exact dEqB_use hr r1 r2 h
def dLt : D → D → SS → Res D
  | .int i, .int j, S => .ok (.bl (decide (i < j))) S
  | .str a, .str b, S => .ok (.bl (decide (a.cps.toList < b.cps.toList))) S
  | _, _, _ => .stk
def dLe : D → D → SS → Res D
  | .int i, .int j, S => .ok (.bl (decide (i ≤ j))) S
  | .str a, .str b, S => .ok (.bl (!decide (b.cps.toList < a.cps.toList))) S
  | _, _, _ => .stk
def dGt : D → D → SS → Res D
  | .int i, .int j, S => .ok (.bl (decide (j < i))) S
  | .str a, .str b, S => .ok (.bl (decide (b.cps.toList < a.cps.toList))) S
  | _, _, _ => .stk
def dGe : D → D → SS → Res D
  | .int i, .int j, S => .ok (.bl (decide (j ≤ i))) S
  | .str a, .str b, S => .ok (.bl (!decide (a.cps.toList < b.cps.toList))) S
  | _, _, _ => .stk
theorem x2_lt : X2 X G (compareOp .Lt) dLt := by
  refine ⟨_, op_lt.or op_lt_str, ?_⟩
  intro H ι S x y d e Q E hr r1 r2 h
  cases r1 <;> cases r2 <;> try exact (show False from h).elim
  · exact .inl ⟨_, _, rfl, rfl, now hr (.bl _) h⟩
  · exact .inr ⟨_, _, rfl, rfl, now hr (.bl _) h⟩
theorem x2_le : X2 X G (compareOp .LtE) dLe := by
  refine ⟨_, op_le.or op_le_str, ?_⟩
  intro H ι S x y d e Q E hr r1 r2 h
  cases r1 <;> cases r2 <;> try exact (show False from h).elim
  · exact .inl ⟨_, _, rfl, rfl, now hr (.bl _) h⟩
  · exact .inr ⟨_, _, rfl, rfl, now hr (.bl _) h⟩
theorem x2_gt : X2 X G (compareOp .Gt) dGt := by
  refine ⟨_, op_gt.or op_gt_str, ?_⟩
  intro H ι S x y d e Q E hr r1 r2 h
  cases r1 <;> cases r2 <;> try exact (show False from h).elim
  · exact .inl ⟨_, _, rfl, rfl, now hr (.bl _) h⟩
  · exact .inr ⟨_, _, rfl, rfl, now hr (.bl _) h⟩
theorem x2_ge : X2 X G (compareOp .GtE) dGe := by
  refine ⟨_, op_ge.or op_ge_str, ?_⟩
  intro H ι S x y d e Q E hr r1 r2 h
  cases r1 <;> cases r2 <;> try exact (show False from h).elim
  · exact .inl ⟨_, _, rfl, rfl, now hr (.bl _) h⟩
  · exact .inr ⟨_, _, rfl, rfl, now hr (.bl _) h⟩
/-- is: None to the right, or bools on both sides -/
def dNoneB : D → Bool
  | .non => true
  | _ => false
def dIs : D → D → SS → Res D
  | d, .non, S => .ok (.bl (dNoneB d)) S
  | .bl a, .bl b, S => .ok (.bl (decide (a = b))) S
  | _, _, _ => .stk
def dIsNot : D → D → SS → Res D
  | d, .non, S => .ok (.bl (!dNoneB d)) S
  | .bl a, .bl b, S => .ok (.bl (!decide (a = b))) S
  | _, _, _ => .stk
theorem none_rp {K : PySem.W.Frag} {H : Hp} {ι : List Addr} {v : V} {d : D} (r : Rp K H ι v d) : decide (v = .non) = dNoneB d := by
  cases r <;> simp [dNoneB]
theorem x2_is : X2 X G (compareOp .Is) dIs := by
  refine ⟨_, op_isN.or op_isBl, ?_⟩
  intro H ι S x y d e Q E hr r1 r2 h
  cases r2 with
  | non =>
    refine .inl ⟨rfl, ?_⟩
    rw [none_rp r1]
    refine now hr (.bl _) ?_
    cases r1 <;> exact h
  | bl b =>
    cases r1 <;> try exact (show False from h).elim
    exact .inr ⟨_, _, rfl, rfl, now hr (.bl _) h⟩
  | int _ => cases r1 <;> exact (show False from h).elim
  | str _ => cases r1 <;> exact (show False from h).elim
  | tup _ _ => cases r1 <;> exact (show False from h).elim
  | obj _ => cases r1 <;> exact (show False from h).elim
  | fz _ _ => cases r1 <;> exact (show False from h).elim
theorem x2_isnot : X2 X G (compareOp .IsNot) dIsNot := by
  refine ⟨_, op_notN.or op_notBl, ?_⟩
  intro H ι S x y d e Q E hr r1 r2 h
  cases r2 with
  | non =>
    refine .inl ⟨rfl, ?_⟩
    rw [none_rp r1]
    refine now hr (.bl _) ?_
    cases r1 <;> exact h
  | bl b =>
    cases r1 <;> try exact (show False from h).elim
    exact .inr ⟨_, _, rfl, rfl, now hr (.bl _) h⟩
  | int _ => cases r1 <;> exact (show False from h).elim
  | str _ => cases r1 <;> exact (show False from h).elim
  | tup _ _ => cases r1 <;> exact (show False from h).elim
  | obj _ => cases r1 <;> exact (show False from h).elim
  | fz _ _ => cases r1 <;> exact (show False from h).elim
end
end FW

set_option Elab.async false
set_option linter.all false
set_option maxRecDepth 100000
set_option maxHeartbeats 4000000
/-! The M layer, 8: membership, built-ins, subscripts, slices, methods. -/
namespace FW
open PySem PySem.Spec L2

section
variable {X : Cx} {G : Gx} {W : WX}
def isIn (a b : Str) : Bool := match a.cps.toList with
  | [c] => decide (c ∈ b.cps.toList)
  | _ => !(Builtin.Str.occurrences b a 0 b.length 1).isEmpty
def dInB (d e : D) (S : SS) (k : Bool → Bool) : Res D := match d, e with
  | .str a, .str b => .ok (.bl (k (isIn a b))) S
  | _, _ => match pd 66 S d, pd 66 S e with
    | some p, some (.list qs) => if SeqAt.shaped p = true ∧ SeqAt.shaped (.list qs) = true then .ok (.bl (k (qs.any fun z => PyData.eqv z p))) S else .stk
    | _, _ => .stk
def dIn (d e : D) (S : SS) : Res D := dInB d e S id
def dNotIn (d e : D) (S : SS) : Res D := dInB d e S not
theorem str_one {a : Str} {c : Nat} (h : a.cps.toList = [c]) : a = ⟨#[c]⟩ := by
  cases a with
  | mk x =>
    congr 1
    apply Array.toList_inj.mp
    exact h
theorem dInB_use {H : Hp} {ι : List Addr} {S : SS} {x y : V} {d e : D} {k : Bool → Bool} {Q : VK} {E : Exn → SS → Prop} (hr : HR G H ι S) (r1 : Rp G.K H ι x d) (r2 : Rp G.K H ι y e) (h : (dInB d e S k).wp (PostE G H ι Q) E) :
    (∃ (c : Nat) (z : Str), x = .str ⟨#[c]⟩ ∧ y = .str z ∧ Q (.bl (k (decide (c ∈ z.cps.toList)))) H) ∨ (∃ i j, x = .str i ∧ y = .str j ∧ Q (.bl (k (!(Builtin.Str.occurrences j i 0 j.length 1).isEmpty))) H) ∨
    (∃ p qs, Dp G.K H x p ∧ Dp G.K H y (.list qs) ∧ SeqAt.shaped p = true ∧ SeqAt.shaped (.list qs) = true ∧ Q (.bl (k (qs.any fun z => PyData.eqv z p))) H) := by
  have gen : ∀ (h : (match pd 66 S d, pd 66 S e with
    | some p, some (.list qs) => if SeqAt.shaped p = true ∧ SeqAt.shaped (.list qs) = true then .ok (.bl (k (qs.any fun z => PyData.eqv z p))) S else .stk
    | _, _ => .stk : Res D).wp (PostE G H ι Q) E), ∃ p qs, Dp G.K H x p ∧ Dp G.K H y (.list qs) ∧ SeqAt.shaped p = true ∧ SeqAt.shaped (.list qs) = true ∧ Q (.bl (k (qs.any fun z => PyData.eqv z p))) H := by
    intro h
    cases e1 : pd 66 S d with
    | none => rw [e1] at h; exact h.elim
    | some p =>
      cases e2 : pd 66 S e with
      | none => rw [e1, e2] at h; exact h.elim
      | some q =>
        rw [e1, e2] at h
        cases q <;> try exact (show False from h).elim
        rename_i qs
        dsimp only at h
        by_cases c : SeqAt.shaped p = true ∧ SeqAt.shaped (.list qs) = true
        · rw [if_pos c] at h
          exact ⟨p, qs, pd_ok hr 66 d x p r1 e1, pd_ok hr 66 e y _ r2 e2, c.1, c.2, now hr (.bl _) h⟩
        · rw [if_neg c] at h
          exact h.elim
  cases d with
  | str a =>
    cases e with
    | str b =>
      cases r1
      cases r2
      have h' : PostE G H ι Q (.bl (k (isIn a b))) S := h
      by_cases c : ∃ n, a.cps.toList = [n]
      · obtain ⟨n, en⟩ := c
        have ea := str_one en
        subst ea
        exact .inl ⟨n, b, rfl, rfl, now hr (.bl _) h'⟩
      · refine .inr (.inl ⟨a, b, rfl, rfl, ?_⟩)
        have ei : isIn a b = !(Builtin.Str.occurrences b a 0 b.length 1).isEmpty := by
          unfold isIn
          split
          · rename_i n en
            exact absurd ⟨n, en⟩ c
          · rfl
        rw [ei] at h'
        exact now hr (.bl _) h'
    | _ => exact .inr (.inr (gen h))
  | _ => exact .inr (.inr (gen (by cases e <;> exact h)))
theorem x2_in (hK : X.K = G.K) (hu : X.A.units + 65 < cLine) : X2 X G (compareOp .In) dIn := by
  refine ⟨_, op_in_sign.or (op_in_str.or (op_inD hu)), ?_⟩
  rw [hK]
  intro H ι S x y d e Q E hr r1 r2 h
  exact dInB_use hr r1 r2 h
theorem x2_notin (hK : X.K = G.K) (hu : X.A.units + 65 < cLine) : X2 X G (compareOp .NotIn) dNotIn := by
  refine ⟨_, op_notIn_sign.or (op_notin_str.or (op_notInD hu)), ?_⟩
  rw [hK]
  intro H ι S x y d e Q E hr r1 r2 h
  exact dInB_use hr r1 r2 h

/-! ### built-ins -/
def lenD (S : SS) : D → Option Nat
  | .str a => if a.length ≤ 1000000 then some a.length else none
  | .tup xs => some xs.length
  | .fz xs => some xs.length
  | .obj i => match S[i]? with
    | some (.lst xs) => some xs.length
    | _ => none
  | _ => none
def dLen (ds : List D) (S : SS) : Res D := match ds with
  | [d] => match lenD S d with
    | some n => .ok (.int n) S
    | none => .stk
  | _ => .stk
theorem xc_len (hK : X.K = G.K) : XC X G (.builtin "len") dLen := by
  refine ⟨_, call_len, ?_⟩
  rw [hK]
  intro H ι S xs ds Q E hr r h
  cases r with
  | nil => exact (show False from h).elim
  | cons r1 rs =>
    rename_i v vs d ds
    cases rs with
    | cons _ _ => exact (show False from h).elim
    | nil =>
      have h' : (match lenD S d with
        | some n => .ok (.int n) S
        | none => .stk : Res D).wp (PostE G H ι Q) E := h
      cases e : lenD S d with
      | none => rw [e] at h'; exact h'.elim
      | some n =>
        rw [e] at h'
        refine ⟨v, n, rfl, ?_, now hr (.int _) h'⟩
        cases r1 with
        | non => cases e
        | bl _ => cases e
        | int _ => cases e
        | str a =>
          have e' : (if a.length ≤ 1000000 then some a.length else none) = some n := e
          by_cases c : a.length ≤ 1000000
          · rw [if_pos c] at e'
            exact ⟨small_line c, (Option.some.inj e').symm⟩
          · rw [if_neg c] at e'
            cases e'
        | @tup a vs ds s1 q1 =>
          exact .inr ⟨vs, s1, by rw [q1.length]; exact (Option.some.inj e).symm⟩
        | @fz a vs ds s1 q1 =>
          exact .inl ⟨vs, s1.sql, by rw [q1.length]; exact (Option.some.inj e).symm⟩
        | @obj i a e1 =>
          have e' : (match S[i]? with
            | some (.lst xs) => some xs.length
            | _ => none) = some n := e
          cases ec : S[i]? with
          | none => rw [ec] at e'; cases e'
          | some cl =>
            rw [ec] at e'
            cases cl with
            | lst xs =>
              obtain ⟨vs, k1, q1⟩ := hr.cell i _ a ec e1
              exact .inl ⟨vs, .inl (.inl k1), by rw [q1.length]; exact (Option.some.inj e').symm⟩
            | dK _ => cases e'
            | dT _ => cases e'
theorem rpa1 {K : PySem.W.Frag} {H : Hp} {ι : List Addr} {xs : List V} {d : D} (r : RpA K H ι xs [d]) : ∃ v, xs = [v] ∧ Rp K H ι v d := by
  cases r with
  | cons r1 rs =>
    cases rs
    exact ⟨_, rfl, r1⟩
theorem rpa2 {K : PySem.W.Frag} {H : Hp} {ι : List Addr} {xs : List V} {d e : D} (r : RpA K H ι xs [d, e]) : ∃ v w, xs = [v, w] ∧ Rp K H ι v d ∧ Rp K H ι w e := by
  cases r with
  | cons r1 rs =>
    obtain ⟨w, rfl, r2⟩ := rpa1 rs
    exact ⟨_, w, rfl, r1, r2⟩
def dInt : List D → SS → Res D
  | [.int i], S => .ok (.int i) S
  | [.bl k], S => .ok (.int (if k then 1 else 0)) S
  | [.str a], S => match PySem.intText? a with
    | some n => if a.length ≤ 640 then .ok (.int n) S else .stk
    | none => .stk
  | _, _ => .stk
theorem xc_int : XC X G (.type "int") dInt := by
  refine ⟨_, CallR.or call_int1 call_int_str, ?_⟩
  intro H ι S xs ds Q E hr r h
  match ds, r, h with
  | [.int i], r, h =>
    obtain ⟨v, rfl, r1⟩ := rpa1 r
    cases r1
    exact .inl (.inl ⟨i, rfl, now hr (.int _) h⟩)
  | [.bl k], r, h =>
    obtain ⟨v, rfl, r1⟩ := rpa1 r
    cases r1
    exact .inl (.inr ⟨k, rfl, now hr (.int _) h⟩)
  | [.str a], r, h =>
    obtain ⟨v, rfl, r1⟩ := rpa1 r
    cases r1
    have h' : (match PySem.intText? a with
      | some n => if a.length ≤ 640 then .ok (.int n) S else .stk
      | none => .stk : Res D).wp (PostE G H ι Q) E := h
    cases e : PySem.intText? a with
    | none => rw [e] at h'; exact h'.elim
    | some n =>
      rw [e] at h'
      dsimp only at h'
      by_cases c : a.length ≤ 640
      · rw [if_pos c] at h'
        exact .inr ⟨a, n, rfl, e, c, now hr (.int _) h'⟩
      · rw [if_neg c] at h'
        exact h'.elim
  | [], _, h => exact (show False from h).elim
  | [.non], _, h => exact (show False from h).elim
  | [.tup _], _, h => exact (show False from h).elim
  | [.obj _], _, h => exact (show False from h).elim
  | [.fz _], _, h => exact (show False from h).elim
  | d :: _ :: _, _, h => cases d <;> exact (show False from h).elim
def dStr : List D → SS → Res D
  | [.int i], S => if i.natAbs.log2 < 1920 then .ok (.str (toString i)) S else .stk
  | [.str a], S => .ok (.str a) S
  | _, _ => .stk
theorem xc_str : XC X G (.type "str") dStr := by
  refine ⟨_, CallR.or call_str_int SkE.call_str_str, ?_⟩
  intro H ι S xs ds Q E hr r h
  match ds, r, h with
  | [.int i], r, h =>
    obtain ⟨v, rfl, r1⟩ := rpa1 r
    cases r1
    have h' : (if i.natAbs.log2 < 1920 then .ok (.str (toString i)) S else .stk : Res D).wp (PostE G H ι Q) E := h
    by_cases c : i.natAbs.log2 < 1920
    · rw [if_pos c] at h'
      exact .inl ⟨i, rfl, c, now hr (.str _) h'⟩
    · rw [if_neg c] at h'
      exact h'.elim
  | [.str a], r, h =>
    obtain ⟨v, rfl, r1⟩ := rpa1 r
    cases r1
    exact .inr ⟨a, rfl, now hr (.str _) h⟩
  | [], _, h => exact (show False from h).elim
  | [.non], _, h => exact (show False from h).elim
  | [.bl _], _, h => exact (show False from h).elim
  | [.tup _], _, h => exact (show False from h).elim
  | [.obj _], _, h => exact (show False from h).elim
  | [.fz _], _, h => exact (show False from h).elim
  | d :: _ :: _, _, h => cases d <;> exact (show False from h).elim
def dAbs : List D → SS → Res D
  | [.int i], S => .ok (.int (if i < 0 then -i else i)) S
  | _, _ => .stk
theorem xc_abs : XC X G (.builtin "abs") dAbs := by
  refine ⟨_, call_abs, ?_⟩
  intro H ι S xs ds Q E hr r h
  match ds, r, h with
  | [.int i], r, h =>
    obtain ⟨v, rfl, r1⟩ := rpa1 r
    cases r1
    exact ⟨i, rfl, now hr (.int _) h⟩
  | [], _, h => exact (show False from h).elim
  | [.non], _, h => exact (show False from h).elim
  | [.bl _], _, h => exact (show False from h).elim
  | [.str _], _, h => exact (show False from h).elim
  | [.tup _], _, h => exact (show False from h).elim
  | [.obj _], _, h => exact (show False from h).elim
  | [.fz _], _, h => exact (show False from h).elim
  | d :: _ :: _, _, h => cases d <;> exact (show False from h).elim
def dOrd : List D → SS → Res D
  | [.str a], S => match a.cps.toList with
    | [c] => .ok (.int (c : Nat)) S
    | _ => .stk
  | _, _ => .stk
theorem xc_ord : XC X G (.builtin "ord") dOrd := by
  refine ⟨_, call_ord, ?_⟩
  intro H ι S xs ds Q E hr r h
  match ds, r, h with
  | [.str a], r, h =>
    obtain ⟨v, rfl, r1⟩ := rpa1 r
    cases r1
    have h' : (match a.cps.toList with
      | [c] => .ok (.int (c : Nat)) S
      | _ => .stk : Res D).wp (PostE G H ι Q) E := h
    by_cases c : ∃ n, a.cps.toList = [n]
    · obtain ⟨n, en⟩ := c
      rw [en] at h'
      have ea := str_one en
      subst ea
      exact ⟨_, rfl, rfl, now hr (.int _) h'⟩
    · split at h'
      · rename_i n en
        exact absurd ⟨n, en⟩ c
      · exact h'.elim
  | [], _, h => exact (show False from h).elim
  | [.int _], _, h => exact (show False from h).elim
  | [.non], _, h => exact (show False from h).elim
  | [.bl _], _, h => exact (show False from h).elim
  | [.tup _], _, h => exact (show False from h).elim
  | [.obj _], _, h => exact (show False from h).elim
  | [.fz _], _, h => exact (show False from h).elim
  | d :: _ :: _, _, h => cases d <;> exact (show False from h).elim
def dMax (ds : List D) (S : SS) : Res D := match ds with
  | [.int i, .int j] => .ok (.int (if j > i then j else i)) S
  | _ => .stk
def dMin (ds : List D) (S : SS) : Res D := match ds with
  | [.int i, .int j] => .ok (.int (if j < i then j else i)) S
  | _ => .stk
theorem two_ints {P : Int → Int → Res D} {H : Hp} {ι : List Addr} {xs : List V} {ds : List D} {A : D → SS → Prop} {E : Exn → SS → Prop} (h : (match ds with
  | [.int i, .int j] => P i j
  | _ => .stk : Res D).wp A E) (r : RpA G.K H ι xs ds) : ∃ i j, xs = [.int i, .int j] ∧ (P i j).wp A E := by
  split at h
  · rename_i i j
    obtain ⟨v, w, rfl, r1, r2⟩ := rpa2 r
    cases r1
    cases r2
    exact ⟨i, j, rfl, h⟩
  · exact h.elim
theorem xc_max (hc : X.calm = true) : XC X G (.builtin "max") dMax := by
  refine ⟨_, call_max2 hc, ?_⟩
  intro H ι S xs ds Q E hr r h
  obtain ⟨i, j, rfl, h⟩ := two_ints (P := fun i j => .ok (.int (if j > i then j else i)) S) h r
  exact ⟨i, j, rfl, now hr (.int _) h⟩
theorem xc_min (hc : X.calm = true) : XC X G (.builtin "min") dMin := by
  refine ⟨_, call_min2 hc, ?_⟩
  intro H ι S xs ds Q E hr r h
  obtain ⟨i, j, rfl, h⟩ := two_ints (P := fun i j => .ok (.int (if j < i then j else i)) S) h r
  exact ⟨i, j, rfl, now hr (.int _) h⟩

/-! ### isinstance -/
def tyD (S : SS) : D → String
  | .non => "NoneType"
  | .bl _ => "bool"
  | .int _ => "int"
  | .str _ => "str"
  | .tup _ => "tuple"
  | .fz _ => "list"
  | .obj i => match S[i]? with
    | some (.lst _) => "list"
    | some (.dK _) => "dict"
    | some (.dT _) => "dict"
    | none => ""
def tyAll : List String := ["NoneType", "bool", "int", "str", "tuple", "list", "dict"]
def dIsi (tags : List String) (d : D) (S : SS) : Res D := if tyD S d ∈ tyAll then .ok (.bl (tags.contains (tyD S d))) S else .stk
theorem tyd_x {H : Hp} {ι : List Addr} {S : SS} {v : V} {d : D} (hr : HR G H ι S) (r : Rp G.K H ι v d) (h : tyD S d ∈ tyAll) : TyX G.K H v (.type (tyD S d)) := by
  cases r with
  | non => exact .base .non
  | bl b => exact .base (.bl b)
  | int i => exact .base (.int i)
  | str x => exact .base (.str x)
  | tup s1 q1 =>
    rcases s1 with (e | ⟨o, e⟩) | ⟨o, its, n, e, c, _⟩
    · exact .base (.tup e)
    · exact .fTuple e
    · exact .kTuple e c
  | fz s1 q1 =>
    rcases s1 with ⟨o, e⟩ | ⟨o, its, n, e, c, _⟩
    · exact .base (.frz e)
    · exact .kList e c
  | @obj i a e1 =>
    have et : tyD S (.obj i) = (match S[i]? with
      | some (.lst _) => "list"
      | some (.dK _) => "dict"
      | some (.dT _) => "dict"
      | none => "") := rfl
    cases ec : S[i]? with
    | none => rw [et, ec] at h; exact absurd h (by decide)
    | some cl =>
      have k := hr.cell i _ a ec e1
      cases cl with
      | lst xs => obtain ⟨vs, k1, _⟩ := k; rw [et, ec]; exact .base (.lst k1)
      | dK xs => obtain ⟨vs, k1, _⟩ := k; rw [et, ec]; exact .base (.dK k1)
      | dT xs => obtain ⟨vs, k1, _⟩ := k; rw [et, ec]; exact .base (.dT k1)
theorem xisi {T : Str} {Tn : String} {tags : List String} {e : Expr} {pos p q : Pos} {ma : ME} (hK : X.K = G.K) (hg : Gl X "isinstance") (hm : X.mg "isinstance" = none) (hgT : Gl X T) (hmT : X.mg T = none) (hv : bootBuiltins T = some (.type Tn))
    (hk : ∀ t ∈ tyAll, kitB t Tn = some (tags.contains t)) (ha : XE X G W e ma) (hn : T ≠ "__name__" := by decide) (hdT : (T == ("__debug__" : Str)) = false := by decide)
    (he : starEach [e, .Name T q] X.env = (false, eval e X.env) :: starEach [.Name T q] X.env := by rfl) (he2 : starEach [.Name T q] X.env = (false, eval (.Name T q) X.env) :: starEach [] X.env := by rfl)
    (hpl : (backTo pos (starEach [.Name T q] X.env)).any (·.1) = false := by rfl) : XE X G W (.Call (.Name "isinstance" p) [e, .Name T q] [] pos) (mOp1 (dIsi tags) ma) := by
  obtain ⟨ta, pa, ea⟩ := ha
  refine ⟨_, pe_callB call_isi hg hm (by decide +kernel) (pa_cons pa (pa_cons (pe_bltn (v := .ty Tn) hgT hmT hv rfl hn hdT) pa_nil he2) he) (by decide) (by decide) he hpl, fun σ H ι S env Q hr re h => ?_⟩
  show ta σ H fun x H1 => rIsi X.K [x, .ty Tn] H1 Q
  refine em_step ea hr re (fun _ _ z => z) h fun d S1 v H1 ι1 t1 h1 r1 k1 q1 => ?_
  unfold dIsi at q1
  by_cases c : tyD S1 d ∈ tyAll
  · rw [if_pos c] at q1
    rw [hK]
    exact ⟨v, .ty Tn, _, .type Tn, _, rfl, .ty Tn, tyd_x h1 r1 c, kit_ty (hk _ c), (show PostE G H ι Q _ S1 from q1) _ H1 ι1 t1 h1 (.bl _)⟩
  · rw [if_neg c] at q1
    exact q1.elim

/-! ### subscripts, slices -/
def strAt (a : Str) (i : Int) : Option Nat := atI a.cps.toList i
def dIx (d e : D) (S : SS) : Res D := match d, e with
  | .str a, .int i => match strAt a i with
    | some c => if a.length ≤ 1000000 then .ok (sgn c) S else .stk
    | none => .stk
  | .tup xs, .int i => match atI xs i with
    | some d => .ok d S
    | none => .stk
  | .fz xs, .int i => match atI xs i with
    | some d => .ok d S
    | none => .stk
  | .obj j, .int i => match S[j]? with
    | some (.lst xs) => match atI xs i with
      | some d => .ok d S
      | none => .stk
    | _ => .stk
  | _, _ => .stk
theorem RpA.at {K : PySem.W.Frag} {H : Hp} {ι : List Addr} {vs : List V} {ds : List D} {i : Int} {d : D} (r : RpA K H ι vs ds) (h : atI ds i = some d) : ∃ v, atI vs i = some v ∧ Rp K H ι v d := by
  unfold atI at h ⊢
  rw [r.length]
  cases e : ixN ds.length i with
  | none => rw [e] at h; cases h
  | some j =>
    rw [e] at h
    obtain ⟨v, h1, h2⟩ := r.get (show ds[j]? = some d from h)
    exact ⟨v, h1, h2⟩
theorem xix_seq (hK : X.K = G.K) : XIx X G dIx := by
  refine ⟨_, ix_seq, ?_⟩
  rw [hK]
  intro H ι S x y d e Q E hr r1 r2 h
  cases r1 <;> cases r2 <;> try exact (show False from h).elim
  case str.int a i =>
    have h' : (match strAt a i with
      | some c => if a.length ≤ 1000000 then .ok (sgn c) S else .stk
      | none => .stk : Res D).wp (PostE G H ι Q) E := h
    cases ec : strAt a i with
    | none => rw [ec] at h'; exact h'.elim
    | some c =>
      rw [ec] at h'
      dsimp only at h'
      by_cases hl : a.length ≤ 1000000
      · rw [if_pos hl] at h'
        exact .inr (.inr ⟨a, i, c, rfl, rfl, small_line hl, ec, now hr (.str _) h'⟩)
      · rw [if_neg hl] at h'
        exact h'.elim
  case tup.int a vs xs s1 q1 i =>
    have h' : (match atI xs i with
      | some d => .ok d S
      | none => .stk : Res D).wp (PostE G H ι Q) E := h
    cases ec : atI xs i with
    | none => rw [ec] at h'; exact h'.elim
    | some z =>
      rw [ec] at h'
      obtain ⟨v, e1, r3⟩ := q1.at ec
      exact .inr (.inl ⟨a, vs, i, v, rfl, rfl, s1, e1, now hr r3 h'⟩)
  case fz.int a vs xs s1 q1 i =>
    have h' : (match atI xs i with
      | some d => .ok d S
      | none => .stk : Res D).wp (PostE G H ι Q) E := h
    cases ec : atI xs i with
    | none => rw [ec] at h'; exact h'.elim
    | some z =>
      rw [ec] at h'
      obtain ⟨v, e1, r3⟩ := q1.at ec
      exact .inl ⟨a, vs, i, v, rfl, rfl, s1.sql, e1, now hr r3 h'⟩
  case obj.int j a e1 i =>
    have h' : (match S[j]? with
      | some (.lst xs) => match atI xs i with
        | some d => .ok d S
        | none => .stk
      | _ => .stk : Res D).wp (PostE G H ι Q) E := h
    cases ec : S[j]? with
    | none => rw [ec] at h'; exact h'.elim
    | some cl =>
      rw [ec] at h'
      cases cl <;> try exact (show False from h').elim
      rename_i xs
      obtain ⟨vs, k1, q1⟩ := hr.cell j _ a ec e1
      have h2 : (match atI xs i with
        | some d => .ok d S
        | none => .stk : Res D).wp (PostE G H ι Q) E := h'
      cases ez : atI xs i with
      | none => rw [ez] at h2; exact h2.elim
      | some z =>
        rw [ez] at h2
        obtain ⟨v, e2, r3⟩ := q1.at ez
        exact .inl ⟨a, vs, i, v, rfl, rfl, .inl (.inl k1), e2, now hr r3 h2⟩
def cutD (xs : List D) (lo hi : Option Int) : List D := (xs.drop (HT.sIx xs.length 0 lo)).take (HT.sIx xs.length xs.length hi - HT.sIx xs.length 0 lo)
theorem RpA.cutV {K : PySem.W.Frag} {H : Hp} {ι : List Addr} {vs : List V} {ds : List D} {lo hi : Option Int} (r : RpA K H ι vs ds) : RpA K H ι (L2.cutV vs lo hi) (cutD ds lo hi) := by
  unfold L2.cutV cutD
  rw [r.length]
  exact (r.drop _).take _
def dSl (d : D) (lo hi : Option Int) (S : SS) : Res D := match d with
  | .str a => if a.length ≤ 1000000 then .ok (.str (cutS a lo hi)) S else .stk
  | .tup xs => .ok (.tup (cutD xs lo hi)) S
  | .fz xs => .ok (.obj S.length) (S ++ [.lst (cutD xs lo hi)])
  | .obj j => match S[j]? with
    | some (.lst xs) => .ok (.obj S.length) (S ++ [.lst (cutD xs lo hi)])
    | _ => .stk
  | _ => .stk
theorem cut_whole {xs : List D} {lo hi : Option Int} (h : HT.sIx xs.length 0 lo = 0 ∧ HT.sIx xs.length xs.length hi = xs.length) : cutD xs lo hi = xs := by
  unfold cutD
  rw [h.1, h.2]
  simp
theorem xsl_seq (hK : X.K = G.K) : XSl X G dSl := by
  refine ⟨_, SlR.or sl_str (SlR.or sl_tupA sl_list), ?_⟩
  rw [hK]
  intro H ι S x d lo hi Q E hr r1 h
  cases r1 <;> try exact (show False from h).elim
  case str a =>
    have h' : (if a.length ≤ 1000000 then .ok (.str (cutS a lo hi)) S else .stk : Res D).wp (PostE G H ι Q) E := h
    by_cases hl : a.length ≤ 1000000
    · rw [if_pos hl] at h'
      exact .inl ⟨a, rfl, small_line hl, now hr (.str _) h'⟩
    · rw [if_neg hl] at h'
      exact h'.elim
  case tup a vs xs s1 q1 =>
    have h' : PostE G H ι Q (.tup (cutD xs lo hi)) S := h
    refine .inr (.inl ⟨a, vs, rfl, s1, fun hw => ?_, fun _ => lay_tup hr q1.cutV h'⟩)
    rw [q1.length] at hw
    rw [cut_whole hw] at h'
    exact now hr (.tup s1 q1) h'
  case fz a vs xs s1 q1 =>
    exact .inr (.inr ⟨a, vs, rfl, s1.sql, lay_lst hr q1.cutV h⟩)
  case obj j a e1 =>
    have h' : (match S[j]? with
      | some (.lst xs) => .ok (.obj S.length) (S ++ [.lst (cutD xs lo hi)])
      | _ => .stk : Res D).wp (PostE G H ι Q) E := h
    cases ec : S[j]? with
    | none => rw [ec] at h'; exact h'.elim
    | some cl =>
      rw [ec] at h'
      cases cl <;> try exact (show False from h').elim
      rename_i xs
      obtain ⟨vs, k1, q1⟩ := hr.cell j _ a ec e1
      exact .inr (.inr ⟨a, vs, rfl, .inl (.inl k1), lay_lst hr q1.cutV h'⟩)

/-! ### built-ins of a new list -/
def blsD : List D → Option (List Bool)
  | [] => some []
  | .bl b :: ds => (blsD ds).map (b :: ·)
  | _ => none
def intsD : List D → Option (List Int)
  | [] => some []
  | .int b :: ds => (intsD ds).map (b :: ·)
  | _ => none
def strsD : List D → Option (List Str)
  | [] => some []
  | .str b :: ds => (strsD ds).map (b :: ·)
  | _ => none
theorem blsD_v {K : PySem.W.Frag} {H : Hp} {ι : List Addr} : ∀ {ds : List D} {vs : List V} {bs : List Bool}, RpA K H ι vs ds → blsD ds = some bs → vs = bs.map V.bl
  | [], _, _, r, h => by cases r; cases h; rfl
  | d :: ds, _, _, r, h => by
    cases r with
    | cons r1 rs =>
      cases r1 <;> try cases h
      have h' : (blsD ds).map _ = some _ := h
      cases e : blsD ds with
      | none => rw [e] at h'; cases h'
      | some bs => rw [e] at h'; cases h'; rw [blsD_v rs e]; rfl
theorem intsD_v {K : PySem.W.Frag} {H : Hp} {ι : List Addr} : ∀ {ds : List D} {vs : List V} {bs : List Int}, RpA K H ι vs ds → intsD ds = some bs → vs = bs.map V.int
  | [], _, _, r, h => by cases r; cases h; rfl
  | d :: ds, _, _, r, h => by
    cases r with
    | cons r1 rs =>
      cases r1 <;> try cases h
      have h' : (intsD ds).map _ = some _ := h
      cases e : intsD ds with
      | none => rw [e] at h'; cases h'
      | some bs => rw [e] at h'; cases h'; rw [intsD_v rs e]; rfl
theorem strsD_v {K : PySem.W.Frag} {H : Hp} {ι : List Addr} : ∀ {ds : List D} {vs : List V} {bs : List Str}, RpA K H ι vs ds → strsD ds = some bs → vs = bs.map V.str
  | [], _, _, r, h => by cases r; cases h; rfl
  | d :: ds, _, _, r, h => by
    cases r with
    | cons r1 rs =>
      cases r1 <;> try cases h
      have h' : (strsD ds).map _ = some _ := h
      cases e : strsD ds with
      | none => rw [e] at h'; cases h'
      | some bs => rw [e] at h'; cases h'; rw [strsD_v rs e]; rfl
def dAll (ds : List D) (S : SS) : Res D := match blsD ds with
  | some bs => .ok (.bl (bs.all id)) S
  | none => .stk
def dAny (ds : List D) (S : SS) : Res D := match blsD ds with
  | some bs => .ok (.bl (bs.any id)) S
  | none => .stk
def dSum (ds : List D) (S : SS) : Res D := match intsD ds with
  | some bs => .ok (.int bs.sum) S
  | none => .stk
theorem ol_all (hK : X.K = G.K) : OpL1 G (rAll X.K) dAll := by
  rw [hK]
  intro H ι S p vs ds Q E hr hp e r h
  unfold dAll at h
  cases eb : blsD ds with
  | none => rw [eb] at h; exact h.elim
  | some bs =>
    rw [eb] at h
    rw [blsD_v r eb] at e
    exact ⟨p, bs, rfl, .inl (.inl e), now hr (.bl _) h⟩
theorem ol_any (hK : X.K = G.K) : OpL1 G (rAny X.K) dAny := by
  rw [hK]
  intro H ι S p vs ds Q E hr hp e r h
  unfold dAny at h
  cases eb : blsD ds with
  | none => rw [eb] at h; exact h.elim
  | some bs =>
    rw [eb] at h
    rw [blsD_v r eb] at e
    exact ⟨p, bs, rfl, .inl (.inl e), now hr (.bl _) h⟩
theorem ol_sum (hK : X.K = G.K) : OpL1 G (rSum X.K) dSum := by
  rw [hK]
  intro H ι S p vs ds Q E hr hp e r h
  unfold dSum at h
  cases eb : intsD ds with
  | none => rw [eb] at h; exact h.elim
  | some bs =>
    rw [eb] at h
    rw [intsD_v r eb] at e
    exact ⟨p, bs, rfl, .inl (.inl e), now hr (.int _) h⟩
/-- sum(a list | a slice), the list a cell -/
def dSumO (ds : List D) (S : SS) : Res D := match ds with
  | [.obj i] => match S[i]? with
    | some (.lst xs) => dSum xs S
    | _ => .stk
  | _ => .stk
theorem xc_sum (hK : X.K = G.K) (hc : X.calm = true) : XC X G (.builtin "sum") dSumO := by
  refine ⟨_, cr_sum hc, ?_⟩
  rw [hK]
  intro H ι S xs ds Q E hr r h
  unfold dSumO at h
  split at h
  · rename_i i
    obtain ⟨v, rfl, r1⟩ := rpa1 r
    cases r1 with
    | @obj i a e1 =>
      cases ec : S[i]? with
      | none => rw [ec] at h; exact h.elim
      | some cl =>
        rw [ec] at h
        cases cl <;> try exact (show False from h).elim
        rename_i ys
        obtain ⟨vs, k1, q1⟩ := hr.cell i _ a ec e1
        have h' : (dSum ys S).wp (PostE G H ι Q) E := h
        unfold dSum at h'
        cases eb : intsD ys with
        | none => rw [eb] at h'; exact h'.elim
        | some bs =>
          rw [eb] at h'
          rw [intsD_v q1 eb] at k1
          exact ⟨a, bs, rfl, .inl (.inl k1), now hr (.int _) h'⟩
  · exact h.elim

/-! ### methods of texts -/
def dPart (a : Str) (d : D) (S : SS) : Res D := match d with
  | .str b => if b.length ≠ 0 ∧ a.length ≤ 1000000 then .ok (.tup [.str (Txt.partition a b).1, .str (Txt.partition a b).2.1, .str (Txt.partition a b).2.2]) S else .stk
  | _ => .stk
theorem os_part : OpS1 G (fun x xs H Q => ∃ a b, x = .str a ∧ xs = [.str b] ∧ (b.length == 0) = false ∧ a.length ≤ sizeLine ∧
    ∀ p, H p = none → Q (.ref p) (upd H p (.tup [.str (Txt.partition a b).1, .str (Txt.partition a b).2.1, .str (Txt.partition a b).2.2]))) dPart := by
  intro H ι S a y e Q E hr r h
  cases r <;> try exact (show False from h).elim
  rename_i b
  have h' : (if b.length ≠ 0 ∧ a.length ≤ 1000000 then .ok (.tup [.str (Txt.partition a b).1, .str (Txt.partition a b).2.1, .str (Txt.partition a b).2.2]) S else .stk : Res D).wp (PostE G H ι Q) E := h
  by_cases c : b.length ≠ 0 ∧ a.length ≤ 1000000
  · rw [if_pos c] at h'
    exact ⟨a, b, rfl, rfl, by simpa using c.1, small_line c.2, lay_tup hr (.cons (.str _) (.cons (.str _) (.cons (.str _) .nil))) h'⟩
  · rw [if_neg c] at h'
    exact h'.elim
def dJoin (a : Str) (ds : List D) (S : SS) : Res D := match strsD ds with
  | some ys => if (ys.map (·.length)).sum + ys.length * a.length ≤ 1000000 then .ok (.str (Txt.join a ys)) S else .stk
  | none => .stk
theorem os_join (hK : X.K = G.K) : OpSL G (fun x xs H Q => ∃ a p, ∃ ys : List Str, x = .str a ∧ xs = [.ref p] ∧ (SqL X.K H p (ys.map V.str) ∨ SqT X.K H p (ys.map V.str)) ∧
    (ys.map (·.length)).sum + ys.length * a.length ≤ 16777216 ∧ Q (.str (Txt.join a ys)) H) dJoin := by
  rw [hK]
  intro H ι S a p vs ds Q E hr hp e r h
  unfold dJoin at h
  cases eb : strsD ds with
  | none => rw [eb] at h; exact h.elim
  | some ys =>
    rw [eb] at h
    dsimp only at h
    rw [strsD_v r eb] at e
    by_cases c : (ys.map (·.length)).sum + ys.length * a.length ≤ 1000000
    · rw [if_pos c] at h
      exact ⟨a, p, ys, rfl, rfl, .inl (.inl (.inl e)), by omega, now hr (.str _) h⟩
    · rw [if_neg c] at h
      exact h.elim

/-! ### methods of lists -/
def isLst (d : D) (S : SS) : Bool := match d with
  | .obj i => match S[i]? with
    | some (.lst _) => true
    | _ => false
  | .fz _ => true
  | _ => false
theorem isLst_ty {H : Hp} {ι : List Addr} {S : SS} {x : V} {d : D} (hK : X.K = G.K) (hr : HR G H ι S) (r : Rp G.K H ι x d) (h : isLst d S = true) : tyV X.K "list" x H := by
  rw [hK]
  cases r with
  | fz s1 q1 => exact .inl ⟨rfl, _, s1.sql⟩
  | @obj i a e1 =>
    have h' : (match S[i]? with
      | some (.lst _) => true
      | _ => false) = true := h
    cases ec : S[i]? with
    | none => rw [ec] at h'; cases h'
    | some cl =>
      rw [ec] at h'
      cases cl <;> try cases h'
      obtain ⟨vs, k1, q1⟩ := hr.cell i _ a ec e1
      exact .inl ⟨rfl, vs, .inl (.inl k1)⟩
  | _ => cases h
def dAppend (d : D) (xs : List D) (S : SS) : Res D := match d, xs with
  | .obj i, [y] => match S[i]? with
    | some (.lst zs) => if zs.length < 1000000 then .ok .non (S.set i (.lst (zs ++ [y]))) else .stk
    | _ => .stk
  | _, _ => .stk
theorem om_append : OpM G "list" rAppend dAppend := by
  intro H ι S x d xs ds Q E hr r1 r2 h
  unfold dAppend at h
  split at h
  · rename_i i y
    cases r1 with
    | @obj i a e1 =>
      obtain ⟨v, rfl, r3⟩ := rpa1 r2
      cases ec : S[i]? with
      | none => rw [ec] at h; exact h.elim
      | some cl =>
        rw [ec] at h
        cases cl <;> try exact (show False from h).elim
        rename_i zs
        dsimp only at h
        obtain ⟨vs, k1, q1⟩ := hr.cell i _ a ec e1
        by_cases c : zs.length < 1000000
        · rw [if_pos c] at h
          have hm : IsC (H a) := by rw [k1]; trivial
          have ha : a ∈ ι := List.mem_of_getElem? e1
          have t : Tr H ι (upd H a (.lst (vs ++ [v]))) ι := Tr.write ha hm
          refine ⟨a, vs, v, rfl, rfl, k1, by rw [q1.length]; exact Nat.lt_of_lt_of_le c (by decide), ?_⟩
          exact (show PostE G H ι Q .non (S.set i (.lst (zs ++ [y]))) from h) .non _ ι t (hr.write e1 ⟨vs ++ [v], upd_same, RpA.mono t _ (q1.append (.cons r3 .nil))⟩) .non
        · rw [if_neg c] at h
          exact h.elim
  · exact h.elim

/-! ### repr of data -/
def dRepr (ds : List D) (S : SS) : Res D := match ds with
  | [d] => match pd 66 S d with
    | some p => if p.showable = true ∧ p.hasDict = false ∧ p.depth ≤ 60 ∧ p.shown.length ≤ 1000000 then .ok (.str p.shown) S else .stk
    | none => .stk
  | _ => .stk
end
end FW

set_option Elab.async false
set_option linter.all false
set_option maxRecDepth 100000
set_option maxHeartbeats 4000000
/-! The M layer, 9: own errors that carry one field; raise. (The first part follows the worked proof of the wells, turned to any built-in base and any field.) -/
namespace FW
open PySem PySem.Spec PyProof.Rows L2 PySem.W PySem.Calls PySem.HandSPX
/-! ### the class's text: def __init__(self, a): self.f = a -/
def ieA (a : Str) (p1 p2 : Pos) : Arguments := { posonlyargs := [], args := [{ arg := "self", annotation := none, pos := p1 }, { arg := a, annotation := none, pos := p2 }], vararg := none, kwonlyargs := [], kw_defaults := [], kwarg := none, defaults := [] }
def ieB (a f : Str) (q1 q2 q3 q4 : Pos) : List Stmt := [.Assign [.Attribute (.Name "self" q1) f q2] (.Name a q3) q4]
def ieS (a : Str) : Scope := { kind := .function, names := [(PySem.Str.ofString "self", .local), (a, .local)], isGenerator := false, isCoroutine := false, more := [] }
structure ErrT (K : Frag) (mg : Str → Option Value) (nm : Str) (C fI : Addr) (a f : Str) (B newId initId : String) (bm : List Value) : Prop where
  gC : mg nm = some (.ref C)
  cls : ∃ q N bs sn sub ab col dd k0 k1 k2 k3 k5, K.lookup C = some (excClassObj nm q C N bs bm true sn sub ab col dd k0 k1 k2 k3 k5 newId)
  base : ExcBaseFacts B newId initId bm
  stf : StoreFacts B bm "object.__setattr__" "object"
  over : excOver K C bm = true
  tak : takerIn K C f = some none
  sa : findIn K (.ref C) "__setattr__" = some (some (.builtin "object.__setattr__"))
  iC : findIn K (.ref C) "__init__" = some (some (.ref fI))
  tC : typeIn K (.ref fI) = some (.type "function")
  kC : keepIn K (.ref C) = true
  exC : subIn K (.ref C) (.type "BaseException") = some true
  tyC : typeIn K (.ref C) = some (.type "type")
  fn : ∃ (oc : Value) (od : Option Addr) (doc pm : Value) (an : Option Addr) (cdv ct : Value) (osl : Array (Option Value)) (qn : Str) (p1 p2 q1 q2 q3 q4 : Pos),
    K.lookup fI = some ⟨oc, od, .func (fnOf "__init__" qn (ieA a p1 p2) (ieB a f q1 q2 q3 q4) (ieS a) .none .none doc pm an cdv ct), osl⟩ ∧ codeIn K cdv qn = true
/-- what is needed to read the field of such an error -/
structure ErrF (K : Frag) (C : Addr) (f : Str) : Prop where
  ga : findIn K (.ref C) "__getattribute__" = some (some (.builtin "BaseException.__getattribute__"))
  gg : findIn K (.ref C) "__getattr__" = some none
  noN : findIn K (.ref C) f = some none
  exC : subIn K (.ref C) (.type "BaseException") = some true
  hdC : hasDictIn K C = true
/-- what is computed of the argument's name -/
structure ErrN (a : Str) : Prop where
  b : ∀ (qn : Str) (body : List Stmt) (p1 p2 : Pos) (doc pm : Value) (an : Option Addr) (cdv ct x v : Value), bindArgs (fnOf "__init__" qn (ieA a p1 p2) body (ieS a) .none .none doc pm an cdv ct) ⟨[x, v], []⟩ = pure ([(PySem.Str.ofString "self", x), (a, v)] : List (Str × Value))
  al : ∀ (x v : Value), (([(PySem.Str.ofString "self", x), (a, v)] : List (Str × Value)).all fun y => List.lookup y.fst (ieS a).names == some NameKind.local || List.lookup y.fst (ieS a).names == some NameKind.cell) = true
  m1 : ∀ (qn : Str) (L fI : Addr) (cdv x v : Value), bindL (envOfC qn (ieS a) L fI cdv).kindOf ([(PySem.Str.ofString "self", x), (a, v)] : List (Str × Value)) (fun _ => none) a = some v
  m2 : ∀ (qn : Str) (L fI : Addr) (cdv x v : Value), bindL (envOfC qn (ieS a) L fI cdv).kindOf ([(PySem.Str.ofString "self", x), (a, v)] : List (Str × Value)) (fun _ => none) "self" = some x
  k1 : ∀ (qn : Str) (L fI : Addr) (cdv : Value), (envOfC qn (ieS a) L fI cdv).kindOf a = some .local
  k2 : ∀ (qn : Str) (L fI : Addr) (cdv : Value), (envOfC qn (ieS a) L fI cdv).kindOf "self" = some .local
  d : (a == ("__debug__" : Str)) = false
theorem errN_value : ErrN "value" := ⟨by intros; with_unfolding_all rfl, by intros; with_unfolding_all rfl, by intros; with_unfolding_all rfl, by intros; with_unfolding_all rfl, by intros; with_unfolding_all rfl, by intros; with_unfolding_all rfl, by decide⟩
structure IEnd (h h' : Heap) (x C dx t1 : Addr) (f : Str) (v : Value) : Prop where
  keep : ∀ b o, b ≠ x → h.get? b = some o → h'.get? b = some o
  obj : h'.get? x = some { cls := .ref C, dict := some dx, data := .fields #[.ref t1, .none, .none, .none, .bool false, .none] }
  dbig : h.objs.size ≤ dx
  dne : dx ≠ x
  ns : h'.Ns1 dx (fun y => if y = f then some v else none)
structure EMade (h h' : Heap) (e C d : Addr) (f : Str) (v : Value) : Prop where
  keep : ∀ b o, h.get? b = some o → h'.get? b = some o
  new : h.objs.size ≤ e
  obj : ∃ oe vs, h'.get? e = some oe ∧ oe.cls = .ref C ∧ oe.dict = some d ∧ oe.data = .fields vs ∧ vs[1]? = some .none
  dbig : h.objs.size ≤ d
  dne : d ≠ e
  ns : h'.Ns1 d (fun y => if y = f then some v else none)
section
variable {prog : Program} {w : World} {A : Around} {R : Result → Shared → Prop} {K : Frag} {mg : Str → Option Value} {nm : Str} {C fI : Addr} {a f : Str} {B newId initId : String} {bm : List Value}
/-- self.f = v, the first store -/
theorem err_set {hp : Heap} {g : Array GenState} {d : Drawn} {t : Nat} {os : OsState} {tk : Tok} {v : Value} {x : Addr} {fv : Array Value} (T : ErrT K mg nm C fI a f B newId initId bm) (X : K.In hp) (hx : hp.get? x = some { cls := .ref C, data := .fields fv })
    (hq : ∀ h' tk' dx, (∀ b o, b ≠ x → hp.get? b = some o → h'.get? b = some o) → hp.objs.size ≤ dx → dx ≠ x → h'.get? x = some { cls := .ref C, dict := some dx, data := .fields fv } →
      h'.Ns1 dx (fun y => if y = f then some v else none) → R (.ok (.ret .none)) ⟨h', g, d, tk', os⟩) :
    codeAny (model prog w) A (.call (.builtin "object.__setattr__") ⟨[.ref x, .str f tk, v], []⟩) R ⟨hp, g, d, t, os⟩ := by
  obtain ⟨q, N, bs, sn, sub, ab, col, dd, k0, k1, k2, k3, k5, hC⟩ := T.cls
  have I : InstAt hp x { cls := .ref C, data := .fields fv } C none := ⟨hx, rfl, rfl, trivial⟩
  refine osa_openX (s := ⟨hp, g, d, t, os⟩) T.stf X I T.over T.tak fun b => ?_
  have hcl : clsIn K C = some { name := nm, bases := bs, mro := .ref C :: bm, ns := N, qualname := q, hasDict := true, slotNames := sn, subclasses := sub, abstract := ab, collection := col, hasDel := false } := by unfold clsIn; rw [hC] <;> rfl
  have lk : Looks (model prog w) hp (classData C) _ := looks_clsIn X hcl
  have away : hp.objs.size ≠ x := fun z => absurd (Heap.lt_size (z ▸ hx)) (Nat.lt_irrefl _)
  show wpAny _ _ (Builtin.ObjectAttr.storeInOwnDict (.ref x) (.ref C) (.str f tk) f v b) _ _ _
  unfold Builtin.ObjectAttr.storeInOwnDict Builtin.ObjectAttr.ownDictForStores
  repeat (first | with_reducible refine HandSPX.store_in_new ?_ ?_ | with_reducible refine wpAny_loadPart_at hx ?_ | with_reducible refine lk.at ?_ | wp_step)
  · exact ⟨_, #[], _, (Heap.get?_update_ne _ _ _ _ away).trans (Heap.get?_push_at rfl rfl), rfl, fun e he => absurd he (by simp), fun _ => rfl⟩
  · intro h' tk' hn' hs
    have there : (hp.push { cls := .type "dict", data := .dict #[] }).get? x = some { cls := .ref C, data := .fields fv } := Heap.get?_push_of_some _ hx
    exact hq h' tk' hp.objs.size (fun b o hb ho => (hs.2 b (Nat.ne_of_lt (Heap.lt_size ho))).trans ((Heap.get?_update_ne _ _ _ _ hb).trans (Heap.get?_push_of_some _ ho))) (Nat.le_refl _) away ((hs.2 x away.symm).trans (Heap.get?_update_self _ there rfl)) hn'
theorem ldE {M : Model} {s : Shared} {name : Str} {scope : Scope} {L fa : Addr} {cd : Value} {m : Str → Option Value} {x : Str} {pos : Pos} {v : Value} {Q : Value → Shared → Prop} {E : Value → Shared → Prop} (hn : s.heap.Ns L m) (hv : m x = some v) (h : Q v s)
    (hk : scope.kind = .function) (hl : (envOfC name scope L fa cd).kindOf x = some .local) (hd : (x == ("__debug__" : Str)) = false) :
    wpAny M A (eval (.Name x pos) (envOfC name scope L fa cd)) Q E s := wpAny_Name (wpAny_loadName_local hk hl hn hv h) hd
theorem err_init {s : Shared} (T : ErrT K mg nm C fI a f B newId initId bm) (N : ErrN a) {x t0 : Addr} {v : Value} (X : K.In s.heap) (hlim : s.heap.NoLimit) (hx : s.heap.get? x = some (excO C t0)) (hroom : A.depth < recursionLimit)
    (hq : ∀ h' tk dx, IEnd s.heap h' x C dx t0 f v → R (.ok (.ret .none)) { s with heap := h', toks := tk }) :
    codeAny (model prog w) A (.call (.ref fI) ⟨[.ref x, v], []⟩) R s := by
  obtain ⟨oc, od, doc, pm, an, cdv, ct, osl, qn, p1, p2, q1, q2, q3, q4, ho, hcd⟩ := T.fn
  refine Att.call_fn (binds := [(PySem.Str.ofString "self", .ref x), (a, v)]) X hlim ho hcd hroom (BindsTo.of_eq (N.b _ _ _ _ _ _ _ _ _ _ _)) (N.al _ _) (fun s₁ IC => ?_) rfl rfl rfl
  obtain ⟨h₁, tk₁, rfl⟩ := IC.toInCall.same
  have k : ∀ b o, s.heap.get? b = some o → h₁.get? b = some o := IC.toInCall.keep
  have hn := IC.toInCall.ns
  show wpAny _ _ (execs _ _) _ _ _
  refine wpAny_execs_cons (plainObj_wpAny_Assign_Attribute ?_)
  refine ldE (v := v) hn (N.m1 _ _ _ _ _ _) (ldE (v := .ref x) hn (N.m2 _ _ _ _ _ _) ?_ rfl (N.k2 _ _ _ _) (by decide)) rfl (N.k1 _ _ _ _) N.d
  refine set_plain (X.keeps k) (ox := excO C t0) (od := none) ⟨k _ _ hx, rfl, rfl, trivial⟩ T.sa ?_
  refine err_set T (X.keeps k) (k _ _ hx) fun h₃ tk₃ dx k₃ dn dne hx₃ hn₃ => ?_
  show wpAny _ _ (execs _ _) _ _ _
  exact wpAny_execs_nil (hq h₃ tk₃ dx ⟨fun b o hb e => k₃ b o hb (k b o e), hx₃, Nat.le_of_lt (Nat.lt_of_lt_of_le hn.lt dn), dne, hn₃⟩)
theorem err_made {s : Shared} (T : ErrT K mg nm C fI a f B newId initId bm) (N : ErrN a) {v : Value} (X : K.In s.heap) (hlim : s.heap.NoLimit) (hroom : A.depth + 1 < recursionLimit)
    (hq : ∀ h' tk e d, EMade s.heap h' e C d f v → R (.ok (.ret (.ref e))) { s with heap := h', toks := tk }) :
    codeAny (model prog w) A (.call (.ref C) ⟨[v], []⟩) R s := by
  obtain ⟨q, NN, bs, sn, sub, ab, col, dd, k0, k1, k2, k3, k5, hC⟩ := T.cls
  obtain ⟨hp, g, dr, tk, os⟩ := s
  have k : ∀ b o, hp.get? b = some o → ((hp.push (kdv_tup [v])).push (excO C hp.objs.size)).get? b = some o := fun b o e => Heap.get?_push_of_some _ (Heap.get?_push_of_some _ e)
  have at1 : ((hp.push (kdv_tup [v])).push (excO C hp.objs.size)).get? (hp.objs.size + 1) = some (excO C hp.objs.size) := by heap_get
  refine call_own T.base (fun _ => rfl) (X _ _ hC) (looks_findIn X T.iC) (fun self => bind_fn X self T.tC) (by rw [sizeLine_eq]; exact (by decide : 1 ≤ 16777216)) ?_
  refine err_init (s := ⟨(hp.push (kdv_tup [v])).push (excO C hp.objs.size), g, dr, tk, os⟩) T N (X.keeps k) (hlim.keeps k) at1 (show A.depth + 1 < recursionLimit from hroom) fun h' tk' dx ⟨k', hx, dn, dne, hns⟩ => ?_
  have big : hp.objs.size + 2 ≤ dx := by
    have z := dn
    rw [Heap.size_push, Heap.size_push] at z
    exact z
  exact ⟨rfl, hq h' tk' (hp.objs.size + 1) dx ⟨fun b o e => k' b o (Nat.ne_of_lt (Nat.lt_succ_of_lt (Heap.lt_size e))) (k b o e), Nat.le_succ _, ⟨_, _, hx, rfl, rfl, rfl, rfl⟩, Nat.le_trans (Nat.le_add_right _ 2) big, dne, hns⟩⟩
end
theorem relO_one {f : Str} {v : V} {v' : Value} (r : RelV v v') (g : Str) : RelO (List.lookup g [(f, v)]) (if g = f then some v' else none) := by
  by_cases h : g = f
  · subst h
    rw [if_pos rfl]
    have q : List.lookup g [(g, v)] = some v := by simp [List.lookup]
    rw [q]
    exact r
  · rw [if_neg h]
    have q1 : (g == f) = false := by simpa using h
    have q2 : List.lookup g [(f, v)] = none := by simp [List.lookup, q1]
    rw [q2]
    trivial
section
variable {X : Cx} {G : Gx} {W : WX} {nm : Str} {C fI : Addr} {a f : Str} {B newId initId : String} {bm : List Value}
/-- C(e) -/
def tMkF (C : Addr) (f : Str) (ta : TE) : L2.St → Hp → XK → Prop := fun σ H Q => ta σ H fun v H1 => ∀ d, H1 d = none → Q (.ref C) (some d) (upd H1 d (.xd [(f, v)]))
theorem pmk_err {e : Expr} {ta : TE} {p pos : Pos} {k : Nat} (T : ErrT X.K X.mg nm C fI a f B newId initId bm) (N : ErrN a) (hr : Room k X.A) (ha : PE X e ta) (hg : Gl X nm) (hdb : (nm == ("__debug__" : Str)) = false := by decide)
    (he : starEach (e :: []) X.env = (false, eval e X.env) :: starEach [] X.env := by rfl) (hpl : (backTo pos (starEach [] X.env)).any (·.1) = false := by rfl) :
    PMk X (.Call (.Name nm p) [e] [] pos) (tMkF C f ta) := by
  intro pins s σ H Q I h
  refine wpAny_Call_Name_kw (ld_glob I hg T.gC ?_ hdb)
  refine callWith_K (h₀ := X.base) I.ok.mod.kin T.kC (thn ((pa_cons ha pa_nil he).run pos pins s σ H (fun vs H1 => match vs with | [v] => ∀ d, H1 d = none → Q (.ref C) (some d) (upd H1 d (.xd [(f, v)])) | _ => False) I h) fun us s1 hh => ?_) he hpl
  obtain ⟨vs, H1, I1, r1, q0⟩ := hh
  obtain ⟨v, ev, q1⟩ : ∃ v, vs = [v] ∧ ∀ d, H1 d = none → Q (.ref C) (some d) (upd H1 d (.xd [(f, v)])) := by
    match vs, q0 with
    | [v], q0 => exact ⟨v, rfl, q0⟩
  subst ev
  refine ⟨I1.kIn, ?_⟩
  cases r1 with
  | cons rv rn =>
    rename_i v' us'
    cases rn
    show wpAny _ _ (call (.ref C) [v']) _ _ _
    have hlim := I1.nolimit
    obtain ⟨hp, g, dr, tk, os⟩ := s1
    refine wpAny_call (err_made T N I1.kIn hlim (by have := hr.dp; omega) fun h' tk' e d M => ?_)
    show MkP X pins σ Q (.ref e) ⟨h', g, dr, tk', os⟩
    obtain ⟨oe, fv, hoe, hc, hd, hdat, h1⟩ := M.obj
    obtain ⟨G', g1, g2⟩ := restrict h' fun b => decide (b ≠ e)
    have same : ∀ b, b ≠ e → G'.get? b = h'.get? b := fun b hb => g1 b (decide_eq_true hb)
    have gone : G'.get? e = none := g2 e (by simp)
    have ob : ObjOk X.prog X.w (upd H1 d (.xd [(f, v)])) G' d (.xd [(f, v)]) := ⟨_, M.ns.at (fun o q => (same d M.dne).trans q), fun g => relO_one rv g⟩
    have J : Inv X pins σ (upd H1 d (.xd [(f, v)])) ⟨G', g, dr, tk', os⟩ :=
      I1.laid (t' := tk') (fun b o q => (same b (Nat.ne_of_lt (Nat.lt_of_lt_of_le (Heap.lt_size q) M.new))).trans (M.keep b o q)) M.dbig ob
    refine ⟨e, oe, fv, ⟨G', g, dr, tk', os⟩, _, .ref C, some d, rfl, J, fun b o q => ?_, gone, hoe, ⟨hc, hd⟩, hdat, h1, ?_, rfl, I1.bare, raises_own T.exC T.tyC, q1 d (I1.hok.fresh M.dbig)⟩
    · by_cases hb : b = e
      · subst hb
        have q' : G'.get? b = some o := q
        rw [gone] at q'
        cases q'
      · exact (same b hb).symm.trans q
    · rw [upd_ne (Ne.symm M.dne)]
      exact I1.hok.fresh M.new
end
end FW

set_option Elab.async false
set_option linter.all false
set_option maxRecDepth 100000
set_option maxHeartbeats 4000000
/-! The M layer, 10: except clauses, plain ones and such that tell an error's field; raise with a field. -/
namespace FW
open PySem PySem.Spec PyProof.Rows L2

/-! ### a caught exception -/
/-- it has landed here: out of flight, the state else as it was -/
def Land (X : Cx) (pins : List (Addr × Obj)) (a : Addr) (σ : L2.St) (H : Hp) (cls : Value) (d : Option Addr) (s3 : Shared) : Prop :=
  ∃ (B : Heap) (sI : Shared), Inv X pins σ H sI ∧ (∀ b o, sI.heap.get? b = some o → b ∉ frs X.stack → B.get? b = some o) ∧ sI.heap.UpToSlots s3.heap ∧ HandSPX.FlyingZ B (X.env :: X.outer) a (Zc cls d) s3.heap ∧ H a = none ∧ s3.os = sI.os ∧ AllBare s3.gens
section
variable {X : Cx} {pins : List (Addr × Obj)} {a : Addr} {σ : L2.St} {H : Hp} {cls : Value} {d : Option Addr} {s3 : Shared}
theorem Land.inv (L : Land X pins a σ H cls d s3) : Inv X pins σ H s3 := by
  obtain ⟨B, sI, J, nb, up, fl, na, os, ag⟩ := L
  exact J.landed nb fl.1 up os ag
theorem Land.suite (hf : X.env.frame = some X.env.locals) (L : Land X pins a σ H cls d s3) : ∃ oe vs, s3.heap.get? a = some oe ∧ Zc cls d oe ∧ oe.data = .fields vs ∧ Inv (X.suite a ((a, oe) :: (X.pn ++ pins))) [] σ H s3 := by
  have I := L.inv
  obtain ⟨B, sI, J, nb, up, fl, na, os, ag⟩ := L
  obtain ⟨oe, vs, he, hz, hd⟩ := fl.there
  have out : a ∉ frs (X.env :: X.outer) := fun hm => by
    obtain ⟨_, o', e', no⟩ := fl.2.2.1.mem hm
    rw [he] at e'
    cases e'
    exact no _ hd
  refine ⟨oe, vs, he, hz, hd, I.suite he hd na (fun z => ?_) fun hm => ?_⟩
  · exact out (List.mem_filterMap.mpr ⟨X.env, List.mem_cons_self, by rw [hf, z]⟩)
  · obtain ⟨e, h1, h2⟩ := List.mem_filterMap.mp hm
    exact out (List.mem_filterMap.mpr ⟨e, List.mem_cons_of_mem _ h1, h2⟩)
theorem Land.again {M : Model} {A : Around} {E : Value → Shared → Prop} {Q : Unit → Shared → Prop} (L : Land X pins a σ H cls d s3) (h : ∀ s4, Land X pins a σ H cls d s4 → Q () s4) : wpAny M A (setFlight (.ref a) none) Q E s3 := by
  obtain ⟨B, sI, J, nb, up, fl, na, os, ag⟩ := L
  exact HandSPX.lands_againZ fl fun h4 fl4 up4 => h _ ⟨B, sI, J, nb, up.trans up4, fl4, na, os, ag⟩
/-- no clause takes it: on it flies -/
theorem Land.pass {W : WX} {Q : Flow → Shared → Prop} (hs : X.stack = X.env :: X.outer) (hf : X.env.frame = some X.env.locals) (tk : Takes X W) (L : Land X pins a σ H cls d s3) (hw : W cls d σ H) :
    wpAny (model X.prog X.w) X.A (handleBy (.ref a) X.env []) Q X.xe s3 := by
  obtain ⟨B, sI, J, nb, up, fl, na, os, ag⟩ := L
  refine wpAny_handleBy_nil ?_
  obtain ⟨_, _, _, oe, vs, T, _, _, he, _, hd, h1, _⟩ := id fl
  unfold PySem.passOn
  refine wpAny_bind (wpAny_field he hd h1 ?_)
  rw [if_neg (show ¬ ((Value.ref T == Value.none) = true) from by simp)]
  have last : wpAny (model X.prog X.w) X.A (setFlight (.ref a) X.env.frame) (fun _ s4 => wpAny (model X.prog X.w) X.A (throw (.ref a) : Sem Flow) Q X.xe s4) X.xe s3 := by
    rw [hf]
    exact HandSPX.setFlight_upZ fl fun h4 held up4 => wpAny_throw (tk _ _ ⟨a, B, sI, pins, σ, H, cls, d, rfl, J, nb, up.trans up4, .inr (.inr (by rw [hs]; exact held)), na, os, ag, hw⟩)
  first
    | exact wpAny_bind (wpAny_pure (wpAny_bind last))
    | exact wpAny_bind last
end
/-- a clause: its class, its name's slot, its suite -/
structure CC where
  c : Value
  i : Option Nat
  ts : Addr → Value → Option Addr → TS
def outOf (i : Nat) (D : Ends) : Ends := { nx := fun σ H => D.nx (σ.set i none) H, rt := D.rt, bk := fun σ H => D.bk (σ.set i none) H, ct := fun σ H => D.ct (σ.set i none) H }
def wCC (K : PySem.W.Frag) (Wout : WX) (D : Ends) : List CC → WX
  | [] => Wout
  | k :: r => fun cls d σ H => ∃ b, PySem.W.exmOne K cls k.c = some b ∧ (b = false → wCC K Wout D r cls d σ H) ∧ (b = true → ∀ a, H a = none → match k.i with
    | none => k.ts a cls d D σ H
    | some i => k.ts a cls d (outOf i D) (σ.set i (some (.ref a))) H)
inductive CCs (X : Cx) : List ExceptHandler → List CC → Prop
  | nil : CCs X [] []
  | cons {x : Str} {k : CC} {n : Option Str} {b₀ : Stmt} {suite : List Stmt} {np pos' : Pos} {hds : List ExceptHandler} {l : List CC} (hc : Names X x k.c) (hn : match n, k.i with
      | none, none => True
      | some n, some i => X.N[i]? = some n ∧ X.env.kindOf n = some .local
      | _, _ => False)
      (hsu : ∀ (a : Addr) (oe : Obj) (cls : Value) (d : Option Addr) (pn : List (Addr × Obj)), Zc cls d oe → (∃ vs, oe.data = .fields vs) → PSs (X.suite a ((a, oe) :: pn)) (b₀ :: suite) (k.ts a cls d)) (r : CCs X hds l) :
      CCs X (.ExceptHandler (some (.Name x np)) n (b₀ :: suite) pos' :: hds) (k :: l)
section
variable {X : Cx} {pins : List (Addr × Obj)} {a : Addr} {σ : L2.St} {H : Hp} {cls : Value} {d : Option Addr} {s3 : Shared} {D : Ends} {Wout : WX}
theorem unsuite_end {oe : Obj} {f : Flow} {s6 : Shared} (ok : X.Ok) (h : SP (X.suite a ((a, oe) :: (X.pn ++ pins))) [] D f s6) : SP X pins D f s6 := by
  cases f with
  | next => obtain ⟨σ6, H6, S6, q6⟩ := h; exact ⟨_, _, S6.unsuite ok, q6⟩
  | brk => obtain ⟨σ6, H6, S6, q6⟩ := h; exact ⟨_, _, S6.unsuite ok, q6⟩
  | cont => obtain ⟨σ6, H6, S6, q6⟩ := h; exact ⟨_, _, S6.unsuite ok, q6⟩
  | ret u => obtain ⟨v6, σ6, H6, S6, r6, q6⟩ := h; exact ⟨_, _, _, S6.unsuite ok, r6, q6⟩
theorem try_end {xe : Value → Shared → Prop} {f : Flow} {s6 : Shared} (ok : X.Ok) (h : SP (X.tr (X.pn ++ pins) xe) [] D f s6) : SP X pins D f s6 := by
  cases f with
  | next => obtain ⟨σ6, H6, S6, q6⟩ := h; exact ⟨_, _, S6.ofTry ok, q6⟩
  | brk => obtain ⟨σ6, H6, S6, q6⟩ := h; exact ⟨_, _, S6.ofTry ok, q6⟩
  | cont => obtain ⟨σ6, H6, S6, q6⟩ := h; exact ⟨_, _, S6.ofTry ok, q6⟩
  | ret u => obtain ⟨v6, σ6, H6, S6, r6, q6⟩ := h; exact ⟨_, _, _, S6.ofTry ok, r6, q6⟩
/-- the clauses, one after the other -/
theorem clauses (hs : X.stack = X.env :: X.outer) (hf : X.env.frame = some X.env.locals) (hN : X.N.Nodup) (tk : Takes X Wout) : ∀ {hds : List ExceptHandler} {l : List CC}, CCs X hds l → Land X pins a σ H cls d s3 → wCC X.K Wout D l cls d σ H →
    wpAny (model X.prog X.w) X.A (handleBy (.ref a) X.env hds) (SP X pins D) X.xe s3
  | _, _, .nil, L, w => L.pass hs hf tk w
  | _, _, .cons (x := x) (k := k) (n := n) (b₀ := b₀) (suite := suite) (np := np) (pos' := pos') (hds := hds) (l := l) hc hn hsu r, L, w => by
    obtain ⟨b, hb, hno, hyes⟩ := w
    have na : H a = none := by obtain ⟨_, _, _, _, _, _, na, _⟩ := L; exact na
    have ok := L.inv.ok
    obtain ⟨oe, vs, he, hz, hd, S⟩ := L.suite hf
    have lt : PySem.W.Looks (model X.prog X.w) s3.heap (typeOf (.ref a)) cls := fun A Q E s k q => wpAny_typeOf_ref (k _ _ he) (by rw [hz.1]; exact q)
    have lm := PySem.W.exm_one (M := model X.prog X.w) L.inv.kIn lt hb
    refine wpAny_handleBy_cons (codeAny_handlers_test ?_) (by intro q; cases q)
    have named : ∀ {Q E : Value → Shared → Prop}, Q k.c s3 → wpAny (model X.prog X.w) (X.A.mark (some (.ref a))) (eval (.Name x np) X.env) Q E s3 := fun {Q E} q => by
      obtain ⟨hg, hdb, hm | ⟨hm, hv, hnn⟩⟩ := hc
      · exact ld_glob (X := X.suite a ((a, oe) :: (X.pn ++ pins))) S hg hm q hdb
      · exact ld_blt (X := X.suite a ((a, oe) :: (X.pn ++ pins))) S hg hm hv q hnn hdb
    refine named (lm.here ?_)
    cases b with
    | false =>
      show wpAny _ X.A (handleBy (.ref a) X.env hds) _ _ _
      exact clauses hs hf hN tk r L (hno rfl)
    | true =>
      have go := hyes rfl a na
      cases n with
      | none =>
        cases ei : k.i with
        | some i => rw [ei] at hn; exact hn.elim
        | none =>
          rw [ei] at go
          refine codeAny_handlers_suite (L.again fun s4 L4 => ?_)
          obtain ⟨oe4, vs4, _, hz4, hd4, S4⟩ := L4.suite hf
          exact wpAny_mono ((hsu a oe4 cls d (X.pn ++ pins) hz4 ⟨_, hd4⟩).run [] _ _ H _ S4 go) (fun f s6 q => unsuite_end ok q) fun _ _ z => False.elim z
      | some nm =>
        cases ei : k.i with
        | none => rw [ei] at hn; exact hn.elim
        | some i =>
          rw [ei] at hn go
          obtain ⟨hi, hl⟩ := hn
          refine codeAny_handlers_suite_as (L.again fun s4 L4 => ?_)
          obtain ⟨oe4, vs4, _, hz4, hd4, S4⟩ := L4.suite hf
          refine store_ok (X := X.suite a ((a, oe4) :: (X.pn ++ pins))) (v := .ref a) S4 hN hi (.inl hl) rfl (fun s5 S5 => ?_) (.inr hl)
          refine wpAny_mono ((hsu a oe4 cls d (X.pn ++ pins) hz4 ⟨_, hd4⟩).run [] s5 _ H _ S5 go) (fun f s6 q => ?_) fun _ _ z => False.elim z
          cases f with
          | next => obtain ⟨σ6, H6, J6, q6⟩ := unsuite_end ok q; exact gone_ok J6 hN hi hl fun s7 J7 => ⟨_, _, J7, q6⟩
          | brk => obtain ⟨σ6, H6, J6, q6⟩ := unsuite_end ok q; exact gone_ok J6 hN hi hl fun s7 J7 => ⟨_, _, J7, q6⟩
          | cont => obtain ⟨σ6, H6, J6, q6⟩ := unsuite_end ok q; exact gone_ok J6 hN hi hl fun s7 J7 => ⟨_, _, J7, q6⟩
          | ret u => obtain ⟨v6, σ6, H6, J6, r6, q6⟩ := unsuite_end ok q; exact gone_ok J6 hN hi hl fun s7 J7 => ⟨_, _, _, J7, r6, q6⟩
end
theorem ps_tryC {X : Cx} {body : List Stmt} {h₀ : ExceptHandler} {hds : List ExceptHandler} {l : List CC} {pos : Pos} {tb : WX → TS} {Wout : WX} (hs : X.stack = X.env :: X.outer) (hf : X.env.frame = some X.env.locals) (hN : X.N.Nodup) (tk : Takes X Wout)
    (hb : ∀ (W : WX) (pn : List (Addr × Obj)) (xe : Value → Shared → Prop), Takes (X.tr pn xe) W → PassesOwn (model X.prog X.w) X.A X.env xe → PSs (X.tr pn xe) body (tb W)) (hh : CCs X (h₀ :: hds) l) :
    PS X (.Try body (h₀ :: hds) [] [] pos) (fun D σ H => tb (wCC X.K Wout D l) D σ H) := by
  refine ⟨fun pins s σ H D I h => ?_⟩
  have ok := I.ok
  have fr : X.A.frames = some (X.env :: X.outer) := by rw [ok.frames, hs]
  refine wpAny_Try_except (wpAny_mono ((hb (wCC X.K Wout D l) (X.pn ++ pins) _ (fun u s' xx => ?_) PassesOwn.looking).run [] s σ H D (I.toTry _) h) (fun f s1 q => ?_) (fun e s1 he => he))
  · obtain ⟨a, B, sI, pins', σ', H', cls, d, rfl, J', nb, up, sky, na, os, ag, w⟩ := xx
    have J : Inv X pins σ' H' sI := J'.ofTry ok
    have sky2 : Sky B (X.env :: X.outer) a (Zc cls d) X.env.locals s'.heap := by
      rw [← hs]
      exact sky
    show wpAny (model X.prog X.w) X.A (noteFrame (.ref a) X.env) _ _ _
    exact Sky.land Zc.steady fr hf sky2 fun h3 fl up3 => clauses hs hf hN tk hh ⟨B, sI, J, nb, up.trans up3, fl, na, os, ag⟩ w
  · have z := try_end ok q
    cases f with
    | next => exact wpAny_execs_nil z
    | brk => exact z
    | cont => exact z
    | ret u => exact z
end FW

set_option Elab.async false
set_option linter.all false
set_option maxRecDepth 100000
set_option maxHeartbeats 4000000
/-! The M layer, 11: raise with a field, try, as statements on data. -/
namespace FW
open PySem PySem.Spec PyProof.Rows L2
abbrev St := L2.St
/-! ### raise C(e) -/
def mRaiseF (n f : Str) (m : ME) : MS := fun env S => lft (m env S) env fun d S1 => .ex ⟨n, some (f, d)⟩ env S1
section
variable {X : Cx} {G : Gx} {W : WX} {nm : Str} {C fI : Addr} {a f : Str} {B newId initId : String} {bm : List Value} {e : Expr} {ma : ME} {p pos pos2 : Pos}
theorem s_raiseF {k : Nat} (hc : X.calm = true) (tk : Takes X W) (hC : G.C nm = some C) (T : ErrT X.K X.mg nm C fI a f B newId initId bm) (N : ErrN a) (hr : Room k X.A) (ha : XE X G W e ma) (hg : Gl X nm) (hdb : (nm == ("__debug__" : Str)) = false := by decide)
    (he : starEach (e :: []) X.env = (false, eval e X.env) :: starEach [] X.env := by rfl) (hpl : (backTo pos (starEach [] X.env)).any (·.1) = false := by rfl) :
    XS X G W (.Raise (some (.Call (.Name nm p) [e] [] pos)) none pos2) (mRaiseF nm f ma) := by
  obtain ⟨ta, pa, ea⟩ := ha
  refine ⟨_, ps_raise hc tk (pmk_err T N hr pa hg hdb he hpl), fun σ H ι S env Dn hr re h => ?_⟩
  show ta σ H fun v H1 => ∀ d, H1 d = none → W (.ref C) (some d) σ (upd H1 d (.xd [(f, v)]))
  refine emF ea hr re (fun _ _ _ z => z) h fun d S1 v H1 ι1 t1 h1 r1 q1 => fun p hp => ?_
  have t2 := Tr.laid (ι := ι1) (o := .xd [(f, v)]) hp
  exact (show PostXF G H ι W ⟨nm, some (f, d)⟩ env S1 from q1) (.ref C) (some p) σ _ ι1 (t1.trans t2) (h1.laid hp) ((re.mono t1).mono t2) ⟨C, hC, rfl, p, v, rfl, upd_same, h1.out hp, Rp.mono t2 _ r1⟩
end
/-! ### an error's field -/
def tErrF (K : PySem.W.Frag) (f : Str) (a : Addr) (cls : Value) (d : Option Addr) (te : TE) : TE := fun σ H Q => te σ H fun x H1 => x = .ref a ∧ ∃ C dd v, cls = .ref C ∧ ErrF K C f ∧ d = some dd ∧ H1 dd = some (.xd [(f, v)]) ∧ Q v H1
theorem pe_errF {X : Cx} {a : Addr} {oe : Obj} {cls : Value} {d : Option Addr} {pn : List (Addr × Obj)} {e : Expr} {te : TE} {f : Str} {pos : Pos} (hz : Zc cls d oe) (hf : ∃ vs, oe.data = .fields vs) (he : PE (X.suite a ((a, oe) :: pn)) e te)
    (hb : attributeBase e f X.env (eval e X.env) = eval e X.env) : PE (X.suite a ((a, oe) :: pn)) (.Attribute e f pos) (tErrF X.K f a cls d te) := by
  refine ⟨fun pins s σ H Q I h => attr_of hb (thn (he.run pins s σ H _ I h) fun u s1 hh => ?_)⟩
  obtain ⟨x, H1, I1, rx, ex, C, dd, v, ec, T, ed, ea, q⟩ := hh
  subst ex ec ed
  obtain rfl : u = Value.ref a := rx
  obtain ⟨ha, _⟩ := I1.pin (a, oe) (List.mem_append_left _ List.mem_cons_self)
  obtain ⟨vs, hd⟩ := hf
  obtain ⟨mA, hns, hr⟩ := (show ObjOk X.prog X.w H1 s1.heap dd (.xd [(f, v)]) from I1.hok dd _ ea)
  obtain ⟨od, ho, hl⟩ := lookIn_ns hns
  have l : List.lookup f [(f, v)] = some v := by simp [List.lookup]
  obtain ⟨u, hu, ru⟩ := RelO.some_of (v := v) (o := mA f) (by rw [← l]; exact hr f)
  have J : PySem.W.InstAt s1.heap a oe C (some od) := ⟨ha, hz.1, by unfold PySem.W.notCls; rw [hd] <;> rfl, by rw [hz.2]; exact ho⟩
  exact HandSPX.exc_get I1.kIn J T.ga T.gg T.exC (PySem.W.findObj_own T.hdC T.noN rfl (by rw [hl, hu])) (handed_of ru) ⟨v, H1, I1.tok _, ru, q⟩
/-! ### try -/
inductive Cl where
  | plain (subs : List Str) (m : MS)
  | told (subs : List Str) (i : Nat) (tag f : Str)
def pick : List Cl → Exn → En → SS → RF
  | [], x, env, S => .ex x env S
  | .plain subs m :: r, x, env, S => if subs.contains x.cls = true then (match m env S with
    | .ex _ _ _ => .stk
    | z => z) else pick r x env S
  | .told subs i tag f :: r, x, env, S => if subs.contains x.cls = true then (match x.pay with
    | some (g, d) => if g = f ∧ i < env.length then .rt (.tup [.str tag, d]) S else .stk
    | none => .stk) else pick r x env S
def mTry (mb : MS) (cs : List Cl) : MS := fun env S => match mb env S with
  | .ex x e1 S1 => pick cs x e1 S1
  | r => r
inductive XCs (X : Cx) (G : Gx) : List ExceptHandler → List Cl → Prop
  | nil : XCs X G [] []
  | plain {x : Str} {c : Addr} {subs : List Str} {b₀ : Stmt} {suite : List Stmt} {m : MS} {np pos' : Pos} {hds : List ExceptHandler} {cs : List Cl} (hc : Names X x (.ref c)) (hsub : ∀ n C, G.C n = some C → PySem.W.exmOne X.K (.ref C) (.ref c) = some (subs.contains n))
      (hs : ∀ (a : Addr) (oe : Obj) (pn : List (Addr × Obj)), XSs (X.suite a ((a, oe) :: pn)) G W0 (b₀ :: suite) m) (r : XCs X G hds cs) : XCs X G (.ExceptHandler (some (.Name x np)) none (b₀ :: suite) pos' :: hds) (.plain subs m :: cs)
  | told {x : Str} {c : Addr} {subs : List Str} {n f tag : Str} {i j k : Nat} {np p1 p2 p3 p4 p5 pos' : Pos} {hds : List ExceptHandler} {cs : List Cl} (hc : Names X x (.ref c)) (hsub : ∀ n C, G.C n = some C → PySem.W.exmOne X.K (.ref C) (.ref c) = some (subs.contains n))
      (hi : X.N[i]? = some n) (hl : X.env.kindOf n = some .local) (hd : (n == ("__debug__" : Str)) = false) (hcd : (n == ("__classdict__" : Str)) = false) (hF : ∀ m C, G.C m = some C → subs.contains m = true → ErrF X.K C f)
      (hb : attributeBase (.Name n p2) f X.env (eval (.Name n p2) X.env) = eval (.Name n p2) X.env)
      (hst : starEach [.Constant (.str tag) j p1, .Attribute (.Name n p2) f p3] X.env = (false, eval (.Constant (.str tag) j p1) X.env) :: starEach [.Attribute (.Name n p2) f p3] X.env)
      (hst2 : starEach [.Attribute (.Name n p2) f p3] X.env = (false, eval (.Attribute (.Name n p2) f p3) X.env) :: starEach [] X.env) (r : XCs X G hds cs) :
      XCs X G (.ExceptHandler (some (.Name x np)) (some n) [.Return (some (.Tuple [.Constant (.str tag) j p1, .Attribute (.Name n p2) f p3] k p4)) p5] pos' :: hds) (.told subs i tag f :: cs)
theorem RE.blank {K : PySem.W.Frag} {H : Hp} {ι : List Addr} {σ : L2.St} {env : En} (r : RE K H ι σ env) (i : Nat) (v : Option V) : RE K H ι (σ.set i v) (env.set i none) := by
  refine ⟨by rw [List.length_set, List.length_set]; exact r.len, fun j e hj => ?_⟩
  by_cases hij : i = j
  · subst hij
    have hl : i < env.length := by
      have := (List.getElem?_eq_some_iff.mp hj).1
      rwa [List.length_set] at this
    rw [List.getElem?_set_self hl] at hj
    cases hj
  · rw [List.getElem?_set_ne hij] at hj
    rw [List.getElem?_set_ne hij]
    exact r.get j e hj
section
variable {X : Cx} {G : Gx} {W : WX}
theorem clauses_of (hK : X.K = G.K) : ∀ {hds : List ExceptHandler} {cs : List Cl}, XCs X G hds cs → ∃ l, CCs X hds l ∧ ∀ (D : Ends) (σ : L2.St) (H : Hp) (ι : List Addr) (S : SS) (env : En) (x : Exn) (cls : Value) (dd : Option Addr), HR G H ι S → RE G.K H ι σ env → XRp G H ι x cls dd →
    (pick cs x env S).wp (postF G H ι W D) → wCC X.K W D l cls dd σ H
  | _, _, .nil => ⟨[], .nil, fun D σ H ι S env x cls dd hr re xr h => (show PostXF G H ι W x env S from h) cls dd σ H ι Tr.refl hr re xr⟩
  | _, _, .plain (c := c) (subs := subs) (m := m) (cs := cs) hc hsub hs r => by
    obtain ⟨l, h1, h2⟩ := clauses_of hK r
    refine ⟨⟨.ref c, none, fun _ _ _ => tSM G W0 m⟩ :: l, .cons (k := ⟨.ref c, none, fun _ _ _ => tSM G W0 m⟩) hc trivial (fun a oe cls d pn _ _ => (hs a oe pn).canon) h1, fun D σ H ι S env x cls dd hr re xr h => ?_⟩
    obtain ⟨C, e1, e2, e3⟩ := id xr
    subst e2
    refine ⟨_, hsub _ _ e1, fun hb => ?_, fun hb a _ => ?_⟩
    · have hb' : subs.contains x.cls = false := hb
      unfold pick at h
      rw [hb', if_neg Bool.false_ne_true] at h
      exact h2 D σ H ι S env x _ dd hr re xr h
    · have hb' : subs.contains x.cls = true := hb
      unfold pick at h
      rw [hb', if_pos rfl] at h
      refine ⟨ι, S, env, hr, re, ?_⟩
      cases em : m env S with
      | ex _ _ _ => rw [em] at h; exact (show False from h).elim
      | nx _ _ => rw [em] at h; exact h
      | rt _ _ => rw [em] at h; exact h
      | bk _ _ => rw [em] at h; exact h
      | ct _ _ => rw [em] at h; exact h
      | stk => rw [em] at h; exact h
  | _, _, .told (c := c) (subs := subs) (n := n) (f := f) (tag := tag) (i := i) (j := j) (cs := cs) hc hsub hi hl hd hcd hF hb hst hst2 r => by
    obtain ⟨l, h1, h2⟩ := clauses_of hK r
    have sm : ∀ a cls d, TS := fun a cls d => tRet (tTup (tCons (tC (.str tag)) (tCons (tErrF X.K f a cls d (tVar i)) tNil)))
    refine ⟨⟨.ref c, some i, fun a cls d => tRet (tTup (tCons (tC (.str tag)) (tCons (tErrF X.K f a cls d (tVar i)) tNil)))⟩ :: l, .cons (k := ⟨.ref c, some i, fun a cls d => tRet (tTup (tCons (tC (.str tag)) (tCons (tErrF X.K f a cls d (tVar i)) tNil)))⟩) hc ⟨hi, hl⟩ (fun a oe cls d pn hz hf => ?_) h1, fun D σ H ι S env x cls dd hr re xr h => ?_⟩
    · exact pss_one (ps_ret (pe_tup (pa_cons pe_str (pa_cons (pe_errF hz hf (pe_var hi (.inl hl) hd hcd) hb) pa_nil hst2) hst)))
    · obtain ⟨C, e1, e2, e3⟩ := id xr
      subst e2
      refine ⟨_, hsub _ _ e1, fun hb => ?_, fun hb a ha => ?_⟩
      · have hb' : subs.contains x.cls = false := hb
        unfold pick at h
        rw [hb', if_neg Bool.false_ne_true] at h
        exact h2 D σ H ι S env x _ dd hr re xr h
      · have hb' : subs.contains x.cls = true := hb
        unfold pick at h
        rw [hb', if_pos rfl] at h
        cases ep : x.pay with
        | none => rw [ep] at h; exact (show False from h).elim
        | some pq =>
          obtain ⟨g, d⟩ := pq
          rw [ep] at h e3
          obtain ⟨q, v, k1, k2, k3, k4⟩ := e3
          dsimp only at h
          by_cases hg : g = f ∧ i < env.length
          · rw [if_pos hg] at h
            have hn : i < σ.length := by rw [re.len]; exact hg.2
            have hg := hg.1
            subst hg
            refine ⟨.ref a, by rw [List.getElem?_set_self hn], rfl, C, q, v, rfl, hF _ _ e1 hb', k1, k2, (by decide : 2 ≤ 16777216), fun p hp => ?_⟩
            exact lay_tup hr (.cons (.str tag) (.cons k4 .nil)) (show PostE G H ι D.rt (.tup [.str tag, d]) S from h) p hp
          · rw [if_neg hg] at h
            exact (show False from h).elim
theorem s_try {body : List Stmt} {h₀ : ExceptHandler} {hds : List ExceptHandler} {cs : List Cl} {mb : MS} {pos : Pos} (hK : X.K = G.K) (hs : X.stack = X.env :: X.outer) (hf : X.env.frame = some X.env.locals) (hN : X.N.Nodup) (tk : Takes X W)
    (hb : ∀ (W' : WX) (pn : List (Addr × Obj)) (xe : Value → Shared → Prop), Takes (X.tr pn xe) W' → PassesOwn (model X.prog X.w) X.A X.env xe → XSs (X.tr pn xe) G W' body mb) (hh : XCs X G (h₀ :: hds) cs) :
    XS X G W (.Try body (h₀ :: hds) [] [] pos) (mTry mb cs) := by
  obtain ⟨l, hl, hp⟩ := clauses_of (W := W) hK hh
  refine ⟨_, ps_tryC hs hf hN tk (fun W' pn xe tk' po => (hb W' pn xe tk' po).canon) hl, fun σ H ι S env Dn hr re h => ?_⟩
  refine ⟨ι, S, env, hr, re, ?_⟩
  unfold mTry at h
  cases em : mb env S with
  | nx e1 S1 => rw [em] at h; exact h
  | rt e1 S1 => rw [em] at h; exact h
  | bk e1 S1 => rw [em] at h; exact h
  | ct e1 S1 => rw [em] at h; exact h
  | stk => rw [em] at h; exact h
  | ex x e1 S1 =>
    rw [em] at h
    intro cls dd σ' H' ι' t hr' re' xr
    exact hp Dn σ' H' ι' S1 e1 x cls dd hr' re' xr (wpF_to t h)
end
end FW

set_option Elab.async false
set_option linter.all false
set_option maxRecDepth 100000
set_option maxHeartbeats 4000000
/-! The M layer, 12: f(lambda: e), f a def that calls what it gets. -/
namespace FW
open PySem PySem.Spec PyProof.Rows L2 LamX
/-! ### the tables grow -/
theorem tr_tabs {G : Gx} {H H1 : Hp} {ι : List Addr} {S : SS} (hr : HR G H ι S) (eN : ExtN H H1) (T1 : Tabs G.T H1) : Tr H ι H1 ι ∧ HR G H1 ι S := by
  have t : Tr H ι H1 ι := ⟨⟨[], by simp⟩, fun a h1 h2 => absurd h1 h2, fun a o e _ n => eN a o e n, fun a xs e => eN a _ e (fun ps z => by cases z), fun a o u e => eN a _ e (fun ps z => by cases z)⟩
  refine ⟨t, hr.len, hr.nd, fun i c a e1 e2 => ?_, T1⟩
  have k := hr.cell i c a e1 e2
  have e : H1 a = H a := by
    cases c with
    | lst ds => obtain ⟨vs, q, _⟩ := k; rw [q]; exact eN a _ q fun ps z => by cases z
    | dK ds => obtain ⟨vs, q, _⟩ := k; rw [q]; exact eN a _ q fun ps z => by cases z
    | dT ds => obtain ⟨vs, q, _⟩ := k; rw [q]; exact eN a _ q fun ps z => by cases z
  exact k.mono t e
section
variable {X : Cx} {pins : List (Addr × Obj)} {σ : L2.St} {H HZ : Hp} {s s1 : Shared}
/-- the lambda runs -/
theorem lam_run {A : Around} {outer : List Env} {E : XK} {scope : Scope} {params : Arguments} {body : Expr} {pm ctv : Value} {f c' : Addr} {tb : TE} {Q : VK} (I : Inv X pins σ H s) (L : LamS X.env.scope scope) (e0 : Env0 X.prog X.w X.K X.mg X.base A outer s1 HZ)
    (hf : s1.heap.get? f = some (PySem.W.kla_obj "<lambda>" (X.env.qual ++ "<lambda>") params body scope (cloFrom X.env.cells scope.names []) pm c' ctv)) (un : Un (frs X.stack) [] H HZ s.heap s1.heap)
    (hbind : bindArgs (PySem.W.kla_fn "<lambda>" (X.env.qual ++ "<lambda>") params body scope (cloFrom X.env.cells scope.names []) pm (.ref c') ctv) ⟨[], []⟩ = pure []) (hd : A.handled = none) (hdp : A.depth < recursionLimit)
    (hcode : ∃ (oc : Obj) (vs : Array Value) (t : Tok), s1.heap.get? c' = some oc ∧ oc.data = .fields vs ∧ vs[1]? = some (.str (X.env.qual ++ "<lambda>") t)) (lim : s1.heap.NoLimit)
    (hbody : PE (lamCx X A outer s1 HZ E scope f c') body tb) (ht : tb σ HZ Q) :
    codeAny (model X.prog X.w) A (.call (.ref f) ⟨[], []⟩) (CR (L2.CX X.prog X.w) outer X.prog X.w HZ s1 Q E) s1 := by
  obtain ⟨oc, vs, t, k1, k2, k3⟩ := hcode
  refine PySem.W.kla_callFunE hdp hf rfl L.co L.gen rfl ⟨c', oc, vs, t, rfl, k1, k2, k3⟩ ?_
  rw [hbind]
  refine wpAny_pure (wpAny_newFunctionEnv (fun y hy => (L.own y hy).2) (fun y hy => absurd hy (by simp)) (fun h₁ hns hsb => ⟨lim.fresh _ hsb, ?_⟩) L.kind)
  have J := lam_start2 (E := E) (f := f) (c' := c') (tk := s1.toks + ([] : List (Str × Value)).length) I L e0 hd un hns fun b o e => hsb.extBut b o (Nat.ne_of_lt (Heap.lt_size e)) (Heap.get?_push_of_some _ e)
  refine PySem.W.kla_codeExpr (wpAny_mono (hbody.run [] _ _ HZ Q J ht) (fun v s' hq => ?_) fun e s' hq => hq)
  obtain ⟨w', H', J', rv, q⟩ := hq
  exact ⟨w', H', J'.os, J'.bare, J'.base, J'.hok, rv, q⟩
/-- a(), in the def that got the lambda -/
theorem pe_actM {Ng : List Str} {qg : Str} {sg : Scope} {g f c' : Addr} {cdg pm ctv : Value} {params : Arguments} {body : Expr} {scope : Scope} {k i : Nat} {a : Str} {pn : List (Addr × Obj)} {xe : Value → Shared → Prop} {W : WX} {tb : XK → TE} {p1 p2 : Pos} {CXg : CXT} {Eg : XK}
    (I : Inv X pins σ H s) (L : LamS X.env.scope scope) (hf : s.heap.get? f = some (PySem.W.kla_obj "<lambda>" (X.env.qual ++ "<lambda>") params body scope (cloFrom X.env.cells scope.names []) pm c' ctv)) (hfn : H f = none) (hfr : f ∉ frs X.stack)
    (hbind : bindArgs (PySem.W.kla_fn "<lambda>" (X.env.qual ++ "<lambda>") params body scope (cloFrom X.env.cells scope.names []) pm (.ref c') ctv) ⟨[], []⟩ = pure [])
    (tk : Takes ((cxOf CXg X.prog X.w X.K X.mg X.base Ng qg sg g cdg X.A X.stack s H Eg).tr pn xe) W) (hr : Room (k + 1) (X.A.deeper (envOfC qg sg s.heap.objs.size g cdg)))
    (hbody : ∀ (A : Around) (outer : List Env) (s : Shared) (H : Hp) (E : XK), Room k (A.deeper (lamEnv X scope s.heap.objs.size f c')) → PE (lamCx X A outer s H E scope f c') body (tb E))
    (hN : Ng[i]? = some a) (hv : Vis sg a) (hd : (a == ("__debug__" : Str)) = false) (hcd : (a == ("__classdict__" : Str)) = false) :
    PE ((cxOf CXg X.prog X.w X.K X.mg X.base Ng qg sg g cdg X.A X.stack s H Eg).tr pn xe) (.Call (.Name a p1) [] [] p2)
      (fun σZ HZ Q => σZ[i]? = some (some (.ref f)) ∧ HZ c' = some (CodeO c' (X.env.qual ++ "<lambda>")) ∧ tb (WE W σZ) σ HZ Q) := by
  refine ⟨fun pinsZ sZ σZ HZ Q IZ h => ?_⟩
  obtain ⟨hs, hc, ht⟩ := h
  have name := (pe_var (X := (cxOf CXg X.prog X.w X.K X.mg X.base Ng qg sg g cdg X.A X.stack s H Eg).tr pn xe) (pos := p1) (i := i) hN hv hd hcd).run pinsZ sZ σZ HZ (fun v H1 => v = .ref f ∧ H1 = HZ) IZ ⟨.ref f, hs, rfl, rfl⟩
  refine wpAny_Call_Name_kw (thn name fun u s1 ⟨v, H1, I1, r1, q1⟩ => ?_)
  obtain ⟨rfl, rfl⟩ := q1
  obtain rfl : u = Value.ref f := r1
  have of1 := I1.base.keep f _ hf hfn hfr (fun z => nomatch (show f ∈ ([] : List Addr) from z))
  refine PySem.W.callWith_F0 ⟨_, _, _, _, of1⟩ ?_
  obtain ⟨code, _, _⟩ := I1.hok c' _ hc
  have rc : codeAny (model X.prog X.w) (X.A.deeper (envOfC qg sg s.heap.objs.size g cdg)) (.call (.ref f) ⟨[], []⟩) (CR (L2.CX X.prog X.w) (envOfC qg sg s.heap.objs.size g cdg :: X.stack) X.prog X.w H1 s1 Q (WE W σZ)) s1 :=
    lam_run (X := X) (E := WE W σZ) I L I1.env0 of1 I1.base hbind hr.hd hr.depth code I1.nolimit (hbody _ _ _ _ _ (hr.deeper _)) ht
  refine wpAny_call (codeAny_mono rc fun r s' hq => ?_)
  cases r with
  | error e => exact passAt tk σZ pinsZ _ s1 e s' I1 hq
  | ok fl =>
    cases fl with
    | ret u => exact I1.after hq
    | next => exact False.elim hq
    | brk => exact False.elim hq
    | cont => exact False.elim hq
end
/-! ### the def that gets it: try: return ('..', a()) except .. -/
def mLam (n : Nat) (tag : Str) (cs : List Cl) (ml : ME) : ME := fun env S => match ml env S with
  | .ok d S1 => gc S.length (.tup [.str tag, d]) S1
  | .exc x S1 => (match pick cs x (List.replicate n none) S1 with
    | .rt d S2 => gc S.length d S2
    | .nx _ S2 => gc S.length .non S2
    | _ => .stk)
  | .stk => .stk
/-- what is known of the def x that gets a lambda: its text, its clauses -/
structure LamF (P : Program) (w : World) (G : Gx) (K : PySem.W.Frag) (mg : Str → Option Value) (base : Heap) (x : Str) (g : Addr) (n : Nat) (tag : Str) (cs : List Cl) : Prop where
  hm : mg x = some (.ref g)
  hk : PySem.W.keepIn K (.ref g) = true
  ex : ∃ (Ng : List Str) (a : Str) (pg : Arguments) (sg : Scope) (h₀ : ExceptHandler) (hds : List ExceptHandler) (j k : Nat) (p1 p2 q1 q2 q3 q4 : Pos) (dV kV doc pm cdv ct oc : Value) (an od : Option Addr) (osl : Array (Option Value)),
    K.lookup g = some ⟨oc, od, .func (PySem.W.fnOf x x pg [.Try [.Return (some (.Tuple [.Constant (.str tag) j q1, .Call (.Name a p1) [] [] p2] k q2)) q3] (h₀ :: hds) [] [] q4] sg dV kV doc pm an cdv ct), osl⟩ ∧ PySem.W.codeIn K cdv x = true ∧
    L2.Binds K (PySem.W.fnOf x x pg [.Try [.Return (some (.Tuple [.Constant (.str tag) j q1, .Call (.Name a p1) [] [] p2] k q2)) q3] (h₀ :: hds) [] [] q4] sg dV kV doc pm an cdv ct) [a] [] ∧ FnScope Ng [a] sg ∧ Ng[0]? = some a ∧ Ng.length = n ∧ Vis sg a ∧ (a == ("__debug__" : Str)) = false ∧ (a == ("__classdict__" : Str)) = false ∧
    ∀ (A : Around) (outer : List Env) (s : Shared) (H : Hp), XCs (cxOf C8.CX0 P w K mg base Ng x sg g cdv A outer s H C8.E0).nox G (h₀ :: hds) cs ∧
      (∀ (pn : List (Addr × Obj)) (xe : Value → Shared → Prop), starEach [.Constant (.str tag) j q1, .Call (.Name a p1) [] [] p2] ((cxOf C8.CX0 P w K mg base Ng x sg g cdv A outer s H C8.E0).tr pn xe).env = (false, eval (.Constant (.str tag) j q1) ((cxOf C8.CX0 P w K mg base Ng x sg g cdv A outer s H C8.E0).tr pn xe).env) :: starEach [.Call (.Name a p1) [] [] p2] ((cxOf C8.CX0 P w K mg base Ng x sg g cdv A outer s H C8.E0).tr pn xe).env) ∧
      (∀ (pn : List (Addr × Obj)) (xe : Value → Shared → Prop), starEach [.Call (.Name a p1) [] [] p2] ((cxOf C8.CX0 P w K mg base Ng x sg g cdv A outer s H C8.E0).tr pn xe).env = (false, eval (.Call (.Name a p1) [] [] p2) ((cxOf C8.CX0 P w K mg base Ng x sg g cdv A outer s H C8.E0).tr pn xe).env) :: starEach [] ((cxOf C8.CX0 P w K mg base Ng x sg g cdv A outer s H C8.E0).tr pn xe).env)
section
variable {X : Cx} {G : Gx} {W : WX}
theorem x_lam {x tag : Str} {g c P : Addr} {k n : Nat} {cs : List Cl} {params : Arguments} {body : Expr} {scope : Scope} {ml : ME} {p lpos pos : Pos} (hK : X.K = G.K) (F : LamF X.prog X.w G X.K X.mg X.base x g n tag cs) (hg : Gl X x)
    (TB : TabB X.base X.mg c P) (hcode : X.env.code = .ref c) (hmT : (P, X.env.qual ++ "<lambda>") ∈ G.T) (hu : ∀ p ∈ G.T, p.1 = P → p.2 = X.env.qual ++ "<lambda>") (hr : Room (k + 2) X.A) (L : LamS X.env.scope scope) (hdef : defaultsOf params X.env = ([], []))
    (hbind : ∀ (q : Str) (cl : List (Str × Addr)) (pm cv ctv : Value), bindArgs (PySem.W.kla_fn "<lambda>" q params body scope cl pm cv ctv) ⟨[], []⟩ = pure [])
    (hbody : ∀ (A : Around) (outer : List Env) (s : Shared) (H : Hp) (E : XK) (f c' : Addr), Room k (A.deeper (lamEnv X scope s.heap.objs.size f c')) → XE (lamCx X A outer s H E scope f c') G (fun cls d _ H => E cls d H) body ml)
    (hdb : (x == ("__debug__" : Str)) = false := by decide) : XE X G W (.Call (.Name x p) [.Lambda params body scope lpos] [] pos) (mLam n tag cs ml) := by
  refine ⟨tEM G W (mLam n tag cs ml), ⟨fun pins s σ H Q I h => ?_⟩, em_canon⟩
  obtain ⟨ι, S, env, hr0, re0, q⟩ := h
  obtain ⟨Ng, a, pg, sg, h₀, hds, j, kk, p1, p2, q1, q2, q3, q4, dV, kV, doc, pm, cdv, ct, oc, an, od, osl, lk, hcg, hb, Sg, hNg, hNl, hva, hda, hca, hX⟩ := F.ex
  refine wpAny_Call_Name_kw (ld_glob I hg F.hm ?_ hdb)
  refine PySem.W.callWith_K (h₀ := X.base) I.ok.mod.kin F.hk ?_ (by rfl) (by rfl)
  show wpAny _ _ (spliced ((false, eval (.Lambda params body scope lpos) X.env) :: backTo pos (starEach [] X.env))) _ _ s
  refine Calls.spliced_cons (lam_make2 I TB hcode hmT hu hr0.tabs hdef (L.has I.ok) fun f c' pm' ctv H1 s' I1 eN T1 hf hfn hfr hco => ?_)
  refine Calls.spliced_nil ⟨I1.kIn, ?_⟩
  obtain ⟨t1, h1⟩ := tr_tabs hr0 eN T1
  have rc : codeAny (model X.prog X.w) X.A (.call (.ref g) ⟨[.ref f], []⟩) (CR C8.CX0 X.stack X.prog X.w H1 s' Q C8.E0) s' := by
    refine run_ofS (N := Ng) (ps := [a]) (us := [.ref f]) (vs := [.ref f]) lk hcg Sg hr I1.env0 (hb s' [.ref f] I1.kIn rfl) (.cons rfl .nil) rfl fun hr' => ?_
    obtain ⟨hC, hst, hst2⟩ := hX X.A X.stack s' H1
    obtain ⟨l, hl, rel⟩ := clauses_of (W := W0) (X := (cxOf C8.CX0 X.prog X.w X.K X.mg X.base Ng x sg g cdv X.A X.stack s' H1 C8.E0).nox) hK hC
    let tb : WX → TS := fun W' => tRet (tTup (tCons (tC (.str tag)) (tCons (fun σZ HZ Q => σZ[0]? = some (some (.ref f)) ∧ HZ c' = some (CodeO c' (X.env.qual ++ "<lambda>")) ∧ tEM G (fun cls d _ H => WE W' σZ cls d H) ml σ HZ Q) tNil)))
    have body_ok : PSs (cxOf C8.CX0 X.prog X.w X.K X.mg X.base Ng x sg g cdv X.A X.stack s' H1 C8.E0).nox [.Try [.Return (some (.Tuple [.Constant (.str tag) j q1, .Call (.Name a p1) [] [] p2] kk q2)) q3] (h₀ :: hds) [] [] q4] (fun D σ H => tb (wCC X.K W0 D l) D σ H) := by
      refine pss_one (ps_tryC (X := (cxOf C8.CX0 X.prog X.w X.K X.mg X.base Ng x sg g cdv X.A X.stack s' H1 C8.E0).nox) rfl rfl Sg.nd L2.takes0 (fun W' pn xe tk _ => ?_) hl)
      refine pss_one (ps_ret (pe_tup (pa_cons pe_str (pa_cons ?_ pa_nil (hst2 pn xe)) (hst pn xe))))
      exact pe_actM (CXg := C8.CX0) (Eg := C8.E0) (i := 0) I1 L hf hfn hfr (hbind _ _ _ _ _) tk hr' (fun A outer s2 H2 E hr2 => (hbody A outer s2 H2 E f c' hr2).canon) hNg hva hda hca
    refine ⟨_, body_ok.nox, ?_⟩
    have hs0 : (L2.start Ng [V.ref f])[0]? = some (some (V.ref f)) := by simp [L2.start]
    have hlen : (L2.start Ng [V.ref f]).length = n := by
      rw [← hNl]
      cases hNe : Ng with
      | nil => rw [hNe] at hNg; cases hNg
      | cons y ys => simp [L2.start]
    refine ⟨hs0, hco, ι, S, env, h1, re0.mono t1, ?_⟩
    have blank : ∀ {H' : Hp} {ι' : List Addr} {σ' : L2.St}, σ'.length = n → RE G.K H' ι' σ' (List.replicate n none) := fun {H' ι' σ'} e => ⟨by rw [List.length_replicate]; exact e, fun i d z => by
      rw [List.getElem?_replicate] at z
      split at z <;> cases z⟩
    unfold mLam at q
    cases em : ml env S with
    | stk => rw [em] at q; exact q.elim
    | ok d S1 =>
      rw [em] at q
      intro v H' ι' t2 h2 r2
      refine ⟨(by decide : 2 ≤ 16777216), fun p hp => ?_⟩
      refine gc_ok (d := .tup [.str tag, d]) hr0 ((t1.trans t2).trans (Tr.laid hp)) (h2.laid hp) (.tup (.inl (.inl upd_same)) (.cons (.str tag) (.cons (Rp.mono (Tr.laid hp) _ r2) .nil))) q
    | exc y S1 =>
      rw [em] at q
      intro cls dd H' ι' t2 h2 xr
      refine rel _ _ H' ι' S1 (List.replicate n none) y cls dd h2 (blank hlen) xr ?_
      have q' : (match pick cs y (List.replicate n none) S1 with
        | .rt d S2 => gc S.length d S2
        | .nx _ S2 => gc S.length .non S2
        | _ => .stk : Res D).wp (PostE G H ι Q) (PostX G H ι W σ) := q
      cases ep : pick cs y (List.replicate n none) S1 with
      | stk => rw [ep] at q'; exact q'.elim
      | bk _ _ => rw [ep] at q'; exact q'.elim
      | ct _ _ => rw [ep] at q'; exact q'.elim
      | ex _ _ _ => rw [ep] at q'; exact q'.elim
      | nx e2 S2 =>
        rw [ep] at q'
        intro σ' H2 ι2 t3 h3 _
        exact gc_ok (d := .non) hr0 ((t1.trans t2).trans t3) h3 .non q'
      | rt d S2 =>
        rw [ep] at q'
        intro v H2 ι2 t3 h3 r3
        exact gc_ok hr0 ((t1.trans t2).trans t3) h3 r3 q'
  refine wpAny_call (codeAny_mono rc fun r s2 hq => ?_)
  cases r with
  | error e => exact (show False from hq).elim
  | ok fl =>
    cases fl with
    | ret u => exact I1.after hq
    | next => exact False.elim hq
    | brk => exact False.elim hq
    | cont => exact False.elim hq
end
end FW

set_option Elab.async false
set_option linter.all false
set_option maxRecDepth 100000
set_option maxHeartbeats 4000000
/-! The M layer, 13: e.replace(y, z, 1) of written texts, among the items of a display. -/
namespace FW
open PySem PySem.Spec PyProof.Rows L2 CwR
/-- the first place alone -/
def repl1 (x y z : Str) : Str :=
  if ((Builtin.Str.occurrences x y 0 x.length 1).isEmpty || (y.length == 0 && z.length == 0)) = true then x else Builtin.Str.glued z (Builtin.Str.partsBetween x (Builtin.Str.occurrences x y 0 x.length 1) y.length)
theorem gives_repl1 (x y z : Str) (t u v r : Tok) (h0 : (u == 0 || v == 0) = false) (huv : (u == v) = false) (hyz : (y == z) = false) (hl : Builtin.Str.tooLong (x.length + (Builtin.Str.occurrences x y 0 x.length 1).length * z.length) = false) :
    Gives (Builtin.«str.replace» ⟨[.str x t, .str y u, .str z v, .int 1 r], []⟩) (if ((Builtin.Str.occurrences x y 0 x.length 1).isEmpty || (y.length == 0 && z.length == 0)) = true then .val (.str x t) else .str (Builtin.Str.glued z (Builtin.Str.partsBetween x (Builtin.Str.occurrences x y 0 x.length 1) y.length))) := by
  show Gives (if ((Builtin.Str.occurrences x y 0 x.length 1).isEmpty || (y.length == 0 && z.length == 0)) = true then (do rule "str.replace.nothing"; ret (.str x t)) else
    (do let same ← isSame (.str y u) (.str z v)
        if same = true then (do rule "str.replace.old-is-new"; ret (.str x t)) else
        if Builtin.Str.tooLong (x.length + (Builtin.Str.occurrences x y 0 x.length 1).length * z.length) = true then unsupported "str.replace:memory" else
        retStr (Builtin.Str.glued z (Builtin.Str.partsBetween x (Builtin.Str.occurrences x y 0 x.length 1) y.length)))) _
  cases hc : ((Builtin.Str.occurrences x y 0 x.length 1).isEmpty || (y.length == 0 && z.length == 0))
  · rw [isSame_str_other y z u v h0 huv hyz, hl]
    exact .of_eq rfl
  · exact .rule (.of_eq rfl)

/-! ### in plain lists, of one sign -/
def cutC (c : Nat) (l : List Nat) : List Nat × List Nat × List Nat := if c ∈ l then (l.takeWhile (· != c), [c], (l.dropWhile (· != c)).tail) else (l, [], [])
def stL (l : List Nat) : Str := ⟨l.toArray⟩
theorem split_at {c : Nat} : ∀ {l : List Nat}, c ∈ l → l = l.takeWhile (· != c) ++ c :: (l.dropWhile (· != c)).tail ∧ c ∉ l.takeWhile (· != c)
  | [], h => by cases h
  | x :: l, h => by
    by_cases e : x = c
    · subst e
      simp
    · have h' : c ∈ l := by
        rcases List.mem_cons.mp h with z | z
        · exact absurd z.symm e
        · exact z
      obtain ⟨h1, h2⟩ := split_at h'
      have e2 : (x != c) = true := by simpa using e
      rw [List.takeWhile_cons, List.dropWhile_cons, e2]
      simp only [if_true, List.cons_append, List.mem_cons, not_or]
      exact ⟨by rw [← h1], fun z => e z.symm, h2⟩
theorem part_cut (a : Str) (c : Nat) : Txt.partition a ⟨#[c]⟩ = (stL (cutC c a.cps.toList).1, stL (cutC c a.cps.toList).2.1, stL (cutC c a.cps.toList).2.2) := by
  have ey : (⟨#[c]⟩ : Str).cps.toList = c :: [] := rfl
  unfold cutC
  by_cases h : c ∈ a.cps.toList
  · rw [if_pos h]
    obtain ⟨h1, h2⟩ := split_at h
    have ea : a = stL (a.cps.toList.takeWhile (· != c)) ++ ⟨#[c]⟩ ++ stL (a.cps.toList.dropWhile (· != c)).tail := by
      apply Str.ext'
      apply Array.toList_inj.mp
      show a.cps.toList = ((_ ++ _ ++ _ : Array Nat)).toList
      simp only [stL, Array.toList_append]
      rw [List.append_assoc]
      exact h1
    rw [show Txt.partition a ⟨#[c]⟩ = Txt.partition (stL (a.cps.toList.takeWhile (· != c)) ++ ⟨#[c]⟩ ++ stL (a.cps.toList.dropWhile (· != c)).tail) ⟨#[c]⟩ from congrArg (fun z => Txt.partition z ⟨#[c]⟩) ea]
    exact TL.partition_app ey (by show c ∉ (a.cps.toList.takeWhile (· != c)).toArray.toList; simpa using h2)
  · rw [if_neg h]
    have := TL.partition_none (y := ⟨#[c]⟩) ey (a := a) h
    rw [this]
    rfl
def repC (c : Nat) (z x : Str) : Str := if c ∈ x.cps.toList then stL (x.cps.toList.takeWhile (· != c)) ++ z ++ stL (x.cps.toList.dropWhile (· != c)).tail else x
theorem repl1_cut (x z : Str) (c : Nat) : repl1 x ⟨#[c]⟩ z = repC c z x := by
  have hp := part_cut x c
  unfold repl1 repC
  have h1 := StrLaws.occ_length_le x ⟨#[c]⟩ 0 x.length 1
  unfold Txt.partition at hp
  cases e : Builtin.Str.occurrences x ⟨#[c]⟩ 0 x.length 1 with
  | nil =>
    rw [e] at hp
    dsimp only at hp
    have hm : c ∉ x.cps.toList := fun h => by
      unfold cutC at hp
      rw [if_pos h] at hp
      have := congrArg (fun q => q.2.1) hp
      have := congrArg (fun q : Str => q.cps.toList) this
      simp [stL, Str.empty] at this
    rw [if_neg hm]
    rfl
  | cons i r =>
    rw [e] at hp h1
    have hr : r = [] := by
      cases r with
      | nil => rfl
      | cons _ _ => simp at h1
    subst hr
    dsimp only at hp
    have hm : c ∈ x.cps.toList := by
      by_cases h : c ∈ x.cps.toList
      · exact h
      · unfold cutC at hp
        rw [if_neg h] at hp
        have := congrArg (fun q => q.2.1) hp
        have := congrArg (fun q : Str => q.cps.toList) this
        simp [stL] at this
    rw [if_pos hm]
    unfold cutC at hp
    rw [if_pos hm] at hp
    have k1 := congrArg (fun q => q.1) hp
    have k2 := congrArg (fun q => q.2.2) hp
    dsimp only at k1 k2
    rw [← k1, ← k2]
    rfl

/-! ### with a token out -/
def PAT (X : Cx) (es : List Expr) (t : TA) : Prop := ∀ (pos : Pos) (pins : List (Addr × Obj)) (s : Shared) (σ : L2.St) (H : Hp) (Q : List V → Hp → Prop), 1 ≤ s.toks → Inv X pins σ H s → t σ H Q → wpAny (model X.prog X.w) X.A (spliced (backTo pos (starEach es X.env))) (AP X pins σ Q) X.xe s
/-- it makes a token -/
def PEK (X : Cx) (e : Expr) (te : TE) : Prop := ∀ (pins : List (Addr × Obj)) (s : Shared) (σ : L2.St) (H : Hp) (Q : VK), Inv X pins σ H s → te σ H Q → wpAny (model X.prog X.w) X.A (eval e X.env) (fun v s' => 1 ≤ s'.toks ∧ EP X pins σ Q v s') X.xe s
def XEt (X : Cx) (G : Gx) (W : WX) (e : Expr) (m : ME) : Prop := ∃ te, PET X e te ∧ EM G W te m
def XEk (X : Cx) (G : Gx) (W : WX) (e : Expr) (m : ME) : Prop := ∃ te, PEK X e te ∧ EM G W te m
def XAt (X : Cx) (G : Gx) (W : WX) (es : List Expr) (m : MA) : Prop := ∃ ta, PAT X es ta ∧ AM G W ta m
section
variable {X : Cx} {G : Gx} {W : WX} {e o : Expr} {es : List Expr} {ma mb : ME} {mr : MA} {pos : Pos}
theorem am_cons {te : TE} {ta : TA} (ea : EM G W te ma) (er : AM G W ta mr) : AM G W (tCons te ta) (mCons ma mr) := fun σ H ι S env Q hr re h => by
  show te σ H fun x H1 => ta σ H1 fun xs H2 => Q (x :: xs) H2
  refine em_step ea hr re (fun _ _ z => z) h fun d S1 v H1 ι1 t1 h1 r1 k1 q1 => ?_
  refine am_step er h1 (re.mono t1) k1 q1 fun ds S2 vs H2 ι2 t2 h2 r2 k2 q2 => ?_
  exact (show PostA G H ι Q (d :: ds) S2 from q2) (v :: vs) H2 ι2 (t1.trans t2) h2 (.cons (Rp.mono t2 _ r1) r2)
theorem xt_of (h : XE X G W e ma) : XEt X G W e ma := let ⟨te, p, m⟩ := h; ⟨te, PET.of p, m⟩
theorem at_nil : XAt X G W [] mNil := let ⟨ta, p, m⟩ := (a_nil : XA X G W [] mNil); ⟨ta, fun pos pins s σ H Q _ I q => p.run pos pins s σ H Q I q, m⟩
theorem at_cons (ha : XEt X G W e ma) (hr : XAt X G W es mr) (hs : starEach (e :: es) X.env = (false, eval e X.env) :: starEach es X.env := by rfl) : XAt X G W (e :: es) (mCons ma mr) := by
  obtain ⟨te, p, m⟩ := ha
  obtain ⟨ta, p2, m2⟩ := hr
  refine ⟨tCons te ta, fun pos pins s σ H Q h0 I q => ?_, am_cons m m2⟩
  rw [hs]
  refine Calls.spliced_cons (wpAny_mono (PySem.wpAny_toks_of h0 (p pins s σ H _ h0 I q)) (fun v s1 z => ?_) fun _ _ z => z.2)
  obtain ⟨h1, x, H1, I1, r1, q1⟩ := z
  exact thn (p2 pos pins s1 σ H1 _ h1 I1 q1) fun us s2 ⟨xs, H2, I2, r2, q2⟩ => ⟨x :: xs, H2, I2, .cons r1 r2, q2⟩
theorem a_consK (ha : XEk X G W e ma) (hr : XAt X G W es mr) (hs : starEach (e :: es) X.env = (false, eval e X.env) :: starEach es X.env := by rfl) : XA X G W (e :: es) (mCons ma mr) := by
  obtain ⟨te, p, m⟩ := ha
  obtain ⟨ta, p2, m2⟩ := hr
  refine ⟨tCons te ta, ⟨fun pos pins s σ H Q I q => ?_⟩, am_cons m m2⟩
  rw [hs]
  refine Calls.spliced_cons (wpAny_mono (p pins s σ H _ I q) (fun v s1 z => ?_) fun _ _ z => z)
  obtain ⟨h1, x, H1, I1, r1, q1⟩ := z
  exact thn (p2 pos pins s1 σ H1 _ h1 I1 q1) fun us s2 ⟨xs, H2, I2, r2, q2⟩ => ⟨x :: xs, H2, I2, .cons r1 r2, q2⟩
/-- e op 'text' -/
theorem xk_bin {op : Operator} {f : D → D → SS → Res D} {y : Str} {j : Nat} {p : Pos} (h : X2 X G (binaryOp op) f) (ha : XE X G W e ma) : XEk X G W (.BinOp e op (.Constant (.str y) j p) pos) (mOp2 f ma (mC (.str y))) := by
  obtain ⟨r, ho, hf⟩ := h
  obtain ⟨ta, pa, ea⟩ := ha
  refine ⟨tOp r ta (tC (.str y)), fun pins s σ H Q I q => ?_, fun σ H ι S env Q hr re h => ?_⟩
  · refine wpAny_BinOp (thn (pa.run pins s σ H _ I q) fun v s1 ⟨x, H1, I1, r1, q1⟩ => ?_)
    refine Calls.Constant_str ?_
    exact PySem.wpAny_toks_of (n := 1) (by show 1 ≤ s1.toks + 1; omega) (ho pins _ σ H1 x (.str y) v _ Q (I1.tok _) r1 ⟨_, rfl⟩ q1) |> fun z => wpAny_mono z (fun _ _ z => z) fun _ _ z => z.2
  · show ta σ H fun x H1 => r x (.str y) H1 Q
    refine em_step ea hr re (fun _ _ z => z) h fun d S1 v H1 ι1 t1 h1 r1 k1 q1 => ?_
    exact hf h1 r1 (.str y) (wpE_to t1 q1 k1)
/-- e.replace('y', 'z', 1), y one sign -/
def mRep1 (c : Nat) (z : Str) (m : ME) : ME := fun env S => (m env S).bind fun d S1 => match d with
  | .str x => if x.length ≤ 100000 then .ok (.str (repC c z x)) S1 else .stk
  | _ => .stk
theorem xt_rep1 {c : Nat} {z : Str} {j k l : Nat} {c0 c1 c2 apos : Pos} (ho : XE X G W o ma) (hz : z.length ≤ 10) (hyz : ((⟨#[c]⟩ : Str) == z) = false)
    (hst : starEach [.Constant (.str ⟨#[c]⟩) j c0, .Constant (.str z) k c1, .Constant (.int 1) l c2] X.env = [(false, eval (.Constant (.str ⟨#[c]⟩) j c0) X.env), (false, eval (.Constant (.str z) k c1) X.env), (false, eval (.Constant (.int 1) l c2) X.env)] := by rfl)
    (hbase : attributeBase o "replace" X.env (eval o X.env) = eval o X.env := by rfl) (hline : (apos.endLine == pos.line) = true := by rfl) :
    XEt X G W (.Call (.Attribute o "replace" apos) [.Constant (.str ⟨#[c]⟩) j c0, .Constant (.str z) k c1, .Constant (.int 1) l c2] [] pos) (mRep1 c z ma) := by
  obtain ⟨to, po, eo⟩ := ho
  refine ⟨fun σ H Q => to σ H fun v H1 => ∃ x, v = .str x ∧ x.length ≤ 100000 ∧ Q (.str (repC c z x)) H1, fun pins s σ H Q h0 I h => ?_, fun σ H ι S env Q hr re h => ?_⟩
  · refine wpAny_Call_method_lateS hbase (by rw [hst]; rfl) hline ?_
    rw [hst]
    refine wpAny_mono (PySem.wpAny_toks_of h0 (po.run pins s σ H _ I h)) (fun v s1 q => ?_) fun _ _ z => z.2
    obtain ⟨h1, v', H1, I1, r1, x, e1, hx, q⟩ := q
    subst e1
    obtain ⟨tx, rfl⟩ := r1
    refine ⟨"str", _, PySem.F.plainAttrs_str, PySem.F.slot_str_replace, PySem.F.type_str_replace, typeIs_str _ _ _, (fun _ e => nomatch e), Calls.callWith_builtin rfl (Calls.evalArgs_plain (Calls.spliced_cons ?_))⟩
    refine Calls.Constant_str (k := j) (pos := c0) (Calls.spliced_cons (Calls.Constant_str (k := k) (pos := c1) (Calls.spliced_cons (wpAny_Constant_int (k := l) (pos := c2) (Calls.spliced_nil ?_)))))
    have hl1 := StrLaws.occ_length_le x ⟨#[c]⟩ 0 x.length 1
    have hm : (Builtin.Str.occurrences x ⟨#[c]⟩ 0 x.length 1).length * z.length ≤ 1 * 10 := Nat.mul_le_mul hl1 hz
    have hs : sizeLine = 16777216 := sizeLine_eq
    have hsz : (repC c z x).length ≤ sizeLine := by
      unfold repC
      split
      · rename_i hc
        rw [Str.length_append, Str.length_append]
        have e1 : (stL (x.cps.toList.takeWhile (· != c))).length ≤ x.length := by
          show ((x.cps.toList.takeWhile (· != c)).toArray).size ≤ x.cps.size
          rw [List.size_toArray]
          exact Nat.le_trans (List.takeWhile_sublist _).length_le (by simp)
        have e2 : (stL (x.cps.toList.dropWhile (· != c)).tail).length ≤ x.length := by
          show ((x.cps.toList.dropWhile (· != c)).tail.toArray).size ≤ x.cps.size
          rw [List.size_toArray]
          exact Nat.le_trans ((List.tail_sublist _).length_le) (Nat.le_trans (List.dropWhile_sublist _).length_le (by simp))
        omega
      · omega
    refine call_gives F.slot_str_replace (typeIs_str _ _ _) F.entry_str_replace (F.args_str_replace_4 _ _ _ _) (gives_repl1 x ⟨#[c]⟩ z tx _ _ _ ?_ ?_ hyz ?_) ?_
    · have a1 : ¬ s1.toks = 0 := by omega
      have a2 : ¬ s1.toks + 1 = 0 := by omega
      simp [a1, a2]
    · have a1 : ¬ s1.toks = s1.toks + 1 := by omega
      simp [a1]
    · exact decide_eq_false (by omega)
    · have er := repl1_cut x z c
      unfold repl1 at er
      split
      · rename_i hc
        rw [if_pos hc] at er
        rw [← er] at q
        exact ⟨.str x, H1, I1.tok _, ⟨_, rfl⟩, q⟩
      · rename_i hc
        rw [if_neg hc] at er
        rw [← er] at q hsz
        exact ⟨hsz, .str _, H1, I1.tok _, ⟨_, rfl⟩, q⟩
  · refine em_step eo hr re (fun _ _ z => z) h fun d S1 v H1 ι1 t1 h1 r1 k1 q1 => ?_
    cases r1 with
    | str x =>
      have q2 : (if x.length ≤ 100000 then .ok (.str (repC c z x)) S1 else .stk : Res D).wp (PostE G H ι Q) _ := q1
      by_cases hx : x.length ≤ 100000
      · rw [if_pos hx] at q2
        exact ⟨x, rfl, hx, (show PostE G H ι Q _ S1 from q2) _ H1 ι1 t1 h1 (.str _)⟩
      · rw [if_neg hx] at q2
        exact q2.elim
    | non => exact (show False from q1).elim
    | bl _ => exact (show False from q1).elim
    | int _ => exact (show False from q1).elim
    | tup _ _ => exact (show False from q1).elim
    | obj _ => exact (show False from q1).elim
    | fz _ _ => exact (show False from q1).elim
end
end FW

set_option Elab.async false
set_option linter.all false
set_option maxRecDepth 100000
set_option maxHeartbeats 4000000
/-! The M layer, 14: repr of data, defs that know that nothing is being shown around them, the law's end. -/
namespace FW
open PySem PySem.Spec PyProof.Rows L2 LamX

/-! ### repr -/
section
variable {X : Cx} {G : Gx} {W : WX}
def rReprD (K : PySem.W.Frag) : List V → Hp → VK → Prop := fun xs H Q => ∃ (a : Addr) (p : PyData), xs = [V.ref a] ∧ Dp K H (V.ref a) p ∧ p.showable = true ∧ p.hasDict = false ∧ p.depth ≤ 60 ∧ p.shown.length ≤ 1000000 ∧ Q (.str p.shown) H
theorem cr_reprD (hg : X.A.guards = some []) (hu : X.A.units + 64 < cLine) : CallR X (.builtin "repr") (rReprD X.K) := by
  intro pins s σ H xs us Q I rv h
  obtain ⟨a, p, rfl, hp, h1, h2, h3, h4, q⟩ := h
  rw [Vals.ref1 rv]
  obtain ⟨as, r⟩ := Dp.reads I p _ _ hp rfl
  refine repr_of_reads' r h1 (fun e => by rw [h2] at e; cases e) hg (by omega) (fun _ _ e => e) (fun h' u tk hk => ⟨.str p.shown, H, I.kept hk, ⟨u, rfl⟩, q⟩) (small_line h4)
def isSeqD : D → Bool
  | .tup _ => true
  | .fz _ => true
  | .obj _ => true
  | _ => false
def dReprD (ds : List D) (S : SS) : Res D := match ds with
  | [d] => if isSeqD d = true then (match pd 66 S d with
    | some p => if p.showable = true ∧ p.hasDict = false ∧ p.depth ≤ 60 ∧ p.shown.length ≤ 1000000 then .ok (.str p.shown) S else .stk
    | none => .stk) else .stk
  | _ => .stk
theorem xc_repr (hK : X.K = G.K) (hg : X.A.guards = some []) (hu : X.A.units + 64 < cLine) : XC X G (.builtin "repr") dReprD := by
  refine ⟨_, cr_reprD hg hu, ?_⟩
  rw [hK]
  intro H ι S xs ds Q E hr r h
  unfold dReprD at h
  split at h
  · rename_i d
    by_cases c : isSeqD d = true
    · rw [if_pos c] at h
      cases ep : pd 66 S d with
      | none => rw [ep] at h; exact h.elim
      | some p =>
        rw [ep] at h
        dsimp only at h
        by_cases c2 : p.showable = true ∧ p.hasDict = false ∧ p.depth ≤ 60 ∧ p.shown.length ≤ 1000000
        · rw [if_pos c2] at h
          obtain ⟨v, rfl, r1⟩ := rpa1 r
          have hd := pd_ok hr 66 d v p r1 ep
          obtain ⟨a, rfl⟩ : ∃ a, v = .ref a := by
            cases r1 with
            | tup _ _ => exact ⟨_, rfl⟩
            | fz _ _ => exact ⟨_, rfl⟩
            | obj _ => exact ⟨_, rfl⟩
            | _ => cases c
          exact ⟨a, p, rfl, hd, c2.1, c2.2.1, c2.2.2.1, c2.2.2.2, now hr (.str _) h⟩
        · rw [if_neg c2] at h
          exact h.elim
    · rw [if_neg c] at h
      exact h.elim
  · exact h.elim
end

/-! ### a def's promise where nothing is being shown -/
structure FnG (P : Program) (w : World) (K : PySem.W.Frag) (mg : Str → Option Value) (base : Heap) (k : Nat) (f : Addr) (fd : FuncData) (ps : List Str) (sp : Sp) : Prop where
  len : ∀ vs H Q E, sp vs H Q E → vs.length = ps.length
  run : ∀ (A : Around) (outer : List Env) (s : Shared) (H : Hp) (args : Args) (us : List Value) (vs : List V) (Q : VK) (E : XK), Room k A → A.guards = some [] → Env0 P w K mg base A outer s H → BindsTo s fd args (ps.zip us) → Vals vs us → sp vs H Q E →
    codeAny (model P w) A (.call (.ref f) args) (CR (L2.CX P w) outer P w H s Q E) s
theorem FnG.of {P : Program} {w : World} {K : PySem.W.Frag} {mg : Str → Option Value} {base : Heap} {k : Nat} {f : Addr} {fd : FuncData} {ps : List Str} {sp : Sp} (F : FnOk P w K mg base (L2.CX P w) k f fd ps sp) : FnG P w K mg base k f fd ps sp :=
  ⟨F.len, fun A outer s H args us vs Q E hr _ => F.run A outer s H args us vs Q E hr⟩
section
variable {X : Cx} {G : Gx} {W : WX} {a b c e o : Expr} {es : List Expr} {pos p : Pos} {mr : MA}
theorem x_callG {k j : Nat} {f : Addr} {fd : FuncData} {ps : List Str} {x : Str} {n : Nat} {m : List D → SS → Res D} (F : FnG X.prog X.w X.K X.mg X.base k f fd ps (spOf G n m)) (hr : Room j X.A) (hkj : k ≤ j) (hgd : X.A.guards = some []) (tk : Takes X W)
    (hg : Gl X x) (hm : X.mg x = some (.ref f)) (hk : PySem.W.keepIn X.K (.ref f) = true) (hb : L2.Binds X.K fd ps [])
    (ha : XA X G W (e :: es) mr) (hdb : (x == ("__debug__" : Str)) = false := by decide) (he : starEach (e :: es) X.env = (false, eval e X.env) :: starEach es X.env := by rfl) (hpl : (backTo pos (starEach es X.env)).any (·.1) = false := by rfl) :
    XE X G W (.Call (.Name x p) (e :: es) [] pos) (mCall n m mr) := by
  obtain ⟨ta, pa, ea⟩ := ha
  refine ⟨fun σ H Q => ta σ H fun vs H1 => spOf G n m vs H1 Q (WE W σ), ⟨fun pins s σ H Q I h => ?_⟩, fun σ H ι S env Q hr re h => ?_⟩
  · refine wpAny_Call_Name_kw (ld_glob I hg hm ?_ hdb)
    refine PySem.W.callWith_K (h₀ := X.base) I.ok.mod.kin hk (thn (pa.run pos pins s σ H _ I h) fun us s1 ⟨vs, H1, I1, r, q⟩ => ⟨I1.kIn, ?_⟩) he hpl
    have hl : us.length = ps.length := by rw [← r.length]; exact F.len _ _ _ _ q
    have bind := hb s1 us I1.kIn (by rw [List.append_nil]; exact hl)
    rw [List.append_nil] at bind
    refine wpAny_call (codeAny_mono (F.run X.A X.stack s1 H1 ⟨us, []⟩ us vs Q (WE W σ) (hr.mono hkj) hgd I1.env0 bind r q) fun r s' hq => ?_)
    cases r with
    | error e => exact passAt tk σ pins _ s1 e s' I1 hq
    | ok fl =>
      cases fl with
      | ret u => exact I1.after hq
      | next => exact False.elim hq
      | brk => exact False.elim hq
      | cont => exact False.elim hq
  · show ta σ H fun vs H1 => spOf G n m vs H1 Q (WE W σ)
    refine am_step ea hr re (fun _ _ z => z) h fun ds S1 vs H1 ι1 t1 h1 r1 k1 q1 => ?_
    by_cases hl : ds.length = n
    · rw [if_pos hl] at q1
      exact ⟨by rw [r1.length]; exact hl, ι1, S1, ds, h1, r1, wpE_to t1 q1 k1⟩
    · rw [if_neg hl] at q1
      exact q1.elim
end
theorem fn_okG {P : Program} {w : World} {mg : Str → Option Value} {base : Heap} {G : Gx} {x qual : Str} {st : Stmt} {f : Addr} {fd : FuncData} {N ps : List Str} {k : Nat} {m : MS} (F : Fun G.K x qual st f fd) (S : FnScope N ps (defScope st)) {n : Nat} (hn : ps.length = n)
    (h : ∀ (cdv : Value) (A : Around) (outer : List Env) (s : Shared) (H : Hp) (E : XK), fd.code = cdv → Room k (A.deeper (PyProof.Rows.envOfC qual (defScope st) s.heap.objs.size f cdv)) → A.guards = some [] →
      XSs (cxOf (L2.CX P w) P w G.K mg base N qual (defScope st) f cdv A outer s H E) G (fun cls d _ H => E cls d H) (defBody st) m) :
    FnG P w G.K mg base (k + 1) f fd ps (spOf G n (mFn n N.length m)) := by
  obtain ⟨oc, od, kV, doc, pm, an, cdv, ct, osl, rfl, lk, hcd⟩ := F.ex
  refine ⟨fun vs H Q E q => by rw [hn]; exact q.1, fun A outer s H args us vs Q E hr hgd e0 hb rv q => ?_⟩
  obtain ⟨hl, ι, SS', ds, h0, r, q⟩ := q
  refine run_ofS lk hcd S hr e0 hb rv (by rw [hn]; exact hl) fun hr' => ?_
  obtain ⟨t, p, sm⟩ := h cdv A outer s H E rfl hr' hgd
  refine ⟨t, p, ?_⟩
  have hd : ds.length = n := by rw [← r.length]; exact hl
  unfold mFn at q
  rw [if_pos hd] at q
  refine sm (L2.start N vs) H ι SS' (ds.map some ++ List.replicate (N.length - ds.length) none) _ h0 (RE_start r) ?_
  cases e : m (ds.map some ++ List.replicate (N.length - ds.length) none) SS' with
  | nx e1 S1 => rw [e] at q; exact fun σ' H' ι' t1 h1 re1 => gc_ok h0 t1 h1 .non q
  | rt d S1 => rw [e] at q; exact fun v H' ι' t1 h1 r1 => gc_ok h0 t1 h1 r1 q
  | bk e1 S1 => rw [e] at q; exact q.elim
  | ct e1 S1 => rw [e] at q; exact q.elim
  | ex y e1 S1 => rw [e] at q; exact fun cls dd σ' H' ι' t1 h1 re1 xr => gcX_ok h0 t1 h1 xr q
  | stk => rw [e] at q; exact q.elim
end FW

set_option Elab.async false
set_option linter.all false
set_option maxRecDepth 100000
set_option maxHeartbeats 4000000
/-! The M layer, 15: the law's end, with tables of code objects, where nothing is being shown. -/
namespace FW
open PySem PySem.Spec PyProof.Rows L2 LamX

/-- what is tracked when the law begins: the tables, the script -/
def startHp (K : PySem.W.Frag) (ts : List Addr) (a : Addr) (ob : Obj) (ns : List Int) : Hp := fun b => if b ∈ ts then some (.tbl #[]) else if b = a ∧ (K.lookup a).isNone = true then some (.frz ob (.lst (ns.map V.int))) else none
theorem startHp_tab {K : PySem.W.Frag} {ts : List Addr} {a : Addr} {ob : Obj} {ns : List Int} {b : Addr} (h : b ∈ ts) : startHp K ts a ob ns b = some (.tbl #[]) := if_pos h
theorem startHp_some {K : PySem.W.Frag} {ts : List Addr} {a : Addr} {ob : Obj} {ns : List Int} {b : Addr} {u : HO} (h : startHp K ts a ob ns b = some u) : (b ∈ ts ∧ u = .tbl #[]) ∨ (b = a ∧ K.lookup a = none ∧ u = .frz ob (.lst (ns.map V.int))) := by
  unfold startHp at h
  by_cases h1 : b ∈ ts
  · rw [if_pos h1] at h
    exact .inl ⟨h1, (Option.some.inj h).symm⟩
  · rw [if_neg h1] at h
    by_cases h2 : b = a ∧ (K.lookup a).isNone = true
    · rw [if_pos h2] at h
      exact .inr ⟨h2.1, by simpa using h2.2, (Option.some.inj h).symm⟩
    · rw [if_neg h2] at h
      cases h
section
variable {P : Program} {w : World} {K : PySem.W.Frag} {mg mb : Str → Option Value} {k : Nat} {fa a : Addr} {cs : List (Addr × Addr)} {fd : FuncData} {x : Str} {sp : Sp} {s₁ : Shared} {vs : List Value} {ns : List Int}
theorem law_callG (KX : K.In s₁.heap) (hns : s₁.heap.Ns mainGlobals mg) (hb : s₁.heap.Ns builtinsNs mb) (hbb : ∀ x : Str, x ≠ "__name__" → mb x = bootBuiltins x) (hlim : s₁.heap.NoLimit) (hg : s₁.gens = #[])
    (hT : ∀ p ∈ cs, s₁.heap.get? p.2 = some { cls := .none, data := .fields #[] }) (nT : ∀ p ∈ cs, K.lookup p.2 = none) (C : ∀ p ∈ cs, PySem.W.CodeHd s₁.heap p.1 p.2)
    (hbm : ∃ (bm : Addr) (ob : Obj), mg "__builtins__" = some (.ref bm) ∧ bm ≠ builtinsNs ∧ s₁.heap.get? bm = some ob ∧ ob.cls = .type "module" ∧ ob.dict = some builtinsNs ∧ ob.data = .plain)
    (ha : s₁.heap.get? a = some { cls := .type "list", data := .seq vs.toArray }) (hi : IntsAre vs ns) (hl : ns.length ≤ sizeLine) (hr : Room k callerA)
    (F : ∀ base : Heap, K.In base → base.Ns mainGlobals mg → (∀ p ∈ cs, TabB base mg p.1 p.2) → FnG P w K mg base k fa fd [x] sp) (hbind : ∀ (s : Shared) (u : Value), BindsTo s fd ⟨[u], []⟩ [(x, u)])
    (hsp : ∀ H : Hp, (∀ p ∈ cs, H p.2 = some (.tbl #[])) → Pz K H a (ns.map V.int) → sp [.ref a] H (fun v _ => v = .bl true) fun _ _ _ => False) :
    codeAny (model P w) callerA (.call (.ref fa) ⟨[.ref a], []⟩) (fun r s' => r = .ok (.ret (.bool true)) ∧ OldK s₁.heap s'.heap ∧ s'.os = s₁.os ∧ AllBare s'.gens) s₁ := by
  have rv := vals_ints hi
  obtain ⟨ts, ets⟩ : ∃ ts, ts = cs.map (·.2) := ⟨_, rfl⟩
  obtain ⟨ob, eob⟩ : ∃ ob : Obj, ob = { cls := .type "list", data := .seq vs.toArray } := ⟨_, rfl⟩
  have tabAt : ∀ b ∈ ts, s₁.heap.get? b = some { cls := .none, data := .fields #[] } ∧ K.lookup b = none := fun b hm => by
    rw [ets] at hm
    obtain ⟨p, hp, rfl⟩ := List.mem_map.mp hm
    exact ⟨hT p hp, nT p hp⟩
  have aOut : a ∉ ts := fun z => by
    have q := (tabAt a z).1
    rw [ha] at q
    have := congrArg Obj.data (Option.some.inj q)
    cases this
  obtain ⟨H, eH⟩ : ∃ H, H = startHp K ts a ob ns := ⟨_, rfl⟩
  have H1 : ∀ p ∈ cs, H p.2 = some (.tbl #[]) := fun p hp => by
    rw [eH]
    exact startHp_tab (by rw [ets]; exact List.mem_map.mpr ⟨p, hp, rfl⟩)
  have H2 : ∀ b u, H b = some u → (b ∈ ts ∧ u = .tbl #[]) ∨ (b = a ∧ K.lookup a = none ∧ u = .frz ob (.lst (ns.map V.int))) := fun b u e => startHp_some (by rw [← eH]; exact e)
  have hok : HOk P w H s₁.heap := fun b u e => by
    rcases H2 b u e with ⟨h1, rfl⟩ | ⟨rfl, _, rfl⟩
    · exact (tabAt b h1).1
    · rw [eob]
      exact ⟨ha, by rw [List.length_map]; exact hl, vs, _, rv, ha⟩
  -- what is no list and no table is not tracked
  have free : ∀ {b : Addr} {o : Obj}, s₁.heap.get? b = some o → (∀ us n, o.data ≠ .seq us n) → o.data ≠ .fields #[] → H b = none := fun {b o} e n1 n2 => by
    cases q : H b with
    | none => rfl
    | some u =>
      rcases H2 b u q with ⟨h1, _⟩ | ⟨rfl, _, _⟩
      · rw [(tabAt b h1).1] at e
        cases e
        exact (n2 rfl).elim
      · rw [ha] at e
        cases e
        exact (n1 _ _ rfl).elim
  have under : ∀ {b : Addr} {o : Obj}, s₁.heap.get? b = some o → H b = none → (hidT s₁.heap H).get? b = some o := fun e n => hidT_get e n
  have nsU : ∀ {b : Addr} {m : Str → Option Value}, s₁.heap.Ns b m → (hidT s₁.heap H).Ns b m := fun {b m} ⟨o, es, ep, e, d, r⟩ =>
    ⟨o, es, ep, under e (free e (fun _ _ z => by rw [d] at z; cases z) fun z => by rw [d] at z; cases z), d, r⟩
  have kU : K.In (hidT s₁.heap H) := fun b o e => under (KX b o e) (by
    cases q : H b with
    | none => rfl
    | some u =>
      rcases H2 b u q with ⟨h1, _⟩ | ⟨rfl, h2, _⟩
      · rw [(tabAt b h1).2] at e
        cases e
      · rw [h2] at e
        cases e)
  have mU : L2.Mod K mg (hidT s₁.heap H) := ⟨kU, nsU hns, ⟨mb, nsU hb, hbb⟩, let ⟨mc, h1, h2⟩ := hlim; ⟨mc, nsU h1, h2⟩⟩
  have tU : ∀ p ∈ cs, TabB (hidT s₁.heap H) mg p.1 p.2 := fun p hp => by
    refine ⟨?_, ?_, fun z => ?_⟩
    · obtain ⟨o, us, file, tf, flags, tg, inF, text, tt, e1, r1, r2, r3, r⟩ := C p hp
      refine ⟨o, us, file, tf, flags, tg, inF, text, tt, under e1 (free e1 (fun _ _ z => by rw [r2] at z; cases z) fun z => ?_), r1, r2, r3, r⟩
      rw [r2] at z
      cases z
      simp at r3
    · obtain ⟨bm, o, b1, b2, b3, b4, b5, b6⟩ := hbm
      refine ⟨bm, o, b1, b2, fun q => ?_, fun q => ?_, under b3 (free b3 (fun _ _ z => by rw [b6] at z; cases z) fun z => by rw [b6] at z; cases z), b4, b5, b6⟩
      · obtain ⟨o', es, ep, e, d, _⟩ := hns
        rw [q, e] at b3
        cases b3
        rw [d] at b6
        cases b6
      · rw [q, hT p hp] at b3
        cases b3
        cases b6
    · obtain ⟨o', es, ep, e, d, _⟩ := hns
      rw [z, hT p hp] at e
      cases e
      cases d
  have e0 : Env0 P w K mg (hidT s₁.heap H) callerA [] s₁ H := ⟨rfl, mU, fun b o e => of_hidT e, Nat.le_of_eq (hidT_size _ _), trivial, fun b hb => absurd (show b ∈ ([] : List Addr) from hb) (by simp), hok, .of_eq hg⟩
  have script : Pz K H a (ns.map V.int) := by
    cases hk : K.lookup a with
    | none =>
      refine .inl ⟨ob, ?_⟩
      rw [eH]
      unfold startHp
      rw [if_neg aOut, if_pos ⟨rfl, by rw [hk]; rfl⟩]
    | some o =>
      have e := KX a o hk
      rw [ha] at e
      cases e
      exact .inr ⟨_, vs.toArray, _, hk, rfl, rfl, rfl, by rw [List.size_toArray, hi.length]; exact hl, by simpa using rv⟩
  refine codeAny_mono ((F _ kU (nsU hns) tU).run callerA [] s₁ H ⟨[.ref a], []⟩ [.ref a] [.ref a] _ _ hr rfl e0 (hbind s₁ (.ref a)) (.cons rfl .nil) (hsp H H1 script)) fun r s' h => ?_
  cases r with
  | error e =>
    obtain ⟨_, _, _, _, _, _, _, _, _, _, _, _, z⟩ := (show L2.CX P w [] H s₁ (fun _ _ _ => False) e s' from h)
    exact z.elim
  | ok fl =>
    cases fl with
    | next => exact False.elim h
    | brk => exact False.elim h
    | cont => exact False.elim h
    | ret u =>
      obtain ⟨v, H', os, bare, un, hok', r', q⟩ := h
      obtain rfl : v = .bl true := q
      obtain rfl : u = Value.bool true := r'
      have old : ∀ b o, b ∉ ts → s₁.heap.get? b = some o → s'.heap.get? b = some o := fun b o nb e => by
        cases q : H b with
        | none => exact un.keep b o e q (fun z => absurd (show b ∈ ([] : List Addr) from z) (by simp)) (by simp)
        | some u =>
          rcases H2 b u q with ⟨z, _⟩ | ⟨_, _, rfl⟩
          · exact absurd z nb
          · obtain ⟨e1, _⟩ := hok b _ q
            obtain ⟨e2, _⟩ := hok' b _ (un.frzs b ob _ q)
            rw [e] at e1
            cases e1
            exact e2
      have more : ∀ p ∈ cs, ∃ xs : Array Value, s'.heap.get? p.2 = some { cls := .none, data := .fields xs } := fun p hp => by
        obtain ⟨xs, z⟩ := un.tbls p.2 #[] (H1 p hp)
        exact ⟨_, hok' p.2 _ z⟩
      refine ⟨rfl, ⟨fun b o e => ?_, fun b o e => ?_⟩, os, bare⟩
      · by_cases hb : b ∈ ts
        · rw [ets] at hb
          obtain ⟨p, hp, rfl⟩ := List.mem_map.mp hb
          obtain ⟨xs, hm⟩ := more p hp
          rw [hT p hp] at e
          cases e
          exact .inr (.inl ⟨((C p hp).tab (hT p hp)).isCodeTable, rfl, #[], xs, rfl, by rw [Array.empty_append]; exact hm⟩)
        · exact .inl (old b o hb e)
      · by_cases hb : b ∈ ts
        · rw [ets] at hb
          obtain ⟨p, hp, rfl⟩ := List.mem_map.mp hb
          obtain ⟨xs, hm⟩ := more p hp
          exact ⟨_, hm⟩
        · exact ⟨o, old b o hb e⟩
end
/-- what is known of the law's promise at the head's heap h -/
def LawG (l : PySem.W.OpenLaw) (w : World) (K : PySem.W.Frag) (k n : Nat) (x : Str) (mg : Str → Option Value) (fa : Addr) (h : Heap) : Prop :=
  ∃ (fd : FuncData) (cs : List (Addr × Addr)) (sp : Sp), (∀ p ∈ cs, h.get? p.2 = some { cls := .none, data := .fields #[] }) ∧ (∀ p ∈ cs, K.lookup p.2 = none) ∧ (∀ p ∈ cs, PySem.W.CodeHd h p.1 p.2) ∧ (∀ (s : Shared) (u : Value), BindsTo s fd ⟨[u], []⟩ [(x, u)]) ∧
    (∀ (H : Hp) (a : Addr) (ns : List Int), ns.length ≤ n → (∀ z ∈ ns, Builtin.Int.intBits z ≤ 1048576) → (∀ p ∈ cs, H p.2 = some (.tbl #[])) → Pz K H a (ns.map V.int) → sp [.ref a] H (fun v _ => v = .bl true) fun _ _ _ => False) ∧
    ∀ base : Heap, K.In base → base.Ns mainGlobals mg → (∀ p ∈ cs, TabB base mg p.1 p.2) → FnG l.prog w K mg base k fa fd [x] sp
theorem walk_ofG {l : PySem.W.OpenLaw} {n k : Nat} {q : Program} {loose : List Str} {XP : (Str → Option Value) → Heap → Prop} {YP : World → Heap → Prop} {d : DefRec} {K : Params → PySem.W.Frag} {x : Str} (hn : l.most = some n) (hn2 : n ≤ sizeLine) (hdf : d.params.defaults = []) (hr : Room k callerA)
    (hY : ∀ (w : World) (h : Heap), YP w h → (K w.params).In h)
    (F : ∀ (w : World) (mg : Str → Option Value) (fa : Addr) (h : Heap), YP w h → (K w.params).In h → h.Ns mainGlobals mg → mg d.name = some (.ref fa) → LawG l w (K w.params) k n x mg fa h) :
    PySem.W.WalkO q loose XP YP l.row.toRowW d [] (fun f vs => PySem.call f vs) := by
  refine Att.attach_callB hn hdf fun w s₀ s₁ mg mb fa o pm cd doc a vs ns Gr Y _ _ _ hmg hobj hints hlen hbits hg => ?_
  have KX := hY w _ Y
  obtain ⟨fd, cs, sp, hT, nT, C, hb, hsp, hF⟩ := F w mg fa _ Y KX Gr.T.g hmg
  exact law_callG KX Gr.T.g Gr.T.b Gr.T.builtins Gr.T.nolimit hg hT nT C Gr.T.bmain hobj hints (Nat.le_trans hlen hn2) hr hF hb fun H hH hS => hsp H a ns hlen hbits hH hS
end FW

set_option Elab.async false
set_option linter.all false
set_option maxRecDepth 100000
set_option maxHeartbeats 4000000
/-! The M layer, 16: o[i] = v; small words for printed proofs. -/
namespace FW
open PySem PySem.Spec PyProof.Rows L2 LamX
def gmSub (mo mi : ME) : MG := fun d env S => (mo env S).bind fun x S1 => (mi env S1).bind fun y S2 => match x, y with
  | .obj j, .int k => match S2[j]? with
    | some (.lst xs) => match ixN xs.length k with
      | some n => .ok env (S2.set j (.lst (xs.set n d)))
      | none => .stk
    | _ => .stk
  | _, _ => .stk
section
variable {X : Cx} {G : Gx} {W : WX} {o i : Expr} {mo mi : ME} {pos : Pos}
theorem g_sub (ho : XE X G W o mo) (hi : XE X G W i mi) (ha : ∀ v, assign (.Subscript o i pos) X.env v = (do
      let ov ← holding [v] (eval o X.env)
      let iv ← holding [v, ov] (eval i X.env)
      standAt pos
      holding [v, ov, iv] (setItem ov iv v)
      release [v, ov, iv] []) := by intro _; rfl) : XG X G W (.Subscript o i pos) (gmSub mo mi) := by
  obtain ⟨to, po, eo⟩ := ho
  obtain ⟨ti, pi, ei⟩ := hi
  refine ⟨_, pg_sub po pi set_list ha, fun v d σ H ι S env Q hr re r h => ?_⟩
  show to σ H fun x H1 => ti σ H1 fun y H2 => rSetL x y v H2 fun H3 => Q σ H3
  refine em_step eo hr re (fun _ _ z => z.elim) h fun dx S1 vx H1 ι1 t1 h1 r1 k1 q1 => ?_
  refine em_step ei h1 (re.mono t1) (fun _ _ z => z.elim) q1 fun dy S2 vy H2 ι2 t2 h2 r2 k2 q2 => ?_
  have rx := Rp.mono t2 _ r1
  cases rx <;> cases r2 <;> try exact (show False from q2).elim
  rename_i j a e1 k
  have q3 : (match S2[j]? with
    | some (.lst xs) => match ixN xs.length k with
      | some n => .ok env (S2.set j (.lst (xs.set n d)))
      | none => .stk
    | _ => .stk : Res En).wp (PostN G H ι Q) (fun _ _ => False) := q2
  cases ec : S2[j]? with
  | none => rw [ec] at q3; exact q3.elim
  | some cl =>
    rw [ec] at q3
    cases cl <;> try exact (show False from q3).elim
    rename_i xs
    have q4 : (match ixN xs.length k with
      | some n => .ok env (S2.set j (.lst (xs.set n d)))
      | none => .stk : Res En).wp (PostN G H ι Q) (fun _ _ => False) := q3
    obtain ⟨vs, k3, q5⟩ := h2.cell j _ a ec e1
    cases en : ixN xs.length k with
    | none => rw [en] at q4; exact q4.elim
    | some n =>
      rw [en] at q4
      have hm : IsC (H2 a) := by rw [k3]; trivial
      have ha : a ∈ ι2 := List.mem_of_getElem? e1
      have t3 : Tr H2 ι2 (upd H2 a (.lst (vs.set n v))) ι2 := Tr.write ha hm
      have rv : Rp G.K (upd H2 a (.lst (vs.set n v))) ι2 v d := Rp.mono ((t1.trans t2).trans t3) _ r
      refine ⟨a, vs, k, n, rfl, rfl, k3, by rw [q5.length]; exact en, ?_⟩
      exact (show PostN G H ι Q env _ from q4) σ _ ι2 ((t1.trans t2).trans t3) (h2.write e1 ⟨vs.set n v, upd_same, (RpA.mono t3 _ q5).set n rv⟩) (((re.mono t1).mono t2).mono t3)
end
theorem u64 {A : Around} {k : Nat} (hr : Room k A) : A.units + 64 < cLine := by have := hr.un; omega
theorem u65 {A : Around} {k : Nat} (hr : Room k A) : A.units + 65 < cLine := by have := hr.un; omega
theorem bb_len : bootBuiltins "len" = some (.builtin "len") := by decide +kernel
theorem bb_abs : bootBuiltins "abs" = some (.builtin "abs") := by decide +kernel
theorem bb_ord : bootBuiltins "ord" = some (.builtin "ord") := by decide +kernel
theorem bb_max : bootBuiltins "max" = some (.builtin "max") := by decide +kernel
theorem bb_min : bootBuiltins "min" = some (.builtin "min") := by decide +kernel
theorem bb_sum : bootBuiltins "sum" = some (.builtin "sum") := by decide +kernel
theorem bb_all : bootBuiltins "all" = some (.builtin "all") := by decide +kernel
theorem bb_any : bootBuiltins "any" = some (.builtin "any") := by decide +kernel
theorem bb_repr : bootBuiltins "repr" = some (.builtin "repr") := by decide +kernel
theorem bb_int : bootBuiltins "int" = some (.type "int") := by decide +kernel
theorem bb_str : bootBuiltins "str" = some (.type "str") := by decide +kernel
theorem bb_bool : bootBuiltins "bool" = some (.type "bool") := by decide +kernel
theorem bb_list : bootBuiltins "list" = some (.type "list") := by decide +kernel
theorem bb_tuple : bootBuiltins "tuple" = some (.type "tuple") := by decide +kernel
theorem bb_dict : bootBuiltins "dict" = some (.type "dict") := by decide +kernel
theorem tg_int : ∀ t ∈ tyAll, kitB t "int" = some (["int", "bool"].contains t) := by decide +kernel
theorem tg_str : ∀ t ∈ tyAll, kitB t "str" = some (["str"].contains t) := by decide +kernel
theorem tg_bool : ∀ t ∈ tyAll, kitB t "bool" = some (["bool"].contains t) := by decide +kernel
theorem tg_list : ∀ t ∈ tyAll, kitB t "list" = some (["list"].contains t) := by decide +kernel
theorem tg_tuple : ∀ t ∈ tyAll, kitB t "tuple" = some (["tuple"].contains t) := by decide +kernel
theorem tg_dict : ∀ t ∈ tyAll, kitB t "dict" = some (["dict"].contains t) := by decide +kernel
end FW

set_option Elab.async false
set_option linter.all false
set_option maxRecDepth 100000
set_option maxHeartbeats 4000000
/-! The M layer, 17: the mirrors' words, one equation each, to compute by hand. -/
namespace FW
section
variable {env e1 e2 : En} {S S1 S2 S3 : SS} {d d1 d2 d3 : D} {ds : List D} {i n N : Nat} {a b c m : ME} {r : MA} {t u : MT} {p q : MS} {x : Exn} {k : Bool} {z : Res D}
theorem v_var (h : env[i]? = some (some d)) : mVar i env S = .ok d S := by unfold mVar; rw [h]
theorem v_c : mC d env S = .ok d S := rfl
theorem v_op2 {f : D → D → SS → Res D} (ha : a env S = .ok d1 S1) (hb : b env S1 = .ok d2 S2) (h : f d1 d2 S2 = z) : mOp2 f a b env S = z := by unfold mOp2; rw [ha, Res.bind_ok, hb, Res.bind_ok, h]
theorem v_op1 {f : D → SS → Res D} (ha : a env S = .ok d1 S1) (h : f d1 S1 = z) : mOp1 f a env S = z := by unfold mOp1; rw [ha, Res.bind_ok, h]
theorem v_opA {f : List D → SS → Res D} (ha : r env S = .ok ds S1) (h : f ds S1 = z) : mOpA f r env S = z := by unfold mOpA; rw [ha, Res.bind_ok, h]
theorem v_nil : mNil env S = .ok [] S := rfl
theorem v_cons (ha : a env S = .ok d S1) (hr : r env S1 = .ok ds S2) : mCons a r env S = .ok (d :: ds) S2 := by unfold mCons; rw [ha, Res.bind_ok, hr, Res.bind_ok]
theorem v_tup (ha : r env S = .ok ds S1) (hl : ds.length ≤ 1000000) : mTup r env S = .ok (.tup ds) S1 := by unfold mTup; rw [ha, Res.bind_ok, if_pos hl]
theorem v_lst (ha : r env S = .ok ds S1) (hl : ds.length ≤ 1000000) : mLst r env S = .ok ds S1 := by unfold mLst; rw [ha, Res.bind_ok, if_pos hl]
theorem v_new (ha : r env S = .ok ds S1) : mNew r env S = .ok (.obj S1.length) (S1 ++ [.lst ds]) := by unfold mNew; rw [ha, Res.bind_ok]
theorem v_call {f : List D → SS → Res D} (ha : r env S = .ok ds S1) (hl : ds.length = n) (h : f ds S1 = z) : mCall n f r env S = z := by unfold mCall; rw [ha, Res.bind_ok, if_pos hl, h]
theorem v_tst (h : a env S = .ok (.bl k) S1) : mTst a env S = .ok k S1 := by unfold mTst; rw [h, Res.bind_ok]
theorem v_not (h : t env S = .ok k S1) : mNot t env S = .ok (!k) S1 := by unfold mNot; rw [h, Res.bind_ok]
theorem v_or {k1 k2 : Bool} (h : t env S = .ok k1 S1) (h2 : k1 = false → u env S1 = .ok k2 S2) (h3 : k1 = true → S2 = S1) : mOr t u env S = .ok (k1 || k2) S2 := by
  unfold mOr
  rw [h, Res.bind_ok]
  cases k1 with
  | true => rw [if_pos rfl, h3 rfl]; rfl
  | false => rw [if_neg Bool.false_ne_true, h2 rfl]; rfl
theorem v_orS {k1 k2 : Bool} (h : t env S = .ok k1 S) (h2 : u env S = .ok k2 S) : mOr t u env S = .ok (k1 || k2) S := v_or h (fun _ => h2) fun _ => rfl
theorem v_or_t (h : t env S = .ok true S1) : mOr t u env S = .ok true S1 := by unfold mOr; rw [h, Res.bind_ok, if_pos rfl]
theorem v_or_f (h : t env S = .ok false S1) : mOr t u env S = u env S1 := by unfold mOr; rw [h, Res.bind_ok, if_neg Bool.false_ne_true]
theorem v_and_t (h : t env S = .ok true S1) : mAnd t u env S = u env S1 := by unfold mAnd; rw [h, Res.bind_ok, if_pos rfl]
theorem v_and_f (h : t env S = .ok false S1) : mAnd t u env S = .ok false S1 := by unfold mAnd; rw [h, Res.bind_ok, if_neg Bool.false_ne_true]
theorem v_if_t (h : t env S = .ok true S1) : mIf t a b env S = a env S1 := by unfold mIf; rw [h, Res.bind_ok, if_pos rfl]
theorem v_if_f (h : t env S = .ok false S1) : mIf t a b env S = b env S1 := by unfold mIf; rw [h, Res.bind_ok, if_neg Bool.false_ne_true]
theorem v_andV_t (h : a env S = .ok (.bl true) S1) : mAndV a b env S = b env S1 := by unfold mAndV; rw [h, Res.bind_ok]
theorem v_andV_f (h : a env S = .ok (.bl false) S1) : mAndV a b env S = .ok (.bl false) S1 := by unfold mAndV; rw [h, Res.bind_ok]
theorem v_m1 {f : PySem.Str → D → SS → Res D} {x : PySem.Str} (ha : a env S = .ok (.str x) S1) (hb : b env S1 = .ok d S2) (h : f x d S2 = z) : mM1 f a b env S = z := by unfold mM1; rw [ha, Res.bind_ok]; show ((b env S1).bind _) = z; rw [hb, Res.bind_ok, h]
theorem v_m1l {f : PySem.Str → List D → SS → Res D} {x : PySem.Str} (ha : a env S = .ok (.str x) S1) (hb : r env S1 = .ok ds S2) (h : f x ds S2 = z) : mM1OfL f a r env S = z := by unfold mM1OfL; rw [ha, Res.bind_ok]; show ((r env S1).bind _) = z; rw [hb, Res.bind_ok, h]
theorem v_ofL {f : List D → SS → Res D} (hb : r env S = .ok ds S1) (h : f ds S1 = z) : mOfL f r env S = z := by unfold mOfL; rw [hb, Res.bind_ok, h]
theorem v_noP : mNoP env S = .ok none S := rfl
theorem v_p {j : Int} (h : a env S = .ok (.int j) S1) : mP a env S = .ok (some j) S1 := by unfold mP; rw [h, Res.bind_ok]
theorem v_sl {f : D → Option Int → Option Int → SS → Res D} {lo hi : MO} {l h' : Option Int} (ha : a env S = .ok d S1) (h1 : lo env S1 = .ok l S2) (h2 : hi env S2 = .ok h' S3) (h : f d l h' S3 = z) : mSl f a lo hi env S = z := by unfold mSl; rw [ha, Res.bind_ok, h1, Res.bind_ok, h2, Res.bind_ok, h]
theorem v_chain {f g : D → D → SS → Res D} {k1 k2 : Bool} (ha : a env S = .ok d1 S) (hb : b env S = .ok d2 S) (hc : c env S = .ok d3 S) (h1 : f d1 d2 S = .ok (.bl k1) S) (h2 : g d2 d3 S = .ok (.bl k2) S) : mChain f g a b c env S = .ok (.bl (k1 && k2)) S := by
  unfold mChain
  rw [ha, Res.bind_ok, hb, Res.bind_ok, h1, Res.bind_ok]
  cases k1 with
  | false => rfl
  | true => show ((c env S).bind _) = _; rw [hc, Res.bind_ok, h2, Bool.true_and]
theorem v_meth {ty : D → SS → Bool} {f : D → List D → SS → Res D} (ha : a env S = .ok d S1) (ht : ty d S1 = true) (hr : r env S1 = .ok ds S2) (h : f d ds S2 = z) : mMeth ty f a r env S = z := by unfold mMeth; rw [ha, Res.bind_ok, if_pos ht, hr, Res.bind_ok, h]
theorem v_lc {own : List Nat} {it : MI} {g : MG} {w : Itm} (hi : it env S = .ok w S1) {z : Res (List D)} (h : lcGo w.keep g t a (wipeE env own) w.items S1 [] = z) : mLc own it g t a env S = z := by unfold mLc; rw [hi, Res.bind_ok, h]
/-! statements -/
theorem w_seq {rf : RF} (h : p env S = .nx e1 S1) (h2 : q e1 S1 = rf) : mSeq p q env S = rf := by unfold mSeq; rw [h]; exact h2
theorem w_seq_rt (h : p env S = .rt d S1) : mSeq p q env S = .rt d S1 := by unfold mSeq; rw [h]
theorem w_seq_ex (h : p env S = .ex x e1 S1) : mSeq p q env S = .ex x e1 S1 := by unfold mSeq; rw [h]
theorem w_set (h : a env S = .ok d S1) : mSet i a env S = .nx (env.set i (some d)) S1 := by unfold mSet; rw [h]; rfl
theorem w_drop (h : a env S = .ok d S1) : mDrop a env S = .nx env S1 := by unfold mDrop; rw [h]; rfl
theorem w_drop_ex (h : a env S = .exc x S1) : mDrop a env S = .ex x env S1 := by unfold mDrop; rw [h]; rfl
theorem w_ret (h : a env S = .ok d S1) : mRet a env S = .rt d S1 := by unfold mRet; rw [h]; rfl
theorem w_ret_ex (h : a env S = .exc x S1) : mRet a env S = .ex x env S1 := by unfold mRet; rw [h]; rfl
theorem w_if_t {rf : RF} (h : t env S = .ok true S1) (h2 : p env S1 = rf) : mIfS t p q env S = rf := by unfold mIfS; rw [h]; exact h2
theorem w_if_f {rf : RF} (h : t env S = .ok false S1) (h2 : q env S1 = rf) : mIfS t p q env S = rf := by unfold mIfS; rw [h]; exact h2
theorem w_next : mNext env S = .nx env S := rfl
theorem w_asg {g : MG} (h : a env S = .ok d S1) (hg : g d env S1 = .ok e1 S2) : mAsg g a env S = .nx e1 S2 := by unfold mAsg; rw [h]; show ((g d env S1).hush RF.nx) = _; rw [hg]; rfl
theorem w_for {it : MI} {g : MG} {w : Itm} {rf : RF} (hi : it env S = .ok w S1) (h : forGoW w.keep g p w.items env S1 = rf) : mFor it g p env S = rf := by unfold mFor; rw [hi]; exact h
theorem w_fn {body : MS} {d' : D} {S' : SS} (hn : ds.length = n) (h : body (ds.map some ++ List.replicate (N - ds.length) none) S = .rt d' S') : mFn n N body ds S = gc S.length d' S' := by unfold mFn; rw [if_pos hn, h]
theorem w_fn_nx {body : MS} {S' : SS} (hn : ds.length = n) (h : body (ds.map some ++ List.replicate (N - ds.length) none) S = .nx e1 S') : mFn n N body ds S = gc S.length .non S' := by unfold mFn; rw [if_pos hn, h]
theorem w_fn_ex {body : MS} {S' : SS} (hn : ds.length = n) (h : body (ds.map some ++ List.replicate (N - ds.length) none) S = .ex x e1 S') : mFn n N body ds S = gcX S.length x S' := by unfold mFn; rw [if_pos hn, h]
end
end FW

set_option Elab.async false
set_option linter.all false
set_option maxRecDepth 100000
set_option maxHeartbeats 4000000
namespace FW
namespace K51
open PySem PySem.Spec PyProof.Rows L2 LamX
def top (i : Nat) : Stmt := PySem.Challenge.pw_firmwide_k51_whole_great_frames_and_near.main.body.getD i (.Pass ⟨0, 0, 0, 0⟩)
abbrev s_is_integer : Stmt := top 1
abbrev s_is_between : Stmt := top 2
abbrev s_check_in : Stmt := top 10
abbrev s_is_payload_text : Stmt := top 20
abbrev s_line_of : Stmt := top 21
abbrev s_figures_ahead : Stmt := top 22
abbrev s_pair_of_line : Stmt := top 23
abbrev s_require_payload : Stmt := top 24
abbrev s_is_payload : Stmt := top 25
abbrev s_frame_of : Stmt := top 26
abbrev s_read_line : Stmt := top 27
abbrev s__law_dice : Stmt := top 29
abbrev s__law_roll : Stmt := top 30
abbrev s__law_pick : Stmt := top 31
abbrev s__law_check : Stmt := top 32
abbrev s__law_line : Stmt := top 33
abbrev s__law_number : Stmt := top 34
abbrev s__law_payload : Stmt := top 35
abbrev s__law_read : Stmt := top 36
abbrev s__law_frame_right : Stmt := top 37
abbrev s__law_word : Stmt := top 38
abbrev s__law_right : Stmt := top 39
abbrev s_law : Stmt := top 40
theorem sc_is_integer : FnScope ["value"] ["value"] (defScope s_is_integer) := ⟨rfl, rfl, rfl, by decide +kernel, rfl, by decide +kernel, by decide +kernel⟩
theorem sc_is_between : FnScope ["value", "low", "high"] ["value", "low", "high"] (defScope s_is_between) := ⟨rfl, rfl, rfl, by decide +kernel, rfl, by decide +kernel, by decide +kernel⟩
theorem sc_check_in : FnScope ["text", "total", "position", "sign"] ["text"] (defScope s_check_in) := ⟨rfl, rfl, rfl, by decide +kernel, rfl, by decide +kernel, by decide +kernel⟩
theorem sc_is_payload_text : FnScope ["value", "sign"] ["value"] (defScope s_is_payload_text) := ⟨rfl, rfl, rfl, by decide +kernel, rfl, by decide +kernel, by decide +kernel⟩
theorem sc_line_of : FnScope ["number", "payload", "front"] ["number", "payload"] (defScope s_line_of) := ⟨rfl, rfl, rfl, by decide +kernel, rfl, by decide +kernel, by decide +kernel⟩
theorem sc_figures_ahead : FnScope ["text", "figures", "colon", "rest", "sign"] ["text"] (defScope s_figures_ahead) := ⟨rfl, rfl, rfl, by decide +kernel, rfl, by decide +kernel, by decide +kernel⟩
theorem sc_pair_of_line : FnScope ["line", "first", "second", "payload"] ["line"] (defScope s_pair_of_line) := ⟨rfl, rfl, rfl, by decide +kernel, rfl, by decide +kernel, by decide +kernel⟩
theorem sc_require_payload : FnScope ["payload"] ["payload"] (defScope s_require_payload) := ⟨rfl, rfl, rfl, by decide +kernel, rfl, by decide +kernel, by decide +kernel⟩
theorem sc_is_payload : FnScope ["value"] ["value"] (defScope s_is_payload) := ⟨rfl, rfl, rfl, by decide +kernel, rfl, by decide +kernel, by decide +kernel⟩
theorem sc_frame_of : FnScope ["number", "payload"] ["number", "payload"] (defScope s_frame_of) := ⟨rfl, rfl, rfl, by decide +kernel, rfl, by decide +kernel, by decide +kernel⟩
theorem sc_read_line : FnScope ["line", "pair"] ["line"] (defScope s_read_line) := ⟨rfl, rfl, rfl, by decide +kernel, rfl, by decide +kernel, by decide +kernel⟩
theorem sc__law_dice : FnScope ["script", "spot", "cell", "great"] ["script", "spot"] (defScope s__law_dice) := ⟨rfl, rfl, rfl, by decide +kernel, rfl, by decide +kernel, by decide +kernel⟩
theorem sc__law_roll : FnScope ["dice", "total", "found"] ["dice", "total"] (defScope s__law_roll) := ⟨rfl, rfl, rfl, by decide +kernel, rfl, by decide +kernel, by decide +kernel⟩
theorem sc__law_pick : FnScope ["dice", "items"] ["dice", "items"] (defScope s__law_pick) := ⟨rfl, rfl, rfl, by decide +kernel, rfl, by decide +kernel, by decide +kernel⟩
theorem sc__law_check : FnScope ["text", "total", "at", "sign"] ["text"] (defScope s__law_check) := ⟨rfl, rfl, rfl, by decide +kernel, rfl, by decide +kernel, by decide +kernel⟩
theorem sc__law_line : FnScope ["number", "payload", "front"] ["number", "payload"] (defScope s__law_line) := ⟨rfl, rfl, rfl, by decide +kernel, rfl, by decide +kernel, by decide +kernel⟩
theorem sc__law_number : FnScope ["dice"] ["dice"] (defScope s__law_number) := ⟨rfl, rfl, rfl, by decide +kernel, rfl, by decide +kernel, by decide +kernel⟩
theorem sc__law_payload : FnScope ["dice", "signs", "many", "turn"] ["dice"] (defScope s__law_payload) := ⟨rfl, rfl, rfl, by decide +kernel, rfl, by decide +kernel, by decide +kernel⟩
theorem sc__law_read : FnScope ["line"] ["line"] (defScope s__law_read) := ⟨rfl, rfl, rfl, by decide +kernel, rfl, by decide +kernel, by decide +kernel⟩
theorem sc__law_frame_right : FnScope ["dice", "number", "payload", "line", "turn", "at", "sign", "count", "near", "front", "many", "one"] ["dice", "number", "payload"] (defScope s__law_frame_right) := ⟨rfl, rfl, rfl, by decide +kernel, rfl, by decide +kernel, by decide +kernel⟩
theorem sc__law_word : FnScope ["call", "error"] ["call"] (defScope s__law_word) := ⟨rfl, rfl, rfl, by decide +kernel, rfl, by decide +kernel, by decide +kernel⟩
theorem sc__law_right : FnScope ["dice", "turn", "bad", "one"] ["dice"] (defScope s__law_right) := ⟨rfl, rfl, rfl, by decide +kernel, rfl, by decide +kernel, by decide +kernel⟩
theorem sc_law : FnScope ["script", "spot", "dice"] ["script"] (defScope s_law) := ⟨rfl, rfl, rfl, by decide +kernel, rfl, by decide +kernel, by decide +kernel⟩
/-! ### addresses -/
structure Ad where
  f_is_integer : Addr
  d_is_integer : FuncData
  f_is_between : Addr
  d_is_between : FuncData
  f_check_in : Addr
  d_check_in : FuncData
  f_is_payload_text : Addr
  d_is_payload_text : FuncData
  f_line_of : Addr
  d_line_of : FuncData
  f_figures_ahead : Addr
  d_figures_ahead : FuncData
  f_pair_of_line : Addr
  d_pair_of_line : FuncData
  f_require_payload : Addr
  d_require_payload : FuncData
  f_is_payload : Addr
  d_is_payload : FuncData
  f_frame_of : Addr
  d_frame_of : FuncData
  f_read_line : Addr
  d_read_line : FuncData
  f__law_dice : Addr
  d__law_dice : FuncData
  f__law_roll : Addr
  d__law_roll : FuncData
  f__law_pick : Addr
  d__law_pick : FuncData
  f__law_check : Addr
  d__law_check : FuncData
  f__law_line : Addr
  d__law_line : FuncData
  f__law_number : Addr
  d__law_number : FuncData
  f__law_payload : Addr
  d__law_payload : FuncData
  f__law_read : Addr
  d__law_read : FuncData
  f__law_frame_right : Addr
  d__law_frame_right : FuncData
  f__law_word : Addr
  d__law_word : FuncData
  f__law_right : Addr
  d__law_right : FuncData
  f_law : Addr
  d_law : FuncData
  c_RowError : Addr
  c_InvalidOperation : Addr
  c_ParseError : Addr
  c_InvalidNumber : Addr
  i_InvalidNumber : Addr
  q__law_right : Addr
  p__law_right : Addr
def gOf (K : PySem.W.Frag) (A : Ad) : Gx := ⟨K, [(A.p__law_right, (("_law_right" : Str) ++ ".<locals>.") ++ "<lambda>")], fun n => ([("RowError", A.c_RowError), ("InvalidOperation", A.c_InvalidOperation), ("ParseError", A.c_ParseError), ("InvalidNumber", A.c_InvalidNumber)] : List (Str × Addr)).lookup n⟩
structure Txt (K : PySem.W.Frag) (mg : Str → Option Value) (base : Heap) (A : Ad) : Prop where
  F_is_integer : Fun K "is_integer" "is_integer" s_is_integer A.f_is_integer A.d_is_integer
  g_is_integer : mg "is_integer" = some (.ref A.f_is_integer)
  k_is_integer : PySem.W.keepIn K (.ref A.f_is_integer) = true
  B_is_integer : L2.Binds K A.d_is_integer ["value"] []
  F_is_between : Fun K "is_between" "is_between" s_is_between A.f_is_between A.d_is_between
  g_is_between : mg "is_between" = some (.ref A.f_is_between)
  k_is_between : PySem.W.keepIn K (.ref A.f_is_between) = true
  B_is_between : L2.Binds K A.d_is_between ["value", "low", "high"] []
  F_check_in : Fun K "check_in" "check_in" s_check_in A.f_check_in A.d_check_in
  g_check_in : mg "check_in" = some (.ref A.f_check_in)
  k_check_in : PySem.W.keepIn K (.ref A.f_check_in) = true
  B_check_in : L2.Binds K A.d_check_in ["text"] []
  F_is_payload_text : Fun K "is_payload_text" "is_payload_text" s_is_payload_text A.f_is_payload_text A.d_is_payload_text
  g_is_payload_text : mg "is_payload_text" = some (.ref A.f_is_payload_text)
  k_is_payload_text : PySem.W.keepIn K (.ref A.f_is_payload_text) = true
  B_is_payload_text : L2.Binds K A.d_is_payload_text ["value"] []
  F_line_of : Fun K "line_of" "line_of" s_line_of A.f_line_of A.d_line_of
  g_line_of : mg "line_of" = some (.ref A.f_line_of)
  k_line_of : PySem.W.keepIn K (.ref A.f_line_of) = true
  B_line_of : L2.Binds K A.d_line_of ["number", "payload"] []
  F_figures_ahead : Fun K "figures_ahead" "figures_ahead" s_figures_ahead A.f_figures_ahead A.d_figures_ahead
  g_figures_ahead : mg "figures_ahead" = some (.ref A.f_figures_ahead)
  k_figures_ahead : PySem.W.keepIn K (.ref A.f_figures_ahead) = true
  B_figures_ahead : L2.Binds K A.d_figures_ahead ["text"] []
  F_pair_of_line : Fun K "pair_of_line" "pair_of_line" s_pair_of_line A.f_pair_of_line A.d_pair_of_line
  g_pair_of_line : mg "pair_of_line" = some (.ref A.f_pair_of_line)
  k_pair_of_line : PySem.W.keepIn K (.ref A.f_pair_of_line) = true
  B_pair_of_line : L2.Binds K A.d_pair_of_line ["line"] []
  F_require_payload : Fun K "require_payload" "require_payload" s_require_payload A.f_require_payload A.d_require_payload
  g_require_payload : mg "require_payload" = some (.ref A.f_require_payload)
  k_require_payload : PySem.W.keepIn K (.ref A.f_require_payload) = true
  B_require_payload : L2.Binds K A.d_require_payload ["payload"] []
  F_is_payload : Fun K "is_payload" "is_payload" s_is_payload A.f_is_payload A.d_is_payload
  g_is_payload : mg "is_payload" = some (.ref A.f_is_payload)
  k_is_payload : PySem.W.keepIn K (.ref A.f_is_payload) = true
  B_is_payload : L2.Binds K A.d_is_payload ["value"] []
  F_frame_of : Fun K "frame_of" "frame_of" s_frame_of A.f_frame_of A.d_frame_of
  g_frame_of : mg "frame_of" = some (.ref A.f_frame_of)
  k_frame_of : PySem.W.keepIn K (.ref A.f_frame_of) = true
  B_frame_of : L2.Binds K A.d_frame_of ["number", "payload"] []
  F_read_line : Fun K "read_line" "read_line" s_read_line A.f_read_line A.d_read_line
  g_read_line : mg "read_line" = some (.ref A.f_read_line)
  k_read_line : PySem.W.keepIn K (.ref A.f_read_line) = true
  B_read_line : L2.Binds K A.d_read_line ["line"] []
  F__law_dice : Fun K "_law_dice" "_law_dice" s__law_dice A.f__law_dice A.d__law_dice
  g__law_dice : mg "_law_dice" = some (.ref A.f__law_dice)
  k__law_dice : PySem.W.keepIn K (.ref A.f__law_dice) = true
  B__law_dice : L2.Binds K A.d__law_dice ["script", "spot"] []
  F__law_roll : Fun K "_law_roll" "_law_roll" s__law_roll A.f__law_roll A.d__law_roll
  g__law_roll : mg "_law_roll" = some (.ref A.f__law_roll)
  k__law_roll : PySem.W.keepIn K (.ref A.f__law_roll) = true
  B__law_roll : L2.Binds K A.d__law_roll ["dice", "total"] []
  F__law_pick : Fun K "_law_pick" "_law_pick" s__law_pick A.f__law_pick A.d__law_pick
  g__law_pick : mg "_law_pick" = some (.ref A.f__law_pick)
  k__law_pick : PySem.W.keepIn K (.ref A.f__law_pick) = true
  B__law_pick : L2.Binds K A.d__law_pick ["dice", "items"] []
  F__law_check : Fun K "_law_check" "_law_check" s__law_check A.f__law_check A.d__law_check
  g__law_check : mg "_law_check" = some (.ref A.f__law_check)
  k__law_check : PySem.W.keepIn K (.ref A.f__law_check) = true
  B__law_check : L2.Binds K A.d__law_check ["text"] []
  F__law_line : Fun K "_law_line" "_law_line" s__law_line A.f__law_line A.d__law_line
  g__law_line : mg "_law_line" = some (.ref A.f__law_line)
  k__law_line : PySem.W.keepIn K (.ref A.f__law_line) = true
  B__law_line : L2.Binds K A.d__law_line ["number", "payload"] []
  F__law_number : Fun K "_law_number" "_law_number" s__law_number A.f__law_number A.d__law_number
  g__law_number : mg "_law_number" = some (.ref A.f__law_number)
  k__law_number : PySem.W.keepIn K (.ref A.f__law_number) = true
  B__law_number : L2.Binds K A.d__law_number ["dice"] []
  F__law_payload : Fun K "_law_payload" "_law_payload" s__law_payload A.f__law_payload A.d__law_payload
  g__law_payload : mg "_law_payload" = some (.ref A.f__law_payload)
  k__law_payload : PySem.W.keepIn K (.ref A.f__law_payload) = true
  B__law_payload : L2.Binds K A.d__law_payload ["dice"] []
  F__law_read : Fun K "_law_read" "_law_read" s__law_read A.f__law_read A.d__law_read
  g__law_read : mg "_law_read" = some (.ref A.f__law_read)
  k__law_read : PySem.W.keepIn K (.ref A.f__law_read) = true
  B__law_read : L2.Binds K A.d__law_read ["line"] []
  F__law_frame_right : Fun K "_law_frame_right" "_law_frame_right" s__law_frame_right A.f__law_frame_right A.d__law_frame_right
  g__law_frame_right : mg "_law_frame_right" = some (.ref A.f__law_frame_right)
  k__law_frame_right : PySem.W.keepIn K (.ref A.f__law_frame_right) = true
  B__law_frame_right : L2.Binds K A.d__law_frame_right ["dice", "number", "payload"] []
  F__law_word : Fun K "_law_word" "_law_word" s__law_word A.f__law_word A.d__law_word
  g__law_word : mg "_law_word" = some (.ref A.f__law_word)
  k__law_word : PySem.W.keepIn K (.ref A.f__law_word) = true
  B__law_word : L2.Binds K A.d__law_word ["call"] []
  F__law_right : Fun K "_law_right" "_law_right" s__law_right A.f__law_right A.d__law_right
  g__law_right : mg "_law_right" = some (.ref A.f__law_right)
  k__law_right : PySem.W.keepIn K (.ref A.f__law_right) = true
  B__law_right : L2.Binds K A.d__law_right ["dice"] []
  F_law : Fun K "law" "law" s_law A.f_law A.d_law
  g_law : mg "law" = some (.ref A.f_law)
  k_law : PySem.W.keepIn K (.ref A.f_law) = true
  B_law : L2.Binds K A.d_law ["script"] []
  b_abs : mg "abs" = none
  b_all : mg "all" = none
  b_bool : mg "bool" = none
  b_enumerate : mg "enumerate" = none
  b_int : mg "int" = none
  b_isinstance : mg "isinstance" = none
  b_len : mg "len" = none
  b_max : mg "max" = none
  b_min : mg "min" = none
  b_ord : mg "ord" = none
  b_range : mg "range" = none
  b_repr : mg "repr" = none
  b_str : mg "str" = none
  b_sum : mg "sum" = none
  c_BETWEEN : ∃ t, mg "BETWEEN" = some (.str ":" t)
  c_CHECKED : ∃ t, mg "CHECKED" = some (.str "#" t)
  c_CHECK_PRIME : ∃ t, mg "CHECK_PRIME" = some (.int 9973 t)
  c_END : ∃ t, mg "END" = some (.str "\n" t)
  c_FIGURES : ∃ t, mg "FIGURES" = some (.str "0123456789" t)
  c_FIRST_SIGN : ∃ t, mg "FIRST_SIGN" = some (.str " " t)
  c_LAST_SIGN : ∃ t, mg "LAST_SIGN" = some (.str "~" t)
  c_MOST_FRAME : ∃ t, mg "MOST_FRAME" = some (.int 1000000000 t)
  c_MOST_PAYLOAD : ∃ t, mg "MOST_PAYLOAD" = some (.int 300 t)
  g_RowError : mg "RowError" = some (.ref A.c_RowError)
  k_RowError : PySem.W.keepIn K (.ref A.c_RowError) = true
  xb_RowError : PySem.W.subIn K (.ref A.c_RowError) (.type "BaseException") = some true
  xt_RowError : PySem.W.typeIn K (.ref A.c_RowError) = some (.type "type")
  g_InvalidOperation : mg "InvalidOperation" = some (.ref A.c_InvalidOperation)
  k_InvalidOperation : PySem.W.keepIn K (.ref A.c_InvalidOperation) = true
  xb_InvalidOperation : PySem.W.subIn K (.ref A.c_InvalidOperation) (.type "BaseException") = some true
  xt_InvalidOperation : PySem.W.typeIn K (.ref A.c_InvalidOperation) = some (.type "type")
  g_ParseError : mg "ParseError" = some (.ref A.c_ParseError)
  k_ParseError : PySem.W.keepIn K (.ref A.c_ParseError) = true
  xb_ParseError : PySem.W.subIn K (.ref A.c_ParseError) (.type "BaseException") = some true
  xt_ParseError : PySem.W.typeIn K (.ref A.c_ParseError) = some (.type "type")
  g_InvalidNumber : mg "InvalidNumber" = some (.ref A.c_InvalidNumber)
  k_InvalidNumber : PySem.W.keepIn K (.ref A.c_InvalidNumber) = true
  xb_InvalidNumber : PySem.W.subIn K (.ref A.c_InvalidNumber) (.type "BaseException") = some true
  xt_InvalidNumber : PySem.W.typeIn K (.ref A.c_InvalidNumber) = some (.type "type")
  x_InvalidOperation : PySem.W.excIn K A.c_InvalidOperation [.type "ValueError", .type "Exception", .type "BaseException", .type "object"] "ValueError.__new__" = true
  e_InvalidNumber : ErrT K mg "InvalidNumber" A.c_InvalidNumber A.i_InvalidNumber "value" "value" "IndexError" "IndexError.__new__" "IndexError.__init__" [.type "IndexError", .type "LookupError", .type "Exception", .type "BaseException", .type "object"]
  x_ParseError : PySem.W.excIn K A.c_ParseError [.type "ValueError", .type "Exception", .type "BaseException", .type "object"] "ValueError.__new__" = true
  s_ParseError : ∀ n C, (gOf K A).C n = some C → PySem.W.exmOne K (.ref C) (.ref A.c_ParseError) = some ((["ParseError"] : List Str).contains n)
  s_InvalidNumber : ∀ n C, (gOf K A).C n = some C → PySem.W.exmOne K (.ref C) (.ref A.c_InvalidNumber) = some ((["InvalidNumber"] : List Str).contains n)
  s_InvalidOperation : ∀ n C, (gOf K A).C n = some C → PySem.W.exmOne K (.ref C) (.ref A.c_InvalidOperation) = some ((["InvalidOperation"] : List Str).contains n)
  F_InvalidNumber : ∀ m C, (gOf K A).C m = some C → (["InvalidNumber"] : List Str).contains m = true → ErrF K C "value"
  tb__law_right : TabB base mg A.q__law_right A.p__law_right
  cd__law_right : A.d__law_right.code = .ref A.q__law_right
section
variable {P : Program} {w : World} {K : PySem.W.Frag} {mg : Str → Option Value} {base : Heap} {A : Ad}
noncomputable def b_is_integer : MS :=
  (mRet ((mAndV (mOp1 (dIsi ["int", "bool"]) (mVar 0)) (mNotV (mOp1 (dIsi ["bool"]) (mVar 0))))))
noncomputable def m_is_integer : List D → SS → Res D := mFn 1 1 b_is_integer
theorem ok_is_integer (T : Txt K mg base A) : FnOk P w K mg base (L2.CX P w) 1 A.f_is_integer A.d_is_integer ["value"] (spOf (gOf K A) 1 m_is_integer) :=
  fn_ok (G := gOf K A) T.F_is_integer sc_is_integer rfl fun cdv A' outer s H E hr =>
  (ss_one (s_ret ((x_and (xisi rfl (by rfl) T.b_isinstance (by rfl) T.b_int bb_int tg_int (x_var 0)) (x_one (x_not (xisi rfl (by rfl) T.b_isinstance (by rfl) T.b_bool bb_bool tg_bool (x_var 0))))))))
noncomputable def b_is_between : MS :=
  (mRet ((mAndV (mCall 1 m_is_integer (mCons (mVar 0) mNil)) (mAndV (mOp2 dLe (mVar 1) (mVar 0)) ((mOrV (mOp2 dIs (mVar 2) (mC .non)) (mOp2 dLe (mVar 0) (mVar 2))))))))
noncomputable def m_is_between : List D → SS → Res D := mFn 3 3 b_is_between
theorem ok_is_between (T : Txt K mg base A) : FnOk P w K mg base (L2.CX P w) 2 A.f_is_between A.d_is_between ["value", "low", "high"] (spOf (gOf K A) 3 m_is_between) :=
  fn_ok (G := gOf K A) T.F_is_between sc_is_between rfl fun cdv A' outer s H E hr =>
  (ss_one (s_ret ((x_and (x_call (ok_is_integer T) hr (by decide) (takes_of rfl rfl rfl rfl) (by rfl) T.g_is_integer T.k_is_integer T.B_is_integer (a_cons (x_var 0) a_nil)) (x_and (xcmp (x2_le) (x_var 1) (x_var 0)) (x_one ((x_or (xcmp (x2_is) (x_var 2) (x_non)) (x_one (xcmp (x2_le) (x_var 0) (x_var 2)))))))))))
noncomputable def b_check_in : MS :=
  (mSeq (mSet 1 (mC (.int 0)))
  (mSeq (mFor (mItEnS (mVar 0)) (gmTup [(gmName 2), (gmName 3)]) (mAugI 1 (fun i j => i + j) (mOp2 dMul (mOp2 dAdd (mVar 2) (mC (.int 1))) (mOpA dOrd (mCons (mVar 3) mNil)))))
  (mRet (mOp2 dMod (mVar 1) (mC (.int 9973))))))
noncomputable def m_check_in : List D → SS → Res D := mFn 1 4 b_check_in
theorem ok_check_in (T : Txt K mg base A) : FnOk P w K mg base (L2.CX P w) 1 A.f_check_in A.d_check_in ["text"] (spOf (gOf K A) 1 m_check_in) :=
  fn_ok (G := gOf K A) T.F_check_in sc_check_in rfl fun cdv A' outer s H E hr =>
  (ss_cons (s_set sc_check_in.nd rfl (by first | exact .inl rfl | exact .inr rfl) (x_int))
  (ss_cons (s_for (passes_of rfl) rfl (i_enS (by rfl) T.b_enumerate (x_var 0)) (g_tup rfl rfl (XGs.cons (g_name sc_check_in.nd rfl (by first | exact .inl rfl | exact .inr rfl)) (XGs.cons (g_name sc_check_in.nd rfl (by first | exact .inl rfl | exact .inr rfl)) XGs.nil))) (ss_one (s_augI sc_check_in.nd rfl (by first | exact .inl rfl | exact .inr rfl) ip_add (xb (x2_mul rfl) (xb (x2_add rfl) (x_var 2) (x_int)) (xcB xc_ord bb_ord (by rfl) T.b_ord (a_cons (x_var 3) a_nil))))))
  (ss_one (s_ret (xb (x2_mod) (x_var 1) (let ⟨_, e⟩ := T.c_CHECK_PRIME; x_glob (v := .int 9973) (by rfl) e ⟨_, rfl⟩ rfl))))))
noncomputable def b_is_payload_text : MS :=
  (mSeq (mIfS (mOr (mNot (mTst (mOp1 (dIsi ["str"]) (mVar 0)))) (mTst (mOp2 dGt (mOpA dLen (mCons (mVar 0) mNil)) (mC (.int 300))))) (mRet (mC (.bl false))) mNext)
  (mRet (mOfL dAll (mLc [1] (mItAny (mVar 0)) (gmName 1) mYes (mChain dLe dLe (mC (.str " ")) (mVar 1) (mC (.str "~")))))))
noncomputable def m_is_payload_text : List D → SS → Res D := mFn 1 2 b_is_payload_text
theorem ok_is_payload_text (T : Txt K mg base A) : FnOk P w K mg base (L2.CX P w) 1 A.f_is_payload_text A.d_is_payload_text ["value"] (spOf (gOf K A) 1 m_is_payload_text) :=
  fn_ok (G := gOf K A) T.F_is_payload_text sc_is_payload_text rfl fun cdv A' outer s H E hr =>
  (ss_cons (s_if (t_or (t_not (t_val (xisi rfl (by rfl) T.b_isinstance (by rfl) T.b_str bb_str tg_str (x_var 0)))) (w_or1 (tcmp (x2_gt) (xcB (xc_len rfl) bb_len (by rfl) T.b_len (a_cons (x_var 0) a_nil)) (let ⟨_, e⟩ := T.c_MOST_PAYLOAD; x_glob (v := .int 300) (by rfl) e ⟨_, rfl⟩ rfl)))) (ss_one (s_ret (x_bl))) ss_nil)
  (ss_one (s_ret (x_ofL (cr_all rfl) (ol_all rfl) (by rfl) T.b_all bb_all (l_lc0 (own := [("sign", 1)]) rfl sc_is_payload_text.nd (i_any rfl (x_var 0)) (blkOk_by (by kernel_rfl)) (tg_name (by decide) fun _ _ _ _ _ => (pg_name (i := 1) sc_is_payload_text.nd rfl (by first | exact .inl rfl | exact .inr rfl) (by first | exact .inl rfl | exact .inr rfl))) (fun _ _ _ _ _ => (xchain (x2_le) (x2_le) (let ⟨_, e⟩ := T.c_FIRST_SIGN; x_glob (v := .str " ") (by rfl) e ⟨_, rfl⟩ rfl) (x_var 1) (let ⟨_, e⟩ := T.c_LAST_SIGN; x_glob (v := .str "~") (by rfl) e ⟨_, rfl⟩ rfl))))))))
noncomputable def b_line_of : MS :=
  (mSeq (mSet 2 (mJoined [(mFmt (mVar 0)), (mFmt (mC (.str ":"))), (mFmt (mOpA dLen (mCons (mVar 1) mNil))), (mFmt (mC (.str ":"))), (mFmt (mVar 1))]))
  (mRet (mJoined [(mFmt (mVar 2)), (mFmt (mC (.str "#"))), (mFmt (mCall 1 m_check_in (mCons (mVar 2) mNil)))])))
noncomputable def m_line_of : List D → SS → Res D := mFn 2 3 b_line_of
theorem ok_line_of (T : Txt K mg base A) : FnOk P w K mg base (L2.CX P w) 2 A.f_line_of A.d_line_of ["number", "payload"] (spOf (gOf K A) 2 m_line_of) :=
  fn_ok (G := gOf K A) T.F_line_of sc_line_of rfl fun cdv A' outer s H E hr =>
  (ss_cons (s_set sc_line_of.nd rfl (by first | exact .inl rfl | exact .inr rfl) (x_joined (XJ.cons (x_fmt (x_var 0)) (XJ.cons (x_fmt (let ⟨_, e⟩ := T.c_BETWEEN; x_glob (v := .str ":") (by rfl) e ⟨_, rfl⟩ rfl)) (XJ.cons (x_fmt (xcB (xc_len rfl) bb_len (by rfl) T.b_len (a_cons (x_var 1) a_nil))) (XJ.cons (x_fmt (let ⟨_, e⟩ := T.c_BETWEEN; x_glob (v := .str ":") (by rfl) e ⟨_, rfl⟩ rfl)) (XJ.cons (x_fmt (x_var 1)) XJ.nil)))))))
  (ss_one (s_ret (x_joined (XJ.cons (x_fmt (x_var 2)) (XJ.cons (x_fmt (let ⟨_, e⟩ := T.c_CHECKED; x_glob (v := .str "#") (by rfl) e ⟨_, rfl⟩ rfl)) (XJ.cons (x_fmt (x_call (ok_check_in T) hr (by decide) (takes_of rfl rfl rfl rfl) (by rfl) T.g_check_in T.k_check_in T.B_check_in (a_cons (x_var 2) a_nil))) XJ.nil)))))))
noncomputable def b_figures_ahead : MS :=
  (mSeq (mAsg (gmTup [(gmName 1), (gmName 2), (gmName 3)]) (mM1 dPart (mVar 0) (mC (.str ":"))))
  (mSeq (mIfS (mOr (mTst (mOp2 dEq (mVar 2) (mC (.str "")))) (mNot (mTst (mChain dLe dLe (mC (.int 1)) (mOpA dLen (mCons (mVar 1) mNil)) (mOpA dLen (mCons (mOpA dStr (mCons (mC (.int 1000000000)) mNil)) mNil)))))) (mRet (mC .non)) mNext)
  (mSeq (mIfS (mOr (mNot (mTst (mOfL dAll (mLc [4] (mItAny (mVar 1)) (gmName 4) mYes (mOp2 dIn (mVar 4) (mC (.str "0123456789"))))))) (mTst (mOp2 dNe (mOpA dStr (mCons (mOpA dInt (mCons (mVar 1) mNil)) mNil)) (mVar 1)))) (mRet (mC .non)) mNext)
  (mRet (mTup (mCons (mOpA dInt (mCons (mVar 1) mNil)) (mCons (mVar 3) mNil)))))))
noncomputable def m_figures_ahead : List D → SS → Res D := mFn 1 5 b_figures_ahead
theorem ok_figures_ahead (T : Txt K mg base A) : FnOk P w K mg base (L2.CX P w) 1 A.f_figures_ahead A.d_figures_ahead ["text"] (spOf (gOf K A) 1 m_figures_ahead) :=
  fn_ok (G := gOf K A) T.F_figures_ahead sc_figures_ahead rfl fun cdv A' outer s H E hr =>
  (ss_cons (s_asg (x_m1 PySem.F.slot_str_partition PySem.F.type_str_partition mt_partition os_part (x_var 0) (let ⟨_, e⟩ := T.c_BETWEEN; x_glob (v := .str ":") (by rfl) e ⟨_, rfl⟩ rfl)) (g_tup rfl rfl (XGs.cons (g_name sc_figures_ahead.nd rfl (by first | exact .inl rfl | exact .inr rfl)) (XGs.cons (g_name sc_figures_ahead.nd rfl (by first | exact .inl rfl | exact .inr rfl)) (XGs.cons (g_name sc_figures_ahead.nd rfl (by first | exact .inl rfl | exact .inr rfl)) XGs.nil)))))
  (ss_cons (s_if (t_or (tcmp (x2_eq rfl (u64 hr)) (x_var 2) (x_str)) (w_or1 (t_not (tchain (x2_le) (x2_le) (x_int) (xcB (xc_len rfl) bb_len (by rfl) T.b_len (a_cons (x_var 1) a_nil)) (xcB (xc_len rfl) bb_len (by rfl) T.b_len (a_cons (xcT xc_str bb_str (by rfl) T.b_str (a_cons (let ⟨_, e⟩ := T.c_MOST_FRAME; x_glob (v := .int 1000000000) (by rfl) e ⟨_, rfl⟩ rfl) a_nil)) a_nil)))))) (ss_one (s_ret (x_non))) ss_nil)
  (ss_cons (s_if (t_or (t_not (t_val (x_ofL (cr_all rfl) (ol_all rfl) (by rfl) T.b_all bb_all (l_lc0 (own := [("sign", 4)]) rfl sc_figures_ahead.nd (i_any rfl (x_var 1)) (blkOk_by (by kernel_rfl)) (tg_name (by decide) fun _ _ _ _ _ => (pg_name (i := 4) sc_figures_ahead.nd rfl (by first | exact .inl rfl | exact .inr rfl) (by first | exact .inl rfl | exact .inr rfl))) (fun _ _ _ _ _ => (xcmp (x2_in rfl (u65 hr)) (x_var 4) (let ⟨_, e⟩ := T.c_FIGURES; x_glob (v := .str "0123456789") (by rfl) e ⟨_, rfl⟩ rfl))))))) (w_or1 (tcmp (x2_ne rfl (u64 hr)) (xcT xc_str bb_str (by rfl) T.b_str (a_cons (xcT xc_int bb_int (by rfl) T.b_int (a_cons (x_var 1) a_nil)) a_nil)) (x_var 1)))) (ss_one (s_ret (x_non))) ss_nil)
  (ss_one (s_ret (x_tup (a_cons (xcT xc_int bb_int (by rfl) T.b_int (a_cons (x_var 1) a_nil)) (a_cons (x_var 3) a_nil))))))))
noncomputable def b_pair_of_line : MS :=
  (mSeq (mSet 1 (mCall 1 m_figures_ahead (mCons (mVar 0) mNil)))
  (mSeq (mSet 2 (mIf (mTst (mOp2 dIsNot (mVar 1) (mC .non))) (mCall 1 m_figures_ahead (mCons (mOp2 dIx (mVar 1) (mC (.int 1))) mNil)) (mC .non)))
  (mSeq (mIfS (mOr (mTst (mOp2 dIs (mVar 2) (mC .non))) (mTst (mOp2 dGt (mOp2 dIx (mVar 1) (mC (.int 0))) (mC (.int 1000000000))))) (mRet (mC .non)) mNext)
  (mSeq (mSet 3 (mSl dSl (mOp2 dIx (mVar 2) (mC (.int 1))) mNoP (mP (mOp2 dIx (mVar 2) (mC (.int 0))))))
  (mSeq (mIfS (mOr (mNot (mTst (mCall 1 m_is_payload_text (mCons (mVar 3) mNil)))) (mTst (mOp2 dNe (mCall 2 m_line_of (mCons (mOp2 dIx (mVar 1) (mC (.int 0))) (mCons (mVar 3) mNil))) (mVar 0)))) (mRet (mC .non)) mNext)
  (mRet (mTup (mCons (mOp2 dIx (mVar 1) (mC (.int 0))) (mCons (mVar 3) mNil)))))))))
noncomputable def m_pair_of_line : List D → SS → Res D := mFn 1 4 b_pair_of_line
theorem ok_pair_of_line (T : Txt K mg base A) : FnOk P w K mg base (L2.CX P w) 3 A.f_pair_of_line A.d_pair_of_line ["line"] (spOf (gOf K A) 1 m_pair_of_line) :=
  fn_ok (G := gOf K A) T.F_pair_of_line sc_pair_of_line rfl fun cdv A' outer s H E hr =>
  (ss_cons (s_set sc_pair_of_line.nd rfl (by first | exact .inl rfl | exact .inr rfl) (x_call (ok_figures_ahead T) hr (by decide) (takes_of rfl rfl rfl rfl) (by rfl) T.g_figures_ahead T.k_figures_ahead T.B_figures_ahead (a_cons (x_var 0) a_nil)))
  (ss_cons (s_set sc_pair_of_line.nd rfl (by first | exact .inl rfl | exact .inr rfl) (x_if (tcmp (x2_isnot) (x_var 1) (x_non)) (x_call (ok_figures_ahead T) hr (by decide) (takes_of rfl rfl rfl rfl) (by rfl) T.g_figures_ahead T.k_figures_ahead T.B_figures_ahead (a_cons (xix (xix_seq rfl) (x_var 1) (x_int)) a_nil)) (x_non)))
  (ss_cons (s_if (t_or (tcmp (x2_is) (x_var 2) (x_non)) (w_or1 (tcmp (x2_gt) (xix (xix_seq rfl) (x_var 1) (x_int)) (let ⟨_, e⟩ := T.c_MOST_FRAME; x_glob (v := .int 1000000000) (by rfl) e ⟨_, rfl⟩ rfl)))) (ss_one (s_ret (x_non))) ss_nil)
  (ss_cons (s_set sc_pair_of_line.nd rfl (by first | exact .inl rfl | exact .inr rfl) (xsl (xsl_seq rfl) (xix (xix_seq rfl) (x_var 2) (x_int)) o_none (o_some (xix (xix_seq rfl) (x_var 2) (x_int)))))
  (ss_cons (s_if (t_or (t_not (t_val (x_call (ok_is_payload_text T) hr (by decide) (takes_of rfl rfl rfl rfl) (by rfl) T.g_is_payload_text T.k_is_payload_text T.B_is_payload_text (a_cons (x_var 3) a_nil)))) (w_or1 (tcmp (x2_ne rfl (u64 hr)) (x_call (ok_line_of T) hr (by decide) (takes_of rfl rfl rfl rfl) (by rfl) T.g_line_of T.k_line_of T.B_line_of (a_cons (xix (xix_seq rfl) (x_var 1) (x_int)) (a_cons (x_var 3) a_nil))) (x_var 0)))) (ss_one (s_ret (x_non))) ss_nil)
  (ss_one (s_ret (x_tup (a_cons (xix (xix_seq rfl) (x_var 1) (x_int)) (a_cons (x_var 3) a_nil))))))))))
noncomputable def b_require_payload : MS :=
  (mIfS (mNot (mTst (mCall 1 m_is_payload_text (mCons (mVar 0) mNil)))) (mRaise "InvalidOperation") mNext)
noncomputable def m_require_payload : List D → SS → Res D := mFn 1 1 b_require_payload
theorem ok_require_payload (T : Txt K mg base A) : FnOk P w K mg base (L2.CX P w) 2 A.f_require_payload A.d_require_payload ["payload"] (spOf (gOf K A) 1 m_require_payload) :=
  fn_ok (G := gOf K A) T.F_require_payload sc_require_payload rfl fun cdv A' outer s H E hr =>
  (ss_one (s_if (t_not (t_val (x_call (ok_is_payload_text T) hr (by decide) (takes_of rfl rfl rfl rfl) (by rfl) T.g_is_payload_text T.k_is_payload_text T.B_is_payload_text (a_cons (x_var 0) a_nil)))) (ss_one (s_raise rfl (takes_of rfl rfl rfl rfl) (by rfl) (pmk_own PySem.F.excBase_ValueError T.x_InvalidOperation T.g_InvalidOperation T.k_InvalidOperation (raises_own T.xb_InvalidOperation T.xt_InvalidOperation) (by rfl)))) ss_nil))
noncomputable def b_is_payload : MS :=
  (mRet (mCall 1 m_is_payload_text (mCons (mVar 0) mNil)))
noncomputable def m_is_payload : List D → SS → Res D := mFn 1 1 b_is_payload
theorem ok_is_payload (T : Txt K mg base A) : FnOk P w K mg base (L2.CX P w) 2 A.f_is_payload A.d_is_payload ["value"] (spOf (gOf K A) 1 m_is_payload) :=
  fn_ok (G := gOf K A) T.F_is_payload sc_is_payload rfl fun cdv A' outer s H E hr =>
  (ss_one (s_ret (x_call (ok_is_payload_text T) hr (by decide) (takes_of rfl rfl rfl rfl) (by rfl) T.g_is_payload_text T.k_is_payload_text T.B_is_payload_text (a_cons (x_var 0) a_nil))))
noncomputable def b_frame_of : MS :=
  (mSeq (mIfS (mNot (mTst (mCall 3 m_is_between (mCons (mVar 0) (mCons (mC (.int 0)) (mCons (mC (.int 1000000000)) mNil)))))) (mRaiseF "InvalidNumber" "value" (mVar 0)) mNext)
  (mSeq (mDrop (mCall 1 m_require_payload (mCons (mVar 1) mNil)))
  (mRet (mOp2 dAdd (mCall 2 m_line_of (mCons (mVar 0) (mCons (mVar 1) mNil))) (mC (.str "\n"))))))
noncomputable def m_frame_of : List D → SS → Res D := mFn 2 2 b_frame_of
theorem ok_frame_of (T : Txt K mg base A) : FnOk P w K mg base (L2.CX P w) 3 A.f_frame_of A.d_frame_of ["number", "payload"] (spOf (gOf K A) 2 m_frame_of) :=
  fn_ok (G := gOf K A) T.F_frame_of sc_frame_of rfl fun cdv A' outer s H E hr =>
  (ss_cons (s_if (t_not (t_val (x_call (ok_is_between T) hr (by decide) (takes_of rfl rfl rfl rfl) (by rfl) T.g_is_between T.k_is_between T.B_is_between (a_cons (x_var 0) (a_cons (x_int) (a_cons (let ⟨_, e⟩ := T.c_MOST_FRAME; x_glob (v := .int 1000000000) (by rfl) e ⟨_, rfl⟩ rfl) a_nil)))))) (ss_one (s_raiseF rfl (takes_of rfl rfl rfl rfl) (by rfl) T.e_InvalidNumber errN_value hr (x_var 0) (by rfl))) ss_nil)
  (ss_cons (s_drop (x_call (ok_require_payload T) hr (by decide) (takes_of rfl rfl rfl rfl) (by rfl) T.g_require_payload T.k_require_payload T.B_require_payload (a_cons (x_var 1) a_nil)))
  (ss_one (s_ret (xb (x2_add rfl) (x_call (ok_line_of T) hr (by decide) (takes_of rfl rfl rfl rfl) (by rfl) T.g_line_of T.k_line_of T.B_line_of (a_cons (x_var 0) (a_cons (x_var 1) a_nil))) (let ⟨_, e⟩ := T.c_END; x_glob (v := .str "\n") (by rfl) e ⟨_, rfl⟩ rfl))))))
noncomputable def b_read_line : MS :=
  (mSeq (mSet 1 (mIf (mAnd (mTst (mOp1 (dIsi ["str"]) (mVar 0))) (mTst (mOp2 dNotIn (mC (.str "\n")) (mVar 0)))) (mCall 1 m_pair_of_line (mCons (mVar 0) mNil)) (mC .non)))
  (mSeq (mIfS (mTst (mOp2 dIs (mVar 1) (mC .non))) (mRaise "ParseError") mNext)
  (mRet (mVar 1))))
noncomputable def m_read_line : List D → SS → Res D := mFn 1 2 b_read_line
theorem ok_read_line (T : Txt K mg base A) : FnOk P w K mg base (L2.CX P w) 4 A.f_read_line A.d_read_line ["line"] (spOf (gOf K A) 1 m_read_line) :=
  fn_ok (G := gOf K A) T.F_read_line sc_read_line rfl fun cdv A' outer s H E hr =>
  (ss_cons (s_set sc_read_line.nd rfl (by first | exact .inl rfl | exact .inr rfl) (x_if (t_and (t_val (xisi rfl (by rfl) T.b_isinstance (by rfl) T.b_str bb_str tg_str (x_var 0))) (w_and1 (tcmp (x2_notin rfl (u65 hr)) (let ⟨_, e⟩ := T.c_END; x_glob (v := .str "\n") (by rfl) e ⟨_, rfl⟩ rfl) (x_var 0)))) (x_call (ok_pair_of_line T) hr (by decide) (takes_of rfl rfl rfl rfl) (by rfl) T.g_pair_of_line T.k_pair_of_line T.B_pair_of_line (a_cons (x_var 0) a_nil)) (x_non)))
  (ss_cons (s_if (tcmp (x2_is) (x_var 1) (x_non)) (ss_one (s_raise rfl (takes_of rfl rfl rfl rfl) (by rfl) (pmk_own PySem.F.excBase_ValueError T.x_ParseError T.g_ParseError T.k_ParseError (raises_own T.xb_ParseError T.xt_ParseError) (by rfl)))) ss_nil)
  (ss_one (s_ret (x_var 1)))))
noncomputable def b__law_dice : MS :=
  (mSeq (mSet 2 (mIf (mTst (mOp2 dLt (mVar 1) (mOpA dLen (mCons (mVar 0) mNil)))) (mOpA dInt (mCons (mOp2 dIx (mVar 0) (mVar 1)) mNil)) (mOp2 dAdd (mOp2 dAdd (mOp2 dMul (mC (.int 719)) (mVar 1)) (mC (.int 83))) (mOp2 dMod (mOpA dInt (mCons (mOpA dSumO (mCons (mSl dSl (mVar 0) mNoP (mP (mC (.int 1)))) mNil)) mNil)) (mC (.int 1000003))))))
  (mSeq (mSet 3 (mOp2 dMod (mOpA dInt (mCons (mOpA dAbs (mCons (mVar 2) mNil)) mNil)) (mOp2 dPow (mOp2 dPow (mC (.int 10)) (mC (.int 59))) (mC (.int 5)))))
  (mRet (mNew (mLst (mCons (mOpA dMax (mCons (mC (.int 0)) (mCons (mOp2 dSub (mVar 3) (mOp2 dPow (mC (.int 10)) (mC (.int 17)))) mNil))) (mCons (mOp2 dAdd (mOp2 dAdd (mOp2 dMul (mOp2 dMod (mOpA dInt (mCons (mVar 3) mNil)) (mC (.int 18446744073709551557))) (mC (.int 8))) (mOp2 dMul (mC (.int 4)) (mOpA dInt (mCons (mOp2 dLt (mVar 2) (mC (.int 0))) mNil)))) (mVar 1)) mNil)))))))
noncomputable def m__law_dice : List D → SS → Res D := mFn 2 4 b__law_dice
theorem ok__law_dice (T : Txt K mg base A) : FnOk P w K mg base (L2.CX P w) 1 A.f__law_dice A.d__law_dice ["script", "spot"] (spOf (gOf K A) 2 m__law_dice) :=
  fn_ok (G := gOf K A) T.F__law_dice sc__law_dice rfl fun cdv A' outer s H E hr =>
  (ss_cons (s_set sc__law_dice.nd rfl (by first | exact .inl rfl | exact .inr rfl) (x_if (tcmp (x2_lt) (x_var 1) (xcB (xc_len rfl) bb_len (by rfl) T.b_len (a_cons (x_var 0) a_nil))) (xcT xc_int bb_int (by rfl) T.b_int (a_cons (xix (xix_seq rfl) (x_var 0) (x_var 1)) a_nil)) (xb (x2_add rfl) (xb (x2_add rfl) (xb (x2_mul rfl) (x_int) (x_var 1)) (x_int)) (xb (x2_mod) (xcT xc_int bb_int (by rfl) T.b_int (a_cons (xcB (xc_sum rfl rfl) bb_sum (by rfl) T.b_sum (a_cons (xsl (xsl_seq rfl) (x_var 0) o_none (o_some (x_int))) a_nil)) a_nil)) (x_int)))))
  (ss_cons (s_set sc__law_dice.nd rfl (by first | exact .inl rfl | exact .inr rfl) (xb (x2_mod) (xcT xc_int bb_int (by rfl) T.b_int (a_cons (xcB xc_abs bb_abs (by rfl) T.b_abs (a_cons (x_var 2) a_nil)) a_nil)) (xb (x2_pow) (xb (x2_pow) (x_int) (x_int)) (x_int))))
  (ss_one (s_ret (x_new (l_lst (a_cons (xcB (xc_max rfl) bb_max (by rfl) T.b_max (a_cons (x_int) (a_cons (xb (x2_sub) (x_var 3) (xb (x2_pow) (x_int) (x_int))) a_nil))) (a_cons (xb (x2_add rfl) (xb (x2_add rfl) (xb (x2_mul rfl) (xb (x2_mod) (xcT xc_int bb_int (by rfl) T.b_int (a_cons (x_var 3) a_nil)) (x_int)) (x_int)) (xb (x2_mul rfl) (x_int) (xcT xc_int bb_int (by rfl) T.b_int (a_cons (xcmp (x2_lt) (x_var 2) (x_int)) a_nil)))) (x_var 1)) a_nil))))))))
noncomputable def b__law_roll : MS :=
  (mSeq (mIfS (mTst (mOp2 dGt (mOp2 dIx (mVar 0) (mC (.int 0))) (mC (.int 0)))) (mSeq (mSet 2 (mOp2 dMod (mOpA dInt (mCons (mOp2 dIx (mVar 0) (mC (.int 0))) mNil)) (mVar 1)))
  (mSeq (mAsg (gmSub (mVar 0) (mC (.int 0))) (mOp2 dDiv (mOp2 dIx (mVar 0) (mC (.int 0))) (mVar 1)))
  (mRet (mVar 2)))) mNext)
  (mSeq (mAsg (gmSub (mVar 0) (mC (.int 1))) (mOp2 dMod (mOpA dInt (mCons (mOp2 dAdd (mOp2 dMul (mOp2 dIx (mVar 0) (mC (.int 1))) (mC (.int 6364136223846793005))) (mC (.int 1442695040888963407))) mNil)) (mC (.int 18446744073709551616))))
  (mRet (mOp2 dMod (mOpA dInt (mCons (mOp2 dDiv (mOp2 dIx (mVar 0) (mC (.int 1))) (mC (.int 4294967296))) mNil)) (mVar 1)))))
noncomputable def m__law_roll : List D → SS → Res D := mFn 2 3 b__law_roll
theorem ok__law_roll (T : Txt K mg base A) : FnOk P w K mg base (L2.CX P w) 1 A.f__law_roll A.d__law_roll ["dice", "total"] (spOf (gOf K A) 2 m__law_roll) :=
  fn_ok (G := gOf K A) T.F__law_roll sc__law_roll rfl fun cdv A' outer s H E hr =>
  (ss_cons (s_if (tcmp (x2_gt) (xix (xix_seq rfl) (x_var 0) (x_int)) (x_int)) (ss_cons (s_set sc__law_roll.nd rfl (by first | exact .inl rfl | exact .inr rfl) (xb (x2_mod) (xcT xc_int bb_int (by rfl) T.b_int (a_cons (xix (xix_seq rfl) (x_var 0) (x_int)) a_nil)) (x_var 1)))
  (ss_cons (s_asg (xb (x2_div) (xix (xix_seq rfl) (x_var 0) (x_int)) (x_var 1)) (g_sub (x_var 0) (x_int)))
  (ss_one (s_ret (x_var 2))))) ss_nil)
  (ss_cons (s_asg (xb (x2_mod) (xcT xc_int bb_int (by rfl) T.b_int (a_cons (xb (x2_add rfl) (xb (x2_mul rfl) (xix (xix_seq rfl) (x_var 0) (x_int)) (x_int)) (x_int)) a_nil)) (x_int)) (g_sub (x_var 0) (x_int)))
  (ss_one (s_ret (xb (x2_mod) (xcT xc_int bb_int (by rfl) T.b_int (a_cons (xb (x2_div) (xix (xix_seq rfl) (x_var 0) (x_int)) (x_int)) a_nil)) (x_var 1))))))
noncomputable def b__law_pick : MS :=
  (mRet (mOp2 dIx (mVar 1) (mCall 2 m__law_roll (mCons (mVar 0) (mCons (mOpA dLen (mCons (mVar 1) mNil)) mNil)))))
noncomputable def m__law_pick : List D → SS → Res D := mFn 2 2 b__law_pick
theorem ok__law_pick (T : Txt K mg base A) : FnOk P w K mg base (L2.CX P w) 2 A.f__law_pick A.d__law_pick ["dice", "items"] (spOf (gOf K A) 2 m__law_pick) :=
  fn_ok (G := gOf K A) T.F__law_pick sc__law_pick rfl fun cdv A' outer s H E hr =>
  (ss_one (s_ret (xix (xix_seq rfl) (x_var 1) (x_call (ok__law_roll T) hr (by decide) (takes_of rfl rfl rfl rfl) (by rfl) T.g__law_roll T.k__law_roll T.B__law_roll (a_cons (x_var 0) (a_cons (xcB (xc_len rfl) bb_len (by rfl) T.b_len (a_cons (x_var 1) a_nil)) a_nil))))))
noncomputable def b__law_check : MS :=
  (mSeq (mSet 1 (mC (.int 0)))
  (mSeq (mFor (mItEnS (mVar 0)) (gmTup [(gmName 2), (gmName 3)]) (mSet 1 (mOp2 dAdd (mVar 1) (mOp2 dMul (mOp2 dAdd (mVar 2) (mC (.int 1))) (mOpA dOrd (mCons (mVar 3) mNil))))))
  (mRet (mOp2 dMod (mOpA dInt (mCons (mVar 1) mNil)) (mC (.int 9973))))))
noncomputable def m__law_check : List D → SS → Res D := mFn 1 4 b__law_check
theorem ok__law_check (T : Txt K mg base A) : FnOk P w K mg base (L2.CX P w) 1 A.f__law_check A.d__law_check ["text"] (spOf (gOf K A) 1 m__law_check) :=
  fn_ok (G := gOf K A) T.F__law_check sc__law_check rfl fun cdv A' outer s H E hr =>
  (ss_cons (s_set sc__law_check.nd rfl (by first | exact .inl rfl | exact .inr rfl) (x_int))
  (ss_cons (s_for (passes_of rfl) rfl (i_enS (by rfl) T.b_enumerate (x_var 0)) (g_tup rfl rfl (XGs.cons (g_name sc__law_check.nd rfl (by first | exact .inl rfl | exact .inr rfl)) (XGs.cons (g_name sc__law_check.nd rfl (by first | exact .inl rfl | exact .inr rfl)) XGs.nil))) (ss_one (s_set sc__law_check.nd rfl (by first | exact .inl rfl | exact .inr rfl) (xb (x2_add rfl) (x_var 1) (xb (x2_mul rfl) (xb (x2_add rfl) (x_var 2) (x_int)) (xcB xc_ord bb_ord (by rfl) T.b_ord (a_cons (x_var 3) a_nil)))))))
  (ss_one (s_ret (xb (x2_mod) (xcT xc_int bb_int (by rfl) T.b_int (a_cons (x_var 1) a_nil)) (x_int))))))
noncomputable def b__law_line : MS :=
  (mSeq (mSet 2 (mOp2 dAdd (mOp2 dAdd (mOp2 dAdd (mOp2 dAdd (mOpA dStr (mCons (mVar 0) mNil)) (mC (.str ":"))) (mOpA dStr (mCons (mOpA dLen (mCons (mVar 1) mNil)) mNil))) (mC (.str ":"))) (mVar 1)))
  (mRet (mOp2 dAdd (mOp2 dAdd (mVar 2) (mC (.str "#"))) (mOpA dStr (mCons (mCall 1 m__law_check (mCons (mVar 2) mNil)) mNil)))))
noncomputable def m__law_line : List D → SS → Res D := mFn 2 3 b__law_line
theorem ok__law_line (T : Txt K mg base A) : FnOk P w K mg base (L2.CX P w) 2 A.f__law_line A.d__law_line ["number", "payload"] (spOf (gOf K A) 2 m__law_line) :=
  fn_ok (G := gOf K A) T.F__law_line sc__law_line rfl fun cdv A' outer s H E hr =>
  (ss_cons (s_set sc__law_line.nd rfl (by first | exact .inl rfl | exact .inr rfl) (xb (x2_add rfl) (xb (x2_add rfl) (xb (x2_add rfl) (xb (x2_add rfl) (xcT xc_str bb_str (by rfl) T.b_str (a_cons (x_var 0) a_nil)) (x_str)) (xcT xc_str bb_str (by rfl) T.b_str (a_cons (xcB (xc_len rfl) bb_len (by rfl) T.b_len (a_cons (x_var 1) a_nil)) a_nil))) (x_str)) (x_var 1)))
  (ss_one (s_ret (xb (x2_add rfl) (xb (x2_add rfl) (x_var 2) (x_str)) (xcT xc_str bb_str (by rfl) T.b_str (a_cons (x_call (ok__law_check T) hr (by decide) (takes_of rfl rfl rfl rfl) (by rfl) T.g__law_check T.k__law_check T.B__law_check (a_cons (x_var 2) a_nil)) a_nil))))))
noncomputable def b__law_number : MS :=
  (mRet (mCall 2 m__law_pick (mCons (mVar 0) (mCons (mNew (mLst (mCons (mC (.int 0)) (mCons (mOp2 dPow (mC (.int 10)) (mC (.int 9))) (mCons (mCall 2 m__law_roll (mCons (mVar 0) (mCons (mC (.int 20)) mNil))) (mCons (mCall 2 m__law_roll (mCons (mVar 0) (mCons (mOp2 dPow (mC (.int 10)) (mC (.int 9))) mNil))) mNil)))))) mNil))))
noncomputable def m__law_number : List D → SS → Res D := mFn 1 1 b__law_number
theorem ok__law_number (T : Txt K mg base A) : FnOk P w K mg base (L2.CX P w) 3 A.f__law_number A.d__law_number ["dice"] (spOf (gOf K A) 1 m__law_number) :=
  fn_ok (G := gOf K A) T.F__law_number sc__law_number rfl fun cdv A' outer s H E hr =>
  (ss_one (s_ret (x_call (ok__law_pick T) hr (by decide) (takes_of rfl rfl rfl rfl) (by rfl) T.g__law_pick T.k__law_pick T.B__law_pick (a_cons (x_var 0) (a_cons (x_new (l_lst (a_cons (x_int) (a_cons (xb (x2_pow) (x_int) (x_int)) (a_cons (x_call (ok__law_roll T) hr (by decide) (takes_of rfl rfl rfl rfl) (by rfl) T.g__law_roll T.k__law_roll T.B__law_roll (a_cons (x_var 0) (a_cons (x_int) a_nil))) (a_cons (x_call (ok__law_roll T) hr (by decide) (takes_of rfl rfl rfl rfl) (by rfl) T.g__law_roll T.k__law_roll T.B__law_roll (a_cons (x_var 0) (a_cons (xb (x2_pow) (x_int) (x_int)) a_nil))) a_nil)))))) a_nil)))))
noncomputable def b__law_payload : MS :=
  (mSeq (mSet 1 (mCall 2 m__law_pick (mCons (mVar 0) (mCons (mNew (mLst (mCons (mC (.str "ab c")) (mCons (mC (.str "0123456789:#")) (mCons (mC (.str " ~!t(1); x")) (mCons (mC (.str "put q t(1)")) mNil)))))) mNil))))
  (mSeq (mSet 2 (mCall 2 m__law_pick (mCons (mVar 0) (mCons (mNew (mLst (mCons (mC (.int 0)) (mCons (mC (.int 1)) (mCons (mC (.int 2)) (mCons (mC (.int 9)) (mCons (mC (.int 40)) (mCons (mC (.int 299)) (mCons (mC (.int 300)) mNil))))))))) mNil))))
  (mRet (mOp2 dAdd (mM1OfL dJoin (mC (.str "")) (mLc [3] (mItRng1 (mCons (mOpA dMin (mCons (mVar 2) (mCons (mC (.int 60)) mNil))) mNil)) (gmName 3) mYes (mCall 2 m__law_pick (mCons (mVar 0) (mCons (mVar 1) mNil))))) (mOp2 dMul (mCall 2 m__law_pick (mCons (mVar 0) (mCons (mVar 1) mNil))) (mOpA dMax (mCons (mC (.int 0)) (mCons (mOp2 dSub (mVar 2) (mC (.int 60))) mNil))))))))
noncomputable def m__law_payload : List D → SS → Res D := mFn 1 4 b__law_payload
theorem ok__law_payload (T : Txt K mg base A) : FnOk P w K mg base (L2.CX P w) 3 A.f__law_payload A.d__law_payload ["dice"] (spOf (gOf K A) 1 m__law_payload) :=
  fn_ok (G := gOf K A) T.F__law_payload sc__law_payload rfl fun cdv A' outer s H E hr =>
  (ss_cons (s_set sc__law_payload.nd rfl (by first | exact .inl rfl | exact .inr rfl) (x_call (ok__law_pick T) hr (by decide) (takes_of rfl rfl rfl rfl) (by rfl) T.g__law_pick T.k__law_pick T.B__law_pick (a_cons (x_var 0) (a_cons (x_new (l_lst (a_cons (x_str) (a_cons (x_str) (a_cons (x_str) (a_cons (x_str) a_nil)))))) a_nil))))
  (ss_cons (s_set sc__law_payload.nd rfl (by first | exact .inl rfl | exact .inr rfl) (x_call (ok__law_pick T) hr (by decide) (takes_of rfl rfl rfl rfl) (by rfl) T.g__law_pick T.k__law_pick T.B__law_pick (a_cons (x_var 0) (a_cons (x_new (l_lst (a_cons (x_int) (a_cons (x_int) (a_cons (x_int) (a_cons (x_int) (a_cons (x_int) (a_cons (x_int) (a_cons (x_int) a_nil))))))))) a_nil))))
  (ss_one (s_ret (xb (x2_add rfl) (x_m1ofL PySem.F.slot_str_join PySem.F.type_str_join mt_join (os_join rfl) (x_str) (l_lc0 (own := [("turn", 3)]) rfl sc__law_payload.nd (i_rng1 (by rfl) T.b_range (a_cons (xcB (xc_min rfl) bb_min (by rfl) T.b_min (a_cons (x_var 2) (a_cons (x_int) a_nil))) a_nil)) (blkOk_by (by kernel_rfl)) (tg_name (by decide) fun _ _ _ _ _ => (pg_name (i := 3) sc__law_payload.nd rfl (by first | exact .inl rfl | exact .inr rfl) (by first | exact .inl rfl | exact .inr rfl))) (fun _ _ _ _ _ => (x_call (ok__law_pick T) hr (by decide) L2.takes0 (by rfl) T.g__law_pick T.k__law_pick T.B__law_pick (a_cons (x_var 0) (a_cons (x_var 1) a_nil)))))) (xb (x2_mul rfl) (x_call (ok__law_pick T) hr (by decide) (takes_of rfl rfl rfl rfl) (by rfl) T.g__law_pick T.k__law_pick T.B__law_pick (a_cons (x_var 0) (a_cons (x_var 1) a_nil))) (xcB (xc_max rfl) bb_max (by rfl) T.b_max (a_cons (x_int) (a_cons (xb (x2_sub) (x_var 2) (x_int)) a_nil)))))))))
noncomputable def b__law_read : MS :=
  (mTry (mRet (mCall 1 m_read_line (mCons (mVar 0) mNil))) [.plain ["ParseError"] (mRet (mC .non))])
noncomputable def m__law_read : List D → SS → Res D := mFn 1 1 b__law_read
theorem ok__law_read (T : Txt K mg base A) : FnOk P w K mg base (L2.CX P w) 5 A.f__law_read A.d__law_read ["line"] (spOf (gOf K A) 1 m__law_read) :=
  fn_ok (G := gOf K A) T.F__law_read sc__law_read rfl fun cdv A' outer s H E hr =>
  (ss_one (s_try rfl rfl rfl sc__law_read.nd (takes_of rfl rfl rfl rfl) (fun _ _ _ tk po => (ss_one (s_ret (x_call (ok_read_line T) hr (by decide) tk (by rfl) T.g_read_line T.k_read_line T.B_read_line (a_cons (x_var 0) a_nil))))) (XCs.plain ⟨rfl, by decide, .inl T.g_ParseError⟩ (T.s_ParseError) (fun _ _ _ => (ss_one (s_ret (x_non)))) XCs.nil)))
noncomputable def b__law_frame_right : MS :=
  (mSeq (mSet 3 (mCall 2 m__law_line (mCons (mVar 1) (mCons (mVar 2) mNil))))
  (mSeq (mIfS (mOr (mTst (mOp2 dNe (mCall 2 m_frame_of (mCons (mVar 1) (mCons (mVar 2) mNil))) (mOp2 dAdd (mVar 3) (mC (.str "\n"))))) (mOr (mTst (mOp2 dNe (mCall 1 m_read_line (mCons (mVar 3) mNil)) (mTup (mCons (mVar 1) (mCons (mVar 2) mNil))))) (mTst (mOp2 dIsNot (mCall 1 m_is_payload (mCons (mVar 2) mNil)) (mC (.bl true)))))) (mRet (mC (.bl false))) mNext)
  (mSeq (mFor (mItRng1 (mCons (mC (.int 30)) mNil)) (gmName 4) (mSeq (mSet 5 (mCall 2 m__law_pick (mCons (mVar 0) (mCons (mNew (mLst (mCons (mC (.int 0)) (mCons (mOp2 dSub (mOpA dLen (mCons (mVar 3) mNil)) (mC (.int 1))) (mCons (mCall 2 m__law_roll (mCons (mVar 0) (mCons (mOpA dLen (mCons (mVar 3) mNil)) mNil))) (mCons (mCall 2 m__law_roll (mCons (mVar 0) (mCons (mOpA dLen (mCons (mVar 3) mNil)) mNil))) mNil)))))) mNil))))
  (mSeq (mSet 6 (mCall 2 m__law_pick (mCons (mVar 0) (mCons (mOp2 dAdd (mC (.str "0123456789:# ~aZt(")) (mOp2 dIx (mVar 3) (mCall 2 m__law_roll (mCons (mVar 0) (mCons (mOpA dLen (mCons (mVar 3) mNil)) mNil))))) mNil))))
  (mIfS (mAnd (mTst (mOp2 dNe (mVar 6) (mOp2 dIx (mVar 3) (mVar 5)))) (mTst (mOp2 dIsNot (mCall 1 m__law_read (mCons (mOp2 dAdd (mOp2 dAdd (mSl dSl (mVar 3) mNoP (mP (mVar 5))) (mVar 6)) (mSl dSl (mVar 3) (mP (mOp2 dAdd (mVar 5) (mC (.int 1)))) mNoP)) mNil)) (mC .non)))) (mRet (mC (.bl false))) mNext))))
  (mSeq (mSet 7 (mOpA dStr (mCons (mOpA dLen (mCons (mVar 2) mNil)) mNil)))
  (mSeq (mSet 8 (mNew (mLst (mCons (mOp2 dAdd (mVar 3) (mC (.str " "))) (mCons (mOp2 dAdd (mC (.str " ")) (mVar 3)) (mCons (mOp2 dAdd (mC (.str "0")) (mVar 3)) (mCons (mOp2 dAdd (mVar 3) (mC (.str "\n"))) (mCons (mOp2 dAdd (mC (.str "\n")) (mVar 3)) (mCons (mC (.str "")) (mCons (mSl dSl (mVar 3) mNoP (mP (mOp1 dNeg (mC (.int 1))))) (mCons (mOp2 dAdd (mVar 3) (mC (.str "0"))) (mCons (mOp2 dAdd (mC (.str "-")) (mVar 3)) (mCons (mOp2 dAdd (mC (.str "+")) (mVar 3)) (mCons (mRep1 58 "::" (mVar 3)) (mCons (mRep1 58 "" (mVar 3)) mNil)))))))))))))))
  (mSeq (mSet 9 (mOp2 dAdd (mOp2 dAdd (mOp2 dAdd (mOp2 dAdd (mOpA dStr (mCons (mVar 1) mNil)) (mC (.str ":0"))) (mVar 7)) (mC (.str ":"))) (mVar 2)))
  (mSeq (mDrop (mMeth isLst dAppend (mVar 8) (mCons (mOp2 dAdd (mOp2 dAdd (mVar 9) (mC (.str "#"))) (mOpA dStr (mCons (mCall 1 m__law_check (mCons (mVar 9) mNil)) mNil))) mNil)))
  (mSeq (mFor (mItAny (mTup (mCons (mOp2 dAdd (mOpA dLen (mCons (mVar 2) mNil)) (mC (.int 1))) (mCons (mOp2 dSub (mOpA dLen (mCons (mVar 2) mNil)) (mC (.int 1))) mNil)))) (gmName 10) (mSeq (mSet 9 (mOp2 dAdd (mOp2 dAdd (mOp2 dAdd (mOp2 dAdd (mOpA dStr (mCons (mVar 1) mNil)) (mC (.str ":"))) (mOpA dStr (mCons (mVar 10) mNil))) (mC (.str ":"))) (mVar 2)))
  (mDrop (mMeth isLst dAppend (mVar 8) (mCons (mOp2 dAdd (mOp2 dAdd (mVar 9) (mC (.str "#"))) (mOpA dStr (mCons (mCall 1 m__law_check (mCons (mVar 9) mNil)) mNil))) mNil)))))
  (mSeq (mFor (mItAny (mTup (mCons (mOp2 dAdd (mVar 2) (mOp2 dMul (mC (.str "x")) (mOp2 dSub (mC (.int 301)) (mOpA dLen (mCons (mVar 2) mNil))))) (mCons (mOp2 dAdd (mSl dSl (mVar 2) mNoP (mP (mC (.int 200)))) (mC (.str "\t"))) mNil)))) (gmName 11) (mSeq (mSet 9 (mOp2 dAdd (mOp2 dAdd (mOp2 dAdd (mOp2 dAdd (mOpA dStr (mCons (mVar 1) mNil)) (mC (.str ":"))) (mOpA dStr (mCons (mOpA dLen (mCons (mVar 11) mNil)) mNil))) (mC (.str ":"))) (mVar 11)))
  (mDrop (mMeth isLst dAppend (mVar 8) (mCons (mOp2 dAdd (mOp2 dAdd (mVar 9) (mC (.str "#"))) (mOpA dStr (mCons (mCall 1 m__law_check (mCons (mVar 9) mNil)) mNil))) mNil)))))
  (mSeq (mSet 9 (mOp2 dAdd (mOp2 dAdd (mOp2 dAdd (mOp2 dAdd (mOpA dStr (mCons (mOp2 dAdd (mOp2 dPow (mC (.int 10)) (mC (.int 9))) (mC (.int 1))) mNil)) (mC (.str ":"))) (mVar 7)) (mC (.str ":"))) (mVar 2)))
  (mSeq (mDrop (mMeth isLst dAppend (mVar 8) (mCons (mOp2 dAdd (mOp2 dAdd (mVar 9) (mC (.str "#"))) (mOpA dStr (mCons (mCall 1 m__law_check (mCons (mVar 9) mNil)) mNil))) mNil)))
  (mSeq (mDrop (mMeth isLst dAppend (mVar 8) (mCons (mOp2 dAdd (mOp2 dAdd (mOp2 dAdd (mOp2 dAdd (mOp2 dAdd (mOp2 dAdd (mOpA dStr (mCons (mVar 1) mNil)) (mC (.str ":"))) (mVar 7)) (mC (.str ":"))) (mVar 2)) (mC (.str "#0"))) (mOpA dStr (mCons (mCall 1 m__law_check (mCons (mOp2 dAdd (mOp2 dAdd (mOp2 dAdd (mOp2 dAdd (mOpA dStr (mCons (mVar 1) mNil)) (mC (.str ":"))) (mVar 7)) (mC (.str ":"))) (mVar 2)) mNil)) mNil))) mNil)))
  (mRet (mOp2 dEq (mNew (mLc [11] (mItAny (mVar 8)) (gmName 11) (mTst (mOp2 dIsNot (mCall 1 m__law_read (mCons (mVar 11) mNil)) (mC .non))) (mVar 11))) (mNew (mLst mNil))))))))))))))))
noncomputable def m__law_frame_right : List D → SS → Res D := mFn 3 12 b__law_frame_right
theorem ok__law_frame_right (T : Txt K mg base A) : FnOk P w K mg base (L2.CX P w) 6 A.f__law_frame_right A.d__law_frame_right ["dice", "number", "payload"] (spOf (gOf K A) 3 m__law_frame_right) :=
  fn_ok (G := gOf K A) T.F__law_frame_right sc__law_frame_right rfl fun cdv A' outer s H E hr =>
  (ss_cons (s_set sc__law_frame_right.nd rfl (by first | exact .inl rfl | exact .inr rfl) (x_call (ok__law_line T) hr (by decide) (takes_of rfl rfl rfl rfl) (by rfl) T.g__law_line T.k__law_line T.B__law_line (a_cons (x_var 1) (a_cons (x_var 2) a_nil))))
  (ss_cons (s_if (t_or (tcmp (x2_ne rfl (u64 hr)) (x_call (ok_frame_of T) hr (by decide) (takes_of rfl rfl rfl rfl) (by rfl) T.g_frame_of T.k_frame_of T.B_frame_of (a_cons (x_var 1) (a_cons (x_var 2) a_nil))) (xb (x2_add rfl) (x_var 3) (x_str))) (w_or (tcmp (x2_ne rfl (u64 hr)) (x_call (ok_read_line T) hr (by decide) (takes_of rfl rfl rfl rfl) (by rfl) T.g_read_line T.k_read_line T.B_read_line (a_cons (x_var 3) a_nil)) (x_tup (a_cons (x_var 1) (a_cons (x_var 2) a_nil)))) (w_or1 (tcmp (x2_isnot) (x_call (ok_is_payload T) hr (by decide) (takes_of rfl rfl rfl rfl) (by rfl) T.g_is_payload T.k_is_payload T.B_is_payload (a_cons (x_var 2) a_nil)) (x_bl))))) (ss_one (s_ret (x_bl))) ss_nil)
  (ss_cons (s_for (passes_of rfl) rfl (i_rng1 (by rfl) T.b_range (a_cons (x_int) a_nil)) (g_name sc__law_frame_right.nd rfl (by first | exact .inl rfl | exact .inr rfl)) (ss_cons (s_set sc__law_frame_right.nd rfl (by first | exact .inl rfl | exact .inr rfl) (x_call (ok__law_pick T) hr (by decide) (takes_of rfl rfl rfl rfl) (by rfl) T.g__law_pick T.k__law_pick T.B__law_pick (a_cons (x_var 0) (a_cons (x_new (l_lst (a_cons (x_int) (a_cons (xb (x2_sub) (xcB (xc_len rfl) bb_len (by rfl) T.b_len (a_cons (x_var 3) a_nil)) (x_int)) (a_cons (x_call (ok__law_roll T) hr (by decide) (takes_of rfl rfl rfl rfl) (by rfl) T.g__law_roll T.k__law_roll T.B__law_roll (a_cons (x_var 0) (a_cons (xcB (xc_len rfl) bb_len (by rfl) T.b_len (a_cons (x_var 3) a_nil)) a_nil))) (a_cons (x_call (ok__law_roll T) hr (by decide) (takes_of rfl rfl rfl rfl) (by rfl) T.g__law_roll T.k__law_roll T.B__law_roll (a_cons (x_var 0) (a_cons (xcB (xc_len rfl) bb_len (by rfl) T.b_len (a_cons (x_var 3) a_nil)) a_nil))) a_nil)))))) a_nil))))
  (ss_cons (s_set sc__law_frame_right.nd rfl (by first | exact .inl rfl | exact .inr rfl) (x_call (ok__law_pick T) hr (by decide) (takes_of rfl rfl rfl rfl) (by rfl) T.g__law_pick T.k__law_pick T.B__law_pick (a_cons (x_var 0) (a_cons (xb (x2_add rfl) (x_str) (xix (xix_seq rfl) (x_var 3) (x_call (ok__law_roll T) hr (by decide) (takes_of rfl rfl rfl rfl) (by rfl) T.g__law_roll T.k__law_roll T.B__law_roll (a_cons (x_var 0) (a_cons (xcB (xc_len rfl) bb_len (by rfl) T.b_len (a_cons (x_var 3) a_nil)) a_nil))))) a_nil))))
  (ss_one (s_if (t_and (tcmp (x2_ne rfl (u64 hr)) (x_var 6) (xix (xix_seq rfl) (x_var 3) (x_var 5))) (w_and1 (tcmp (x2_isnot) (x_call (ok__law_read T) hr (by decide) (takes_of rfl rfl rfl rfl) (by rfl) T.g__law_read T.k__law_read T.B__law_read (a_cons (xb (x2_add rfl) (xb (x2_add rfl) (xsl (xsl_seq rfl) (x_var 3) o_none (o_some (x_var 5))) (x_var 6)) (xsl (xsl_seq rfl) (x_var 3) (o_some (xb (x2_add rfl) (x_var 5) (x_int))) o_none)) a_nil)) (x_non)))) (ss_one (s_ret (x_bl))) ss_nil)))))
  (ss_cons (s_set sc__law_frame_right.nd rfl (by first | exact .inl rfl | exact .inr rfl) (xcT xc_str bb_str (by rfl) T.b_str (a_cons (xcB (xc_len rfl) bb_len (by rfl) T.b_len (a_cons (x_var 2) a_nil)) a_nil)))
  (ss_cons (s_set sc__law_frame_right.nd rfl (by first | exact .inl rfl | exact .inr rfl) (x_new (l_lst (a_consK (xk_bin (x2_add rfl) (x_var 3)) (at_cons (xt_of (xb (x2_add rfl) (x_str) (x_var 3))) (at_cons (xt_of (xb (x2_add rfl) (x_str) (x_var 3))) (at_cons (xt_of (xb (x2_add rfl) (x_var 3) (x_str))) (at_cons (xt_of (xb (x2_add rfl) (x_str) (x_var 3))) (at_cons (xt_of (x_str)) (at_cons (xt_of (xsl (xsl_seq rfl) (x_var 3) o_none (o_some (xu x1_neg (x_int))))) (at_cons (xt_of (xb (x2_add rfl) (x_var 3) (x_str))) (at_cons (xt_of (xb (x2_add rfl) (x_str) (x_var 3))) (at_cons (xt_of (xb (x2_add rfl) (x_str) (x_var 3))) (at_cons (xt_rep1 (c := 58) (x_var 3) (by decide) (by decide)) (at_cons (xt_rep1 (c := 58) (x_var 3) (by decide) (by decide)) at_nil)))))))))))))))
  (ss_cons (s_set sc__law_frame_right.nd rfl (by first | exact .inl rfl | exact .inr rfl) (xb (x2_add rfl) (xb (x2_add rfl) (xb (x2_add rfl) (xb (x2_add rfl) (xcT xc_str bb_str (by rfl) T.b_str (a_cons (x_var 1) a_nil)) (x_str)) (x_var 7)) (x_str)) (x_var 2)))
  (ss_cons (s_drop (x_bm PySem.F.plainAttrs_list PySem.F.slot_list_append PySem.F.type_list_append (fun pins s σ H x xs v us Q I rx rv q => mt_append pins s σ H x xs v us Q I rx rv q) om_append (isLst_ty rfl) (x_var 8) (a_cons (xb (x2_add rfl) (xb (x2_add rfl) (x_var 9) (x_str)) (xcT xc_str bb_str (by rfl) T.b_str (a_cons (x_call (ok__law_check T) hr (by decide) (takes_of rfl rfl rfl rfl) (by rfl) T.g__law_check T.k__law_check T.B__law_check (a_cons (x_var 9) a_nil)) a_nil))) a_nil)))
  (ss_cons (s_for (passes_of rfl) rfl (i_any rfl (x_tup (a_cons (xb (x2_add rfl) (xcB (xc_len rfl) bb_len (by rfl) T.b_len (a_cons (x_var 2) a_nil)) (x_int)) (a_cons (xb (x2_sub) (xcB (xc_len rfl) bb_len (by rfl) T.b_len (a_cons (x_var 2) a_nil)) (x_int)) a_nil)))) (g_name sc__law_frame_right.nd rfl (by first | exact .inl rfl | exact .inr rfl)) (ss_cons (s_set sc__law_frame_right.nd rfl (by first | exact .inl rfl | exact .inr rfl) (xb (x2_add rfl) (xb (x2_add rfl) (xb (x2_add rfl) (xb (x2_add rfl) (xcT xc_str bb_str (by rfl) T.b_str (a_cons (x_var 1) a_nil)) (x_str)) (xcT xc_str bb_str (by rfl) T.b_str (a_cons (x_var 10) a_nil))) (x_str)) (x_var 2)))
  (ss_one (s_drop (x_bm PySem.F.plainAttrs_list PySem.F.slot_list_append PySem.F.type_list_append (fun pins s σ H x xs v us Q I rx rv q => mt_append pins s σ H x xs v us Q I rx rv q) om_append (isLst_ty rfl) (x_var 8) (a_cons (xb (x2_add rfl) (xb (x2_add rfl) (x_var 9) (x_str)) (xcT xc_str bb_str (by rfl) T.b_str (a_cons (x_call (ok__law_check T) hr (by decide) (takes_of rfl rfl rfl rfl) (by rfl) T.g__law_check T.k__law_check T.B__law_check (a_cons (x_var 9) a_nil)) a_nil))) a_nil))))))
  (ss_cons (s_for (passes_of rfl) rfl (i_any rfl (x_tup (a_cons (xb (x2_add rfl) (x_var 2) (xb (x2_mul rfl) (x_str) (xb (x2_sub) (x_int) (xcB (xc_len rfl) bb_len (by rfl) T.b_len (a_cons (x_var 2) a_nil))))) (a_cons (xb (x2_add rfl) (xsl (xsl_seq rfl) (x_var 2) o_none (o_some (x_int))) (x_str)) a_nil)))) (g_name sc__law_frame_right.nd rfl (by first | exact .inl rfl | exact .inr rfl)) (ss_cons (s_set sc__law_frame_right.nd rfl (by first | exact .inl rfl | exact .inr rfl) (xb (x2_add rfl) (xb (x2_add rfl) (xb (x2_add rfl) (xb (x2_add rfl) (xcT xc_str bb_str (by rfl) T.b_str (a_cons (x_var 1) a_nil)) (x_str)) (xcT xc_str bb_str (by rfl) T.b_str (a_cons (xcB (xc_len rfl) bb_len (by rfl) T.b_len (a_cons (x_var 11) a_nil)) a_nil))) (x_str)) (x_var 11)))
  (ss_one (s_drop (x_bm PySem.F.plainAttrs_list PySem.F.slot_list_append PySem.F.type_list_append (fun pins s σ H x xs v us Q I rx rv q => mt_append pins s σ H x xs v us Q I rx rv q) om_append (isLst_ty rfl) (x_var 8) (a_cons (xb (x2_add rfl) (xb (x2_add rfl) (x_var 9) (x_str)) (xcT xc_str bb_str (by rfl) T.b_str (a_cons (x_call (ok__law_check T) hr (by decide) (takes_of rfl rfl rfl rfl) (by rfl) T.g__law_check T.k__law_check T.B__law_check (a_cons (x_var 9) a_nil)) a_nil))) a_nil))))))
  (ss_cons (s_set sc__law_frame_right.nd rfl (by first | exact .inl rfl | exact .inr rfl) (xb (x2_add rfl) (xb (x2_add rfl) (xb (x2_add rfl) (xb (x2_add rfl) (xcT xc_str bb_str (by rfl) T.b_str (a_cons (xb (x2_add rfl) (xb (x2_pow) (x_int) (x_int)) (x_int)) a_nil)) (x_str)) (x_var 7)) (x_str)) (x_var 2)))
  (ss_cons (s_drop (x_bm PySem.F.plainAttrs_list PySem.F.slot_list_append PySem.F.type_list_append (fun pins s σ H x xs v us Q I rx rv q => mt_append pins s σ H x xs v us Q I rx rv q) om_append (isLst_ty rfl) (x_var 8) (a_cons (xb (x2_add rfl) (xb (x2_add rfl) (x_var 9) (x_str)) (xcT xc_str bb_str (by rfl) T.b_str (a_cons (x_call (ok__law_check T) hr (by decide) (takes_of rfl rfl rfl rfl) (by rfl) T.g__law_check T.k__law_check T.B__law_check (a_cons (x_var 9) a_nil)) a_nil))) a_nil)))
  (ss_cons (s_drop (x_bm PySem.F.plainAttrs_list PySem.F.slot_list_append PySem.F.type_list_append (fun pins s σ H x xs v us Q I rx rv q => mt_append pins s σ H x xs v us Q I rx rv q) om_append (isLst_ty rfl) (x_var 8) (a_cons (xb (x2_add rfl) (xb (x2_add rfl) (xb (x2_add rfl) (xb (x2_add rfl) (xb (x2_add rfl) (xb (x2_add rfl) (xcT xc_str bb_str (by rfl) T.b_str (a_cons (x_var 1) a_nil)) (x_str)) (x_var 7)) (x_str)) (x_var 2)) (x_str)) (xcT xc_str bb_str (by rfl) T.b_str (a_cons (x_call (ok__law_check T) hr (by decide) (takes_of rfl rfl rfl rfl) (by rfl) T.g__law_check T.k__law_check T.B__law_check (a_cons (xb (x2_add rfl) (xb (x2_add rfl) (xb (x2_add rfl) (xb (x2_add rfl) (xcT xc_str bb_str (by rfl) T.b_str (a_cons (x_var 1) a_nil)) (x_str)) (x_var 7)) (x_str)) (x_var 2)) a_nil)) a_nil))) a_nil)))
  (ss_one (s_ret (xcmp (x2_eq rfl (u64 hr)) (x_new (l_lc1 (own := [("one", 11)]) rfl sc__law_frame_right.nd (i_any rfl (x_var 8)) (blkOk_by (by kernel_rfl)) (tg_name (by decide) fun _ _ _ _ _ => (pg_name (i := 11) sc__law_frame_right.nd rfl (by first | exact .inl rfl | exact .inr rfl) (by first | exact .inl rfl | exact .inr rfl))) (fun _ _ _ _ _ => (tcmp (x2_isnot) (x_call (ok__law_read T) hr (by decide) L2.takes0 (by rfl) T.g__law_read T.k__law_read T.B__law_read (a_cons (x_var 11) a_nil)) (x_non))) (fun _ _ _ _ _ => (x_var 11)))) (x_new (l_lst a_nil)))))))))))))))))
def n__law_word : Nat := 2
noncomputable def cs__law_word : List Cl := [.told ["InvalidNumber"] 1 "number" "value", .plain ["InvalidOperation"] (mRet (mTup (mCons (mC (.str "operation")) mNil))), .plain ["ParseError"] (mRet (mTup (mCons (mC (.str "parse")) mNil)))]
theorem lf__law_word (T : Txt K mg base A) : LamF P w (gOf K A) K mg base "_law_word" A.f__law_word n__law_word "told" cs__law_word := by
  obtain ⟨oc, od, kV, doc, pm, an, cdv, ct, osl, efd, lk, hcd⟩ := T.F__law_word.ex
  have hB := T.B__law_word
  rw [efd] at lk hB
  exact ⟨T.g__law_word, T.k__law_word, _, _, _, _, _, _, _, _, _, _, _, _, _, _, .none, kV, doc, pm, cdv, ct, oc, an, od, osl, lk, hcd, hB, sc__law_word, rfl, rfl, .inl rfl, by decide, by decide, fun _ _ _ _ => ⟨(XCs.told ⟨rfl, by decide, .inl T.g_InvalidNumber⟩ (T.s_InvalidNumber) rfl rfl (by decide) (by decide) (T.F_InvalidNumber) rfl rfl rfl (XCs.plain ⟨rfl, by decide, .inl T.g_InvalidOperation⟩ (T.s_InvalidOperation) (fun _ _ _ => (ss_one (s_ret (x_tup (a_cons (x_str) a_nil))))) (XCs.plain ⟨rfl, by decide, .inl T.g_ParseError⟩ (T.s_ParseError) (fun _ _ _ => (ss_one (s_ret (x_tup (a_cons (x_str) a_nil))))) XCs.nil))), fun _ _ => rfl, fun _ _ => rfl⟩⟩
noncomputable def b__law_right : MS :=
  (mSeq (mFor (mItRng1 (mCons (mC (.int 9)) mNil)) (gmName 1) (mIfS (mNot (mTst (mCall 3 m__law_frame_right (mCons (mVar 0) (mCons (mCall 1 m__law_number (mCons (mVar 0) mNil)) (mCons (mCall 1 m__law_payload (mCons (mVar 0) mNil)) mNil)))))) (mRet (mC (.bl false))) mNext))
  (mSeq (mSet 2 (mNew (mLst (mCons (mOp2 dMul (mC (.str "x")) (mC (.int 301))) (mCons (mC (.str "a\nb")) (mCons (mC (.str "\t")) (mCons (mC (.str "ab\t")) (mCons (mC .non) (mCons (mC (.int 3)) (mCons (mTup (mCons (mC (.str "a")) mNil)) (mCons (mC (.bl true)) mNil)))))))))))
  (mSeq (mIfS (mTst (mOp2 dNe (mNew (mLc [3] (mItAny (mVar 2)) (gmName 3) (mTst (mOp2 dIsNot (mCall 1 m_is_payload (mCons (mVar 3) mNil)) (mC (.bl false)))) (mVar 3))) (mNew (mLst mNil)))) (mRet (mC (.bl false))) mNext)
  (mSeq (mIfS (mTst (mOp2 dNe (mNew (mLc [3] (mItAny (mVar 2)) (gmName 3) mYes (mLam n__law_word "told" cs__law_word (mCall 2 m_frame_of (mCons (mC (.int 0)) (mCons (mVar 3) mNil)))))) (mOp2 dMul (mNew (mLst (mCons (mTup (mCons (mC (.str "operation")) mNil)) mNil))) (mC (.int 8))))) (mRet (mC (.bl false))) mNext)
  (mSeq (mIfS (mTst (mOp2 dNe (mOpA dReprD (mCons (mNew (mLc [3] (mItAny (mTup (mCons (mOp1 dNeg (mC (.int 1))) (mCons (mOp2 dAdd (mOp2 dPow (mC (.int 10)) (mC (.int 9))) (mC (.int 1))) (mCons (mC (.bl true)) (mCons (mC .non) (mCons (mC (.str "0")) mNil))))))) (gmName 3) mYes (mLam n__law_word "told" cs__law_word (mCall 2 m_frame_of (mCons (mVar 3) (mCons (mC .non) mNil)))))) mNil)) (mOpA dReprD (mCons (mNew (mLc [3] (mItAny (mTup (mCons (mOp1 dNeg (mC (.int 1))) (mCons (mOp2 dAdd (mOp2 dPow (mC (.int 10)) (mC (.int 9))) (mC (.int 1))) (mCons (mC (.bl true)) (mCons (mC .non) (mCons (mC (.str "0")) mNil))))))) (gmName 3) mYes (mTup (mCons (mC (.str "number")) (mCons (mVar 3) mNil))))) mNil)))) (mRet (mC (.bl false))) mNext)
  (mRet (mOp2 dEq (mNew (mLc [3] (mItAny (mTup (mCons (mC .non) (mCons (mC (.int 0)) (mCons (mTup (mCons (mC (.str "0:0:#1")) mNil)) (mCons (mC (.bl true)) mNil)))))) (gmName 3) mYes (mLam n__law_word "told" cs__law_word (mCall 1 m_read_line (mCons (mVar 3) mNil))))) (mOp2 dMul (mNew (mLst (mCons (mTup (mCons (mC (.str "parse")) mNil)) mNil))) (mC (.int 4))))))))))
noncomputable def m__law_right : List D → SS → Res D := mFn 1 4 b__law_right
theorem ok__law_right (T : Txt K mg base A) : FnG P w K mg base 7 A.f__law_right A.d__law_right ["dice"] (spOf (gOf K A) 1 m__law_right) :=
  fn_okG (G := gOf K A) T.F__law_right sc__law_right rfl fun cdv A' outer s H E hcd hr hgd =>
  (ss_cons (s_for (passes_of rfl) rfl (i_rng1 (by rfl) T.b_range (a_cons (x_int) a_nil)) (g_name sc__law_right.nd rfl (by first | exact .inl rfl | exact .inr rfl)) (ss_one (s_if (t_not (t_val (x_call (ok__law_frame_right T) hr (by decide) (takes_of rfl rfl rfl rfl) (by rfl) T.g__law_frame_right T.k__law_frame_right T.B__law_frame_right (a_cons (x_var 0) (a_cons (x_call (ok__law_number T) hr (by decide) (takes_of rfl rfl rfl rfl) (by rfl) T.g__law_number T.k__law_number T.B__law_number (a_cons (x_var 0) a_nil)) (a_cons (x_call (ok__law_payload T) hr (by decide) (takes_of rfl rfl rfl rfl) (by rfl) T.g__law_payload T.k__law_payload T.B__law_payload (a_cons (x_var 0) a_nil)) a_nil)))))) (ss_one (s_ret (x_bl))) ss_nil)))
  (ss_cons (s_set sc__law_right.nd rfl (by first | exact .inl rfl | exact .inr rfl) (x_new (l_lst (a_cons (xb (x2_mul rfl) (x_str) (x_int)) (a_cons (x_str) (a_cons (x_str) (a_cons (x_str) (a_cons (x_non) (a_cons (x_int) (a_cons (x_tup (a_cons (x_str) a_nil)) (a_cons (x_bl) a_nil)))))))))))
  (ss_cons (s_if (tcmp (x2_ne rfl (u64 hr)) (x_new (l_lc1 (own := [("one", 3)]) rfl sc__law_right.nd (i_any rfl (x_var 2)) (blkOk_by (by kernel_rfl)) (tg_name (by decide) fun _ _ _ _ _ => (pg_name (i := 3) sc__law_right.nd rfl (by first | exact .inl rfl | exact .inr rfl) (by first | exact .inl rfl | exact .inr rfl))) (fun _ _ _ _ _ => (tcmp (x2_isnot) (x_call (ok_is_payload T) hr (by decide) L2.takes0 (by rfl) T.g_is_payload T.k_is_payload T.B_is_payload (a_cons (x_var 3) a_nil)) (x_bl))) (fun _ _ _ _ _ => (x_var 3)))) (x_new (l_lst a_nil))) (ss_one (s_ret (x_bl))) ss_nil)
  (ss_cons (s_if (tcmp (x2_ne rfl (u64 hr)) (x_new (l_lc0 (own := [("one", 3)]) rfl sc__law_right.nd (i_any rfl (x_var 2)) (blkOk_by (by kernel_rfl)) (tg_name (by decide) fun _ _ _ _ _ => (pg_name (i := 3) sc__law_right.nd rfl (by first | exact .inl rfl | exact .inr rfl) (by first | exact .inl rfl | exact .inr rfl))) (fun _ _ _ _ _ => (x_lam (k := 3) rfl (lf__law_word T) (by rfl) T.tb__law_right (hcd.symm.trans T.cd__law_right) List.mem_cons_self (fun p hp _ => by rw [List.mem_singleton.mp hp]; rfl) (hr.mono (by decide)) (lamS_by (by kernel_rfl)) rfl (fun _ _ _ _ _ => by with_unfolding_all rfl) (fun _ _ _ _ _ _ _ hrl => (x_call (ok_frame_of T) hrl (by decide) (takes_of rfl rfl rfl rfl) (by rfl) T.g_frame_of T.k_frame_of T.B_frame_of (a_cons (x_int) (a_cons (x_var 3) a_nil)))))))) (xb (x2_mul rfl) (x_new (l_lst (a_cons (x_tup (a_cons (x_str) a_nil)) a_nil))) (x_int))) (ss_one (s_ret (x_bl))) ss_nil)
  (ss_cons (s_if (tcmp (x2_ne rfl (u64 hr)) (xcB (xc_repr rfl hgd (u64 hr)) bb_repr (by rfl) T.b_repr (a_cons (x_new (l_lc0 (own := [("one", 3)]) rfl sc__law_right.nd (i_any rfl (x_tup (a_cons (xu x1_neg (x_int)) (a_cons (xb (x2_add rfl) (xb (x2_pow) (x_int) (x_int)) (x_int)) (a_cons (x_bl) (a_cons (x_non) (a_cons (x_str) a_nil))))))) (blkOk_by (by kernel_rfl)) (tg_name (by decide) fun _ _ _ _ _ => (pg_name (i := 3) sc__law_right.nd rfl (by first | exact .inl rfl | exact .inr rfl) (by first | exact .inl rfl | exact .inr rfl))) (fun _ _ _ _ _ => (x_lam (k := 3) rfl (lf__law_word T) (by rfl) T.tb__law_right (hcd.symm.trans T.cd__law_right) List.mem_cons_self (fun p hp _ => by rw [List.mem_singleton.mp hp]; rfl) (hr.mono (by decide)) (lamS_by (by kernel_rfl)) rfl (fun _ _ _ _ _ => by with_unfolding_all rfl) (fun _ _ _ _ _ _ _ hrl => (x_call (ok_frame_of T) hrl (by decide) (takes_of rfl rfl rfl rfl) (by rfl) T.g_frame_of T.k_frame_of T.B_frame_of (a_cons (x_var 3) (a_cons (x_non) a_nil)))))))) a_nil)) (xcB (xc_repr rfl hgd (u64 hr)) bb_repr (by rfl) T.b_repr (a_cons (x_new (l_lc0 (own := [("one", 3)]) rfl sc__law_right.nd (i_any rfl (x_tup (a_cons (xu x1_neg (x_int)) (a_cons (xb (x2_add rfl) (xb (x2_pow) (x_int) (x_int)) (x_int)) (a_cons (x_bl) (a_cons (x_non) (a_cons (x_str) a_nil))))))) (blkOk_by (by kernel_rfl)) (tg_name (by decide) fun _ _ _ _ _ => (pg_name (i := 3) sc__law_right.nd rfl (by first | exact .inl rfl | exact .inr rfl) (by first | exact .inl rfl | exact .inr rfl))) (fun _ _ _ _ _ => (x_tup (a_cons (x_str) (a_cons (x_var 3) a_nil)))))) a_nil))) (ss_one (s_ret (x_bl))) ss_nil)
  (ss_one (s_ret (xcmp (x2_eq rfl (u64 hr)) (x_new (l_lc0 (own := [("one", 3)]) rfl sc__law_right.nd (i_any rfl (x_tup (a_cons (x_non) (a_cons (x_int) (a_cons (x_tup (a_cons (x_str) a_nil)) (a_cons (x_bl) a_nil)))))) (blkOk_by (by kernel_rfl)) (tg_name (by decide) fun _ _ _ _ _ => (pg_name (i := 3) sc__law_right.nd rfl (by first | exact .inl rfl | exact .inr rfl) (by first | exact .inl rfl | exact .inr rfl))) (fun _ _ _ _ _ => (x_lam (k := 4) rfl (lf__law_word T) (by rfl) T.tb__law_right (hcd.symm.trans T.cd__law_right) List.mem_cons_self (fun p hp _ => by rw [List.mem_singleton.mp hp]; rfl) (hr.mono (by decide)) (lamS_by (by kernel_rfl)) rfl (fun _ _ _ _ _ => by with_unfolding_all rfl) (fun _ _ _ _ _ _ _ hrl => (x_call (ok_read_line T) hrl (by decide) (takes_of rfl rfl rfl rfl) (by rfl) T.g_read_line T.k_read_line T.B_read_line (a_cons (x_var 3) a_nil))))))) (xb (x2_mul rfl) (x_new (l_lst (a_cons (x_tup (a_cons (x_str) a_nil)) a_nil))) (x_int))))))))))
noncomputable def b_law : MS :=
  (mSeq (mFor (mItRng1 (mCons (mOpA dMax (mCons (mC (.int 1)) (mCons (mOpA dMin (mCons (mC (.int 2)) (mCons (mOpA dLen (mCons (mVar 0) mNil)) mNil))) mNil))) mNil)) (gmName 1) (mSeq (mSet 2 (mCall 2 m__law_dice (mCons (mVar 0) (mCons (mVar 1) mNil))))
  (mIfS (mNot (mTst (mCall 1 m__law_right (mCons (mVar 2) mNil)))) (mRet (mC (.bl false))) mNext)))
  (mRet (mC (.bl true))))
noncomputable def m_law : List D → SS → Res D := mFn 1 3 b_law
theorem ok_law (T : Txt K mg base A) : FnG P w K mg base 8 A.f_law A.d_law ["script"] (spOf (gOf K A) 1 m_law) :=
  fn_okG (G := gOf K A) T.F_law sc_law rfl fun cdv A' outer s H E hcd hr hgd =>
  (ss_cons (s_for (passes_of rfl) rfl (i_rng1 (by rfl) T.b_range (a_cons (xcB (xc_max rfl) bb_max (by rfl) T.b_max (a_cons (x_int) (a_cons (xcB (xc_min rfl) bb_min (by rfl) T.b_min (a_cons (x_int) (a_cons (xcB (xc_len rfl) bb_len (by rfl) T.b_len (a_cons (x_var 0) a_nil)) a_nil))) a_nil))) a_nil)) (g_name sc_law.nd rfl (by first | exact .inl rfl | exact .inr rfl)) (ss_cons (s_set sc_law.nd rfl (by first | exact .inl rfl | exact .inr rfl) (x_call (ok__law_dice T) hr (by decide) (takes_of rfl rfl rfl rfl) (by rfl) T.g__law_dice T.k__law_dice T.B__law_dice (a_cons (x_var 0) (a_cons (x_var 1) a_nil))))
  (ss_one (s_if (t_not (t_val (x_callG (ok__law_right T) hr (by decide) hgd (takes_of rfl rfl rfl rfl) (by rfl) T.g__law_right T.k__law_right T.B__law_right (a_cons (x_var 2) a_nil)))) (ss_one (s_ret (x_bl))) ss_nil))))
  (ss_one (s_ret (x_bl))))
end
end K51
end FW

set_option Elab.async false
set_option linter.all false
set_option maxRecDepth 100000
set_option maxHeartbeats 4000000
/-! k51, the mathematics: frames as lists of signs. -/
namespace FW
namespace K51
open TL
def wsum : Nat → List Nat → Nat
  | _, [] => 0
  | k, c :: r => k * c + wsum (k + 1) r
theorem wsum_app : ∀ (a b : List Nat) (k : Nat), wsum k (a ++ b) = wsum k a + wsum (k + a.length) b
  | [], b, k => by simp [wsum]
  | c :: a, b, k => by
    show k * c + wsum (k + 1) (a ++ b) = k * c + wsum (k + 1) a + wsum (k + (a.length + 1)) b
    rw [wsum_app a b (k + 1), show k + 1 + a.length = k + (a.length + 1) by omega]
    omega
theorem wsum_shift : ∀ (l : List Nat) (k : Nat), wsum (k + 1) l = wsum k l + l.sum
  | [], k => rfl
  | c :: l, k => by
    show (k + 1) * c + wsum (k + 1 + 1) l = k * c + wsum (k + 1) l + (c :: l).sum
    rw [wsum_shift l (k + 1), List.sum_cons, Nat.add_mul]
    omega
def chk (l : List Nat) : Nat := wsum 1 l % 9973
def front (n : Nat) (p : List Nat) : List Nat := numL n ++ 58 :: (numL p.length ++ 58 :: p)
def line (n : Nat) (p : List Nat) : List Nat := front n p ++ 35 :: numL (chk (front n p))
structure PV (p : List Nat) : Prop where
  len : p.length ≤ 300
  sg : ∀ c ∈ p, 32 ≤ c ∧ c ≤ 126
def Img (M : List Nat) : Prop := ∃ n p, n ≤ 1000000000 ∧ PV p ∧ M = line n p
theorem dig {n c : Nat} (h : c ∈ numL n) : 48 ≤ c ∧ c ≤ 57 := by
  have := numL_digits n c h
  omega
theorem no58 (n : Nat) : 58 ∉ numL n := numL_free (by omega)
theorem no35 (n : Nat) : 35 ∉ numL n := numL_free (by omega)
theorem first_eq {s : Nat} : ∀ {a c b d : List Nat}, s ∉ a → s ∉ c → a ++ s :: b = c ++ s :: d → a = c ∧ b = d
  | [], [], b, d, _, _, h => ⟨rfl, by simpa using h⟩
  | [], y :: c, b, d, _, h2, h => by
    have e : s = y := by simpa using congrArg List.head? h
    exact absurd (by rw [e]; exact List.mem_cons_self) h2
  | x :: a, [], b, d, h1, _, h => by
    have e : x = s := by simpa using congrArg List.head? h
    exact absurd (by rw [e]; exact List.mem_cons_self) h1
  | x :: a, y :: c, b, d, h1, h2, h => by
    simp only [List.cons_append, List.cons.injEq] at h
    obtain ⟨e1, e2⟩ := first_eq (fun z => h1 (List.mem_cons_of_mem _ z)) (fun z => h2 (List.mem_cons_of_mem _ z)) h.2
    exact ⟨by rw [h.1, e1], e2⟩
theorem last_eq {s : Nat} {a c b d : List Nat} (h1 : s ∉ b) (h2 : s ∉ d) (h : a ++ s :: b = c ++ s :: d) : a = c ∧ b = d := by
  have e := congrArg List.reverse h
  simp only [List.reverse_append, List.reverse_cons, List.append_assoc, List.singleton_append] at e
  obtain ⟨e1, e2⟩ := first_eq (by simpa using h1) (by simpa using h2) e
  exact ⟨List.reverse_inj.mp e2, List.reverse_inj.mp e1⟩
/-- what stands before and behind the second colon -/
theorem head_eq {n n' : Nat} {X R p' : List Nat} (hX : 58 ∉ X) (h : numL n ++ 58 :: (X ++ 58 :: R) = line n' p') : n' = n ∧ numL p'.length = X ∧ R = p' ++ 35 :: numL (chk (front n' p')) := by
  unfold line front at h
  simp only [List.append_assoc, List.cons_append] at h
  obtain ⟨e1, e2⟩ := first_eq (no58 n) (no58 n') h
  obtain ⟨e3, e4⟩ := first_eq hX (no58 _) e2
  refine ⟨(numL_inj e1).symm, e3.symm, ?_⟩
  unfold front
  exact e4
theorem line_form (n : Nat) (p : List Nat) : line n p = numL n ++ 58 :: (numL p.length ++ 58 :: (p ++ 35 :: numL (chk (front n p)))) := by
  unfold line
  conv => lhs; arg 1; unfold front
  simp
theorem app_len {α : Type} {a b c d : List α} (h : a ++ b = c ++ d) (hl : a.length = c.length) : a = c ∧ b = d := List.append_inj h hl
theorem head_same {n n' : Nat} {p p' R : List Nat} (h : numL n ++ 58 :: (numL p.length ++ 58 :: (p ++ R)) = line n' p') : R = 35 :: numL (chk (front n p)) := by
  obtain ⟨e1, e2, e3⟩ := head_eq (no58 _) h
  have e4 := numL_inj e2
  obtain ⟨e5, e6⟩ := app_len e3 e4.symm
  subst e1 e5
  exact e6
theorem lead0 {m : Nat} {l : List Nat} (h : numL m = 48 :: l) : l = [] := by
  induction m using Nat.strongRecOn generalizing l with
  | _ m ih =>
    by_cases hm : m < 10
    · rw [numL_lt hm] at h
      simp at h
      exact h.2
    · rw [numL_step (by omega)] at h
      cases hq : numL (m / 10) with
      | nil => exact absurd hq (numL_ne _)
      | cons x xs =>
        rw [hq] at h
        simp only [List.cons_append, List.cons.injEq] at h
        obtain ⟨h1, h2⟩ := h
        subst h1
        have h3 := ih (m / 10) (by omega) hq
        have h4 : numL (m / 10) = [48] := by rw [hq, h3]
        have h5 := numL_val (m / 10)
        rw [h4] at h5
        have h6 : m / 10 = 0 := by rw [← h5]; rfl
        omega
/-! ### what is no frame -/
theorem out_suffix (n : Nat) (p : List Nat) (c : Nat) : ¬ Img (line n p ++ [c]) := by
  rintro ⟨n', p', _, _, h⟩
  rw [line_form] at h
  have h' : numL n ++ 58 :: (numL p.length ++ 58 :: (p ++ ((35 :: numL (chk (front n p))) ++ [c]))) = line n' p' := by rw [← h]; simp
  have := congrArg List.length (head_same h')
  simp at this
theorem line_head (n : Nat) (p : List Nat) : ∃ x r, line n p = x :: r ∧ 48 ≤ x ∧ x ≤ 57 := by
  rw [line_form]
  cases h : numL n with
  | nil => exact absurd h (numL_ne n)
  | cons x xs => exact ⟨x, _, rfl, dig (by rw [h]; exact List.mem_cons_self)⟩
theorem out_prefix (c : Nat) (X : List Nat) (hc : c < 48 ∨ 57 < c) : ¬ Img (c :: X) := by
  rintro ⟨n', p', _, _, h⟩
  obtain ⟨x, r, e, h1, h2⟩ := line_head n' p'
  rw [e] at h
  have := (List.cons.inj h).1
  omega
theorem out_nil : ¬ Img [] := by
  rintro ⟨n', p', _, _, h⟩
  obtain ⟨x, r, e, _⟩ := line_head n' p'
  rw [e] at h
  cases h
theorem out_zero (n : Nat) (p : List Nat) : ¬ Img (48 :: line n p) := by
  rintro ⟨n', p', _, _, h⟩
  rw [line_form, line_form] at h
  have h' : (48 :: numL n) ++ 58 :: (numL p.length ++ 58 :: (p ++ 35 :: numL (chk (front n p)))) = _ := h
  obtain ⟨e1, _⟩ := first_eq (by
    intro z
    rcases List.mem_cons.mp z with z | z
    · omega
    · exact no58 n z) (no58 n') h'
  exact numL_ne n (lead0 e1.symm)
theorem out_cut (n : Nat) (p : List Nat) : ¬ Img (line n p).dropLast := by
  rintro ⟨n', p', _, _, h⟩
  have hd : ∀ l : List Nat, l ≠ [] → (numL n ++ 58 :: (numL p.length ++ 58 :: (p ++ 35 :: l))).dropLast = numL n ++ 58 :: (numL p.length ++ 58 :: (p ++ 35 :: l.dropLast)) := fun l hl => by
    have e : numL n ++ 58 :: (numL p.length ++ 58 :: (p ++ 35 :: l)) = (numL n ++ 58 :: (numL p.length ++ 58 :: (p ++ [35]))) ++ l := by simp
    rw [e, List.dropLast_append_of_ne_nil hl]
    simp
  rw [line_form, hd _ (numL_ne _)] at h
  have e := head_same (R := 35 :: (numL (chk (front n p))).dropLast) h
  have e2 := congrArg List.length (List.cons.inj e).2
  rw [List.length_dropLast] at e2
  have := List.length_pos_iff.mpr (numL_ne (chk (front n p)))
  omega
theorem out_colons (n : Nat) (X : List Nat) : ¬ Img (numL n ++ 58 :: 58 :: X) := by
  rintro ⟨n', p', _, _, h⟩
  rw [line_form] at h
  obtain ⟨_, e2⟩ := first_eq (no58 n) (no58 n') h
  cases hq : numL p'.length with
  | nil => exact absurd hq (numL_ne _)
  | cons x xs =>
    rw [hq] at e2
    have e3 : 58 = x := (List.cons.inj e2).1
    have := dig (n := p'.length) (c := x) (by rw [hq]; exact List.mem_cons_self)
    omega
theorem out_count0 (n : Nat) (m : Nat) (X : List Nat) : ¬ Img (numL n ++ 58 :: (48 :: numL m ++ 58 :: X)) := by
  rintro ⟨n', p', _, _, h⟩
  obtain ⟨_, e2, _⟩ := head_eq (X := 48 :: numL m) (by
    intro z
    rcases List.mem_cons.mp z with z | z
    · omega
    · exact no58 m z) h
  exact numL_ne m (lead0 e2)
theorem out_neg (n : Nat) (Y X : List Nat) (hY : 58 ∉ Y) : ¬ Img (numL n ++ 58 :: ((45 :: Y) ++ 58 :: X)) := by
  rintro ⟨n', p', _, _, h⟩
  obtain ⟨_, e2, _⟩ := head_eq (X := 45 :: Y) (by
    intro z
    rcases List.mem_cons.mp z with z | z
    · omega
    · exact hY z) h
  have := dig (n := p'.length) (c := 45) (by rw [e2]; exact List.mem_cons_self)
  omega
theorem no35d {m : Nat} {l : List Nat} : numL m ≠ 35 :: l := fun h => by
  have := dig (n := m) (c := 35) (by rw [h]; exact List.mem_cons_self)
  omega
/-- the count is one too great or one too small -/
theorem out_more (n m c : Nat) (p : List Nat) (hm : m = p.length + 1 ∨ m + 1 = p.length) : ¬ Img (numL n ++ 58 :: (numL m ++ 58 :: (p ++ 35 :: numL c))) := by
  rintro ⟨n', p', _, _, h⟩
  obtain ⟨_, e2, e3⟩ := head_eq (no58 m) h
  have e4 := numL_inj e2
  rcases hm with hm | hm
  · have e5 : (p ++ [35]) ++ numL c = p' ++ 35 :: numL (chk (front n' p')) := by rw [← e3]; simp
    obtain ⟨_, e6⟩ := app_len e5 (by simp; omega)
    exact no35d e6
  · have hp : p ≠ [] := by intro z; rw [z] at hm; simp at hm
    have e5 : p.dropLast ++ (p.getLast hp :: 35 :: numL c) = p' ++ 35 :: numL (chk (front n' p')) := by
      rw [← e3]
      conv => rhs; rw [← List.dropLast_concat_getLast hp]
      simp
    obtain ⟨_, e6⟩ := app_len e5 (by rw [List.length_dropLast]; omega)
    exact no35d (List.cons.inj e6).2.symm
/-- the payload is none -/
theorem out_pay (n c : Nat) (q : List Nat) (hq : ¬ PV q) : ¬ Img (numL n ++ 58 :: (numL q.length ++ 58 :: (q ++ 35 :: numL c))) := by
  rintro ⟨n', p', _, hp, h⟩
  obtain ⟨_, e2, e3⟩ := head_eq (no58 _) h
  have e4 := numL_inj e2
  obtain ⟨e5, _⟩ := app_len e3 e4.symm
  exact hq (e5 ▸ hp)
theorem out_number (n : Nat) (hn : 1000000000 < n) (X : List Nat) : ¬ Img (numL n ++ 58 :: X) := by
  rintro ⟨n', p', h0, _, h⟩
  rw [line_form] at h
  obtain ⟨e1, _⟩ := first_eq (no58 n) (no58 n') h
  have := numL_inj e1
  omega
theorem out_check0 (n : Nat) (p : List Nat) (c : Nat) : ¬ Img (front n p ++ 35 :: 48 :: numL c) := by
  rintro ⟨n', p', _, _, h⟩
  have h' : numL n ++ 58 :: (numL p.length ++ 58 :: (p ++ 35 :: 48 :: numL c)) = line n' p' := by rw [← h]; unfold front; simp
  have e := (List.cons.inj (head_same h')).2
  exact numL_ne c (lead0 e.symm)
/-! ### one sign changed -/
theorem wsum_set : ∀ (l : List Nat) (i k : Nat) (h : i < l.length) (s : Nat), wsum k (l.set i s) + (k + i) * l[i] = wsum k l + (k + i) * s
  | [], i, k, h, s => by simp at h
  | c :: l, 0, k, _, s => by
    show k * s + wsum (k + 1) l + k * c = k * c + wsum (k + 1) l + k * s
    omega
  | c :: l, i + 1, k, h, s => by
    have ih := wsum_set l i (k + 1) (by simpa using h) s
    show k * c + wsum (k + 1) (l.set i s) + (k + (i + 1)) * l[i]'(by simpa using h) = k * c + wsum (k + 1) l + (k + (i + 1)) * s
    rw [show k + (i + 1) = k + 1 + i by omega]
    omega
theorem coprime_small : ∀ a : Nat, a < 400 → 0 < a → Nat.gcd 9973 a = 1 := by
  have : (List.range 400).all (fun a => a == 0 || Nat.gcd 9973 a == 1) = true := by decide +kernel
  intro a h1 h2
  rw [List.all_eq_true] at this
  have := this a (List.mem_range.mpr h1)
  simp at this
  omega
theorem no_mult {a b : Nat} (ha : 0 < a) (ha2 : a < 400) (hb : 0 < b) (hb2 : b < 9973) : ¬ 9973 ∣ a * b := fun h => by
  have c : Nat.Coprime 9973 a := coprime_small a ha2 ha
  have := Nat.le_of_dvd hb (c.dvd_of_dvd_mul_left h)
  omega
theorem chk_set {l : List Nat} {i s : Nat} (h : i < l.length) (hl : l.length < 399) (hs : s ≤ 126) (hc : l[i] ≤ 126) (hne : s ≠ l[i]) : chk (l.set i s) ≠ chk l := fun e => by
  have w := wsum_set l i 1 h s
  unfold chk at e
  rcases Nat.lt_or_gt_of_ne hne with z | z
  · have d : (1 + i) * l[i] = (1 + i) * s + (1 + i) * (l[i] - s) := by rw [← Nat.mul_add]; congr 1; omega
    have d2 : wsum 1 l = wsum 1 (l.set i s) + (1 + i) * (l[i] - s) := by omega
    refine no_mult (a := 1 + i) (b := l[i] - s) (by omega) (by omega) (by omega) (by omega) ?_
    rw [d2] at e
    have := Nat.sub_mod_eq_zero_of_mod_eq e.symm
    rw [Nat.add_sub_cancel_left] at this
    exact Nat.dvd_of_mod_eq_zero this
  · have d : (1 + i) * s = (1 + i) * l[i] + (1 + i) * (s - l[i]) := by rw [← Nat.mul_add]; congr 1; omega
    have d2 : wsum 1 (l.set i s) = wsum 1 l + (1 + i) * (s - l[i]) := by omega
    refine no_mult (a := 1 + i) (b := s - l[i]) (by omega) (by omega) (by omega) (by omega) ?_
    rw [d2] at e
    have := Nat.sub_mod_eq_zero_of_mod_eq e
    rw [Nat.add_sub_cancel_left] at this
    exact Nat.dvd_of_mod_eq_zero this
theorem front_len {n : Nat} {p : List Nat} (hn : n ≤ 1000000000) (hp : PV p) : (front n p).length ≤ 330 := by
  unfold front
  have h1 := numL_len (n := n) (k := 10) (by omega) (by omega)
  have h2 := numL_len (n := p.length) (k := 3) (by omega) (by have := hp.len; omega)
  have := hp.len
  simp
  omega
theorem front_sign {n : Nat} {p : List Nat} (hp : PV p) : ∀ c ∈ front n p, 32 ≤ c ∧ c ≤ 126 := by
  intro c hc
  unfold front at hc
  simp only [List.mem_append, List.mem_cons] at hc
  rcases hc with h | h | h | h | h
  · have := dig h; omega
  · omega
  · have := dig h; omega
  · omega
  · exact hp.sg c h
theorem out_change {n : Nat} {p : List Nat} (hn : n ≤ 1000000000) (hp : PV p) {i s : Nat} (hi : i < (line n p).length) (hs : s ≤ 126) (hne : s ≠ (line n p)[i]) : ¬ Img ((line n p).set i s) := by
  rintro ⟨n', p', hn', hp', h⟩
  by_cases hf : i < (front n p).length
  · have e1 : (line n p).set i s = (front n p).set i s ++ 35 :: numL (chk (front n p)) := by
      unfold line
      rw [List.set_append_left _ _ hf]
    rw [e1] at h
    obtain ⟨e2, e3⟩ := last_eq (no35 _) (no35 _) h
    have e4 := numL_inj e3
    have e5 : (line n p)[i] = (front n p)[i] := (List.getElem_of_eq (show line n p = front n p ++ 35 :: numL (chk (front n p)) from rfl) hi).trans (List.getElem_append_left hf)
    rw [e5] at hne
    refine chk_set hf (by have := front_len hn hp; omega) hs (front_sign hp _ (List.getElem_mem hf)).2 hne ?_
    rw [e2, e4]
  · have hlen : (line n p).length = (front n p).length + 1 + (numL (chk (front n p))).length := by unfold line; simp; omega
    obtain ⟨D, hD⟩ : ∃ D, D = 35 :: numL (chk (front n p)) := ⟨_, rfl⟩
    have e1 : (line n p).set i s = front n p ++ D.set (i - (front n p).length) s := by
      rw [hD]
      unfold line
      rw [List.set_append_right _ _ (by omega)]
    rw [e1] at h
    have h' : numL n ++ 58 :: (numL p.length ++ 58 :: (p ++ D.set (i - (front n p).length) s)) = line n' p' := by
      rw [← h]
      conv => rhs; arg 1; unfold front
      simp
    have e2 := head_same h'
    rw [← hD] at e2
    have hk : i - (front n p).length < D.length := by rw [hD, List.length_cons]; omega
    have e3 : (D.set (i - (front n p).length) s)[i - (front n p).length]'(by rw [List.length_set]; exact hk) = s := by simp
    have e4 : D[i - (front n p).length] = s := by
      rw [← e3]
      congr 1
      exact e2.symm
    refine hne ?_
    rw [← e4]
    symm
    have e6 : line n p = front n p ++ D := by rw [hD]; rfl
    exact (List.getElem_of_eq e6 hi).trans (List.getElem_append_right (by omega))
/-! ### the first colon taken away -/
structure PayOk (p : List Nat) : Prop where
  pv : PV p
  mid : p.length ≤ 40 ∨ 299 ≤ p.length
  few : 58 ∈ p → ∀ c ∈ p, 35 ≤ c ∧ c ≤ 58
theorem sum_le {c : Nat} : ∀ l : List Nat, (∀ x ∈ l, x ≤ c) → l.sum ≤ c * l.length
  | [], _ => by simp
  | x :: l, h => by
    have h1 := h x List.mem_cons_self
    have h2 := sum_le l fun y hy => h y (List.mem_cons_of_mem _ hy)
    rw [List.sum_cons, List.length_cons, Nat.mul_succ]
    omega
theorem le_sum {c : Nat} : ∀ l : List Nat, (∀ x ∈ l, c ≤ x) → c * l.length ≤ l.sum
  | [], _ => by simp
  | x :: l, h => by
    have h1 := h x List.mem_cons_self
    have h2 := le_sum l fun y hy => h y (List.mem_cons_of_mem _ hy)
    rw [List.sum_cons, List.length_cons, Nat.mul_succ]
    omega
theorem out_uncolon {n : Nat} {p : List Nat} (hn : n ≤ 1000000000) (hp : PayOk p) : ¬ Img (numL n ++ (numL p.length ++ 58 :: (p ++ 35 :: numL (chk (front n p))))) := by
  rintro ⟨n', p', hn', hp', h⟩
  -- the last # stands where it stood
  have h1 : (numL n ++ (numL p.length ++ 58 :: p)) ++ 35 :: numL (chk (front n p)) = front n' p' ++ 35 :: numL (chk (front n' p')) := by
    have : (numL n ++ (numL p.length ++ 58 :: p)) ++ 35 :: numL (chk (front n p)) = numL n ++ (numL p.length ++ 58 :: (p ++ 35 :: numL (chk (front n p)))) := by simp
    rw [this, h]
    rfl
  obtain ⟨e1, e2⟩ := last_eq (no35 _) (no35 _) h1
  have e3 := numL_inj e2
  -- the payload has a colon
  have h58 : 58 ∈ p := by
    unfold front at e1
    have a1 : (numL n ++ numL p.length) ++ 58 :: p = numL n' ++ 58 :: (numL p'.length ++ 58 :: p') := by rw [← e1]; simp
    obtain ⟨_, a2⟩ := first_eq (by
      intro z
      rcases List.mem_append.mp z with z | z
      · exact no58 _ z
      · exact no58 _ z) (no58 n') a1
    rw [a2]
    simp
  obtain ⟨Y, hY⟩ : ∃ Y, Y = numL p.length ++ 58 :: p := ⟨_, rfl⟩
  have c1 : wsum 1 (front n p) = wsum 1 (numL n ++ Y) + (58 * ((numL n).length + 1) + Y.sum) := by
    unfold front
    rw [← hY, wsum_app, wsum_app]
    show wsum 1 (numL n) + ((1 + (numL n).length) * 58 + wsum (1 + (numL n).length + 1) Y) = _
    rw [wsum_shift Y (1 + (numL n).length)]
    omega
  have c2 : chk (front n p) = chk (numL n ++ Y) := by rw [e3, hY, e1]
  unfold chk at c2
  rw [c1] at c2
  have c3 := Nat.sub_mod_eq_zero_of_mod_eq c2
  rw [Nat.add_sub_cancel_left] at c3
  have few := hp.few h58
  have k1 := numL_len (n := n) (k := 10) (by omega) (by omega)
  have k2 := numL_len (n := p.length) (k := 3) (by omega) (by have := hp.pv.len; omega)
  have k3 := List.length_pos_iff.mpr (numL_ne n)
  have s1 := sum_le (c := 58) p fun x hx => (few x hx).2
  have s2 := le_sum (c := 35) p fun x hx => (few x hx).1
  have s3 := sum_le (c := 57) (numL p.length) fun x hx => (dig hx).2
  have sY : Y.sum = (numL p.length).sum + (58 + p.sum) := by rw [hY]; simp
  have hl := hp.pv.len
  have s4 : (numL p.length).sum ≤ 171 := Nat.le_trans s3 (Nat.mul_le_mul_left 57 k2)
  obtain ⟨q, hq⟩ := Nat.dvd_of_mod_eq_zero c3
  obtain ⟨T, hT⟩ : ∃ T, T = 58 * ((numL n).length + 1) + Y.sum := ⟨_, rfl⟩
  rw [← hT] at hq
  rcases hp.mid with m | m
  · have b1 : 1 ≤ T := by omega
    have b2 : T < 9973 := by omega
    clear hT sY s1 s2 s3 s4 c3 c2 c1
    omega
  · have b1 : 9973 < T := by omega
    have b2 : T < 19946 := by omega
    clear hT sY s1 s2 s3 s4 c3 c2 c1
    omega
end K51
end FW

set_option Elab.async false
set_option linter.all false
set_option maxRecDepth 100000
set_option maxHeartbeats 4000000
/-! k51, what the mirrors compute. -/
namespace FW
namespace K51
open PySem TL
/-! ### texts as lists of signs -/
abbrev T (l : List Nat) : D := .str (stL l)
theorem stL_list (l : List Nat) : (stL l).cps.toList = l := rfl
theorem stL_len (l : List Nat) : (stL l).length = l.length := by simp [stL, Str.length]
theorem stL_app (a b : List Nat) : stL a ++ stL b = stL (a ++ b) := by
  apply Str.ext'
  show a.toArray ++ b.toArray = (a ++ b).toArray
  simp
theorem stL_inj {a b : List Nat} : stL a = stL b ↔ a = b := ⟨fun h => congrArg (fun s => s.cps.toList) h, fun h => by rw [h]⟩
theorem stL_beq (a b : List Nat) : (stL a == stL b) = decide (a = b) := by
  rw [Bool.eq_iff_iff]
  simp [stL_inj]
theorem str_stL (s : Str) : s = stL s.cps.toList := rfl
theorem num_stL (n : Nat) : (Str.ofString (toString ((n : Nat) : Int))) = stL (numL n) := by
  apply Str.ext'
  apply Array.toList_inj.mp
  exact tl_num n
/-! ### evaluation -/
theorem gc_flat {d : D} {S : SS} (h : clD S.length d = true) : gc S.length d S = .ok d S := by
  unfold gc
  rw [List.take_length]
  simp [h]
theorem gcX_same {x : Exn} {S : SS} : gcX S.length x S = .exc x S := by
  unfold gcX
  rw [List.take_length]
  split <;> rfl
theorem gc_bl {b : Bool} {S : SS} : gc S.length (.bl b) S = .ok (.bl b) S := gc_flat rfl
theorem gc_int {b : Int} {S : SS} : gc S.length (.int b) S = .ok (.int b) S := gc_flat rfl
theorem gc_str {b : Str} {S : SS} : gc S.length (.str b) S = .ok (.str b) S := gc_flat rfl
theorem gc_non {S : SS} : gc S.length .non S = .ok .non S := gc_flat rfl
/-- small signs, short -/
structure Sm (l : List Nat) : Prop where
  len : l.length ≤ 5000
  sg : ∀ c ∈ l, c < 1000
theorem sh_str {a : List Nat} (h : Sm a) : SeqAt.shaped (.str (stL a)) = true := by
  have e : PyData.strOk (stL a) = true := by
    unfold PyData.strOk
    rw [Array.all_eq_true']
    intro c hc
    have := h.sg c (by simpa [stL] using hc)
    exact decide_eq_true (by omega)
  show (PyData.strOk (stL a) && _) = true
  rw [e]
  rfl
theorem dNe_str (a b : List Nat) (S : SS) (ha : Sm a) (hb : Sm b) : dNe (T a) (T b) S = .ok (.bl (!decide (a = b))) S := by
  unfold dNe dEqB
  show (if SeqAt.shaped (.str (stL a)) = true ∧ SeqAt.shaped (.str (stL b)) = true then Res.ok (D.bl (!PyData.eqv (.str (stL a)) (.str (stL b)))) S else .stk) = _
  rw [if_pos ⟨sh_str ha, sh_str hb⟩]
  show Res.ok (D.bl (!(stL a == stL b))) S = _
  rw [stL_beq]
theorem dEq_str (a b : List Nat) (S : SS) (ha : Sm a) (hb : Sm b) : dEq (T a) (T b) S = .ok (.bl (decide (a = b))) S := by
  unfold dEq dEqB
  show (if SeqAt.shaped (.str (stL a)) = true ∧ SeqAt.shaped (.str (stL b)) = true then Res.ok (D.bl (PyData.eqv (.str (stL a)) (.str (stL b)))) S else .stk) = _
  rw [if_pos ⟨sh_str ha, sh_str hb⟩]
  show Res.ok (D.bl (stL a == stL b)) S = _
  rw [stL_beq]
theorem run_is_between (n : Int) (S : SS) : m_is_between [.int n, .int 0, .int 1000000000] S = .ok (.bl (decide (0 ≤ n) && decide (n ≤ 1000000000))) S := by
  by_cases h : 0 ≤ n <;>
  simp [m_is_between, mFn, b_is_between, mRet, mAndV, mCall, m_is_integer, b_is_integer, mCons, mNil, mVar, mOp1, dIsi, tyD, tyAll, mNotV, mOp2, dLe, mOrV, mC, dIs, dNoneB, lft, gc_bl, h]

/-! ### the check number -/
theorem mul_fit {i j : Nat} (hi : i < 2 ^ 64) (hj : j < 2 ^ 64) : (i : Int).natAbs.log2 + (j : Int).natAbs.log2 < 1000000 :=
  L2.wide_mul (i := (i : Int)) (j := (j : Int)) (a := 64) (b := 64) (by simpa using hi) (by simpa using hj) (by decide) (by decide) (by decide)
theorem ord_sgn (c : Nat) (S : SS) : dOrd [sgn c] S = .ok (.int (c : Nat)) S := rfl
def enumK (k : Nat) (l : List Nat) : List D := ((l.map sgn).zipIdx k).map fun p => .tup [.int (p.2 : Nat), p.1]
theorem enumK_cons (k c : Nat) (l : List Nat) : enumK k (c :: l) = .tup [.int (k : Nat), sgn c] :: enumK (k + 1) l := rfl
theorem enum_K (l : List Nat) : enumD (l.map sgn) = enumK 0 l := rfl
theorem loop_check (a : D) (S : SS) : ∀ (l : List Nat) (k t : Nat) (x y : Option D), (∀ c ∈ l, c < 1000) → k + l.length < 1000000 → ∃ x' y',
    forGoW (fun _ => True) (gmTup [gmName 2, gmName 3]) (mAugI 1 (fun i j => i + j) (mOp2 dMul (mOp2 dAdd (mVar 2) (mC (.int 1))) (mOpA dOrd (mCons (mVar 3) mNil)))) (enumK k l) [some a, some (.int (t : Nat)), x, y] S =
      .nx [some a, some (.int ((t + wsum (k + 1) l : Nat))), x', y'] S
  | [], k, t, x, y, _, _ => ⟨x, y, by simp [enumK, forGoW, wsum]⟩
  | c :: l, k, t, x, y, h, hk => by
    obtain ⟨x', y', e⟩ := loop_check a S l (k + 1) (t + (k + 1) * c) (some (.int (k : Nat))) (some (sgn c)) (fun d hd => h d (List.mem_cons_of_mem _ hd)) (by simp at hk; omega)
    refine ⟨x', y', ?_⟩
    have hc := h c List.mem_cons_self
    have hm : ((k : Int) + 1).natAbs.log2 + ((c : Nat) : Int).natAbs.log2 < 1000000 := mul_fit (i := k + 1) (j := c) (by simp at hk; omega) (by omega)
    have e2 : ((t + (k + 1) * c + wsum (k + 1 + 1) l : Nat)) = t + wsum (k + 1) (c :: l) := by show _ = t + ((k + 1) * c + wsum (k + 1 + 1) l); omega
    rw [e2] at e
    rw [enumK_cons]
    have e3 : ((t + (k + 1) * c : Nat) : Int) = (t : Int) + ((k : Int) + 1) * (c : Int) := by push_cast; rfl
    rw [e3] at e
    simp only [forGoW, gmTup, gmAll, gmName, mAugI, mOp2, mVar, mC, mOpA, mCons, mNil, lft, Res.bind, Res.hush, if_true, List.length_cons, List.length_nil, List.set_cons_zero, List.set_cons_succ, List.getElem?_cons_zero, List.getElem?_cons_succ, dAdd, ord_sgn, dMul, if_pos hm]
    exact e
theorem run_check_in {l : List Nat} (h : Sm l) (S : SS) : m_check_in [T l] S = .ok (.int (chk l : Nat)) S := by
  obtain ⟨x', y', e⟩ := loop_check (T l) S l 0 0 none none h.sg (by have := h.len; omega)
  rw [Nat.zero_add] at e
  have e1 : ((wsum (0 + 1) l : Nat) : Int) % 9973 = ((chk l : Nat) : Int) := by unfold chk; rfl
  have e0 : ((0 : Nat) : Int) = (0 : Int) := rfl
  rw [e0] at e
  simp only [m_check_in, mFn, b_check_in, mSeq, mSet, mC, lft, mFor, mItEnS, mVar, Res.bind, List.map_cons, List.map_nil, List.length_cons, List.length_nil, if_true, List.cons_append, List.nil_append, List.replicate, List.set_cons_zero, List.set_cons_succ, List.getElem?_cons_zero, List.getElem?_cons_succ, Nat.reduceAdd, Nat.reduceSub, stL_list, enum_K, e, mRet, mOp2, dMod]
  rw [if_pos (by decide), e1]
  exact gc_int
end K51
end FW

set_option Elab.async false
set_option linter.all false
set_option maxRecDepth 100000
set_option maxHeartbeats 4000000
namespace FW
namespace K51
open PySem TL
theorem loop_check2 (a : D) (S : SS) : ∀ (l : List Nat) (k t : Nat) (x y : Option D), (∀ c ∈ l, c < 1000) → k + l.length < 1000000 → ∃ x' y',
    forGoW (fun _ => True) (gmTup [gmName 2, gmName 3]) (mSet 1 (mOp2 dAdd (mVar 1) (mOp2 dMul (mOp2 dAdd (mVar 2) (mC (.int 1))) (mOpA dOrd (mCons (mVar 3) mNil))))) (enumK k l) [some a, some (.int (t : Nat)), x, y] S =
      .nx [some a, some (.int ((t + wsum (k + 1) l : Nat))), x', y'] S
  | [], k, t, x, y, _, _ => ⟨x, y, by simp [enumK, forGoW, wsum]⟩
  | c :: l, k, t, x, y, h, hk => by
    obtain ⟨x', y', e⟩ := loop_check2 a S l (k + 1) (t + (k + 1) * c) (some (.int (k : Nat))) (some (sgn c)) (fun d hd => h d (List.mem_cons_of_mem _ hd)) (by simp at hk; omega)
    refine ⟨x', y', ?_⟩
    have hc := h c List.mem_cons_self
    have hm : ((k : Int) + 1).natAbs.log2 + ((c : Nat) : Int).natAbs.log2 < 1000000 := mul_fit (i := k + 1) (j := c) (by simp at hk; omega) (by omega)
    have e2 : ((t + (k + 1) * c + wsum (k + 1 + 1) l : Nat)) = t + wsum (k + 1) (c :: l) := by show _ = t + ((k + 1) * c + wsum (k + 1 + 1) l); omega
    rw [e2] at e
    rw [enumK_cons]
    have e3 : ((t + (k + 1) * c : Nat) : Int) = (t : Int) + ((k : Int) + 1) * (c : Int) := by push_cast; rfl
    rw [e3] at e
    simp only [forGoW, gmTup, gmAll, gmName, mSet, mOp2, mVar, mC, mOpA, mCons, mNil, lft, Res.bind, Res.hush, if_true, List.length_cons, List.length_nil, List.set_cons_zero, List.set_cons_succ, List.getElem?_cons_zero, List.getElem?_cons_succ, dAdd, ord_sgn, dMul, if_pos hm]
    exact e
theorem run_law_check {l : List Nat} (h : Sm l) (S : SS) : m__law_check [T l] S = .ok (.int (chk l : Nat)) S := by
  obtain ⟨x', y', e⟩ := loop_check2 (T l) S l 0 0 none none h.sg (by have := h.len; omega)
  rw [Nat.zero_add] at e
  have e1 : ((wsum (0 + 1) l : Nat) : Int) % 9973 = ((chk l : Nat) : Int) := by unfold chk; rfl
  have e0 : ((0 : Nat) : Int) = (0 : Int) := rfl
  rw [e0] at e
  simp only [m__law_check, mFn, b__law_check, mSeq, mSet, mC, lft, mFor, mItEnS, mVar, Res.bind, List.map_cons, List.map_nil, List.length_cons, List.length_nil, if_true, List.cons_append, List.nil_append, List.replicate, List.set_cons_zero, List.set_cons_succ, List.getElem?_cons_zero, List.getElem?_cons_succ, Nat.reduceAdd, Nat.reduceSub, stL_list, enum_K] at e ⊢
  simp only [e, mRet, mOp2, mVar, mC, mOpA, mCons, mNil, lft, Res.bind, List.getElem?_cons_zero, List.getElem?_cons_succ, dInt, dMod]
  rw [if_pos (by decide), e1]
  exact gc_int
/-! ### comprehensions -/
theorem lc_map {α : Type} {k : SS → Prop} {g : MG} {t : MT} {el : ME} {e0 : En} {S : SS} (hk : k S) (h f : α → D) (b : α → Bool) (e1 : α → En) : ∀ (l : List α) (acc : List D), (∀ c ∈ l, g (h c) e0 S = .ok (e1 c) S) → (∀ c ∈ l, t (e1 c) S = .ok (b c) S) → (∀ c ∈ l, b c = true → el (e1 c) S = .ok (f c) S) → acc.length + l.length ≤ 1000000 →
    lcGo k g t el e0 (l.map h) S acc = .ok (acc ++ (l.filter b).map f) S
  | [], acc, _, _, _, _ => by simp [lcGo, hk]
  | c :: l, acc, h1, h2, h3, hl => by
    simp only [List.length_cons] at hl
    have r1 := h1 c List.mem_cons_self
    have r2 := h2 c List.mem_cons_self
    have r3 := h3 c List.mem_cons_self
    have ih := fun acc' hl' => lc_map hk h f b e1 l acc' (fun d hd => h1 d (List.mem_cons_of_mem _ hd)) (fun d hd => h2 d (List.mem_cons_of_mem _ hd)) (fun d hd => h3 d (List.mem_cons_of_mem _ hd)) hl'
    rw [List.map_cons]
    unfold lcGo
    rw [if_pos hk, r1]
    simp only [calm_ok, Res.bind_ok, r2]
    cases hb : b c with
    | false => simp only [Bool.false_eq_true, if_false]; rw [ih acc (by omega)]; simp [hb]
    | true =>
      simp only [if_true, r3 hb, calm_ok, Res.bind_ok]
      rw [if_pos (by omega), ih (acc ++ [f c]) (by simp; omega)]
      simp [hb]
theorem bls_map {α : Type} (b : α → Bool) : ∀ l : List α, blsD (l.map fun c => .bl (b c)) = some (l.map b)
  | [] => rfl
  | c :: l => by simp [blsD, bls_map b l]
theorem dAll_map {α : Type} (b : α → Bool) (l : List α) (S : SS) : dAll (l.map fun c => .bl (b c)) S = .ok (.bl (l.all b)) S := by
  unfold dAll
  rw [bls_map]
  simp
theorem sp_list : ((" " : Str)).cps.toList = [32] := by decide
theorem ti_list : (("~" : Str)).cps.toList = [126] := by decide
theorem dLe_lo (c : Nat) (S : SS) : dLe (.str " ") (sgn c) S = .ok (.bl (decide (32 ≤ c))) S := by
  show Res.ok (D.bl (!decide ((#[c] : Array Nat).toList < ((" " : Str)).cps.toList))) S = _
  rw [sp_list, show (#[c] : Array Nat).toList = [c] from rfl, StrLaws.lt_cons_cons, StrLaws.lt_nil_nil]
  by_cases h : 32 ≤ c
  · have : ¬ c < 32 := by omega
    simp [h, this]
  · have : c < 32 := by omega
    simp [h, this]
theorem dLe_hi (c : Nat) (S : SS) : dLe (sgn c) (.str "~") S = .ok (.bl (decide (c ≤ 126))) S := by
  show Res.ok (D.bl (!decide (((("~" : Str)).cps.toList < (#[c] : Array Nat).toList)))) S = _
  rw [ti_list, show (#[c] : Array Nat).toList = [c] from rfl, StrLaws.lt_cons_cons, StrLaws.lt_nil_nil]
  by_cases h : c ≤ 126
  · have : ¬ 126 < c := by omega
    simp [h, this]
  · have : 126 < c := by omega
    simp [h, this]
def pvb (l : List Nat) : Bool := decide (l.length ≤ 300) && l.all fun c => decide (32 ≤ c) && decide (c ≤ 126)
theorem pvb_iff {l : List Nat} : pvb l = true ↔ PV l := by
  unfold pvb
  simp only [Bool.and_eq_true, decide_eq_true_eq, List.all_eq_true]
  exact ⟨fun h => ⟨h.1, h.2⟩, fun h => ⟨h.len, h.sg⟩⟩
theorem run_payload_text {l : List Nat} (h : Sm l) (S : SS) : m_is_payload_text [T l] S = .ok (.bl (pvb l)) S := by
  have hlen : (stL l).length ≤ 1000000 := by rw [stL_len]; have := h.len; omega
  have e := lc_map (k := fun _ => True) (g := gmName 1) (t := mYes) (el := mChain dLe dLe (mC (.str " ")) (mVar 1) (mC (.str "~"))) (e0 := [some (T l), none]) (S := S) trivial sgn (fun c => .bl (decide (32 ≤ c) && decide (c ≤ 126))) (fun _ => true) (fun c => [some (T l), some (sgn c)]) l []
    (fun c _ => rfl) (fun c _ => rfl) (fun c _ _ => by
      simp only [mChain, mC, mVar, Res.bind, List.getElem?_cons_zero, List.getElem?_cons_succ, dLe_lo]
      cases h1 : decide (32 ≤ c) <;> simp [dLe_hi]) (by have := h.len; simp; omega)
  rw [List.nil_append, List.filter_eq_self.mpr (fun _ _ => rfl)] at e
  by_cases hl : l.length ≤ 300
  · have hg : decide ((300 : Int) < ((stL l).length : Int)) = false := by rw [stL_len]; exact decide_eq_false (by omega)
    simp only [m_is_payload_text, mFn, b_is_payload_text, mSeq, mIfS, mOr, mNot, mTst, mOp1, dIsi, tyD, tyAll, mVar, mOp2, mOpA, dLen, lenD, mCons, mNil, dGt, mC, lft, Res.bind, List.map_cons, List.map_nil, List.length_cons, List.length_nil, if_true, List.cons_append, List.nil_append, List.replicate, List.getElem?_cons_zero, List.getElem?_cons_succ, Nat.reduceAdd, Nat.reduceSub, if_pos hlen, hg, mNext, mRet, mOfL, mLc, mItAny, wipeE, List.set_cons_zero, List.set_cons_succ, stL_list, e]
    simp only [List.contains, List.elem, List.mem_cons, true_or, or_true, if_true, Bool.not_true, Bool.false_eq_true, if_false, beq_self_eq_true, dAll_map, gc_bl]
    simp [pvb, hl, stL_list, e, dAll_map, gc_bl]
  · have hg : decide ((300 : Int) < ((stL l).length : Int)) = true := by rw [stL_len]; exact decide_eq_true (by omega)
    simp only [m_is_payload_text, mFn, b_is_payload_text, mSeq, mIfS, mOr, mNot, mTst, mOp1, dIsi, tyD, tyAll, mVar, mOp2, mOpA, dLen, lenD, mCons, mNil, dGt, mC, lft, Res.bind, List.map_cons, List.map_nil, List.length_cons, List.length_nil, if_true, List.cons_append, List.nil_append, List.replicate, List.getElem?_cons_zero, List.getElem?_cons_succ, Nat.reduceAdd, Nat.reduceSub, if_pos hlen, hg, mNext, mRet]
    simp [pvb, hl, gc_bl]
end K51
end FW

set_option Elab.async false
set_option linter.all false
set_option maxRecDepth 100000
set_option maxHeartbeats 4000000
namespace FW
namespace K51
open PySem TL
/-! ### a frame's text -/
theorem log_fit {n : Nat} (h : n < 2 ^ 64) : ((n : Nat) : Int).natAbs.log2 < 1920 := Nat.lt_of_lt_of_le (PySem.Flt.log2_lt_of (k := 64) (by decide) (by simpa using h)) (by decide)
theorem colon_stL : (":" : Str) = stL [58] := by decide
theorem hash_stL : ("#" : Str) = stL [35] := by decide
theorem empty_stL : Str.empty = stL [] := rfl
theorem numL_sm {n : Nat} (h : n < 2 ^ 64) : (numL n).length ≤ 20 := numL_len (by decide) (Nat.lt_of_lt_of_le h (by decide))
theorem front_sm {n : Nat} {p : List Nat} (hn : n < 2 ^ 64) (hp : p.length ≤ 1000) (hs : ∀ c ∈ p, c < 1000) : Sm (front n p) := by
  refine ⟨?_, fun c hc => ?_⟩
  · unfold front
    have := numL_sm hn
    have := numL_sm (n := p.length) (by omega)
    simp
    omega
  · unfold front at hc
    simp only [List.mem_append, List.mem_cons] at hc
    rcases hc with h | h | h | h | h
    · have := dig h; omega
    · omega
    · have := dig h; omega
    · omega
    · exact hs c h
theorem chk_lt (l : List Nat) : chk l < 9973 := Nat.mod_lt _ (by decide)
theorem line_sm {n : Nat} {p : List Nat} (hn : n < 2 ^ 64) (hp : p.length ≤ 1000) (hs : ∀ c ∈ p, c < 1000) : Sm (line n p) := by
  have f := front_sm hn hp hs
  have c4 := numL_len (n := chk (front n p)) (k := 4) (by decide) (by have := chk_lt (front n p); omega)
  refine ⟨?_, fun c hc => ?_⟩
  · unfold line
    have a1 := numL_sm hn
    have a2 := numL_sm (n := p.length) (by omega)
    have : (front n p).length ≤ 1050 := by unfold front; simp; omega
    simp
    omega
  · unfold line at hc
    simp only [List.mem_append, List.mem_cons] at hc
    rcases hc with h | h | h
    · exact f.sg c h
    · omega
    · have := dig h; omega
theorem mFmt_str {m : ME} {env : En} {S : SS} {l : List Nat} (h : m env S = .ok (T l) S) (hl : l.length ≤ 1000000) : mFmt m env S = .ok (T l) S := by
  unfold mFmt
  rw [h]
  show (if (stL l).length ≤ 1000000 then Res.ok (D.str (stL l)) S else .stk) = _
  rw [stL_len, if_pos hl]
theorem mFmt_num {m : ME} {env : En} {S : SS} {n : Nat} (h : m env S = .ok (.int (n : Nat)) S) (hl : n < 2 ^ 64) : mFmt m env S = .ok (T (numL n)) S := by
  unfold mFmt
  rw [h]
  show (if ((n : Nat) : Int).natAbs.log2 < 1920 then Res.ok (D.str (Str.ofString (toString ((n : Nat) : Int)))) S else .stk) = _
  rw [if_pos (log_fit hl), num_stL]
theorem mJs_step {m : ME} {ms : List ME} {env : En} {S : SS} {l acc : List Nat} (h : m env S = .ok (T l) S) (hl : acc.length + l.length ≤ 1000000) : mJs (m :: ms) (stL acc) env S = mJs ms (stL (acc ++ l)) env S := by
  show ((m env S).bind _) = _
  rw [h]
  show (if (stL acc ++ stL l).length ≤ 1000000 then mJs ms (stL acc ++ stL l) env S else .stk) = _
  rw [stL_app, stL_len, if_pos (by rw [List.length_append]; exact hl)]
theorem dLen_T {l : List Nat} {S : SS} (h : l.length ≤ 1000000) : dLen [T l] S = .ok (.int (l.length : Nat)) S := by
  show (match (if (stL l).length ≤ 1000000 then some (stL l).length else none) with
    | some n => Res.ok (D.int (n : Nat)) S
    | none => .stk) = _
  rw [stL_len, if_pos h]
theorem run_line_of {n : Nat} {p : List Nat} (hn : n < 2 ^ 64) (hp : p.length ≤ 1000) (hs : ∀ c ∈ p, c < 1000) (S : SS) : m_line_of [.int (n : Nat), T p] S = .ok (T (line n p)) S := by
  have a1 := numL_sm hn
  have a2 := numL_sm (n := p.length) (by omega)
  have f := front_sm hn hp hs
  have c4 := numL_sm (n := chk (front n p)) (by have := chk_lt (front n p); omega)
  have e1 : mJoined [mFmt (mVar 0), mFmt (mC (.str ":")), mFmt (mOpA dLen (mCons (mVar 1) mNil)), mFmt (mC (.str ":")), mFmt (mVar 1)] [some (.int (n : Nat)), some (T p), none] S = .ok (T (front n p)) S := by
    unfold mJoined
    rw [empty_stL, mJs_step (mFmt_num rfl hn) (by simp; omega), mJs_step (mFmt_str (l := [58]) (by rw [colon_stL]; rfl) (by simp)) (by simp; omega),
      mJs_step (mFmt_num (n := p.length) (by simp only [mOpA, mCons, mVar, mNil, Res.bind, List.getElem?_cons_zero, List.getElem?_cons_succ]; exact dLen_T (by omega)) (by omega)) (by simp; omega),
      mJs_step (mFmt_str (l := [58]) (by rw [colon_stL]; rfl) (by simp)) (by simp; omega), mJs_step (mFmt_str (l := p) rfl (by omega)) (by simp; omega)]
    show Res.ok (D.str (stL _)) S = _
    unfold front
    simp
  have e2 : mJoined [mFmt (mVar 2), mFmt (mC (.str "#")), mFmt (mCall 1 m_check_in (mCons (mVar 2) mNil))] [some (.int (n : Nat)), some (T p), some (T (front n p))] S = .ok (T (line n p)) S := by
    have fl := f.len
    unfold mJoined
    rw [empty_stL, mJs_step (mFmt_str (l := front n p) rfl (by omega)) (by simp; omega), mJs_step (mFmt_str (l := [35]) (by rw [hash_stL]; rfl) (by simp)) (by simp; omega),
      mJs_step (mFmt_num (n := chk (front n p)) (by simp only [mCall, mCons, mVar, mNil, Res.bind, List.getElem?_cons_zero, List.getElem?_cons_succ, List.length_cons, List.length_nil, if_true]; exact run_check_in f S) (by have := chk_lt (front n p); omega)) (by simp; omega)]
    show Res.ok (D.str (stL _)) S = _
    unfold line
    simp
  simp only [m_line_of, mFn, b_line_of, mSeq, mSet, lft, List.map_cons, List.map_nil, List.length_cons, List.length_nil, if_true, List.cons_append, List.nil_append, List.replicate, List.set_cons_zero, List.set_cons_succ, Nat.reduceAdd, Nat.reduceSub, e1, mRet, e2]
  exact gc_str
/-! ### figures_ahead -/
def figOk (M : List Nat) : Bool := decide (58 ∈ M) && decide (1 ≤ (cutC 58 M).1.length) && decide ((cutC 58 M).1.length ≤ 10) && (cutC 58 M).1.all (fun c => decide (48 ≤ c) && decide (c ≤ 57)) && decide (numL (NumText.digitsVal (cutC 58 M).1) = (cutC 58 M).1)
def figA (M : List Nat) : Option (Nat × List Nat) := if figOk M = true then some (NumText.digitsVal (cutC 58 M).1, (cutC 58 M).2.2) else none
theorem cut_in {M : List Nat} (h : 58 ∈ M) : M = (cutC 58 M).1 ++ 58 :: (cutC 58 M).2.2 ∧ 58 ∉ (cutC 58 M).1 ∧ (cutC 58 M).2.1 = [58] := by
  unfold cutC
  rw [if_pos h]
  obtain ⟨h1, h2⟩ := split_at h
  exact ⟨h1, h2, rfl⟩
theorem figA_some {M R : List Nat} {v : Nat} (h : figA M = some (v, R)) : M = numL v ++ 58 :: R := by
  unfold figA at h
  by_cases c : figOk M = true
  · rw [if_pos c] at h
    cases h
    unfold figOk at c
    simp only [Bool.and_eq_true, decide_eq_true_eq] at c
    rw [c.2]
    exact (cut_in c.1.1.1.1).1
  · rw [if_neg c] at h
    cases h
theorem figA_of {v : Nat} {R : List Nat} (h : (numL v).length ≤ 10) : figA (numL v ++ 58 :: R) = some (v, R) := by
  have hm : 58 ∈ numL v ++ 58 :: R := by simp
  obtain ⟨e1, e2, _⟩ := cut_in hm
  obtain ⟨e3, e4⟩ := first_eq (no58 v) e2 e1
  have ok : figOk (numL v ++ 58 :: R) = true := by
    unfold figOk
    rw [← e3]
    simp only [Bool.and_eq_true, decide_eq_true_eq, List.all_eq_true]
    exact ⟨⟨⟨⟨hm, List.length_pos_iff.mpr (numL_ne v)⟩, h⟩, fun c hc => dig hc⟩, by rw [numL_val]⟩
  unfold figA
  rw [if_pos ok, ← e3, ← e4, numL_val]
theorem dig_list : ("0123456789" : Str).cps.toList = [48, 49, 50, 51, 52, 53, 54, 55, 56, 57] := by decide
theorem dIn_dig (c : Nat) (S : SS) : dIn (sgn c) (.str "0123456789") S = .ok (.bl (decide (48 ≤ c) && decide (c ≤ 57))) S := by
  show Res.ok (D.bl (decide (c ∈ ("0123456789" : Str).cps.toList))) S = _
  rw [dig_list]
  congr 2
  rw [Bool.eq_iff_iff]
  simp
  omega
theorem nil_stL : ("" : Str) = stL [] := by decide
theorem big_num : dStr [.int 1000000000] S = .ok (T [49, 48, 48, 48, 48, 48, 48, 48, 48, 48]) S := by
  show (if (1000000000 : Int).natAbs.log2 < 1920 then Res.ok (D.str (Str.ofString (toString ((1000000000 : Nat) : Int)))) S else .stk) = _
  rw [if_pos (by decide), num_stL]
  congr 3
theorem dStr_num {n : Nat} {S : SS} (h : n < 2 ^ 64) : dStr [.int (n : Nat)] S = .ok (T (numL n)) S := by
  show (if ((n : Nat) : Int).natAbs.log2 < 1920 then Res.ok (D.str (Str.ofString (toString ((n : Nat) : Int)))) S else .stk) = _
  rw [if_pos (log_fit h), num_stL]
theorem dInt_dig {F : List Nat} {S : SS} (h : ∀ c ∈ F, 48 ≤ c ∧ c ≤ 57) (hn : F ≠ []) (hl : F.length ≤ 10) : dInt [T F] S = .ok (.int (NumText.digitsVal F : Nat)) S := by
  have e : intText? (stL F) = some ((NumText.digitsVal F : Nat) : Int) := intText_digits (x := stL F) (fun c hc => by have := h c hc; omega) hn (by rw [stL_len]; omega)
  show (match intText? (stL F) with
    | some n => if (stL F).length ≤ 640 then Res.ok (D.int n) S else .stk
    | none => .stk) = _
  rw [e]
  show (if (stL F).length ≤ 640 then Res.ok (D.int _) S else .stk) = _
  rw [stL_len, if_pos (by omega)]
theorem digitsVal_lt {F : List Nat} (h : ∀ c ∈ F, 48 ≤ c ∧ c ≤ 57) (hl : F.length ≤ 10) : NumText.digitsVal F < 2 ^ 64 := by
  have key : ∀ (l : List Nat) (a k : Nat), (∀ c ∈ l, 48 ≤ c ∧ c ≤ 57) → a < 10 ^ k → l.foldl (fun acc c => acc * 10 + (c - 48)) a < 10 ^ (k + l.length) := by
    intro l
    induction l with
    | nil => intro a k _ h; simpa using h
    | cons c l ih =>
      intro a k h ha
      have hc := h c List.mem_cons_self
      have := ih (a * 10 + (c - 48)) (k + 1) (fun d hd => h d (List.mem_cons_of_mem _ hd)) (by rw [Nat.pow_succ]; omega)
      rw [List.foldl_cons, List.length_cons, show k + (l.length + 1) = k + 1 + l.length by omega]
      exact this
  have e := key F 0 0 h (by decide)
  refine Nat.lt_of_lt_of_le (show NumText.digitsVal F < 10 ^ (0 + F.length) from e) ?_
  exact Nat.le_trans (Nat.pow_le_pow_right (by decide) (show 0 + F.length ≤ 10 by omega)) (by decide)
end K51
end FW

set_option Elab.async false
set_option linter.all false
set_option maxRecDepth 100000
set_option maxHeartbeats 4000000
namespace FW
namespace K51
open PySem TL
def optD (o : Option (Nat × List Nat)) : D := match o with
  | some (v, R) => .tup [.int (v : Nat), T R]
  | none => .non
theorem cut_out {M : List Nat} (h : 58 ∉ M) : cutC 58 M = (M, [], []) := by unfold cutC; rw [if_neg h]
theorem gc_pair {v : Int} {s : Str} {S : SS} : gc S.length (.tup [.int v, .str s]) S = .ok (.tup [.int v, .str s]) S := gc_flat rfl
theorem run_figures {M : List Nat} (h : Sm M) (S : SS) : m_figures_ahead [T M] S = .ok (optD (figA M)) S := by
  have hM : (stL M).length ≤ 1000000 := by rw [stL_len]; have := h.len; omega
  have ep : dPart (stL M) (.str ":") S = .ok (.tup [T (cutC 58 M).1, T (cutC 58 M).2.1, T (cutC 58 M).2.2]) S := by
    show (if (":" : Str).length ≠ 0 ∧ (stL M).length ≤ 1000000 then Res.ok (D.tup [.str (Txt.partition (stL M) ":").1, .str (Txt.partition (stL M) ":").2.1, .str (Txt.partition (stL M) ":").2.2]) S else .stk) = _
    rw [if_pos ⟨by decide, hM⟩, colon_stL]
    rw [show stL [58] = (⟨#[58]⟩ : Str) from rfl, part_cut, stL_list]
  have s1 : ∀ (k : Nat), k ≤ 10 → True := fun _ _ => trivial
  by_cases hm : 58 ∈ M
  · obtain ⟨c1, c2, c3⟩ := cut_in hm
    obtain ⟨F, hF⟩ : ∃ F, F = (cutC 58 M).1 := ⟨_, rfl⟩
    obtain ⟨R, hR⟩ : ∃ R, R = (cutC 58 M).2.2 := ⟨_, rfl⟩
    rw [c3, ← hF, ← hR] at ep
    rw [← hF, ← hR] at c1
    have lF : F.length ≤ 5000 := by have := h.len; rw [c1] at this; simp at this; omega
    have sF : Sm F := ⟨lF, fun c hc => h.sg c (by rw [c1]; simp [hc])⟩
    have e0 : dEq (.str (stL [58])) (.str "") S = .ok (.bl false) S := by
      rw [nil_stL]
      exact dEq_str [58] [] S ⟨by decide, by decide⟩ ⟨by decide, by decide⟩
    have e1 : dLe (.int 1) (.int (F.length : Nat)) S = .ok (.bl (decide (1 ≤ F.length))) S := by
      show Res.ok (D.bl (decide ((1 : Int) ≤ ((F.length : Nat) : Int)))) S = _
      congr 2
      rw [Bool.eq_iff_iff]
      simp
      omega
    have e2 : dLe (.int (F.length : Nat)) (.int ((10 : Nat) : Int)) S = .ok (.bl (decide (F.length ≤ 10))) S := by
      show Res.ok (D.bl (decide (((F.length : Nat) : Int) ≤ ((10 : Nat) : Int)))) S = _
      congr 2
      rw [Bool.eq_iff_iff]
      simp
      omega
    have lF2 := dLen_T (l := F) (S := S) (by omega)
    have l10 := dLen_T (l := [49, 48, 48, 48, 48, 48, 48, 48, 48, 48]) (S := S) (by decide)
    obtain ⟨env1, hE⟩ : ∃ env1 : En, env1 = [some (T M), some (T F), some (T [58]), some (T R), none] := ⟨_, rfl⟩
    have g0 : env1[0]? = some (some (T M)) := by rw [hE]; rfl
    have g1 : env1[1]? = some (some (T F)) := by rw [hE]; rfl
    have g2 : env1[2]? = some (some (T [58])) := by rw [hE]; rfl
    have g3 : env1[3]? = some (some (T R)) := by rw [hE]; rfl
    have st1 : mAsg (gmTup [gmName 1, gmName 2, gmName 3]) (mM1 dPart (mVar 0) (mC (.str ":"))) [some (T M), none, none, none, none] S = .nx env1 S := by
      rw [hE]
      exact w_asg (v_m1 (v_var rfl) v_c ep) rfl
    have A : mChain dLe dLe (mC (.int 1)) (mOpA dLen (mCons (mVar 1) mNil)) (mOpA dLen (mCons (mOpA dStr (mCons (mC (.int 1000000000)) mNil)) mNil)) env1 S = .ok (.bl (decide (1 ≤ F.length) && decide (F.length ≤ 10))) S :=
      v_chain v_c (v_opA (v_cons (v_var g1) v_nil) lF2) (v_opA (v_cons (v_opA (v_cons v_c v_nil) big_num) v_nil) l10) e1 e2
    have T1 : mOr (mTst (mOp2 dEq (mVar 2) (mC (.str "")))) (mNot (mTst (mChain dLe dLe (mC (.int 1)) (mOpA dLen (mCons (mVar 1) mNil)) (mOpA dLen (mCons (mOpA dStr (mCons (mC (.int 1000000000)) mNil)) mNil))))) env1 S = .ok (!(decide (1 ≤ F.length) && decide (F.length ≤ 10))) S :=
      (v_or_f (v_tst (v_op2 (v_var g2) v_c e0))).trans (v_not (v_tst A))
    have lc := lc_map (k := fun _ => True) (g := gmName 4) (t := mYes) (el := mOp2 dIn (mVar 4) (mC (.str "0123456789"))) (e0 := wipeE env1 [4]) (S := S) trivial sgn (fun c => .bl (decide (48 ≤ c) && decide (c ≤ 57))) (fun _ => true) (fun c => (wipeE env1 [4]).set 4 (some (sgn c))) F []
      (fun c _ => rfl) (fun c _ => rfl) (fun c _ _ => v_op2 (v_var (by rw [hE]; rfl)) v_c (dIn_dig c S)) (by simp; omega)
    rw [List.nil_append, List.filter_eq_self.mpr (fun _ _ => rfl)] at lc
    have L : mOfL dAll (mLc [4] (mItAny (mVar 1)) (gmName 4) mYes (mOp2 dIn (mVar 4) (mC (.str "0123456789")))) env1 S = .ok (.bl (F.all (fun c => decide (48 ≤ c) && decide (c ≤ 57)))) S :=
      v_ofL (v_lc (w := ⟨F.map sgn, fun _ => True⟩) (by unfold mItAny; rw [v_var g1]; rfl) lc) (dAll_map _ _ _)
    have fo : figOk M = (decide (1 ≤ F.length) && decide (F.length ≤ 10) && F.all (fun c => decide (48 ≤ c) && decide (c ≤ 57)) && decide (numL (NumText.digitsVal F) = F)) := by
      unfold figOk
      rw [← hF]
      simp [hm]
    cases h1 : (decide (1 ≤ F.length) && decide (F.length ≤ 10)) with
    | false =>
      have fn : figA M = none := by unfold figA; rw [fo, h1]; rfl
      rw [fn]
      rw [h1] at T1
      exact (w_fn rfl (w_seq st1 (w_seq_rt (w_if_t T1 (w_ret v_c))))).trans gc_non
    | true =>
      have hb : 1 ≤ F.length ∧ F.length ≤ 10 := by simpa using h1
      rw [h1] at T1
      cases h2 : F.all (fun c => decide (48 ≤ c) && decide (c ≤ 57)) with
      | false =>
        have fn : figA M = none := by unfold figA; rw [fo, h1, h2]; rfl
        rw [fn]
        rw [h2] at L
        exact (w_fn rfl (w_seq st1 (w_seq (w_if_f T1 w_next) (w_seq_rt (w_if_t (v_or_t (v_not (v_tst L))) (w_ret v_c)))))).trans gc_non
      | true =>
        rw [h2] at L
        have hd : ∀ c ∈ F, 48 ≤ c ∧ c ≤ 57 := by simpa [List.all_eq_true] using h2
        have hne : F ≠ [] := List.length_pos_iff.mp hb.1
        have i1 := dInt_dig (S := S) hd hne hb.2
        have i2 := dStr_num (S := S) (digitsVal_lt hd hb.2)
        have n20 := numL_sm (digitsVal_lt hd hb.2)
        have i3 := dNe_str (numL (NumText.digitsVal F)) F S ⟨by omega, fun c hc => by have := dig hc; omega⟩ sF
        have I : mOpA dInt (mCons (mVar 1) mNil) env1 S = .ok (.int (NumText.digitsVal F : Nat)) S := v_opA (v_cons (v_var g1) v_nil) i1
        have T2 : mOr (mNot (mTst (mOfL dAll (mLc [4] (mItAny (mVar 1)) (gmName 4) mYes (mOp2 dIn (mVar 4) (mC (.str "0123456789"))))))) (mTst (mOp2 dNe (mOpA dStr (mCons (mOpA dInt (mCons (mVar 1) mNil)) mNil)) (mVar 1))) env1 S = .ok (!decide (numL (NumText.digitsVal F) = F)) S :=
          (v_or_f (v_not (v_tst L))).trans (v_tst (v_op2 (v_opA (v_cons I v_nil) i2) (v_var g1) i3))
        cases h3 : decide (numL (NumText.digitsVal F) = F) with
        | false =>
          have fn : figA M = none := by unfold figA; rw [fo, h1, h2, h3]; rfl
          rw [fn]
          rw [h3] at T2
          exact (w_fn rfl (w_seq st1 (w_seq (w_if_f T1 w_next) (w_seq_rt (w_if_t T2 (w_ret v_c)))))).trans gc_non
        | true =>
          have fn : figA M = some (NumText.digitsVal F, R) := by unfold figA; rw [fo, h1, h2, h3, ← hF, ← hR]; rfl
          rw [fn]
          rw [h3] at T2
          exact (w_fn rfl (w_seq st1 (w_seq (w_if_f T1 w_next) (w_seq (w_if_f T2 w_next) (w_ret (v_tup (v_cons I (v_cons (v_var g3) v_nil)) (by simp))))))).trans gc_pair
  · rw [cut_out hm] at ep
    have fn : figA M = none := by unfold figA figOk; simp [hm]
    have e0 : dEq (.str (stL [])) (.str "") S = .ok (.bl true) S := by
      rw [nil_stL]
      exact dEq_str [] [] S ⟨by decide, by decide⟩ ⟨by decide, by decide⟩
    rw [fn]
    exact (w_fn rfl (w_seq (w_asg (e1 := [some (T M), some (T M), some (T []), some (T []), none]) (v_m1 (v_var rfl) v_c ep) rfl) (w_seq_rt (w_if_t (v_or_t (v_tst (v_op2 (v_var rfl) v_c e0))) (w_ret v_c))))).trans gc_non
end K51
end FW

set_option Elab.async false
set_option linter.all false
set_option maxRecDepth 100000
set_option maxHeartbeats 4000000
namespace FW
namespace K51
open PySem TL
open Classical in
noncomputable def pairL (M : List Nat) : Option (Nat × List Nat) := match figA M with
  | none => none
  | some (n, R) => match figA R with
    | none => none
    | some (m, Q) => if 1000000000 < n then none else if pvb (Q.take m) = true ∧ line n (Q.take m) = M then some (n, Q.take m) else none
theorem pair_some {M p : List Nat} {n : Nat} (h : pairL M = some (n, p)) : n ≤ 1000000000 ∧ PV p ∧ M = line n p := by
  unfold pairL at h
  cases h1 : figA M with
  | none => rw [h1] at h; cases h
  | some a =>
    obtain ⟨v, R⟩ := a
    rw [h1] at h
    dsimp only at h
    cases h2 : figA R with
    | none => rw [h2] at h; cases h
    | some b =>
      obtain ⟨m, Q⟩ := b
      rw [h2] at h
      dsimp only at h
      by_cases c : 1000000000 < v
      · rw [if_pos c] at h; cases h
      · rw [if_neg c] at h
        by_cases c2 : pvb (Q.take m) = true ∧ line v (Q.take m) = M
        · rw [if_pos c2] at h
          cases h
          exact ⟨by omega, pvb_iff.mp c2.1, c2.2.symm⟩
        · rw [if_neg c2] at h; cases h
theorem pair_of {n : Nat} {p : List Nat} (hn : n ≤ 1000000000) (hp : PV p) : pairL (line n p) = some (n, p) := by
  have k1 := numL_len (n := n) (k := 10) (by decide) (by omega)
  have k2 := numL_len (n := p.length) (k := 3) (by decide) (by have := hp.len; omega)
  unfold pairL
  have e1 : figA (line n p) = some (n, numL p.length ++ 58 :: (p ++ 35 :: numL (chk (front n p)))) := by rw [line_form]; exact figA_of k1
  have e2 : figA (numL p.length ++ 58 :: (p ++ 35 :: numL (chk (front n p)))) = some (p.length, p ++ 35 :: numL (chk (front n p))) := figA_of (by omega)
  rw [e1]
  dsimp only
  rw [e2]
  dsimp only
  rw [if_neg (by omega)]
  have e3 : (p ++ 35 :: numL (chk (front n p))).take p.length = p := by simp
  rw [e3, if_pos ⟨pvb_iff.mpr hp, rfl⟩]
theorem pair_none {M : List Nat} (h : ¬ Img M) : pairL M = none := by
  cases e : pairL M with
  | none => rfl
  | some a =>
    obtain ⟨n, p⟩ := a
    obtain ⟨h1, h2, h3⟩ := pair_some e
    exact absurd ⟨n, p, h1, h2, h3⟩ h
theorem take_min (Q : List Nat) (m : Nat) : Q.take (min m Q.length) = Q.take m := by
  by_cases h : m ≤ Q.length
  · rw [Nat.min_eq_left h]
  · rw [Nat.min_eq_right (by omega), List.take_of_length_le (Nat.le_refl _), List.take_of_length_le (by omega)]
theorem drop_min (Q : List Nat) (m : Nat) : Q.drop (min m Q.length) = Q.drop m := by
  by_cases h : m ≤ Q.length
  · rw [Nat.min_eq_left h]
  · rw [Nat.min_eq_right (by omega), List.drop_eq_nil_of_le (Nat.le_refl _), List.drop_eq_nil_of_le (by omega)]
theorem cut_take (Q : List Nat) (m : Nat) : L2.cutS (stL Q) none (some (m : Nat)) = stL (Q.take m) := by
  unfold L2.cutS
  rw [show (stL Q).length = Q.length from stL_len Q, HT.sIx_none, HT.sIx_nat, stL_list, List.drop_zero, Nat.sub_zero, take_min]
  rfl
theorem cut_drop (Q : List Nat) (m : Nat) : L2.cutS (stL Q) (some (m : Nat)) none = stL (Q.drop m) := by
  unfold L2.cutS
  rw [show (stL Q).length = Q.length from stL_len Q, HT.sIx_none, HT.sIx_nat, stL_list, drop_min, List.take_of_length_le (by rw [List.length_drop]; omega)]
  rfl
theorem cut_last (Q : List Nat) (h : Q ≠ []) : L2.cutS (stL Q) none (some (-1)) = stL Q.dropLast := by
  unfold L2.cutS
  have e : HT.sIx Q.length Q.length (some (-1)) = Q.length - 1 := by
    show (if (-1 : Int) < 0 then ((-1 : Int) + (Q.length : Int)).toNat else min (-1 : Int).toNat Q.length) = Q.length - 1
    rw [if_pos (by decide)]
    have := List.length_pos_iff.mpr h
    omega
  rw [show (stL Q).length = Q.length from stL_len Q, HT.sIx_none, e, stL_list, List.drop_zero, Nat.sub_zero, ← List.dropLast_eq_take]
  rfl
theorem dIx_tup1 {a b : D} {S : SS} : dIx (.tup [a, b]) (.int 1) S = .ok b S := rfl
theorem dIx_tup0 {a b : D} {S : SS} : dIx (.tup [a, b]) (.int 0) S = .ok a S := rfl
theorem run_pair {M : List Nat} (h : Sm M) (S : SS) : m_pair_of_line [T M] S = .ok (optD (pairL M)) S := by
  have f1 := run_figures h S
  cases h1 : figA M with
  | none =>
    rw [h1] at f1
    have ep : pairL M = none := by unfold pairL; rw [h1]
    rw [ep]
    have st1 : mSet 1 (mCall 1 m_figures_ahead (mCons (mVar 0) mNil)) [some (T M), none, none, none] S = .nx [some (T M), some .non, none, none] S := w_set (v_call (v_cons (v_var rfl) v_nil) rfl f1)
    exact (w_fn rfl (w_seq st1 (w_seq (w_set ((v_if_f (v_tst (v_op2 (v_var rfl) v_c rfl))).trans v_c)) (w_seq_rt (w_if_t (v_or_t (v_tst (v_op2 (v_var rfl) v_c rfl))) (w_ret v_c)))))).trans gc_non
  | some a =>
    obtain ⟨n, R⟩ := a
    rw [h1] at f1
    have eM := figA_some h1
    have sR : Sm R := ⟨by have := h.len; rw [eM] at this; simp at this; omega, fun c hc => h.sg c (by rw [eM]; simp [hc])⟩
    have f2 := run_figures sR S
    have nlt : n < 2 ^ 64 := by
      unfold figA at h1
      by_cases c : figOk M = true
      · rw [if_pos c] at h1
        cases h1
        unfold figOk at c
        simp only [Bool.and_eq_true, decide_eq_true_eq, List.all_eq_true] at c
        exact digitsVal_lt c.1.2 c.1.1.2
      · rw [if_neg c] at h1
        cases h1
    have st1 : mSet 1 (mCall 1 m_figures_ahead (mCons (mVar 0) mNil)) [some (T M), none, none, none] S = .nx [some (T M), some (.tup [.int (n : Nat), T R]), none, none] S := w_set (v_call (v_cons (v_var rfl) v_nil) rfl f1)
    have st2 : mSet 2 (mIf (mTst (mOp2 dIsNot (mVar 1) (mC .non))) (mCall 1 m_figures_ahead (mCons (mOp2 dIx (mVar 1) (mC (.int 1))) mNil)) (mC .non)) [some (T M), some (.tup [.int (n : Nat), T R]), none, none] S = .nx [some (T M), some (.tup [.int (n : Nat), T R]), some (optD (figA R)), none] S :=
      w_set ((v_if_t (v_tst (v_op2 (v_var rfl) v_c rfl))).trans (v_call (v_cons (v_op2 (v_var rfl) v_c dIx_tup1) v_nil) rfl f2))
    cases h2 : figA R with
    | none =>
      rw [h2] at st2
      have ep : pairL M = none := by unfold pairL; rw [h1]; dsimp only; rw [h2]
      rw [ep]
      exact (w_fn rfl (w_seq st1 (w_seq st2 (w_seq_rt (w_if_t (v_or_t (v_tst (v_op2 (v_var rfl) v_c rfl))) (w_ret v_c)))))).trans gc_non
    | some b =>
      obtain ⟨m, Q⟩ := b
      rw [h2] at st2
      have eR := figA_some h2
      have sQ : Sm Q := ⟨by have := sR.len; rw [eR] at this; simp at this; omega, fun c hc => sR.sg c (by rw [eR]; simp [hc])⟩
      obtain ⟨env2, hE⟩ : ∃ env2 : En, env2 = [some (T M), some (.tup [.int (n : Nat), T R]), some (.tup [.int (m : Nat), T Q]), none] := ⟨_, rfl⟩
      have g1 : env2[1]? = some (some (.tup [.int (n : Nat), T R])) := by rw [hE]; rfl
      have g2 : env2[2]? = some (some (.tup [.int (m : Nat), T Q])) := by rw [hE]; rfl
      have T1 : mOr (mTst (mOp2 dIs (mVar 2) (mC .non))) (mTst (mOp2 dGt (mOp2 dIx (mVar 1) (mC (.int 0))) (mC (.int 1000000000)))) env2 S = .ok (decide (1000000000 < n)) S := by
        refine (v_or_f (v_tst (v_op2 (v_var g2) v_c rfl))).trans (v_tst (v_op2 (v_op2 (v_var g1) v_c dIx_tup0) v_c ?_))
        show Res.ok (D.bl (decide ((1000000000 : Int) < ((n : Nat) : Int)))) S = _
        congr 2
        rw [Bool.eq_iff_iff]
        simp
        omega
      by_cases hbig : 1000000000 < n
      · have ep : pairL M = none := by unfold pairL; rw [h1]; dsimp only; rw [h2]; dsimp only; rw [if_pos hbig]
        rw [ep]
        rw [decide_eq_true hbig] at T1
        refine (w_fn rfl (w_seq st1 (w_seq st2 (w_seq_rt (w_if_t (S1 := S) ?_ (w_ret v_c)))))).trans gc_non
        exact hE ▸ T1
      · rw [decide_eq_false hbig] at T1
        have sP : Sm (Q.take m) := ⟨by rw [List.length_take]; have := sQ.len; omega, fun c hc => sQ.sg c (List.mem_of_mem_take hc)⟩
        have p1 := run_payload_text sP S
        have st3 : mSet 3 (mSl dSl (mOp2 dIx (mVar 2) (mC (.int 1))) mNoP (mP (mOp2 dIx (mVar 2) (mC (.int 0))))) env2 S = .nx (env2.set 3 (some (T (Q.take m)))) S := by
          refine w_set (v_sl (v_op2 (v_var g2) v_c dIx_tup1) v_noP (v_p (v_op2 (v_var g2) v_c dIx_tup0)) ?_)
          show (if (stL Q).length ≤ 1000000 then Res.ok (D.str (L2.cutS (stL Q) none (some ((m : Nat) : Int)))) S else .stk) = _
          rw [stL_len, if_pos (by have := sQ.len; omega), cut_take]
        obtain ⟨env3, hE3⟩ : ∃ env3 : En, env3 = [some (T M), some (.tup [.int (n : Nat), T R]), some (.tup [.int (m : Nat), T Q]), some (T (Q.take m))] := ⟨_, rfl⟩
        have k0 : env3[0]? = some (some (T M)) := by rw [hE3]; rfl
        have k1 : env3[1]? = some (some (.tup [.int (n : Nat), T R])) := by rw [hE3]; rfl
        have k3 : env3[3]? = some (some (T (Q.take m))) := by rw [hE3]; rfl
        have st3' : mSet 3 (mSl dSl (mOp2 dIx (mVar 2) (mC (.int 1))) mNoP (mP (mOp2 dIx (mVar 2) (mC (.int 0))))) env2 S = .nx env3 S := by rw [st3, hE, hE3]; rfl
        have pre : ∀ {rf : RF}, (mSeq (mIfS (mOr (mNot (mTst (mCall 1 m_is_payload_text (mCons (mVar 3) mNil)))) (mTst (mOp2 dNe (mCall 2 m_line_of (mCons (mOp2 dIx (mVar 1) (mC (.int 0))) (mCons (mVar 3) mNil))) (mVar 0)))) (mRet (mC .non)) mNext) (mRet (mTup (mCons (mOp2 dIx (mVar 1) (mC (.int 0))) (mCons (mVar 3) mNil))))) env3 S = rf → b_pair_of_line [some (T M), none, none, none] S = rf := fun {rf} hh =>
          w_seq st1 (w_seq st2 (w_seq (w_if_f (S1 := S) (hE ▸ T1) w_next) (w_seq (hE ▸ st3') hh)))
        cases hpv : pvb (Q.take m) with
        | false =>
          have ep : pairL M = none := by unfold pairL; rw [h1]; dsimp only; rw [h2]; dsimp only; rw [if_neg hbig, if_neg (by rw [hpv]; simp)]
          rw [ep]
          rw [hpv] at p1
          exact (w_fn rfl (pre (w_seq_rt (w_if_t (v_or_t (v_not (v_tst (v_call (v_cons (v_var k3) v_nil) rfl p1)))) (w_ret v_c))))).trans gc_non
        | true =>
          rw [hpv] at p1
          have PVp := pvb_iff.mp hpv
          have l1 := run_line_of (n := n) (p := Q.take m) nlt (by have := PVp.len; omega) (fun c hc => by have := PVp.sg c hc; omega) S
          have l2 := dNe_str (line n (Q.take m)) M S (line_sm nlt (by have := PVp.len; omega) (fun c hc => by have := PVp.sg c hc; omega)) h
          have T2 : mOr (mNot (mTst (mCall 1 m_is_payload_text (mCons (mVar 3) mNil)))) (mTst (mOp2 dNe (mCall 2 m_line_of (mCons (mOp2 dIx (mVar 1) (mC (.int 0))) (mCons (mVar 3) mNil))) (mVar 0))) env3 S = .ok (!decide (line n (Q.take m) = M)) S :=
            (v_or_f (v_not (v_tst (v_call (v_cons (v_var k3) v_nil) rfl p1)))).trans (v_tst (v_op2 (v_call (v_cons (v_op2 (v_var k1) v_c dIx_tup0) (v_cons (v_var k3) v_nil)) rfl l1) (v_var k0) l2))
          by_cases hq : line n (Q.take m) = M
          · have ep : pairL M = some (n, Q.take m) := by unfold pairL; rw [h1]; dsimp only; rw [h2]; dsimp only; rw [if_neg hbig, if_pos ⟨hpv, hq⟩]
            rw [ep]
            rw [decide_eq_true hq] at T2
            exact (w_fn rfl (pre (w_seq (w_if_f T2 w_next) (w_ret (v_tup (v_cons (v_op2 (v_var k1) v_c dIx_tup0) (v_cons (v_var k3) v_nil)) (by simp)))))).trans gc_pair
          · have ep : pairL M = none := by unfold pairL; rw [h1]; dsimp only; rw [h2]; dsimp only; rw [if_neg hbig, if_neg (by simp [hq])]
            rw [ep]
            rw [decide_eq_false hq] at T2
            exact (w_fn rfl (pre (w_seq_rt (w_if_t T2 (w_ret v_c))))).trans gc_non
end K51
end FW

set_option Elab.async false
set_option linter.all false
set_option maxRecDepth 100000
set_option maxHeartbeats 4000000
namespace FW
namespace K51
open PySem TL
theorem nl_list : ("\n" : Str).cps.toList = [10] := by decide
theorem notin_nl (M : List Nat) (S : SS) : dNotIn (.str "\n") (T M) S = .ok (.bl (!decide (10 ∈ M))) S := by
  show Res.ok (D.bl (!isIn ("\n" : Str) (stL M))) S = _
  unfold isIn
  rw [nl_list]
  rfl
theorem isi_str (l : List Nat) (S : SS) : dIsi ["str"] (T l) S = .ok (.bl true) S := by
  unfold dIsi
  rw [if_pos (by show "str" ∈ tyAll; decide)]
  rfl
def nonStr : D → Bool
  | .non => true
  | .bl _ => true
  | .int _ => true
  | .tup _ => true
  | _ => false
theorem isi_not {d : D} (h : nonStr d = true) (S : SS) : dIsi ["str"] d S = .ok (.bl false) S := by
  cases d with
  | non => unfold dIsi; rw [if_pos (by show "NoneType" ∈ tyAll; decide)]; rfl
  | bl b => unfold dIsi; rw [if_pos (by show "bool" ∈ tyAll; decide)]; rfl
  | int b => unfold dIsi; rw [if_pos (by show "int" ∈ tyAll; decide)]; rfl
  | tup b => unfold dIsi; rw [if_pos (by show "tuple" ∈ tyAll; decide)]; rfl
  | str _ => cases h
  | obj _ => cases h
  | fz _ => cases h
theorem read_exc {d : D} {S : SS} (h : mIf (mAnd (mTst (mOp1 (dIsi ["str"]) (mVar 0))) (mTst (mOp2 dNotIn (mC (.str "\n")) (mVar 0)))) (mCall 1 m_pair_of_line (mCons (mVar 0) mNil)) (mC .non) [some d, none] S = .ok .non S) : m_read_line [d] S = .exc ⟨"ParseError", none⟩ S :=
  (w_fn_ex rfl (w_seq (w_set h) (w_seq_ex (w_if_t (v_tst (v_op2 (v_var rfl) v_c rfl)) rfl)))).trans gcX_same
theorem run_read_other {d : D} (h : nonStr d = true) (S : SS) : m_read_line [d] S = .exc ⟨"ParseError", none⟩ S :=
  read_exc ((v_if_f (v_and_f (v_tst (v_op1 (v_var rfl) (isi_not h S))))).trans v_c)
theorem run_read_out {M : List Nat} (hs : Sm M) (h : ¬ Img M) (S : SS) : m_read_line [T M] S = .exc ⟨"ParseError", none⟩ S := by
  refine read_exc ?_
  have t1 : mTst (mOp1 (dIsi ["str"]) (mVar 0)) [some (T M), none] S = .ok true S := v_tst (v_op1 (v_var rfl) (isi_str M S))
  by_cases hn : 10 ∈ M
  · exact (v_if_f ((v_and_t t1).trans (v_tst ((v_op2 v_c (v_var rfl) (notin_nl M S)).trans (by rw [decide_eq_true hn]; rfl))))).trans v_c
  · have p := run_pair hs S
    rw [pair_none h] at p
    exact (v_if_t ((v_and_t t1).trans (v_tst ((v_op2 v_c (v_var rfl) (notin_nl M S)).trans (by rw [decide_eq_false hn]; rfl))))).trans (v_call (v_cons (v_var rfl) v_nil) rfl p)
theorem pv_sm {p : List Nat} (h : PV p) : p.length ≤ 1000 ∧ ∀ c ∈ p, c < 1000 := ⟨by have := h.len; omega, fun c hc => by have := h.sg c hc; omega⟩
theorem line_sm' {n : Nat} {p : List Nat} (hn : n ≤ 1000000000) (hp : PV p) : Sm (line n p) := line_sm (by omega) (pv_sm hp).1 (pv_sm hp).2
theorem line_nl {n : Nat} {p : List Nat} (hp : PV p) : 10 ∉ line n p := fun h => by
  unfold line at h
  simp only [List.mem_append, List.mem_cons] at h
  rcases h with h | h | h
  · have := front_sign hp _ h; omega
  · omega
  · have := dig h; omega
theorem run_read_in {n : Nat} {p : List Nat} (hn : n ≤ 1000000000) (hp : PV p) (S : SS) : m_read_line [T (line n p)] S = .ok (.tup [.int (n : Nat), T p]) S := by
  have t1 : mTst (mOp1 (dIsi ["str"]) (mVar 0)) [some (T (line n p)), none] S = .ok true S := v_tst (v_op1 (v_var rfl) (isi_str _ S))
  have pr := run_pair (line_sm' hn hp) S
  rw [pair_of hn hp] at pr
  exact (w_fn rfl (w_seq (w_set ((v_if_t ((v_and_t t1).trans (v_tst ((v_op2 v_c (v_var rfl) (notin_nl _ S)).trans (by rw [decide_eq_false (line_nl hp)]; rfl))))).trans (v_call (v_cons (v_var rfl) v_nil) rfl pr))) (w_seq (w_if_f (v_tst (v_op2 (v_var rfl) v_c rfl)) w_next) (w_ret (v_var rfl))))).trans gc_pair
theorem run_law_read_out {M : List Nat} (hs : Sm M) (h : ¬ Img M) (S : SS) : m__law_read [T M] S = .ok .non S := by
  have e : mRet (mCall 1 m_read_line (mCons (mVar 0) mNil)) [some (T M)] S = .ex ⟨"ParseError", none⟩ [some (T M)] S := w_ret_ex (v_call (v_cons (v_var rfl) v_nil) rfl (run_read_out hs h S))
  refine (w_fn (d' := .non) (S' := S) rfl ?_).trans gc_non
  show mTry _ _ _ _ = _
  unfold mTry
  rw [show mRet (mCall 1 m_read_line (mCons (mVar 0) mNil)) (List.map some [T M] ++ List.replicate (1 - [T M].length) none) S = _ from e]
  rfl
/-! ### frames -/
theorem run_is_payload {l : List Nat} (h : Sm l) (S : SS) : m_is_payload [T l] S = .ok (.bl (pvb l)) S := (w_fn rfl (w_ret (v_call (v_cons (v_var rfl) v_nil) rfl (run_payload_text h S)))).trans gc_bl
theorem pay_other {d : D} (h : nonStr d = true) (S : SS) : m_is_payload_text [d] S = .ok (.bl false) S :=
  (w_fn rfl (w_seq_rt (w_if_t (v_or_t (v_not (v_tst (v_op1 (v_var rfl) (isi_not h S))))) (w_ret v_c)))).trans gc_bl
theorem run_is_payload_other {d : D} (h : nonStr d = true) (S : SS) : m_is_payload [d] S = .ok (.bl false) S := (w_fn rfl (w_ret (v_call (v_cons (v_var rfl) v_nil) rfl (pay_other h S)))).trans gc_bl
theorem nl_stL : ("\n" : Str) = stL [10] := by decide
theorem dAdd_T {a b : List Nat} (h : a.length + b.length ≤ 1000000) (S : SS) : dAdd (T a) (T b) S = .ok (T (a ++ b)) S := by
  show (if (stL a).length + (stL b).length ≤ 1000000 then Res.ok (D.str (stL a ++ stL b)) S else .stk) = _
  rw [stL_len, stL_len, if_pos h, stL_app]
theorem run_frame {n : Nat} {p : List Nat} (hn : n ≤ 1000000000) (hp : PV p) (S : SS) : m_frame_of [.int (n : Nat), T p] S = .ok (T (line n p ++ [10])) S := by
  have b1 : m_is_between [.int ((n : Nat) : Int), .int 0, .int 1000000000] S = .ok (.bl true) S := by
    rw [run_is_between]
    have h1 : decide ((0 : Int) ≤ ((n : Nat) : Int)) = true := by simp
    have h2 : decide (((n : Nat) : Int) ≤ 1000000000) = true := decide_eq_true (by omega)
    rw [h1, h2]
    rfl
  have sp : Sm p := ⟨by have := hp.len; omega, fun c hc => (pv_sm hp).2 c hc⟩
  have r1 : m_require_payload [T p] S = .ok .non S := by
    have e := run_payload_text sp S
    rw [pvb_iff.mpr hp] at e
    exact (w_fn_nx rfl (w_if_f (v_not (v_tst (v_call (v_cons (v_var rfl) v_nil) rfl e))) w_next)).trans gc_non
  have l1 := run_line_of (n := n) (p := p) (by omega) (pv_sm hp).1 (pv_sm hp).2 S
  have sl := line_sm' hn hp
  refine (w_fn (d' := T (line n p ++ [10])) (S' := S) rfl ?_).trans gc_str
  refine w_seq (w_if_f (v_not (v_tst (v_call (v_cons (v_var rfl) (v_cons v_c (v_cons v_c v_nil))) rfl b1))) w_next) (w_seq (w_drop (v_call (v_cons (v_var rfl) v_nil) rfl r1)) (w_ret (v_op2 (v_call (v_cons (v_var rfl) (v_cons (v_var rfl) v_nil)) rfl l1) v_c ?_)))
  rw [nl_stL]
  exact dAdd_T (by have := sl.len; simp; omega) S
theorem frame_bad_pay {d : D} (S : SS) (h : m_is_payload_text [d] S = .ok (.bl false) S) : m_frame_of [.int 0, d] S = .exc ⟨"InvalidOperation", none⟩ S := by
  have b1 : m_is_between [.int 0, .int 0, .int 1000000000] S = .ok (.bl true) S := by rw [run_is_between]; rfl
  have r1 : m_require_payload [d] S = .exc ⟨"InvalidOperation", none⟩ S := (w_fn_ex rfl (w_if_t (v_not (v_tst (v_call (v_cons (v_var rfl) v_nil) rfl h))) rfl)).trans gcX_same
  exact (w_fn_ex rfl (w_seq (w_if_f (v_not (v_tst (v_call (v_cons (v_var rfl) (v_cons v_c (v_cons v_c v_nil))) rfl b1))) w_next) (w_seq_ex (w_drop_ex (v_call (v_cons (v_var rfl) v_nil) rfl r1))))).trans gcX_same
theorem frame_bad_num {d e : D} (S : SS) (h : m_is_between [d, .int 0, .int 1000000000] S = .ok (.bl false) S) : m_frame_of [d, e] S = .exc ⟨"InvalidNumber", some ("value", d)⟩ S := by
  refine (w_fn_ex (x := ⟨"InvalidNumber", some ("value", d)⟩) (e1 := [some d, some e]) (S' := S) rfl (w_seq_ex (w_if_t (v_not (v_tst (v_call (v_cons (v_var rfl) (v_cons v_c (v_cons v_c v_nil))) rfl h))) ?_))).trans gcX_same
  rfl
theorem between_other {d : D} (S : SS) (h : dIsi ["int", "bool"] d S = .ok (.bl false) S) : m_is_between [d, .int 0, .int 1000000000] S = .ok (.bl false) S := by
  have i1 : m_is_integer [d] S = .ok (.bl false) S := (w_fn rfl (w_ret (v_andV_f (v_op1 (v_var rfl) h)))).trans gc_bl
  exact (w_fn rfl (w_ret (v_andV_f (v_call (v_cons (v_var rfl) v_nil) rfl i1)))).trans gc_bl
theorem between_bl {b : Bool} (S : SS) : m_is_between [.bl b, .int 0, .int 1000000000] S = .ok (.bl false) S := by
  have t1 : mOp1 (dIsi ["int", "bool"]) (mVar 0) [some (.bl b)] S = .ok (.bl true) S := v_op1 (v_var rfl) (by unfold dIsi; rw [if_pos (by show "bool" ∈ tyAll; decide)]; rfl)
  have t2 : mOp1 (dIsi ["bool"]) (mVar 0) [some (.bl b)] S = .ok (.bl true) S := v_op1 (v_var rfl) (by unfold dIsi; rw [if_pos (by show "bool" ∈ tyAll; decide)]; rfl)
  have t3 : mNotV (mOp1 (dIsi ["bool"]) (mVar 0)) [some (.bl b)] S = .ok (.bl false) S := by unfold mNotV; rw [t2]; rfl
  have i1 : m_is_integer [.bl b] S = .ok (.bl false) S := by
    have r : b_is_integer [some (.bl b)] S = .rt (.bl false) S := w_ret ((v_andV_t t1).trans t3)
    exact (w_fn (body := b_is_integer) (ds := [.bl b]) (n := 1) (N := 1) rfl r).trans gc_bl
  exact (w_fn rfl (w_ret (v_andV_f (v_call (v_cons (v_var rfl) v_nil) rfl i1)))).trans gc_bl
end K51
end FW

set_option Elab.async false
set_option linter.all false
set_option maxRecDepth 100000
set_option maxHeartbeats 4000000
namespace FW
namespace K51
open PySem TL
/-! ### the dice -/
def Dz (S : SS) (i : Nat) : Prop := ∃ a b : Int, S[i]? = some (.lst [.int a, .int b]) ∧ 0 ≤ a ∧ 0 ≤ b ∧ b < 2 ^ 100
/-- S' has the cells of S but for the dice, and maybe more -/
structure Ex (i : Nat) (S S' : SS) : Prop where
  le : S.length ≤ S'.length
  keep : ∀ j, j < S.length → j ≠ i → S'[j]? = S[j]?
  dz : Dz S' i
theorem Ex.refl {i : Nat} {S : SS} (h : Dz S i) : Ex i S S := ⟨Nat.le_refl _, fun _ _ _ => rfl, h⟩
theorem Ex.trans {i : Nat} {S S1 S2 : SS} (h : Ex i S S1) (h2 : Ex i S1 S2) : Ex i S S2 := ⟨Nat.le_trans h.le h2.le, fun j hj hn => (h2.keep j (Nat.lt_of_lt_of_le hj h.le) hn).trans (h.keep j hj hn), h2.dz⟩
theorem Dz.lt {i : Nat} {S : SS} (h : Dz S i) : i < S.length := by
  obtain ⟨a, b, e, _⟩ := h
  exact (List.getElem?_eq_some_iff.mp e).1
theorem Dz.more {i : Nat} {S : SS} (h : Dz S i) (c : Cell) : Dz (S ++ [c]) i := by
  have hl := h.lt
  obtain ⟨a, b, e, r⟩ := h
  exact ⟨a, b, by rw [List.getElem?_append_left hl]; exact e, r⟩
theorem Ex.more {i : Nat} {S S1 : SS} (h : Ex i S S1) (c : Cell) : Ex i S (S1 ++ [c]) := ⟨by rw [List.length_append]; have := h.le; omega, fun j hj hn => by rw [List.getElem?_append_left (Nat.lt_of_lt_of_le hj h.le)]; exact h.keep j hj hn, h.dz.more c⟩
/-- the cells below n hold ints alone -/
def Cz (n : Nat) (S : SS) : Prop := ∀ j c, j < n → S[j]? = some c → ∃ l : List Int, c = .lst (l.map .int)
theorem Ex.cz {i : Nat} {S S1 : SS} (h : Ex i S S1) {n : Nat} (hn : n ≤ S.length) (c : Cz n S) : Cz n S1 := fun j x hj e => by
  by_cases hji : j = i
  · subst hji
    obtain ⟨a, b, e1, _⟩ := h.dz
    rw [e1] at e
    cases e
    exact ⟨[a, b], rfl⟩
  · rw [h.keep j (by omega) hji] at e
    exact c j x hj e
theorem clA_ints (n : Nat) : ∀ l : List Int, clA n (l.map D.int) = true
  | [] => rfl
  | x :: l => by show (clD n (.int x) && clA n (l.map D.int)) = true; rw [clA_ints n l]; rfl
theorem cz_cl {n : Nat} {S : SS} (hn : n ≤ S.length) (c : Cz n S) : clS n (S.take n) = true := by
  unfold clS
  rw [List.all_eq_true]
  intro x hx
  obtain ⟨j, hj, e⟩ := List.getElem_of_mem hx
  rw [List.length_take] at hj
  have e2 : S[j]? = some x := by
    rw [List.getElem_take] at e
    rw [← e]
    exact List.getElem?_eq_getElem (by omega)
  obtain ⟨l, rfl⟩ := c j x (by omega) e2
  exact clA_ints n l
theorem gc_drop {n : Nat} {S : SS} {d : D} (hn : n ≤ S.length) (c : Cz n S) (hd : clD n d = true) : gc n d S = .ok d (S.take n) := by
  unfold gc
  rw [if_pos (cz_cl hn c), if_pos hd]
theorem Ex.cut {i : Nat} {S S1 : SS} (h : Ex i S S1) (hi : i < S.length) : Ex i S (S1.take S.length) := by
  refine ⟨by rw [List.length_take]; have := h.le; omega, fun j hj hn => by rw [List.getElem?_take_of_lt hj]; exact h.keep j hj hn, ?_⟩
  obtain ⟨a, b, e, r⟩ := h.dz
  exact ⟨a, b, by rw [List.getElem?_take_of_lt hi]; exact e, r⟩
theorem Ex.set {i : Nat} {S : SS} {a b : Int} (h : i < S.length) (ha : 0 ≤ a) (hb : 0 ≤ b) (hb2 : b < 2 ^ 100) : Ex i S (S.set i (.lst [.int a, .int b])) :=
  ⟨by rw [List.length_set]; exact Nat.le_refl _, fun j hj hn => List.getElem?_set_ne (fun z => hn z.symm), a, b, by rw [List.getElem?_set_self h], ha, hb, hb2⟩
theorem big_div {t : Nat} (h : t < 2 ^ 64) : ((t : Nat) : Int).natAbs.log2 < 9000 := Nat.lt_trans (Nat.lt_of_lt_of_le (log_fit h) (by decide)) (by decide : 1920 < 9000)
theorem run_roll {i t : Nat} {S : SS} (h : Dz S i) (h1 : 0 < t) (h2 : t < 2 ^ 64) : ∃ (r : Nat) (S' : SS), m__law_roll [.obj i, .int (t : Nat)] S = .ok (.int (r : Nat)) S' ∧ r < t ∧ Ex i S S' ∧ S'.length = S.length := by
  have hi := h.lt
  obtain ⟨a, b, e, ha, hb, hb2⟩ := h
  have hx0 : ∀ (S : SS) (a b : Int), S[i]? = some (.lst [.int a, .int b]) → dIx (.obj i) (.int 0) S = .ok (.int a) S := fun S a b e => by
    show (match S[i]? with
      | some (.lst xs) => (match L2.atI xs 0 with
        | some d => Res.ok d S
        | none => .stk)
      | _ => .stk) = _
    rw [e]
    rfl
  have hx1 : ∀ (S : SS) (a b : Int), S[i]? = some (.lst [.int a, .int b]) → dIx (.obj i) (.int 1) S = .ok (.int b) S := fun S a b e => by
    show (match S[i]? with
      | some (.lst xs) => (match L2.atI xs 1 with
        | some d => Res.ok d S
        | none => .stk)
      | _ => .stk) = _
    rw [e]
    rfl
  have tpos : (0 : Int) < ((t : Nat) : Int) := by omega
  have c1 : mTst (mOp2 dGt (mOp2 dIx (mVar 0) (mC (.int 0))) (mC (.int 0))) [some (.obj i), some (.int (t : Nat)), none] S = .ok (decide (0 < a)) S := v_tst (v_op2 (v_op2 (v_var rfl) v_c (hx0 S a b e)) v_c rfl)
  by_cases hp : 0 < a
  · rw [decide_eq_true hp] at c1
    obtain ⟨r, hr⟩ : ∃ r : Nat, a % (t : Nat) = (r : Int) := ⟨(a % (t : Nat)).toNat, by have := Int.emod_nonneg a (show ((t : Nat) : Int) ≠ 0 by omega); omega⟩
    have hrt : r < t := by have := Int.emod_lt_of_pos a tpos; omega
    refine ⟨r, S.set i (.lst [.int (a / (t : Nat)), .int b]), ?_, hrt, Ex.set hi (Int.ediv_nonneg ha (by omega)) hb hb2, by rw [List.length_set]⟩
    have d1 : dMod (.int a) (.int (t : Nat)) S = .ok (.int (r : Nat)) S := by show (if (0 : Int) < ((t : Nat) : Int) then Res.ok (D.int (a % (t : Nat))) S else .stk) = _; rw [if_pos tpos, hr]
    have d2 : dDiv (.int a) (.int (t : Nat)) S = .ok (.int (a / (t : Nat))) S := by show (if (0 : Int) < ((t : Nat) : Int) ∧ ((t : Nat) : Int).natAbs.log2 < 9000 then Res.ok (D.int (a / (t : Nat))) S else .stk) = _; rw [if_pos ⟨tpos, big_div h2⟩]
    have a1 : mAsg (gmSub (mVar 0) (mC (.int 0))) (mOp2 dDiv (mOp2 dIx (mVar 0) (mC (.int 0))) (mVar 1)) [some (.obj i), some (.int (t : Nat)), some (.int (r : Nat))] S = .nx [some (.obj i), some (.int (t : Nat)), some (.int (r : Nat))] (S.set i (.lst [.int (a / (t : Nat)), .int b])) := by
      refine w_asg (v_op2 (v_op2 (v_var rfl) v_c (hx0 S a b e)) (v_var rfl) d2) ?_
      unfold gmSub
      rw [v_var rfl, Res.bind_ok]
      show (match S[i]? with
        | some (.lst xs) => match L2.ixN xs.length 0 with
          | some n => Res.ok _ (S.set i (.lst (xs.set n (.int (a / (t : Nat))))))
          | none => .stk
        | _ => .stk) = _
      rw [e]
      rfl
    have s1 : mSet 2 (mOp2 dMod (mOpA dInt (mCons (mOp2 dIx (mVar 0) (mC (.int 0))) mNil)) (mVar 1)) [some (.obj i), some (.int (t : Nat)), none] S = .nx [some (.obj i), some (.int (t : Nat)), some (.int (r : Nat))] S :=
      w_set (v_op2 (v_opA (v_cons (v_op2 (v_var rfl) v_c (hx0 S a b e)) v_nil) rfl) (v_var rfl) d1)
    have r1 : b__law_roll [some (.obj i), some (.int (t : Nat)), none] S = .rt (.int (r : Nat)) (S.set i (.lst [.int (a / (t : Nat)), .int b])) := w_seq_rt (w_if_t c1 (w_seq s1 (w_seq a1 (w_ret (v_var rfl)))))
    have g := gc_int (b := ((r : Nat) : Int)) (S := S.set i (.lst [.int (a / (t : Nat)), .int b]))
    rw [List.length_set] at g
    exact (w_fn (body := b__law_roll) (ds := [.obj i, .int (t : Nat)]) (n := 2) (N := 3) rfl r1).trans g
  · rw [decide_eq_false hp] at c1
    obtain ⟨b', hb'⟩ : ∃ b' : Int, b' = (b * 6364136223846793005 + 1442695040888963407) % 18446744073709551616 := ⟨_, rfl⟩
    have p1 : 0 ≤ b' := by rw [hb']; exact Int.emod_nonneg _ (by decide)
    have p2 : b' < 18446744073709551616 := by rw [hb']; exact Int.emod_lt_of_pos _ (by decide)
    obtain ⟨S', hS'⟩ : ∃ S', S' = S.set i (.lst [.int a, .int b']) := ⟨_, rfl⟩
    have e' : S'[i]? = some (.lst [.int a, .int b']) := by rw [hS', List.getElem?_set_self hi]
    obtain ⟨r, hr⟩ : ∃ r : Nat, b' / 4294967296 % (t : Nat) = (r : Int) := ⟨(b' / 4294967296 % (t : Nat)).toNat, by have := Int.emod_nonneg (b' / 4294967296) (show ((t : Nat) : Int) ≠ 0 by omega); omega⟩
    have hrt : r < t := by have := Int.emod_lt_of_pos (b' / 4294967296) tpos; omega
    refine ⟨r, S', ?_, hrt, by rw [hS']; exact Ex.set hi ha p1 (by omega), by rw [hS', List.length_set]⟩
    have d1 : dMul (.int b) (.int 6364136223846793005) S = .ok (.int (b * 6364136223846793005)) S := by
      show (if b.natAbs.log2 + (6364136223846793005 : Int).natAbs.log2 < 1000000 then Res.ok (D.int (b * 6364136223846793005)) S else .stk) = _
      exact if_pos (L2.wide_mul (a := 100) (b := 64) (by omega) (by decide) (by decide) (by decide) (by decide))
    have d2 : dMod (.int (b * 6364136223846793005 + 1442695040888963407)) (.int 18446744073709551616) S = .ok (.int b') S := by rw [hb']; rfl
    have a1 : mAsg (gmSub (mVar 0) (mC (.int 1))) (mOp2 dMod (mOpA dInt (mCons (mOp2 dAdd (mOp2 dMul (mOp2 dIx (mVar 0) (mC (.int 1))) (mC (.int 6364136223846793005))) (mC (.int 1442695040888963407))) mNil)) (mC (.int 18446744073709551616))) [some (.obj i), some (.int (t : Nat)), none] S = .nx [some (.obj i), some (.int (t : Nat)), none] S' := by
      refine w_asg (v_op2 (v_opA (v_cons (v_op2 (v_op2 (v_op2 (v_var rfl) v_c (hx1 S a b e)) v_c d1) v_c rfl) v_nil) rfl) v_c d2) ?_
      unfold gmSub
      rw [v_var rfl, Res.bind_ok]
      show (match S[i]? with
        | some (.lst xs) => match L2.ixN xs.length 1 with
          | some n => Res.ok _ (S.set i (.lst (xs.set n (.int b'))))
          | none => .stk
        | _ => .stk) = _
      rw [e, hS']
      rfl
    have d3 : dDiv (.int b') (.int 4294967296) S' = .ok (.int (b' / 4294967296)) S' := by
      show (if (0 : Int) < 4294967296 ∧ (4294967296 : Int).natAbs.log2 < 9000 then Res.ok (D.int (b' / 4294967296)) S' else .stk) = _
      rw [if_pos (by decide)]
    have d4 : dMod (.int (b' / 4294967296)) (.int (t : Nat)) S' = .ok (.int (r : Nat)) S' := by show (if (0 : Int) < ((t : Nat) : Int) then Res.ok (D.int (b' / 4294967296 % (t : Nat))) S' else .stk) = _; rw [if_pos tpos, hr]
    have r1 : b__law_roll [some (.obj i), some (.int (t : Nat)), none] S = .rt (.int (r : Nat)) S' := w_seq (w_if_f c1 w_next) (w_seq a1 (w_ret (v_op2 (v_opA (v_cons (v_op2 (v_op2 (v_var rfl) v_c (hx1 S' a b' e')) v_c d3) v_nil) rfl) (v_var rfl) d4)))
    have g := gc_int (b := ((r : Nat) : Int)) (S := S')
    have hl : S'.length = S.length := by rw [hS', List.length_set]
    rw [hl] at g
    exact (w_fn (body := b__law_roll) (ds := [.obj i, .int (t : Nat)]) (n := 2) (N := 3) rfl r1).trans g
end K51
end FW

set_option Elab.async false
set_option linter.all false
set_option maxRecDepth 100000
set_option maxHeartbeats 4000000
namespace FW
namespace K51
open PySem TL
theorem Ex.lt {i : Nat} {S S' : SS} (h : Ex i S S') : i < S'.length := h.dz.lt
theorem gc_ex {i : Nat} {S S1 : SS} {d : D} (h : Ex i S S1) (hi : i < S.length) (hd : clD S.length d = true) : ∃ S', gc S.length d S1 = .ok d S' ∧ Ex i S S' := by
  unfold gc
  by_cases c : clS S.length (S1.take S.length) = true
  · rw [if_pos c, if_pos hd]; exact ⟨_, rfl, h.cut hi⟩
  · rw [if_neg c]; exact ⟨_, rfl, h⟩
theorem atI_nat {α : Type} {xs : List α} {r : Nat} (h : r < xs.length) : L2.atI xs (r : Nat) = some xs[r] := by
  unfold L2.atI L2.ixN
  simp [h]
theorem pick_list {i j : Nat} {S : SS} {xs : List D} (h : Dz S i) (hj : j ≠ i) (e : S[j]? = some (.lst xs)) (h1 : 0 < xs.length) (h2 : xs.length < 1000) (fl : ∀ d ∈ xs, ∀ n, clD n d = true) :
    ∃ d S', d ∈ xs ∧ m__law_pick [.obj i, .obj j] S = .ok d S' ∧ Ex i S S' ∧ S'.length = S.length := by
  obtain ⟨r, S', er, hr, ex, hl⟩ := run_roll (t := xs.length) h h1 (by omega)
  have hjl : j < S.length := (List.getElem?_eq_some_iff.mp e).1
  have e' : S'[j]? = some (.lst xs) := by rw [ex.keep j hjl hj]; exact e
  refine ⟨xs[r], S', List.getElem_mem hr, ?_, ex, hl⟩
  have d1 : dLen [.obj j] S = .ok (.int (xs.length : Nat)) S := by
    show (match lenD S (.obj j) with
      | some n => Res.ok (D.int n) S
      | none => .stk) = _
    rw [show lenD S (.obj j) = some xs.length from by unfold lenD; simp [e]]
  have d2 : dIx (.obj j) (.int (r : Nat)) S' = .ok xs[r] S' := by
    show (match S'[j]? with
      | some (.lst xs) => (match L2.atI xs (r : Nat) with
        | some d => Res.ok d S'
        | none => .stk)
      | _ => .stk) = _
    rw [e']
    show (match L2.atI xs (r : Nat) with
        | some d => Res.ok d S'
        | none => .stk) = _
    rw [atI_nat hr]
  have g := gc_flat (d := xs[r]) (S := S') (fl _ (List.getElem_mem hr) _)
  rw [hl] at g
  exact (w_fn (body := b__law_pick) (ds := [.obj i, .obj j]) (n := 2) (N := 2) rfl (w_ret (v_op2 (v_var rfl) (v_call (v_cons (v_var rfl) (v_cons (v_opA (v_cons (v_var rfl) v_nil) d1) v_nil)) rfl er) d2))).trans g
theorem pick_text {i : Nat} {S : SS} {l : List Nat} (h : Dz S i) (h1 : 0 < l.length) (h2 : l.length < 10000) :
    ∃ c S', c ∈ l ∧ m__law_pick [.obj i, T l] S = .ok (sgn c) S' ∧ Ex i S S' ∧ S'.length = S.length := by
  obtain ⟨r, S', er, hr, ex, hl⟩ := run_roll (t := l.length) h h1 (by omega)
  refine ⟨l[r], S', List.getElem_mem hr, ?_, ex, hl⟩
  have d2 : dIx (T l) (.int (r : Nat)) S' = .ok (sgn l[r]) S' := by
    show (match L2.atI l (r : Nat) with
        | some c => if (stL l).length ≤ 1000000 then Res.ok (sgn c) S' else .stk
        | none => .stk) = _
    rw [atI_nat hr]
    show (if (stL l).length ≤ 1000000 then Res.ok (sgn l[r]) S' else .stk) = _
    rw [stL_len, if_pos (by omega)]
  have g := gc_flat (d := sgn l[r]) (S := S') rfl
  rw [hl] at g
  exact (w_fn (body := b__law_pick) (ds := [.obj i, T l]) (n := 2) (N := 2) rfl (w_ret (v_op2 (v_var rfl) (v_call (v_cons (v_var rfl) (v_cons (v_opA (v_cons (v_var rfl) v_nil) (dLen_T (by omega))) v_nil)) rfl er) d2))).trans g
theorem last_get {S : SS} {c : Cell} : (S ++ [c])[S.length]? = some c := by
  rw [List.getElem?_append_right (Nat.le_refl _)]; simp
theorem run_number {i : Nat} {S : SS} (h : Dz S i) : ∃ (n : Nat) (S' : SS), m__law_number [.obj i] S = .ok (.int (n : Nat)) S' ∧ n ≤ 1000000000 ∧ Ex i S S' := by
  obtain ⟨r1, S1, e1, l1, x1, _⟩ := run_roll (t := 20) h (by decide) (by decide)
  obtain ⟨r2, S2, e2, l2, x2, _⟩ := run_roll (t := 1000000000) x1.dz (by decide) (by decide)
  have x3 := (x1.trans x2).more (.lst [.int 0, .int 1000000000, .int (r1 : Nat), .int (r2 : Nat)])
  have hne : S2.length ≠ i := fun z => by have := x2.lt; omega
  obtain ⟨d, S4, hd, e4, x4, _⟩ := pick_list (j := S2.length) x3.dz hne last_get (by simp) (by simp) (fun d hd n => by
    simp only [List.mem_cons, List.not_mem_nil, or_false] at hd
    rcases hd with rfl | rfl | rfl | rfl <;> rfl)
  obtain ⟨n, rfl, hn⟩ : ∃ n : Nat, d = .int (n : Nat) ∧ n ≤ 1000000000 := by
    simp only [List.mem_cons, List.not_mem_nil, or_false] at hd
    rcases hd with rfl | rfl | rfl | rfl
    · exact ⟨0, rfl, by decide⟩
    · exact ⟨1000000000, rfl, by decide⟩
    · exact ⟨r1, rfl, by omega⟩
    · exact ⟨r2, rfl, by omega⟩
  obtain ⟨S5, e5, x5⟩ := gc_ex (d := .int (n : Nat)) (x3.trans x4) h.lt rfl
  refine ⟨n, S5, ?_, hn, x5⟩
  exact (w_fn (body := b__law_number) (ds := [.obj i]) (n := 1) (N := 1) rfl (w_ret (v_call (v_cons (v_var rfl) (v_cons (v_new (v_lst (v_cons v_c (v_cons (v_op2 v_c v_c rfl) (v_cons (v_call (v_cons (v_var rfl) (v_cons v_c v_nil)) rfl e1) (v_cons (v_call (v_cons (v_var rfl) (v_cons (v_op2 v_c v_c rfl) v_nil)) rfl e2) v_nil)))) (by decide : 4 ≤ 1000000))) v_nil)) rfl e4))).trans e5
theorem lc_pick {i : Nat} {l : List Nat} {q : Option D} (h1 : 0 < l.length) (h2 : l.length < 10000) : ∀ (ds : List D) (S : SS) (acc : List D), Dz S i → acc.length + ds.length ≤ 1000000 →
    ∃ (cs : List Nat) (S' : SS), lcGo (fun _ => True) (gmName 3) mYes (mCall 2 m__law_pick (mCons (mVar 0) (mCons (mVar 1) mNil))) [some (.obj i), some (T l), q, none] ds S acc = .ok (acc ++ cs.map sgn) S' ∧ (∀ c ∈ cs, c ∈ l) ∧ cs.length = ds.length ∧ Ex i S S'
  | [], S, acc, h, hl => ⟨[], S, by unfold lcGo; rw [if_pos trivial]; simp, by simp, rfl, Ex.refl h⟩
  | d :: ds, S, acc, h, hl => by
    simp only [List.length_cons] at hl
    obtain ⟨c, S1, hc, e1, x1, _⟩ := pick_text h h1 h2
    obtain ⟨cs, S2, e2, hcs, hn, x2⟩ := lc_pick (q := q) h1 h2 ds S1 (acc ++ [sgn c]) x1.dz (by simp; omega)
    refine ⟨c :: cs, S2, ?_, fun x hx => by rcases List.mem_cons.mp hx with rfl | hx; exact hc; exact hcs x hx, by simp [hn], x1.trans x2⟩
    have ee : (mCall 2 m__law_pick (mCons (mVar 0) (mCons (mVar 1) mNil))) [some (.obj i), some (T l), q, some d] S = .ok (sgn c) S1 := v_call (v_cons (v_var rfl) (v_cons (v_var rfl) v_nil)) rfl e1
    unfold lcGo
    rw [if_pos trivial, show gmName 3 d [some (.obj i), some (T l), q, none] S = .ok [some (.obj i), some (T l), q, some d] S from rfl]
    simp only [calm_ok, Res.bind_ok, show ∀ e S, mYes e S = Res.ok true S from fun _ _ => rfl, if_true, ee]
    rw [if_pos (by omega), e2]
    simp
theorem strs_sgn : ∀ cs : List Nat, strsD (cs.map sgn) = some (cs.map fun c => (⟨#[c]⟩ : Str))
  | [] => rfl
  | c :: cs => by show (strsD (cs.map sgn)).map (_ :: ·) = _; rw [strs_sgn cs]; rfl
theorem join_sgn (cs : List Nat) (S : SS) (h : cs.length ≤ 1000000) : dJoin "" (cs.map sgn) S = .ok (T cs) S := by
  have e : Txt.join "" (cs.map fun c => (⟨#[c]⟩ : Str)) = stL cs := by
    rw [join_eq]
    have := tl_join "" (cs.map fun c => (⟨#[c]⟩ : Str))
    have z : joinL (tl "") ((cs.map fun c => (⟨#[c]⟩ : Str)).map tl) = cs := by
      rw [show tl ("" : Str) = [] from by decide]
      clear this h
      induction cs with
      | nil => rfl
      | cons c cs ih =>
        cases cs with
        | nil => rfl
        | cons d cs => exact congrArg (c :: ·) ih
    rw [z] at this
    exact congrArg (fun l => stL l) this
  unfold dJoin
  rw [strs_sgn]
  dsimp only
  rw [e, if_pos]
  have : ∀ l : List Nat, ((l.map fun c => (⟨#[c]⟩ : Str)).map (·.length)).sum = l.length := fun l => by
    induction l with
    | nil => rfl
    | cons c l ih => simp only [List.map_cons, List.sum_cons, List.length_cons, ih]; show 1 + _ = _; omega
  rw [this, show (("" : Str)).length = 0 from by decide]
  omega
theorem mul_sgn (c k : Nat) (S : SS) (h : k ≤ 1000) : dMul (sgn c) (.int (k : Nat)) S = .ok (T (List.replicate k c)) S := by
  show (if (1 : Nat) * ((k : Nat) : Int).toNat ≤ 1000000 ∧ -1000000 ≤ ((k : Nat) : Int) ∧ ((k : Nat) : Int) ≤ 1000000 then Res.ok (D.str (repS ⟨#[c]⟩ ((k : Nat) : Int).toNat)) S else .stk) = _
  rw [if_pos (by omega), Int.toNat_natCast]
  refine congrArg (fun l => Res.ok (T l) S) ?_
  show (List.replicate k [c]).flatten = _
  induction k with
  | zero => rfl
  | succ k ih => rw [List.replicate_succ, List.flatten_cons, ih (by omega)]; rfl
theorem sg_a : (("ab c" : Str)) = stL [97, 98, 32, 99] := by decide
theorem sg_b : (("0123456789:#" : Str)) = stL [48, 49, 50, 51, 52, 53, 54, 55, 56, 57, 58, 35] := by decide
theorem sg_c : ((" ~!t(1); x" : Str)) = stL [32, 126, 33, 116, 40, 49, 41, 59, 32, 120] := by decide
theorem sg_d : (("put q t(1)" : Str)) = stL [112, 117, 116, 32, 113, 32, 116, 40, 49, 41] := by decide
theorem run_payload {i : Nat} {S : SS} (h : Dz S i) : ∃ (p : List Nat) (S' : SS), m__law_payload [.obj i] S = .ok (T p) S' ∧ PayOk p ∧ Ex i S S' := by
  have x1 := (Ex.refl h).more (.lst [.str "ab c", .str "0123456789:#", .str " ~!t(1); x", .str "put q t(1)"])
  obtain ⟨d, S2, hd, e2, x2, _⟩ := pick_list (j := S.length) x1.dz (fun z => by have := h.lt; omega) last_get (by simp) (by simp) (fun d hd n => by
    simp only [List.mem_cons, List.not_mem_nil, or_false] at hd
    rcases hd with rfl | rfl | rfl | rfl <;> rfl)
  obtain ⟨l, rfl, hl0, hl1, hl2, hl3⟩ : ∃ l : List Nat, d = T l ∧ 0 < l.length ∧ l.length < 10000 ∧ (∀ c ∈ l, 32 ≤ c ∧ c ≤ 126) ∧ (58 ∈ l → ∀ c ∈ l, 35 ≤ c ∧ c ≤ 58) := by
    simp only [List.mem_cons, List.not_mem_nil, or_false] at hd
    rcases hd with rfl | rfl | rfl | rfl
    · exact ⟨_, congrArg D.str sg_a, by decide, by decide, by decide, by decide⟩
    · exact ⟨_, congrArg D.str sg_b, by decide, by decide, by decide, by decide⟩
    · exact ⟨_, congrArg D.str sg_c, by decide, by decide, by decide, by decide⟩
    · exact ⟨_, congrArg D.str sg_d, by decide, by decide, by decide, by decide⟩
  have x3 := (x1.trans x2).more (.lst [.int 0, .int 1, .int 2, .int 9, .int 40, .int 299, .int 300])
  obtain ⟨m, S4, hm, e4, x4, _⟩ := pick_list (j := S2.length) x3.dz (fun z => by have := x2.lt; omega) last_get (by simp) (by simp) (fun d hd n => by
    simp only [List.mem_cons, List.not_mem_nil, or_false] at hd
    rcases hd with rfl | rfl | rfl | rfl | rfl | rfl | rfl <;> rfl)
  obtain ⟨k, a, b, rfl, hab, ha, hk, hmin, hmax⟩ : ∃ k a b : Nat, m = .int (k : Nat) ∧ a + b = k ∧ a ≤ 60 ∧ (k ≤ 40 ∨ k = 299 ∨ k = 300) ∧ (∀ S, dMin [.int (k : Nat), .int 60] S = .ok (.int (a : Nat)) S) ∧ (∀ S, dMax [.int 0, .int ((k : Nat) - 60)] S = .ok (.int (b : Nat)) S) := by
    simp only [List.mem_cons, List.not_mem_nil, or_false] at hm
    rcases hm with rfl | rfl | rfl | rfl | rfl | rfl | rfl
    · exact ⟨0, 0, 0, rfl, rfl, by decide, .inl (by decide), fun _ => rfl, fun _ => rfl⟩
    · exact ⟨1, 1, 0, rfl, rfl, by decide, .inl (by decide), fun _ => rfl, fun _ => rfl⟩
    · exact ⟨2, 2, 0, rfl, rfl, by decide, .inl (by decide), fun _ => rfl, fun _ => rfl⟩
    · exact ⟨9, 9, 0, rfl, rfl, by decide, .inl (by decide), fun _ => rfl, fun _ => rfl⟩
    · exact ⟨40, 40, 0, rfl, rfl, by decide, .inl (by decide), fun _ => rfl, fun _ => rfl⟩
    · exact ⟨299, 60, 239, rfl, rfl, by decide, .inr (.inl rfl), fun _ => rfl, fun _ => rfl⟩
    · exact ⟨300, 60, 240, rfl, rfl, by decide, .inr (.inr rfl), fun _ => rfl, fun _ => rfl⟩
  obtain ⟨cs, S5, e5, hcs, hn, x5⟩ := lc_pick (q := some (.int (k : Nat))) hl0 hl1 (rngD 0 a) S4 [] x4.dz (by simp [rngD]; omega)
  rw [show (rngD 0 a).length = a by simp [rngD]] at hn
  obtain ⟨c, S6, hc, e6, x6, _⟩ := pick_text x5.dz hl0 hl1
  have xx := (((x3.trans x4).trans x5).trans x6)
  obtain ⟨S7, e7, x7⟩ := gc_ex (d := T (cs ++ List.replicate b c)) xx h.lt rfl
  have hb : b ≤ 300 := by omega
  refine ⟨cs ++ List.replicate b c, S7, ?_, ?_, x7⟩
  · have it : mItRng1 (mCons (mOpA dMin (mCons (mVar 2) (mCons (mC (.int 60)) mNil))) mNil) [some (.obj i), some (T l), some (.int (k : Nat)), none] S4 = .ok ⟨rngD 0 a, fun _ => True⟩ S4 := by
      unfold mItRng1
      rw [v_cons (v_opA (v_cons (v_var rfl) (v_cons v_c v_nil)) (hmin S4)) v_nil, Res.bind_ok]
      show (if -(2 ^ 62) ≤ ((a : Nat) : Int) ∧ ((a : Nat) : Int) < 2 ^ 62 then _ else _) = _
      rw [if_pos (by omega)]
      rfl
    refine (w_fn (body := b__law_payload) (ds := [.obj i]) (n := 1) (N := 4) rfl ?_).trans e7
    refine w_seq (w_set (v_call (v_cons (v_var rfl) (v_cons (v_new (v_lst (v_cons v_c (v_cons v_c (v_cons v_c (v_cons v_c v_nil)))) (by decide : 4 ≤ 1000000))) v_nil)) rfl e2)) ?_
    refine w_seq (w_set (v_call (v_cons (v_var rfl) (v_cons (v_new (v_lst (v_cons v_c (v_cons v_c (v_cons v_c (v_cons v_c (v_cons v_c (v_cons v_c (v_cons v_c v_nil))))))) (by decide : 7 ≤ 1000000))) v_nil)) rfl e4)) ?_
    refine w_ret (v_op2 (v_m1l v_c (v_lc it e5) (join_sgn cs S5 (by omega))) (v_op2 (v_call (v_cons (v_var rfl) (v_cons (v_var rfl) v_nil)) rfl e6) (v_opA (v_cons v_c (v_cons (v_op2 (v_var rfl) v_c rfl) v_nil)) (hmax S6)) (mul_sgn c b S6 (by omega))) (dAdd_T (by simp; omega) S6))
  · have hin : ∀ x ∈ cs ++ List.replicate b c, x ∈ l := fun x hx => by
      rcases List.mem_append.mp hx with hx | hx
      · exact hcs x hx
      · rw [(List.mem_replicate.mp hx).2]; exact hc
    have hlen : (cs ++ List.replicate b c).length = k := by simp; omega
    exact ⟨⟨by omega, fun x hx => hl2 x (hin x hx)⟩, by omega, fun h58 x hx => hl3 (hin _ h58) x (hin x hx)⟩
theorem run_law_line {n : Nat} {p : List Nat} (hn : n ≤ 1000000000) (hp : PV p) (S : SS) : m__law_line [.int (n : Nat), T p] S = .ok (T (line n p)) S := by
  have sm := pv_sm hp
  have hl := hp.len
  have n1 : (numL n).length ≤ 20 := numL_sm (by omega)
  have n2 : (numL p.length).length ≤ 20 := numL_sm (by omega)
  have hf := front_sm (n := n) (p := p) (by omega) sm.1 sm.2
  have n3 : (numL (chk (front n p))).length ≤ 20 := numL_sm (by have := chk_lt (front n p); omega)
  have a1 : (numL n).length + 1 ≤ 1000000 := by omega
  have f0 : mSet 2 (mOp2 dAdd (mOp2 dAdd (mOp2 dAdd (mOp2 dAdd (mOpA dStr (mCons (mVar 0) mNil)) (mC (.str ":"))) (mOpA dStr (mCons (mOpA dLen (mCons (mVar 1) mNil)) mNil))) (mC (.str ":"))) (mVar 1)) [some (.int (n : Nat)), some (T p), none] S = .nx [some (.int (n : Nat)), some (T p), some (T (front n p))] S := by
    refine w_set (d := T (front n p)) ?_
    rw [colon_stL]
    refine v_op2 (v_op2 (v_op2 (v_op2 (v_opA (v_cons (v_var rfl) v_nil) (dStr_num (by omega))) v_c (dAdd_T (b := [58]) (by simp; omega) S)) (v_opA (v_cons (v_opA (v_cons (v_var rfl) v_nil) (dLen_T (by omega))) v_nil) (dStr_num (by omega))) (dAdd_T (by simp; omega) S)) v_c (dAdd_T (b := [58]) (by simp; omega) S)) (v_var rfl) ?_
    rw [dAdd_T (by simp; omega) S]
    simp [front]
  refine (w_fn (body := b__law_line) (ds := [.int (n : Nat), T p]) (n := 2) (N := 3) rfl (w_seq f0 (w_ret (d := T (line n p)) ?_))).trans gc_str
  rw [hash_stL]
  refine v_op2 (v_op2 (v_var rfl) v_c (dAdd_T (b := [35]) (by have := hf.1; simp; omega) S)) (v_opA (v_cons (v_call (v_cons (v_var rfl) v_nil) rfl (run_law_check hf S)) v_nil) (dStr_num (by have := chk_lt (front n p); omega))) ?_
  rw [dAdd_T (by have := hf.1; simp; omega) S]
  simp [line]
end K51
end FW

set_option Elab.async false
set_option linter.all false
set_option maxRecDepth 100000
set_option maxHeartbeats 4000000
namespace FW
namespace K51
open PySem TL
theorem sh_pair {n : Int} {p : List Nat} (h : Sm p) : SeqAt.shaped (.tuple [.int n, .str (stL p)]) = true := by
  have e := SeqAt.canLay_of_shaped (sh_str h)
  show (PyData.canLay0 _ && decide (_ ≤ 64)) = true
  rw [Bool.and_eq_true]
  refine ⟨?_, rfl⟩
  simp only [PyData.canLay0, PyData.canLayAll0, Bool.and_true, Bool.true_and] at e ⊢
  exact e
theorem ne_pair {n : Int} {p : List Nat} (h : Sm p) (S : SS) : dNe (.tup [.int n, T p]) (.tup [.int n, T p]) S = .ok (.bl false) S := by
  unfold dNe dEqB
  show (if SeqAt.shaped (.tuple [.int n, .str (stL p)]) = true ∧ SeqAt.shaped (.tuple [.int n, .str (stL p)]) = true then Res.ok (D.bl (!PyData.eqv (.tuple [.int n, .str (stL p)]) (.tuple [.int n, .str (stL p)]))) S else .stk) = _
  rw [if_pos ⟨sh_pair h, sh_pair h⟩]
  show Res.ok (D.bl (!((n == n) && ((stL p == stL p) && true)))) S = _
  rw [stL_beq]
  simp
theorem Sm.app {a b : List Nat} (ha : a.length + b.length ≤ 5000) (h1 : ∀ c ∈ a, c < 1000) (h2 : ∀ c ∈ b, c < 1000) : Sm (a ++ b) := ⟨by simp; omega, fun c hc => by
  rcases List.mem_append.mp hc with h | h
  · exact h1 c h
  · exact h2 c h⟩
theorem line_len {n : Nat} {p : List Nat} (hn : n ≤ 1000000000) (hp : PV p) : (line n p).length ≤ 360 := by
  have h1 := front_len hn hp
  have n3 : (numL (chk (front n p))).length ≤ 20 := numL_sm (by have := chk_lt (front n p); omega)
  simp only [line, List.length_append, List.length_cons]
  omega
theorem line_sign {n : Nat} {p : List Nat} (hp : PV p) : ∀ c ∈ line n p, 32 ≤ c ∧ c ≤ 126 := fun c hc => by
  simp only [line, List.mem_append, List.mem_cons] at hc
  rcases hc with h | h | h
  · exact front_sign hp c h
  · omega
  · have := dig h; omega
theorem line_pos {n : Nat} {p : List Nat} : 0 < (line n p).length := by simp only [line, List.length_append, List.length_cons]; omega
theorem fG_nil {g : MG} {body : MS} {env : En} {S : SS} : forGoW (fun _ => True) g body [] env S = .nx env S := by unfold forGoW; rw [if_pos trivial]
theorem fG_cons {g : MG} {body : MS} {env e1 e2 : En} {S S1 S2 : SS} {d : D} {ds : List D} {r : RF} (h1 : g d env S = .ok e1 S1) (h2 : body e1 S1 = .nx e2 S2) (h3 : forGoW (fun _ => True) g body ds e2 S2 = r) : forGoW (fun _ => True) g body (d :: ds) env S = r := by
  unfold forGoW
  rw [if_pos trivial, h1]
  show (match body e1 S1 with
    | .nx e2 S2 => forGoW (fun _ => True) g body ds e2 S2
    | .ct e2 S2 => forGoW (fun _ => True) g body ds e2 S2
    | .bk e2 S2 => .nx e2 S2
    | r => r) = _
  rw [h2]
  exact h3
theorem it_rng {m : MA} {env : En} {S : SS} {k : Nat} (h : m env S = .ok [.int (k : Nat)] S) (hk : k < 1000) : mItRng1 m env S = .ok ⟨rngD 0 k, fun _ => True⟩ S := by
  unfold mItRng1
  rw [h, Res.bind_ok]
  show (if -(2 ^ 62) ≤ ((k : Nat) : Int) ∧ ((k : Nat) : Int) < 2 ^ 62 then _ else _) = _
  rw [if_pos (by omega)]
  rfl
/-! ### one turn -/
noncomputable def turnB : MS := (mSeq (mSet 5 (mCall 2 m__law_pick (mCons (mVar 0) (mCons (mNew (mLst (mCons (mC (.int 0)) (mCons (mOp2 dSub (mOpA dLen (mCons (mVar 3) mNil)) (mC (.int 1))) (mCons (mCall 2 m__law_roll (mCons (mVar 0) (mCons (mOpA dLen (mCons (mVar 3) mNil)) mNil))) (mCons (mCall 2 m__law_roll (mCons (mVar 0) (mCons (mOpA dLen (mCons (mVar 3) mNil)) mNil))) mNil)))))) mNil))))
  (mSeq (mSet 6 (mCall 2 m__law_pick (mCons (mVar 0) (mCons (mOp2 dAdd (mC (.str "0123456789:# ~aZt(")) (mOp2 dIx (mVar 3) (mCall 2 m__law_roll (mCons (mVar 0) (mCons (mOpA dLen (mCons (mVar 3) mNil)) mNil))))) mNil))))
  (mIfS (mAnd (mTst (mOp2 dNe (mVar 6) (mOp2 dIx (mVar 3) (mVar 5)))) (mTst (mOp2 dIsNot (mCall 1 m__law_read (mCons (mOp2 dAdd (mOp2 dAdd (mSl dSl (mVar 3) mNoP (mP (mVar 5))) (mVar 6)) (mSl dSl (mVar 3) (mP (mOp2 dAdd (mVar 5) (mC (.int 1)))) mNoP)) mNil)) (mC .non)))) (mRet (mC (.bl false))) mNext)))
theorem sg_e : (("0123456789:# ~aZt(" : Str)) = stL [48, 49, 50, 51, 52, 53, 54, 55, 56, 57, 58, 35, 32, 126, 97, 90, 116, 40] := by decide
theorem ix_T {l : List Nat} {a : Nat} (h : a < l.length) (hl : l.length ≤ 1000000) (S : SS) : dIx (T l) (.int (a : Nat)) S = .ok (T [l[a]]) S := by
  show (match L2.atI l (a : Nat) with
    | some c => if (stL l).length ≤ 1000000 then Res.ok (sgn c) S else .stk
    | none => .stk) = _
  rw [atI_nat h]
  show (if (stL l).length ≤ 1000000 then Res.ok (sgn l[a]) S else .stk) = _
  rw [stL_len, if_pos hl]
  rfl
theorem sl_to {l : List Nat} {a : Nat} (hl : l.length ≤ 1000000) (S : SS) : dSl (T l) none (some (a : Nat)) S = .ok (T (l.take a)) S := by
  show (if (stL l).length ≤ 1000000 then Res.ok (D.str (L2.cutS (stL l) none (some (a : Nat)))) S else .stk) = _
  rw [stL_len, if_pos hl, cut_take]
theorem sl_from {l : List Nat} {a : Nat} (hl : l.length ≤ 1000000) (S : SS) : dSl (T l) (some (a : Nat)) none S = .ok (T (l.drop a)) S := by
  show (if (stL l).length ≤ 1000000 then Res.ok (D.str (L2.cutS (stL l) (some (a : Nat)) none)) S else .stk) = _
  rw [stL_len, if_pos hl, cut_drop]
theorem sl_last {l : List Nat} (hl : l.length ≤ 1000000) (hn : l ≠ []) (S : SS) : dSl (T l) none (some (-1)) S = .ok (T l.dropLast) S := by
  show (if (stL l).length ≤ 1000000 then Res.ok (D.str (L2.cutS (stL l) none (some (-1)))) S else .stk) = _
  rw [stL_len, if_pos hl, cut_last _ hn]
theorem run_turn {i n : Nat} {p : List Nat} (hn : n ≤ 1000000000) (hp : PV p) {S : SS} (h : Dz S i) {x4 x5 x6 : Option D} {tl : En} : ∃ y5 y6 S', turnB ([some (.obj i), some (.int (n : Nat)), some (T p), some (T (line n p)), x4, x5, x6] ++ tl) S = .nx ([some (.obj i), some (.int (n : Nat)), some (T p), some (T (line n p)), x4, y5, y6] ++ tl) S' ∧ Ex i S S' := by
  obtain ⟨L, hL⟩ : ∃ L, L = line n p := ⟨_, rfl⟩
  have l1 : L.length ≤ 360 := hL ▸ line_len hn hp
  have l0 : 0 < L.length := hL ▸ line_pos
  have ls : ∀ c ∈ L, 32 ≤ c ∧ c ≤ 126 := hL ▸ line_sign hp
  rw [← hL]
  obtain ⟨r1, S1, e1, q1, x1, _⟩ := run_roll (t := L.length) h l0 (by omega)
  obtain ⟨r2, S2, e2, q2, x2, _⟩ := run_roll (t := L.length) x1.dz l0 (by omega)
  have x3 := (x1.trans x2).more (.lst [.int 0, .int ((L.length : Nat) - 1), .int (r1 : Nat), .int (r2 : Nat)])
  have hne : S2.length ≠ i := fun z => by have := x2.lt; omega
  obtain ⟨d, S4, hd, e4, x4', _⟩ := pick_list (j := S2.length) x3.dz hne last_get (by simp) (by simp) (fun d hd n => by
    simp only [List.mem_cons, List.not_mem_nil, or_false] at hd
    rcases hd with rfl | rfl | rfl | rfl <;> rfl)
  obtain ⟨a, rfl, ha⟩ : ∃ a : Nat, d = .int (a : Nat) ∧ a < L.length := by
    simp only [List.mem_cons, List.not_mem_nil, or_false] at hd
    rcases hd with rfl | rfl | rfl | rfl
    · exact ⟨0, rfl, l0⟩
    · exact ⟨L.length - 1, by congr 1; omega, by omega⟩
    · exact ⟨r1, rfl, q1⟩
    · exact ⟨r2, rfl, q2⟩
  obtain ⟨r3, S5, e5, q5, x5', _⟩ := run_roll (t := L.length) (x3.trans x4').dz l0 (by omega)
  obtain ⟨s, S6, hs, e6, x6', _⟩ := pick_text (l := [48, 49, 50, 51, 52, 53, 54, 55, 56, 57, 58, 35, 32, 126, 97, 90, 116, 40] ++ [L[r3]]) x5'.dz (by simp) (by simp)
  have hs126 : s ≤ 126 := by
    rcases List.mem_append.mp hs with z | z
    · exact (by decide : ∀ x ∈ [48, 49, 50, 51, 52, 53, 54, 55, 56, 57, 58, 35, 32, 126, 97, 90, 116, 40], x ≤ 126) s z
    · rw [List.mem_singleton.mp z]; exact (ls _ (List.getElem_mem q5)).2
  refine ⟨some (.int (a : Nat)), some (T [s]), S6, ?_, ((x3.trans x4').trans x5').trans x6'⟩
  have dl : ∀ S, dLen [T L] S = .ok (.int (L.length : Nat)) S := fun S => dLen_T (by omega)
  have sh1 : ∀ c ∈ [s], c < 1000 := fun c hc => by rw [List.mem_singleton.mp hc]; omega
  refine w_seq (e1 := [some (.obj i), some (.int (n : Nat)), some (T p), some (T L), x4, some (.int (a : Nat)), x6] ++ tl) (w_set (v_call (v_cons (v_var rfl) (v_cons (v_new (v_lst (v_cons v_c (v_cons (v_op2 (v_opA (v_cons (v_var rfl) v_nil) (dl _)) v_c rfl) (v_cons (v_call (v_cons (v_var rfl) (v_cons (v_opA (v_cons (v_var rfl) v_nil) (dl _)) v_nil)) rfl e1) (v_cons (v_call (v_cons (v_var rfl) (v_cons (v_opA (v_cons (v_var rfl) v_nil) (dl _)) v_nil)) rfl e2) v_nil)))) (by decide : 4 ≤ 1000000))) v_nil)) rfl e4)) ?_
  rw [sg_e]
  refine w_seq (e1 := [some (.obj i), some (.int (n : Nat)), some (T p), some (T L), x4, some (.int (a : Nat)), some (T [s])] ++ tl) (w_set (v_call (v_cons (v_var rfl) (v_cons (v_op2 v_c (v_op2 (v_var rfl) (v_call (v_cons (v_var rfl) (v_cons (v_opA (v_cons (v_var rfl) v_nil) (dl _)) v_nil)) rfl e5) (ix_T q5 (by omega) _)) (dAdd_T (by simp) _)) v_nil)) rfl e6)) ?_
  have c1 : mTst (mOp2 dNe (mVar 6) (mOp2 dIx (mVar 3) (mVar 5))) ([some (.obj i), some (.int (n : Nat)), some (T p), some (T L), x4, some (.int (a : Nat)), some (T [s])] ++ tl) S6 = .ok (!decide ([s] = [L[a]])) S6 :=
    v_tst (v_op2 (v_var rfl) (v_op2 (v_var rfl) (v_var rfl) (ix_T ha (by omega) _)) (dNe_str [s] [L[a]] _ ⟨by simp, sh1⟩ ⟨by simp, fun c hc => by rw [List.mem_singleton.mp hc]; have := ls _ (List.getElem_mem ha); omega⟩))
  by_cases hq : s = L[a]
  · rw [decide_eq_true (by rw [hq])] at c1
    exact w_if_f (v_and_f c1) w_next
  · rw [decide_eq_false (by simpa using hq)] at c1
    have hset : L.take a ++ [s] ++ L.drop (a + 1) = L.set a s := by rw [List.set_eq_take_append_cons_drop, if_pos ha]; simp
    have hSm : Sm (L.set a s) := ⟨by rw [List.length_set]; omega, fun c hc => by
      rcases List.mem_or_eq_of_mem_set hc with z | z
      · have := ls c z; omega
      · omega⟩
    have hout : ¬ Img (L.set a s) := by subst hL; exact out_change hn hp ha hs126 hq
    refine w_if_f ((v_and_t c1).trans (v_tst (v_op2 (v_call (v_cons (v_op2 (v_op2 (v_sl (v_var rfl) v_noP (v_p (v_var rfl)) (sl_to (by omega) _)) (v_var rfl) (dAdd_T (by simp; omega) _)) (v_sl (v_var rfl) (v_p (j := ((a + 1 : Nat) : Int)) (v_op2 (d1 := .int (a : Nat)) (d2 := .int 1) (v_var rfl) v_c rfl)) v_noP (sl_from (by omega) _)) ((dAdd_T (by simp; omega) _).trans (by rw [hset]))) v_nil) rfl (run_law_read_out hSm hout _)) v_c rfl))) w_next
theorem run_turns {i n : Nat} {p : List Nat} (hn : n ≤ 1000000000) (hp : PV p) {tl : En} : ∀ (ds : List D) (S : SS) (x4 x5 x6 : Option D), Dz S i → ∃ y4 y5 y6 S', forGoW (fun _ => True) (gmName 4) turnB ds ([some (.obj i), some (.int (n : Nat)), some (T p), some (T (line n p)), x4, x5, x6] ++ tl) S = .nx ([some (.obj i), some (.int (n : Nat)), some (T p), some (T (line n p)), y4, y5, y6] ++ tl) S' ∧ Ex i S S'
  | [], S, x4, x5, x6, h => ⟨x4, x5, x6, S, fG_nil, Ex.refl h⟩
  | d :: ds, S, x4, x5, x6, h => by
    obtain ⟨y5, y6, S1, e1, x1⟩ := run_turn hn hp h (x4 := some d) (x5 := x5) (x6 := x6) (tl := tl)
    obtain ⟨z4, z5, z6, S2, e2, x2⟩ := run_turns hn hp (tl := tl) ds S1 (some d) y5 y6 x1.dz
    exact ⟨z4, z5, z6, S2, fG_cons rfl e1 e2, x1.trans x2⟩
end K51
end FW

set_option Elab.async false
set_option linter.all false
set_option maxRecDepth 100000
set_option maxHeartbeats 4000000
namespace FW
namespace K51
open PySem TL
theorem v_add {a b : ME} {env : En} {S : SS} {x y : List Nat} (ha : a env S = .ok (T x) S) (hb : b env S = .ok (T y) S) (hl : x.length + y.length ≤ 1000000) : mOp2 dAdd a b env S = .ok (T (x ++ y)) S := v_op2 ha hb (dAdd_T hl S)
/-- a ':' b ':' c -/
theorem v_front {A B C : ME} {z1 z2 : Str} {env : En} {S : SS} {a k1 b k2 c : List Nat} (ha : A env S = .ok (T a) S) (h1 : z1 = stL k1) (hb : B env S = .ok (T b) S) (h2 : z2 = stL k2) (hc : C env S = .ok (T c) S) (hl : a.length + k1.length + b.length + k2.length + c.length ≤ 1000000) :
    mOp2 dAdd (mOp2 dAdd (mOp2 dAdd (mOp2 dAdd A (mC (.str z1))) B) (mC (.str z2))) C env S = .ok (T (a ++ k1 ++ b ++ k2 ++ c)) S := by
  subst h1
  subst h2
  exact v_add (v_add (v_add (v_add ha v_c (by omega)) hb (by simp; omega)) v_c (by simp; omega)) hc (by simp; omega)
theorem v_hash {env : En} {S : SS} {f : List Nat} (h9 : env[9]? = some (some (T f))) (hf : Sm f) : mOp2 dAdd (mOp2 dAdd (mVar 9) (mC (.str "#"))) (mOpA dStr (mCons (mCall 1 m__law_check (mCons (mVar 9) mNil)) mNil)) env S = .ok (T (f ++ 35 :: numL (chk f))) S := by
  rw [hash_stL]
  have hc := chk_lt f
  have := hf.len
  have n3 : (numL (chk f)).length ≤ 20 := numL_sm (by omega)
  have e := v_add (v_add (v_var (S := S) h9) (v_c (d := T [35])) (by simp; omega)) (v_opA (v_cons (v_call (v_cons (v_var h9) v_nil) rfl (run_law_check hf S)) v_nil) (dStr_num (by omega))) (by simp; omega)
  exact e.trans (by simp)
theorem near_app {m : ME} {env : En} {S1 : SS} {N : List (List Nat)} {y : List Nat} (h8 : env[8]? = some (some (.obj S1.length))) (hm : m env (S1 ++ [.lst (N.map T)]) = .ok (T y) (S1 ++ [.lst (N.map T)])) (hl : N.length < 1000) : mDrop (mMeth isLst dAppend (mVar 8) (mCons m mNil)) env (S1 ++ [.lst (N.map T)]) = .nx env (S1 ++ [.lst ((N ++ [y]).map T)]) := by
  have e : (S1 ++ [.lst (N.map T)])[S1.length]? = some (Cell.lst (N.map T)) := last_get
  refine w_drop (d := .non) (v_meth (v_var h8) ?_ (v_cons hm v_nil) ?_)
  · unfold isLst; dsimp only; rw [e]
  · show (match (S1 ++ [Cell.lst (N.map T)])[S1.length]? with
      | some (.lst zs) => if zs.length < 1000000 then Res.ok D.non ((S1 ++ [Cell.lst (N.map T)]).set S1.length (Cell.lst (zs ++ [T y]))) else .stk
      | _ => .stk) = _
    rw [e]
    show (if (N.map T).length < 1000000 then Res.ok D.non ((S1 ++ [Cell.lst (N.map T)]).set S1.length (Cell.lst (N.map T ++ [T y]))) else .stk) = _
    rw [if_pos (by simp; omega), List.set_append_right _ _ (Nat.le_refl _)]
    simp
/-- set front, append front#check -/
theorem near_step {F : ME} {env : En} {S1 : SS} {N : List (List Nat)} {f : List Nat} (h9 : 9 < env.length) (h8 : env[8]? = some (some (.obj S1.length))) (hF : F env (S1 ++ [.lst (N.map T)]) = .ok (T f) (S1 ++ [.lst (N.map T)])) (hf : Sm f) (hl : N.length < 1000) :
    mSeq (mSet 9 F) (mDrop (mMeth isLst dAppend (mVar 8) (mCons (mOp2 dAdd (mOp2 dAdd (mVar 9) (mC (.str "#"))) (mOpA dStr (mCons (mCall 1 m__law_check (mCons (mVar 9) mNil)) mNil))) mNil))) env (S1 ++ [.lst (N.map T)]) = .nx (env.set 9 (some (T f))) (S1 ++ [.lst ((N ++ [f ++ 35 :: numL (chk f)]).map T)]) :=
  w_seq (w_set hF) (near_app (by rw [List.getElem?_set_ne (by decide)]; exact h8) (v_hash (List.getElem?_set_self h9) hf) hl)
theorem w_seq3 {p q r : MS} {env e1 : En} {S S1 : SS} {rf : RF} (h : mSeq p q env S = .nx e1 S1) (h2 : r e1 S1 = rf) : mSeq p (mSeq q r) env S = rf := by
  unfold mSeq at h ⊢
  cases e : p env S with
  | nx e2 S2 =>
    rw [e] at h
    dsimp only at h ⊢
    rw [h]
    exact h2
  | _ => rw [e] at h; cases h
/-- what is left of a line by replace -/
theorem rep_line {n : Nat} {p : List Nat} (z : List Nat) {env : En} {S : SS} {m : ME} (hm : m env S = .ok (T (line n p)) S) (hl : (line n p).length ≤ 100000) : mRep1 58 (stL z) m env S = .ok (T (numL n ++ z ++ (numL p.length ++ 58 :: (p ++ 35 :: numL (chk (front n p)))))) S := by
  unfold mRep1
  rw [hm, Res.bind_ok]
  dsimp only
  rw [stL_len, if_pos hl]
  refine congrArg (fun l => Res.ok (D.str l) S) ?_
  unfold repC
  rw [stL_list, if_pos (by rw [line_form]; simp), line_form]
  have t1 : (numL n ++ 58 :: (numL p.length ++ 58 :: (p ++ 35 :: numL (chk (front n p))))).takeWhile (· != 58) = numL n := by
    rw [List.takeWhile_append_of_pos (fun c hc => by have := dig hc; simp; omega)]
    simp
  have t2 : (numL n ++ 58 :: (numL p.length ++ 58 :: (p ++ 35 :: numL (chk (front n p))))).dropWhile (· != 58) = 58 :: (numL p.length ++ 58 :: (p ++ 35 :: numL (chk (front n p)))) := by
    rw [List.dropWhile_append_of_pos (fun c hc => by have := dig hc; simp; omega)]
    simp
  rw [t1, t2, stL_app, stL_app]
  rfl
theorem dStr_neg1 (S : SS) : dStr [.int (-1)] S = .ok (T [45, 49]) S := by
  show (if (-1 : Int).natAbs.log2 < 1920 then Res.ok (D.str (Str.ofString (toString (-1 : Int)))) S else .stk) = _
  rw [if_pos (by decide)]
  exact congrArg (fun l => Res.ok (D.str l) S) (by decide)
/-- the last comprehension -/
theorem near_none {env : En} {S1 : SS} {N : List (List Nat)} (h8 : env[8]? = some (some (.obj S1.length))) (hl11 : 11 < env.length) (hN : ∀ M ∈ N, Sm M ∧ ¬ Img M) (hl : N.length < 1000) :
    ∃ S', mOp2 dEq (mNew (mLc [11] (mItAny (mVar 8)) (gmName 11) (mTst (mOp2 dIsNot (mCall 1 m__law_read (mCons (mVar 11) mNil)) (mC .non))) (mVar 11))) (mNew (mLst mNil)) env (S1 ++ [.lst (N.map T)]) = .ok (.bl true) S' ∧ S' = S1 ++ [.lst (N.map T)] ++ [.lst []] ++ [.lst []] := by
  refine ⟨_, ?_, rfl⟩
  have e : (S1 ++ [.lst (N.map T)])[S1.length]? = some (Cell.lst (N.map T)) := last_get
  have it : mItAny (mVar 8) env (S1 ++ [.lst (N.map T)]) = .ok ⟨N.map T, fun S => S[S1.length]? = some (.lst (N.map T))⟩ (S1 ++ [.lst (N.map T)]) := by
    unfold mItAny
    rw [v_var h8, Res.bind_ok]
    dsimp only
    rw [e]
  have lc := lc_map (k := fun S => S[S1.length]? = some (Cell.lst (N.map T))) (g := gmName 11) (t := mTst (mOp2 dIsNot (mCall 1 m__law_read (mCons (mVar 11) mNil)) (mC .non))) (el := mVar 11) (e0 := wipeE env [11]) (S := S1 ++ [.lst (N.map T)]) e T (fun _ => D.non) (fun _ => false) (fun M => (wipeE env [11]).set 11 (some (T M))) N [] (fun _ _ => rfl) (fun M hM => by
    have g : ((wipeE env [11]).set 11 (some (T M)))[11]? = some (some (T M)) := List.getElem?_set_self (by show 11 < ((env.set 11 none)).length; rw [List.length_set]; exact hl11)
    exact v_tst (v_op2 (v_call (v_cons (v_var g) v_nil) rfl (run_law_read_out (hN M hM).1 (hN M hM).2 _)) v_c rfl)) (fun _ _ h => by cases h) (by simp; omega)
  rw [show (N.filter fun _ => false) = [] by simp] at lc
  refine v_op2 (v_new (v_lc it lc)) (v_new (v_lst v_nil (by decide : 0 ≤ 1000000))) ?_
  have p1 : ∀ S : SS, pd 66 (S ++ [.lst []] ++ [.lst []]) (.obj S.length) = some (.list []) := fun S => by
    show (match (S ++ [Cell.lst []] ++ [Cell.lst []])[S.length]? with
      | some (.lst xs) => (xs.mapM (pd 65 (S ++ [Cell.lst []] ++ [Cell.lst []]))).map PyData.list
      | _ => none) = _
    rw [List.getElem?_append_left (by simp), last_get]
    rfl
  have p2 : ∀ S : SS, pd 66 (S ++ [.lst []]) (.obj S.length) = some (.list []) := fun S => by
    show (match (S ++ [Cell.lst []])[S.length]? with
      | some (.lst xs) => (xs.mapM (pd 65 (S ++ [Cell.lst []]))).map PyData.list
      | _ => none) = _
    rw [last_get]
    rfl
  unfold dEq dEqB
  simp only [List.map_nil, List.append_nil, p1, p2]
  rfl
end K51
end FW

set_option Elab.async false
set_option linter.all false
set_option maxRecDepth 100000
set_option maxHeartbeats 4000000
namespace FW
namespace K51
open PySem TL
theorem sp_e : ((" " : Str)) = stL [32] := by decide
theorem zero_e : (("0" : Str)) = stL [48] := by decide
theorem min_e : (("-" : Str)) = stL [45] := by decide
theorem plus_e : (("+" : Str)) = stL [43] := by decide
theorem cc_e : (("::" : Str)) = stL [58, 58] := by decide
theorem c0_e : ((":0" : Str)) = stL [58, 48] := by decide
theorem h0_e : (("#0" : Str)) = stL [35, 48] := by decide
theorem x_e : (("x" : Str)) = stL [120] := by decide
theorem tab_e : (("\t" : Str)) = stL [9] := by decide
theorem num_lt {m c : Nat} (h : c ∈ numL m) : c < 1000 := by have := dig h; omega
/-- the twelve first texts -/
def near0 (n : Nat) (p : List Nat) : List (List Nat) := [line n p ++ [32], [32] ++ line n p, [48] ++ line n p, line n p ++ [10], [10] ++ line n p, [], (line n p).dropLast, line n p ++ [48], [45] ++ line n p, [43] ++ line n p,
  numL n ++ [58, 58] ++ (numL p.length ++ 58 :: (p ++ 35 :: numL (chk (front n p)))), numL n ++ [] ++ (numL p.length ++ 58 :: (p ++ 35 :: numL (chk (front n p))))]
theorem near0_ok {n : Nat} {p : List Nat} (hn : n ≤ 1000000000) (hp : PayOk p) : ∀ M ∈ near0 n p, Sm M ∧ ¬ Img M := by
  have l1 := line_len hn hp.pv
  have ls : ∀ c ∈ line n p, c < 1000 := fun c hc => by have := line_sign hp.pv c hc; omega
  have s1 : ∀ k, k < 1000 → Sm (line n p ++ [k]) := fun k hk => Sm.app (by simp; omega) ls (fun c hc => by rw [List.mem_singleton.mp hc]; exact hk)
  have s2 : ∀ k, k < 1000 → Sm ([k] ++ line n p) := fun k hk => Sm.app (by simp; omega) (fun c hc => by rw [List.mem_singleton.mp hc]; exact hk) ls
  have hl := hp.pv.len
  have n1 : (numL n).length ≤ 20 := numL_sm (by omega)
  have n2 : (numL p.length).length ≤ 20 := numL_sm (by omega)
  have n3 : (numL (chk (front n p))).length ≤ 20 := numL_sm (by have := chk_lt (front n p); omega)
  have s3 : ∀ z : List Nat, z.length ≤ 2 → (∀ c ∈ z, c < 1000) → Sm (numL n ++ z ++ (numL p.length ++ 58 :: (p ++ 35 :: numL (chk (front n p))))) := fun z h1 h2 => ⟨by simp only [List.length_append, List.length_cons]; omega, fun c hc => by
    simp only [List.mem_append, List.mem_cons] at hc
    rcases hc with (h | h) | h | h | h | h | h
    · exact num_lt h
    · exact h2 c h
    · exact num_lt h
    · omega
    · have := hp.pv.sg c h; omega
    · omega
    · exact num_lt h⟩
  intro M hM
  unfold near0 at hM
  simp only [List.mem_cons, List.not_mem_nil, or_false] at hM
  rcases hM with rfl | rfl | rfl | rfl | rfl | rfl | rfl | rfl | rfl | rfl | rfl | rfl
  · exact ⟨s1 _ (by decide), out_suffix n p 32⟩
  · exact ⟨s2 _ (by decide), out_prefix 32 _ (by decide)⟩
  · exact ⟨s2 _ (by decide), out_zero n p⟩
  · exact ⟨s1 _ (by decide), out_suffix n p 10⟩
  · exact ⟨s2 _ (by decide), out_prefix 10 _ (by decide)⟩
  · exact ⟨⟨by decide, by simp⟩, out_nil⟩
  · exact ⟨⟨by simp; omega, fun c hc => ls c (List.dropLast_subset _ hc)⟩, out_cut n p⟩
  · exact ⟨s1 _ (by decide), out_suffix n p 48⟩
  · exact ⟨s2 _ (by decide), out_prefix 45 _ (by decide)⟩
  · exact ⟨s2 _ (by decide), out_prefix 43 _ (by decide)⟩
  · refine ⟨s3 _ (by decide) (by decide), ?_⟩
    have := out_colons n (numL p.length ++ 58 :: (p ++ 35 :: numL (chk (front n p))))
    simpa using this
  · refine ⟨s3 _ (by decide) (by simp), ?_⟩
    have := out_uncolon hn hp
    simpa using this
theorem fr_sm {a b c : List Nat} {z1 z2 : List Nat} (ha : a.length ≤ 1000) (hb : b.length ≤ 1000) (hc : c.length ≤ 1000) (h1 : z1.length ≤ 10) (h2 : z2.length ≤ 10) (sa : ∀ x ∈ a, x < 1000) (sb : ∀ x ∈ b, x < 1000) (sc : ∀ x ∈ c, x < 1000) (s1 : ∀ x ∈ z1, x < 1000) (s2 : ∀ x ∈ z2, x < 1000) : Sm (a ++ z1 ++ b ++ z2 ++ c) := ⟨by simp only [List.length_append]; omega, fun x hx => by
  simp only [List.mem_append] at hx
  rcases hx with (((h | h) | h) | h) | h
  · exact sa x h
  · exact s1 x h
  · exact sb x h
  · exact s2 x h
  · exact sc x h⟩
theorem sm_hash {f : List Nat} (hl : f.length ≤ 4900) (h : Sm f) (z : List Nat) (hz : z.length ≤ 2) (sz : ∀ x ∈ z, x < 1000) (g : List Nat) : Sm (f ++ z ++ numL (chk g)) := by
  have n3 : (numL (chk g)).length ≤ 20 := numL_sm (by have := chk_lt g; omega)
  exact ⟨by simp only [List.length_append]; omega, fun x hx => by
    simp only [List.mem_append] at hx
    rcases hx with (h' | h') | h'
    · exact h.sg x h'
    · exact sz x h'
    · exact num_lt h'⟩
def hs (f : List Nat) : List Nat := f ++ 35 :: numL (chk f)
theorem hs_sm {f : List Nat} (hl : f.length ≤ 4900) (h : Sm f) : Sm (hs f) := by
  have := sm_hash hl h [35] (by decide) (by decide) f
  simpa [hs] using this
theorem fr_len {a b c z1 z2 : List Nat} (ha : a.length ≤ 1000) (hb : b.length ≤ 1000) (hc : c.length ≤ 1000) (h1 : z1.length ≤ 10) (h2 : z2.length ≤ 10) : (a ++ z1 ++ b ++ z2 ++ c).length ≤ 4900 := by simp only [List.length_append]; omega
end K51
end FW

set_option Elab.async false
set_option linter.all false
set_option maxRecDepth 100000
set_option maxHeartbeats 4000000
namespace FW
namespace K51
open PySem TL
theorem v_cs {z : Str} {k : List Nat} {env : En} {S : SS} (h : z = stL k) : mC (.str z) env S = .ok (T k) S := by subst h; rfl
theorem rep_lineS {n : Nat} {p : List Nat} {z0 : Str} (z : List Nat) (hz : z0 = stL z) {env : En} {S : SS} {m : ME} (hm : m env S = .ok (T (line n p)) S) (hl : (line n p).length ≤ 100000) : mRep1 58 z0 m env S = .ok (T (numL n ++ z ++ (numL p.length ++ 58 :: (p ++ 35 :: numL (chk (front n p)))))) S := by subst hz; exact rep_line z hm hl
theorem near_tail {n : Nat} {p : List Nat} (hn : n ≤ 1000000000) (hp : PV p) (S1 : SS) (N : List (List Nat)) (a0 a3 y4 y5 y6 y9 y10 y11 : Option D) (hN : ∀ M ∈ N, Sm M ∧ ¬ Img M) (hlN : N.length < 900) : ∃ cs : List Cell, (mSeq (mDrop (mMeth isLst dAppend (mVar 8) (mCons (mOp2 dAdd (mOp2 dAdd (mOp2 dAdd (mOp2 dAdd (mOp2 dAdd (mOp2 dAdd (mOpA dStr (mCons (mVar 1) mNil)) (mC (.str ":"))) (mVar 7)) (mC (.str ":"))) (mVar 2)) (mC (.str "#0"))) (mOpA dStr (mCons (mCall 1 m__law_check (mCons (mOp2 dAdd (mOp2 dAdd (mOp2 dAdd (mOp2 dAdd (mOpA dStr (mCons (mVar 1) mNil)) (mC (.str ":"))) (mVar 7)) (mC (.str ":"))) (mVar 2)) mNil)) mNil))) mNil)))
  (mRet (mOp2 dEq (mNew (mLc [11] (mItAny (mVar 8)) (gmName 11) (mTst (mOp2 dIsNot (mCall 1 m__law_read (mCons (mVar 11) mNil)) (mC .non))) (mVar 11))) (mNew (mLst mNil))))) [a0, some (.int (n : Nat)), some (T p), a3, y4, y5, y6, some (T (numL p.length)), some (.obj S1.length), y9, y10, y11] (S1 ++ [.lst (N.map T)]) = .rt (.bl true) (S1 ++ cs) := by
  have hl := hp.len
  have hsg : ∀ c ∈ p, c < 1000 := fun c hc => by have := hp.sg c hc; omega
  have n1 : (numL n).length ≤ 20 := numL_sm (by omega)
  have n2 : (numL p.length).length ≤ 20 := numL_sm (by omega)
  have dn : ∀ S, dStr [.int (n : Nat)] S = .ok (T (numL n)) S := fun S => dStr_num (by omega)
  have nn : ∀ m, ∀ c ∈ numL m, c < 1000 := fun m c hc => num_lt hc
  have k58 : ∀ c ∈ ([58] : List Nat), c < 1000 := by decide
  obtain ⟨f19, hf19⟩ : ∃ f, f = numL n ++ [58] ++ numL p.length ++ [58] ++ p := ⟨_, rfl⟩
  have g19 : Sm f19 := hf19 ▸ fr_sm (by omega) (by omega) (by omega) (by decide) (by decide) (nn _) (nn _) hsg k58 k58
  have q19 : f19.length ≤ 4900 := hf19 ▸ fr_len (by omega) (by omega) (by omega) (by decide) (by decide)
  have n19 : (numL (chk f19)).length ≤ 20 := numL_sm (by have := chk_lt f19; omega)
  have o19 : ¬ Img (f19 ++ [35, 48] ++ numL (chk f19)) := by
    have := out_check0 n p (chk f19)
    subst hf19
    simpa [front] using this
  have g19' := sm_hash q19 g19 [35, 48] (by decide) (by decide) f19
  have fe : ∀ {S}, (mOp2 dAdd (mOp2 dAdd (mOp2 dAdd (mOp2 dAdd (mOpA dStr (mCons (mVar 1) mNil)) (mC (.str ":"))) (mVar 7)) (mC (.str ":"))) (mVar 2)) [a0, some (.int (n : Nat)), some (T p), a3, y4, y5, y6, some (T (numL p.length)), some (.obj S1.length), y9, y10, y11] S = .ok (T f19) S := fun {S} => by rw [hf19]; exact v_front (v_opA (v_cons (v_var rfl) v_nil) (dn _)) colon_stL (v_var rfl) colon_stL (v_var rfl) (by simp; omega)
  obtain ⟨S', e', rfl⟩ := near_none (env := [a0, some (.int (n : Nat)), some (T p), a3, y4, y5, y6, some (T (numL p.length)), some (.obj S1.length), y9, y10, y11]) (S1 := S1) (N := N ++ [f19 ++ [35, 48] ++ numL (chk f19)]) rfl (by simp) (fun M hM => by
    rcases List.mem_append.mp hM with h | h
    · exact hN M h
    · rw [List.mem_singleton.mp h]; exact ⟨g19', o19⟩) (by simp; omega)
  refine ⟨[.lst ((N ++ [f19 ++ [35, 48] ++ numL (chk f19)]).map T), .lst [], .lst []], ?_⟩
  refine w_seq (near_app (y := f19 ++ [35, 48] ++ numL (chk f19)) rfl (v_add (v_add fe (v_cs h0_e) (by simp; omega)) (v_opA (v_cons (v_call (v_cons fe v_nil) rfl (run_law_check g19 _)) v_nil) (dStr_num (by have := chk_lt f19; omega))) (by simp; omega)) (by omega)) ?_
  exact (w_ret e').trans (by rw [List.append_assoc, List.append_assoc]; rfl)
theorem near_rest {n : Nat} {p : List Nat} (hn : n ≤ 1000000000) (hp : PayOk p) (S1 : SS) (a0 y4 y5 y6 : Option D) : ∃ cs : List Cell, (mSeq (mSet 7 (mOpA dStr (mCons (mOpA dLen (mCons (mVar 2) mNil)) mNil)))
  (mSeq (mSet 8 (mNew (mLst (mCons (mOp2 dAdd (mVar 3) (mC (.str " "))) (mCons (mOp2 dAdd (mC (.str " ")) (mVar 3)) (mCons (mOp2 dAdd (mC (.str "0")) (mVar 3)) (mCons (mOp2 dAdd (mVar 3) (mC (.str "\n"))) (mCons (mOp2 dAdd (mC (.str "\n")) (mVar 3)) (mCons (mC (.str "")) (mCons (mSl dSl (mVar 3) mNoP (mP (mOp1 dNeg (mC (.int 1))))) (mCons (mOp2 dAdd (mVar 3) (mC (.str "0"))) (mCons (mOp2 dAdd (mC (.str "-")) (mVar 3)) (mCons (mOp2 dAdd (mC (.str "+")) (mVar 3)) (mCons (mRep1 58 "::" (mVar 3)) (mCons (mRep1 58 "" (mVar 3)) mNil)))))))))))))))
  (mSeq (mSet 9 (mOp2 dAdd (mOp2 dAdd (mOp2 dAdd (mOp2 dAdd (mOpA dStr (mCons (mVar 1) mNil)) (mC (.str ":0"))) (mVar 7)) (mC (.str ":"))) (mVar 2)))
  (mSeq (mDrop (mMeth isLst dAppend (mVar 8) (mCons (mOp2 dAdd (mOp2 dAdd (mVar 9) (mC (.str "#"))) (mOpA dStr (mCons (mCall 1 m__law_check (mCons (mVar 9) mNil)) mNil))) mNil)))
  (mSeq (mFor (mItAny (mTup (mCons (mOp2 dAdd (mOpA dLen (mCons (mVar 2) mNil)) (mC (.int 1))) (mCons (mOp2 dSub (mOpA dLen (mCons (mVar 2) mNil)) (mC (.int 1))) mNil)))) (gmName 10) (mSeq (mSet 9 (mOp2 dAdd (mOp2 dAdd (mOp2 dAdd (mOp2 dAdd (mOpA dStr (mCons (mVar 1) mNil)) (mC (.str ":"))) (mOpA dStr (mCons (mVar 10) mNil))) (mC (.str ":"))) (mVar 2)))
  (mDrop (mMeth isLst dAppend (mVar 8) (mCons (mOp2 dAdd (mOp2 dAdd (mVar 9) (mC (.str "#"))) (mOpA dStr (mCons (mCall 1 m__law_check (mCons (mVar 9) mNil)) mNil))) mNil)))))
  (mSeq (mFor (mItAny (mTup (mCons (mOp2 dAdd (mVar 2) (mOp2 dMul (mC (.str "x")) (mOp2 dSub (mC (.int 301)) (mOpA dLen (mCons (mVar 2) mNil))))) (mCons (mOp2 dAdd (mSl dSl (mVar 2) mNoP (mP (mC (.int 200)))) (mC (.str "\t"))) mNil)))) (gmName 11) (mSeq (mSet 9 (mOp2 dAdd (mOp2 dAdd (mOp2 dAdd (mOp2 dAdd (mOpA dStr (mCons (mVar 1) mNil)) (mC (.str ":"))) (mOpA dStr (mCons (mOpA dLen (mCons (mVar 11) mNil)) mNil))) (mC (.str ":"))) (mVar 11)))
  (mDrop (mMeth isLst dAppend (mVar 8) (mCons (mOp2 dAdd (mOp2 dAdd (mVar 9) (mC (.str "#"))) (mOpA dStr (mCons (mCall 1 m__law_check (mCons (mVar 9) mNil)) mNil))) mNil)))))
  (mSeq (mSet 9 (mOp2 dAdd (mOp2 dAdd (mOp2 dAdd (mOp2 dAdd (mOpA dStr (mCons (mOp2 dAdd (mOp2 dPow (mC (.int 10)) (mC (.int 9))) (mC (.int 1))) mNil)) (mC (.str ":"))) (mVar 7)) (mC (.str ":"))) (mVar 2)))
  (mSeq (mDrop (mMeth isLst dAppend (mVar 8) (mCons (mOp2 dAdd (mOp2 dAdd (mVar 9) (mC (.str "#"))) (mOpA dStr (mCons (mCall 1 m__law_check (mCons (mVar 9) mNil)) mNil))) mNil)))
  (mSeq (mDrop (mMeth isLst dAppend (mVar 8) (mCons (mOp2 dAdd (mOp2 dAdd (mOp2 dAdd (mOp2 dAdd (mOp2 dAdd (mOp2 dAdd (mOpA dStr (mCons (mVar 1) mNil)) (mC (.str ":"))) (mVar 7)) (mC (.str ":"))) (mVar 2)) (mC (.str "#0"))) (mOpA dStr (mCons (mCall 1 m__law_check (mCons (mOp2 dAdd (mOp2 dAdd (mOp2 dAdd (mOp2 dAdd (mOpA dStr (mCons (mVar 1) mNil)) (mC (.str ":"))) (mVar 7)) (mC (.str ":"))) (mVar 2)) mNil)) mNil))) mNil)))
  (mRet (mOp2 dEq (mNew (mLc [11] (mItAny (mVar 8)) (gmName 11) (mTst (mOp2 dIsNot (mCall 1 m__law_read (mCons (mVar 11) mNil)) (mC .non))) (mVar 11))) (mNew (mLst mNil))))))))))))) [a0, some (.int (n : Nat)), some (T p), some (T (line n p)), y4, y5, y6, none, none, none, none, none] S1 = .rt (.bl true) (S1 ++ cs) := by
  have hl := hp.pv.len
  have hsg : ∀ c ∈ p, c < 1000 := fun c hc => by have := hp.pv.sg c hc; omega
  have l1 := line_len hn hp.pv
  have n1 : (numL n).length ≤ 20 := numL_sm (by omega)
  have n2 : (numL p.length).length ≤ 20 := numL_sm (by omega)
  have dlp : ∀ S, dLen [T p] S = .ok (.int (p.length : Nat)) S := fun S => dLen_T (by omega)
  have dn : ∀ S, dStr [.int (n : Nat)] S = .ok (T (numL n)) S := fun S => dStr_num (by omega)
  have dll : ∀ S, dStr [.int (p.length : Nat)] S = .ok (T (numL p.length)) S := fun S => dStr_num (by omega)
  have nn : ∀ m, ∀ c ∈ numL m, c < 1000 := fun m c hc => num_lt hc
  have k58 : ∀ c ∈ ([58] : List Nat), c < 1000 := by decide
  -- the fronts
  obtain ⟨f13, hf13⟩ : ∃ f, f = numL n ++ [58, 48] ++ numL p.length ++ [58] ++ p := ⟨_, rfl⟩
  have g13 : Sm f13 := hf13 ▸ fr_sm (by omega) (by omega) (by omega) (by decide) (by decide) (nn _) (nn _) hsg (by decide) k58
  have q13 : f13.length ≤ 4900 := hf13 ▸ fr_len (by omega) (by omega) (by omega) (by decide) (by decide)
  have o13 : ¬ Img (hs f13) := by
    have := out_count0 n p.length (p ++ 35 :: numL (chk f13))
    subst hf13
    simpa [hs] using this
  have n14 : (numL (p.length + 1)).length ≤ 20 := numL_sm (by omega)
  obtain ⟨f14, hf14⟩ : ∃ f, f = numL n ++ [58] ++ numL (p.length + 1) ++ [58] ++ p := ⟨_, rfl⟩
  have g14 : Sm f14 := hf14 ▸ fr_sm (by omega) (by omega) (by omega) (by decide) (by decide) (nn _) (nn _) hsg k58 k58
  have q14 : f14.length ≤ 4900 := hf14 ▸ fr_len (by omega) (by omega) (by omega) (by decide) (by decide)
  have o14 : ¬ Img (hs f14) := by
    have := out_more n (p.length + 1) (chk f14) p (.inl rfl)
    subst hf14
    simpa [hs] using this
  obtain ⟨b15, hb15, eb15, sb15, ob15⟩ : ∃ b : List Nat, (∀ S, dStr [.int ((p.length : Nat) - 1)] S = .ok (T b) S) ∧ b.length ≤ 20 ∧ (∀ c ∈ b, c < 1000) ∧ (∀ c, ¬ Img (numL n ++ 58 :: (b ++ 58 :: (p ++ 35 :: numL c)))) := by
    cases e : p.length with
    | zero => exact ⟨[45, 49], fun S => dStr_neg1 S, by decide, by decide, fun c => out_neg n [49] _ (by decide)⟩
    | succ m => exact ⟨numL m, fun S => by rw [show (((m + 1 : Nat) : Int) - 1) = ((m : Nat) : Int) by omega]; exact dStr_num (by omega), numL_sm (by omega), nn m, fun c => out_more n m c p (.inr e.symm)⟩
  obtain ⟨f15, hf15⟩ : ∃ f, f = numL n ++ [58] ++ b15 ++ [58] ++ p := ⟨_, rfl⟩
  have g15 : Sm f15 := hf15 ▸ fr_sm (by omega) (by omega) (by omega) (by decide) (by decide) (nn _) sb15 hsg k58 k58
  have q15 : f15.length ≤ 4900 := hf15 ▸ fr_len (by omega) (by omega) (by omega) (by decide) (by decide)
  have o15 : ¬ Img (hs f15) := by
    have := ob15 (chk f15)
    subst hf15
    simpa [hs] using this
  -- two payloads that are none
  obtain ⟨p16, hp16⟩ : ∃ q, q = p ++ List.replicate (301 - p.length) 120 := ⟨_, rfl⟩
  have l16 : p16.length = 301 := by rw [hp16]; simp; omega
  have s16 : ∀ c ∈ p16, c < 1000 := fun c hc => by
    rw [hp16] at hc
    rcases List.mem_append.mp hc with z | z
    · exact hsg c z
    · rw [(List.mem_replicate.mp z).2]; decide
  have b16 : ¬ PV p16 := fun z => by have := z.len; omega
  obtain ⟨p17, hp17⟩ : ∃ q, q = p.take 200 ++ [9] := ⟨_, rfl⟩
  have l17 : p17.length ≤ 201 := by rw [hp17]; simp; omega
  have s17 : ∀ c ∈ p17, c < 1000 := fun c hc => by
    rw [hp17] at hc
    rcases List.mem_append.mp hc with z | z
    · exact hsg c (List.mem_of_mem_take z)
    · rw [List.mem_singleton.mp z]; decide
  have b17 : ¬ PV p17 := fun z => by have := z.sg 9 (by rw [hp17]; simp); omega
  have fr : ∀ q : List Nat, q.length ≤ 301 → (∀ c ∈ q, c < 1000) → ¬ PV q → ∃ f, f = numL n ++ [58] ++ numL q.length ++ [58] ++ q ∧ Sm f ∧ f.length ≤ 4900 ∧ ¬ Img (hs f) := fun q hq sq bq => by
    have nq : (numL q.length).length ≤ 20 := numL_sm (by omega)
    refine ⟨_, rfl, fr_sm (by omega) (by omega) (by omega) (by decide) (by decide) (nn _) (nn _) sq k58 k58, fr_len (by omega) (by omega) (by omega) (by decide) (by decide), ?_⟩
    have := out_pay n (chk (numL n ++ [58] ++ numL q.length ++ [58] ++ q)) q bq
    simpa [hs] using this
  obtain ⟨f16, hf16, g16, q16, o16⟩ := fr p16 (by omega) s16 b16
  obtain ⟨f17, hf17, g17, q17, o17⟩ := fr p17 (by omega) s17 b17
  have n18 : (numL 1000000001).length ≤ 20 := numL_sm (by decide)
  obtain ⟨f18, hf18⟩ : ∃ f, f = numL 1000000001 ++ [58] ++ numL p.length ++ [58] ++ p := ⟨_, rfl⟩
  have g18 : Sm f18 := hf18 ▸ fr_sm (by omega) (by omega) (by omega) (by decide) (by decide) (nn _) (nn _) hsg k58 k58
  have q18 : f18.length ≤ 4900 := hf18 ▸ fr_len (by omega) (by omega) (by omega) (by decide) (by decide)
  have o18 : ¬ Img (hs f18) := by
    have := out_number 1000000001 (by decide) (numL p.length ++ [58] ++ p ++ 35 :: numL (chk f18))
    subst hf18
    simpa [hs] using this
  have d18 : ∀ S, dStr [.int 1000000001] S = .ok (T (numL 1000000001)) S := fun S => dStr_num (n := 1000000001) (by decide)
  obtain ⟨N0, hN0⟩ : ∃ N, N = near0 n p := ⟨_, rfl⟩
  have lN0 : N0.length = 12 := by rw [hN0]; rfl
  have k0 := near0_ok hn hp
  rw [← hN0] at k0
  have m0 : (mCons (mOp2 dAdd (mVar 3) (mC (.str " "))) (mCons (mOp2 dAdd (mC (.str " ")) (mVar 3)) (mCons (mOp2 dAdd (mC (.str "0")) (mVar 3)) (mCons (mOp2 dAdd (mVar 3) (mC (.str "\n"))) (mCons (mOp2 dAdd (mC (.str "\n")) (mVar 3)) (mCons (mC (.str "")) (mCons (mSl dSl (mVar 3) mNoP (mP (mOp1 dNeg (mC (.int 1))))) (mCons (mOp2 dAdd (mVar 3) (mC (.str "0"))) (mCons (mOp2 dAdd (mC (.str "-")) (mVar 3)) (mCons (mOp2 dAdd (mC (.str "+")) (mVar 3)) (mCons (mRep1 58 "::" (mVar 3)) (mCons (mRep1 58 "" (mVar 3)) mNil)))))))))))) [a0, some (.int (n : Nat)), some (T p), some (T (line n p)), y4, y5, y6, some (T (numL p.length)), none, none, none, none] S1 = .ok (N0.map T) S1 := by
    rw [hN0]
    have v3 : mVar 3 [a0, some (.int (n : Nat)), some (T p), some (T (line n p)), y4, y5, y6, some (T (numL p.length)), none, none, none, none] S1 = .ok (T (line n p)) S1 := v_var rfl
    have ne : line n p ≠ [] := fun z => by have := line_pos (n := n) (p := p); rw [z] at this; exact absurd this (by decide)
    exact v_cons (v_add v3 (v_cs sp_e) (by simp; omega)) (v_cons (v_add (v_cs sp_e) v3 (by simp; omega)) (v_cons (v_add (v_cs zero_e) v3 (by simp; omega)) (v_cons (v_add v3 (v_cs nl_stL) (by simp; omega)) (v_cons (v_add (v_cs nl_stL) v3 (by simp; omega)) (v_cons (v_cs nil_stL) (v_cons (v_sl v3 v_noP (v_p (j := -1) (v_op1 v_c rfl)) (sl_last (by omega) ne S1)) (v_cons (v_add v3 (v_cs zero_e) (by simp; omega)) (v_cons (v_add (v_cs min_e) v3 (by simp; omega)) (v_cons (v_add (v_cs plus_e) v3 (by simp; omega)) (v_cons (rep_lineS [58, 58] cc_e v3 (by omega)) (v_cons (rep_lineS [] nil_stL v3 (by omega)) v_nil)))))))))))
  obtain ⟨cs, hcs⟩ := near_tail hn hp.pv S1 (N0 ++ [f13 ++ 35 :: numL (chk f13)] ++ [f14 ++ 35 :: numL (chk f14)] ++ [f15 ++ 35 :: numL (chk f15)] ++ [f16 ++ 35 :: numL (chk f16)] ++ [f17 ++ 35 :: numL (chk f17)] ++ [f18 ++ 35 :: numL (chk f18)]) a0 (some (T (line n p))) y4 y5 y6 (some (T f18)) (some (.int ((p.length : Nat) - 1))) (some (T p17)) (fun M hM => by
    simp only [List.mem_append, List.mem_singleton] at hM
    rcases hM with (((((h | rfl) | rfl) | rfl) | rfl) | rfl) | rfl
    · exact k0 M h
    · exact ⟨hs_sm q13 g13, o13⟩
    · exact ⟨hs_sm q14 g14, o14⟩
    · exact ⟨hs_sm q15 g15, o15⟩
    · exact ⟨hs_sm q16 g16, o16⟩
    · exact ⟨hs_sm q17 g17, o17⟩
    · exact ⟨hs_sm q18 g18, o18⟩) (by simp; omega)
  refine ⟨cs, ?_⟩
  refine w_seq (w_set (v_opA (v_cons (v_opA (v_cons (v_var rfl) v_nil) (dlp _)) v_nil) (dll _))) ?_
  refine w_seq (w_set (v_new (v_lst m0 (by rw [List.length_map]; omega)))) ?_
  refine w_seq3 (near_step (f := f13) (by simp) rfl (by rw [hf13]; exact v_front (v_opA (v_cons (v_var rfl) v_nil) (dn _)) c0_e (v_var rfl) colon_stL (v_var rfl) (by simp; omega)) g13 (by omega)) ?_
  refine w_seq (w_for (w := ⟨[.int ((p.length : Nat) + 1), .int ((p.length : Nat) - 1)], fun _ => True⟩) (by
    unfold mItAny
    rw [v_tup (v_cons (v_op2 (v_opA (v_cons (v_var rfl) v_nil) (dlp _)) v_c rfl) (v_cons (v_op2 (v_opA (v_cons (v_var rfl) v_nil) (dlp _)) v_c rfl) v_nil)) (by simp), Res.bind_ok]) (fG_cons rfl (near_step (f := f14) (by simp) rfl (by rw [hf14]; exact v_front (v_opA (v_cons (v_var rfl) v_nil) (dn _)) colon_stL (v_opA (v_cons (v_var rfl) v_nil) (dStr_num (n := p.length + 1) (by omega))) colon_stL (v_var rfl) (by simp; omega)) g14 (by simp; omega)) (fG_cons rfl (near_step (f := f15) (by simp) rfl (by rw [hf15]; exact v_front (v_opA (v_cons (v_var rfl) v_nil) (dn _)) colon_stL (v_opA (v_cons (v_var rfl) v_nil) (hb15 _)) colon_stL (v_var rfl) (by simp; omega)) g15 (by simp; omega)) fG_nil))) ?_
  refine w_seq (w_for (w := ⟨[T p16, T p17], fun _ => True⟩) (by
    unfold mItAny
    rw [v_tup (ds := [T p16, T p17]) (v_cons (by rw [hp16]; exact v_add (v_var rfl) (v_op2 (v_cs x_e) (v_op2 v_c (v_opA (v_cons (v_var rfl) v_nil) (dlp _)) rfl) (by rw [show ((301 : Int) - (p.length : Nat)) = ((301 - p.length : Nat) : Int) by omega]; exact mul_sgn 120 _ _ (by omega))) (by simp; omega)) (v_cons (by rw [hp17]; exact v_add (v_sl (v_var rfl) v_noP (v_p v_c) (sl_to (a := 200) (by omega) _)) (v_cs tab_e) (by simp; omega)) v_nil)) (by simp), Res.bind_ok]) (fG_cons rfl (near_step (f := f16) (by simp) rfl (by rw [hf16]; exact v_front (v_opA (v_cons (v_var rfl) v_nil) (dn _)) colon_stL (v_opA (v_cons (v_opA (v_cons (v_var rfl) v_nil) (dLen_T (by omega))) v_nil) (dStr_num (by omega))) colon_stL (v_var rfl) (by have : (numL p16.length).length ≤ 20 := numL_sm (by omega); simp; omega)) g16 (by simp; omega)) (fG_cons rfl (near_step (f := f17) (by simp) rfl (by rw [hf17]; exact v_front (v_opA (v_cons (v_var rfl) v_nil) (dn _)) colon_stL (v_opA (v_cons (v_opA (v_cons (v_var rfl) v_nil) (dLen_T (by omega))) v_nil) (dStr_num (by omega))) colon_stL (v_var rfl) (by have : (numL p17.length).length ≤ 20 := numL_sm (by omega); simp; omega)) g17 (by simp; omega)) fG_nil))) ?_
  refine w_seq3 (near_step (f := f18) (by simp) rfl (by rw [hf18]; exact v_front (v_opA (v_cons (v_op2 (v_op2 v_c v_c rfl) v_c rfl) v_nil) (d18 _)) colon_stL (v_var rfl) colon_stL (v_var rfl) (by simp; omega)) g18 (by simp; omega)) ?_
  exact hcs
end K51
end FW

set_option Elab.async false
set_option linter.all false
set_option maxRecDepth 100000
set_option maxHeartbeats 4000000
namespace FW
namespace K51
open PySem TL
theorem Ex.app {i : Nat} {S S1 : SS} (h : Ex i S S1) (cs : List Cell) : Ex i S (S1 ++ cs) := ⟨by rw [List.length_append]; have := h.le; omega, fun j hj hn => by rw [List.getElem?_append_left (Nat.lt_of_lt_of_le hj h.le)]; exact h.keep j hj hn, by
  have hl := h.dz.lt
  obtain ⟨a, b, e, r⟩ := h.dz
  exact ⟨a, b, by rw [List.getElem?_append_left hl]; exact e, r⟩⟩
theorem pvb_true {p : List Nat} (h : PV p) : pvb p = true := pvb_iff.mpr h
theorem run_fr {i n : Nat} {p : List Nat} {S : SS} (h : Dz S i) (hn : n ≤ 1000000000) (hp : PayOk p) : ∃ S', m__law_frame_right [.obj i, .int (n : Nat), T p] S = .ok (.bl true) S' ∧ Ex i S S' := by
  obtain ⟨y4, y5, y6, S1, e1, x1⟩ := run_turns hn hp.pv (tl := [none, none, none, none, none]) (rngD 0 30) S none none none h
  obtain ⟨cs, e2⟩ := near_rest hn hp S1 (some (.obj i)) y4 y5 y6
  obtain ⟨S', e3, x3⟩ := gc_ex (d := .bl true) (x1.app cs) h.lt rfl
  have hl := line_len hn hp.pv
  have sl := line_sm' hn hp.pv
  have s10 : Sm (line n p ++ [10]) := Sm.app (by simp; omega) sl.sg (by decide)
  have pl : Sm p := ⟨by have := hp.pv.len; omega, fun c hc => by have := hp.pv.sg c hc; omega⟩
  refine ⟨S', (w_fn (body := b__law_frame_right) (ds := [.obj i, .int (n : Nat), T p]) (n := 3) (N := 12) rfl ?_).trans e3, x3⟩
  refine w_seq (w_set (v_call (v_cons (v_var rfl) (v_cons (v_var rfl) v_nil)) rfl (run_law_line hn hp.pv S))) ?_
  refine w_seq (S1 := S) (w_if_f (S1 := S) ?_ w_next) ?_
  · refine (v_or_f (v_tst (v_op2 (v_call (v_cons (v_var rfl) (v_cons (v_var rfl) v_nil)) rfl (run_frame hn hp.pv S)) (v_add (v_var rfl) (v_cs nl_stL) (by simp; omega)) ((dNe_str _ _ S s10 s10).trans (by simp; rfl))))).trans ?_
    refine (v_or_f (v_tst (v_op2 (v_call (v_cons (v_var rfl) v_nil) rfl (run_read_in hn hp.pv S)) (v_tup (v_cons (v_var rfl) (v_cons (v_var rfl) v_nil)) (by simp)) (ne_pair pl S)))).trans ?_
    exact v_tst (v_op2 (v_call (v_cons (v_var rfl) v_nil) rfl ((run_is_payload pl S).trans (by rw [pvb_true hp.pv]))) v_c rfl)
  · refine w_seq (w_for (it_rng (k := 30) (v_cons v_c v_nil) (by decide)) e1) ?_
    exact e2
theorem run_nine {i : Nat} {tl : En} : ∀ (ds : List D) (S : SS) (x1 : Option D), Dz S i → ∃ y1 S', forGoW (fun _ => True) (gmName 1) (mIfS (mNot (mTst (mCall 3 m__law_frame_right (mCons (mVar 0) (mCons (mCall 1 m__law_number (mCons (mVar 0) mNil)) (mCons (mCall 1 m__law_payload (mCons (mVar 0) mNil)) mNil)))))) (mRet (mC (.bl false))) mNext) ds ([some (.obj i), x1] ++ tl) S = .nx ([some (.obj i), y1] ++ tl) S' ∧ Ex i S S'
  | [], S, x1, h => ⟨x1, S, fG_nil, Ex.refl h⟩
  | d :: ds, S, x1, h => by
    obtain ⟨n, S1, e1, hn, q1⟩ := run_number h
    obtain ⟨p, S2, e2, hp, q2⟩ := run_payload q1.dz
    obtain ⟨S3, e3, q3⟩ := run_fr q2.dz hn hp
    obtain ⟨y1, S4, e4, q4⟩ := run_nine (tl := tl) ds S3 (some d) q3.dz
    exact ⟨y1, S4, fG_cons rfl (w_if_f (v_not (v_tst (v_call (v_cons (v_var rfl) (v_cons (v_call (v_cons (v_var rfl) v_nil) rfl e1) (v_cons (v_call (v_cons (v_var rfl) v_nil) rfl e2) v_nil))) rfl e3))) w_next) e4, ((q1.trans q2).trans q3).trans q4⟩
/-! ### dice made -/
theorem gc_dz {n j : Nat} {S1 : SS} {a b : Int} (e : S1[j]? = some (.lst [.int a, .int b])) (ha : 0 ≤ a) (hb : 0 ≤ b) (hb2 : b < 2 ^ 100) : ∃ i' S', gc n (.obj j) S1 = .ok (.obj i') S' ∧ Dz S' i' := by
  unfold gc
  by_cases c : clS n (S1.take n) = true
  · rw [if_pos c]
    by_cases hj : j < n
    · rw [if_pos (show clD n (.obj j) = true from decide_eq_true hj)]
      exact ⟨j, _, rfl, a, b, by rw [List.getElem?_take_of_lt hj]; exact e, ha, hb, hb2⟩
    · rw [if_neg (by show ¬ decide (j < n) = true; simpa using hj)]
      have hl : j < S1.length := (List.getElem?_eq_some_iff.mp e).1
      refine ⟨n, S1.take n ++ [.lst [.int a, .int b]], ?_, a, b, ?_, ha, hb, hb2⟩
      · show (match S1[j]? with
          | some c => if clC n c = true then Res.ok (D.obj n) (S1.take n ++ [c]) else .ok (.obj j) S1
          | none => .ok (.obj j) S1) = _
        rw [e]
        rfl
      · have : (S1.take n).length = n := by rw [List.length_take]; omega
        rw [List.getElem?_append_right (by omega), this]
        simp
  · rw [if_neg c]
    exact ⟨j, _, rfl, a, b, e, ha, hb, hb2⟩
end K51
end FW

set_option Elab.async false
set_option linter.all false
set_option maxRecDepth 100000
set_option maxHeartbeats 4000000
namespace FW
namespace K51
open PySem TL
/-! ### the dice and the law -/
theorem abs_nn (c : Int) : 0 ≤ (if c < 0 then -c else c) := by split <;> omega
theorem dice_tail {c : Int} {s : Nat} (hs : s < 10) (S : SS) (d0 : D) : ∃ a b : Int, 0 ≤ a ∧ 0 ≤ b ∧ b < 2 ^ 100 ∧ (mSeq (mSet 3 (mOp2 dMod (mOpA dInt (mCons (mOpA dAbs (mCons (mVar 2) mNil)) mNil)) (mOp2 dPow (mOp2 dPow (mC (.int 10)) (mC (.int 59))) (mC (.int 5)))))
  (mRet (mNew (mLst (mCons (mOpA dMax (mCons (mC (.int 0)) (mCons (mOp2 dSub (mVar 3) (mOp2 dPow (mC (.int 10)) (mC (.int 17)))) mNil))) (mCons (mOp2 dAdd (mOp2 dAdd (mOp2 dMul (mOp2 dMod (mOpA dInt (mCons (mVar 3) mNil)) (mC (.int 18446744073709551557))) (mC (.int 8))) (mOp2 dMul (mC (.int 4)) (mOpA dInt (mCons (mOp2 dLt (mVar 2) (mC (.int 0))) mNil)))) (mVar 1)) mNil)))))) [some d0, some (.int (s : Nat)), some (.int c), none] S = .rt (.obj S.length) (S ++ [.lst [.int a, .int b]]) := by
  obtain ⟨M, hM⟩ : ∃ M : Int, M = (10 ^ 59) ^ 5 := ⟨_, rfl⟩
  have hM0 : 0 < M := by rw [hM]; decide
  have p1 : dPow (.int 10) (.int 59) S = .ok (.int (10 ^ 59)) S := by
    show (if (0 : Int) ≤ 59 ∧ (Builtin.Int.intBits 10 : Int) * 59 ≤ 100000000 then Res.ok (D.int (10 ^ (59 : Int).toNat)) S else .stk) = _
    rw [if_pos (by decide)]
    rfl
  have p2 : dPow (.int (10 ^ 59)) (.int 5) S = .ok (.int M) S := by
    show (if (0 : Int) ≤ 5 ∧ (Builtin.Int.intBits (10 ^ 59) : Int) * 5 ≤ 100000000 then Res.ok (D.int ((10 ^ 59) ^ (5 : Int).toNat)) S else .stk) = _
    rw [if_pos (by decide +kernel), hM]
    rfl
  have p3 : dPow (.int 10) (.int 17) S = .ok (.int 100000000000000000) S := by
    show (if (0 : Int) ≤ 17 ∧ (Builtin.Int.intBits 10 : Int) * 17 ≤ 100000000 then Res.ok (D.int (10 ^ (17 : Int).toNat)) S else .stk) = _
    rw [if_pos (by decide)]
    rfl
  obtain ⟨g, hg⟩ : ∃ g : Int, g = (if c < 0 then -c else c) % M := ⟨_, rfl⟩
  have d1 : dMod (.int (if c < 0 then -c else c)) (.int M) S = .ok (.int g) S := by
    show (if (0 : Int) < M then Res.ok (D.int ((if c < 0 then -c else c) % M)) S else .stk) = _
    rw [if_pos hM0, hg]
  obtain ⟨m, hm⟩ : ∃ m : Int, m = g % 18446744073709551557 := ⟨_, rfl⟩
  have m0 : 0 ≤ m := by rw [hm]; exact Int.emod_nonneg _ (by decide)
  have m1 : m < 18446744073709551557 := by rw [hm]; exact Int.emod_lt_of_pos _ (by decide)
  have d2 : dMod (.int g) (.int 18446744073709551557) S = .ok (.int m) S := by
    show (if (0 : Int) < 18446744073709551557 then Res.ok (D.int (g % 18446744073709551557)) S else .stk) = _
    rw [if_pos (by decide), hm]
  have d3 : dMul (.int m) (.int 8) S = .ok (.int (m * 8)) S := by
    obtain ⟨k, rfl⟩ : ∃ k : Nat, m = (k : Nat) := ⟨m.toNat, by omega⟩
    show (if ((k : Nat) : Int).natAbs.log2 + (8 : Int).natAbs.log2 < 1000000 then Res.ok (D.int ((k : Nat) * 8)) S else .stk) = _
    exact if_pos (mul_fit (i := k) (j := 8) (by omega) (by decide))
  obtain ⟨w, hw, w0, w1⟩ : ∃ w : Int, (∀ S, mOp2 dMul (mC (.int 4)) (mOpA dInt (mCons (mOp2 dLt (mVar 2) (mC (.int 0))) mNil)) [some d0, some (.int (s : Nat)), some (.int c), some (.int g)] S = .ok (.int w) S) ∧ 0 ≤ w ∧ w ≤ 4 := by
    by_cases hc : c < 0
    · refine ⟨4, fun S => v_op2 v_c (v_opA (v_cons (v_op2 (v_var rfl) v_c rfl) v_nil) rfl) ?_, by decide, by decide⟩
      show (dMul (.int 4) (.int (if decide (c < 0) = true then 1 else 0)) S) = _
      rw [decide_eq_true hc]
      rfl
    · refine ⟨0, fun S => v_op2 v_c (v_opA (v_cons (v_op2 (v_var rfl) v_c rfl) v_nil) rfl) ?_, by decide, by decide⟩
      show (dMul (.int 4) (.int (if decide (c < 0) = true then 1 else 0)) S) = _
      rw [decide_eq_false hc]
      rfl
  refine ⟨if g - 100000000000000000 > 0 then g - 100000000000000000 else 0, m * 8 + w + (s : Nat), by split <;> omega, by omega, by omega, ?_⟩
  refine w_seq (w_set (v_op2 (v_opA (v_cons (v_opA (v_cons (v_var rfl) v_nil) rfl) v_nil) rfl) (v_op2 (v_op2 v_c v_c p1) v_c p2) d1)) ?_
  refine w_ret (v_new (v_lst (v_cons (v_opA (v_cons v_c (v_cons (v_op2 (v_var rfl) (v_op2 v_c v_c p3) rfl) v_nil)) rfl) (v_cons (v_op2 (v_op2 (v_op2 (v_op2 (v_opA (v_cons (v_var rfl) v_nil) rfl) v_c d2) v_c d3) (hw S) rfl) (v_var rfl) rfl) v_nil)) (by simp)))
theorem run_dice {ns : List Int} {s : Nat} (hs : s < 10) (h : s < ns.length ∨ ns = []) (S : SS) : ∃ i S', m__law_dice [.fz (ns.map D.int), .int (s : Nat)] S = .ok (.obj i) S' ∧ Dz S' i := by
  by_cases hl : s < ns.length
  · obtain ⟨a, b, ha, hb, hb2, e⟩ := dice_tail (c := ns[s]) hs S (.fz (ns.map D.int))
    obtain ⟨i, S', eg, dz⟩ := gc_dz (n := S.length) (S1 := S ++ [.lst [.int a, .int b]]) last_get ha hb hb2
    refine ⟨i, S', (w_fn (body := b__law_dice) (ds := [.fz (ns.map D.int), .int (s : Nat)]) (n := 2) (N := 4) rfl ?_).trans eg, dz⟩
    have dl : dLen [.fz (ns.map D.int)] S = .ok (.int (ns.length : Nat)) S := by
      show Res.ok (D.int ((ns.map D.int).length : Nat)) S = _
      rw [List.length_map]
    have ix : dIx (.fz (ns.map D.int)) (.int (s : Nat)) S = .ok (.int ns[s]) S := by
      show (match L2.atI (ns.map D.int) (s : Nat) with
        | some d => Res.ok d S
        | none => .stk) = _
      rw [atI_nat (by rw [List.length_map]; exact hl), List.getElem_map]
    refine w_seq (w_set ((v_if_t (v_tst (v_op2 (v_var rfl) (v_opA (v_cons (v_var rfl) v_nil) dl) ?_))).trans (v_opA (v_cons (v_op2 (v_var rfl) (v_var rfl) ix) v_nil) rfl))) e
    show Res.ok (D.bl (decide (((s : Nat) : Int) < ((ns.length : Nat) : Int)))) S = _
    rw [decide_eq_true (by omega)]
  · have hn : ns = [] := h.resolve_left hl
    subst hn
    obtain ⟨a, b, ha, hb, hb2, e⟩ := dice_tail (c := 719 * (s : Nat) + 83 + 0) hs (S ++ [.lst []]) (.fz [])
    obtain ⟨i, S', eg, dz⟩ := gc_dz (n := S.length) (S1 := (S ++ [.lst []]) ++ [.lst [.int a, .int b]]) last_get ha hb hb2
    refine ⟨i, S', (w_fn (body := b__law_dice) (ds := [.fz (([] : List Int).map D.int), .int (s : Nat)]) (n := 2) (N := 4) rfl ?_).trans eg, dz⟩
    have sm : dSumO [.obj S.length] (S ++ [.lst []]) = .ok (.int 0) (S ++ [.lst []]) := by
      show (match (S ++ [Cell.lst []])[S.length]? with
        | some (.lst xs) => dSum xs (S ++ [Cell.lst []])
        | _ => .stk) = _
      rw [last_get]
      rfl
    have mu : dMul (.int 719) (.int (s : Nat)) S = .ok (.int (719 * (s : Nat))) S := by
      show (if (719 : Int).natAbs.log2 + ((s : Nat) : Int).natAbs.log2 < 1000000 then Res.ok (D.int (719 * (s : Nat))) S else .stk) = _
      exact if_pos (mul_fit (i := 719) (j := s) (by decide) (by omega))
    refine w_seq (w_set ((v_if_f (v_tst (v_op2 (v_var rfl) (v_opA (v_cons (v_var rfl) v_nil) rfl) ?_))).trans (v_op2 (v_op2 (v_op2 v_c (v_var rfl) mu) v_c rfl) (v_op2 (v_opA (v_cons (v_opA (v_cons (v_sl (v_var rfl) v_noP (v_p v_c) rfl) v_nil) sm) v_nil) rfl) v_c rfl) rfl))) e
    show Res.ok (D.bl (decide (((s : Nat) : Int) < ((0 : Nat) : Int)))) S = _
    rw [decide_eq_false (by omega)]
/-- the law, when each dice is right -/
theorem law_of (hR : ∀ (i : Nat) (S : SS), Dz S i → ∃ S', m__law_right [.obj i] S = .ok (.bl true) S') (ns : List Int) : ∃ S, m_law [.fz (ns.map D.int)] [] = .ok (.bl true) S := by
  have turn : ∀ (s : Nat) (S : SS) (x2 : Option D), s < 10 → (s < ns.length ∨ ns = []) → ∃ y2 S', (mSeq (mSet 2 (mCall 2 m__law_dice (mCons (mVar 0) (mCons (mVar 1) mNil))))
  (mIfS (mNot (mTst (mCall 1 m__law_right (mCons (mVar 2) mNil)))) (mRet (mC (.bl false))) mNext)) [some (.fz (ns.map D.int)), some (.int (s : Nat)), x2] S = .nx [some (.fz (ns.map D.int)), some (.int (s : Nat)), y2] S' := fun s S x2 hs h => by
    obtain ⟨i, S1, e1, dz⟩ := run_dice hs h S
    obtain ⟨S2, e2⟩ := hR i S1 dz
    exact ⟨some (.obj i), S2, w_seq (w_set (v_call (v_cons (v_var rfl) (v_cons (v_var rfl) v_nil)) rfl e1)) (w_if_f (v_not (v_tst (v_call (v_cons (v_var rfl) v_nil) rfl e2))) w_next)⟩
  obtain ⟨k, hk, hk2, ek⟩ : ∃ k : Nat, (k = 1 ∨ k = 2) ∧ (∀ s, s < k → s < ns.length ∨ ns = []) ∧ mOpA dMax (mCons (mC (.int 1)) (mCons (mOpA dMin (mCons (mC (.int 2)) (mCons (mOpA dLen (mCons (mVar 0) mNil)) mNil))) mNil)) [some (.fz (ns.map D.int)), none, none] [] = .ok (.int (k : Nat)) [] := by
    have dl : dLen [.fz (ns.map D.int)] [] = .ok (.int (ns.length : Nat)) [] := by
      show Res.ok (D.int ((ns.map D.int).length : Nat)) [] = _
      rw [List.length_map]
    have ee : mOpA dMax (mCons (mC (.int 1)) (mCons (mOpA dMin (mCons (mC (.int 2)) (mCons (mOpA dLen (mCons (mVar 0) mNil)) mNil))) mNil)) [some (.fz (ns.map D.int)), none, none] [] = .ok (.int (if (if ((ns.length : Nat) : Int) < 2 then ((ns.length : Nat) : Int) else 2) > 1 then (if ((ns.length : Nat) : Int) < 2 then ((ns.length : Nat) : Int) else 2) else 1)) [] := v_opA (v_cons v_c (v_cons (v_opA (v_cons v_c (v_cons (v_opA (v_cons (v_var rfl) v_nil) dl) v_nil)) rfl) v_nil)) rfl
    by_cases h2 : 2 ≤ ns.length
    · refine ⟨2, .inr rfl, fun s hs => .inl (by omega), ee.trans ?_⟩
      rw [if_neg (show ¬ ((ns.length : Nat) : Int) < 2 by omega)]
      rfl
    · refine ⟨1, .inl rfl, fun s hs => ?_, ee.trans ?_⟩
      · cases ns with
        | nil => exact .inr rfl
        | cons x xs => exact .inl (by simp; omega)
      · rw [if_pos (show ((ns.length : Nat) : Int) < 2 by omega), if_neg (by omega)]
        rfl
  have it := it_rng (v_cons ek v_nil) (by omega)
  have fin : ∀ (y1 y2 : Option D) (S : SS), forGoW (fun _ => True) (gmName 1) (mSeq (mSet 2 (mCall 2 m__law_dice (mCons (mVar 0) (mCons (mVar 1) mNil))))
  (mIfS (mNot (mTst (mCall 1 m__law_right (mCons (mVar 2) mNil)))) (mRet (mC (.bl false))) mNext)) (rngD 0 k) [some (.fz (ns.map D.int)), none, none] [] = .nx [some (.fz (ns.map D.int)), y1, y2] S → ∃ S, m_law [.fz (ns.map D.int)] [] = .ok (.bl true) S := fun y1 y2 S e => by
    have r : b_law [some (.fz (ns.map D.int)), none, none] [] = .rt (.bl true) S := w_seq (w_for it e) (w_ret v_c)
    obtain ⟨S', e'⟩ : ∃ S', gc 0 (.bl true) S = .ok (.bl true) S' := by
      unfold gc
      by_cases c : clS 0 (S.take 0) = true
      · rw [if_pos c, if_pos (show clD 0 (.bl true) = true from rfl)]; exact ⟨_, rfl⟩
      · rw [if_neg c]; exact ⟨_, rfl⟩
    exact ⟨S', (w_fn (body := b_law) (ds := [.fz (ns.map D.int)]) (n := 1) (N := 3) (S := []) rfl r).trans e'⟩
  obtain ⟨y2, S1, e1⟩ := turn 0 [] none (by decide) (hk2 0 (by omega))
  rcases hk with rfl | rfl
  · exact fin _ _ _ (fG_cons rfl e1 fG_nil)
  · obtain ⟨z2, S2, e2⟩ := turn 1 S1 y2 (by decide) (hk2 1 (by decide))
    exact fin _ _ _ (fG_cons rfl e1 (fG_cons rfl e2 fG_nil))
end K51
end FW

set_option Elab.async false
set_option linter.all false
set_option maxRecDepth 100000
set_option maxHeartbeats 4000000
namespace FW
namespace K51
open PySem TL
theorem pd_cell {S : SS} {j n : Nat} {xs : List D} {ps : List PyData} (e : S[j]? = some (.lst xs)) (h : xs.mapM (pd n S) = some ps) : pd (n + 1) S (.obj j) = some (.list ps) := by
  show (match S[j]? with
    | some (.lst xs) => (xs.mapM (pd n S)).map PyData.list
    | _ => none) = _
  rw [e]
  show (xs.mapM (pd n S)).map PyData.list = _
  rw [h]
  rfl
theorem cells_eq {S : SS} {j k : Nat} {xs : List D} {ps : List PyData} {g : Bool → Bool} (hj : S[j]? = some (.lst xs)) (hk : S[k]? = some (.lst xs)) (h : xs.mapM (pd 65 S) = some ps) (hs : SeqAt.shaped (.list ps) = true) : dEqB (.obj j) (.obj k) S g = .ok (.bl (g true)) S := by
  unfold dEqB
  rw [pd_cell hj h, pd_cell hk h]
  show (if SeqAt.shaped (.list ps) = true ∧ SeqAt.shaped (.list ps) = true then Res.ok (D.bl (g (PyData.eqv (.list ps) (.list ps)))) S else .stk) = _
  rw [if_pos ⟨hs, hs⟩, SeqAt.eqv_refl _ (SeqAt.canLay_of_shaped hs)]
/-- a comprehension over values told one by one, no state changed -/
theorem lc_all {it : MI} {t : MT} {el : ME} {env : En} {S : SS} {w : Itm} {b : Bool} {f : D → D} (hi : it env S = .ok w S) (hk : w.keep S) (ht : ∀ d ∈ w.items, t ((wipeE env [3]).set 3 (some d)) S = .ok b S) (he : b = true → ∀ d ∈ w.items, el ((wipeE env [3]).set 3 (some d)) S = .ok (f d) S) (hl : w.items.length ≤ 1000) :
    mLc [3] it (gmName 3) t el env S = .ok ((w.items.filter fun _ => b).map f) S := by
  have := lc_map (k := w.keep) (g := gmName 3) (t := t) (el := el) (e0 := wipeE env [3]) (S := S) hk id f (fun _ => b) (fun d => (wipeE env [3]).set 3 (some d)) w.items [] (fun _ _ => rfl) ht (fun d hd h => he h d hd) (by simp; omega)
  rw [List.map_id] at this
  exact v_lc hi this
def bad : List D := [T (List.replicate 301 120), T [97, 10, 98], T [9], T [97, 98, 9], .non, .int 3, .tup [.str "a"], .bl true]
theorem bad_pay : ∀ d ∈ bad, ∀ S, m_is_payload_text [d] S = .ok (.bl false) S := fun d hd S => by
  unfold bad at hd
  simp only [List.mem_cons, List.not_mem_nil, or_false] at hd
  rcases hd with rfl | rfl | rfl | rfl | rfl | rfl | rfl | rfl
  · rw [run_payload_text ⟨by simp, fun c hc => by rw [(List.mem_replicate.mp hc).2]; decide⟩]
    rw [show pvb (List.replicate 301 120) = false by simp [pvb]]
  · rw [run_payload_text ⟨by decide, by decide⟩]; rfl
  · rw [run_payload_text ⟨by decide, by decide⟩]; rfl
  · rw [run_payload_text ⟨by decide, by decide⟩]; rfl
  · exact pay_other rfl S
  · exact pay_other rfl S
  · exact pay_other rfl S
  · exact pay_other rfl S
theorem lam_op {ml : ME} {env : En} {S : SS} (h : ml env S = .exc ⟨"InvalidOperation", none⟩ S) : mLam n__law_word "told" cs__law_word ml env S = .ok (.tup [.str "operation"]) S := by
  unfold mLam
  rw [h]
  show (match pick cs__law_word ⟨"InvalidOperation", none⟩ (List.replicate 2 none) S with
    | .rt d S2 => gc S.length d S2
    | .nx _ S2 => gc S.length .non S2
    | _ => .stk) = _
  rw [show pick cs__law_word ⟨"InvalidOperation", none⟩ (List.replicate 2 none) S = .rt (.tup [.str "operation"]) S from rfl]
  exact gc_flat rfl
theorem lam_pa {ml : ME} {env : En} {S : SS} (h : ml env S = .exc ⟨"ParseError", none⟩ S) : mLam n__law_word "told" cs__law_word ml env S = .ok (.tup [.str "parse"]) S := by
  unfold mLam
  rw [h]
  show (match pick cs__law_word ⟨"ParseError", none⟩ (List.replicate 2 none) S with
    | .rt d S2 => gc S.length d S2
    | .nx _ S2 => gc S.length .non S2
    | _ => .stk) = _
  rw [show pick cs__law_word ⟨"ParseError", none⟩ (List.replicate 2 none) S = .rt (.tup [.str "parse"]) S from rfl]
  exact gc_flat rfl
theorem lam_num {ml : ME} {env : En} {S : SS} {d : D} (hd : clD S.length d = true) (h : ml env S = .exc ⟨"InvalidNumber", some ("value", d)⟩ S) : mLam n__law_word "told" cs__law_word ml env S = .ok (.tup [.str "number", d]) S := by
  unfold mLam
  rw [h]
  show (match pick cs__law_word ⟨"InvalidNumber", some ("value", d)⟩ (List.replicate 2 none) S with
    | .rt d S2 => gc S.length d S2
    | .nx _ S2 => gc S.length .non S2
    | _ => .stk) = _
  rw [show pick cs__law_word ⟨"InvalidNumber", some ("value", d)⟩ (List.replicate 2 none) S = .rt (.tup [.str "number", d]) S from rfl]
  refine gc_flat ?_
  show (true && (clD S.length d && true)) = true
  rw [hd]
  rfl
def numb : List D := [.int (-1), .int 1000000001, .bl true, .non, .str "0"]
theorem numb_bad : ∀ d ∈ numb, (∀ n, clD n d = true) ∧ ∀ S, m_is_between [d, .int 0, .int 1000000000] S = .ok (.bl false) S := fun d hd => by
  unfold numb at hd
  simp only [List.mem_cons, List.not_mem_nil, or_false] at hd
  rcases hd with rfl | rfl | rfl | rfl | rfl
  · exact ⟨fun _ => rfl, fun S => by rw [run_is_between]; rfl⟩
  · exact ⟨fun _ => rfl, fun S => by rw [run_is_between]; rfl⟩
  · exact ⟨fun _ => rfl, fun S => between_bl S⟩
  · exact ⟨fun _ => rfl, fun S => between_other S (by unfold dIsi; rw [if_pos (by show "NoneType" ∈ tyAll; decide)]; rfl)⟩
  · exact ⟨fun _ => rfl, fun S => between_other S (by unfold dIsi; rw [if_pos (by show "str" ∈ tyAll; decide)]; rfl)⟩
def wrong : List D := [.non, .int 0, .tup [.str "0:0:#1"], .bl true]
theorem wrong_bad : ∀ d ∈ wrong, nonStr d = true := by
  intro d hd
  unfold wrong at hd
  simp only [List.mem_cons, List.not_mem_nil, or_false] at hd
  rcases hd with rfl | rfl | rfl | rfl <;> rfl
theorem mul_cell {S : SS} {j k : Nat} {d : D} (e : S[j]? = some (.lst [d])) (hk : k < 100) : dMul (.obj j) (.int (k : Nat)) S = .ok (.obj S.length) (S ++ [.lst (List.replicate k d)]) := by
  show (match S[j]? with
    | some (.lst xs) => if xs.length * ((k : Nat) : Int).toNat ≤ 1000000 ∧ -1000000 ≤ ((k : Nat) : Int) ∧ ((k : Nat) : Int) ≤ 1000000 then Res.ok (D.obj S.length) (S ++ [Cell.lst (List.replicate ((k : Nat) : Int).toNat xs).flatten]) else .stk
    | _ => .stk) = _
  rw [e]
  show (if 1 * ((k : Nat) : Int).toNat ≤ 1000000 ∧ -1000000 ≤ ((k : Nat) : Int) ∧ ((k : Nat) : Int) ≤ 1000000 then Res.ok (D.obj S.length) (S ++ [Cell.lst (List.replicate ((k : Nat) : Int).toNat [d]).flatten]) else .stk) = _
  rw [if_pos (by omega), Int.toNat_natCast]
  refine congrArg (fun l => Res.ok (D.obj S.length) (S ++ [Cell.lst l])) ?_
  clear e hk
  induction k with
  | zero => rfl
  | succ k ih => rw [List.replicate_succ, List.flatten_cons, ih]; rfl
theorem get3 {S : SS} {a b c : Cell} : (S ++ [a] ++ [b] ++ [c])[S.length]? = some a := by
  rw [List.getElem?_append_left (by simp), List.getElem?_append_left (by simp), last_get]
theorem get2 {S : SS} {a b : Cell} : (S ++ [a] ++ [b])[S.length]? = some a := by
  rw [List.getElem?_append_left (by simp), last_get]
/-- [.. for one in ..] against [d] * k -/
theorem words_eq {r : MA} {env : En} {S : SS} {d : D} {x : Str} {k : Nat} {g : Bool → Bool} {F : MA} (hd : d = .tup [.str x]) (hF : F env S = .ok (List.replicate k d) S) (hk : k < 100) (hs : SeqAt.shaped (.list (List.replicate k (.tuple [.str x]))) = true) :
    mOp2 (fun a b S => dEqB a b S g) (mNew F) (mOp2 dMul (mNew (mLst (mCons (mTup (mCons (mC (.str x)) mNil)) mNil))) (mC (.int (k : Nat)))) env S = .ok (.bl (g true)) (S ++ [.lst (List.replicate k d)] ++ [.lst [d]] ++ [.lst (List.replicate k d)]) := by
  subst hd
  refine v_op2 (v_new hF) (v_op2 (v_new (v_lst (v_cons (v_tup (v_cons v_c v_nil) (by simp)) v_nil) (by simp))) v_c (mul_cell last_get hk)) ?_
  refine cells_eq (xs := List.replicate k (.tup [.str x])) (ps := List.replicate k (.tuple [.str x])) get3 last_get ?_ hs
  generalize hS : (S ++ [Cell.lst (List.replicate k (D.tup [D.str x]))] ++ [Cell.lst [D.tup [D.str x]]] ++ [Cell.lst (List.replicate k (D.tup [D.str x]))]) = S'
  clear hF hs hS hk
  induction k with
  | zero => rfl
  | succ k ih => rw [List.replicate_succ, List.mapM_cons, ih]; rfl
end K51
end FW

set_option Elab.async false
set_option linter.all false
set_option maxRecDepth 100000
set_option maxHeartbeats 4000000
namespace FW
namespace K51
open PySem TL
def wordsN : List D := [.tup [.str "number", .int (-1)], .tup [.str "number", .int 1000000001], .tup [.str "number", .bl true], .tup [.str "number", .non], .tup [.str "number", .str "0"]]
def RPs : List PyData := [.tuple [.str "number", .int (-1)], .tuple [.str "number", .int 1000000001], .tuple [.str "number", .bool true], .tuple [.str "number", .none], .tuple [.str "number", .str "0"]]
theorem rp_cond : (PyData.list RPs).showable = true ∧ (PyData.list RPs).hasDict = false ∧ (PyData.list RPs).depth ≤ 60 ∧ (PyData.list RPs).shown.length ≤ 1000000 := by decide +kernel
theorem rp_shaped : SeqAt.shaped (.str (PyData.list RPs).shown) = true := by decide +kernel
theorem repr_cell {S : SS} {j : Nat} (e : S[j]? = some (.lst wordsN)) : dReprD [.obj j] S = .ok (.str (PyData.list RPs).shown) S := by
  show (match pd 66 S (.obj j) with
    | some p => if p.showable = true ∧ p.hasDict = false ∧ p.depth ≤ 60 ∧ p.shown.length ≤ 1000000 then Res.ok (D.str p.shown) S else .stk
    | none => .stk) = _
  rw [pd_cell (ps := RPs) e rfl]
  exact if_pos rp_cond
theorem ne_same {s : Str} {S : SS} (h : SeqAt.shaped (.str s) = true) : dNe (.str s) (.str s) S = .ok (.bl false) S := by
  unfold dNe dEqB
  show (if SeqAt.shaped (.str s) = true ∧ SeqAt.shaped (.str s) = true then Res.ok (D.bl (!PyData.eqv (.str s) (.str s))) S else .stk) = _
  rw [if_pos ⟨h, h⟩, SeqAt.eqv_refl _ (SeqAt.canLay_of_shaped h)]
  rfl
theorem ax_e : (("a\nb" : Str)) = stL [97, 10, 98] := by decide
theorem abt_e : (("ab\t" : Str)) = stL [97, 98, 9] := by decide
theorem it_numb {env : En} {S : SS} : mItAny (mTup (mCons (mOp1 dNeg (mC (.int 1))) (mCons (mOp2 dAdd (mOp2 dPow (mC (.int 10)) (mC (.int 9))) (mC (.int 1))) (mCons (mC (.bl true)) (mCons (mC .non) (mCons (mC (.str "0")) mNil)))))) env S = .ok ⟨numb, fun _ => True⟩ S := by
  have e : mTup (mCons (mOp1 dNeg (mC (.int 1))) (mCons (mOp2 dAdd (mOp2 dPow (mC (.int 10)) (mC (.int 9))) (mC (.int 1))) (mCons (mC (.bl true)) (mCons (mC .non) (mCons (mC (.str "0")) mNil))))) env S = .ok (.tup numb) S := v_tup (ds := numb) (v_cons (v_op1 v_c rfl) (v_cons (v_op2 (v_op2 v_c v_c rfl) v_c rfl) (v_cons v_c (v_cons v_c (v_cons v_c v_nil))))) (by decide)
  unfold mItAny
  rw [e, Res.bind_ok]
theorem it_wrong {env : En} {S : SS} : mItAny (mTup (mCons (mC .non) (mCons (mC (.int 0)) (mCons (mTup (mCons (mC (.str "0:0:#1")) mNil)) (mCons (mC (.bl true)) mNil))))) env S = .ok ⟨wrong, fun _ => True⟩ S := by
  unfold mItAny
  rw [v_tup (ds := wrong) (v_cons v_c (v_cons v_c (v_cons (v_tup (v_cons v_c v_nil) (by simp)) (v_cons v_c v_nil)))) (by decide), Res.bind_ok]
theorem run_right (i : Nat) (S : SS) (h : Dz S i) : ∃ S', m__law_right [.obj i] S = .ok (.bl true) S' := by
  obtain ⟨y1, S1, e1, x1⟩ := run_nine (tl := [none, none]) (rngD 0 9) S none h
  obtain ⟨env, henv⟩ : ∃ env : En, env = [some (.obj i), y1, some (.obj S1.length), none] := ⟨_, rfl⟩
  have it2 : ∀ S : SS, S[S1.length]? = some (.lst bad) → mItAny (mVar 2) env S = .ok ⟨bad, fun S => S[S1.length]? = some (.lst bad)⟩ S := fun S e => by
    unfold mItAny
    rw [henv, v_var rfl, Res.bind_ok]
    dsimp only
    rw [e]
  have v3 : ∀ (d : D) (S : SS), mVar 3 ((wipeE env [3]).set 3 (some d)) S = .ok d S := fun d S => by rw [henv]; exact v_var rfl
  obtain ⟨S2, hS2⟩ : ∃ S2, S2 = S1 ++ [.lst bad] := ⟨_, rfl⟩
  have k2 : S2[S1.length]? = some (.lst bad) := hS2 ▸ last_get
  have pay : ∀ d ∈ bad, ∀ S, m_is_payload [d] S = .ok (.bl false) S := fun d hd S => (w_fn rfl (w_ret (v_call (v_cons (v_var rfl) v_nil) rfl (bad_pay d hd S)))).trans gc_bl
  -- none of the bad is a payload
  have tA : mTst (mOp2 dNe (mNew (mLc [3] (mItAny (mVar 2)) (gmName 3) (mTst (mOp2 dIsNot (mCall 1 m_is_payload (mCons (mVar 3) mNil)) (mC (.bl false)))) (mVar 3))) (mNew (mLst mNil))) env S2 = .ok false (S2 ++ [.lst []] ++ [.lst []]) := by
    have lc := lc_all (t := mTst (mOp2 dIsNot (mCall 1 m_is_payload (mCons (mVar 3) mNil)) (mC (.bl false)))) (el := mVar 3) (b := false) (f := fun _ => .non) (it2 S2 k2) k2 (fun d hd => v_tst (v_op2 (v_call (v_cons (v3 d _) v_nil) rfl (pay d hd _)) v_c rfl)) (fun h => by cases h) (by show bad.length ≤ 1000; decide)
    exact v_tst (v_op2 (v_new lc) (v_new (v_lst v_nil (by simp))) (cells_eq (g := not) (xs := []) (ps := []) get2 last_get rfl rfl))
  obtain ⟨S3, hS3⟩ : ∃ S3, S3 = S2 ++ [.lst []] ++ [.lst []] := ⟨_, rfl⟩
  rw [← hS3] at tA
  have l2 : S1.length < S2.length := by rw [hS2]; simp
  have k3 : S3[S1.length]? = some (.lst bad) := by rw [hS3, List.getElem?_append_left (by simp; omega), List.getElem?_append_left l2]; exact k2
  -- none of the bad is framed
  have tB : mTst (mOp2 dNe (mNew (mLc [3] (mItAny (mVar 2)) (gmName 3) mYes (mLam n__law_word "told" cs__law_word (mCall 2 m_frame_of (mCons (mC (.int 0)) (mCons (mVar 3) mNil)))))) (mOp2 dMul (mNew (mLst (mCons (mTup (mCons (mC (.str "operation")) mNil)) mNil))) (mC (.int 8)))) env S3 = .ok false (S3 ++ [.lst (List.replicate 8 (.tup [.str "operation"]))] ++ [.lst [.tup [.str "operation"]]] ++ [.lst (List.replicate 8 (.tup [.str "operation"]))]) := by
    have lc := lc_all (t := mYes) (el := mLam n__law_word "told" cs__law_word (mCall 2 m_frame_of (mCons (mC (.int 0)) (mCons (mVar 3) mNil)))) (b := true) (f := fun _ => .tup [.str "operation"]) (it2 S3 k3) k3 (fun _ _ => rfl) (fun _ d hd => lam_op (v_call (v_cons v_c (v_cons (v3 d _) v_nil)) rfl (frame_bad_pay _ (bad_pay d hd _)))) (by show bad.length ≤ 1000; decide)
    exact v_tst (words_eq (g := not) (k := 8) (x := "operation") (r := mNil) rfl lc (by decide) (by decide +kernel))
  obtain ⟨S4, hS4⟩ : ∃ S4, S4 = S3 ++ [.lst (List.replicate 8 (.tup [.str "operation"]))] ++ [.lst [.tup [.str "operation"]]] ++ [.lst (List.replicate 8 (.tup [.str "operation"]))] := ⟨_, rfl⟩
  rw [← hS4] at tB
  -- the numbers told
  have tC : mTst (mOp2 dNe (mOpA dReprD (mCons (mNew (mLc [3] (mItAny (mTup (mCons (mOp1 dNeg (mC (.int 1))) (mCons (mOp2 dAdd (mOp2 dPow (mC (.int 10)) (mC (.int 9))) (mC (.int 1))) (mCons (mC (.bl true)) (mCons (mC .non) (mCons (mC (.str "0")) mNil))))))) (gmName 3) mYes (mLam n__law_word "told" cs__law_word (mCall 2 m_frame_of (mCons (mVar 3) (mCons (mC .non) mNil)))))) mNil)) (mOpA dReprD (mCons (mNew (mLc [3] (mItAny (mTup (mCons (mOp1 dNeg (mC (.int 1))) (mCons (mOp2 dAdd (mOp2 dPow (mC (.int 10)) (mC (.int 9))) (mC (.int 1))) (mCons (mC (.bl true)) (mCons (mC .non) (mCons (mC (.str "0")) mNil))))))) (gmName 3) mYes (mTup (mCons (mC (.str "number")) (mCons (mVar 3) mNil))))) mNil))) env S4 = .ok false (S4 ++ [.lst wordsN] ++ [.lst wordsN]) := by
    have lc1 := lc_all (t := mYes) (el := mLam n__law_word "told" cs__law_word (mCall 2 m_frame_of (mCons (mVar 3) (mCons (mC .non) mNil)))) (b := true) (f := fun d => .tup [.str "number", d]) (it_numb (env := env) (S := S4)) trivial (fun _ _ => rfl) (fun _ d hd => lam_num ((numb_bad d hd).1 _) (v_call (v_cons (v3 d _) (v_cons v_c v_nil)) rfl (frame_bad_num _ ((numb_bad d hd).2 _)))) (by show numb.length ≤ 1000; decide)
    have lc2 := lc_all (t := mYes) (el := mTup (mCons (mC (.str "number")) (mCons (mVar 3) mNil))) (b := true) (f := fun d => .tup [.str "number", d]) (it_numb (env := env) (S := S4 ++ [.lst wordsN])) trivial (fun _ _ => rfl) (fun _ d hd => v_tup (v_cons v_c (v_cons (v3 d _) v_nil)) (by simp)) (by show numb.length ≤ 1000; decide)
    exact v_tst (v_op2 (v_opA (v_cons (v_new lc1) v_nil) (repr_cell last_get)) (v_opA (v_cons (v_new lc2) v_nil) (repr_cell last_get)) (ne_same rp_shaped))
  obtain ⟨S5, hS5⟩ : ∃ S5, S5 = S4 ++ [.lst wordsN] ++ [.lst wordsN] := ⟨_, rfl⟩
  rw [← hS5] at tC
  -- what is no line
  have tD : mOp2 dEq (mNew (mLc [3] (mItAny (mTup (mCons (mC .non) (mCons (mC (.int 0)) (mCons (mTup (mCons (mC (.str "0:0:#1")) mNil)) (mCons (mC (.bl true)) mNil)))))) (gmName 3) mYes (mLam n__law_word "told" cs__law_word (mCall 1 m_read_line (mCons (mVar 3) mNil))))) (mOp2 dMul (mNew (mLst (mCons (mTup (mCons (mC (.str "parse")) mNil)) mNil))) (mC (.int 4))) env S5 = .ok (.bl true) (S5 ++ [.lst (List.replicate 4 (.tup [.str "parse"]))] ++ [.lst [.tup [.str "parse"]]] ++ [.lst (List.replicate 4 (.tup [.str "parse"]))]) := by
    have lc := lc_all (t := mYes) (el := mLam n__law_word "told" cs__law_word (mCall 1 m_read_line (mCons (mVar 3) mNil))) (b := true) (f := fun _ => .tup [.str "parse"]) (it_wrong (env := env) (S := S5)) trivial (fun _ _ => rfl) (fun _ d hd => lam_pa (v_call (v_cons (v3 d _) v_nil) rfl (run_read_other (wrong_bad d hd) _))) (by show wrong.length ≤ 1000; decide)
    exact words_eq (g := id) (k := 4) (x := "parse") (r := mNil) rfl lc (by decide) (by decide +kernel)
  obtain ⟨S6, hS6⟩ : ∃ S6, S6 = S5 ++ [.lst (List.replicate 4 (.tup [.str "parse"]))] ++ [.lst [.tup [.str "parse"]]] ++ [.lst (List.replicate 4 (.tup [.str "parse"]))] := ⟨_, rfl⟩
  rw [← hS6] at tD
  have r : b__law_right [some (.obj i), none, none, none] S = .rt (.bl true) S6 := by
    refine w_seq (w_for (it_rng (k := 9) (v_cons v_c v_nil) (by decide)) e1) ?_
    refine w_seq (e1 := env) (S1 := S2) ?_ (w_seq (w_if_f tA w_next) (w_seq (w_if_f tB w_next) (w_seq (w_if_f tC w_next) (w_ret tD))))
    rw [henv, hS2]
    exact w_set (v_new (v_lst (ds := bad) (v_cons (v_op2 (v_cs x_e) v_c (mul_sgn 120 301 S1 (by decide))) (v_cons (v_cs ax_e) (v_cons (v_cs tab_e) (v_cons (v_cs abt_e) (v_cons v_c (v_cons v_c (v_cons (v_tup (v_cons v_c v_nil) (by simp)) (v_cons v_c v_nil)))))))) (by decide)))
  obtain ⟨S', e'⟩ : ∃ S', gc S.length (.bl true) S6 = .ok (.bl true) S' := by
    unfold gc
    by_cases c : clS S.length (S6.take S.length) = true
    · rw [if_pos c, if_pos (show clD S.length (.bl true) = true from rfl)]; exact ⟨_, rfl⟩
    · rw [if_neg c]; exact ⟨_, rfl⟩
  exact ⟨S', (w_fn (body := b__law_right) (ds := [.obj i]) (n := 1) (N := 4) rfl r).trans e'⟩
theorem law_plain0 (ns : List Int) : ∃ S, m_law [.fz (ns.map D.int)] [] = .ok (.bl true) S := law_of run_right ns
end K51
end FW

set_option Elab.async false
set_option linter.all false
set_option maxRecDepth 100000
set_option maxHeartbeats 4000000
namespace FW
namespace K51
open PySem PySem.Spec PyProof.Rows L2 LamX
theorem rp_ints {K : PySem.W.Frag} {H : Hp} {ι : List Addr} : ∀ ns : List Int, RpA K H ι (ns.map V.int) (ns.map D.int)
  | [] => .nil
  | n :: ns => .cons (.int n) (rp_ints ns)
theorem law_plain (ns : List Int) (hl : ns.length ≤ 63) (hb : ∀ z ∈ ns, Builtin.Int.intBits z ≤ 1048576) : ∃ S, m_law [.fz (ns.map D.int)] [] = .ok (.bl true) S := law_plain0 ns
theorem look_all {l : List (Str × Addr)} {Pr : Str → Addr → Prop} (h : ∀ p ∈ l, Pr p.1 p.2) : ∀ {n : Str} {c : Addr}, l.lookup n = some c → Pr n c := by
  intro n c e
  induction l with
  | nil => cases e
  | cons p l ih =>
    obtain ⟨m, d⟩ := p
    rw [List.lookup_cons] at e
    by_cases q : (n == m) = true
    · rw [q] at e
      have e1 : n = m := by simpa using q
      have e2 : d = c := Option.some.inj e
      subst e1 e2
      exact h _ List.mem_cons_self
    · rw [Bool.not_eq_true] at q
      rw [q] at e
      exact ih (fun p hp => h p (List.mem_cons_of_mem _ hp)) e
theorem exm_pair {K : PySem.W.Frag} {S D : Addr} {b : Bool} (h1 : PySem.W.subIn K (.ref S) (.type "BaseException") = some true) (h2 : PySem.W.isClsIn K S = true) (h3 : PySem.W.typeIn K (.ref S) = some (.type "type")) (h4 : PySem.W.subIn K (.ref D) (.ref S) = some b) : PySem.W.exmOne K (.ref D) (.ref S) = some b := by
  show (if (PySem.W.subIn K (.ref S) (.type "BaseException") == some true) = true then (if ((PySem.W.clsIn K S).isSome && PySem.W.typeIn K (.ref S) == some (.type "type")) = true then PySem.W.subIn K (.ref D) (.ref S) else none) else none) = some b
  have h5 : (PySem.W.clsIn K S).isSome = true := h2
  rw [h1, h5, h3, h4]
  simp
theorem over_mk {K : PySem.W.Frag} {nm q : Str} {C N : Addr} {bs bm : List Value} {hd : Bool} {sn : List Str} {sub : List Value} {ab : Bool} {col : Option Bool} {dd : Option Addr} {k0 k1 k2 k3 k5 : Option Value} {B : String} (h : K.lookup C = some (excClassObj nm q C N bs (.type B :: bm) hd sn sub ab col dd k0 k1 k2 k3 k5 (B ++ ".__new__"))) : PySem.W.excOver K C (.type B :: bm) = true := by
  have e : PySem.W.clsIn K C = some { name := nm, bases := bs, mro := .ref C :: .type B :: bm, ns := N, qualname := q, hasDict := hd, slotNames := sn, subclasses := sub, abstract := ab, collection := col, hasDel := false } := by unfold PySem.W.clsIn; rw [h] <;> rfl
  unfold PySem.W.excOver
  rw [e]
  simp [PySem.W.excTail]
theorem all_mk {l : PySem.W.OpenLaw} {w : World} {K : PySem.W.Frag} {h : Heap} {mg : Str → Option Value} {fa : Addr} (X : K.In h) (Gn : h.Ns mainGlobals mg) (hfa : mg "law" = some (.ref fa))
    {f_is_integer : Addr} {od_is_integer an_is_integer : Option Addr} {sl_is_integer : Array (Option Value)} {oc_is_integer kV_is_integer dc_is_integer pm_is_integer cd_is_integer ct_is_integer : Value}
    {f_is_between : Addr} {od_is_between an_is_between : Option Addr} {sl_is_between : Array (Option Value)} {oc_is_between kV_is_between dc_is_between pm_is_between cd_is_between ct_is_between : Value}
    {f_check_in : Addr} {od_check_in an_check_in : Option Addr} {sl_check_in : Array (Option Value)} {oc_check_in kV_check_in dc_check_in pm_check_in cd_check_in ct_check_in : Value}
    {f_is_payload_text : Addr} {od_is_payload_text an_is_payload_text : Option Addr} {sl_is_payload_text : Array (Option Value)} {oc_is_payload_text kV_is_payload_text dc_is_payload_text pm_is_payload_text cd_is_payload_text ct_is_payload_text : Value}
    {f_line_of : Addr} {od_line_of an_line_of : Option Addr} {sl_line_of : Array (Option Value)} {oc_line_of kV_line_of dc_line_of pm_line_of cd_line_of ct_line_of : Value}
    {f_figures_ahead : Addr} {od_figures_ahead an_figures_ahead : Option Addr} {sl_figures_ahead : Array (Option Value)} {oc_figures_ahead kV_figures_ahead dc_figures_ahead pm_figures_ahead cd_figures_ahead ct_figures_ahead : Value}
    {f_pair_of_line : Addr} {od_pair_of_line an_pair_of_line : Option Addr} {sl_pair_of_line : Array (Option Value)} {oc_pair_of_line kV_pair_of_line dc_pair_of_line pm_pair_of_line cd_pair_of_line ct_pair_of_line : Value}
    {f_require_payload : Addr} {od_require_payload an_require_payload : Option Addr} {sl_require_payload : Array (Option Value)} {oc_require_payload kV_require_payload dc_require_payload pm_require_payload cd_require_payload ct_require_payload : Value}
    {f_is_payload : Addr} {od_is_payload an_is_payload : Option Addr} {sl_is_payload : Array (Option Value)} {oc_is_payload kV_is_payload dc_is_payload pm_is_payload cd_is_payload ct_is_payload : Value}
    {f_frame_of : Addr} {od_frame_of an_frame_of : Option Addr} {sl_frame_of : Array (Option Value)} {oc_frame_of kV_frame_of dc_frame_of pm_frame_of cd_frame_of ct_frame_of : Value}
    {f_read_line : Addr} {od_read_line an_read_line : Option Addr} {sl_read_line : Array (Option Value)} {oc_read_line kV_read_line dc_read_line pm_read_line cd_read_line ct_read_line : Value}
    {f__law_dice : Addr} {od__law_dice an__law_dice : Option Addr} {sl__law_dice : Array (Option Value)} {oc__law_dice kV__law_dice dc__law_dice pm__law_dice cd__law_dice ct__law_dice : Value}
    {f__law_roll : Addr} {od__law_roll an__law_roll : Option Addr} {sl__law_roll : Array (Option Value)} {oc__law_roll kV__law_roll dc__law_roll pm__law_roll cd__law_roll ct__law_roll : Value}
    {f__law_pick : Addr} {od__law_pick an__law_pick : Option Addr} {sl__law_pick : Array (Option Value)} {oc__law_pick kV__law_pick dc__law_pick pm__law_pick cd__law_pick ct__law_pick : Value}
    {f__law_check : Addr} {od__law_check an__law_check : Option Addr} {sl__law_check : Array (Option Value)} {oc__law_check kV__law_check dc__law_check pm__law_check cd__law_check ct__law_check : Value}
    {f__law_line : Addr} {od__law_line an__law_line : Option Addr} {sl__law_line : Array (Option Value)} {oc__law_line kV__law_line dc__law_line pm__law_line cd__law_line ct__law_line : Value}
    {f__law_number : Addr} {od__law_number an__law_number : Option Addr} {sl__law_number : Array (Option Value)} {oc__law_number kV__law_number dc__law_number pm__law_number cd__law_number ct__law_number : Value}
    {f__law_payload : Addr} {od__law_payload an__law_payload : Option Addr} {sl__law_payload : Array (Option Value)} {oc__law_payload kV__law_payload dc__law_payload pm__law_payload cd__law_payload ct__law_payload : Value}
    {f__law_read : Addr} {od__law_read an__law_read : Option Addr} {sl__law_read : Array (Option Value)} {oc__law_read kV__law_read dc__law_read pm__law_read cd__law_read ct__law_read : Value}
    {f__law_frame_right : Addr} {od__law_frame_right an__law_frame_right : Option Addr} {sl__law_frame_right : Array (Option Value)} {oc__law_frame_right kV__law_frame_right dc__law_frame_right pm__law_frame_right cd__law_frame_right ct__law_frame_right : Value}
    {f__law_word : Addr} {od__law_word an__law_word : Option Addr} {sl__law_word : Array (Option Value)} {oc__law_word kV__law_word dc__law_word pm__law_word cd__law_word ct__law_word : Value}
    {f__law_right : Addr} {od__law_right an__law_right : Option Addr} {sl__law_right : Array (Option Value)} {oc__law_right kV__law_right dc__law_right pm__law_right ct__law_right : Value}
    {q__law_right p__law_right : Addr}
    {f_law : Addr} {od_law an_law : Option Addr} {sl_law : Array (Option Value)} {oc_law kV_law dc_law pm_law cd_law ct_law : Value}
    {t_BETWEEN : Tok}
    {t_CHECKED : Tok}
    {t_CHECK_PRIME : Tok}
    {t_END : Tok}
    {t_FIGURES : Tok}
    {t_FIRST_SIGN : Tok}
    {t_LAST_SIGN : Tok}
    {t_MOST_FRAME : Tok}
    {t_MOST_PAYLOAD : Tok}
    {c_RowError : Addr}
    {c_InvalidOperation : Addr}
    {c_ParseError : Addr}
    {c_InvalidNumber : Addr}
    {i_InvalidNumber : Addr} {qn_InvalidNumber : Str} {nn_InvalidNumber : Addr} {bs_InvalidNumber : List Value} {sn_InvalidNumber : List Str} {sb_InvalidNumber : List Value} {ab_InvalidNumber : Bool} {col_InvalidNumber : Option Bool} {dd_InvalidNumber : Option Addr} {m0_InvalidNumber m1_InvalidNumber m2_InvalidNumber m3_InvalidNumber m5_InvalidNumber : Option Value} {iod_InvalidNumber ian_InvalidNumber : Option Addr} {isl_InvalidNumber : Array (Option Value)} {ioc_InvalidNumber idc_InvalidNumber ipm_InvalidNumber icd_InvalidNumber ict_InvalidNumber : Value}
    (a_is_integer : PySem.W.nsIn K mainGlobals "is_integer" = some (some (.ref f_is_integer)))
    (l_is_integer : K.lookup f_is_integer = some ⟨oc_is_integer, od_is_integer, .func (PySem.W.fnOf "is_integer" "is_integer" (defArgs s_is_integer) (defBody s_is_integer) (defScope s_is_integer) .none kV_is_integer dc_is_integer pm_is_integer an_is_integer cd_is_integer ct_is_integer), sl_is_integer⟩)
    (e_is_integer : PySem.W.codeIn K cd_is_integer "is_integer" = true)
    (k_is_integer : PySem.W.keepIn K (.ref f_is_integer) = true)
    (a_is_between : PySem.W.nsIn K mainGlobals "is_between" = some (some (.ref f_is_between)))
    (l_is_between : K.lookup f_is_between = some ⟨oc_is_between, od_is_between, .func (PySem.W.fnOf "is_between" "is_between" (defArgs s_is_between) (defBody s_is_between) (defScope s_is_between) .none kV_is_between dc_is_between pm_is_between an_is_between cd_is_between ct_is_between), sl_is_between⟩)
    (e_is_between : PySem.W.codeIn K cd_is_between "is_between" = true)
    (k_is_between : PySem.W.keepIn K (.ref f_is_between) = true)
    (a_check_in : PySem.W.nsIn K mainGlobals "check_in" = some (some (.ref f_check_in)))
    (l_check_in : K.lookup f_check_in = some ⟨oc_check_in, od_check_in, .func (PySem.W.fnOf "check_in" "check_in" (defArgs s_check_in) (defBody s_check_in) (defScope s_check_in) .none kV_check_in dc_check_in pm_check_in an_check_in cd_check_in ct_check_in), sl_check_in⟩)
    (e_check_in : PySem.W.codeIn K cd_check_in "check_in" = true)
    (k_check_in : PySem.W.keepIn K (.ref f_check_in) = true)
    (a_is_payload_text : PySem.W.nsIn K mainGlobals "is_payload_text" = some (some (.ref f_is_payload_text)))
    (l_is_payload_text : K.lookup f_is_payload_text = some ⟨oc_is_payload_text, od_is_payload_text, .func (PySem.W.fnOf "is_payload_text" "is_payload_text" (defArgs s_is_payload_text) (defBody s_is_payload_text) (defScope s_is_payload_text) .none kV_is_payload_text dc_is_payload_text pm_is_payload_text an_is_payload_text cd_is_payload_text ct_is_payload_text), sl_is_payload_text⟩)
    (e_is_payload_text : PySem.W.codeIn K cd_is_payload_text "is_payload_text" = true)
    (k_is_payload_text : PySem.W.keepIn K (.ref f_is_payload_text) = true)
    (a_line_of : PySem.W.nsIn K mainGlobals "line_of" = some (some (.ref f_line_of)))
    (l_line_of : K.lookup f_line_of = some ⟨oc_line_of, od_line_of, .func (PySem.W.fnOf "line_of" "line_of" (defArgs s_line_of) (defBody s_line_of) (defScope s_line_of) .none kV_line_of dc_line_of pm_line_of an_line_of cd_line_of ct_line_of), sl_line_of⟩)
    (e_line_of : PySem.W.codeIn K cd_line_of "line_of" = true)
    (k_line_of : PySem.W.keepIn K (.ref f_line_of) = true)
    (a_figures_ahead : PySem.W.nsIn K mainGlobals "figures_ahead" = some (some (.ref f_figures_ahead)))
    (l_figures_ahead : K.lookup f_figures_ahead = some ⟨oc_figures_ahead, od_figures_ahead, .func (PySem.W.fnOf "figures_ahead" "figures_ahead" (defArgs s_figures_ahead) (defBody s_figures_ahead) (defScope s_figures_ahead) .none kV_figures_ahead dc_figures_ahead pm_figures_ahead an_figures_ahead cd_figures_ahead ct_figures_ahead), sl_figures_ahead⟩)
    (e_figures_ahead : PySem.W.codeIn K cd_figures_ahead "figures_ahead" = true)
    (k_figures_ahead : PySem.W.keepIn K (.ref f_figures_ahead) = true)
    (a_pair_of_line : PySem.W.nsIn K mainGlobals "pair_of_line" = some (some (.ref f_pair_of_line)))
    (l_pair_of_line : K.lookup f_pair_of_line = some ⟨oc_pair_of_line, od_pair_of_line, .func (PySem.W.fnOf "pair_of_line" "pair_of_line" (defArgs s_pair_of_line) (defBody s_pair_of_line) (defScope s_pair_of_line) .none kV_pair_of_line dc_pair_of_line pm_pair_of_line an_pair_of_line cd_pair_of_line ct_pair_of_line), sl_pair_of_line⟩)
    (e_pair_of_line : PySem.W.codeIn K cd_pair_of_line "pair_of_line" = true)
    (k_pair_of_line : PySem.W.keepIn K (.ref f_pair_of_line) = true)
    (a_require_payload : PySem.W.nsIn K mainGlobals "require_payload" = some (some (.ref f_require_payload)))
    (l_require_payload : K.lookup f_require_payload = some ⟨oc_require_payload, od_require_payload, .func (PySem.W.fnOf "require_payload" "require_payload" (defArgs s_require_payload) (defBody s_require_payload) (defScope s_require_payload) .none kV_require_payload dc_require_payload pm_require_payload an_require_payload cd_require_payload ct_require_payload), sl_require_payload⟩)
    (e_require_payload : PySem.W.codeIn K cd_require_payload "require_payload" = true)
    (k_require_payload : PySem.W.keepIn K (.ref f_require_payload) = true)
    (a_is_payload : PySem.W.nsIn K mainGlobals "is_payload" = some (some (.ref f_is_payload)))
    (l_is_payload : K.lookup f_is_payload = some ⟨oc_is_payload, od_is_payload, .func (PySem.W.fnOf "is_payload" "is_payload" (defArgs s_is_payload) (defBody s_is_payload) (defScope s_is_payload) .none kV_is_payload dc_is_payload pm_is_payload an_is_payload cd_is_payload ct_is_payload), sl_is_payload⟩)
    (e_is_payload : PySem.W.codeIn K cd_is_payload "is_payload" = true)
    (k_is_payload : PySem.W.keepIn K (.ref f_is_payload) = true)
    (a_frame_of : PySem.W.nsIn K mainGlobals "frame_of" = some (some (.ref f_frame_of)))
    (l_frame_of : K.lookup f_frame_of = some ⟨oc_frame_of, od_frame_of, .func (PySem.W.fnOf "frame_of" "frame_of" (defArgs s_frame_of) (defBody s_frame_of) (defScope s_frame_of) .none kV_frame_of dc_frame_of pm_frame_of an_frame_of cd_frame_of ct_frame_of), sl_frame_of⟩)
    (e_frame_of : PySem.W.codeIn K cd_frame_of "frame_of" = true)
    (k_frame_of : PySem.W.keepIn K (.ref f_frame_of) = true)
    (a_read_line : PySem.W.nsIn K mainGlobals "read_line" = some (some (.ref f_read_line)))
    (l_read_line : K.lookup f_read_line = some ⟨oc_read_line, od_read_line, .func (PySem.W.fnOf "read_line" "read_line" (defArgs s_read_line) (defBody s_read_line) (defScope s_read_line) .none kV_read_line dc_read_line pm_read_line an_read_line cd_read_line ct_read_line), sl_read_line⟩)
    (e_read_line : PySem.W.codeIn K cd_read_line "read_line" = true)
    (k_read_line : PySem.W.keepIn K (.ref f_read_line) = true)
    (a__law_dice : PySem.W.nsIn K mainGlobals "_law_dice" = some (some (.ref f__law_dice)))
    (l__law_dice : K.lookup f__law_dice = some ⟨oc__law_dice, od__law_dice, .func (PySem.W.fnOf "_law_dice" "_law_dice" (defArgs s__law_dice) (defBody s__law_dice) (defScope s__law_dice) .none kV__law_dice dc__law_dice pm__law_dice an__law_dice cd__law_dice ct__law_dice), sl__law_dice⟩)
    (e__law_dice : PySem.W.codeIn K cd__law_dice "_law_dice" = true)
    (k__law_dice : PySem.W.keepIn K (.ref f__law_dice) = true)
    (a__law_roll : PySem.W.nsIn K mainGlobals "_law_roll" = some (some (.ref f__law_roll)))
    (l__law_roll : K.lookup f__law_roll = some ⟨oc__law_roll, od__law_roll, .func (PySem.W.fnOf "_law_roll" "_law_roll" (defArgs s__law_roll) (defBody s__law_roll) (defScope s__law_roll) .none kV__law_roll dc__law_roll pm__law_roll an__law_roll cd__law_roll ct__law_roll), sl__law_roll⟩)
    (e__law_roll : PySem.W.codeIn K cd__law_roll "_law_roll" = true)
    (k__law_roll : PySem.W.keepIn K (.ref f__law_roll) = true)
    (a__law_pick : PySem.W.nsIn K mainGlobals "_law_pick" = some (some (.ref f__law_pick)))
    (l__law_pick : K.lookup f__law_pick = some ⟨oc__law_pick, od__law_pick, .func (PySem.W.fnOf "_law_pick" "_law_pick" (defArgs s__law_pick) (defBody s__law_pick) (defScope s__law_pick) .none kV__law_pick dc__law_pick pm__law_pick an__law_pick cd__law_pick ct__law_pick), sl__law_pick⟩)
    (e__law_pick : PySem.W.codeIn K cd__law_pick "_law_pick" = true)
    (k__law_pick : PySem.W.keepIn K (.ref f__law_pick) = true)
    (a__law_check : PySem.W.nsIn K mainGlobals "_law_check" = some (some (.ref f__law_check)))
    (l__law_check : K.lookup f__law_check = some ⟨oc__law_check, od__law_check, .func (PySem.W.fnOf "_law_check" "_law_check" (defArgs s__law_check) (defBody s__law_check) (defScope s__law_check) .none kV__law_check dc__law_check pm__law_check an__law_check cd__law_check ct__law_check), sl__law_check⟩)
    (e__law_check : PySem.W.codeIn K cd__law_check "_law_check" = true)
    (k__law_check : PySem.W.keepIn K (.ref f__law_check) = true)
    (a__law_line : PySem.W.nsIn K mainGlobals "_law_line" = some (some (.ref f__law_line)))
    (l__law_line : K.lookup f__law_line = some ⟨oc__law_line, od__law_line, .func (PySem.W.fnOf "_law_line" "_law_line" (defArgs s__law_line) (defBody s__law_line) (defScope s__law_line) .none kV__law_line dc__law_line pm__law_line an__law_line cd__law_line ct__law_line), sl__law_line⟩)
    (e__law_line : PySem.W.codeIn K cd__law_line "_law_line" = true)
    (k__law_line : PySem.W.keepIn K (.ref f__law_line) = true)
    (a__law_number : PySem.W.nsIn K mainGlobals "_law_number" = some (some (.ref f__law_number)))
    (l__law_number : K.lookup f__law_number = some ⟨oc__law_number, od__law_number, .func (PySem.W.fnOf "_law_number" "_law_number" (defArgs s__law_number) (defBody s__law_number) (defScope s__law_number) .none kV__law_number dc__law_number pm__law_number an__law_number cd__law_number ct__law_number), sl__law_number⟩)
    (e__law_number : PySem.W.codeIn K cd__law_number "_law_number" = true)
    (k__law_number : PySem.W.keepIn K (.ref f__law_number) = true)
    (a__law_payload : PySem.W.nsIn K mainGlobals "_law_payload" = some (some (.ref f__law_payload)))
    (l__law_payload : K.lookup f__law_payload = some ⟨oc__law_payload, od__law_payload, .func (PySem.W.fnOf "_law_payload" "_law_payload" (defArgs s__law_payload) (defBody s__law_payload) (defScope s__law_payload) .none kV__law_payload dc__law_payload pm__law_payload an__law_payload cd__law_payload ct__law_payload), sl__law_payload⟩)
    (e__law_payload : PySem.W.codeIn K cd__law_payload "_law_payload" = true)
    (k__law_payload : PySem.W.keepIn K (.ref f__law_payload) = true)
    (a__law_read : PySem.W.nsIn K mainGlobals "_law_read" = some (some (.ref f__law_read)))
    (l__law_read : K.lookup f__law_read = some ⟨oc__law_read, od__law_read, .func (PySem.W.fnOf "_law_read" "_law_read" (defArgs s__law_read) (defBody s__law_read) (defScope s__law_read) .none kV__law_read dc__law_read pm__law_read an__law_read cd__law_read ct__law_read), sl__law_read⟩)
    (e__law_read : PySem.W.codeIn K cd__law_read "_law_read" = true)
    (k__law_read : PySem.W.keepIn K (.ref f__law_read) = true)
    (a__law_frame_right : PySem.W.nsIn K mainGlobals "_law_frame_right" = some (some (.ref f__law_frame_right)))
    (l__law_frame_right : K.lookup f__law_frame_right = some ⟨oc__law_frame_right, od__law_frame_right, .func (PySem.W.fnOf "_law_frame_right" "_law_frame_right" (defArgs s__law_frame_right) (defBody s__law_frame_right) (defScope s__law_frame_right) .none kV__law_frame_right dc__law_frame_right pm__law_frame_right an__law_frame_right cd__law_frame_right ct__law_frame_right), sl__law_frame_right⟩)
    (e__law_frame_right : PySem.W.codeIn K cd__law_frame_right "_law_frame_right" = true)
    (k__law_frame_right : PySem.W.keepIn K (.ref f__law_frame_right) = true)
    (a__law_word : PySem.W.nsIn K mainGlobals "_law_word" = some (some (.ref f__law_word)))
    (l__law_word : K.lookup f__law_word = some ⟨oc__law_word, od__law_word, .func (PySem.W.fnOf "_law_word" "_law_word" (defArgs s__law_word) (defBody s__law_word) (defScope s__law_word) .none kV__law_word dc__law_word pm__law_word an__law_word cd__law_word ct__law_word), sl__law_word⟩)
    (e__law_word : PySem.W.codeIn K cd__law_word "_law_word" = true)
    (k__law_word : PySem.W.keepIn K (.ref f__law_word) = true)
    (a__law_right : PySem.W.nsIn K mainGlobals "_law_right" = some (some (.ref f__law_right)))
    (l__law_right : K.lookup f__law_right = some ⟨oc__law_right, od__law_right, .func (PySem.W.fnOf "_law_right" "_law_right" (defArgs s__law_right) (defBody s__law_right) (defScope s__law_right) .none kV__law_right dc__law_right pm__law_right an__law_right (.ref q__law_right) ct__law_right), sl__law_right⟩)
    (e__law_right : PySem.W.codeIn K (.ref q__law_right) "_law_right" = true)
    (k__law_right : PySem.W.keepIn K (.ref f__law_right) = true)
    (a_law : PySem.W.nsIn K mainGlobals "law" = some (some (.ref f_law)))
    (l_law : K.lookup f_law = some ⟨oc_law, od_law, .func (PySem.W.fnOf "law" "law" (defArgs s_law) (defBody s_law) (defScope s_law) .none kV_law dc_law pm_law an_law cd_law ct_law), sl_law⟩)
    (e_law : PySem.W.codeIn K cd_law "law" = true)
    (k_law : PySem.W.keepIn K (.ref f_law) = true)
    (z_abs : PySem.W.nsIn K mainGlobals "abs" = some none)
    (z_all : PySem.W.nsIn K mainGlobals "all" = some none)
    (z_bool : PySem.W.nsIn K mainGlobals "bool" = some none)
    (z_enumerate : PySem.W.nsIn K mainGlobals "enumerate" = some none)
    (z_int : PySem.W.nsIn K mainGlobals "int" = some none)
    (z_isinstance : PySem.W.nsIn K mainGlobals "isinstance" = some none)
    (z_len : PySem.W.nsIn K mainGlobals "len" = some none)
    (z_max : PySem.W.nsIn K mainGlobals "max" = some none)
    (z_min : PySem.W.nsIn K mainGlobals "min" = some none)
    (z_ord : PySem.W.nsIn K mainGlobals "ord" = some none)
    (z_range : PySem.W.nsIn K mainGlobals "range" = some none)
    (z_repr : PySem.W.nsIn K mainGlobals "repr" = some none)
    (z_str : PySem.W.nsIn K mainGlobals "str" = some none)
    (z_sum : PySem.W.nsIn K mainGlobals "sum" = some none)
    (cc_BETWEEN : PySem.W.nsIn K mainGlobals "BETWEEN" = some (some (.str ":" t_BETWEEN)))
    (cc_CHECKED : PySem.W.nsIn K mainGlobals "CHECKED" = some (some (.str "#" t_CHECKED)))
    (cc_CHECK_PRIME : PySem.W.nsIn K mainGlobals "CHECK_PRIME" = some (some (.int 9973 t_CHECK_PRIME)))
    (cc_END : PySem.W.nsIn K mainGlobals "END" = some (some (.str "\n" t_END)))
    (cc_FIGURES : PySem.W.nsIn K mainGlobals "FIGURES" = some (some (.str "0123456789" t_FIGURES)))
    (cc_FIRST_SIGN : PySem.W.nsIn K mainGlobals "FIRST_SIGN" = some (some (.str " " t_FIRST_SIGN)))
    (cc_LAST_SIGN : PySem.W.nsIn K mainGlobals "LAST_SIGN" = some (some (.str "~" t_LAST_SIGN)))
    (cc_MOST_FRAME : PySem.W.nsIn K mainGlobals "MOST_FRAME" = some (some (.int 1000000000 t_MOST_FRAME)))
    (cc_MOST_PAYLOAD : PySem.W.nsIn K mainGlobals "MOST_PAYLOAD" = some (some (.int 300 t_MOST_PAYLOAD)))
    (ac_RowError : PySem.W.nsIn K mainGlobals "RowError" = some (some (.ref c_RowError)))
    (kc_RowError : PySem.W.keepIn K (.ref c_RowError) = true)
    (xb_RowError : PySem.W.subIn K (.ref c_RowError) (.type "BaseException") = some true)
    (xt_RowError : PySem.W.typeIn K (.ref c_RowError) = some (.type "type"))
    (ac_InvalidOperation : PySem.W.nsIn K mainGlobals "InvalidOperation" = some (some (.ref c_InvalidOperation)))
    (kc_InvalidOperation : PySem.W.keepIn K (.ref c_InvalidOperation) = true)
    (xb_InvalidOperation : PySem.W.subIn K (.ref c_InvalidOperation) (.type "BaseException") = some true)
    (xt_InvalidOperation : PySem.W.typeIn K (.ref c_InvalidOperation) = some (.type "type"))
    (ac_ParseError : PySem.W.nsIn K mainGlobals "ParseError" = some (some (.ref c_ParseError)))
    (kc_ParseError : PySem.W.keepIn K (.ref c_ParseError) = true)
    (xb_ParseError : PySem.W.subIn K (.ref c_ParseError) (.type "BaseException") = some true)
    (xt_ParseError : PySem.W.typeIn K (.ref c_ParseError) = some (.type "type"))
    (ac_InvalidNumber : PySem.W.nsIn K mainGlobals "InvalidNumber" = some (some (.ref c_InvalidNumber)))
    (kc_InvalidNumber : PySem.W.keepIn K (.ref c_InvalidNumber) = true)
    (xb_InvalidNumber : PySem.W.subIn K (.ref c_InvalidNumber) (.type "BaseException") = some true)
    (xt_InvalidNumber : PySem.W.typeIn K (.ref c_InvalidNumber) = some (.type "type"))
    (xl_InvalidNumber : K.lookup c_InvalidNumber = some (excClassObj "InvalidNumber" qn_InvalidNumber c_InvalidNumber nn_InvalidNumber bs_InvalidNumber [.type "IndexError", .type "LookupError", .type "Exception", .type "BaseException", .type "object"] true sn_InvalidNumber sb_InvalidNumber ab_InvalidNumber col_InvalidNumber dd_InvalidNumber m0_InvalidNumber m1_InvalidNumber m2_InvalidNumber m3_InvalidNumber m5_InvalidNumber "IndexError.__new__"))
    (tk_InvalidNumber : PySem.W.takerIn K c_InvalidNumber "value" = some none)
    (sa_InvalidNumber : PySem.W.findIn K (.ref c_InvalidNumber) "__setattr__" = some (some (.builtin "object.__setattr__")))
    (ia_InvalidNumber : PySem.W.findIn K (.ref c_InvalidNumber) "__init__" = some (some (.ref i_InvalidNumber)))
    (it_InvalidNumber : PySem.W.typeIn K (.ref i_InvalidNumber) = some (.type "function"))
    (il_InvalidNumber : K.lookup i_InvalidNumber = some ⟨ioc_InvalidNumber, iod_InvalidNumber, .func (PySem.W.fnOf "__init__" "InvalidNumber.__init__" (ieA "value" ⟨15, 17, 15, 21⟩ ⟨15, 23, 15, 28⟩) (ieB "value" "value" ⟨16, 8, 16, 12⟩ ⟨16, 8, 16, 18⟩ ⟨16, 21, 16, 26⟩ ⟨16, 8, 16, 26⟩) (ieS "value") .none .none idc_InvalidNumber ipm_InvalidNumber ian_InvalidNumber icd_InvalidNumber ict_InvalidNumber), isl_InvalidNumber⟩)
    (ie_InvalidNumber : PySem.W.codeIn K icd_InvalidNumber "InvalidNumber.__init__" = true)
    (xc_InvalidOperation : PySem.W.excIn K c_InvalidOperation [.type "ValueError", .type "Exception", .type "BaseException", .type "object"] "ValueError.__new__" = true)
    (xc_ParseError : PySem.W.excIn K c_ParseError [.type "ValueError", .type "Exception", .type "BaseException", .type "object"] "ValueError.__new__" = true)
    (ic_ParseError : PySem.W.isClsIn K c_ParseError = true)
    (em_ParseError_RowError : PySem.W.subIn K (.ref c_RowError) (.ref c_ParseError) = some false)
    (em_ParseError_InvalidOperation : PySem.W.subIn K (.ref c_InvalidOperation) (.ref c_ParseError) = some false)
    (em_ParseError_ParseError : PySem.W.subIn K (.ref c_ParseError) (.ref c_ParseError) = some true)
    (em_ParseError_InvalidNumber : PySem.W.subIn K (.ref c_InvalidNumber) (.ref c_ParseError) = some false)
    (ic_InvalidNumber : PySem.W.isClsIn K c_InvalidNumber = true)
    (em_InvalidNumber_RowError : PySem.W.subIn K (.ref c_RowError) (.ref c_InvalidNumber) = some false)
    (em_InvalidNumber_InvalidOperation : PySem.W.subIn K (.ref c_InvalidOperation) (.ref c_InvalidNumber) = some false)
    (em_InvalidNumber_ParseError : PySem.W.subIn K (.ref c_ParseError) (.ref c_InvalidNumber) = some false)
    (em_InvalidNumber_InvalidNumber : PySem.W.subIn K (.ref c_InvalidNumber) (.ref c_InvalidNumber) = some true)
    (ic_InvalidOperation : PySem.W.isClsIn K c_InvalidOperation = true)
    (em_InvalidOperation_RowError : PySem.W.subIn K (.ref c_RowError) (.ref c_InvalidOperation) = some false)
    (em_InvalidOperation_InvalidOperation : PySem.W.subIn K (.ref c_InvalidOperation) (.ref c_InvalidOperation) = some true)
    (em_InvalidOperation_ParseError : PySem.W.subIn K (.ref c_ParseError) (.ref c_InvalidOperation) = some false)
    (em_InvalidOperation_InvalidNumber : PySem.W.subIn K (.ref c_InvalidNumber) (.ref c_InvalidOperation) = some false)
    (ga_InvalidNumber : PySem.W.findIn K (.ref c_InvalidNumber) "__getattribute__" = some (some (.builtin "BaseException.__getattribute__")))
    (gg_InvalidNumber : PySem.W.findIn K (.ref c_InvalidNumber) "__getattr__" = some none)
    (gn_InvalidNumber : PySem.W.findIn K (.ref c_InvalidNumber) "value" = some none)
    (hd_InvalidNumber : PySem.W.hasDictIn K c_InvalidNumber = true)
    (hq__law_right : PySem.W.codeHdIn K q__law_right p__law_right = true)
    (nt__law_right : K.lookup p__law_right = none)
    (ht__law_right : h.get? p__law_right = some (PySem.W.tabObj #[]))
    : LawG l w K 8 63 "script" mg fa h := by
  have e := hfa.symm.trans (PySem.W.mg_of X Gn a_law)
  cases e
  have F_is_integer := fun_mk (st := s_is_integer) l_is_integer e_is_integer k_is_integer
  have B_is_integer := F_is_integer.binds (ps := ["value"]) fun _ _ _ _ _ _ us hl => match us, hl with | [_], _ => rfl
  have F_is_between := fun_mk (st := s_is_between) l_is_between e_is_between k_is_between
  have B_is_between := F_is_between.binds (ps := ["value", "low", "high"]) fun _ _ _ _ _ _ us hl => match us, hl with | [_, _, _], _ => rfl
  have F_check_in := fun_mk (st := s_check_in) l_check_in e_check_in k_check_in
  have B_check_in := F_check_in.binds (ps := ["text"]) fun _ _ _ _ _ _ us hl => match us, hl with | [_], _ => rfl
  have F_is_payload_text := fun_mk (st := s_is_payload_text) l_is_payload_text e_is_payload_text k_is_payload_text
  have B_is_payload_text := F_is_payload_text.binds (ps := ["value"]) fun _ _ _ _ _ _ us hl => match us, hl with | [_], _ => rfl
  have F_line_of := fun_mk (st := s_line_of) l_line_of e_line_of k_line_of
  have B_line_of := F_line_of.binds (ps := ["number", "payload"]) fun _ _ _ _ _ _ us hl => match us, hl with | [_, _], _ => rfl
  have F_figures_ahead := fun_mk (st := s_figures_ahead) l_figures_ahead e_figures_ahead k_figures_ahead
  have B_figures_ahead := F_figures_ahead.binds (ps := ["text"]) fun _ _ _ _ _ _ us hl => match us, hl with | [_], _ => rfl
  have F_pair_of_line := fun_mk (st := s_pair_of_line) l_pair_of_line e_pair_of_line k_pair_of_line
  have B_pair_of_line := F_pair_of_line.binds (ps := ["line"]) fun _ _ _ _ _ _ us hl => match us, hl with | [_], _ => rfl
  have F_require_payload := fun_mk (st := s_require_payload) l_require_payload e_require_payload k_require_payload
  have B_require_payload := F_require_payload.binds (ps := ["payload"]) fun _ _ _ _ _ _ us hl => match us, hl with | [_], _ => rfl
  have F_is_payload := fun_mk (st := s_is_payload) l_is_payload e_is_payload k_is_payload
  have B_is_payload := F_is_payload.binds (ps := ["value"]) fun _ _ _ _ _ _ us hl => match us, hl with | [_], _ => rfl
  have F_frame_of := fun_mk (st := s_frame_of) l_frame_of e_frame_of k_frame_of
  have B_frame_of := F_frame_of.binds (ps := ["number", "payload"]) fun _ _ _ _ _ _ us hl => match us, hl with | [_, _], _ => rfl
  have F_read_line := fun_mk (st := s_read_line) l_read_line e_read_line k_read_line
  have B_read_line := F_read_line.binds (ps := ["line"]) fun _ _ _ _ _ _ us hl => match us, hl with | [_], _ => rfl
  have F__law_dice := fun_mk (st := s__law_dice) l__law_dice e__law_dice k__law_dice
  have B__law_dice := F__law_dice.binds (ps := ["script", "spot"]) fun _ _ _ _ _ _ us hl => match us, hl with | [_, _], _ => rfl
  have F__law_roll := fun_mk (st := s__law_roll) l__law_roll e__law_roll k__law_roll
  have B__law_roll := F__law_roll.binds (ps := ["dice", "total"]) fun _ _ _ _ _ _ us hl => match us, hl with | [_, _], _ => rfl
  have F__law_pick := fun_mk (st := s__law_pick) l__law_pick e__law_pick k__law_pick
  have B__law_pick := F__law_pick.binds (ps := ["dice", "items"]) fun _ _ _ _ _ _ us hl => match us, hl with | [_, _], _ => rfl
  have F__law_check := fun_mk (st := s__law_check) l__law_check e__law_check k__law_check
  have B__law_check := F__law_check.binds (ps := ["text"]) fun _ _ _ _ _ _ us hl => match us, hl with | [_], _ => rfl
  have F__law_line := fun_mk (st := s__law_line) l__law_line e__law_line k__law_line
  have B__law_line := F__law_line.binds (ps := ["number", "payload"]) fun _ _ _ _ _ _ us hl => match us, hl with | [_, _], _ => rfl
  have F__law_number := fun_mk (st := s__law_number) l__law_number e__law_number k__law_number
  have B__law_number := F__law_number.binds (ps := ["dice"]) fun _ _ _ _ _ _ us hl => match us, hl with | [_], _ => rfl
  have F__law_payload := fun_mk (st := s__law_payload) l__law_payload e__law_payload k__law_payload
  have B__law_payload := F__law_payload.binds (ps := ["dice"]) fun _ _ _ _ _ _ us hl => match us, hl with | [_], _ => rfl
  have F__law_read := fun_mk (st := s__law_read) l__law_read e__law_read k__law_read
  have B__law_read := F__law_read.binds (ps := ["line"]) fun _ _ _ _ _ _ us hl => match us, hl with | [_], _ => rfl
  have F__law_frame_right := fun_mk (st := s__law_frame_right) l__law_frame_right e__law_frame_right k__law_frame_right
  have B__law_frame_right := F__law_frame_right.binds (ps := ["dice", "number", "payload"]) fun _ _ _ _ _ _ us hl => match us, hl with | [_, _, _], _ => rfl
  have F__law_word := fun_mk (st := s__law_word) l__law_word e__law_word k__law_word
  have B__law_word := F__law_word.binds (ps := ["call"]) fun _ _ _ _ _ _ us hl => match us, hl with | [_], _ => rfl
  have F__law_right := fun_mk (st := s__law_right) l__law_right e__law_right k__law_right
  have B__law_right := F__law_right.binds (ps := ["dice"]) fun _ _ _ _ _ _ us hl => match us, hl with | [_], _ => rfl
  have F_law := fun_mk (st := s_law) l_law e_law k_law
  have B_law := F_law.binds (ps := ["script"]) fun _ _ _ _ _ _ us hl => match us, hl with | [_], _ => rfl
  have TX : ∀ base : Heap, (TabB base mg q__law_right p__law_right) → Txt K mg base ⟨f_is_integer, _, f_is_between, _, f_check_in, _, f_is_payload_text, _, f_line_of, _, f_figures_ahead, _, f_pair_of_line, _, f_require_payload, _, f_is_payload, _, f_frame_of, _, f_read_line, _, f__law_dice, _, f__law_roll, _, f__law_pick, _, f__law_check, _, f__law_line, _, f__law_number, _, f__law_payload, _, f__law_read, _, f__law_frame_right, _, f__law_word, _, f__law_right, _, fa, _, c_RowError, c_InvalidOperation, c_ParseError, c_InvalidNumber, i_InvalidNumber, q__law_right, p__law_right⟩ := fun base tb => {
    F_is_integer := F_is_integer,
    g_is_integer := PySem.W.mg_of X Gn a_is_integer,
    k_is_integer := k_is_integer,
    B_is_integer := B_is_integer,
    F_is_between := F_is_between,
    g_is_between := PySem.W.mg_of X Gn a_is_between,
    k_is_between := k_is_between,
    B_is_between := B_is_between,
    F_check_in := F_check_in,
    g_check_in := PySem.W.mg_of X Gn a_check_in,
    k_check_in := k_check_in,
    B_check_in := B_check_in,
    F_is_payload_text := F_is_payload_text,
    g_is_payload_text := PySem.W.mg_of X Gn a_is_payload_text,
    k_is_payload_text := k_is_payload_text,
    B_is_payload_text := B_is_payload_text,
    F_line_of := F_line_of,
    g_line_of := PySem.W.mg_of X Gn a_line_of,
    k_line_of := k_line_of,
    B_line_of := B_line_of,
    F_figures_ahead := F_figures_ahead,
    g_figures_ahead := PySem.W.mg_of X Gn a_figures_ahead,
    k_figures_ahead := k_figures_ahead,
    B_figures_ahead := B_figures_ahead,
    F_pair_of_line := F_pair_of_line,
    g_pair_of_line := PySem.W.mg_of X Gn a_pair_of_line,
    k_pair_of_line := k_pair_of_line,
    B_pair_of_line := B_pair_of_line,
    F_require_payload := F_require_payload,
    g_require_payload := PySem.W.mg_of X Gn a_require_payload,
    k_require_payload := k_require_payload,
    B_require_payload := B_require_payload,
    F_is_payload := F_is_payload,
    g_is_payload := PySem.W.mg_of X Gn a_is_payload,
    k_is_payload := k_is_payload,
    B_is_payload := B_is_payload,
    F_frame_of := F_frame_of,
    g_frame_of := PySem.W.mg_of X Gn a_frame_of,
    k_frame_of := k_frame_of,
    B_frame_of := B_frame_of,
    F_read_line := F_read_line,
    g_read_line := PySem.W.mg_of X Gn a_read_line,
    k_read_line := k_read_line,
    B_read_line := B_read_line,
    F__law_dice := F__law_dice,
    g__law_dice := PySem.W.mg_of X Gn a__law_dice,
    k__law_dice := k__law_dice,
    B__law_dice := B__law_dice,
    F__law_roll := F__law_roll,
    g__law_roll := PySem.W.mg_of X Gn a__law_roll,
    k__law_roll := k__law_roll,
    B__law_roll := B__law_roll,
    F__law_pick := F__law_pick,
    g__law_pick := PySem.W.mg_of X Gn a__law_pick,
    k__law_pick := k__law_pick,
    B__law_pick := B__law_pick,
    F__law_check := F__law_check,
    g__law_check := PySem.W.mg_of X Gn a__law_check,
    k__law_check := k__law_check,
    B__law_check := B__law_check,
    F__law_line := F__law_line,
    g__law_line := PySem.W.mg_of X Gn a__law_line,
    k__law_line := k__law_line,
    B__law_line := B__law_line,
    F__law_number := F__law_number,
    g__law_number := PySem.W.mg_of X Gn a__law_number,
    k__law_number := k__law_number,
    B__law_number := B__law_number,
    F__law_payload := F__law_payload,
    g__law_payload := PySem.W.mg_of X Gn a__law_payload,
    k__law_payload := k__law_payload,
    B__law_payload := B__law_payload,
    F__law_read := F__law_read,
    g__law_read := PySem.W.mg_of X Gn a__law_read,
    k__law_read := k__law_read,
    B__law_read := B__law_read,
    F__law_frame_right := F__law_frame_right,
    g__law_frame_right := PySem.W.mg_of X Gn a__law_frame_right,
    k__law_frame_right := k__law_frame_right,
    B__law_frame_right := B__law_frame_right,
    F__law_word := F__law_word,
    g__law_word := PySem.W.mg_of X Gn a__law_word,
    k__law_word := k__law_word,
    B__law_word := B__law_word,
    F__law_right := F__law_right,
    g__law_right := PySem.W.mg_of X Gn a__law_right,
    k__law_right := k__law_right,
    B__law_right := B__law_right,
    F_law := F_law,
    g_law := PySem.W.mg_of X Gn a_law,
    k_law := k_law,
    B_law := B_law,
    b_abs := PySem.W.mg_none_of X Gn z_abs,
    b_all := PySem.W.mg_none_of X Gn z_all,
    b_bool := PySem.W.mg_none_of X Gn z_bool,
    b_enumerate := PySem.W.mg_none_of X Gn z_enumerate,
    b_int := PySem.W.mg_none_of X Gn z_int,
    b_isinstance := PySem.W.mg_none_of X Gn z_isinstance,
    b_len := PySem.W.mg_none_of X Gn z_len,
    b_max := PySem.W.mg_none_of X Gn z_max,
    b_min := PySem.W.mg_none_of X Gn z_min,
    b_ord := PySem.W.mg_none_of X Gn z_ord,
    b_range := PySem.W.mg_none_of X Gn z_range,
    b_repr := PySem.W.mg_none_of X Gn z_repr,
    b_str := PySem.W.mg_none_of X Gn z_str,
    b_sum := PySem.W.mg_none_of X Gn z_sum,
    c_BETWEEN := ⟨_, PySem.W.mg_of X Gn cc_BETWEEN⟩,
    c_CHECKED := ⟨_, PySem.W.mg_of X Gn cc_CHECKED⟩,
    c_CHECK_PRIME := ⟨_, PySem.W.mg_of X Gn cc_CHECK_PRIME⟩,
    c_END := ⟨_, PySem.W.mg_of X Gn cc_END⟩,
    c_FIGURES := ⟨_, PySem.W.mg_of X Gn cc_FIGURES⟩,
    c_FIRST_SIGN := ⟨_, PySem.W.mg_of X Gn cc_FIRST_SIGN⟩,
    c_LAST_SIGN := ⟨_, PySem.W.mg_of X Gn cc_LAST_SIGN⟩,
    c_MOST_FRAME := ⟨_, PySem.W.mg_of X Gn cc_MOST_FRAME⟩,
    c_MOST_PAYLOAD := ⟨_, PySem.W.mg_of X Gn cc_MOST_PAYLOAD⟩,
    g_RowError := PySem.W.mg_of X Gn ac_RowError,
    k_RowError := kc_RowError,
    xb_RowError := xb_RowError,
    xt_RowError := xt_RowError,
    g_InvalidOperation := PySem.W.mg_of X Gn ac_InvalidOperation,
    k_InvalidOperation := kc_InvalidOperation,
    xb_InvalidOperation := xb_InvalidOperation,
    xt_InvalidOperation := xt_InvalidOperation,
    g_ParseError := PySem.W.mg_of X Gn ac_ParseError,
    k_ParseError := kc_ParseError,
    xb_ParseError := xb_ParseError,
    xt_ParseError := xt_ParseError,
    g_InvalidNumber := PySem.W.mg_of X Gn ac_InvalidNumber,
    k_InvalidNumber := kc_InvalidNumber,
    xb_InvalidNumber := xb_InvalidNumber,
    xt_InvalidNumber := xt_InvalidNumber,
    x_InvalidOperation := xc_InvalidOperation,
    e_InvalidNumber := { gC := PySem.W.mg_of X Gn ac_InvalidNumber, cls := ⟨_, _, _, _, _, _, _, _, _, _, _, _, _, xl_InvalidNumber⟩, base := PySem.F.excBase_IndexError, stf := PySem.F.store_IndexError, over := over_mk xl_InvalidNumber, tak := tk_InvalidNumber, sa := sa_InvalidNumber, iC := ia_InvalidNumber, tC := it_InvalidNumber, kC := kc_InvalidNumber, exC := xb_InvalidNumber, tyC := xt_InvalidNumber, fn := ⟨_, _, _, _, _, _, _, _, _, _, _, _, _, _, _, il_InvalidNumber, ie_InvalidNumber⟩ },
    x_ParseError := xc_ParseError,
    s_ParseError := fun n C h => look_all (l := [("RowError", c_RowError), ("InvalidOperation", c_InvalidOperation), ("ParseError", c_ParseError), ("InvalidNumber", c_InvalidNumber)]) (Pr := fun n C => PySem.W.exmOne K (.ref C) (.ref c_ParseError) = some ((["ParseError"] : List Str).contains n)) (by intro p hp; simp only [List.mem_cons, List.not_mem_nil, or_false] at hp; rcases hp with rfl | rfl | rfl | rfl; (all_goals dsimp only); exact (exm_pair xb_ParseError ic_ParseError xt_ParseError em_ParseError_RowError).trans (congrArg some (by decide)); exact (exm_pair xb_ParseError ic_ParseError xt_ParseError em_ParseError_InvalidOperation).trans (congrArg some (by decide)); exact (exm_pair xb_ParseError ic_ParseError xt_ParseError em_ParseError_ParseError).trans (congrArg some (by decide)); exact (exm_pair xb_ParseError ic_ParseError xt_ParseError em_ParseError_InvalidNumber).trans (congrArg some (by decide))) h,
    s_InvalidNumber := fun n C h => look_all (l := [("RowError", c_RowError), ("InvalidOperation", c_InvalidOperation), ("ParseError", c_ParseError), ("InvalidNumber", c_InvalidNumber)]) (Pr := fun n C => PySem.W.exmOne K (.ref C) (.ref c_InvalidNumber) = some ((["InvalidNumber"] : List Str).contains n)) (by intro p hp; simp only [List.mem_cons, List.not_mem_nil, or_false] at hp; rcases hp with rfl | rfl | rfl | rfl; (all_goals dsimp only); exact (exm_pair xb_InvalidNumber ic_InvalidNumber xt_InvalidNumber em_InvalidNumber_RowError).trans (congrArg some (by decide)); exact (exm_pair xb_InvalidNumber ic_InvalidNumber xt_InvalidNumber em_InvalidNumber_InvalidOperation).trans (congrArg some (by decide)); exact (exm_pair xb_InvalidNumber ic_InvalidNumber xt_InvalidNumber em_InvalidNumber_ParseError).trans (congrArg some (by decide)); exact (exm_pair xb_InvalidNumber ic_InvalidNumber xt_InvalidNumber em_InvalidNumber_InvalidNumber).trans (congrArg some (by decide))) h,
    s_InvalidOperation := fun n C h => look_all (l := [("RowError", c_RowError), ("InvalidOperation", c_InvalidOperation), ("ParseError", c_ParseError), ("InvalidNumber", c_InvalidNumber)]) (Pr := fun n C => PySem.W.exmOne K (.ref C) (.ref c_InvalidOperation) = some ((["InvalidOperation"] : List Str).contains n)) (by intro p hp; simp only [List.mem_cons, List.not_mem_nil, or_false] at hp; rcases hp with rfl | rfl | rfl | rfl; (all_goals dsimp only); exact (exm_pair xb_InvalidOperation ic_InvalidOperation xt_InvalidOperation em_InvalidOperation_RowError).trans (congrArg some (by decide)); exact (exm_pair xb_InvalidOperation ic_InvalidOperation xt_InvalidOperation em_InvalidOperation_InvalidOperation).trans (congrArg some (by decide)); exact (exm_pair xb_InvalidOperation ic_InvalidOperation xt_InvalidOperation em_InvalidOperation_ParseError).trans (congrArg some (by decide)); exact (exm_pair xb_InvalidOperation ic_InvalidOperation xt_InvalidOperation em_InvalidOperation_InvalidNumber).trans (congrArg some (by decide))) h,
    F_InvalidNumber := fun n C h => look_all (l := [("RowError", c_RowError), ("InvalidOperation", c_InvalidOperation), ("ParseError", c_ParseError), ("InvalidNumber", c_InvalidNumber)]) (Pr := fun m C => (["InvalidNumber"] : List Str).contains m = true → ErrF K C "value") (by intro p hp; simp only [List.mem_cons, List.not_mem_nil, or_false] at hp; rcases hp with rfl | rfl | rfl | rfl; (all_goals dsimp only); exact fun z => absurd z (by decide); exact fun z => absurd z (by decide); exact fun z => absurd z (by decide); exact fun _ => ⟨ga_InvalidNumber, gg_InvalidNumber, gn_InvalidNumber, xb_InvalidNumber, hd_InvalidNumber⟩) h,
    tb__law_right := tb,
    cd__law_right := rfl }
  refine ⟨_, [(q__law_right, p__law_right)], spOf (gOf K ⟨f_is_integer, _, f_is_between, _, f_check_in, _, f_is_payload_text, _, f_line_of, _, f_figures_ahead, _, f_pair_of_line, _, f_require_payload, _, f_is_payload, _, f_frame_of, _, f_read_line, _, f__law_dice, _, f__law_roll, _, f__law_pick, _, f__law_check, _, f__law_line, _, f__law_number, _, f__law_payload, _, f__law_read, _, f__law_frame_right, _, f__law_word, _, f__law_right, _, fa, _, c_RowError, c_InvalidOperation, c_ParseError, c_InvalidNumber, i_InvalidNumber, q__law_right, p__law_right⟩) 1 m_law, (List.forall_mem_cons.mpr ⟨ht__law_right, (fun p hp => nomatch hp)⟩), (List.forall_mem_cons.mpr ⟨nt__law_right, (fun p hp => nomatch hp)⟩), (List.forall_mem_cons.mpr ⟨PySem.W.codeHd_of_K X hq__law_right, (fun p hp => nomatch hp)⟩), fun s u => .of_eq rfl, fun H a ns hl hb ht hP => ?_, fun base hb hn htb => ok_law (TX base (htb (q__law_right, p__law_right) (by simp)))⟩
  obtain ⟨S, eS⟩ := law_plain ns hl hb
  refine ⟨rfl, [], [], [.fz (ns.map D.int)], ⟨rfl, List.nodup_nil, fun i c a e1 _ => by simp at e1, fun p hp => by
    obtain ⟨z, hz, ez⟩ : ∃ z, z ∈ ([(q__law_right, p__law_right)] : List (Addr × Addr)) ∧ z.2 = p.1 := by
      simp only [gOf, List.mem_cons, List.not_mem_nil, or_false] at hp
      subst hp; exact ⟨_, List.mem_cons_self, rfl⟩
    exact TabS.nil (by rw [← ez]; exact ht z hz)⟩, .cons (.fz hP (rp_ints ns)) .nil, ?_⟩
  rw [eS]
  intro v H' ι' _ _ r
  cases r
  rfl
end K51
end FW
open PySem PySem.W PyProof.Rows in
set_option maxHeartbeats 0 in
theorem PySem.Challenge.cw_firmwide_k51_whole_great_frames_and_near_holds : PySem.Challenge.rw_firmwide_k51_whole_great_frames_and_near.Holds := by
  w_on; o_law; k_head; (case hw => w_witness2)
  k_fill
  refine FW.walk_ofG (l := PySem.Challenge.rw_firmwide_k51_whole_great_frames_and_near) (n := 63) (k := 8) (x := "script") rfl (by decide) rfl ⟨rfl, by decide, by decide⟩ (fun w h Y => PySem.W.km_in_of Y) ?F
  case F =>
    intro w mg fa h Y KX G hmg
    refine' FW.K51.all_mk KX G hmg ?a_is_integer ?l_is_integer ?e_is_integer ?k_is_integer ?a_is_between ?l_is_between ?e_is_between ?k_is_between ?a_check_in ?l_check_in ?e_check_in ?k_check_in ?a_is_payload_text ?l_is_payload_text ?e_is_payload_text ?k_is_payload_text ?a_line_of ?l_line_of ?e_line_of ?k_line_of ?a_figures_ahead ?l_figures_ahead ?e_figures_ahead ?k_figures_ahead ?a_pair_of_line ?l_pair_of_line ?e_pair_of_line ?k_pair_of_line ?a_require_payload ?l_require_payload ?e_require_payload ?k_require_payload ?a_is_payload ?l_is_payload ?e_is_payload ?k_is_payload ?a_frame_of ?l_frame_of ?e_frame_of ?k_frame_of ?a_read_line ?l_read_line ?e_read_line ?k_read_line ?a__law_dice ?l__law_dice ?e__law_dice ?k__law_dice ?a__law_roll ?l__law_roll ?e__law_roll ?k__law_roll ?a__law_pick ?l__law_pick ?e__law_pick ?k__law_pick ?a__law_check ?l__law_check ?e__law_check ?k__law_check ?a__law_line ?l__law_line ?e__law_line ?k__law_line ?a__law_number ?l__law_number ?e__law_number ?k__law_number ?a__law_payload ?l__law_payload ?e__law_payload ?k__law_payload ?a__law_read ?l__law_read ?e__law_read ?k__law_read ?a__law_frame_right ?l__law_frame_right ?e__law_frame_right ?k__law_frame_right ?a__law_word ?l__law_word ?e__law_word ?k__law_word ?a__law_right ?l__law_right ?e__law_right ?k__law_right ?a_law ?l_law ?e_law ?k_law ?z_abs ?z_all ?z_bool ?z_enumerate ?z_int ?z_isinstance ?z_len ?z_max ?z_min ?z_ord ?z_range ?z_repr ?z_str ?z_sum ?cc_BETWEEN ?cc_CHECKED ?cc_CHECK_PRIME ?cc_END ?cc_FIGURES ?cc_FIRST_SIGN ?cc_LAST_SIGN ?cc_MOST_FRAME ?cc_MOST_PAYLOAD ?ac_RowError ?kc_RowError ?xb_RowError ?xt_RowError ?ac_InvalidOperation ?kc_InvalidOperation ?xb_InvalidOperation ?xt_InvalidOperation ?ac_ParseError ?kc_ParseError ?xb_ParseError ?xt_ParseError ?ac_InvalidNumber ?kc_InvalidNumber ?xb_InvalidNumber ?xt_InvalidNumber ?xl_InvalidNumber ?tk_InvalidNumber ?sa_InvalidNumber ?ia_InvalidNumber ?it_InvalidNumber ?il_InvalidNumber ?ie_InvalidNumber ?xc_InvalidOperation ?xc_ParseError ?ic_ParseError ?em_ParseError_RowError ?em_ParseError_InvalidOperation ?em_ParseError_ParseError ?em_ParseError_InvalidNumber ?ic_InvalidNumber ?em_InvalidNumber_RowError ?em_InvalidNumber_InvalidOperation ?em_InvalidNumber_ParseError ?em_InvalidNumber_InvalidNumber ?ic_InvalidOperation ?em_InvalidOperation_RowError ?em_InvalidOperation_InvalidOperation ?em_InvalidOperation_ParseError ?em_InvalidOperation_InvalidNumber ?ga_InvalidNumber ?gg_InvalidNumber ?gn_InvalidNumber ?hd_InvalidNumber ?hq__law_right ?nt__law_right (PySem.W.km_tabs_of Y _ (by first | exact List.mem_cons_self | simp))
    (case a_is_integer => k_is); (case l_is_integer => k_is); (case e_is_integer => k_is); (case k_is_integer => k_is); (case a_is_between => k_is); (case l_is_between => k_is)
    (case e_is_between => k_is); (case k_is_between => k_is); (case a_check_in => k_is); (case l_check_in => k_is); (case e_check_in => k_is); (case k_check_in => k_is)
    (case a_is_payload_text => k_is); (case l_is_payload_text => k_is); (case e_is_payload_text => k_is); (case k_is_payload_text => k_is); (case a_line_of => k_is); (case l_line_of => k_is)
    (case e_line_of => k_is); (case k_line_of => k_is); (case a_figures_ahead => k_is); (case l_figures_ahead => k_is); (case e_figures_ahead => k_is); (case k_figures_ahead => k_is)
    (case a_pair_of_line => k_is); (case l_pair_of_line => k_is); (case e_pair_of_line => k_is); (case k_pair_of_line => k_is); (case a_require_payload => k_is); (case l_require_payload => k_is)
    (case e_require_payload => k_is); (case k_require_payload => k_is); (case a_is_payload => k_is); (case l_is_payload => k_is); (case e_is_payload => k_is); (case k_is_payload => k_is)
    (case a_frame_of => k_is); (case l_frame_of => k_is); (case e_frame_of => k_is); (case k_frame_of => k_is); (case a_read_line => k_is); (case l_read_line => k_is)
    (case e_read_line => k_is); (case k_read_line => k_is); (case a__law_dice => k_is); (case l__law_dice => k_is); (case e__law_dice => k_is); (case k__law_dice => k_is)
    (case a__law_roll => k_is); (case l__law_roll => k_is); (case e__law_roll => k_is); (case k__law_roll => k_is); (case a__law_pick => k_is); (case l__law_pick => k_is)
    (case e__law_pick => k_is); (case k__law_pick => k_is); (case a__law_check => k_is); (case l__law_check => k_is); (case e__law_check => k_is); (case k__law_check => k_is)
    (case a__law_line => k_is); (case l__law_line => k_is); (case e__law_line => k_is); (case k__law_line => k_is); (case a__law_number => k_is); (case l__law_number => k_is)
    (case e__law_number => k_is); (case k__law_number => k_is); (case a__law_payload => k_is); (case l__law_payload => k_is); (case e__law_payload => k_is); (case k__law_payload => k_is)
    (case a__law_read => k_is); (case l__law_read => k_is); (case e__law_read => k_is); (case k__law_read => k_is); (case a__law_frame_right => k_is); (case l__law_frame_right => k_is)
    (case e__law_frame_right => k_is); (case k__law_frame_right => k_is); (case a__law_word => k_is); (case l__law_word => k_is); (case e__law_word => k_is); (case k__law_word => k_is)
    (case a__law_right => k_is); (case l__law_right => k_is); (case e__law_right => k_is); (case k__law_right => k_is); (case a_law => k_is); (case l_law => k_is)
    (case e_law => k_is); (case k_law => k_is); (case z_abs => k_is); (case z_all => k_is); (case z_bool => k_is); (case z_enumerate => k_is)
    (case z_int => k_is); (case z_isinstance => k_is); (case z_len => k_is); (case z_max => k_is); (case z_min => k_is); (case z_ord => k_is)
    (case z_range => k_is); (case z_repr => k_is); (case z_str => k_is); (case z_sum => k_is); (case cc_BETWEEN => k_is); (case cc_CHECKED => k_is)
    (case cc_CHECK_PRIME => k_is); (case cc_END => k_is); (case cc_FIGURES => k_is); (case cc_FIRST_SIGN => k_is); (case cc_LAST_SIGN => k_is); (case cc_MOST_FRAME => k_is)
    (case cc_MOST_PAYLOAD => k_is); (case ac_RowError => k_is); (case kc_RowError => k_is); (case xb_RowError => k_is); (case xt_RowError => k_is); (case ac_InvalidOperation => k_is)
    (case kc_InvalidOperation => k_is); (case xb_InvalidOperation => k_is); (case xt_InvalidOperation => k_is); (case ac_ParseError => k_is); (case kc_ParseError => k_is); (case xb_ParseError => k_is)
    (case xt_ParseError => k_is); (case ac_InvalidNumber => k_is); (case kc_InvalidNumber => k_is); (case xb_InvalidNumber => k_is); (case xt_InvalidNumber => k_is); (case xl_InvalidNumber => k_is)
    (case tk_InvalidNumber => k_is); (case sa_InvalidNumber => k_is); (case ia_InvalidNumber => k_is); (case it_InvalidNumber => k_is); (case il_InvalidNumber => k_is); (case ie_InvalidNumber => k_is)
    (case xc_InvalidOperation => k_exc); (case xc_ParseError => k_exc); (case ic_ParseError => k_is); (case em_ParseError_RowError => k_is); (case em_ParseError_InvalidOperation => k_is); (case em_ParseError_ParseError => k_is)
    (case em_ParseError_InvalidNumber => k_is); (case ic_InvalidNumber => k_is); (case em_InvalidNumber_RowError => k_is); (case em_InvalidNumber_InvalidOperation => k_is); (case em_InvalidNumber_ParseError => k_is); (case em_InvalidNumber_InvalidNumber => k_is)
    (case ic_InvalidOperation => k_is); (case em_InvalidOperation_RowError => k_is); (case em_InvalidOperation_InvalidOperation => k_is); (case em_InvalidOperation_ParseError => k_is); (case em_InvalidOperation_InvalidNumber => k_is); (case ga_InvalidNumber => k_is)
    (case gg_InvalidNumber => k_is); (case gn_InvalidNumber => k_is); (case hd_InvalidNumber => k_is); (case hq__law_right => kernel_rfl); (case nt__law_right => kernel_rfl)

