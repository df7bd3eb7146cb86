import PyProof.Rows.All
import Wide.All
import OpenK.AllK
import Wide.FinOn
import HandS.ForMost
import HandS.Exc
import HandS.TryOnly
import HandS.ExcOwn
import HandS.WordsExc
import HandS.ExcValue
import HandS.CallSlots
import HandS.Wide
import HandS.Zip
import HandS.TupAny
import HandS.EndBits
import HandS.IsInst
import HandS.TupMul
import KE.GoesNew
import KE.GoesMore
import KE.DatumOrd
import HandS.WideBits
import HandS.ExcIs
import HandS.ExcBuiltin
import HandS.ClsMeth
import HandS.Conv
import HandS.Defaults
import HandS.Style
import PySem.Challenge.RW_mendweights_k22_nearest_walked
set_option Elab.async false
set_option linter.all false
set_option maxRecDepth 100000
set_option maxHeartbeats 4000000
/-! A layer of plain values over the hand layer: data D, what bears them, what an expression and a statement make of them as plain functions. -/
namespace VS
open PySem L2
inductive D where
  | non | bl (b : Bool) | int (i : Int) | str (x : Str) | tup (xs : List D) | lst (xs : List D) | obj (n : Nat) | exc (c : Str) (p : Option Int) | rob (c : Str) (ns : List Str) (xs : List D)
/-- a slot: nothing, a datum that stays, a list of one's own -/
inductive Sl where
  | un | fr (d : D) | ow (ds : List D)
structure Ob where
  cls : Str
  fs : List (Str × Sl)
structure S where
  r : List Sl
  st : List Ob
  al : Bool
abbrev Own := Sum Nat (Nat × Str)
structure Gx where
  K : PySem.W.Frag
  cls : Str → Option Addr
/-- a caught exception's object, kept -/
def excHO (C : Addr) (d : Option Addr) (a : Addr) : HO := .ext fun h => ∃ (oe : Obj) (vs : Array Value), h.get? a = some oe ∧ Zc (.ref C) d oe ∧ oe.data = .fields vs
def ExcAt (G : Gx) (F : Hp) (a : Addr) (c : Str) (p : Option Int) : Prop :=
  ∃ C d, G.cls c = some C ∧ F a = some (excHO C d a) ∧ match p with
    | none => d = none
    | some i => ∃ dx f, d = some dx ∧ F dx = some (.xd [(f, .int i)])
mutual
inductive Dat (G : Gx) (m : List Addr) (F : Hp) : V → D → Prop
  | non : Dat G m F .non .non
  | bl (b : Bool) : Dat G m F (.bl b) (.bl b)
  | int (i : Int) : Dat G m F (.int i) (.int i)
  | str (x : Str) : Dat G m F (.str x) (.str x)
  | tup {a : Addr} {vs : List V} {ds : List D} : SqT G.K F a vs → DatL G m F vs ds → Dat G m F (.ref a) (.tup ds)
  | lst {a : Addr} {vs : List V} {ds : List D} : SqL G.K F a vs → DatL G m F vs ds → Dat G m F (.ref a) (.lst ds)
  | obj {a : Addr} {n : Nat} : m[n]? = some a → Dat G m F (.ref a) (.obj n)
  | exc {a : Addr} {c : Str} {p : Option Int} : ExcAt G F a c p → Dat G m F (.ref a) (.exc c p)
  | rob {a C dx : Addr} {fs : List (Str × V)} {vs : List V} {c : Str} {ns : List Str} {ds : List D} : G.cls c = some C → F a = some (.ins C dx fs) → (∀ f, fs.lookup f = (ns.zip vs).lookup f) → DatL G m F vs ds → Dat G m F (.ref a) (.rob c ns ds)
inductive DatL (G : Gx) (m : List Addr) (F : Hp) : List V → List D → Prop
  | nil : DatL G m F [] []
  | cons {v : V} {vs : List V} {d : D} {ds : List D} : Dat G m F v d → DatL G m F vs ds → DatL G m F (v :: vs) (d :: ds)
end
theorem same_seqT {K : PySem.W.Frag} {H H' : Hp} {a : Addr} {xs : List V} (e : Same H H') (h : SqT K H a xs) : SqT K H' a xs := by
  rcases h with (h | ⟨o, h⟩) | h
  · exact Or.inl (Or.inl (e _ _ h))
  · exact Or.inl (Or.inr ⟨o, e _ _ h⟩)
  · exact Or.inr h
theorem ExcAt.mono {G : Gx} {F F' : Hp} {a : Addr} {c : Str} {p : Option Int} (e : Same F F') (h : ExcAt G F a c p) : ExcAt G F' a c p := by
  obtain ⟨C, d, h1, h2, h3⟩ := h
  refine ⟨C, d, h1, e _ _ h2, ?_⟩
  cases p with
  | none => exact h3
  | some i =>
    obtain ⟨dx, f, h4, h5⟩ := h3
    exact ⟨dx, f, h4, e _ _ h5⟩
/-- the objects' addresses: more of them -/
def Pre (m m' : List Addr) : Prop := ∀ (n : Nat) (a : Addr), m[n]? = some a → m'[n]? = some a
theorem Pre.refl (m : List Addr) : Pre m m := fun _ _ h => h
theorem Pre.trans {a b c : List Addr} (h : Pre a b) (h' : Pre b c) : Pre a c := fun n x e => h' n x (h n x e)
mutual
theorem Dat.mono {G : Gx} {m m' : List Addr} {F F' : Hp} (e : Same F F') (pm : Pre m m') : ∀ {v : V} {d : D}, Dat G m F v d → Dat G m' F' v d
  | _, _, .non => .non
  | _, _, .bl b => .bl b
  | _, _, .int i => .int i
  | _, _, .str x => .str x
  | _, _, .tup h t => .tup (same_seqT e h) (DatL.mono e pm t)
  | _, _, .lst h t => .lst (e.seq h) (DatL.mono e pm t)
  | _, _, .obj h => .obj (pm _ _ h)
  | _, _, .exc h => .exc (h.mono e)
  | _, _, .rob h1 h2 h3 t => .rob h1 (e _ _ h2) h3 (DatL.mono e pm t)
theorem DatL.mono {G : Gx} {m m' : List Addr} {F F' : Hp} (e : Same F F') (pm : Pre m m') : ∀ {vs : List V} {ds : List D}, DatL G m F vs ds → DatL G m' F' vs ds
  | _, _, .nil => .nil
  | _, _, .cons h t => .cons (Dat.mono e pm h) (DatL.mono e pm t)
end
section
variable {G : Gx} {m : List Addr} {F : Hp}
theorem DatL.length : ∀ {vs : List V} {ds : List D}, DatL G m F vs ds → vs.length = ds.length
  | _, _, .nil => rfl
  | _, _, .cons _ t => by rw [List.length_cons, List.length_cons, DatL.length t]
theorem DatL.append : ∀ {vs us : List V} {ds es : List D}, DatL G m F vs ds → DatL G m F us es → DatL G m F (vs ++ us) (ds ++ es)
  | _, _, _, _, .nil, h => h
  | _, _, _, _, .cons h t, h' => .cons h (DatL.append t h')
theorem DatL.get : ∀ {vs : List V} {ds : List D} {i : Nat} {d : D}, DatL G m F vs ds → ds[i]? = some d → ∃ v, vs[i]? = some v ∧ Dat G m F v d
  | _, _, _, _, .nil, e => by simp at e
  | _, _, 0, _, .cons h _, e => by simp at e; subst e; exact ⟨_, rfl, h⟩
  | _, _, i + 1, d, .cons _ t, e => by
    obtain ⟨v, h1, h2⟩ := DatL.get (i := i) (d := d) t (by simpa using e)
    exact ⟨v, by simpa using h1, h2⟩
theorem DatL.getv : ∀ {vs : List V} {ds : List D} {i : Nat} {v : V}, DatL G m F vs ds → vs[i]? = some v → ∃ d, ds[i]? = some d ∧ Dat G m F v d
  | _, _, _, _, .nil, e => by simp at e
  | _, _, 0, _, .cons h _, e => by simp at e; subst e; exact ⟨_, rfl, h⟩
  | _, _, i + 1, v, .cons _ t, e => by
    obtain ⟨d, h1, h2⟩ := DatL.getv (i := i) (v := v) t (by simpa using e)
    exact ⟨d, by simpa using h1, h2⟩
theorem DatL.set {v : V} {d : D} (h : Dat G m F v d) : ∀ {vs : List V} {ds : List D} (i : Nat), DatL G m F vs ds → DatL G m F (vs.set i v) (ds.set i d)
  | _, _, _, .nil => .nil
  | _, _, 0, .cons _ t => .cons h t
  | _, _, i + 1, .cons q t => .cons q (DatL.set h i t)
theorem DatL.take : ∀ {vs : List V} {ds : List D} (n : Nat), DatL G m F vs ds → DatL G m F (vs.take n) (ds.take n)
  | _, _, 0, _ => by simp only [List.take_zero]; exact .nil
  | _, _, n + 1, .nil => by simp only [List.take_nil]; exact .nil
  | _, _, n + 1, .cons h t => .cons h (DatL.take n t)
theorem DatL.drop : ∀ {vs : List V} {ds : List D} (n : Nat), DatL G m F vs ds → DatL G m F (vs.drop n) (ds.drop n)
  | _, _, 0, h => h
  | _, _, n + 1, .nil => by simp only [List.drop_nil]; exact .nil
  | _, _, n + 1, .cons _ t => DatL.drop n t
end
/-! ### the state -/
def slO : Option Sl → Option (List D)
  | some (.ow ds) => some ds
  | _ => none
def ownAt (s : S) : Own → Option (List D)
  | .inl i => slO s.r[i]?
  | .inr (n, f) => match s.st[n]? with
    | some ob => slO (ob.fs.lookup f)
    | none => none
def CellR (G : Gx) (B F : Hp) (m : List Addr) (H : Hp) (p : Addr) (ds : List D) : Prop := F p = none ∧ B p = none ∧ ∃ vs, H p = some (.lst vs) ∧ DatL G m F vs ds
def SlR (G : Gx) (F : Hp) (m : List Addr) (p : Addr) (x : Option (Option V)) : Sl → Prop
  | .un => True
  | .fr d => ∃ v, x = some (some v) ∧ Dat G m F v d
  | .ow _ => x = some (some (.ref p))
def FlR (G : Gx) (F : Hp) (m : List Addr) (p : Addr) (x : Option V) : Option Sl → Prop
  | none => x = none
  | some .un => False
  | some (.fr d) => ∃ v, x = some v ∧ Dat G m F v d
  | some (.ow _) => x = some (.ref p)
structure ObR (G : Gx) (B F : Hp) (m : List Addr) (oa : Own → Addr) (H : Hp) (n : Nat) (ob : Ob) : Prop where
  ex : ∃ a C dx fs, m[n]? = some a ∧ G.cls ob.cls = some C ∧ H a = some (.ins C dx fs) ∧ F a = none ∧ B a = none ∧ fs.length ≤ ob.fs.length ∧ ∀ f, FlR G F m (oa (.inr (n, f))) (fs.lookup f) (ob.fs.lookup f)
structure Rel (G : Gx) (B F : Hp) (m : List Addr) (oa : Own → Addr) (σ : St) (H : Hp) (s : S) : Prop where
  fh : Same F H
  bh : Same B H
  fb : ∀ b, F b ≠ none → B b = none
  len : σ.length = s.r.length
  slot : ∀ (i : Nat) (sl : Sl), s.r[i]? = some sl → SlR G F m (oa (.inl i)) σ[i]? sl
  cell : ∀ x ds, ownAt s x = some ds → CellR G B F m H (oa x) ds
  inj : ∀ x y ds es, ownAt s x = some ds → ownAt s y = some es → oa x = oa y → x = y
  obj : ∀ n ob, s.st[n]? = some ob → ObR G B F m oa H n ob
  ml : s.al = true → m.length = s.st.length
  mnd : m.Nodup
section
variable {G : Gx} {B F : Hp} {m : List Addr} {oa : Own → Addr} {σ : St} {H : Hp} {s : S}
/-- a new object, frozen -/
theorem Rel.fresh (R : Rel G B F m oa σ H s) {p : Addr} (h : H p = none) : F p = none ∧ B p = none := ⟨R.fh.free h, R.bh.free h⟩
theorem same_upd {F : Hp} {p : Addr} {o : HO} (h : F p = none) : Same F (upd F p o) := fun b u e => by
  rw [upd_ne (ne_of_none e h)]; exact e
theorem FlR.mono {F' : Hp} {m' : List Addr} {p : Addr} {x : Option V} {sl : Option Sl} (e : Same F F') (pm : Pre m m') (h : FlR G F m p x sl) : FlR G F' m' p x sl := by
  cases sl with
  | none => exact h
  | some sl =>
    cases sl with
    | un => exact h
    | fr d => obtain ⟨v, h1, h2⟩ := h; exact ⟨v, h1, h2.mono e pm⟩
    | ow ds => exact h
theorem SlR.mono {F' : Hp} {m' : List Addr} {p : Addr} {x : Option (Option V)} {sl : Sl} (e : Same F F') (pm : Pre m m') (h : SlR G F m p x sl) : SlR G F' m' p x sl := by
  cases sl with
  | un => exact h
  | fr d => obtain ⟨v, h1, h2⟩ := h; exact ⟨v, h1, h2.mono e pm⟩
  | ow ds => exact h
/-- the heap and what is frozen grow: owned cells and instances stand -/
theorem Rel.grow (R : Rel G B F m oa σ H s) {F' H' : Hp} (ff : Same F F') (fh : Same F' H') (bh : Same B H') (fb : ∀ b, F' b ≠ none → B b = none)
    (keep : ∀ b o, F b = none → B b = none → H b = some o → H' b = some o ∧ F' b = none) : Rel G B F' m oa σ H' s where
  fh := fh
  bh := bh
  fb := fb
  len := R.len
  slot := fun i sl e => (R.slot i sl e).mono ff (Pre.refl _)
  cell := fun x ds e => by
    obtain ⟨h1, h2, vs, h3, h4⟩ := R.cell x ds e
    obtain ⟨k1, k2⟩ := keep _ _ h1 h2 h3
    exact ⟨k2, h2, vs, k1, h4.mono ff (Pre.refl _)⟩
  inj := R.inj
  obj := fun n ob e => by
    obtain ⟨a, C, dx, fs, h1, h2, h3, h4, h5, h6, h7⟩ := (R.obj n ob e).ex
    obtain ⟨k1, k2⟩ := keep _ _ h4 h5 h3
    exact ⟨⟨a, C, dx, fs, h1, h2, k1, k2, h5, h6, fun f => (h7 f).mono ff (Pre.refl _)⟩⟩
  ml := R.ml
  mnd := R.mnd
theorem Rel.new (R : Rel G B F m oa σ H s) {p : Addr} (h : H p = none) (o : HO) : Rel G B (upd F p o) m oa σ (upd H p o) s := by
  obtain ⟨hf, hb⟩ := R.fresh h
  refine R.grow (same_upd hf) (fun b u e => ?_) (fun b u e => ?_) (fun b e => ?_) (fun b u h1 h2 h3 => ?_)
  · by_cases hbp : b = p
    · subst hbp; rw [upd_same] at e ⊢; exact e
    · rw [upd_ne hbp] at e ⊢; exact R.fh b u e
  · rw [upd_ne (ne_of_none e hb)]; exact R.bh b u e
  · by_cases hbp : b = p
    · subst hbp; exact hb
    · rw [upd_ne hbp] at e; exact R.fb b e
  · have hne := ne_of_none h3 h
    rw [upd_ne hne, upd_ne hne]; exact ⟨h3, h1⟩
/-- a new object, not frozen, in the frame B -/
theorem Rel.newB (R : Rel G B F m oa σ H s) {p : Addr} (h : H p = none) (o : HO) : Rel G (upd B p o) F m oa σ (upd H p o) s := by
  obtain ⟨hf, hb⟩ := R.fresh h
  have ne : ∀ b u, H b = some u → b ≠ p := fun b u e => ne_of_none e h
  exact
  { fh := fun b u e => by rw [upd_ne (ne _ _ (R.fh b u e))]; exact R.fh b u e
    bh := fun b u e => by
      by_cases hbp : b = p
      · subst hbp; rw [upd_same] at e ⊢; exact e
      · rw [upd_ne hbp] at e ⊢; exact R.bh b u e
    fb := fun b e => by
      have hbp : b ≠ p := fun z => e (z ▸ hf)
      rw [upd_ne hbp]; exact R.fb b e
    len := R.len
    slot := R.slot
    cell := fun x ds e => by
      obtain ⟨h1, h2, vs, h3, h4⟩ := R.cell x ds e
      exact ⟨h1, by rw [upd_ne (ne _ _ h3)]; exact h2, vs, by rw [upd_ne (ne _ _ h3)]; exact h3, h4⟩
    inj := R.inj
    obj := fun n ob e => by
      obtain ⟨a, C, dx, fs, h1, h2, h3, h4, h5, h6, h7⟩ := (R.obj n ob e).ex
      exact ⟨⟨a, C, dx, fs, h1, h2, by rw [upd_ne (ne _ _ h3)]; exact h3, h4, by rw [upd_ne (ne _ _ h3)]; exact h5, h6, h7⟩⟩
    ml := R.ml
    mnd := R.mnd }
/-- an object of the frame B, not frozen, changes -/
theorem Rel.setB (R : Rel G B F m oa σ H s) {p : Addr} (hp : B p ≠ none) (o : HO) : Rel G (upd B p o) F m oa σ (upd H p o) s := by
  have fp : F p = none := by
    cases e : F p with
    | none => rfl
    | some u => exact absurd (R.fb p (by rw [e]; simp)) hp
  have ne : ∀ b, B b = none → b ≠ p := fun b e z => hp (z ▸ e)
  exact
  { fh := fun b u e => by rw [upd_ne (ne_of_none e fp)]; exact R.fh b u e
    bh := fun b u e => by
      by_cases hbp : b = p
      · subst hbp; rw [upd_same] at e ⊢; exact e
      · rw [upd_ne hbp] at e ⊢; exact R.bh b u e
    fb := fun b e => by
      have hb := R.fb b e
      rw [upd_ne (ne b hb)]; exact hb
    len := R.len
    slot := R.slot
    cell := fun x ds e => by
      obtain ⟨h1, h2, vs, h3, h4⟩ := R.cell x ds e
      exact ⟨h1, by rw [upd_ne (ne _ h2)]; exact h2, vs, by rw [upd_ne (ne _ h2)]; exact h3, h4⟩
    inj := R.inj
    obj := fun n ob e => by
      obtain ⟨a, C, dx, fs, h1, h2, h3, h4, h5, h6, h7⟩ := (R.obj n ob e).ex
      exact ⟨⟨a, C, dx, fs, h1, h2, by rw [upd_ne (ne _ h5)]; exact h3, h4, by rw [upd_ne (ne _ h5)]; exact h5, h6, h7⟩⟩
    ml := R.ml
    mnd := R.mnd }
/-- less of the frame is asked -/
theorem Rel.lessB (R : Rel G B F m oa σ H s) {B' : Hp} (h : Same B' B) : Rel G B' F m oa σ H s :=
  { R with
    bh := fun b u e => R.bh b u (h b u e)
    fb := fun b e => h.free (R.fb b e)
    cell := fun x ds e => let ⟨h1, h2, r⟩ := R.cell x ds e; ⟨h1, h.free h2, r⟩
    obj := fun n ob e => by
      obtain ⟨a, C, dx, fs, h1, h2, h3, h4, h5, h6, h7⟩ := (R.obj n ob e).ex
      exact ⟨⟨a, C, dx, fs, h1, h2, h3, h4, h.free h5, h6, h7⟩⟩ }
/-- an object of the frame is frozen -/
theorem Rel.freezeB {p : Addr} {o : HO} (R : Rel G (upd B p o) F m oa σ H s) (hb : B p = none) : Rel G B (upd F p o) m oa σ H s := by
  have fp : F p = none := by
    cases e : F p with
    | none => rfl
    | some u => exact absurd (R.fb p (by rw [e]; simp)) (by rw [upd_same]; simp)
  have ne : ∀ b, upd B p o b = none → b ≠ p := fun b e z => by subst z; rw [upd_same] at e; cases e
  have bb : ∀ b, upd B p o b = none → B b = none := fun b e => by rw [upd_ne (ne b e)] at e; exact e
  have ff := same_upd (o := o) fp
  exact
  { fh := fun b u e => by
      by_cases hbp : b = p
      · subst hbp; rw [upd_same] at e; cases e; exact R.bh b _ upd_same
      · rw [upd_ne hbp] at e; exact R.fh b u e
    bh := fun b u e => R.bh b u (by rw [upd_ne (ne_of_none e hb)]; exact e)
    fb := fun b e => by
      by_cases hbp : b = p
      · subst hbp; exact hb
      · rw [upd_ne hbp] at e; exact bb b (R.fb b e)
    len := R.len
    slot := fun i sl e => (R.slot i sl e).mono ff (Pre.refl _)
    cell := fun x ds e => by
      obtain ⟨h1, h2, vs, h3, h4⟩ := R.cell x ds e
      exact ⟨by rw [upd_ne (ne _ h2)]; exact h1, bb _ h2, vs, h3, h4.mono ff (Pre.refl _)⟩
    inj := R.inj
    obj := fun n ob e => by
      obtain ⟨a, C, dx, fs, h1, h2, h3, h4, h5, h6, h7⟩ := (R.obj n ob e).ex
      exact ⟨⟨a, C, dx, fs, h1, h2, h3, by rw [upd_ne (ne _ h5)]; exact h4, bb _ h5, h6, fun f => (h7 f).mono ff (Pre.refl _)⟩⟩
    ml := R.ml
    mnd := R.mnd }
end
end VS
namespace VS
open PySem L2
/-! ### slots change -/
def S.put (s : S) (i : Nat) (x : Sl) : S := { s with r := s.r.set i x }
section
variable {G : Gx} {B F : Hp} {m : List Addr} {oa : Own → Addr} {σ : St} {H : Hp} {s : S}
theorem ownAt_put {i : Nat} {x : Sl} {y : Own} {ds : List D} (h : ownAt (s.put i x) y = some ds) : (y = .inl i ∧ x = .ow ds) ∨ (y ≠ .inl i ∧ ownAt s y = some ds) := by
  cases y with
  | inr q => exact Or.inr ⟨(fun z => by cases z), h⟩
  | inl j =>
    by_cases hj : j = i
    · subst hj
      have h' : slO ((s.r.set j x)[j]?) = some ds := h
      by_cases hl : j < s.r.length
      · rw [List.getElem?_set_self hl] at h'
        cases x with
        | un => cases h'
        | fr d => cases h'
        | ow es => cases h'; exact Or.inl ⟨rfl, rfl⟩
      · rw [List.getElem?_eq_none (by rw [List.length_set]; omega)] at h'; cases h'
    · have h' : slO ((s.r.set i x)[j]?) = some ds := h
      rw [List.getElem?_set_ne (Ne.symm hj)] at h'
      exact Or.inr ⟨fun z => hj (Sum.inl.inj z), h'⟩
theorem Rel.putAny (R : Rel G B F m oa σ H s) (i : Nat) (y : Option V) (sl : Sl) (hs : SlR G F m (oa (.inl i)) (some y) sl)
    (hc : ∀ ds, sl = .ow ds → CellR G B F m H (oa (.inl i)) ds ∧ ∀ z es, ownAt s z = some es → z ≠ .inl i → oa z ≠ oa (.inl i)) :
    Rel G B F m oa (σ.set i y) H (s.put i sl) where
  fh := R.fh
  bh := R.bh
  fb := R.fb
  len := by show (σ.set i y).length = (s.r.set i sl).length; rw [List.length_set, List.length_set]; exact R.len
  slot := fun j sl' e => by
    have e : (s.r.set i sl)[j]? = some sl' := e
    by_cases hj : j = i
    · subst hj
      by_cases hl : j < s.r.length
      · rw [List.getElem?_set_self hl] at e
        cases e
        rw [List.getElem?_set_self (by rw [R.len]; exact hl)]
        exact hs
      · rw [List.getElem?_eq_none (by rw [List.length_set]; omega)] at e; cases e
    · rw [List.getElem?_set_ne (Ne.symm hj)] at e ⊢
      exact R.slot j sl' e
  cell := fun x ds e => by
    rcases ownAt_put e with ⟨h1, h2⟩ | ⟨_, h⟩
    · subst h1; exact (hc ds h2).1
    · exact R.cell x ds h
  inj := fun x z ds es e1 e2 e3 => by
    rcases ownAt_put e1 with ⟨h1, h2⟩ | ⟨n1, h1⟩
    · rcases ownAt_put e2 with ⟨h3, _⟩ | ⟨n3, h3⟩
      · rw [h1, h3]
      · rw [h1] at e3; exact absurd e3.symm ((hc ds h2).2 z es h3 n3)
    · rcases ownAt_put e2 with ⟨h3, h4⟩ | ⟨_, h3⟩
      · rw [h3] at e3; exact absurd e3 ((hc es h4).2 x ds h1 n1)
      · exact R.inj x z ds es h1 h3 e3
  obj := R.obj
  ml := R.ml
  mnd := R.mnd
theorem Rel.put (R : Rel G B F m oa σ H s) (i : Nat) {v : V} {d : D} (h : Dat G m F v d) : Rel G B F m oa (σ.set i (some v)) H (s.put i (.fr d)) :=
  R.putAny i (some v) (.fr d) ⟨v, rfl, h⟩ fun ds z => by cases z
theorem Rel.put0 (R : Rel G B F m oa σ H s) (i : Nat) : Rel G B F m oa (σ.set i none) H (s.put i .un) :=
  R.putAny i none .un trivial fun ds z => by cases z
/-- other names for the owned cells -/
theorem Rel.reoa (R : Rel G B F m oa σ H s) {oa' : Own → Addr} (h : ∀ x ds, ownAt s x = some ds → oa' x = oa x) : Rel G B F m oa' σ H s where
  fh := R.fh
  bh := R.bh
  fb := R.fb
  len := R.len
  slot := fun i sl e => by
    have q := R.slot i sl e
    cases sl with
    | un => exact q
    | fr d => exact q
    | ow ds =>
      have z : ownAt s (.inl i) = some ds := by show slO s.r[i]? = some ds; rw [e]; rfl
      show σ[i]? = some (some (.ref (oa' (.inl i))))
      rw [h _ _ z]; exact q
  cell := fun x ds e => by rw [h x ds e]; exact R.cell x ds e
  inj := fun x y ds es e1 e2 e3 => R.inj x y ds es e1 e2 (by rw [h x ds e1, h y es e2] at e3; exact e3)
  obj := fun n ob e => by
    obtain ⟨a, C, dx, fs, h1, h2, h3, h4, h5, h6, h7⟩ := (R.obj n ob e).ex
    refine ⟨⟨a, C, dx, fs, h1, h2, h3, h4, h5, h6, fun f => ?_⟩⟩
    have q := h7 f
    cases el : ob.fs.lookup f with
    | none => rw [el] at q; exact q
    | some sl =>
      rw [el] at q
      cases sl with
      | un => exact q
      | fr d => exact q
      | ow ds =>
        have z : ownAt s (.inr (n, f)) = some ds := by show (match s.st[n]? with | some ob => slO (ob.fs.lookup f) | none => none) = some ds; rw [e]; show slO (ob.fs.lookup f) = some ds; rw [el]; rfl
        show List.lookup f fs = some (.ref (oa' (.inr (n, f))))
        rw [h _ _ z]; exact q
  ml := R.ml
  mnd := R.mnd
def oaSet (oa : Own → Addr) (x : Own) (p : Addr) : Own → Addr := fun y => if y = x then p else oa y
theorem oaSet_same {x : Own} {p : Addr} : oaSet oa x p x = p := by unfold oaSet; rw [if_pos rfl]
theorem oaSet_ne {x y : Own} {p : Addr} (h : y ≠ x) : oaSet oa x p y = oa y := by unfold oaSet; rw [if_neg h]
/-- a list of the frame becomes slot i's own -/
theorem Rel.putOwn {p : Addr} {vs : List V} {ds : List D} (R : Rel G (upd B p (.lst vs)) F m oa σ H s) (hb : B p = none) (i : Nat) (h : DatL G m F vs ds) :
    Rel G B F m (oaSet oa (.inl i) p) (σ.set i (some (.ref p))) H (s.put i (.ow ds)) := by
  have fp : F p = none := by
    cases e : F p with
    | none => rfl
    | some u => exact absurd (R.fb p (by rw [e]; simp)) (by rw [upd_same]; simp)
  have np : ∀ x ds, ownAt s x = some ds → oa x ≠ p := fun x es e z => by
    obtain ⟨_, h2, _⟩ := R.cell x es e
    rw [z, upd_same] at h2; cases h2
  have R0 := (R.put0 i).lessB (B' := B) (same_upd hb)
  have R1 : Rel G B F m (oaSet oa (.inl i) p) (σ.set i none) H (s.put i .un) := R0.reoa fun x es e => by
    rcases ownAt_put e with ⟨h1, h2⟩ | ⟨n1, _⟩
    · cases h2
    · exact oaSet_ne n1
  have R2 := R1.putAny i (some (.ref p)) (.ow ds) (by show some (some (V.ref p)) = some (some (.ref (oaSet oa (.inl i) p (.inl i)))); rw [oaSet_same]) fun es z => by
    cases z
    rw [oaSet_same]
    refine ⟨⟨fp, hb, vs, R.bh p _ upd_same, h⟩, fun z es e n => ?_⟩
    rw [oaSet_ne n]
    rcases ownAt_put e with ⟨h1, h2⟩ | ⟨n1, h1⟩
    · cases h2
    · exact np z es h1
  have e1 : (σ.set i none).set i (some (V.ref p)) = σ.set i (some (.ref p)) := List.set_set _
  have e2 : (s.put i .un).put i (.ow ds) = s.put i (.ow ds) := by
    show S.mk ((s.r.set i .un).set i (.ow ds)) s.st s.al = S.mk (s.r.set i (.ow ds)) s.st s.al
    rw [List.set_set]
  rw [e1, e2] at R2
  exact R2
/-- the own list of slot i is frozen -/
theorem Rel.frz (R : Rel G B F m oa σ H s) {i : Nat} {ds : List D} (h : s.r[i]? = some (.ow ds)) :
    ∃ vs, σ[i]? = some (some (.ref (oa (.inl i)))) ∧ DatL G m F vs ds ∧ F (oa (.inl i)) = none ∧ Rel G B (upd F (oa (.inl i)) (.lst vs)) m oa σ H (s.put i (.fr (.lst ds))) := by
  have ho : ownAt s (.inl i) = some ds := by show slO s.r[i]? = some ds; rw [h]; rfl
  obtain ⟨h1, h2, vs, h3, h4⟩ := R.cell _ _ ho
  have hs : σ[i]? = some (some (.ref (oa (.inl i)))) := R.slot i _ h
  refine ⟨vs, hs, h4, h1, ?_⟩
  have ff : Same F (upd F (oa (.inl i)) (.lst vs)) := same_upd h1
  have R0 := R.put0 i
  have R1 : Rel G B (upd F (oa (.inl i)) (.lst vs)) m oa (σ.set i none) H (s.put i .un) := by
    refine
    { fh := fun b u e => ?_
      bh := R.bh
      fb := fun b e => ?_
      len := R0.len
      slot := fun j sl e => (R0.slot j sl e).mono ff (Pre.refl _)
      cell := fun x es e => ?_
      inj := R0.inj
      obj := fun n ob e => ?_
      ml := R0.ml
      mnd := R0.mnd }
    · by_cases hb : b = oa (.inl i)
      · rw [hb, upd_same] at e; cases e; rw [hb]; exact h3
      · rw [upd_ne hb] at e; exact R.fh b u e
    · by_cases hb : b = oa (.inl i)
      · rw [hb]; exact h2
      · rw [upd_ne hb] at e; exact R.fb b e
    · obtain ⟨k1, k2, ws, k3, k4⟩ := R0.cell x es e
      have hne : oa x ≠ oa (.inl i) := by
        rcases ownAt_put e with ⟨_, z⟩ | ⟨n1, z⟩
        · cases z
        · exact fun q => n1 (R.inj x _ es ds z ho q)
      exact ⟨by rw [upd_ne hne]; exact k1, k2, ws, k3, k4.mono ff (Pre.refl _)⟩
    · obtain ⟨a, C, dx, fs, k1, k2, k3, k4, k5, k6, k7⟩ := (R0.obj n ob e).ex
      have hne : a ≠ oa (.inl i) := ne_of k3 h3 (by intro z; cases z)
      exact ⟨⟨a, C, dx, fs, k1, k2, k3, by rw [upd_ne hne]; exact k4, k5, k6, fun f => (k7 f).mono ff (Pre.refl _)⟩⟩
  have R2 := R1.put i (v := .ref (oa (.inl i))) (d := .lst ds) (.lst (SqL.of upd_same) (h4.mono ff (Pre.refl _)))
  have e1 : (σ.set i none).set i (some (V.ref (oa (.inl i)))) = σ := by
    rw [List.set_set]
    exact List.ext_getElem? fun j => by
      by_cases hj : j = i
      · subst hj
        have hl : j < σ.length := (List.getElem?_eq_some_iff.mp hs).1
        rw [List.getElem?_set_self hl, hs]
      · rw [List.getElem?_set_ne (Ne.symm hj)]
  have e2 : (s.put i .un).put i (.fr (.lst ds)) = s.put i (.fr (.lst ds)) := by
    show S.mk ((s.r.set i .un).set i (.fr (.lst ds))) s.st s.al = S.mk (s.r.set i (.fr (.lst ds))) s.st s.al
    rw [List.set_set]
  rw [e1, e2] at R2
  exact R2
/-- the own list of slot i changes -/
theorem Rel.setOwn (R : Rel G B F m oa σ H s) {i : Nat} {ds es : List D} {us : List V} (h : s.r[i]? = some (.ow ds)) (he : DatL G m F us es) :
    Rel G B F m oa σ (upd H (oa (.inl i)) (.lst us)) (s.put i (.ow es)) := by
  have ho : ownAt s (.inl i) = some ds := by show slO s.r[i]? = some ds; rw [h]; rfl
  obtain ⟨h1, h2, vs, h3, h4⟩ := R.cell _ _ ho
  have hs : σ[i]? = some (some (.ref (oa (.inl i)))) := R.slot i _ h
  have hl : i < s.r.length := (List.getElem?_eq_some_iff.mp h).1
  exact
  { fh := fun b u e => by rw [upd_ne (ne_of_none e h1)]; exact R.fh b u e
    bh := fun b u e => by rw [upd_ne (ne_of_none e h2)]; exact R.bh b u e
    fb := R.fb
    len := by show σ.length = (s.r.set i (.ow es)).length; rw [List.length_set]; exact R.len
    slot := fun j sl e => by
      have e : (s.r.set i (.ow es))[j]? = some sl := e
      by_cases hj : j = i
      · subst hj
        rw [List.getElem?_set_self hl] at e
        cases e
        exact hs
      · rw [List.getElem?_set_ne (Ne.symm hj)] at e
        exact R.slot j sl e
    cell := fun x fs e => by
      rcases ownAt_put e with ⟨k1, k2⟩ | ⟨n1, k1⟩
      · subst k1; cases k2
        exact ⟨h1, h2, us, upd_same, he⟩
      · obtain ⟨k3, k4, ws, k5, k6⟩ := R.cell x fs k1
        have hne : oa x ≠ oa (.inl i) := fun q => n1 (R.inj x _ fs ds k1 ho q)
        exact ⟨k3, k4, ws, by rw [upd_ne hne]; exact k5, k6⟩
    inj := fun x y fs gs e1 e2 e3 => by
      have hx : ∃ q, ownAt s x = some q := by
        rcases ownAt_put e1 with ⟨k1, _⟩ | ⟨_, k1⟩
        · subst k1; exact ⟨_, ho⟩
        · exact ⟨_, k1⟩
      have hy : ∃ q, ownAt s y = some q := by
        rcases ownAt_put e2 with ⟨k1, _⟩ | ⟨_, k1⟩
        · subst k1; exact ⟨_, ho⟩
        · exact ⟨_, k1⟩
      obtain ⟨q1, hx⟩ := hx
      obtain ⟨q2, hy⟩ := hy
      exact R.inj x y q1 q2 hx hy e3
    obj := fun n ob e => by
      obtain ⟨a, C, dx, fs, k1, k2, k3, k4, k5, k6, k7⟩ := (R.obj n ob e).ex
      have hne : a ≠ oa (.inl i) := ne_of k3 h3 (by intro z; cases z)
      exact ⟨⟨a, C, dx, fs, k1, k2, by rw [upd_ne hne]; exact k3, k4, k5, k6, k7⟩⟩
    ml := R.ml
    mnd := R.mnd }
/-- slots are forgotten (a comprehension's own names) -/
def S.wipe (s : S) : List Nat → S
  | [] => s
  | v :: vs => (s.wipe vs).put v .un
theorem Rel.wiped (R : Rel G B F m oa σ H s) : ∀ vs : List Nat, Rel G B F m oa (wipe σ vs) H (s.wipe vs)
  | [] => R
  | v :: vs => (Rel.wiped R vs).put0 v
end
end VS
namespace VS
open PySem L2
open PyProof.Rows hiding St
/-! ### what is said of expressions, tests, arguments, walks, statements -/
abbrev gx (X : Cx) (C : Str → Option Addr) : Gx := ⟨X.K, C⟩
def tV (G : Gx) (f : S → Option D) : TE := fun σ H Q => ∃ B F m oa s d, Rel G B F m oa σ H s ∧ f s = some d ∧
  ∀ v F' H', Rel G B F' m oa σ H' s → Same F F' → Dat G m F' v d → Q v H'
abbrev PV (X : Cx) (C : Str → Option Addr) (e : Expr) (f : S → Option D) : Prop := PE X e (tV (gx X C) f)
/-- a new list, in the frame -/
def tN (G : Gx) (f : S → Option (List D)) : TE := fun σ H Q => ∃ B F m oa s ds, Rel G B F m oa σ H s ∧ f s = some ds ∧
  ∀ p vs F' H', B p = none → Rel G (upd B p (.lst vs)) F' m oa σ H' s → Same F F' → DatL G m F' vs ds → Q (.ref p) H'
abbrev PN (X : Cx) (C : Str → Option Addr) (e : Expr) (f : S → Option (List D)) : Prop := PE X e (tN (gx X C) f)
/-- a list or a tuple, to be read: frozen, or one's own -/
def SeqR (G : Gx) (m : List Addr) (F : Hp) (oa : Own → Addr) (s : S) (v : V) (k : Bool) (ds : List D) : Prop :=
  (∃ a vs, v = .ref a ∧ (k = true → SqL G.K F a vs) ∧ (k = false → SqT G.K F a vs) ∧ DatL G m F vs ds) ∨ (k = true ∧ ∃ x, v = .ref (oa x) ∧ ownAt s x = some ds)
def tQ (G : Gx) (f : S → Option (Bool × List D)) : TE := fun σ H Q => ∃ B F m oa s k ds, Rel G B F m oa σ H s ∧ f s = some (k, ds) ∧
  ∀ v F' H', Rel G B F' m oa σ H' s → Same F F' → SeqR G m F' oa s v k ds → Q v H'
abbrev PQ (X : Cx) (C : Str → Option Addr) (e : Expr) (f : S → Option (Bool × List D)) : Prop := PE X e (tQ (gx X C) f)
def tT (G : Gx) (f : S → Option Bool) : TT := fun σ H Q => ∃ B F m oa s b, Rel G B F m oa σ H s ∧ f s = some b ∧
  ∀ F' H', Rel G B F' m oa σ H' s → Same F F' → Q b H'
abbrev PTV (X : Cx) (C : Str → Option Addr) (e : Expr) (f : S → Option Bool) : Prop := PT X e (tT (gx X C) f)
def tA (G : Gx) (f : S → Option (List D)) : TA := fun σ H Q => ∃ B F m oa s ds, Rel G B F m oa σ H s ∧ f s = some ds ∧
  ∀ vs F' H', Rel G B F' m oa σ H' s → Same F F' → DatL G m F' vs ds → Q vs H'
abbrev PAV (X : Cx) (C : Str → Option Addr) (es : List Expr) (f : S → Option (List D)) : Prop := PA X es (tA (gx X C) f)
theorem PE.weak {X : Cx} {e : Expr} {t t' : TE} (h : PE X e t) (k : ∀ σ H Q, t' σ H Q → t σ H Q) : PE X e t' := ⟨fun pins s σ H Q I w => h.run pins s σ H Q I (k σ H Q w)⟩
theorem PT.weak {X : Cx} {e : Expr} {t t' : TT} (h : PT X e t) (k : ∀ σ H Q, t' σ H Q → t σ H Q) : PT X e t' := ⟨fun pins s σ H Q I w => h.run pins s σ H Q I (k σ H Q w)⟩
theorem PW.weak {X : Cx} {e : Expr} {t t' : TT} (h : PW X e t) (k : ∀ σ H Q, t' σ H Q → t σ H Q) : PW X e t' := ⟨fun wh pins s σ H Q I w => h.run wh pins s σ H Q I (k σ H Q w)⟩
theorem PA.weak {X : Cx} {e : List Expr} {t t' : TA} (h : PA X e t) (k : ∀ σ H Q, t' σ H Q → t σ H Q) : PA X e t' := ⟨fun pos pins s σ H Q I w => h.run pos pins s σ H Q I (k σ H Q w)⟩
theorem PS.weak {X : Cx} {e : Stmt} {t t' : TS} (h : PS X e t) (k : ∀ D σ H, t' D σ H → t D σ H) : PS X e t' := ⟨fun pins s σ H D I w => h.run pins s σ H D I (k D σ H w)⟩
theorem PSs.weak {X : Cx} {e : List Stmt} {t t' : TS} (h : PSs X e t) (k : ∀ D σ H, t' D σ H → t D σ H) : PSs X e t' := ⟨fun pins s σ H D I w => h.run pins s σ H D I (k D σ H w)⟩
section
variable {X : Cx} {C : Str → Option Addr} {G : Gx} {B F : Hp} {m : List Addr} {oa : Own → Addr} {σ : St} {H : Hp} {s : S}
/-- what is read, later -/
theorem SeqR.mono {F' : Hp} {v : V} {k : Bool} {ds : List D} (h : SeqR G m F oa s v k ds) (e : Same F F') : SeqR G m F' oa s v k ds := by
  rcases h with ⟨a, vs, h1, h2, h3, h4⟩ | h
  · exact Or.inl ⟨a, vs, h1, fun z => e.seq (h2 z), fun z => same_seqT e (h3 z), h4.mono e (Pre.refl _)⟩
  · exact Or.inr h
theorem SeqR.read {v : V} {k : Bool} {ds : List D} (h : SeqR G m F oa s v k ds) (R : Rel G B F m oa σ H s) :
    ∃ a vs, v = .ref a ∧ (k = true → SqL G.K H a vs) ∧ (k = false → SqT G.K H a vs) ∧ DatL G m F vs ds := by
  rcases h with ⟨a, vs, h1, h2, h3, h4⟩ | ⟨rfl, x, h1, h2⟩
  · exact ⟨a, vs, h1, fun z => R.fh.seq (h2 z), fun z => same_seqT R.fh (h3 z), h4⟩
  · obtain ⟨_, _, vs, h3, h4⟩ := R.cell x ds h2
    exact ⟨_, vs, h1, fun _ => SqL.of h3, fun z => (Bool.noConfusion z), h4⟩
/-! ### names, constants -/
def S.get (s : S) (i : Nat) : Option D := match s.r[i]? with
  | some (.fr d) => some d
  | _ => none
theorem v_var (i : Nat) {x : Str} {pos : Pos} (hN : X.N[i]? = some x := by rfl) (hv : Vis X.env.scope x := by first | exact Or.inl rfl | exact Or.inr (Or.inl rfl) | exact Or.inr (Or.inr rfl)) (hd : (x == ("__debug__" : Str)) = false := by decide)
    (hcd : (x == ("__classdict__" : Str)) = false := by decide) : PV X C (.Name x pos) (fun s => s.get i) := by
  refine PE.weak (pe_var (i := i) hN hv hd hcd) ?_
  rintro σ H Q ⟨B, F, m, oa, s, d, R, hf, q⟩
  have hf' : (match s.r[i]? with
    | some (.fr d) => some d
    | _ => none) = some d := hf
  split at hf'
  · rename_i e
    cases hf'
    obtain ⟨v, h1, h2⟩ := R.slot i _ e
    exact ⟨v, h1, q v F H R (Same.refl _) h2⟩
  · cases hf'
def dC (d : D) : S → Option D := fun _ => some d
theorem v_con {e : Expr} {v : V} {d : D} (h : PE X e (tC v)) (k : ∀ G m F, Dat G m F v d) : PV X C e (dC d) := by
  refine PE.weak h ?_
  rintro σ H Q ⟨B, F, m, oa, s, d', R, hf, q⟩
  cases hf
  exact q v F H R (Same.refl _) (k _ _ _)
theorem v_int {i j pos} : PV X C (.Constant (.int i) j pos) (dC (.int i)) := v_con pe_int fun _ _ _ => .int i
theorem v_bl {b j pos} : PV X C (.Constant (.bool b) j pos) (dC (.bl b)) := v_con pe_bl fun _ _ _ => .bl b
theorem v_non {j pos} : PV X C (.Constant .none j pos) (dC .non) := v_con pe_non fun _ _ _ => .non
theorem v_str {x j pos} : PV X C (.Constant (.str x) j pos) (dC (.str x)) := v_con pe_str fun _ _ _ => .str x
/-- a constant of the module -/
theorem v_glob {x : Str} {v : V} {u : Value} {d : D} {pos : Pos} (hg : Gl X x) (hm : X.mg x = some u) (r : RelV v u) (k : ∀ m F, Dat (gx X C) m F v d) (hd : (x == ("__debug__" : Str)) = false := by decide) : PV X C (.Name x pos) (dC d) := by
  refine PE.weak (pe_glob hg hm r hd) ?_
  rintro σ H Q ⟨B, F, m, oa, s, d', R, hf, q⟩
  cases hf
  exact q v F H R (Same.refl _) (k _ _)
/-! ### a value made of two values, of one -/
def d2 (g : D → D → Option D) (f h : S → Option D) : S → Option D := fun s => (f s).bind fun x => (h s).bind fun y => g x y
def d1 (g : D → Option D) (f : S → Option D) : S → Option D := fun s => (f s).bind g
/-- r gives what g says -/
def Giv (X : Cx) (C : Str → Option Addr) (r : R2) (g : D → D → Option D) : Prop :=
  ∀ {B F : Hp} {m : List Addr} {oa : Own → Addr} {σ : St} {H : Hp} {s : S} {x y d : D} {v u : V} {Q : VK}, Rel (gx X C) B F m oa σ H s → g x y = some d → Dat (gx X C) m F v x → Dat (gx X C) m F u y →
    (∀ w F' H', Rel (gx X C) B F' m oa σ H' s → Same F F' → Dat (gx X C) m F' w d → Q w H') → r v u H Q
def Giv1 (X : Cx) (C : Str → Option Addr) (r : V → Hp → VK → Prop) (g : D → Option D) : Prop :=
  ∀ {B F : Hp} {m : List Addr} {oa : Own → Addr} {σ : St} {H : Hp} {s : S} {x d : D} {v : V} {Q : VK}, Rel (gx X C) B F m oa σ H s → g x = some d → Dat (gx X C) m F v x →
    (∀ w F' H', Rel (gx X C) B F' m oa σ H' s → Same F F' → Dat (gx X C) m F' w d → Q w H') → r v H Q
variable {a b : Expr} {pos : Pos} {f h : S → Option D} {g : D → D → Option D}
theorem two_weak {r : R2} (hr : Giv X C r g) (σ : St) (H : Hp) (Q : VK) (w : tV (gx X C) (d2 g f h) σ H Q) : tOp r (tV (gx X C) f) (tV (gx X C) h) σ H Q := by
  obtain ⟨B, F, m, oa, s, d, R, hf, q⟩ := w
  have hf' : ((f s).bind fun x => (h s).bind fun y => g x y) = some d := hf
  obtain ⟨x, hx, hf'⟩ := Option.bind_eq_some_iff.mp hf'
  obtain ⟨y, hy, hf'⟩ := Option.bind_eq_some_iff.mp hf'
  refine ⟨B, F, m, oa, s, x, R, hx, fun v F1 H1 R1 e1 dx => ⟨B, F1, m, oa, s, y, R1, hy, fun u F2 H2 R2 e2 dy => ?_⟩⟩
  exact hr R2 hf' (dx.mono e2 (Pre.refl _)) dy fun w F3 H3 R3 e3 dw => q w F3 H3 R3 ((e1.trans e2).trans e3) dw
theorem v_bin {op : Operator} {r : R2} (ho : OpR X (binaryOp op) r) (hr : Giv X C r g) (ha : PV X C a f) (hb : PV X C b h) : PV X C (.BinOp a op b pos) (d2 g f h) :=
  PE.weak (pe_op ho ha hb) (two_weak hr)
theorem v_cmpG {op : CmpOp} {r : R2} (ho : OpR X (compareOp op) r) (hr : Giv X C r g) (ha : PV X C a f) (hb : PV X C b h) (hm : behindInMarks op b = false) : PV X C (.Compare a [op] [b] pos) (d2 g f h) :=
  PE.weak (pe_cmpR ho ha hb hm) (two_weak hr)
theorem v_un {op : UnaryOp} {r : V → Hp → VK → Prop} {g : D → Option D} (ho : UnR X (unaryOp op) r) (hr : Giv1 X C r g) (ha : PV X C a f) : PV X C (.UnaryOp op a pos) (d1 g f) := by
  refine PE.weak (pe_un ho ha) ?_
  rintro σ H Q ⟨B, F, m, oa, s, d, R, hf, q⟩
  have hf' : (f s).bind g = some d := hf
  obtain ⟨x, hx, hf'⟩ := Option.bind_eq_some_iff.mp hf'
  exact ⟨B, F, m, oa, s, x, R, hx, fun v F1 H1 R1 e1 dx => hr R1 hf' dx fun w F3 H3 R3 e3 dw => q w F3 H3 R3 (e1.trans e3) dw⟩
/-! #### whole numbers -/
def mulOk (i j : Int) : Bool := decide (i.natAbs < 2 ^ 64) || decide (j.natAbs < 2 ^ 64) || decide (i.natAbs.log2 + j.natAbs.log2 < 1000000)
def divOk (j : Int) : Bool := decide (j ≠ 0) && decide (j.natAbs.log2 < 9000)
def powOk (i j : Int) : Bool := decide (0 ≤ j) && decide (j ≤ 1000000) && decide (i.natAbs < 2 ^ 64)
theorem dat_int {i : D} {v : V} {k : Int} (h : Dat G m F v (.int k)) : v = .int k := by cases h; rfl
theorem mul_ok {i j : Int} (h : mulOk i j = true) : IntMulOk i j := by
  unfold mulOk at h
  simp only [Bool.or_eq_true, decide_eq_true_eq] at h
  rcases h with (h | h) | h
  · exact CMul.ok (Or.inl ⟨by omega, by omega⟩)
  · exact CMul.ok (Or.inr ⟨by omega, by omega⟩)
  · exact CMulW.ok h
theorem op_mulA : OpR X (binaryOp .Mult) (rI (fun i j => mulOk i j = true) fun i j => .int (i * j)) := opI fun _ _ _ _ _ _ _ hc q => mul_int q (mul_ok hc)
theorem op_divA : OpR X (binaryOp .FloorDiv) (rI (fun _ j => divOk j = true) fun i j => .int (i.fdiv j)) := opI fun i j _ _ _ _ _ hc q => by
  unfold divOk at hc
  simp only [Bool.and_eq_true, decide_eq_true_eq] at hc
  exact floordiv_int hc.1 q (.inl (PyProof.noPylong_of_log2 hc.2))
def iB (c : Int → Int → Bool) (g : Int → Int → D) : D → D → Option D
  | .int i, .int j => if c i j = true then some (g i j) else none
  | _, _ => none
def iB0 (g : Int → Int → D) : D → D → Option D
  | .int i, .int j => some (g i j)
  | _, _ => none
theorem giv_I {c : Int → Int → Prop} {c' : Int → Int → Bool} {k : Int → Int → V} {g : Int → Int → D} (hc : ∀ i j, c' i j = true → c i j) (hk : ∀ i j m F, Dat (gx X C) m F (k i j) (g i j)) : Giv X C (rI c k) (iB c' g) := by
  intro B F m oa σ H s x y d v u Q R hg dx dy q
  cases x with
  | int i =>
    cases y with
    | int j =>
      have hg' : (if c' i j = true then some (g i j) else none) = some d := hg
      split at hg'
      · rename_i e
        cases hg'
        cases dx; cases dy
        exact ⟨i, j, rfl, rfl, hc i j e, q _ F H R (Same.refl _) (hk _ _ _ _)⟩
      · cases hg'
    | _ => cases hg
  | _ => cases hg
theorem giv_I0 {k : Int → Int → V} {g : Int → Int → D} (hk : ∀ i j m F, Dat (gx X C) m F (k i j) (g i j)) : Giv X C (rI0 k) (iB0 g) := by
  intro B F m oa σ H s x y d v u Q R hg dx dy q
  cases x with
  | int i =>
    cases y with
    | int j =>
      cases hg
      cases dx; cases dy
      exact ⟨i, j, rfl, rfl, q _ F H R (Same.refl _) (hk _ _ _ _)⟩
    | _ => cases hg
  | _ => cases hg
def dMulI := iB mulOk fun i j => .int (i * j)
def dDiv := iB (fun _ j => divOk j) fun i j => .int (i.fdiv j)
def dMod := iB (fun _ j => decide (j ≠ 0)) fun i j => .int (i.fmod j)
def dPow := iB powOk fun i j => .int (i ^ j.toNat)
def dSub := iB0 fun i j => .int (i - j)
def dLt := iB0 fun i j => .bl (decide (i < j))
def dLe := iB0 fun i j => .bl (decide (i ≤ j))
def dGt := iB0 fun i j => .bl (decide (j < i))
def dGe := iB0 fun i j => .bl (decide (j ≤ i))
def dNeg : D → Option D
  | .int i => some (.int (-i))
  | _ => none
theorem v_sub (ha : PV X C a f) (hb : PV X C b h) : PV X C (.BinOp a .Sub b pos) (d2 dSub f h) := v_bin op_sub (giv_I0 fun _ _ _ _ => .int _) ha hb
theorem v_mulI (ha : PV X C a f) (hb : PV X C b h) : PV X C (.BinOp a .Mult b pos) (d2 dMulI f h) := v_bin op_mulA (giv_I (fun _ _ e => e) fun _ _ _ _ => .int _) ha hb
theorem v_div (ha : PV X C a f) (hb : PV X C b h) : PV X C (.BinOp a .FloorDiv b pos) (d2 dDiv f h) := v_bin op_divA (giv_I (fun _ _ e => e) fun _ _ _ _ => .int _) ha hb
theorem v_mod (ha : PV X C a f) (hb : PV X C b h) : PV X C (.BinOp a .Mod b pos) (d2 dMod f h) := v_bin op_modN (giv_I (fun _ _ e => of_decide_eq_true e) fun _ _ _ _ => .int _) ha hb
theorem pow_ok {i j : Int} (h : powOk i j = true) : CPow i j := by
  unfold powOk at h
  simp only [Bool.and_eq_true, decide_eq_true_eq] at h
  exact ⟨h.1.1, h.1.2, h.2⟩
theorem v_pow (ha : PV X C a f) (hb : PV X C b h) : PV X C (.BinOp a .Pow b pos) (d2 dPow f h) := v_bin op_pow (giv_I (fun _ _ e => pow_ok e) fun _ _ _ _ => .int _) ha hb
theorem v_lt (ha : PV X C a f) (hb : PV X C b h) : PV X C (.Compare a [.Lt] [b] pos) (d2 dLt f h) := v_cmpG op_lt (giv_I0 fun _ _ _ _ => .bl _) ha hb (nomark _)
theorem v_le (ha : PV X C a f) (hb : PV X C b h) : PV X C (.Compare a [.LtE] [b] pos) (d2 dLe f h) := v_cmpG op_le (giv_I0 fun _ _ _ _ => .bl _) ha hb (nomark _)
theorem v_gt (ha : PV X C a f) (hb : PV X C b h) : PV X C (.Compare a [.Gt] [b] pos) (d2 dGt f h) := v_cmpG op_gt (giv_I0 fun _ _ _ _ => .bl _) ha hb (nomark _)
theorem v_ge (ha : PV X C a f) (hb : PV X C b h) : PV X C (.Compare a [.GtE] [b] pos) (d2 dGe f h) := v_cmpG op_ge (giv_I0 fun _ _ _ _ => .bl _) ha hb (nomark _)
theorem v_neg (ha : PV X C a f) : PV X C (.UnaryOp .USub a pos) (d1 dNeg f) := by
  refine v_un un_neg ?_ ha
  intro B F m oa σ H s x d v Q R hg dx q
  cases x with
  | int i => cases hg; cases dx; exact ⟨i, rfl, q _ F H R (Same.refl _) (.int _)⟩
  | _ => cases hg
/-! #### equality, at any depth -/
mutual
def toPy : D → Option PyData
  | .non => some .none
  | .bl b => some (.bool b)
  | .int i => some (.int i)
  | .str x => some (.str x)
  | .tup xs => (toPyL xs).map .tuple
  | .lst xs => (toPyL xs).map .list
  | .obj _ => none
  | .exc _ _ => none
  | .rob _ _ _ => none
def toPyL : List D → Option (List PyData)
  | [] => some []
  | x :: xs => (toPy x).bind fun y => (toPyL xs).map fun ys => y :: ys
end
mutual
theorem dp_of (e : Same F H) : ∀ {d : D} {v : V} {p : PyData}, Dat G m F v d → toPy d = some p → Dp G.K H v p
  | .non, _, _, h, q => by cases h; cases q; exact .non
  | .bl b, _, _, h, q => by cases h; cases q; exact .bl b
  | .int i, _, _, h, q => by cases h; cases q; exact .int i
  | .str x, _, _, h, q => by cases h; cases q; exact .str x
  | .tup xs, v, p, h, q => by
    rw [toPy] at q
    obtain ⟨ps, h1, h5⟩ := Option.map_eq_some_iff.mp q
    subst h5
    cases h with
    | tup h2 h3 => exact .tup (same_seqT e h2) (dpAll_of e h3 h1)
  | .lst xs, v, p, h, q => by
    rw [toPy] at q
    obtain ⟨ps, h1, h5⟩ := Option.map_eq_some_iff.mp q
    subst h5
    cases h with
    | lst h2 h3 => exact .lst (e.seq h2) (dpAll_of e h3 h1)
  | .obj _, _, _, _, q => by rw [toPy] at q; cases q
  | .exc _ _, _, _, _, q => by rw [toPy] at q; cases q
  | .rob _ _ _, _, _, _, q => by rw [toPy] at q; cases q
theorem dpAll_of (e : Same F H) : ∀ {ds : List D} {vs : List V} {ps : List PyData}, DatL G m F vs ds → toPyL ds = some ps → DpAll G.K H vs ps
  | [], _, _, h, q => by cases h; cases q; exact .nil
  | x :: xs, v, p, h, q => by
    rw [toPyL] at q
    obtain ⟨y, h1, q'⟩ := Option.bind_eq_some_iff.mp q
    obtain ⟨ys, h2, h5⟩ := Option.map_eq_some_iff.mp q'
    subst h5
    cases h with
    | cons h3 h4 => exact .cons (dp_of e h3 h1) (dpAll_of e h4 h2)
end
theorem dB_some {x : D} {c : Bool} (h : (match x with
  | .bl b => some b
  | _ => none) = some c) : x = .bl c := by
  cases x <;> cases h
  rfl
def eqB (x y : D) : Option Bool := (toPy x).bind fun p => (toPy y).bind fun q => if SeqAt.shaped p = true ∧ SeqAt.shaped q = true then some (PyData.eqv p q) else none
def dEq (x y : D) : Option D := (eqB x y).map .bl
def dNe (x y : D) : Option D := (eqB x y).map fun b => .bl (!b)
theorem eqB_some {x y : D} {c : Bool} (h : eqB x y = some c) : ∃ p q, toPy x = some p ∧ toPy y = some q ∧ SeqAt.shaped p = true ∧ SeqAt.shaped q = true ∧ PyData.eqv p q = c := by
  unfold eqB at h
  obtain ⟨p, h1, h⟩ := Option.bind_eq_some_iff.mp h
  obtain ⟨q, h2, h⟩ := Option.bind_eq_some_iff.mp h
  split at h
  · rename_i hs
    cases h
    exact ⟨p, q, h1, h2, hs.1, hs.2, rfl⟩
  · cases h
theorem v_eq (hu : X.A.units + 64 < cLine) (ha : PV X C a f) (hb : PV X C b h) : PV X C (.Compare a [.Eq] [b] pos) (d2 dEq f h) := by
  refine v_cmpG (op_eqD hu) ?_ ha hb (nomark _)
  intro B F m oa σ H s x y d v u Q R hg dx dy q
  obtain ⟨c, h1, rfl⟩ := Option.map_eq_some_iff.mp hg
  obtain ⟨p, p', h2, h3, h4, h5, h6⟩ := eqB_some h1
  exact ⟨p, p', dp_of R.fh dx h2, dp_of R.fh dy h3, h4, h5, by rw [h6]; exact q _ F H R (Same.refl _) (.bl c)⟩
theorem v_ne (hu : X.A.units + 64 < cLine) (ha : PV X C a f) (hb : PV X C b h) : PV X C (.Compare a [.NotEq] [b] pos) (d2 dNe f h) := by
  refine v_cmpG (op_neD hu) ?_ ha hb (nomark _)
  intro B F m oa σ H s x y d v u Q R hg dx dy q
  obtain ⟨c, h1, rfl⟩ := Option.map_eq_some_iff.mp hg
  obtain ⟨p, p', h2, h3, h4, h5, h6⟩ := eqB_some h1
  exact ⟨p, p', dp_of R.fh dx h2, dp_of R.fh dy h3, h4, h5, by rw [h6]; exact q _ F H R (Same.refl _) (.bl (!c))⟩
/-- is None -/
def isN : D → Bool
  | .non => true
  | _ => false
def dIsN : D → Option D := fun d => some (.bl (isN d))
def dNotN : D → Option D := fun d => some (.bl (!isN d))
theorem isN_dat {v : V} {d : D} (h : Dat G m F v d) : decide (v = .non) = isN d := by
  cases h <;> first | rfl | exact decide_eq_false (by intro z; cases z)
theorem v_isN {j pos'} (ha : PV X C a f) : PV X C (.Compare a [.Is] [.Constant .none j pos'] pos) (d1 dIsN f) := by
  refine PE.weak (pe_cmpR op_isN ha pe_non (nomark _)) ?_
  rintro σ H Q ⟨B, F, m, oa, s, d, R, hf, q⟩
  have hf' : (f s).bind dIsN = some d := hf
  obtain ⟨x, hx, hf'⟩ := Option.bind_eq_some_iff.mp hf'
  cases hf'
  exact ⟨B, F, m, oa, s, x, R, hx, fun v F1 H1 R1 e1 dx => ⟨rfl, q _ F1 H1 R1 e1 (by rw [isN_dat dx]; exact .bl _)⟩⟩
theorem v_notN {j pos'} (ha : PV X C a f) : PV X C (.Compare a [.IsNot] [.Constant .none j pos'] pos) (d1 dNotN f) := by
  refine PE.weak (pe_cmpR op_notN ha pe_non (nomark _)) ?_
  rintro σ H Q ⟨B, F, m, oa, s, d, R, hf, q⟩
  have hf' : (f s).bind dNotN = some d := hf
  obtain ⟨x, hx, hf'⟩ := Option.bind_eq_some_iff.mp hf'
  cases hf'
  exact ⟨B, F, m, oa, s, x, R, hx, fun v F1 H1 R1 e1 dx => ⟨rfl, q _ F1 H1 R1 e1 (by rw [isN_dat dx]; exact .bl _)⟩⟩
/-! ### tests -/
def dB : D → Option Bool
  | .bl b => some b
  | _ => none
def tB1 (f : S → Option D) : S → Option Bool := fun s => (f s).bind dB
theorem q_val (ha : PV X C a f) (he : ∀ whole, isTrue a X.env whole = (do let v ← whole; standAt a.pos; holding [v] (truthy v)) := by intro _; rfl) : PTV X C a (tB1 f) := by
  refine PT.weak (pt_val ha he) ?_
  rintro σ H Q ⟨B, F, m, oa, s, d, R, hf, q⟩
  have hf' : (f s).bind dB = some d := hf
  obtain ⟨x, hx, hf'⟩ := Option.bind_eq_some_iff.mp hf'
  cases x with
  | bl c => cases hf'; exact ⟨B, F, m, oa, s, _, R, hx, fun v F1 H1 R1 e1 dx => by cases dx; exact ⟨_, rfl, q F1 H1 R1 e1⟩⟩
  | _ => cases hf'
theorem q_cmp {op : CmpOp} {r : R2} (ho : OpR X (compareOp op) r) (hr : Giv X C r g) (ha : PV X C a f) (hb : PV X C b h) (hm : behindInMarks op b = false) : PTV X C (.Compare a [op] [b] pos) (tB1 (d2 g f h)) := by
  refine PT.weak (pt_cmpR ho ha hb hm) ?_
  rintro σ H Q ⟨B, F, m, oa, s, d, R, hf, q⟩
  have hf' : (d2 g f h s).bind dB = some d := hf
  obtain ⟨x, hx, hf'⟩ := Option.bind_eq_some_iff.mp hf'
  refine two_weak hr σ H _ ⟨B, F, m, oa, s, x, R, hx, fun v F1 H1 R1 e1 dx => ?_⟩
  cases x with
  | bl c => cases hf'; cases dx; exact ⟨_, rfl, q F1 H1 R1 e1⟩
  | _ => cases hf'
theorem q_lt (ha : PV X C a f) (hb : PV X C b h) : PTV X C (.Compare a [.Lt] [b] pos) (tB1 (d2 dLt f h)) := q_cmp op_lt (giv_I0 fun _ _ _ _ => .bl _) ha hb (nomark _)
theorem q_le (ha : PV X C a f) (hb : PV X C b h) : PTV X C (.Compare a [.LtE] [b] pos) (tB1 (d2 dLe f h)) := q_cmp op_le (giv_I0 fun _ _ _ _ => .bl _) ha hb (nomark _)
theorem q_gt (ha : PV X C a f) (hb : PV X C b h) : PTV X C (.Compare a [.Gt] [b] pos) (tB1 (d2 dGt f h)) := q_cmp op_gt (giv_I0 fun _ _ _ _ => .bl _) ha hb (nomark _)
theorem q_ge (ha : PV X C a f) (hb : PV X C b h) : PTV X C (.Compare a [.GtE] [b] pos) (tB1 (d2 dGe f h)) := q_cmp op_ge (giv_I0 fun _ _ _ _ => .bl _) ha hb (nomark _)
theorem giv_eq : Giv X C (rEqD X.K) dEq := by
  intro B F m oa σ H s x y d v u Q R hg dx dy q
  obtain ⟨c, h1, rfl⟩ := Option.map_eq_some_iff.mp hg
  obtain ⟨p, p', h2, h3, h4, h5, h6⟩ := eqB_some h1
  exact ⟨p, p', dp_of R.fh dx h2, dp_of R.fh dy h3, h4, h5, by rw [h6]; exact q _ F H R (Same.refl _) (.bl c)⟩
theorem giv_ne : Giv X C (rNeD X.K) dNe := by
  intro B F m oa σ H s x y d v u Q R hg dx dy q
  obtain ⟨c, h1, rfl⟩ := Option.map_eq_some_iff.mp hg
  obtain ⟨p, p', h2, h3, h4, h5, h6⟩ := eqB_some h1
  exact ⟨p, p', dp_of R.fh dx h2, dp_of R.fh dy h3, h4, h5, by rw [h6]; exact q _ F H R (Same.refl _) (.bl (!c))⟩
theorem q_eq (hu : X.A.units + 64 < cLine) (ha : PV X C a f) (hb : PV X C b h) : PTV X C (.Compare a [.Eq] [b] pos) (tB1 (d2 dEq f h)) := q_cmp (op_eqD hu) giv_eq ha hb (nomark _)
theorem q_ne (hu : X.A.units + 64 < cLine) (ha : PV X C a f) (hb : PV X C b h) : PTV X C (.Compare a [.NotEq] [b] pos) (tB1 (d2 dNe f h)) := q_cmp (op_neD hu) giv_ne ha hb (nomark _)
/-- a test whatever its whole is -/
abbrev PWV (X : Cx) (C : Str → Option Addr) (e : Expr) (f : S → Option Bool) : Prop := PW X e (tT (gx X C) f)
variable {p q : S → Option Bool} {rest : List Expr}
def bAnd (p q : S → Option Bool) : S → Option Bool := fun s => (p s).bind fun c => if c = true then q s else some false
def bOr (p q : S → Option Bool) : S → Option Bool := fun s => (p s).bind fun c => if c = true then some true else q s
def bNot (p : S → Option Bool) : S → Option Bool := fun s => (p s).map fun c => !c
theorem q_not (ha : PTV X C a p) : PTV X C (.UnaryOp .Not a pos) (bNot p) := by
  refine PT.weak (pt_not ha) ?_
  rintro σ H Q ⟨B, F, m, oa, s, d, R, hf, k⟩
  obtain ⟨c, h1, rfl⟩ := Option.map_eq_some_iff.mp hf
  exact ⟨B, F, m, oa, s, c, R, h1, k⟩
theorem q_and1 (ha : PTV X C a p) : PWV X C (.BoolOp .And [a] pos) p := pw_and1 ha
theorem q_or1 (ha : PTV X C a p) : PWV X C (.BoolOp .Or [a] pos) p := pw_or1 ha
theorem q_and (ha : PTV X C a p) (hb : PWV X C (.BoolOp .And (b :: rest) pos) q) : PWV X C (.BoolOp .And (a :: b :: rest) pos) (bAnd p q) := by
  refine PW.weak (pw_and ha hb) ?_
  rintro σ H Q ⟨B, F, m, oa, s, d, R, hf, k⟩
  obtain ⟨c, h1, hf⟩ := Option.bind_eq_some_iff.mp hf
  refine ⟨B, F, m, oa, s, c, R, h1, fun F1 H1 R1 e1 => ?_⟩
  cases c with
  | true =>
    rw [if_pos rfl] at hf ⊢
    exact ⟨B, F1, m, oa, s, d, R1, hf, fun F2 H2 R2 e2 => k F2 H2 R2 (e1.trans e2)⟩
  | false =>
    rw [if_neg Bool.false_ne_true] at hf ⊢
    cases hf
    exact k F1 H1 R1 e1
theorem q_or (ha : PTV X C a p) (hb : PWV X C (.BoolOp .Or (b :: rest) pos) q) : PWV X C (.BoolOp .Or (a :: b :: rest) pos) (bOr p q) := by
  refine PW.weak (pw_or ha hb) ?_
  rintro σ H Q ⟨B, F, m, oa, s, d, R, hf, k⟩
  obtain ⟨c, h1, hf⟩ := Option.bind_eq_some_iff.mp hf
  refine ⟨B, F, m, oa, s, c, R, h1, fun F1 H1 R1 e1 => ?_⟩
  cases c with
  | true =>
    rw [if_pos rfl] at hf ⊢
    cases hf
    exact k F1 H1 R1 e1
  | false =>
    rw [if_neg Bool.false_ne_true] at hf ⊢
    exact ⟨B, F1, m, oa, s, d, R1, hf, fun F2 H2 R2 e2 => k F2 H2 R2 (e1.trans e2)⟩
/-- .. as values: all but the last are truths -/
def vAnd (f h : S → Option D) : S → Option D := fun s => (f s).bind fun x => (dB x).bind fun c => if c = true then h s else some (.bl false)
def vOr (f h : S → Option D) : S → Option D := fun s => (f s).bind fun x => (dB x).bind fun c => if c = true then some (.bl true) else h s
def dNot : D → Option D
  | .bl b => some (.bl (!b))
  | _ => none
theorem v_one {op} (ha : PV X C a f) : PV X C (.BoolOp op [a] pos) f := pe_one ha
theorem v_and (ha : PV X C a f) (hb : PV X C (.BoolOp .And (b :: rest) pos) h) : PV X C (.BoolOp .And (a :: b :: rest) pos) (vAnd f h) := by
  refine PE.weak (pe_and ha hb) ?_
  rintro σ H Q ⟨B, F, m, oa, s, d, R, hf, k⟩
  obtain ⟨x, h1, hg⟩ := Option.bind_eq_some_iff.mp hf
  obtain ⟨c, h2, h3⟩ := Option.bind_eq_some_iff.mp hg
  refine ⟨B, F, m, oa, s, x, R, h1, fun v F1 H1 R1 e1 dx => ?_⟩
  have ex : x = .bl c := dB_some h2
  subst ex
  cases dx
  refine ⟨_, rfl, ?_⟩
  clear hf hg
  cases c with
  | true =>
      rw [if_pos rfl] at h3 ⊢
      exact ⟨B, F1, m, oa, s, d, R1, h3, fun v F2 H2 R2 e2 => k v F2 H2 R2 (e1.trans e2)⟩
  | false =>
      rw [if_neg Bool.false_ne_true] at h3 ⊢
      cases h3
      exact k _ F1 H1 R1 e1 (.bl _)
theorem v_or (ha : PV X C a f) (hb : PV X C (.BoolOp .Or (b :: rest) pos) h) : PV X C (.BoolOp .Or (a :: b :: rest) pos) (vOr f h) := by
  refine PE.weak (pe_or ha hb) ?_
  rintro σ H Q ⟨B, F, m, oa, s, d, R, hf, k⟩
  obtain ⟨x, h1, hg⟩ := Option.bind_eq_some_iff.mp hf
  obtain ⟨c, h2, h3⟩ := Option.bind_eq_some_iff.mp hg
  refine ⟨B, F, m, oa, s, x, R, h1, fun v F1 H1 R1 e1 dx => ?_⟩
  have ex : x = .bl c := dB_some h2
  subst ex
  cases dx
  refine ⟨_, rfl, ?_⟩
  clear hf hg
  cases c with
  | true =>
      rw [if_pos rfl] at h3 ⊢
      cases h3
      exact k _ F1 H1 R1 e1 (.bl _)
  | false =>
      rw [if_neg Bool.false_ne_true] at h3 ⊢
      exact ⟨B, F1, m, oa, s, d, R1, h3, fun v F2 H2 R2 e2 => k v F2 H2 R2 (e1.trans e2)⟩
theorem v_not (ha : PV X C a f) : PV X C (.UnaryOp .Not a pos) (d1 dNot f) := by
  refine PE.weak (pe_not ha) ?_
  rintro σ H Q ⟨B, F, m, oa, s, d, R, hf, k⟩
  obtain ⟨x, h1, hf⟩ := Option.bind_eq_some_iff.mp hf
  refine ⟨B, F, m, oa, s, x, R, h1, fun v F1 H1 R1 e1 dx => ?_⟩
  cases x with
  | bl c => cases hf; cases dx; exact ⟨c, rfl, k _ F1 H1 R1 e1 (.bl _)⟩
  | _ => cases hf
end
end VS
namespace VS
open PySem L2
open PyProof.Rows hiding St
section
variable {X : Cx} {C : Str → Option Addr} {G : Gx} {B F : Hp} {m : List Addr} {oa : Own → Addr} {σ : St} {H : Hp} {s : S}
variable {a b e : Expr} {es : List Expr} {pos p2 : Pos} {f h : S → Option D} {fs gs : S → Option (List D)} {qf : S → Option (Bool × List D)}
/-! ### arguments -/
def aNil : S → Option (List D) := fun _ => some []
def aCons (f : S → Option D) (fs : S → Option (List D)) : S → Option (List D) := fun s => (f s).bind fun x => (fs s).map fun xs => x :: xs
theorem a_nil : PAV X C [] aNil := by
  refine PA.weak pa_nil ?_
  rintro σ H Q ⟨B, F, m, oa, s, d, R, hf, q⟩
  cases hf
  exact q [] F H R (Same.refl _) .nil
theorem a_cons (ha : PV X C e f) (hr : PAV X C es fs) (hs : starEach (e :: es) X.env = (false, eval e X.env) :: starEach es X.env := by rfl) : PAV X C (e :: es) (aCons f fs) := by
  refine PA.weak (pa_cons ha hr hs) ?_
  rintro σ H Q ⟨B, F, m, oa, s, d, R, hf, q⟩
  obtain ⟨x, hx, hf⟩ := Option.bind_eq_some_iff.mp hf
  obtain ⟨xs, hxs, rfl⟩ := Option.map_eq_some_iff.mp hf
  exact ⟨B, F, m, oa, s, x, R, hx, fun v F1 H1 R1 e1 dx => ⟨B, F1, m, oa, s, xs, R1, hxs, fun vs F2 H2 R2 e2 dxs => q _ F2 H2 R2 (e1.trans e2) (.cons (dx.mono e2 (Pre.refl _)) dxs)⟩⟩
/-! ### displays -/
theorem szl : (sizeLine : Nat) = 16777216 := sizeLine_eq
def dTup (fs : S → Option (List D)) : S → Option D := fun s => (fs s).bind fun ds => if ds.length ≤ 1000 then some (.tup ds) else none
def dLst (fs : S → Option (List D)) : S → Option (List D) := fun s => (fs s).bind fun ds => if ds.length ≤ 1000 then some ds else none
theorem v_tup {x1} (ha : PAV X C es fs) : PV X C (.Tuple es x1 pos) (dTup fs) := by
  refine PE.weak (pe_tup ha) ?_
  rintro σ H Q ⟨B, F, m, oa, s, d, R, hf, q⟩
  obtain ⟨ds, h1, hf⟩ := Option.bind_eq_some_iff.mp hf
  split at hf
  · rename_i hl
    cases hf
    refine ⟨B, F, m, oa, s, ds, R, h1, fun vs F1 H1 R1 e1 dx => ⟨by rw [dx.length, szl]; omega, fun p hp => ?_⟩⟩
    have ff := same_upd (o := .tup vs) (R1.fresh hp).1
    exact q _ _ _ (R1.new hp _) (e1.trans ff) (.tup (SqT.of upd_same) (dx.mono ff (Pre.refl _)))
  · cases hf
theorem n_lst (ha : PAV X C es fs) : PN X C (.List es pos) (dLst fs) := by
  refine PE.weak (pe_lst ha) ?_
  rintro σ H Q ⟨B, F, m, oa, s, d, R, hf, q⟩
  obtain ⟨ds, h1, hf⟩ := Option.bind_eq_some_iff.mp hf
  split at hf
  · rename_i hl
    cases hf
    refine ⟨B, F, m, oa, s, d, R, h1, fun vs F1 H1 R1 e1 dx => ⟨by rw [dx.length, szl]; omega, fun p hp => ?_⟩⟩
    exact q p vs F1 _ (R1.fresh hp).2 (R1.newB hp _) e1 dx
  · cases hf
/-- a new list is frozen -/
def vN (fs : S → Option (List D)) : S → Option D := fun s => (fs s).map .lst
theorem n_weak {Q : VK} (w : tV G (vN fs) σ H Q) : tN G fs σ H Q := by
  obtain ⟨B, F, m, oa, s, d, R, hf, q⟩ := w
  obtain ⟨ds, h1, rfl⟩ := Option.map_eq_some_iff.mp hf
  refine ⟨B, F, m, oa, s, ds, R, h1, fun p vs F1 H1 hb R1 e1 dx => ?_⟩
  have fp : F1 p = none := by
    cases ez : F1 p with
    | none => rfl
    | some u => exact absurd (R1.fb p (by rw [ez]; simp)) (by rw [upd_same]; simp)
  have ff := same_upd (o := .lst vs) fp
  exact q _ _ _ (R1.freezeB hb) (e1.trans ff) (.lst (SqL.of upd_same) (dx.mono ff (Pre.refl _)))
theorem v_ofN (hn : PN X C e fs) : PV X C e (vN fs) := PE.weak hn fun _ _ _ w => n_weak w
/-! ### what may be read as a sequence -/
def dSeq : D → Option (Bool × List D)
  | .lst ds => some (true, ds)
  | .tup ds => some (false, ds)
  | _ => none
def sV (f : S → Option D) : S → Option (Bool × List D) := fun s => (f s).bind dSeq
theorem seq_of {v : V} {d : D} {k : Bool} {ds : List D} (h : Dat G m F v d) (e : dSeq d = some (k, ds)) : SeqR G m F oa s v k ds := by
  cases h with
  | lst h1 h2 => cases e; exact Or.inl ⟨_, _, rfl, fun _ => h1, fun z => Bool.noConfusion z, h2⟩
  | tup h1 h2 => cases e; exact Or.inl ⟨_, _, rfl, fun z => Bool.noConfusion z, fun _ => h1, h2⟩
  | _ => cases e
theorem s_ofV (ha : PV X C e f) : PQ X C e (sV f) := by
  refine PE.weak ha ?_
  rintro σ H Q ⟨B, F, m, oa, s, k, ds, R, hf, q⟩
  obtain ⟨d, h1, h2⟩ := Option.bind_eq_some_iff.mp hf
  exact ⟨B, F, m, oa, s, d, R, h1, fun v F1 H1 R1 e1 dx => q v F1 H1 R1 e1 (seq_of dx h2)⟩
def sN (fs : S → Option (List D)) : S → Option (Bool × List D) := fun s => (fs s).map fun ds => (true, ds)
theorem s_ofN (hn : PN X C e fs) : PQ X C e (sN fs) := by
  refine PE.weak (v_ofN hn) ?_
  rintro σ H Q ⟨B, F, m, oa, s, k, ds, R, hf, q⟩
  obtain ⟨d, h1, h2⟩ := Option.map_eq_some_iff.mp hf
  cases h2
  exact ⟨B, F, m, oa, s, .lst ds, R, (by show (fs s).map D.lst = _; rw [h1]; rfl), fun v F1 H1 R1 e1 dx => q v F1 H1 R1 e1 (seq_of dx rfl)⟩
def S.seq (s : S) (i : Nat) : Option (Bool × List D) := match s.r[i]? with
  | some (.fr d) => dSeq d
  | some (.ow ds) => some (true, ds)
  | _ => none
theorem s_var (i : Nat) {x : Str} {pos : Pos} (hN : X.N[i]? = some x := by rfl) (hv : Vis X.env.scope x := by first | exact Or.inl rfl | exact Or.inr (Or.inl rfl) | exact Or.inr (Or.inr rfl)) (hd : (x == ("__debug__" : Str)) = false := by decide)
    (hcd : (x == ("__classdict__" : Str)) = false := by decide) : PQ X C (.Name x pos) (fun s => s.seq i) := by
  refine PE.weak (pe_var (i := i) hN hv hd hcd) ?_
  rintro σ H Q ⟨B, F, m, oa, s, k, ds, R, hf, q⟩
  have hf' : (match s.r[i]? with
    | some (.fr d) => dSeq d
    | some (.ow ds) => some (true, ds)
    | _ => none) = some (k, ds) := hf
  split at hf'
  · rename_i e
    obtain ⟨v, h1, h2⟩ := R.slot i _ e
    exact ⟨v, h1, q v F H R (Same.refl _) (seq_of h2 hf')⟩
  · rename_i e
    cases hf'
    have ho : ownAt s (.inl i) = some ds := by show slO s.r[i]? = some ds; rw [e]; rfl
    exact ⟨_, R.slot i _ e, q _ F H R (Same.refl _) (Or.inr ⟨rfl, .inl i, rfl, ho⟩)⟩
  · cases hf'
/-! ### subscripts, slices -/
def iInt : D → Option Int
  | .int i => some i
  | _ => none
theorem iInt_dat {v : V} {d : D} {i : Int} (h : Dat G m F v d) (e : iInt d = some i) : v = .int i := by
  cases h <;> cases e
  rfl
theorem ixN_of {α β : Type} {xs : List α} {ys : List β} (h : xs.length = ys.length) {i : Int} {y : β} (e : atI ys i = some y) : ∃ j, ixN xs.length i = some j ∧ ys[j]? = some y := by
  unfold atI at e
  obtain ⟨j, h1, h2⟩ := Option.bind_eq_some_iff.mp e
  exact ⟨j, by rw [h]; exact h1, h2⟩
def dIx (qf : S → Option (Bool × List D)) (f : S → Option D) : S → Option D := fun s => (qf s).bind fun q => (f s).bind fun d => (iInt d).bind fun i => atI q.2 i
theorem v_ix (ha : PQ X C a qf) (hb : PV X C b f) (hs : PlainIx b := by intro _ _; rfl) : PV X C (.Subscript a b pos) (dIx qf f) := by
  refine PE.weak (pe_ix (ix_list.or ix_tup) ha hb hs) ?_
  rintro σ H Q ⟨B, F, m, oa, s, d, R, hf, q⟩
  obtain ⟨⟨k, ds⟩, h1, hf⟩ := Option.bind_eq_some_iff.mp hf
  obtain ⟨x, h2, hf⟩ := Option.bind_eq_some_iff.mp hf
  obtain ⟨i, h3, hf⟩ := Option.bind_eq_some_iff.mp hf
  refine ⟨B, F, m, oa, s, k, ds, R, h1, fun v F1 H1 R1 e1 sq => ⟨B, F1, m, oa, s, x, R1, h2, fun u F2 H2 R2 e2 dx => ?_⟩⟩
  have eu := iInt_dat dx h3
  subst eu
  obtain ⟨p, vs, rfl, q1, q2, q3⟩ := (sq.mono e2).read R2
  obtain ⟨j, h5, h6⟩ := ixN_of q3.length hf
  obtain ⟨w, h7, h8⟩ := q3.get h6
  have hat : atI vs i = some w := by unfold atI; rw [h5]; exact h7
  have fin := q w F2 H2 R2 (e1.trans e2) h8
  cases k with
  | true => exact Or.inl ⟨p, vs, i, w, rfl, rfl, q1 rfl, hat, fin⟩
  | false => exact Or.inr ⟨p, vs, i, w, rfl, rfl, q2 rfl, hat, fin⟩
/-- an end of a slice -/
def tOD (G : Gx) (f : S → Option (Option Int)) : TO := fun σ H Q => ∃ B F m oa s i, Rel G B F m oa σ H s ∧ f s = some i ∧ ∀ F' H', Rel G B F' m oa σ H' s → Same F F' → Q i H'
abbrev POV (X : Cx) (C : Str → Option Addr) (e : Option Expr) (f : S → Option (Option Int)) : Prop := PO X e (tOD (gx X C) f)
theorem PO.weak {X : Cx} {e : Option Expr} {t t' : TO} (h : PO X e t) (k : ∀ σ H Q, t' σ H Q → t σ H Q) : PO X e t' := ⟨fun pins s σ H Q I w => h.run pins s σ H Q I (k σ H Q w)⟩
def oNone : S → Option (Option Int) := fun _ => some none
def oSome (f : S → Option D) : S → Option (Option Int) := fun s => (f s).bind fun d => (iInt d).map some
theorem o_none : POV X C none oNone := by
  refine PO.weak po_none ?_
  rintro σ H Q ⟨B, F, m, oa, s, d, R, hf, q⟩
  cases hf
  exact q F H R (Same.refl _)
theorem o_some (ha : PV X C e f) : POV X C (some e) (oSome f) := by
  refine PO.weak (po_some ha) ?_
  rintro σ H Q ⟨B, F, m, oa, s, d, R, hf, q⟩
  obtain ⟨x, h1, hf⟩ := Option.bind_eq_some_iff.mp hf
  obtain ⟨i, h2, rfl⟩ := Option.map_eq_some_iff.mp hf
  exact ⟨B, F, m, oa, s, x, R, h1, fun v F1 H1 R1 e1 dx => ⟨i, iInt_dat dx h2, q F1 H1 R1 e1⟩⟩
def cutD (ds : List D) (lo hi : Option Int) : List D := (ds.drop (HT.sIx ds.length 0 lo)).take (HT.sIx ds.length ds.length hi - HT.sIx ds.length 0 lo)
theorem cut_dat {vs : List V} {ds : List D} (h : DatL G m F vs ds) (lo hi : Option Int) : DatL G m F (cutV vs lo hi) (cutD ds lo hi) := by
  unfold cutV cutD
  rw [h.length]
  exact (h.drop _).take _
variable {lo hi : Option Expr} {fl fh : S → Option (Option Int)}
def dCut (qf : S → Option (Bool × List D)) (fl fh : S → Option (Option Int)) (g : Bool → List D → Option Int → Option Int → Option D) : S → Option D := fun s => (qf s).bind fun q => (fl s).bind fun l => (fh s).bind fun u => g q.1 q.2 l u
def gCut : Bool → List D → Option Int → Option Int → Option D := fun k ds l u => some (if k = true then .lst (cutD ds l u) else .tup (cutD ds l u))
theorem v_slice (ha : PQ X C a qf) (hl : POV X C lo fl) (hh : POV X C hi fh) : PV X C (.Subscript a (.Slice lo hi none p2) pos) (dCut qf fl fh gCut) := by
  refine PE.weak (pe_slice (sl_list.or sl_tupA) ha hl hh) ?_
  rintro σ H Q ⟨B, F, m, oa, s, d, R, hf, q⟩
  obtain ⟨⟨k, ds⟩, h1, hf⟩ := Option.bind_eq_some_iff.mp hf
  obtain ⟨l, h2, hf⟩ := Option.bind_eq_some_iff.mp hf
  obtain ⟨u, h3, hf⟩ := Option.bind_eq_some_iff.mp hf
  refine ⟨B, F, m, oa, s, k, ds, R, h1, fun v F1 H1 R1 e1 sq => ⟨B, F1, m, oa, s, l, R1, h2, fun F2 H2 R2 e2 => ⟨B, F2, m, oa, s, u, R2, h3, fun F3 H3 R3 e3 => ?_⟩⟩⟩
  obtain ⟨p, vs, rfl, q1, q2, q3⟩ := ((sq.mono e2).mono e3).read R3
  have ee := (e1.trans e2).trans e3
  have qc := cut_dat q3 l u
  cases k with
  | true =>
    cases hf
    refine Or.inl ⟨p, vs, rfl, q1 rfl, fun y hy => ?_⟩
    have ff := same_upd (o := .lst (cutV vs l u)) (R3.fresh hy).1
    exact q _ _ _ (R3.new hy _) (ee.trans ff) (.lst (SqL.of upd_same) (qc.mono ff (Pre.refl _)))
  | false =>
    cases hf
    refine Or.inr ⟨p, vs, rfl, q2 rfl, fun hw => ?_, fun _ y hy => ?_⟩
    · have hall : cutV vs l u = vs := by
        unfold cutV
        rw [hw.1, hw.2]
        simp
      rw [hall] at qc
      rcases sq with ⟨a', vs', hv, w1, w2, w3⟩ | ⟨z, _⟩
      · cases hv
        have hvs : SqT X.K F3 p vs' := same_seqT (e2.trans e3) (w2 rfl)
        have w3' := w3.mono (e2.trans e3) (Pre.refl _)
        refine q _ F3 H3 R3 ee (.tup hvs ?_)
        have hcd : cutD ds l u = ds := by
          unfold cutD
          rw [q3.length] at hw
          rw [hw.1, hw.2]
          simp
        show DatL _ m F3 vs' (cutD ds l u)
        rw [hcd]; exact w3'
      · cases z
    · have ff := same_upd (o := .tup (cutV vs l u)) (R3.fresh hy).1
      exact q _ _ _ (R3.new hy _) (ee.trans ff) (.tup (SqT.of upd_same) (qc.mono ff (Pre.refl _)))
/-- a slice of a list, one's own -/
def nCut (qf : S → Option (Bool × List D)) (fl fh : S → Option (Option Int)) : S → Option (List D) := fun s => (qf s).bind fun q => (fl s).bind fun l => (fh s).bind fun u => if q.1 = true then some (cutD q.2 l u) else none
theorem n_slice (ha : PQ X C a qf) (hl : POV X C lo fl) (hh : POV X C hi fh) : PN X C (.Subscript a (.Slice lo hi none p2) pos) (nCut qf fl fh) := by
  refine PE.weak (pe_slice sl_list ha hl hh) ?_
  rintro σ H Q ⟨B, F, m, oa, s, d, R, hf, q⟩
  obtain ⟨⟨k, ds⟩, h1, hf⟩ := Option.bind_eq_some_iff.mp hf
  obtain ⟨l, h2, hf⟩ := Option.bind_eq_some_iff.mp hf
  obtain ⟨u, h3, hf⟩ := Option.bind_eq_some_iff.mp hf
  refine ⟨B, F, m, oa, s, k, ds, R, h1, fun v F1 H1 R1 e1 sq => ⟨B, F1, m, oa, s, l, R1, h2, fun F2 H2 R2 e2 => ⟨B, F2, m, oa, s, u, R2, h3, fun F3 H3 R3 e3 => ?_⟩⟩⟩
  obtain ⟨p, vs, rfl, q1, q2, q3⟩ := ((sq.mono e2).mono e3).read R3
  have ee := (e1.trans e2).trans e3
  cases k with
  | true =>
    cases hf
    exact ⟨p, vs, rfl, q1 rfl, fun y hy => q y _ F3 _ (R3.fresh hy).2 (R3.newB hy _) ee (cut_dat q3 l u)⟩
  | false => cases hf
/-! ### + : numbers, tuples, texts; of lists a new list -/
def dAdd : D → D → Option D
  | .int i, .int j => some (.int (i + j))
  | .tup x, .tup y => if x.length + y.length ≤ 16777216 then some (.tup (x ++ y)) else none
  | .str x, .str y => if x.length + y.length ≤ 16777216 then some (.str (x ++ y)) else none
  | _, _ => none
theorem DatL.nil_iff {vs : List V} {ds : List D} (h : DatL G m F vs ds) : vs = [] ↔ ds = [] := by
  cases h <;> simp
theorem giv_add : Giv X C (fun x y H Q => (rI0 (fun i j => V.int (i + j)) x y H Q ∨ rCatA X.K x y H Q) ∨ (∃ i j, x = .str i ∧ y = .str j ∧ i.length + j.length ≤ sizeLine ∧ Q (.str (i ++ j)) H)) dAdd := by
  intro B F m oa σ H s x y d v u Q R hg dx dy q
  cases dx with
  | int i =>
    cases dy with
    | int j => cases hg; exact Or.inl (Or.inl ⟨i, j, rfl, rfl, q _ F H R (Same.refl _) (.int _)⟩)
    | _ => cases hg
  | str i =>
    cases dy with
    | str j =>
      have hg' : (if i.length + j.length ≤ 16777216 then some (D.str (i ++ j)) else none) = some d := hg
      split at hg'
      · rename_i hl
        cases hg'
        exact Or.inr ⟨i, j, rfl, rfl, by rw [szl]; exact hl, q _ F H R (Same.refl _) (.str _)⟩
      · cases hg'
    | _ => cases hg
  | @tup ax vx xs h1 h2 =>
    cases dy with
    | @tup ay vy ys h3 h4 =>
      have hg' : (if xs.length + ys.length ≤ 16777216 then some (D.tup (xs ++ ys)) else none) = some d := hg
      split at hg'
      · rename_i hl
        cases hg'
        refine Or.inl (Or.inr ⟨ax, ay, vx, vy, rfl, rfl, same_seqT R.fh h1, same_seqT R.fh h3, by rw [h2.length, h4.length, szl]; exact hl, fun z => ?_, fun _ z => ?_, fun _ _ p hp => ?_⟩)
        · subst z
          have e := h2.nil_iff.mp rfl
          subst e
          exact q _ F H R (Same.refl _) (.tup h3 h4)
        · subst z
          have e := h4.nil_iff.mp rfl
          subst e
          refine q _ F H R (Same.refl _) (.tup h1 ?_)
          rw [List.append_nil]; exact h2
        · have ff := same_upd (o := .tup (vx ++ vy)) (R.fresh hp).1
          exact q _ _ _ (R.new hp _) ff (.tup (SqT.of upd_same) ((h2.append h4).mono ff (Pre.refl _)))
      · cases hg'
    | _ => cases hg
  | _ => cases hg
theorem v_add (ha : PV X C a f) (hb : PV X C b h) : PV X C (.BinOp a .Add b pos) (d2 dAdd f h) := v_bin ((op_add.or op_catA).or op_add_str) giv_add ha hb
/-- lists of any home -/
def rCatL (K : PySem.W.Frag) : R2 := fun x y H Q => ∃ l b xs zs, x = .ref l ∧ y = .ref b ∧ SqL K H l xs ∧ SqL K H b zs ∧ xs.length + zs.length ≤ sizeLine ∧ ∀ p, H p = none → Q (.ref p) (upd H p (.lst (xs ++ zs)))
theorem op_catL : OpR X (binaryOp .Add) (rCatL X.K) := by
  intro pins s σ H x y v u Q I rx ry hh
  obtain ⟨l, b, xs, zs, rfl, rfl, hH, hB, hz, q⟩ := hh
  cases rx
  cases ry
  obtain ⟨its, r, ⟨⟨c1, d1, a1, s1⟩, n1, g1, g2, g3, g4⟩, _⟩ := I.list hH
  obtain ⟨ivs, r2, ⟨⟨c2, d2, a2, s2⟩, n2, k1, k2, k3, k4⟩, _⟩ := I.list hB
  simp only at g2 g3 g4 k2 k3 k4
  subst g2 g3 g4 k2 k3 k4
  have e1 := r.length
  have e2 := r2.length
  have ea : its.toArray ++ ivs.toArray = (its ++ ivs).toArray := by simp
  refine PySem.concat_meets ⟨_, g1, rfl⟩ ⟨_, k1, rfl⟩ PySem.noFill_list_add PySem.seq_list_add PySem.F.slot_list_add PySem.F.entry_list_add (PySem.F.args_list_add_2 _ _)
    (list_addW l b its.toArray ivs.toArray n1 n2 none none s1 s2 (by rw [List.size_toArray, List.size_toArray]; omega)) ⟨g1, k1, ?_⟩
  rw [ea]
  exact ⟨.ref _, _, I.lnew (t' := s.toks) (r.append r2) (by rw [List.length_append]; omega), rfl, q _ I.fresh⟩
def nCat (qf qh : S → Option (Bool × List D)) : S → Option (List D) := fun s => (qf s).bind fun x => (qh s).bind fun y => if x.1 = true ∧ y.1 = true ∧ x.2.length + y.2.length ≤ 16777216 then some (x.2 ++ y.2) else none
variable {qh : S → Option (Bool × List D)}
theorem n_cat (ha : PQ X C a qf) (hb : PQ X C b qh) : PN X C (.BinOp a .Add b pos) (nCat qf qh) := by
  refine PE.weak (pe_op op_catL ha hb) ?_
  rintro σ H Q ⟨B, F, m, oa, s, d, R, hf, q⟩
  obtain ⟨⟨k, ds⟩, h1, hf⟩ := Option.bind_eq_some_iff.mp hf
  obtain ⟨⟨k2, es⟩, h2, hf⟩ := Option.bind_eq_some_iff.mp hf
  split at hf
  · rename_i hc
    obtain ⟨c1, c2, c3⟩ := hc
    simp only at c1 c2 c3
    subst c1 c2
    cases hf
    refine ⟨B, F, m, oa, s, true, ds, R, h1, fun v F1 H1 R1 e1 sq => ⟨B, F1, m, oa, s, true, es, R1, h2, fun u F2 H2 R2 e2 sq2 => ?_⟩⟩
    obtain ⟨p, vs, rfl, q1, q2, q3⟩ := (sq.mono e2).read R2
    obtain ⟨p', us, rfl, w1, w2, w3⟩ := sq2.read R2
    exact ⟨p, p', vs, us, rfl, rfl, q1 rfl, w1 rfl, by rw [q3.length, w3.length, szl]; exact c3, fun y hy => q y _ F2 _ (R2.fresh hy).2 (R2.newB hy _) (e1.trans e2) (q3.append w3)⟩
  · cases hf
/-! ### calls of what is built in -/
/-- the call's rule gives what g says of the arguments -/
def GivL (X : Cx) (C : Str → Option Addr) (r : List V → Hp → VK → Prop) (g : List D → Option D) : Prop :=
  ∀ {B F : Hp} {m : List Addr} {oa : Own → Addr} {σ : St} {H : Hp} {s : S} {ds : List D} {d : D} {vs : List V} {Q : VK}, Rel (gx X C) B F m oa σ H s → g ds = some d → DatL (gx X C) m F vs ds →
    (∀ w F' H', Rel (gx X C) B F' m oa σ H' s → Same F F' → Dat (gx X C) m F' w d → Q w H') → r vs H Q
def dCall (g : List D → Option D) (fs : S → Option (List D)) : S → Option D := fun s => (fs s).bind g
variable {x : Str} {p : Pos} {r : List V → Hp → VK → Prop} {g : List D → Option D}
theorem call_weak (hr : GivL X C r g) (σ : St) (H : Hp) (Q : VK) (w : tV (gx X C) (dCall g fs) σ H Q) : tCB r (tA (gx X C) fs) σ H Q := by
  obtain ⟨B, F, m, oa, s, d, R, hf, q⟩ := w
  obtain ⟨ds, h1, hf⟩ := Option.bind_eq_some_iff.mp hf
  exact ⟨B, F, m, oa, s, ds, R, h1, fun vs F1 H1 R1 e1 dx => hr R1 hf dx fun w F2 H2 R2 e2 dw => q w F2 H2 R2 (e1.trans e2) dw⟩
theorem v_blt {id : String} (hc : CallR X (.builtin id) r) (hr : GivL X C r g) (hg : Gl X x) (hm : X.mg x = none) (hv : bootBuiltins x = some (.builtin id)) (ha : PAV X C (e :: es) fs)
    (hn : x ≠ "__name__" := by decide) (hdb : (x == ("__debug__" : Str)) = false := by decide)
    (hs : starEach (e :: es) X.env = (false, eval e X.env) :: starEach es X.env := by rfl) (hpl : (backTo pos (starEach es X.env)).any (·.1) = false := by rfl) : PV X C (.Call (.Name x p) (e :: es) [] pos) (dCall g fs) :=
  PE.weak (pe_callB hc hg hm hv ha hn hdb hs hpl) (call_weak hr)
theorem v_bty {T : String} (hc : CallR X (.type T) r) (hr : GivL X C r g) (hg : Gl X x) (hm : X.mg x = none) (hv : bootBuiltins x = some (.type T)) (ha : PAV X C (e :: es) fs)
    (hn : x ≠ "__name__" := by decide) (hdb : (x == ("__debug__" : Str)) = false := by decide)
    (hs : starEach (e :: es) X.env = (false, eval e X.env) :: starEach es X.env := by rfl) (hpl : (backTo pos (starEach es X.env)).any (·.1) = false := by rfl) : PV X C (.Call (.Name x p) (e :: es) [] pos) (dCall g fs) :=
  PE.weak (pe_callTy hc hg hm hv ha hn hdb hs hpl) (call_weak hr)
/-- of one sequence -/
def GivS (X : Cx) (C : Str → Option Addr) (r : List V → Hp → VK → Prop) (g : Bool → List D → Option D) : Prop :=
  ∀ {B F : Hp} {m : List Addr} {oa : Own → Addr} {σ : St} {H : Hp} {s : S} {k : Bool} {ds : List D} {d : D} {v : V} {Q : VK}, Rel (gx X C) B F m oa σ H s → g k ds = some d → SeqR (gx X C) m F oa s v k ds →
    (∀ w F' H', Rel (gx X C) B F' m oa σ H' s → Same F F' → Dat (gx X C) m F' w d → Q w H') → r [v] H Q
def dCallS (g : Bool → List D → Option D) (qf : S → Option (Bool × List D)) : S → Option D := fun s => (qf s).bind fun q => g q.1 q.2
variable {gS : Bool → List D → Option D}
theorem callS_weak (hr : GivS X C r gS) (σ : St) (H : Hp) (Q : VK) (w : tV (gx X C) (dCallS gS qf) σ H Q) : tCB r (tCons (tQ (gx X C) qf) tNil) σ H Q := by
  obtain ⟨B, F, m, oa, s, d, R, hf, q⟩ := w
  obtain ⟨⟨k, ds⟩, h1, hf⟩ := Option.bind_eq_some_iff.mp hf
  exact ⟨B, F, m, oa, s, k, ds, R, h1, fun v F1 H1 R1 e1 sq => hr R1 hf sq fun w F2 H2 R2 e2 dw => q w F2 H2 R2 (e1.trans e2) dw⟩
theorem v_bltS {id : String} (hc : CallR X (.builtin id) r) (hr : GivS X C r gS) (hg : Gl X x) (hm : X.mg x = none) (hv : bootBuiltins x = some (.builtin id)) (ha : PQ X C e qf)
    (hn : x ≠ "__name__" := by decide) (hdb : (x == ("__debug__" : Str)) = false := by decide)
    (hs : starEach [e] X.env = (false, eval e X.env) :: starEach [] X.env := by rfl) (hpl : (backTo pos (starEach [] X.env)).any (·.1) = false := by rfl) : PV X C (.Call (.Name x p) [e] [] pos) (dCallS gS qf) :=
  PE.weak (pe_callB hc hg hm hv (pa_cons ha pa_nil hs) hn hdb hs hpl) (callS_weak hr)
theorem v_btyS {T : String} (hc : CallR X (.type T) r) (hr : GivS X C r gS) (hg : Gl X x) (hm : X.mg x = none) (hv : bootBuiltins x = some (.type T)) (ha : PQ X C e qf)
    (hn : x ≠ "__name__" := by decide) (hdb : (x == ("__debug__" : Str)) = false := by decide)
    (hs : starEach [e] X.env = (false, eval e X.env) :: starEach [] X.env := by rfl) (hpl : (backTo pos (starEach [] X.env)).any (·.1) = false := by rfl) : PV X C (.Call (.Name x p) [e] [] pos) (dCallS gS qf) :=
  PE.weak (pe_callTy hc hg hm hv (pa_cons ha pa_nil hs) hn hdb hs hpl) (callS_weak hr)
/-! #### len, sum, max, min, tuple -/
def gLen : Bool → List D → Option D := fun _ ds => some (.int ds.length)
theorem giv_len : GivS X C (fun xs H Q => ∃ p ys, xs = [.ref p] ∧ (SqL X.K H p ys ∨ SqT X.K H p ys) ∧ Q (.int ys.length) H) gLen := by
  intro B F m oa σ H s k ds d v Q R hg sq q
  cases hg
  obtain ⟨p, vs, rfl, q1, q2, q3⟩ := sq.read R
  refine ⟨p, vs, rfl, ?_, q _ F H R (Same.refl _) (by rw [q3.length]; exact .int _)⟩
  cases k with
  | true => exact Or.inl (q1 rfl)
  | false => exact Or.inr (q2 rfl)
def intsOf : List D → Option (List Int)
  | [] => some []
  | d :: ds => (iInt d).bind fun i => (intsOf ds).map fun is => i :: is
theorem ints_dat : ∀ {ds : List D} {vs : List V} {ns : List Int}, DatL G m F vs ds → intsOf ds = some ns → vs = ns.map V.int
  | [], _, _, h, e => by cases h; cases e; rfl
  | d :: ds, vs, ns, h, e => by
    rw [intsOf] at e
    obtain ⟨i, h1, e⟩ := Option.bind_eq_some_iff.mp e
    obtain ⟨is, h2, h3⟩ := Option.map_eq_some_iff.mp e
    subst h3
    cases h with
    | cons h4 h5 => rw [iInt_dat h4 h1, ints_dat h5 h2, List.map_cons]
def gSum : Bool → List D → Option D := fun k ds => if k = true then (intsOf ds).map fun ns => .int ns.sum else none
theorem giv_sum : GivS X C (rSum X.K) gSum := by
  intro B F m oa σ H s k ds d v Q R hg sq q
  unfold gSum at hg
  split at hg
  · rename_i hk
    subst hk
    obtain ⟨ns, h1, rfl⟩ := Option.map_eq_some_iff.mp hg
    obtain ⟨p, vs, rfl, q1, q2, q3⟩ := sq.read R
    have e := ints_dat q3 h1
    subst e
    exact ⟨p, ns, rfl, q1 rfl, q _ F H R (Same.refl _) (.int _)⟩
  · cases hg
/-- the greatest, the least of ints, one or more -/
def maxL : List Int → Int
  | [] => 0
  | x :: xs => xs.foldl max x
def minL : List Int → Int
  | [] => 0
  | x :: xs => xs.foldl min x
theorem foldl_max : ∀ (xs : List Int) (x : Int), (xs.foldl max x ∈ x :: xs) ∧ ∀ y ∈ x :: xs, y ≤ xs.foldl max x
  | [], x => ⟨by simp, by simp⟩
  | z :: zs, x => by
    have ih := foldl_max zs (max x z)
    refine ⟨?_, fun y hy => ?_⟩
    · rw [List.foldl_cons]
      rcases List.mem_cons.mp ih.1 with h | h
      · rw [h]
        rcases Int.le_total x z with q | q
        · rw [Int.max_eq_right q]; simp
        · rw [Int.max_eq_left q]; simp
      · exact List.mem_cons_of_mem _ (List.mem_cons_of_mem _ h)
    · rw [List.foldl_cons]
      have hm := ih.2 (max x z) (by simp)
      rcases List.mem_cons.mp hy with h | h
      · subst h; omega
      · rcases List.mem_cons.mp h with h | h
        · subst h; omega
        · exact ih.2 y (List.mem_cons_of_mem _ h)
theorem foldl_min : ∀ (xs : List Int) (x : Int), (xs.foldl min x ∈ x :: xs) ∧ ∀ y ∈ x :: xs, xs.foldl min x ≤ y
  | [], x => ⟨by simp, by simp⟩
  | z :: zs, x => by
    have ih := foldl_min zs (min x z)
    refine ⟨?_, fun y hy => ?_⟩
    · rw [List.foldl_cons]
      rcases List.mem_cons.mp ih.1 with h | h
      · rw [h]
        rcases Int.le_total x z with q | q
        · rw [Int.min_eq_left q]; simp
        · rw [Int.min_eq_right q]; simp
      · exact List.mem_cons_of_mem _ (List.mem_cons_of_mem _ h)
    · rw [List.foldl_cons]
      have hm := ih.2 (min x z) (by simp)
      rcases List.mem_cons.mp hy with h | h
      · subst h; omega
      · rcases List.mem_cons.mp h with h | h
        · subst h; omega
        · exact ih.2 y (List.mem_cons_of_mem _ h)
theorem maxL_is {ns : List Int} (h : 0 < ns.length) : maxL ns ∈ ns ∧ ∀ y ∈ ns, y ≤ maxL ns := by
  cases ns with
  | nil => simp at h
  | cons x xs => exact foldl_max xs x
theorem minL_is {ns : List Int} (h : 0 < ns.length) : minL ns ∈ ns ∧ ∀ y ∈ ns, minL ns ≤ y := by
  cases ns with
  | nil => simp at h
  | cons x xs => exact foldl_min xs x
/-! ### the greatest and the least, of a list or of a tuple -/
section
variable {prog : Program} {w : World} {A : Around} {E : Value → Shared → Prop} {s : Shared} {l : Addr} {xs : Array (Int × Tok)}
theorem tup_walk {h' : Heap} (hk : ∀ b o, b ∉ [s.heap.objs.size] → (s.heap.push { cls := .type "tuple_iterator", data := .fields #[.ref l, .int 0 0] }).get? b = some o → h'.get? b = some o) :
    ∀ b o, s.heap.get? b = some o → h'.get? b = some o := fun b o e => by
  refine hk b o (fun hm => ?_) (Heap.get?_push_of_some _ e)
  rcases List.mem_cons.mp hm with e1 | hm
  · exact absurd (e1 ▸ Heap.lt_size e) (Nat.lt_irrefl _)
  · cases hm
theorem tup_fp (ht : s.heap.IsTuple l (intItems xs)) : ∀ b ∈ [s.heap.objs.size, l], b < (s.heap.push { cls := .type "tuple_iterator", data := .fields #[.ref l, .int 0 0] }).objs.size := fun b hb => by
  have hlt : l < s.heap.objs.size := by obtain ⟨_, e, _⟩ := ht; exact Heap.lt_size e
  rw [Heap.size_push]
  rcases List.mem_cons.mp hb with rfl | hb
  · exact Nat.lt_succ_self _
  · rcases List.mem_cons.mp hb with rfl | hb
    · exact Nat.lt_succ_of_lt hlt
    · cases hb
theorem max_intTup {Q : Value → Shared → Prop} (hh : A.handled = none) (ht : s.heap.IsTuple l (intItems xs)) (hne : 0 < xs.size)
    (h : ∀ v h' tk, (intItems xs)[argBest (fun i j => decide (numAt xs i > numAt xs j)) (xs.size - 1)]? = some v → (∀ b o, s.heap.get? b = some o → h'.get? b = some o) → Q v { s with heap := h', toks := tk }) :
    wpAny (model prog w) A (call (.builtin "max") [.ref l]) Q E s := by
  have hlt : l < s.heap.objs.size := by obtain ⟨_, e, _⟩ := ht; exact Heap.lt_size e
  refine call_max_walk (wpAny_pyIter_tuple ht ?_)
  refine ⟨_, [s.heap.objs.size, l], [s.heap.objs.size], _, _, _, _, rfl, Walks.tuple (A := A.in1) hh _ l (Nat.ne_of_lt hlt) (intItems xs), ⟨⟨_, Heap.get?_push_size _ rfl, rfl, rfl⟩, ht.push _⟩, tup_fp ht, by simpa [intItems] using hne, CmpOf.ints_gt (numAt xs) (fun _ _ => intItems_at), fun v h' tk hP hk => ?_⟩
  exact h v h' tk (by simpa [intItems] using hP) (tup_walk hk)
theorem min_intTup {Q : Value → Shared → Prop} (hh : A.handled = none) (ht : s.heap.IsTuple l (intItems xs)) (hne : 0 < xs.size)
    (h : ∀ v h' tk, (intItems xs)[argBest (fun i j => decide (numAt xs i < numAt xs j)) (xs.size - 1)]? = some v → (∀ b o, s.heap.get? b = some o → h'.get? b = some o) → Q v { s with heap := h', toks := tk }) :
    wpAny (model prog w) A (call (.builtin "min") [.ref l]) Q E s := by
  have hlt : l < s.heap.objs.size := by obtain ⟨_, e, _⟩ := ht; exact Heap.lt_size e
  refine call_min_walk (wpAny_pyIter_tuple ht ?_)
  refine ⟨_, [s.heap.objs.size, l], [s.heap.objs.size], _, _, _, _, rfl, Walks.tuple (A := A.in1) hh _ l (Nat.ne_of_lt hlt) (intItems xs), ⟨⟨_, Heap.get?_push_size _ rfl, rfl, rfl⟩, ht.push _⟩, tup_fp ht, by simpa [intItems] using hne, CmpOf.ints_lt (numAt xs) (fun _ _ => intItems_at), fun v h' tk hP hk => ?_⟩
  exact h v h' tk (by simpa [intItems] using hP) (tup_walk hk)
variable {its : List Value} {ns : List Int} {Q : Value → Shared → Prop}
theorem max_rawT (hh : A.handled = none) (hl : s.heap.IsTuple l its.toArray) (hi : IntsAre its ns) (hne : 0 < ns.length)
    (h : ∀ h' tk M t', (∀ b o, s.heap.get? b = some o → h'.get? b = some o) → M ∈ ns → (∀ a, a ∈ ns → a ≤ M) → Q (.int M t') { s with heap := h', toks := tk }) : wpAny (model prog w) A (call (.builtin "max") [.ref l]) Q E s := by
  obtain ⟨xs, e⟩ := hi.allInts.items
  have hn : numsOf (intItems xs).toList = ns := by rw [← e]; exact hi.numsOf
  rw [nums_intItems] at hn
  subst hn
  rw [e] at hl
  have hsz : 0 < xs.size := by simpa using hne
  refine max_intTup hh hl hsz fun v h' tk hv hk => ?_
  obtain ⟨t, rfl⟩ := intItems_at hv
  obtain ⟨h1, h2⟩ := argBest_gt (numAt xs) (xs.size - 1)
  refine h h' tk _ t hk ?_ fun a ha => ?_
  · rw [numAt_eq]; exact PySem.getD_mem (by rw [List.length_map, Array.length_toList]; omega)
  · obtain ⟨j, hj, rfl⟩ := mem_getD ha
    rw [List.length_map, Array.length_toList] at hj
    rw [← numAt_eq]; exact h2 j (by omega)
theorem min_rawT (hh : A.handled = none) (hl : s.heap.IsTuple l its.toArray) (hi : IntsAre its ns) (hne : 0 < ns.length)
    (h : ∀ h' tk M t', (∀ b o, s.heap.get? b = some o → h'.get? b = some o) → M ∈ ns → (∀ a, a ∈ ns → M ≤ a) → Q (.int M t') { s with heap := h', toks := tk }) : wpAny (model prog w) A (call (.builtin "min") [.ref l]) Q E s := by
  obtain ⟨xs, e⟩ := hi.allInts.items
  have hn : numsOf (intItems xs).toList = ns := by rw [← e]; exact hi.numsOf
  rw [nums_intItems] at hn
  subst hn
  rw [e] at hl
  have hsz : 0 < xs.size := by simpa using hne
  refine min_intTup hh hl hsz fun v h' tk hv hk => ?_
  obtain ⟨t, rfl⟩ := intItems_at hv
  obtain ⟨h1, h2⟩ := argBest_lt (numAt xs) (xs.size - 1)
  refine h h' tk _ t hk ?_ fun a ha => ?_
  · rw [numAt_eq]; exact PySem.getD_mem (by rw [List.length_map, Array.length_toList]; omega)
  · obtain ⟨j, hj, rfl⟩ := mem_getD ha
    rw [List.length_map, Array.length_toList] at hj
    rw [← numAt_eq]; exact h2 j (by omega)
end
def rMaxA (K : PySem.W.Frag) : List V → Hp → VK → Prop := fun vs H Q => ∃ (a : Addr) (ns : List Int), vs = [V.ref a] ∧ (SqL K H a (ns.map V.int) ∨ SqT K H a (ns.map V.int)) ∧ 0 < ns.length ∧ ∀ m, m ∈ ns → (∀ y, y ∈ ns → y ≤ m) → Q (.int m) H
def rMinA (K : PySem.W.Frag) : List V → Hp → VK → Prop := fun vs H Q => ∃ (a : Addr) (ns : List Int), vs = [V.ref a] ∧ (SqL K H a (ns.map V.int) ∨ SqT K H a (ns.map V.int)) ∧ 0 < ns.length ∧ ∀ m, m ∈ ns → (∀ y, y ∈ ns → m ≤ y) → Q (.int m) H
theorem cr_maxA {X : Cx} (hc : X.calm = true) : CallR X (.builtin "max") (rMaxA X.K) := by
  intro pins s σ H vs us Q I r h
  obtain ⟨a, ns, rfl, hs | hs, hne, q⟩ := h
  · exact cr_max hc pins s σ H _ us Q I r ⟨a, ns, rfl, hs, hne, q⟩
  · obtain ⟨its, rv, hl, _⟩ := I.tuple hs
    rw [Vals.ref1 r]
    exact max_rawT (I.ok.hd hc) hl rv.ints hne fun h' tk m t' hk h1 h2 => ⟨.int _, H, I.kept hk, ⟨_, rfl⟩, q m h1 h2⟩
theorem cr_minA {X : Cx} (hc : X.calm = true) : CallR X (.builtin "min") (rMinA X.K) := by
  intro pins s σ H vs us Q I r h
  obtain ⟨a, ns, rfl, hs | hs, hne, q⟩ := h
  · exact cr_min hc pins s σ H _ us Q I r ⟨a, ns, rfl, hs, hne, q⟩
  · obtain ⟨its, rv, hl, _⟩ := I.tuple hs
    rw [Vals.ref1 r]
    exact min_rawT (I.ok.hd hc) hl rv.ints hne fun h' tk m t' hk h1 h2 => ⟨.int _, H, I.kept hk, ⟨_, rfl⟩, q m h1 h2⟩
def gMax : Bool → List D → Option D := fun _ ds => (intsOf ds).bind fun ns => if 0 < ns.length then some (.int (maxL ns)) else none
def gMin : Bool → List D → Option D := fun _ ds => (intsOf ds).bind fun ns => if 0 < ns.length then some (.int (minL ns)) else none
theorem giv_max : GivS X C (rMaxA X.K) gMax := by
  intro B F m oa σ H s k ds d v Q R hg sq q
  unfold gMax at hg
  obtain ⟨ns, h1, hg⟩ := Option.bind_eq_some_iff.mp hg
  split at hg
  · rename_i hl
    cases hg
    obtain ⟨p, vs, rfl, q1, q2, q3⟩ := sq.read R
    have e := ints_dat q3 h1
    subst e
    refine ⟨p, ns, rfl, ?_, hl, fun z hz hz2 => ?_⟩
    · cases k with
      | true => exact .inl (q1 rfl)
      | false => exact .inr (q2 rfl)
    · have t := maxL_is hl
      have ez : z = maxL ns := Int.le_antisymm (t.2 z hz) (hz2 _ t.1)
      rw [ez]
      exact q _ F H R (Same.refl _) (.int _)
  · cases hg
theorem giv_min : GivS X C (rMinA X.K) gMin := by
  intro B F m oa σ H s k ds d v Q R hg sq q
  unfold gMin at hg
  obtain ⟨ns, h1, hg⟩ := Option.bind_eq_some_iff.mp hg
  split at hg
  · rename_i hl
    cases hg
    obtain ⟨p, vs, rfl, q1, q2, q3⟩ := sq.read R
    have e := ints_dat q3 h1
    subst e
    refine ⟨p, ns, rfl, ?_, hl, fun z hz hz2 => ?_⟩
    · cases k with
      | true => exact .inl (q1 rfl)
      | false => exact .inr (q2 rfl)
    · have t := minL_is hl
      have ez : z = minL ns := Int.le_antisymm (hz2 _ t.1) (t.2 z hz)
      rw [ez]
      exact q _ F H R (Same.refl _) (.int _)
  · cases hg
def gTuple : Bool → List D → Option D := fun _ ds => some (.tup ds)
theorem giv_tuple : GivS X C (fun xs H Q => ∃ p ys, xs = [.ref p] ∧ ((SqL X.K H p ys ∧ ∀ l, H l = none → Q (.ref l) (upd H l (.tup ys))) ∨ (SqT X.K H p ys ∧ Q (.ref p) H))) gTuple := by
  intro B F m oa σ H s k ds d v Q R hg sq q
  cases hg
  obtain ⟨p, vs, rfl, q1, q2, q3⟩ := sq.read R
  cases k with
  | true =>
    refine ⟨p, vs, rfl, Or.inl ⟨q1 rfl, fun l hl => ?_⟩⟩
    have ff := same_upd (o := .tup vs) (R.fresh hl).1
    exact q _ _ _ (R.new hl _) ff (.tup (SqT.of upd_same) (q3.mono ff (Pre.refl _)))
  | false =>
    rcases sq with ⟨a', vs', hv, w1, w2, w3⟩ | ⟨z, _⟩
    · cases hv
      exact ⟨p, vs', rfl, Or.inr ⟨same_seqT R.fh (w2 rfl), q _ F H R (Same.refl _) (.tup (w2 rfl) w3)⟩⟩
    · cases z
/-- list(x): one's own -/
def nList (qf : S → Option (Bool × List D)) : S → Option (List D) := fun s => (qf s).map fun q => q.2
theorem n_list (hg : Gl X x) (hm : X.mg x = none) (hv : bootBuiltins x = some (.type "list")) (ha : PQ X C e qf)
    (hn : x ≠ "__name__" := by decide) (hdb : (x == ("__debug__" : Str)) = false := by decide)
    (hs : starEach [e] X.env = (false, eval e X.env) :: starEach [] X.env := by rfl) (hpl : (backTo pos (starEach [] X.env)).any (·.1) = false := by rfl) : PN X C (.Call (.Name x p) [e] [] pos) (nList qf) := by
  refine PE.weak (pe_callTy call_list_of hg hm hv (pa_cons ha pa_nil hs) hn hdb hs hpl) ?_
  rintro σ H Q ⟨B, F, m, oa, s, d, R, hf, q⟩
  obtain ⟨⟨k, ds⟩, h1, h2⟩ := Option.map_eq_some_iff.mp hf
  cases h2
  refine ⟨B, F, m, oa, s, k, ds, R, h1, fun v F1 H1 R1 e1 sq => ?_⟩
  obtain ⟨p, vs, rfl, q1, q2, q3⟩ := sq.read R1
  refine ⟨p, vs, rfl, ?_, fun l hl => q l _ F1 _ (R1.fresh hl).2 (R1.newB hl _) e1 q3⟩
  cases k with
  | true => exact Or.inl (q1 rfl)
  | false => exact Or.inr (q2 rfl)
/-! #### int, abs, max and min of two -/
def gInt : List D → Option D
  | [.int i] => some (.int i)
  | [.bl b] => some (.int (if b = true then 1 else 0))
  | _ => none
theorem giv_int : GivL X C (fun xs H Q => (∃ i, xs = [V.int i] ∧ Q (.int i) H) ∨ ∃ k, xs = [V.bl k] ∧ Q (.int (if k then 1 else 0)) H) gInt := by
  intro B F m oa σ H s ds d vs Q R hg dx q
  cases dx with
  | nil => cases hg
  | cons h1 h2 =>
    cases h2 with
    | nil =>
      cases h1 with
      | int i => cases hg; exact Or.inl ⟨i, rfl, q _ F H R (Same.refl _) (.int _)⟩
      | bl c => cases hg; exact Or.inr ⟨c, rfl, q _ F H R (Same.refl _) (.int _)⟩
      | _ => cases hg
    | cons _ _ => cases h1 <;> cases hg
def gAbs : List D → Option D
  | [.int i] => some (.int (if i < 0 then -i else i))
  | _ => none
theorem giv_abs : GivL X C (fun xs H Q => ∃ i, xs = [V.int i] ∧ Q (.int (if i < 0 then -i else i)) H) gAbs := by
  intro B F m oa σ H s ds d vs Q R hg dx q
  cases dx with
  | nil => cases hg
  | cons h1 h2 =>
    cases h2 with
    | nil =>
      cases h1 with
      | int i => cases hg; exact ⟨i, rfl, q _ F H R (Same.refl _) (.int _)⟩
      | _ => cases hg
    | cons _ _ => cases h1 <;> cases hg
def pairI : List D → Option (Int × Int)
  | [.int i, .int j] => some (i, j)
  | _ => none
theorem two_ints {ds : List D} {vs : List V} {q : Int × Int} (h : DatL G m F vs ds) (e : pairI ds = some q) : vs = [.int q.1, .int q.2] := by
  cases h with
  | nil => cases e
  | cons h1 h2 =>
    cases h2 with
    | nil => cases h1 <;> cases e
    | cons h3 h4 =>
      cases h4 with
      | nil => cases h1 <;> cases h3 <;> cases e; exact rfl
      | cons _ _ => cases h1 <;> cases h3 <;> cases e
def gMax2 : List D → Option D := fun ds => (pairI ds).map fun q => .int (if q.2 > q.1 then q.2 else q.1)
def gMin2 : List D → Option D := fun ds => (pairI ds).map fun q => .int (if q.2 < q.1 then q.2 else q.1)
theorem giv_max2 : GivL X C (fun xs H Q => ∃ i j, xs = [V.int i, V.int j] ∧ Q (.int (if j > i then j else i)) H) gMax2 := by
  intro B F m oa σ H s ds d vs Q R hg dx q
  obtain ⟨z, h1, rfl⟩ := Option.map_eq_some_iff.mp hg
  exact ⟨z.1, z.2, two_ints dx h1, q _ F H R (Same.refl _) (.int _)⟩
theorem giv_min2 : GivL X C (fun xs H Q => ∃ i j, xs = [V.int i, V.int j] ∧ Q (.int (if j < i then j else i)) H) gMin2 := by
  intro B F m oa σ H s ds d vs Q R hg dx q
  obtain ⟨z, h1, rfl⟩ := Option.map_eq_some_iff.mp hg
  exact ⟨z.1, z.2, two_ints dx h1, q _ F H R (Same.refl _) (.int _)⟩
/-! #### isinstance against a built-in class -/
inductive Ty where
  | non | bl | int | str | lst | tup
def Ty.name : Ty → String
  | .non => "NoneType"
  | .bl => "bool"
  | .int => "int"
  | .str => "str"
  | .lst => "list"
  | .tup => "tuple"
def isiT : Ty → Ty → Bool
  | .non, .non => true
  | .bl, .bl => true
  | .bl, .int => true
  | .int, .int => true
  | .str, .str => true
  | .lst, .lst => true
  | .tup, .tup => true
  | _, _ => false
theorem isiT_ok : ∀ a b : Ty, kitB a.name b.name = some (isiT a b) := by
  intro a b
  cases a <;> cases b <;> decide +kernel
def tyD : D → Option Ty
  | .non => some .non
  | .bl _ => some .bl
  | .int _ => some .int
  | .str _ => some .str
  | .lst _ => some .lst
  | .tup _ => some .tup
  | _ => none
theorem tyx_rdL {K : PySem.W.Frag} {a : Addr} {xs : List V} (h : SqL K H a xs) : TyX K H (.ref a) (.type "list") := by
  rcases h with (h | ⟨o, h⟩) | ⟨o, its, n, h1, h2, _⟩
  · exact .base (.lst h)
  · exact .base (.frz h)
  · exact .kList h1 h2
theorem tyx_rdT {K : PySem.W.Frag} {a : Addr} {xs : List V} (h : SqT K H a xs) : TyX K H (.ref a) (.type "tuple") := by
  rcases h with (h | ⟨o, h⟩) | ⟨o, its, n, h1, h2, _⟩
  · exact .base (.tup h)
  · exact .fTuple h
  · exact .kTuple h1 h2
theorem tyx_of {v : V} {d : D} {t : Ty} (h : Dat G m F v d) (e : Same F H) (ht : tyD d = some t) : TyX G.K H v (.type t.name) := by
  cases h with
  | non => cases ht; exact .base .non
  | bl b => cases ht; exact .base (.bl b)
  | int i => cases ht; exact .base (.int i)
  | str x => cases ht; exact .base (.str x)
  | tup h1 h2 => cases ht; exact tyx_rdT (same_seqT e h1)
  | lst h1 h2 => cases ht; exact tyx_rdL (e.seq h1)
  | obj _ => cases ht
  | exc _ => cases ht
  | rob _ _ _ _ => cases ht
def dIsi (t : Ty) : D → Option D := fun d => (tyD d).map fun u => .bl (isiT u t)
theorem isi_kit {K : PySem.W.Frag} (u t : Ty) : PySem.W.kitOne K (.type u.name) (.type t.name) = some (isiT u t) := kit_ty (isiT_ok u t)
/-- isinstance(e, T) -/
theorem v_isi {c : Str} {pc : Pos} (t : Ty) (hg : Gl X x) (hm : X.mg x = none) (hv : bootBuiltins x = some (.builtin "isinstance")) (hgc : Gl X c) (hmc : X.mg c = none) (hvc : bootBuiltins c = some (.type t.name)) (ha : PV X C e f)
    (hn : x ≠ "__name__" := by decide) (hdb : (x == ("__debug__" : Str)) = false := by decide) (hnc : c ≠ "__name__" := by decide) (hdc : (c == ("__debug__" : Str)) = false := by decide)
    (hs : starEach [e, .Name c pc] X.env = (false, eval e X.env) :: starEach [.Name c pc] X.env := by rfl) (hpl : (backTo pos (starEach [.Name c pc] X.env)).any (·.1) = false := by rfl) :
    PV X C (.Call (.Name x p) [e, .Name c pc] [] pos) (d1 (dIsi t) f) := by
  refine PE.weak (pe_callB call_isi hg hm hv (pa_cons ha (pa_cons (pe_bltn (v := .ty t.name) hgc hmc hvc rfl hnc hdc) pa_nil) hs) hn hdb hs hpl) ?_
  rintro σ H Q ⟨B, F, m, oa, s, d, R, hf, q⟩
  obtain ⟨y, h1, hf⟩ := Option.bind_eq_some_iff.mp hf
  obtain ⟨u, h2, rfl⟩ := Option.map_eq_some_iff.mp hf
  refine ⟨B, F, m, oa, s, y, R, h1, fun v F1 H1 R1 e1 dx => ?_⟩
  exact ⟨v, .ty t.name, .type u.name, .type t.name, isiT u t, rfl, .ty _, tyx_of dx R1.fh h2, isi_kit u t, q _ F1 H1 R1 e1 (.bl _)⟩
end
end VS
namespace VS
open PySem L2
open PyProof.Rows hiding St
/-! ### zip and enumerate of lists and tuples in any mix -/
def SeqK (K : PySem.W.Frag) (H : Hp) (a : Addr) (xs : List V) (k : Bool) : Prop := (k = true → SqL K H a xs) ∧ (k = false → SqT K H a xs)
def IsItK (k : Bool) (h : Heap) (it a : Addr) (i : Nat) : Prop := (k = true → h.IsListIter it a i) ∧ (k = false → h.IsTupleIter it a i)
def IsSq (k : Bool) (h : Heap) (a : Addr) (its : Array Value) : Prop := (k = true → h.IsList a its) ∧ (k = false → h.IsTuple a its)
section
variable {X : Cx} {pins : List (Addr × Obj)} {σ : St} {H : Hp} {s : Shared} {a : Addr} {xs : List V} {k : Bool}
theorem inv_seqK (I : Inv X pins σ H s) (h : SeqK X.K H a xs k) : ∃ its : List Value, Vals xs its ∧ IsSq k s.heap a its.toArray ∧ a < s.heap.objs.size := by
  cases k with
  | true =>
    obtain ⟨its, r, p, _⟩ := I.list (h.1 rfl)
    exact ⟨its, r, ⟨fun _ => p.isList, fun z => Bool.noConfusion z⟩, p.lt⟩
  | false =>
    obtain ⟨its, r, p, _⟩ := I.tuple (h.2 rfl)
    obtain ⟨o, ho, _⟩ := id p
    exact ⟨its, r, ⟨fun z => Bool.noConfusion z, fun _ => p⟩, Heap.lt_size ho⟩
end
theorem IsItK.obj {k : Bool} {h : Heap} {it a : Addr} {i : Nat} (q : IsItK k h it a i) : ∃ o, h.get? it = some o ∧ ∀ v, o.data ≠ .cell v := by
  cases k with
  | true => obtain ⟨o, e, _, d⟩ := q.1 rfl; exact ⟨o, e, fun v z => by rw [d] at z; cases z⟩
  | false => obtain ⟨o, e, _, d⟩ := q.2 rfl; exact ⟨o, e, fun v z => by rw [d] at z; cases z⟩
theorem IsItK.at {k : Bool} {h h' : Heap} {it a : Addr} {i : Nat} (q : IsItK k h it a i) (e : ∀ o, h.get? it = some o → h'.get? it = some o) : IsItK k h' it a i :=
  ⟨fun z => (q.1 z).at e, fun z => (q.2 z).at e⟩
theorem ne_iter {k : Bool} {h : Heap} {it a : Addr} {i : Nat} {its : Array Value} (q : IsItK k h it a i) (w : IsSq k h a its) : a ≠ it := by
  rintro rfl
  cases k with
  | true =>
    obtain ⟨o, e, c, _⟩ := q.1 rfl
    obtain ⟨o', e', c', _⟩ := w.1 rfl
    rw [e] at e'; cases e'
    rw [c] at c'
    exact absurd c' (by decide)
  | false =>
    obtain ⟨o, e, c, _⟩ := q.2 rfl
    obtain ⟨o', e', c', _⟩ := w.2 rfl
    rw [e] at e'; cases e'
    rw [c] at c'
    exact absurd c' (by decide)
theorem drawsK {prog : Program} {w : World} {A : Around} (hh : A.handled = none) (k : Bool) (it a : Addr) (hne : a ≠ it) (its : Array Value) :
    Draws prog w A it [it, a] its.size (fun i v => its[i]? = some v) (fun i h => IsItK k h it a i ∧ IsSq k h a its) := by
  cases k with
  | true =>
    have D := Draws.list (prog := prog) (w := w) hh it a hne its
    exact ⟨fun i h st => D.live i h ⟨st.1.1 rfl, st.2.1 rfl⟩, fun i h h' st f => let q := D.frame i h h' ⟨st.1.1 rfl, st.2.1 rfl⟩ f; ⟨⟨fun _ => q.1, fun z => Bool.noConfusion z⟩, ⟨fun _ => q.2, fun z => Bool.noConfusion z⟩⟩,
      fun i s Q E hi st hQ => D.item i s Q E hi ⟨st.1.1 rfl, st.2.1 rfl⟩ fun x h' tk hx q => hQ x h' tk hx ⟨⟨fun _ => q.1, fun z => Bool.noConfusion z⟩, ⟨fun _ => q.2, fun z => Bool.noConfusion z⟩⟩,
      fun s Q E st hE => D.done s Q E ⟨st.1.1 rfl, st.2.1 rfl⟩ hE⟩
  | false =>
    have D := Draws.tuple (prog := prog) (w := w) hh it a hne its
    exact ⟨fun i h st => D.live i h ⟨st.1.2 rfl, st.2.2 rfl⟩, fun i h h' st f => let q := D.frame i h h' ⟨st.1.2 rfl, st.2.2 rfl⟩ f; ⟨⟨fun z => Bool.noConfusion z, fun _ => q.1⟩, ⟨fun z => Bool.noConfusion z, fun _ => q.2⟩⟩,
      fun i s Q E hi st hQ => D.item i s Q E hi ⟨st.1.2 rfl, st.2.2 rfl⟩ fun x h' tk hx q => hQ x h' tk hx ⟨⟨fun z => Bool.noConfusion z, fun _ => q.1⟩, ⟨fun z => Bool.noConfusion z, fun _ => q.2⟩⟩,
      fun s Q E st hE => D.done s Q E ⟨st.1.2 rfl, st.2.2 rfl⟩ hE⟩
theorem beginsK (k : Bool) (a : Addr) (its : Array Value) : ∃ o, Begins (.ref a) o (fun h => IsSq k h a its) ∧ ∀ h it, h.get? it = some o → IsItK k h it a 0 := by
  cases k with
  | true =>
    refine ⟨_, ⟨fun prog w A E s Q h q => (begins_list a its).iter prog w A E s Q (h.1 rfl) q, fun h h' x e => ⟨fun _ => (begins_list a its).keeps h h' (x.1 rfl) e, fun z => Bool.noConfusion z⟩, rfl⟩, fun h it e => ⟨fun _ => ⟨_, e, rfl, rfl⟩, fun z => Bool.noConfusion z⟩⟩
  | false =>
    refine ⟨_, ⟨fun prog w A E s Q h q => (begins_tuple a its).iter prog w A E s Q (h.2 rfl) q, fun h h' x e => ⟨fun z => Bool.noConfusion z, fun _ => (begins_tuple a its).keeps h h' (x.2 rfl) e⟩, rfl⟩, fun h it e => ⟨fun z => Bool.noConfusion z, fun _ => ⟨_, e, rfl, rfl⟩⟩⟩
def ItzX (K : PySem.W.Frag) (k1 k2 : Bool) (a b : Addr) (xs ys : List V) : It :=
  ⟨fun i H => SeqK K H a xs k1 ∧ SeqK K H b ys k2 ∧ i < min xs.length ys.length,
    fun i H v H' => ∃ T x y, v = .ref T ∧ H T = none ∧ H' = upd H T (.tup [x, y]) ∧ xs[i]? = some x ∧ ys[i]? = some y,
    fun i H => SeqK K H a xs k1 ∧ SeqK K H b ys k2 ∧ i = min xs.length ys.length⟩
theorem turn_zipX {P : Program} {w : World} {K : PySem.W.Frag} {elts : List Expr} {kk : Nat} {tpos : Pos} {k1 k2 : Bool} {a b z TI TO i1 i2 : Addr} {xs ys : List V} (S : ZipSep2 z TI TO i1 i2 [i1, a] [i2, b]) :
    Turn P w K (.Tuple elts kk tpos) (ItzX K k1 k2 a b xs ys) [z, TI, TO, i1, i2] z (fun i h => IsZip h z TI TO .none ∧ IsTupOf2 h TI (.ref i1) (.ref i2) ∧ (∃ x y, IsTupOf2 h TO x y) ∧ IsItK k1 h i1 a i ∧ IsItK k2 h i2 b i) where
  mem := by simp
  obj := fun i h st c hc => by
    obtain ⟨hz, hTI, ⟨x, y, hTO⟩, h1, h2⟩ := st
    simp only [List.mem_cons, List.not_mem_nil, or_false] at hc
    rcases hc with rfl | rfl | rfl | rfl | rfl
    · exact ⟨_, hz, fun v q => nomatch q⟩
    · exact ⟨_, hTI, fun v q => nomatch q⟩
    · exact ⟨_, hTO, fun v q => nomatch q⟩
    · exact h1.obj
    · exact h2.obj
  keep := fun i h h' st k => by
    obtain ⟨hz, hTI, ⟨x, y, hTO⟩, h1, h2⟩ := st
    exact ⟨k z (by simp) _ hz, k TI (by simp) _ hTI, ⟨x, y, k TO (by simp) _ hTO⟩, h1.at fun o q => k i1 (by simp) o q, h2.at fun o q => k i2 (by simp) o q⟩
  item := by
    intro X hP hw hK hc i pins s σ H E I hf st hg
    subst hP hw hK
    obtain ⟨hz, hTI, hTO, h1, h2⟩ := st
    obtain ⟨hqx, hqy, hlt⟩ := hg
    obtain ⟨its, rv, w1, l1⟩ := inv_seqK I hqx
    obtain ⟨ivs, rv2, w2, l2⟩ := inv_seqK I hqy
    have hh : X.A.in1.handled = none := I.ok.hd hc
    have W := GoesN.zip2 (elts := elts) (x1 := kk) (pos := tpos) S (drawsK (prog := X.prog) (w := X.w) hh k1 i1 a (ne_iter h1 w1) its.toArray) (drawsK (prog := X.prog) (w := X.w) hh k2 i2 b (ne_iter h2 w2) ivs.toArray)
    have e1 := rv.length
    have e2 := rv2.length
    refine wpAny_mono (W.goes i s (fun v s' => ∃ x H', Inv X pins σ H' s' ∧ RelV x v ∧ (ItzX X.K k1 k2 a b xs ys).yld i H x H' ∧ (IsZip s'.heap z TI TO .none ∧ IsTupOf2 s'.heap TI (.ref i1) (.ref i2) ∧ (∃ x y, IsTupOf2 s'.heap TO x y) ∧ IsItK k1 s'.heap i1 a (i + 1) ∧ IsItK k2 s'.heap i2 b (i + 1)) ∧ ∀ b' ∈ [z, TI, TO, i1, i2], H' b' = none) E (by simp only [List.size_toArray]; omega) ⟨hz, hTI, hTO, ⟨h1, w1⟩, ⟨h2, w2⟩⟩ ?_) (fun r s1 q => q) (fun _ _ q => q)
    rintro v h' tk ⟨T, u, u2, rfl, hnew, hu, hu2, hT⟩ ⟨z', TI', TO', ⟨it1', _⟩, ⟨it2', _⟩⟩ hk _
    obtain ⟨x, hx, ru⟩ : ∃ x, xs[i]? = some x ∧ RelV x u := by
      have hxl : i < xs.length := by omega
      obtain ⟨u', hu', r'⟩ := rv.get (List.getElem?_eq_getElem hxl)
      have : its[i]? = some u := by simpa using hu
      rw [hu'] at this; cases this
      exact ⟨_, List.getElem?_eq_getElem hxl, r'⟩
    obtain ⟨y, hy, ru2⟩ : ∃ y, ys[i]? = some y ∧ RelV y u2 := by
      have hyl : i < ys.length := by omega
      obtain ⟨u', hu', r'⟩ := rv2.get (List.getElem?_eq_getElem hyl)
      have : ivs[i]? = some u2 := by simpa using hu2
      rw [hu'] at this; cases this
      exact ⟨_, List.getElem?_eq_getElem hyl, r'⟩
    have new : ObjOk X.prog X.w (upd H T (.tup [x, y])) h' T (.tup [x, y]) :=
      ⟨by show 2 ≤ sizeLine; decide, [u, u2], .cons ru (.cons ru2 .nil), hT⟩
    have I1 : Inv X pins σ (upd H T (.tup [x, y])) { s with heap := h', toks := tk } :=
      I.turnedNew (ch := [z, TI, TO, i1, i2]) (fun c o hb q => hk c o (fun q' => hb (by
        simp only [List.mem_cons, List.not_mem_nil, or_false] at q' ⊢
        rcases q' with q' | q' | q' | q' <;> simp [q'])) q) hf hnew new
    refine ⟨.ref T, _, I1, rfl, ⟨T, x, y, rfl, I.hok.fresh hnew, rfl, hx, hy⟩, ⟨z', TI', TO', it1', it2'⟩, fun c hcm => ?_⟩
    have hlt' : c < s.heap.objs.size := by
      simp only [List.mem_cons, List.not_mem_nil, or_false] at hcm
      rcases hcm with rfl | rfl | rfl | rfl | rfl
      · exact Heap.lt_size hz
      · exact Heap.lt_size hTI
      · obtain ⟨_, _, q⟩ := hTO; exact Heap.lt_size q
      · obtain ⟨_, q, _⟩ := h1.obj; exact Heap.lt_size q
      · obtain ⟨_, q, _⟩ := h2.obj; exact Heap.lt_size q
    rw [upd_ne (Nat.ne_of_lt (Nat.lt_of_lt_of_le hlt' hnew))]
    exact (hf c hcm).1
  done := by
    intro X hP hw hK hc i pins s σ H E I hf st hg
    subst hP hw hK
    obtain ⟨hz, hTI, hTO, h1, h2⟩ := st
    obtain ⟨hqx, hqy, rfl⟩ := hg
    obtain ⟨its, rv, w1, l1⟩ := inv_seqK I hqx
    obtain ⟨ivs, rv2, w2, l2⟩ := inv_seqK I hqy
    have hh : X.A.in1.handled = none := I.ok.hd hc
    have W := GoesN.zip2 (elts := elts) (x1 := kk) (pos := tpos) S (drawsK (prog := X.prog) (w := X.w) hh k1 i1 a (ne_iter h1 w1) its.toArray) (drawsK (prog := X.prog) (w := X.w) hh k2 i2 b (ne_iter h2 w2) ivs.toArray)
    have e1 := rv.length
    have e2 := rv2.length
    have en : min xs.length ys.length = min its.toArray.size ivs.toArray.size := by simp only [List.size_toArray]; omega
    refine W.stops s (fun s1 => Inv X pins σ H s1) E ?_ fun h' tk hk _ => ?_
    · rw [← en]; exact ⟨hz, hTI, hTO, ⟨h1, w1⟩, ⟨h2, w2⟩⟩
    · exact I.turnedL (ch := [z, TI, TO, i1, i2]) (fun c o hb q => hk c o (fun q' => hb (by
        simp only [List.mem_cons, List.not_mem_nil, or_false] at q' ⊢
        rcases q' with q' | q' | q' | q' <;> simp [q'])) q) hf
  self := fun A i s Q E st h => wpAny_pyIter_zip st.1 h
def iZipX (K : PySem.W.Frag) (ta : TA) : TI := fun σ H R => ta σ H fun vs H1 => ∃ a b xs ys k1 k2, vs = [.ref a, .ref b] ∧ SeqK K H1 a xs k1 ∧ SeqK K H1 b ys k2 ∧ R (ItzX K k1 k2 a b xs ys) H1
theorem pi_zipX {X : Cx} {e e2 : Expr} {ta : TA} {p pos tpos : Pos} {elts : List Expr} {kk : Nat} (hg : Gl X "zip") (hm : X.mg "zip" = none) (ha : PA X [e, e2] ta)
    (hs : starEach [e, e2] X.env = (false, eval e X.env) :: starEach [e2] X.env := by rfl) (hpl : (backTo pos (starEach [e2] X.env)).any (·.1) = false := by rfl) :
    PI X (.Tuple elts kk tpos) (.Call (.Name "zip" p) [e, e2] [] pos) (iZipX X.K ta) := by
  refine ⟨fun pins s σ H R I h => ?_⟩
  refine Call_ (ld_blt I hg hm PyProof.Rows.boot_zip (PyProof.Rows.callWith_type1 (thn (ha.run pos pins s σ H _ I h) fun us s1 ⟨vs, H1, I1, r1, q1⟩ => ?_) hs hpl))
  obtain ⟨a, b, xs, ys, k1, k2, ex, hqx, hqy, q⟩ := q1
  subst ex
  obtain ⟨u1, u2, rfl, r2, r3⟩ := vals2 r1
  cases r2
  cases r3
  obtain ⟨its, rv, w1, l1⟩ := inv_seqK I1 hqx
  obtain ⟨ivs, rv2, w2, l2⟩ := inv_seqK I1 hqy
  obtain ⟨o1, B1, j1⟩ := beginsK k1 a its.toArray
  obtain ⟨o2, B2, j2⟩ := beginsK k2 b ivs.toArray
  refine zip_begins2 B1 B2 w1 w2 fun h' hz hTI hTO h1 h2 hsz hk => wpAny_pyIter_zip hz ?_
  have I2 : Inv X pins σ H1 { s1 with heap := h' } := I1.kept (t' := s1.toks) hk
  refine ⟨s1.heap.objs.size + 4, [s1.heap.objs.size + 4, s1.heap.objs.size + 2, s1.heap.objs.size + 3, s1.heap.objs.size, s1.heap.objs.size + 1], _, _, H1, rfl, I2,
    turn_zipX (zip_sep2 (N := s1.heap.objs.size) (fp1 := [a]) (fp2 := [b]) (fun c hcm => by simp only [List.mem_cons, List.not_mem_nil, or_false] at hcm; rw [hcm]; exact l1) (fun c hcm => by simp only [List.mem_cons, List.not_mem_nil, or_false] at hcm; rw [hcm]; exact l2)), ⟨hz, hTI, ⟨_, _, hTO⟩, j1 _ _ h1, j2 _ _ h2⟩, fun c hcm => ?_, q⟩
  have hle : s1.heap.objs.size ≤ c := by
    simp only [List.mem_cons, List.not_mem_nil, or_false] at hcm
    rcases hcm with rfl | rfl | rfl | rfl | rfl
    · exact Nat.le_add_right _ _
    · exact Nat.le_add_right _ _
    · exact Nat.le_add_right _ _
    · exact Nat.le_refl _
    · exact Nat.le_add_right _ _
  exact I1.fpOk hle (I1.hok.fresh hle)
/-! #### enumerate -/
def IteX (K : PySem.W.Frag) (k : Bool) (a : Addr) (xs : List V) : It :=
  ⟨fun i H => SeqK K H a xs k ∧ i < xs.length,
    fun i H v H' => ∃ T x, v = .ref T ∧ H T = none ∧ H' = upd H T (.tup [.int (i : Nat), x]) ∧ xs[i]? = some x,
    fun i H => SeqK K H a xs k ∧ i = xs.length⟩
theorem turn_enumX {P : Program} {w : World} {K : PySem.W.Frag} {elts : List Expr} {kk : Nat} {tpos : Pos} {k : Bool} {a e it : Addr} {xs : List V} (hei : e ≠ it) (hea : e ≠ a) :
    Turn P w K (.Tuple elts kk tpos) (IteX K k a xs) [e, it] e (fun i h => (∃ old, IsEnum h e it (0 + (i : Int)) old) ∧ IsItK k h it a i) where
  mem := by simp
  obj := fun i h st c hc => by
    obtain ⟨⟨old, he⟩, h1⟩ := st
    simp only [List.mem_cons, List.not_mem_nil, or_false] at hc
    rcases hc with rfl | rfl
    · exact ⟨_, he, fun v q => nomatch q⟩
    · exact h1.obj
  keep := fun i h h' st k => by
    obtain ⟨⟨old, he⟩, h1⟩ := st
    exact ⟨⟨old, k e (by simp) _ he⟩, h1.at fun o q => k it (by simp) o q⟩
  item := by
    intro X hP hw hK hc i pins s σ H E I hf st hg
    subst hP hw hK
    obtain ⟨⟨old, he⟩, h1⟩ := st
    obtain ⟨hqx, hlt⟩ := hg
    obtain ⟨its, rv, w1, l1⟩ := inv_seqK I hqx
    have hh : X.A.in1.handled = none := I.ok.hd hc
    have W := GoesN.enumFrom (elts := elts) (x1 := kk) (pos := tpos) 0 (drawsK (prog := X.prog) (w := X.w) hh k it a (ne_iter h1 w1) its.toArray) e hei (by simp [hei, hea]) (by simp)
    have e1 := rv.length
    refine wpAny_mono (W.goes i s (fun v s' => ∃ x H', Inv X pins σ H' s' ∧ RelV x v ∧ (IteX X.K k a xs).yld i H x H' ∧ ((∃ old, IsEnum s'.heap e it (0 + ((i + 1 : Nat) : Int)) old) ∧ IsItK k s'.heap it a (i + 1)) ∧ ∀ b' ∈ [e, it], H' b' = none) E (by simp only [List.size_toArray]; omega) ⟨⟨old, he⟩, ⟨h1, w1⟩⟩ ?_) (fun r s1 q => q) (fun _ _ q => q)
    rintro v h' tk ⟨T, t, u, rfl, hnew, hu, hT⟩ ⟨he', ⟨it1', _⟩⟩ hk _
    obtain ⟨x, hx, ru⟩ : ∃ x, xs[i]? = some x ∧ RelV x u := by
      obtain ⟨u', hu', r'⟩ := rv.get (List.getElem?_eq_getElem hlt)
      have : its[i]? = some u := by simpa using hu
      rw [hu'] at this; cases this
      exact ⟨_, List.getElem?_eq_getElem hlt, r'⟩
    have new : ObjOk X.prog X.w (upd H T (.tup [.int (i : Nat), x])) h' T (.tup [.int (i : Nat), x]) :=
      ⟨by show 2 ≤ sizeLine; decide, [.int (0 + (i : Int)) t, u], .cons ⟨t, by rw [Int.zero_add]⟩ (.cons ru .nil), hT⟩
    have I1 : Inv X pins σ (upd H T (.tup [.int (i : Nat), x])) { s with heap := h', toks := tk } :=
      I.turnedNew (ch := [e, it]) (fun c o hb q => hk c o hb q) hf hnew new
    refine ⟨.ref T, _, I1, rfl, ⟨T, x, rfl, I.hok.fresh hnew, rfl, hx⟩, ⟨he', it1'⟩, fun c hcm => ?_⟩
    have hlt' : c < s.heap.objs.size := by
      simp only [List.mem_cons, List.not_mem_nil, or_false] at hcm
      rcases hcm with rfl | rfl
      · exact Heap.lt_size he
      · obtain ⟨_, q, _⟩ := h1.obj; exact Heap.lt_size q
    rw [upd_ne (Nat.ne_of_lt (Nat.lt_of_lt_of_le hlt' hnew))]
    exact (hf c hcm).1
  done := by
    intro X hP hw hK hc i pins s σ H E I hf st hg
    subst hP hw hK
    obtain ⟨⟨old, he⟩, h1⟩ := st
    obtain ⟨hqx, rfl⟩ := hg
    obtain ⟨its, rv, w1, l1⟩ := inv_seqK I hqx
    have hh : X.A.in1.handled = none := I.ok.hd hc
    have W := GoesN.enumFrom (elts := elts) (x1 := kk) (pos := tpos) 0 (drawsK (prog := X.prog) (w := X.w) hh k it a (ne_iter h1 w1) its.toArray) e hei (by simp [hei, hea]) (by simp)
    have e1 := rv.length
    have en : xs.length = its.toArray.size := by simp only [List.size_toArray]; omega
    refine W.stops s (fun s1 => Inv X pins σ H s1) E ?_ fun h' tk hk _ => ?_
    · rw [← en]; exact ⟨⟨old, he⟩, ⟨h1, w1⟩⟩
    · exact I.turnedL (ch := [e, it]) (fun c o hb q => hk c o hb q) hf
  self := fun A i s Q E st h => let ⟨⟨_, he⟩, _⟩ := st; wpAny_pyIter_enum he h
end VS
namespace VS
open PySem L2
open PyProof.Rows hiding St
set_option maxHeartbeats 4000000 in
theorem enum_newX {v : Value} {o : Obj} {H : Heap → Prop} (B : Begins v o H) :
    Meets (Builtin.«enumerate.__new__» ⟨[.type "enumerate", v], []⟩) (fun _ R s => H s.heap ∧
      R (.ok (.ret (.ref (s.heap.push o).objs.size))) { s with heap := (s.heap.push o).push { cls := .type "enumerate", data := .fields #[.none, .bool false, .ref s.heap.objs.size, rawInt 0, .none, .none] } }) :=
  .of_wp fun prog w A R s hs => by
    obtain ⟨hp, gg, dd, tt, oo⟩ := s
    obtain ⟨hB, hR⟩ := hs
    have sube := sub_enumerate
    have begins : ∀ {A' : Around} {E : Value → Shared → Prop} {Q : Value → Shared → Prop}, Q (.ref hp.objs.size) ⟨hp.push o, gg, dd, tt, oo⟩ → wpAny (model prog w) A' (pyIter v) Q E ⟨hp, gg, dd, tt, oo⟩ :=
      fun q => B.iter prog w _ _ _ _ hB q
    wp_walk using begins
    refine wpAny_stack_any fun st => wpAny_pure ?_
    split
    · rename_i cc _ _ _ _ _
      cases (cc == Value.type "enumerate") <;> (wp_walk using begins; exact ⟨_, rfl, hR⟩)
    · wp_walk using begins
      exact ⟨_, rfl, hR⟩
theorem call_enumX {prog : Program} {w : World} {A : Around} {E : Value → Shared → Prop} {s : Shared} {v : Value} {o : Obj} {H : Heap → Prop} {Q : Value → Shared → Prop} (B : Begins v o H) (hH : H s.heap)
    (k : ∀ h', IsEnum h' (s.heap.objs.size + 1) s.heap.objs.size 0 .none → h'.get? s.heap.objs.size = some o → (∀ b u, s.heap.get? b = some u → h'.get? b = some u) → Q (.ref (s.heap.objs.size + 1)) { s with heap := h' }) :
    wpAny (model prog w) A (call (.type "enumerate") [v]) Q E s := by
  have sz : (s.heap.push o).objs.size = s.heap.objs.size + 1 := Heap.size_push ..
  have he : IsEnum ((s.heap.push o).push { cls := .type "enumerate", data := .fields #[.none, .bool false, .ref s.heap.objs.size, rawInt 0, .none, .none] }) (s.heap.objs.size + 1) s.heap.objs.size 0 .none := by
    have q := Heap.get?_push_size (s.heap.push o) (o := { cls := .type "enumerate", data := .fields #[.none, .bool false, .ref s.heap.objs.size, rawInt 0, .none, .none] }) rfl
    rw [sz] at q
    exact q
  refine callType_new PySem.F.called_enumerate (by decide) (PySem.F.typeCall_enumerate_1 _) (PySem.F.newCall_enumerate_1 _) (fun obj => PySem.F.args_object_init_2 obj _) PySem.F.entry_enumerate_new (enum_newX B) ⟨hH, ?_⟩
  show _ ∧ _
  rw [sz]
  exact ⟨⟨_, he, rfl⟩, k _ he (Heap.get?_push_of_some _ (Heap.get?_push_size _ B.free)) fun b u x => Heap.get?_push_of_some _ (Heap.get?_push_of_some _ x)⟩
def iEnumX (K : PySem.W.Frag) (ta : TA) : TI := fun σ H R => ta σ H fun vs H1 => ∃ a xs k, vs = [.ref a] ∧ SeqK K H1 a xs k ∧ R (IteX K k a xs) H1
theorem pi_enumX {X : Cx} {e : Expr} {ta : TA} {p pos tpos : Pos} {elts : List Expr} {kk : Nat} (hg : Gl X "enumerate") (hm : X.mg "enumerate" = none) (ha : PA X [e] ta) (hs : starEach [e] X.env = [(false, eval e X.env)] := by rfl) :
    PI X (.Tuple elts kk tpos) (.Call (.Name "enumerate" p) [e] [] pos) (iEnumX X.K ta) := by
  refine ⟨fun pins s σ H R I h => ?_⟩
  refine Call_ (ld_blt I hg hm boot_enumerate (PyProof.Rows.callWith_type1 (thn (ha.run pos pins s σ H _ I h) fun us s1 ⟨vs, H1, I1, r1, q1⟩ => ?_) hs rfl))
  obtain ⟨a, xs, k, ex, hqx, q⟩ := q1
  subst ex
  obtain ⟨u1, rfl, r2⟩ := vals1 r1
  cases r2
  obtain ⟨its, rv, w1, l1⟩ := inv_seqK I1 hqx
  obtain ⟨o1, B1, j1⟩ := beginsK k a its.toArray
  refine call_enumX B1 w1 fun h' he h1 hk => wpAny_pyIter_enum he ?_
  have I2 : Inv X pins σ H1 { s1 with heap := h' } := I1.kept (t' := s1.toks) hk
  refine ⟨s1.heap.objs.size + 1, [s1.heap.objs.size + 1, s1.heap.objs.size], _, _, H1, rfl, I2, turn_enumX (Nat.succ_ne_self _) (Nat.ne_of_gt (Nat.lt_succ_of_lt l1)), ⟨⟨.none, he⟩, j1 _ _ h1⟩, fun c hcm => ?_, q⟩
  have hle : s1.heap.objs.size ≤ c := by
    simp only [List.mem_cons, List.not_mem_nil, or_false] at hcm
    rcases hcm with rfl | rfl
    · exact Nat.le_add_right _ _
    · exact Nat.le_refl _
  exact I1.fpOk hle (I1.hok.fresh hle)
end VS
namespace VS
open PySem L2
open PyProof.Rows hiding St
/-! ### what is walked: its items are known, each is frozen -/
structure ItOk (G : Gx) (m : List Addr) (F0 : Hp) (J : It) (ds : List D) : Prop where
  go : ∀ {F H : Hp}, Same F0 F → Same F H → ∀ (i : Nat) (d : D), ds[i]? = some d → J.go i H ∧ ∀ x H', J.yld i H x H' → (H' = H ∧ Dat G m F x d) ∨ ∃ T o, H T = none ∧ H' = upd H T o ∧ ∀ F', Same F F' → F' T = some o → Dat G m F' x d
  stop : ∀ {F H : Hp}, Same F0 F → Same F H → J.stop ds.length H
def tI (G : Gx) (f : S → Option (List D)) : TI := fun σ H R => ∃ B F m oa s ds, Rel G B F m oa σ H s ∧ f s = some ds ∧ ∀ J F' H', Rel G B F' m oa σ H' s → Same F F' → ItOk G m F' J ds → R J H'
abbrev PIV (X : Cx) (C : Str → Option Addr) (tg e : Expr) (f : S → Option (List D)) : Prop := PI X tg e (tI (gx X C) f)
theorem PI.weak {X : Cx} {tg e : Expr} {t t' : TI} (h : PI X tg e t) (k : ∀ σ H Q, t' σ H Q → t σ H Q) : PI X tg e t' := ⟨fun pins s σ H Q I w => h.run pins s σ H Q I (k σ H Q w)⟩
theorem PI.or {X : Cx} {tg e : Expr} {t t' : TI} (h : PI X tg e t) (h' : PI X tg e t') : PI X tg e (fun σ H R => t σ H R ∨ t' σ H R) :=
  ⟨fun pins s σ H Q I w => w.elim (h.run pins s σ H Q I) (h'.run pins s σ H Q I)⟩
section
variable {X : Cx} {C : Str → Option Addr} {G : Gx} {B F : Hp} {m : List Addr} {oa : Own → Addr} {σ : St} {H : Hp} {s : S}
variable {a b e tg : Expr} {es : List Expr} {pos p2 p : Pos} {f h : S → Option D} {fs gs : S → Option (List D)} {qf : S → Option (Bool × List D)}
theorem itl_ok {l : Addr} {vs : List V} {ds : List D} (h1 : SqL G.K F l vs) (h2 : DatL G m F vs ds) : ItOk G m F (Itl G.K l) ds where
  go := fun ff fh i d hd => by
    obtain ⟨v, h3, h4⟩ := h2.get hd
    have hs := fh.seq (ff.seq h1)
    refine ⟨⟨vs, v, hs, h3⟩, fun x H' y => Or.inl ?_⟩
    obtain ⟨rfl, y⟩ := y
    have e := y vs hs
    rw [h3] at e; cases e
    exact ⟨rfl, h4.mono ff (Pre.refl _)⟩
  stop := fun ff fh => ⟨vs, fh.seq (ff.seq h1), by rw [h2.length]; exact Nat.le_refl _⟩
theorem itt_ok {l : Addr} {vs : List V} {ds : List D} (h1 : SqT G.K F l vs) (h2 : DatL G m F vs ds) : ItOk G m F (Itt G.K l) ds where
  go := fun ff fh i d hd => by
    obtain ⟨v, h3, h4⟩ := h2.get hd
    have hs := same_seqT fh (same_seqT ff h1)
    refine ⟨⟨vs, v, hs, h3⟩, fun x H' y => Or.inl ?_⟩
    obtain ⟨rfl, y⟩ := y
    have e := y vs hs
    rw [h3] at e; cases e
    exact ⟨rfl, h4.mono ff (Pre.refl _)⟩
  stop := fun ff fh => ⟨vs, same_seqT fh (same_seqT ff h1), by rw [h2.length]; exact Nat.le_refl _⟩
def iSeq (f : S → Option D) : S → Option (List D) := fun s => (f s).bind fun d => (dSeq d).map fun q => q.2
theorem i_seq (ha : PV X C e f) : PIV X C tg e (iSeq f) := by
  refine PI.weak (PI.or (pi_list ha) (pi_tup ha)) ?_
  rintro σ H R ⟨B, F, m, oa, s, ds, Rl, hf, q⟩
  obtain ⟨d, h1, hf⟩ := Option.bind_eq_some_iff.mp hf
  obtain ⟨⟨k, ds'⟩, h2, h3⟩ := Option.map_eq_some_iff.mp hf
  cases h3
  cases d with
  | lst es =>
    cases h2
    refine Or.inl ⟨B, F, m, oa, s, _, Rl, h1, fun v F1 H1 R1 e1 dx => ?_⟩
    cases dx with
    | lst w1 w2 => exact ⟨_, rfl, ⟨_, R1.fh.seq w1⟩, q _ F1 H1 R1 e1 (itl_ok (G := gx X C) w1 w2)⟩
  | tup es =>
    cases h2
    refine Or.inr ⟨B, F, m, oa, s, _, Rl, h1, fun v F1 H1 R1 e1 dx => ?_⟩
    cases dx with
    | tup w1 w2 => exact ⟨_, rfl, ⟨_, same_seqT R1.fh w1⟩, q _ F1 H1 R1 e1 (itt_ok (G := gx X C) w1 w2)⟩
  | _ => cases h2
def rngD (lo hi : Int) : List D := (List.range (hi - lo).toNat).map fun (i : Nat) => D.int (lo + i)
theorem rngD_length (lo hi : Int) : (rngD lo hi).length = (hi - lo).toNat := by unfold rngD; rw [List.length_map, List.length_range]
theorem itr_ok {lo hi : Int} : ItOk G m F (Itr lo (hi - lo).toNat) (rngD lo hi) where
  go := fun ff fh i d hd => by
    unfold rngD at hd
    rw [List.getElem?_map] at hd
    obtain ⟨j, h1, rfl⟩ := Option.map_eq_some_iff.mp hd
    obtain ⟨hl, rfl⟩ := List.getElem?_eq_some_iff.mp h1
    rw [List.length_range] at hl
    refine ⟨hl, fun x H' y => Or.inl ⟨y.1, ?_⟩⟩
    rw [y.2, List.getElem_range]
    exact .int _
  stop := fun ff fh => by rw [rngD_length]; exact Nat.le_refl _
def inB (i : Int) : Bool := decide (i.natAbs < 2 ^ 62)
theorem inB_ok {i : Int} (h : inB i = true) : -(2 ^ 62) ≤ i ∧ i < 2 ^ 62 := by
  have := of_decide_eq_true h
  omega
def iRng1 (f : S → Option D) : S → Option (List D) := fun s => (f s).bind fun d => (iInt d).bind fun j => if inB j = true then some (rngD 0 j) else none
def iRng2 (f h : S → Option D) : S → Option (List D) := fun s => (f s).bind fun d => (h s).bind fun d' => (iInt d).bind fun i => (iInt d').bind fun j => if inB i = true ∧ inB j = true then some (rngD i j) else none
theorem i_rng1 (hg : Gl X "range") (hm : X.mg "range" = none) (ha : PV X C a f) (hs0 : starEach (a :: []) X.env = (false, eval a X.env) :: starEach [] X.env := by rfl) (hs : starEach [a] X.env = [(false, eval a X.env)] := by rfl) : PIV X C tg (.Call (.Name "range" p) [a] [] pos) (iRng1 f) := by
  refine PI.weak (pi_range1 hg hm (a_cons ha a_nil hs0) hs) ?_
  rintro σ H R ⟨B, F, m, oa, s, ds, Rl, hf, q⟩
  obtain ⟨d, h1, hf⟩ := Option.bind_eq_some_iff.mp hf
  obtain ⟨j, h2, hf⟩ := Option.bind_eq_some_iff.mp hf
  split at hf
  · rename_i hj
    cases hf
    refine ⟨B, F, m, oa, s, [d], Rl, (by show (aCons f aNil) s = some [d]; unfold aCons; rw [h1]; rfl), fun vs F1 H1 R1 e1 dx => ?_⟩
    obtain ⟨hb1, hb2⟩ := inB_ok hj
    cases dx with
    | cons w1 w2 =>
      cases w2
      have ev := iInt_dat w1 h2
      subst ev
      have ho := itr_ok (G := gx X C) (m := m) (F := F1) (lo := 0) (hi := j)
      rw [Int.sub_zero] at ho
      exact ⟨j, rfl, hb1, hb2, q _ F1 H1 R1 e1 ho⟩
  · cases hf
theorem i_rng2 (hg : Gl X "range") (hm : X.mg "range" = none) (ha : PV X C a f) (hb : PV X C b h) (hs0 : starEach [a, b] X.env = (false, eval a X.env) :: starEach [b] X.env := by rfl) (hs1 : starEach [b] X.env = (false, eval b X.env) :: starEach [] X.env := by rfl)
    (hs : starEach [a, b] X.env = [(false, eval a X.env), (false, eval b X.env)] := by rfl) (hs2 : starEach [b] X.env = [(false, eval b X.env)] := by rfl) : PIV X C tg (.Call (.Name "range" p) [a, b] [] pos) (iRng2 f h) := by
  refine PI.weak (pi_range2 hg hm (a_cons ha (a_cons hb a_nil hs1) hs0) hs hs2) ?_
  rintro σ H R ⟨B, F, m, oa, s, ds, Rl, hf, q⟩
  obtain ⟨d, h1, hf⟩ := Option.bind_eq_some_iff.mp hf
  obtain ⟨d', h1', hf⟩ := Option.bind_eq_some_iff.mp hf
  obtain ⟨i, h2, hf⟩ := Option.bind_eq_some_iff.mp hf
  obtain ⟨j, h3, hf⟩ := Option.bind_eq_some_iff.mp hf
  split at hf
  · rename_i hj
    cases hf
    refine ⟨B, F, m, oa, s, [d, d'], Rl, (by show (aCons f (aCons h aNil)) s = some [d, d']; unfold aCons; rw [h1]; simp only [Option.bind_some, h1']; rfl), fun vs F1 H1 R1 e1 dx => ?_⟩
    obtain ⟨hb1, hb2⟩ := inB_ok hj.1
    obtain ⟨hb3, hb4⟩ := inB_ok hj.2
    cases dx with
    | cons w1 w2 =>
      cases w2 with
      | cons w3 w4 =>
        cases w4
        have ev := iInt_dat w1 h2
        subst ev
        have ev := iInt_dat w3 h3
        subst ev
        exact ⟨i, j, rfl, ⟨hb1, hb2, hb3, hb4⟩, q _ F1 H1 R1 e1 (itr_ok (G := gx X C))⟩
  · cases hf
theorem SeqK.of {k : Bool} {ds : List D} {d : D} {v : V} (hd : Dat G m F v d) (e : dSeq d = some (k, ds)) : ∃ l vs, v = .ref l ∧ SeqK G.K F l vs k ∧ DatL G m F vs ds := by
  cases hd with
  | lst h1 h2 => cases e; exact ⟨_, _, rfl, ⟨fun _ => h1, fun z => Bool.noConfusion z⟩, h2⟩
  | tup h1 h2 => cases e; exact ⟨_, _, rfl, ⟨fun z => Bool.noConfusion z, fun _ => h1⟩, h2⟩
  | _ => cases e
theorem SeqK.mono {K : PySem.W.Frag} {F' : Hp} {k : Bool} {l : Addr} {vs : List V} (e : Same F F') (h : SeqK K F l vs k) : SeqK K F' l vs k := ⟨fun z => e.seq (h.1 z), fun z => same_seqT e (h.2 z)⟩
def enumD (ds : List D) : List D := ds.mapIdx fun i d => .tup [.int i, d]
theorem ite_ok {k : Bool} {l : Addr} {vs : List V} {ds : List D} (h1 : SeqK G.K F l vs k) (h2 : DatL G m F vs ds) : ItOk G m F (IteX G.K k l vs) (enumD ds) where
  go := fun {F1 H1} ff fh i d hd => by
    unfold enumD at hd
    rw [List.getElem?_mapIdx] at hd
    obtain ⟨y, h3, rfl⟩ := Option.map_eq_some_iff.mp hd
    obtain ⟨v, h4, h5⟩ := h2.get h3
    have hl : i < vs.length := (List.getElem?_eq_some_iff.mp h4).1
    refine ⟨⟨(h1.mono ff).mono fh, hl⟩, fun x H' q => Or.inr ?_⟩
    obtain ⟨T, x', rfl, hn, rfl, hx⟩ := q
    rw [h4] at hx; cases hx
    exact ⟨T, _, hn, rfl, fun F' e1 e2 => .tup (SqT.of e2) (.cons (.int _) (.cons (h5.mono (ff.trans e1) (Pre.refl _)) .nil))⟩
  stop := fun ff fh => by
    refine ⟨(h1.mono ff).mono fh, ?_⟩
    unfold enumD
    rw [List.length_mapIdx, h2.length]
def iEnum (f : S → Option D) : S → Option (List D) := fun s => (f s).bind fun d => (dSeq d).map fun q => enumD q.2
theorem i_enum {elts : List Expr} {kk : Nat} {tpos : Pos} (hg : Gl X "enumerate") (hm : X.mg "enumerate" = none) (ha : PV X C a f) (hs0 : starEach (a :: []) X.env = (false, eval a X.env) :: starEach [] X.env := by rfl) (hs : starEach [a] X.env = [(false, eval a X.env)] := by rfl) :
    PIV X C (.Tuple elts kk tpos) (.Call (.Name "enumerate" p) [a] [] pos) (iEnum f) := by
  refine PI.weak (pi_enumX hg hm (a_cons ha a_nil hs0) hs) ?_
  rintro σ H R ⟨B, F, m, oa, s, ds, Rl, hf, q⟩
  obtain ⟨d, h1, hf⟩ := Option.bind_eq_some_iff.mp hf
  obtain ⟨⟨k, ds'⟩, h2, h3⟩ := Option.map_eq_some_iff.mp hf
  cases h3
  refine ⟨B, F, m, oa, s, [d], Rl, (by show (aCons f aNil) s = some [d]; unfold aCons; rw [h1]; rfl), fun vs F1 H1 R1 e1 dx => ?_⟩
  cases dx with
  | cons w1 w2 =>
    cases w2
    obtain ⟨l, us, rfl, w3, w4⟩ := SeqK.of w1 h2
    exact ⟨l, us, k, rfl, w3.mono R1.fh, q _ F1 H1 R1 e1 (ite_ok (G := gx X C) w3 w4)⟩
def zipD (ds es : List D) : List D := List.zipWith (fun d e => .tup [d, e]) ds es
theorem itz_ok {k1 k2 : Bool} {l l2 : Addr} {vs us : List V} {ds es : List D} (h1 : SeqK G.K F l vs k1) (h2 : DatL G m F vs ds) (h3 : SeqK G.K F l2 us k2) (h4 : DatL G m F us es) : ItOk G m F (ItzX G.K k1 k2 l l2 vs us) (zipD ds es) where
  go := fun {F1 H1} ff fh i d hd => by
    unfold zipD at hd
    rw [List.getElem?_zipWith] at hd
    cases e1 : ds[i]? with
    | none => rw [e1] at hd; simp at hd
    | some y =>
      cases e2 : es[i]? with
      | none => rw [e1, e2] at hd; simp at hd
      | some z =>
        rw [e1, e2] at hd
        cases hd
        obtain ⟨v, h5, h6⟩ := h2.get e1
        obtain ⟨u, h7, h8⟩ := h4.get e2
        have hl : i < vs.length := (List.getElem?_eq_some_iff.mp h5).1
        have hl2 : i < us.length := (List.getElem?_eq_some_iff.mp h7).1
        refine ⟨⟨(h1.mono ff).mono fh, (h3.mono ff).mono fh, by omega⟩, fun x H' q => Or.inr ?_⟩
        obtain ⟨T, x', y', rfl, hn, rfl, hx, hy⟩ := q
        rw [h5] at hx; cases hx
        rw [h7] at hy; cases hy
        exact ⟨T, _, hn, rfl, fun F' q1 q2 => .tup (SqT.of q2) (.cons (h6.mono (ff.trans q1) (Pre.refl _)) (.cons (h8.mono (ff.trans q1) (Pre.refl _)) .nil))⟩
  stop := fun ff fh => by
    refine ⟨(h1.mono ff).mono fh, (h3.mono ff).mono fh, ?_⟩
    unfold zipD
    rw [List.length_zipWith, h2.length, h4.length]
def iZip (f h : S → Option D) : S → Option (List D) := fun s => (f s).bind fun d => (h s).bind fun d' => (dSeq d).bind fun q => (dSeq d').map fun q' => zipD q.2 q'.2
theorem i_zip {elts : List Expr} {kk : Nat} {tpos : Pos} (hg : Gl X "zip") (hm : X.mg "zip" = none) (ha : PV X C a f) (hb : PV X C b h) (hs1 : starEach [b] X.env = (false, eval b X.env) :: starEach [] X.env := by rfl)
    (hs : starEach [a, b] X.env = (false, eval a X.env) :: starEach [b] X.env := by rfl) (hpl : (backTo pos (starEach [b] X.env)).any (·.1) = false := by rfl) :
    PIV X C (.Tuple elts kk tpos) (.Call (.Name "zip" p) [a, b] [] pos) (iZip f h) := by
  refine PI.weak (pi_zipX hg hm (a_cons ha (a_cons hb a_nil hs1) hs) hs hpl) ?_
  rintro σ H R ⟨B, F, m, oa, s, ds, Rl, hf, q⟩
  obtain ⟨d, h1, hf⟩ := Option.bind_eq_some_iff.mp hf
  obtain ⟨d', h1', hf⟩ := Option.bind_eq_some_iff.mp hf
  obtain ⟨⟨k, ds1⟩, h2, hf⟩ := Option.bind_eq_some_iff.mp hf
  obtain ⟨⟨k', ds2⟩, h3, h4⟩ := Option.map_eq_some_iff.mp hf
  cases h4
  refine ⟨B, F, m, oa, s, [d, d'], Rl, (by show (aCons f (aCons h aNil)) s = some [d, d']; unfold aCons; rw [h1]; simp only [Option.bind_some, h1']; rfl), fun vs F1 H1 R1 e1 dx => ?_⟩
  cases dx with
  | cons w1 w2 =>
    cases w2 with
    | cons w3 w4 =>
      cases w4
      obtain ⟨l, us, rfl, z1, z2⟩ := SeqK.of w1 h2
      obtain ⟨l2, us2, rfl, z3, z4⟩ := SeqK.of w3 h3
      exact ⟨l, l2, us, us2, k, k', rfl, z1.mono R1.fh, z3.mono R1.fh, q _ F1 H1 R1 e1 (itz_ok (G := gx X C) z1 z2 z3 z4)⟩
end
/-! ### targets -/
/-- a target changes slots at vs alone -/
def GOk (vs : List Nat) (g : D → S → Option S) : Prop := ∀ d s s', g d s = some s' → s'.st = s.st ∧ s'.al = s.al ∧ ∀ j, j ∉ vs → s'.r[j]? = s.r[j]?
def GsOk (vs : List Nat) (g : List D → S → Option S) : Prop := ∀ d s s', g d s = some s' → s'.st = s.st ∧ s'.al = s.al ∧ ∀ j, j ∉ vs → s'.r[j]? = s.r[j]?
/-- a target takes a datum: the slots behind it -/
def tG (G : Gx) (vs : List Nat) (g : D → S → Option S) : TG := fun v σ H Q => ∃ B F m oa s d s', Rel G B F m oa σ H s ∧ Dat G m F v d ∧ g d s = some s' ∧ ∀ σ', Rel G B F m oa σ' H s' → wipe σ' vs = wipe σ vs → Q σ' H
structure PGV (X : Cx) (C : Str → Option Addr) (vs : List Nat) (tg : Expr) (g : D → S → Option S) : Prop where
  run : PG X tg (tG (gx X C) vs g)
  ok : GOk vs g
def tGs (G : Gx) (vs : List Nat) (g : List D → S → Option S) : TGs := fun us σ H Q => ∃ B F m oa s ds s', Rel G B F m oa σ H s ∧ DatL G m F us ds ∧ g ds s = some s' ∧ ∀ σ', Rel G B F m oa σ' H s' → wipe σ' vs = wipe σ vs → Q σ' H
structure PGsV (X : Cx) (C : Str → Option Addr) (vs : List Nat) (ts : List Expr) (g : List D → S → Option S) : Prop where
  run : PGs X ts (tGs (gx X C) vs g)
  ok : GsOk vs g
theorem PG.weak {X : Cx} {e : Expr} {t t' : TG} (h : PG X e t) (k : ∀ v σ H Q, t' v σ H Q → t v σ H Q) : PG X e t' := ⟨fun pins s σ H v u Q I r w => h.run pins s σ H v u Q I r (k v σ H Q w)⟩
theorem PGs.weak {X : Cx} {e : List Expr} {t t' : TGs} (h : PGs X e t) (k : ∀ v σ H Q, t' v σ H Q → t v σ H Q) : PGs X e t' := ⟨fun pins s σ H v u Q I r w => h.run pins s σ H v u Q I r (k v σ H Q w)⟩
theorem PG.or {X : Cx} {e : Expr} {t t' : TG} (h : PG X e t) (h' : PG X e t') : PG X e (fun v σ H Q => t v σ H Q ∨ t' v σ H Q) := ⟨fun pins s σ H v u Q I r w => w.elim (h.run pins s σ H v u Q I r) (h'.run pins s σ H v u Q I r)⟩
theorem wipe_get {σ : St} {j : Nat} : ∀ vs : List Nat, (wipe σ vs)[j]? = if j ∈ vs then σ[j]?.map (fun _ => none) else σ[j]?
  | [] => by simp [wipe]
  | v :: vs => by
    have ih := wipe_get (σ := σ) (j := j) vs
    unfold wipe
    by_cases hj : v = j
    · subst hj
      by_cases hl : v < (wipe σ vs).length
      · rw [List.getElem?_set_self hl]
        rw [wipe_length] at hl
        simp [hl]
      · rw [List.getElem?_eq_none (by rw [List.length_set]; omega)]
        rw [wipe_length] at hl
        have : σ[v]? = none := List.getElem?_eq_none (by omega)
        simp [this]
    · rw [List.getElem?_set_ne hj, ih]
      have : (j ∈ v :: vs) ↔ j ∈ vs := by simp [Ne.symm hj]
      simp only [this]
theorem wipe_wipe {σ : St} (vs : List Nat) : wipe (wipe σ vs) vs = wipe σ vs := by
  refine List.ext_getElem? fun j => ?_
  rw [wipe_get, wipe_get]
  by_cases hm : j ∈ vs
  · rw [if_pos hm, if_pos hm]; cases σ[j]? <;> rfl
  · rw [if_neg hm]
theorem wipe_set {σ : St} {i : Nat} {x : Option V} {vs : List Nat} (h : i ∈ vs) : wipe (σ.set i x) vs = wipe σ vs := by
  refine List.ext_getElem? fun j => ?_
  rw [wipe_get, wipe_get]
  by_cases hj : i = j
  · subst hj
    rw [if_pos h, if_pos h]
    by_cases hl : i < σ.length
    · rw [List.getElem?_set_self hl, List.getElem?_eq_getElem hl]; rfl
    · rw [List.getElem?_eq_none (by rw [List.length_set]; omega), List.getElem?_eq_none (by omega)]
  · rw [List.getElem?_set_ne hj]
section
variable {X : Cx} {C : Str → Option Addr} {G : Gx} {B F : Hp} {m : List Addr} {oa : Own → Addr} {σ : St} {H : Hp} {s : S}
variable {a b e tg : Expr} {es : List Expr} {pos p2 p : Pos} {vs : List Nat}
def gName' (i : Nat) : D → S → Option S := fun d s => some (s.put i (.fr d))
theorem g_name {i : Nat} {x : Str} (hN : X.N.Nodup) (hi : X.N[i]? = some x) (hx : Loc X.env.scope x) (hv : i ∈ vs := by simp) (hf : X.fn x = true ∨ X.env.scope.names.lookup x = some .local := by first | exact .inl rfl | exact .inr rfl | assumption) : PGV X C vs (.Name x pos) (gName' i) := by
  refine ⟨PG.weak (pg_name hN hi hx hf) ?_, ?_⟩
  · rintro v σ H Q ⟨B, F, m, oa, s, d, s', R, hd, hg, q⟩
    cases hg
    exact q _ (R.put i hd) (wipe_set hv)
  · intro d s s' h
    cases h
    refine ⟨rfl, rfl, fun j hj => ?_⟩
    show (s.r.set i _)[j]? = _
    rw [List.getElem?_set_ne (fun z => hj (by rw [← z]; exact hv))]
def gsNil : List D → S → Option S := fun ds s => match ds with
  | [] => some s
  | _ => none
def gsCons (g : D → S → Option S) (gs : List D → S → Option S) : List D → S → Option S := fun ds s => match ds with
  | d :: r => (g d s).bind fun s' => gs r s'
  | [] => none
theorem gs_nil : PGsV X C vs [] gsNil := by
  refine ⟨PGs.weak pgs_nil ?_, ?_⟩
  · rintro v σ H Q ⟨B, F, m, oa, s, d, s', R, hd, hg, q⟩
    cases d with
    | nil => cases hd; cases hg; exact ⟨rfl, q σ R rfl⟩
    | cons _ _ => cases hg
  · intro d s s' h
    cases d with
    | nil => cases h; exact ⟨rfl, rfl, fun _ _ => rfl⟩
    | cons _ _ => cases h
variable {g : D → S → Option S} {gss : List D → S → Option S}
theorem gs_cons (h1 : PGV X C vs e g) (h2 : PGsV X C vs es gss) (hs : (assignEach (e :: es) X.env).map (·.2) = assign e X.env :: (assignEach es X.env).map (·.2) := by rfl) : PGsV X C vs (e :: es) (gsCons g gss) := by
  refine ⟨PGs.weak (pgs_cons h1.run h2.run hs) ?_, ?_⟩
  · rintro v σ H Q ⟨B, F, m, oa, s, d, s', R, hd, hg, q⟩
    cases d with
    | nil => cases hg
    | cons x r =>
      cases hd with
      | cons w1 w2 =>
        obtain ⟨s1, h3, h4⟩ := Option.bind_eq_some_iff.mp (show (g x s).bind (fun s' => gss r s') = some s' from hg)
        exact ⟨_, _, rfl, B, F, m, oa, s, x, s1, R, w1, h3, fun σ1 R1 z1 => ⟨B, F, m, oa, s1, r, s', R1, w2, h4, fun σ2 R2 z2 => q σ2 R2 (z2.trans z1)⟩⟩
  · intro d s s' h
    cases d with
    | nil => cases h
    | cons x r =>
      obtain ⟨s1, h3, h4⟩ := Option.bind_eq_some_iff.mp (show (g x s).bind (fun s' => gss r s') = some s' from h)
      obtain ⟨a1, a2, a3⟩ := h1.ok _ _ _ h3
      obtain ⟨b1, b2, b3⟩ := h2.ok _ _ _ h4
      exact ⟨b1.trans a1, b2.trans a2, fun j hj => (b3 j hj).trans (a3 j hj)⟩
def gTupN (n : Nat) (gs : List D → S → Option S) : D → S → Option S := fun d s => (dSeq d).bind fun q => if q.2.length = n then gs q.2 s else none
theorem g_tup {k : Nat} {n : Nat} (hc : X.calm = true) (hh : PGsV X C vs es gss) (hn : (assignEach es X.env).length = n := by rfl) (hst : (assignEach es X.env).findIdx? (·.1) = none := by rfl) : PGV X C vs (.Tuple es k pos) (gTupN n gss) := by
  refine ⟨PG.weak (PG.or (pg_tup hc hh.run hn hst) (pg_lst hc hh.run hn hst)) ?_, ?_⟩
  · rintro v σ H Q ⟨B, F, m, oa, s, d, s', R, hd, hg, q⟩
    obtain ⟨⟨k, ds⟩, h1, h2⟩ := Option.bind_eq_some_iff.mp (show (dSeq d).bind (fun q => if q.2.length = n then gss q.2 s else none) = some s' from hg)
    dsimp only at h2
    split at h2
    · rename_i hl
      cases hd with
      | tup w1 w2 =>
        cases h1
        exact Or.inl ⟨_, _, rfl, same_seqT R.fh w1, by rw [w2.length]; exact hl, B, F, m, oa, s, _, s', R, w2, h2, q⟩
      | lst w1 w2 =>
        cases h1
        exact Or.inr ⟨_, _, rfl, R.fh.seq w1, by rw [w2.length]; exact hl, B, F, m, oa, s, _, s', R, w2, h2, q⟩
      | _ => cases h1
    · cases h2
  · intro d s s' h
    obtain ⟨⟨k, ds⟩, h1, h2⟩ := Option.bind_eq_some_iff.mp (show (dSeq d).bind (fun q => if q.2.length = n then gss q.2 s else none) = some s' from h)
    dsimp only at h2
    split at h2
    · exact hh.ok _ _ _ h2
    · cases h2
/-! ### comprehensions -/
theorem Rel.back {F' : Hp} {H' : Hp} {σ' : St} {s1 : S} (R : Rel G B F m oa σ H s) (R1 : Rel G B F' m oa σ' H' s1) (ff : Same F F') (hst : s1.st = s.st) (hal : s1.al = s.al) (ho : ∀ x ds, ownAt s x = some ds → ownAt s1 x = some ds) : Rel G B F' m oa σ H' s where
  fh := R1.fh
  bh := R1.bh
  fb := R1.fb
  len := R.len
  slot := fun i sl e => (R.slot i sl e).mono ff (Pre.refl _)
  cell := fun x ds e => R1.cell x ds (ho x ds e)
  inj := R.inj
  obj := fun n ob e => R1.obj n ob (by rw [hst]; exact e)
  ml := R.ml
  mnd := R.mnd
def noOwn (s : S) (vs : List Nat) : Bool := vs.all fun j => match s.r[j]? with
  | some (.ow _) => false
  | _ => true
theorem wipeS_get {j : Nat} : ∀ {vs : List Nat}, j ∉ vs → (s.wipe vs).r[j]? = s.r[j]?
  | [], _ => rfl
  | v :: vs, h => by
    simp only [List.mem_cons, not_or] at h
    show ((s.wipe vs).r.set v .un)[j]? = _
    rw [List.getElem?_set_ne (Ne.symm h.1)]
    exact wipeS_get h.2
theorem wipeS_st : ∀ vs : List Nat, (s.wipe vs).st = s.st ∧ (s.wipe vs).al = s.al
  | [] => ⟨rfl, rfl⟩
  | v :: vs => wipeS_st vs
theorem own_kept {s1 : S} {d : D} (hg : GOk vs g) (h : g d (s.wipe vs) = some s1) (hn : noOwn s vs = true) : s1.st = s.st ∧ s1.al = s.al ∧ ∀ x ds, ownAt s x = some ds → ownAt s1 x = some ds := by
  obtain ⟨h1, h2, h3⟩ := hg _ _ _ h
  obtain ⟨w1, w2⟩ := wipeS_st (s := s) vs
  have hs : s1.st = s.st := h1.trans w1
  refine ⟨hs, h2.trans w2, fun x ds e => ?_⟩
  cases x with
  | inr q =>
    obtain ⟨n, f⟩ := q
    show (match s1.st[n]? with | some ob => slO (ob.fs.lookup f) | none => none) = some ds
    rw [hs]; exact e
  | inl j =>
    have e : slO s.r[j]? = some ds := e
    have hj : j ∉ vs := fun hm => by
      have q := List.all_eq_true.mp hn j hm
      cases er : s.r[j]? with
      | none => rw [er] at e; cases e
      | some sl =>
        rw [er] at e q
        cases sl with
        | ow es => simp at q
        | _ => cases e
    show slO s1.r[j]? = some ds
    rw [h3 j hj, wipeS_get hj]; exact e
def lcGo (k : D → Option (Option D)) : List D → Option (List D)
  | [] => some []
  | d :: ds => (k d).bind fun o => (lcGo k ds).map fun r => match o with
    | some x => x :: r
    | none => r
def lcK (g : D → S → Option S) (t : S → Option Bool) (f : S → Option D) (s : S) : D → Option (Option D) := fun d => (g d s).bind fun s1 => (t s1).bind fun b => if b = true then (f s1).map some else some none
def nLc (vs : List Nat) (it : S → Option (List D)) (g : D → S → Option S) (t : S → Option Bool) (f : S → Option D) : S → Option (List D) := fun s => (it s).bind fun ds => if ds.length ≤ 1000000 ∧ noOwn s vs = true then lcGo (lcK g t f (s.wipe vs)) ds else none
def bYes : S → Option Bool := fun _ => some true
theorem t_yes {X : Cx} : PTs X [] (tT (gx X C) bYes) := ⟨fun pins s σ H Q I w => by
  obtain ⟨B, F, m, oa, s1, b, R, h1, q⟩ := w
  cases h1
  exact pts_nil.run pins s σ H Q I (q F H R (Same.refl _))⟩
theorem t_one {X : Cx} {c : Expr} {t : S → Option Bool} (h : PTV X C c t) : PTs X [c] (tT (gx X C) t) := pts_one h
variable {it : S → Option (List D)} {t : S → Option Bool} {f : S → Option D}
theorem lc_weak (hg : GOk vs g) (Q : VK) (w : tN G (nLc vs it g t f) σ H Q) : tLc (tI G it) (tG G vs g) (tT G t) (tV G f) vs σ H Q := by
  obtain ⟨B, F, m, oa, s, rs, R, hf, q⟩ := w
  obtain ⟨ds, h1, hf⟩ := Option.bind_eq_some_iff.mp hf
  split at hf
  · rename_i hc
    obtain ⟨hlen, hno⟩ := hc
    refine ⟨B, F, m, oa, s, ds, R, h1, fun J F1 H1 R1 e1 ok Dn hD => ?_⟩
    obtain ⟨hfD, hbD⟩ := R1.fresh hD
    refine ⟨fun i mm H => mm = ds.length - i ∧ i ≤ ds.length ∧ ∃ F' acc racc rest, Rel G (upd B Dn (.lst acc)) F' m oa σ H s ∧ Same F1 F' ∧ DatL G m F' acc racc ∧ lcGo (lcK g t f (s.wipe vs)) (ds.drop i) = some rest ∧ racc ++ rest = rs ∧ acc.length ≤ i,
      ⟨ds.length, by simp, Nat.zero_le _, F1, [], [], rs, R1.newB hD _, Same.refl _, .nil, by simpa using hf, by simp, by simp⟩, ?_⟩
    rintro i mm H2 ⟨rfl, hi, F', acc, racc, rest, R2, e2, da, hr, hrs, hal⟩
    by_cases hlt : i < ds.length
    · have hd : ds[i]? = some ds[i] := List.getElem?_eq_getElem hlt
      obtain ⟨hgo, hy⟩ := ok.go e2 R2.fh i _ hd
      have hdrop : ds.drop i = ds[i] :: ds.drop (i + 1) := List.drop_eq_getElem_cons hlt
      rw [hdrop] at hr
      rw [lcGo] at hr
      obtain ⟨o, hk, hr⟩ := Option.bind_eq_some_iff.mp hr
      obtain ⟨rest', hr', hre⟩ := Option.map_eq_some_iff.mp hr
      obtain ⟨s1, hg1, hk⟩ := Option.bind_eq_some_iff.mp hk
      obtain ⟨bb, ht1, hk⟩ := Option.bind_eq_some_iff.mp hk
      obtain ⟨o1, o2, o3⟩ := own_kept hg hg1 hno
      refine Or.inr ⟨hgo, fun H' => i + 1 ≤ ds.length ∧ ∃ F' acc racc rest, Rel G (upd B Dn (.lst acc)) F' m oa σ H' s ∧ Same F1 F' ∧ DatL G m F' acc racc ∧ lcGo (lcK g t f (s.wipe vs)) (ds.drop (i + 1)) = some rest ∧ racc ++ rest = rs ∧ acc.length ≤ i + 1,
        fun H' ⟨w1, w2⟩ => ⟨ds.length - (i + 1), by omega, rfl, w1, w2⟩, fun x H3 yl => ?_⟩
      have step : ∃ F3, Rel G (upd B Dn (.lst acc)) F3 m oa σ H3 s ∧ Same F' F3 ∧ Dat G m F3 x ds[i] := by
        rcases hy x H3 yl with ⟨rfl, dx⟩ | ⟨T, o, hT, rfl, dx⟩
        · exact ⟨F', R2, Same.refl _, dx⟩
        · have ff := same_upd (o := o) (R2.fresh hT).1
          exact ⟨upd F' T o, R2.new hT o, ff, dx _ ff upd_same⟩
      obtain ⟨F3, R3, e3, dx⟩ := step
      refine ⟨_, F3, m, oa, s.wipe vs, ds[i], s1, R3.wiped vs, dx, hg1, fun σ2 R4 hw => ⟨?_, ?_⟩⟩
      · exact hw.trans (wipe_wipe vs)
      · refine ⟨_, F3, m, oa, s1, bb, R4, ht1, fun F4 H4 R5 e4 => ?_⟩
        cases bb with
        | true =>
          rw [if_pos rfl] at hk ⊢
          obtain ⟨d', hf1, rfl⟩ := Option.map_eq_some_iff.mp hk
          refine ⟨_, F4, m, oa, s1, d', R5, hf1, fun y F5 H5 R6 e5 dy => ?_⟩
          refine ⟨acc, R6.bh Dn _ upd_same, by rw [szl]; omega, hlt, F5, acc ++ [y], racc ++ [d'], rest', ?_, ((e2.trans e3).trans e4).trans e5, ?_, hr', by rw [← hrs, ← hre, List.append_assoc]; rfl, by rw [List.length_append, List.length_singleton]; omega⟩
          · have Rb := R3.back R6 (e4.trans e5) o1 o2 o3
            have Rc := Rb.setB (p := Dn) (by rw [upd_same]; simp) (.lst (acc ++ [y]))
            rw [upd_upd] at Rc
            exact Rc
          · exact (da.mono ((e3.trans e4).trans e5) (Pre.refl _)).append (.cons dy .nil)
        | false =>
          rw [if_neg Bool.false_ne_true] at hk ⊢
          cases hk
          refine ⟨hlt, F4, acc, racc, rest', R3.back R5 e4 o1 o2 o3, (e2.trans e3).trans e4, da.mono (e3.trans e4) (Pre.refl _), hr', ?_, by omega⟩
          rw [← hrs, ← hre]
    · have ei : i = ds.length := by omega
      subst ei
      rw [List.drop_length] at hr
      cases hr
      rw [List.append_nil] at hrs
      subst hrs
      exact Or.inl ⟨ok.stop e2 R2.fh, q Dn acc F' H2 hbD R2 (e1.trans e2) da⟩
  · cases hf
/-- [elt for target in iter if ..] -/
theorem n_lc {elt iter : Expr} {ifs : List Expr} {scope : Scope} {own : List (Str × Nat)} (hc : X.calm = true) (hN : X.N.Nodup) (hi : PIV X C tg iter it) (ok : BlkOk X.N X.env.scope scope own)
    (hg : ∀ (s : Shared) (H : Hp) (L : Addr) (cl : List (Str × Addr)) (fp : List Addr), PGV (X.blk s H scope (compEnvC scope cl L X.env) fp) C (own.map (·.2)) tg g)
    (ht : ∀ (s : Shared) (H : Hp) (L : Addr) (cl : List (Str × Addr)) (fp : List Addr), PTs (X.blk s H scope (compEnvC scope cl L X.env) fp) ifs (tT (gx X C) t))
    (he : ∀ (s : Shared) (H : Hp) (L : Addr) (cl : List (Str × Addr)) (fp : List Addr), PV (X.blk s H scope (compEnvC scope cl L X.env) fp) C elt f) (hs : ∀ x, foldedSetIterable iter X.env x = pure x := by intro _; rfl) :
    PN X C (.ListComp elt [⟨tg, iter, ifs, 0⟩] scope pos) (nLc (own.map (·.2)) it g t f) :=
  ⟨fun pins s₀ σ H Q I w => (pe_lc hc hN hi ok (fun s H L cl fp => (hg s H L cl fp).run) ht he hs).run pins s₀ σ H Q I (lc_weak (hg s₀ H 0 [] []).ok Q w)⟩
end
end VS
namespace VS
open PySem L2
open PyProof.Rows hiding St
/-! ### what is known of a def's (or a block's) names: M its slots' names as far as they are seen here, gs the names of the module that it reads -/
structure DX (X : Cx) (N : List Str) (M Ms : List (Option Str)) (gs : List Str) (sc : Scope) : Prop where
  n : X.N = N
  nd : X.N.Nodup
  calm : X.calm = true
  kind : X.env.scope.kind = .function
  cf : ∀ x, (sc.names.lookup x = some .cell ∨ sc.names.lookup x = some .free) → X.env.scope.names.lookup x = some .cell ∨ X.env.scope.names.lookup x = some .free
  room : X.A.units + 64 < cLine
  v : ∀ (i : Nat) (x : Str), M[i]? = some (some x) → X.N[i]? = some x ∧ Vis X.env.scope x ∧ (x == ("__debug__" : Str)) = false ∧ (x == ("__classdict__" : Str)) = false
  l : ∀ (i : Nat) (x : Str), Ms[i]? = some (some x) → X.N[i]? = some x ∧ Loc X.env.scope x ∧ (X.fn x = true ∨ X.env.scope.names.lookup x = some .local)
  g : ∀ (j : Nat) (x : Str), gs[j]? = some x → Gl X x ∧ (x == ("__debug__" : Str)) = false
def chkN (N : List Str) (M : List (Option Str)) (gs : List Str) (sc : Scope) : Bool :=
  ((List.range M.length).all fun i => match M[i]? with
    | some (some x) => N[i]? == some x && (match sc.names.lookup x with | some .local => true | some .cell => true | some .free => true | _ => false) && (x == ("__debug__" : Str)) == false && (x == ("__classdict__" : Str)) == false
    | _ => true) && gs.all fun x => (match sc.names.lookup x with | some .globalImplicit => true | _ => false) && (x == ("__debug__" : Str)) == false
theorem chk_v {N : List Str} {M : List (Option Str)} {gs : List Str} {sc : Scope} (h : chkN N M gs sc = true) {i : Nat} {x : Str} (e : M[i]? = some (some x)) : N[i]? = some x ∧ Vis sc x ∧ (x == ("__debug__" : Str)) = false ∧ (x == ("__classdict__" : Str)) = false := by
  unfold chkN at h
  rw [Bool.and_eq_true, List.all_eq_true] at h
  have hi : i < M.length := (List.getElem?_eq_some_iff.mp e).1
  have q := h.1 i (List.mem_range.mpr hi)
  rw [e] at q
  simp only [Bool.and_eq_true, beq_iff_eq] at q
  obtain ⟨⟨⟨q1, q2⟩, q3⟩, q4⟩ := q
  refine ⟨q1, ?_, q3, q4⟩
  cases el : sc.names.lookup x with
  | none => rw [el] at q2; cases q2
  | some k =>
    rw [el] at q2
    cases k with
    | «local» => exact Or.inl el
    | cell => exact Or.inr (Or.inl el)
    | free => exact Or.inr (Or.inr el)
    | _ => cases q2
theorem chk_g {N : List Str} {M : List (Option Str)} {gs : List Str} {sc : Scope} (h : chkN N M gs sc = true) {j : Nat} {x : Str} (e : gs[j]? = some x) : sc.names.lookup x = some .globalImplicit ∧ (x == ("__debug__" : Str)) = false := by
  unfold chkN at h
  rw [Bool.and_eq_true] at h
  have q := List.all_eq_true.mp h.2 x (List.mem_of_getElem? e)
  simp only [Bool.and_eq_true, beq_iff_eq] at q
  refine ⟨?_, q.2⟩
  cases el : sc.names.lookup x with
  | none => rw [el] at q; cases q.1
  | some k =>
    rw [el] at q
    cases k with
    | globalImplicit => rfl
    | _ => cases q.1
def chkS (N : List Str) (Ms : List (Option Str)) (sc : Scope) : Bool :=
  (List.range Ms.length).all fun i => match Ms[i]? with
    | some (some x) => N[i]? == some x && (match sc.names.lookup x with | some .local => true | some .cell => true | _ => false)
    | _ => true
theorem chk_s {N : List Str} {Ms : List (Option Str)} {sc : Scope} (h : chkS N Ms sc = true) {i : Nat} {x : Str} (e : Ms[i]? = some (some x)) : N[i]? = some x ∧ (sc.names.lookup x = some .local ∨ sc.names.lookup x = some .cell) := by
  unfold chkS at h
  rw [List.all_eq_true] at h
  have hi : i < Ms.length := (List.getElem?_eq_some_iff.mp e).1
  have q := h i (List.mem_range.mpr hi)
  rw [e] at q
  simp only [Bool.and_eq_true, beq_iff_eq] at q
  refine ⟨q.1, ?_⟩
  cases el : sc.names.lookup x with
  | none => rw [el] at q; cases q.2
  | some k =>
    rw [el] at q
    cases k with
    | «local» => exact Or.inl rfl
    | cell => exact Or.inr rfl
    | _ => cases q.2
theorem DX.of {X : Cx} {N : List Str} {M Ms : List (Option Str)} {gs : List Str} {sc : Scope} (n : X.N = N) (nd : N.Nodup) (calm : X.calm = true) (hs : X.env.scope = sc) (hk : sc.kind = .function) (room : X.A.units + 64 < cLine) (fn : ∀ x, X.fn x = true) (h : chkN N M gs sc = true) (h' : chkS N Ms sc = true) : DX X N M Ms gs sc where
  n := n
  nd := by rw [n]; exact nd
  calm := calm
  kind := by rw [hs]; exact hk
  cf := fun x h => by rw [hs]; exact h
  room := room
  v := fun i x e => by rw [n, hs]; exact chk_v h e
  l := fun i x e => by
    obtain ⟨q1, q2⟩ := chk_s h' e
    rw [n, hs]
    exact ⟨q1, q2, Or.inl (fn x)⟩
  g := fun j x e => by
    obtain ⟨q1, q2⟩ := chk_g h e
    refine ⟨?_, q2⟩
    show X.env.scope.names.lookup x = _
    rw [hs]; exact q1
theorem lookup_mapk {c : Str → NameKind → Bool} {x : Str} : ∀ {l : List (Str × NameKind)}, (l.map fun (n, k) => if c n k = true then (n, NameKind.cell) else (n, k)).lookup x = (l.lookup x).map fun k => if c x k = true then .cell else k
  | [] => rfl
  | (n, k) :: r => by
    have ih := lookup_mapk (c := c) (x := x) (l := r)
    rw [List.map_cons]
    by_cases e : x = n
    · subst e
      by_cases hc : c x k = true
      · simp only [hc, if_true, List.lookup_cons, beq_self_eq_true, Option.map_some]
      · simp only [hc, Bool.false_eq_true, if_false, List.lookup_cons, beq_self_eq_true, Option.map_some]
    · have hb : (x == n) = false := by simpa using e
      by_cases hc : c n k = true
      · simp only [hc, if_true, List.lookup_cons, hb]; exact ih
      · simp only [hc, Bool.false_eq_true, if_false, List.lookup_cons, hb]; exact ih
theorem rel_look {scope : Scope} {env : Env} {x : Str} : (relabel scope env).names.lookup x = (scope.names.lookup x).map fun k => if (k == NameKind.free && env.scope.kind == .function && env.kindOf x == some .cell) = true then .cell else k :=
  lookup_mapk (c := fun n k => (k == NameKind.free && env.scope.kind == .function && env.kindOf n == some .cell))
theorem DX.blk {X : Cx} {N : List Str} {M Ms M' Ms' : List (Option Str)} {gs gs' : List Str} {sc : Scope} (D : DX X N M Ms gs sc) {scope : Scope} (s : Shared) (H : Hp) (L : Addr) (cl : List (Str × Addr)) (fp : List Addr) (hk : scope.kind = .function) (h : chkN N M' gs' scope = true) (h' : chkS N Ms' scope = true) :
    DX (X.blk s H scope (compEnvC scope cl L X.env) fp) N M' Ms' gs' scope where
  n := D.n
  nd := D.nd
  calm := D.calm
  kind := hk
  cf := fun x hx => by
    show (relabel scope X.env).names.lookup x = _ ∨ (relabel scope X.env).names.lookup x = _
    rw [rel_look]
    rcases hx with q | q
    · rw [q]; exact Or.inl rfl
    · rw [q, Option.map_some]
      split
      · exact Or.inl rfl
      · exact Or.inr rfl
  room := D.room
  v := fun i x e => by
    obtain ⟨q1, q2, q3⟩ := chk_v h e
    refine ⟨by rw [← q1]; exact congrArg (fun l : List Str => l[i]?) D.n, ?_, q3⟩
    show (relabel scope X.env).names.lookup x = _ ∨ (relabel scope X.env).names.lookup x = _ ∨ (relabel scope X.env).names.lookup x = _
    rw [rel_look]
    rcases q2 with q | q | q
    · rw [q]; exact Or.inl rfl
    · rw [q]; exact Or.inr (Or.inl rfl)
    · rw [q, Option.map_some]
      split
      · exact Or.inr (Or.inl rfl)
      · exact Or.inr (Or.inr rfl)
  l := fun i x e => by
    obtain ⟨q1, q2⟩ := chk_s h' e
    refine ⟨by rw [← q1]; exact congrArg (fun l : List Str => l[i]?) D.n, ?_, ?_⟩
    · show (relabel scope X.env).names.lookup x = _ ∨ (relabel scope X.env).names.lookup x = _
      rw [rel_look]
      rcases q2 with q | q
      · rw [q]; exact Or.inl rfl
      · rw [q]; exact Or.inr rfl
    · show (scope.names.lookup x == some .cell) = true ∨ (relabel scope X.env).names.lookup x = _
      rcases q2 with q | q
      · rw [rel_look, q]; exact Or.inr rfl
      · rw [q]; exact Or.inl rfl
  g := fun j x e => by
    obtain ⟨q1, q2⟩ := chk_g h e
    refine ⟨?_, q2⟩
    show (relabel scope X.env).names.lookup x = _
    rw [rel_look, q1]; rfl
section
variable {X : Cx} {C : Str → Option Addr} {N : List Str} {M Ms : List (Option Str)} {gs : List Str} {sc : Scope} {G : Gx} {B F : Hp} {m : List Addr} {oa : Own → Addr} {σ : St} {H : Hp} {s : S}
variable {a b e tg : Expr} {es : List Expr} {pos p2 p : Pos} {f h : S → Option D} {fs : S → Option (List D)} {qf qh : S → Option (Bool × List D)} {vs : List Nat}
/-! ### the rules by these facts -/
theorem x_var (D : DX X N M Ms gs sc) (i : Nat) {x : Str} (hx : M[i]? = some (some x) := by rfl) : PV X C (.Name x pos) (fun s => s.get i) :=
  let ⟨h1, h2, h3, h4⟩ := D.v i x hx
  v_var i h1 h2 h3 h4
theorem x_svar (D : DX X N M Ms gs sc) (i : Nat) {x : Str} (hx : M[i]? = some (some x) := by rfl) : PQ X C (.Name x pos) (fun s => s.seq i) :=
  let ⟨h1, h2, h3, h4⟩ := D.v i x hx
  s_var i h1 h2 h3 h4
theorem x_gname (D : DX X N M Ms gs sc) (i : Nat) {x : Str} (hx : Ms[i]? = some (some x) := by rfl) (hv : i ∈ vs := by simp) : PGV X C vs (.Name x pos) (gName' i) :=
  let ⟨h1, h2, h3⟩ := D.l i x hx
  g_name D.nd h1 h2 hv h3
theorem x_glob (D : DX X N M Ms gs sc) (j : Nat) {x : Str} {v : V} {u : Value} {d : VS.D} (hm : X.mg x = some u) (r : RelV v u) (k : ∀ m F, Dat (gx X C) m F v d) (hx : gs[j]? = some x := by rfl) : PV X C (.Name x pos) (dC d) :=
  v_glob (D.g j x hx).1 hm r k (D.g j x hx).2
/-- a name that is built in -/
structure Blt (x : Str) (v : Value) : Prop where
  bt : bootBuiltins x = some v
  nn : x ≠ "__name__"
  nd : (x == ("__debug__" : Str)) = false
theorem b_len : Blt "len" (.builtin "len") := ⟨PySem.boot_len, by decide, by decide⟩
theorem b_sum : Blt "sum" (.builtin "sum") := ⟨PyProof.Rows.boot_sum, by decide, by decide⟩
theorem b_max : Blt "max" (.builtin "max") := ⟨PyProof.Rows.boot_max, by decide, by decide⟩
theorem b_min : Blt "min" (.builtin "min") := ⟨PyProof.Rows.boot_min, by decide, by decide⟩
theorem b_abs : Blt "abs" (.builtin "abs") := ⟨PyProof.Rows.boot_abs, by decide, by decide⟩
theorem b_int : Blt "int" (.type "int") := ⟨PyProof.Rows.boot_int, by decide, by decide⟩
theorem b_bool : Blt "bool" (.type "bool") := ⟨PyProof.Rows.boot_bool, by decide, by decide⟩
theorem b_str : Blt "str" (.type "str") := ⟨PyProof.Rows.boot_str, by decide, by decide⟩
theorem b_list : Blt "list" (.type "list") := ⟨PyProof.Rows.boot_list, by decide, by decide⟩
theorem b_tuple : Blt "tuple" (.type "tuple") := ⟨PyProof.Rows.boot_tuple, by decide, by decide⟩
theorem b_isinstance : Blt "isinstance" (.builtin "isinstance") := ⟨PyProof.Rows.boot_isinstance, by decide, by decide⟩
theorem x_len (D : DX X N M Ms gs sc) (j : Nat) (hm : X.mg "len" = none) (ha : PQ X C e qf) (hx : gs[j]? = some "len" := by rfl) (hs : starEach [e] X.env = (false, eval e X.env) :: starEach [] X.env := by rfl) : PV X C (.Call (.Name "len" p) [e] [] pos) (dCallS gLen qf) :=
  v_bltS call_len_seq giv_len (D.g j _ hx).1 hm b_len.bt ha b_len.nn b_len.nd hs rfl
theorem x_sum (D : DX X N M Ms gs sc) (j : Nat) (hm : X.mg "sum" = none) (ha : PQ X C e qf) (hx : gs[j]? = some "sum" := by rfl) (hs : starEach [e] X.env = (false, eval e X.env) :: starEach [] X.env := by rfl) : PV X C (.Call (.Name "sum" p) [e] [] pos) (dCallS gSum qf) :=
  v_bltS (cr_sum D.calm) giv_sum (D.g j _ hx).1 hm b_sum.bt ha b_sum.nn b_sum.nd hs rfl
theorem x_max (D : DX X N M Ms gs sc) (j : Nat) (hm : X.mg "max" = none) (ha : PQ X C e qf) (hx : gs[j]? = some "max" := by rfl) (hs : starEach [e] X.env = (false, eval e X.env) :: starEach [] X.env := by rfl) : PV X C (.Call (.Name "max" p) [e] [] pos) (dCallS gMax qf) :=
  v_bltS (cr_maxA D.calm) giv_max (D.g j _ hx).1 hm b_max.bt ha b_max.nn b_max.nd hs rfl
theorem x_min (D : DX X N M Ms gs sc) (j : Nat) (hm : X.mg "min" = none) (ha : PQ X C e qf) (hx : gs[j]? = some "min" := by rfl) (hs : starEach [e] X.env = (false, eval e X.env) :: starEach [] X.env := by rfl) : PV X C (.Call (.Name "min" p) [e] [] pos) (dCallS gMin qf) :=
  v_bltS (cr_minA D.calm) giv_min (D.g j _ hx).1 hm b_min.bt ha b_min.nn b_min.nd hs rfl
theorem x_tuple (D : DX X N M Ms gs sc) (j : Nat) (hm : X.mg "tuple" = none) (ha : PQ X C e qf) (hx : gs[j]? = some "tuple" := by rfl) (hs : starEach [e] X.env = (false, eval e X.env) :: starEach [] X.env := by rfl) : PV X C (.Call (.Name "tuple" p) [e] [] pos) (dCallS gTuple qf) :=
  v_btyS call_tuple_of giv_tuple (D.g j _ hx).1 hm b_tuple.bt ha b_tuple.nn b_tuple.nd hs rfl
theorem x_list (D : DX X N M Ms gs sc) (j : Nat) (hm : X.mg "list" = none) (ha : PQ X C e qf) (hx : gs[j]? = some "list" := by rfl) (hs : starEach [e] X.env = (false, eval e X.env) :: starEach [] X.env := by rfl) : PN X C (.Call (.Name "list" p) [e] [] pos) (nList qf) :=
  n_list (D.g j _ hx).1 hm b_list.bt ha b_list.nn b_list.nd hs rfl
theorem x_int (D : DX X N M Ms gs sc) (j : Nat) (hm : X.mg "int" = none) (ha : PAV X C (e :: es) fs) (hx : gs[j]? = some "int" := by rfl) (hs : starEach (e :: es) X.env = (false, eval e X.env) :: starEach es X.env := by rfl) (hpl : (backTo pos (starEach es X.env)).any (·.1) = false := by rfl) : PV X C (.Call (.Name "int" p) (e :: es) [] pos) (dCall gInt fs) :=
  v_bty call_int1 giv_int (D.g j _ hx).1 hm b_int.bt ha b_int.nn b_int.nd hs hpl
theorem x_abs (D : DX X N M Ms gs sc) (j : Nat) (hm : X.mg "abs" = none) (ha : PAV X C (e :: es) fs) (hx : gs[j]? = some "abs" := by rfl) (hs : starEach (e :: es) X.env = (false, eval e X.env) :: starEach es X.env := by rfl) (hpl : (backTo pos (starEach es X.env)).any (·.1) = false := by rfl) : PV X C (.Call (.Name "abs" p) (e :: es) [] pos) (dCall gAbs fs) :=
  v_blt call_abs giv_abs (D.g j _ hx).1 hm b_abs.bt ha b_abs.nn b_abs.nd hs hpl
theorem x_max2 (D : DX X N M Ms gs sc) (j : Nat) (hm : X.mg "max" = none) (ha : PAV X C (e :: es) fs) (hx : gs[j]? = some "max" := by rfl) (hs : starEach (e :: es) X.env = (false, eval e X.env) :: starEach es X.env := by rfl) (hpl : (backTo pos (starEach es X.env)).any (·.1) = false := by rfl) : PV X C (.Call (.Name "max" p) (e :: es) [] pos) (dCall gMax2 fs) :=
  v_blt (call_max2 D.calm) giv_max2 (D.g j _ hx).1 hm b_max.bt ha b_max.nn b_max.nd hs hpl
theorem x_min2 (D : DX X N M Ms gs sc) (j : Nat) (hm : X.mg "min" = none) (ha : PAV X C (e :: es) fs) (hx : gs[j]? = some "min" := by rfl) (hs : starEach (e :: es) X.env = (false, eval e X.env) :: starEach es X.env := by rfl) (hpl : (backTo pos (starEach es X.env)).any (·.1) = false := by rfl) : PV X C (.Call (.Name "min" p) (e :: es) [] pos) (dCall gMin2 fs) :=
  v_blt (call_min2 D.calm) giv_min2 (D.g j _ hx).1 hm b_min.bt ha b_min.nn b_min.nd hs hpl
theorem x_isi (D : DX X N M Ms gs sc) (j j2 : Nat) {c : Str} {pc : Pos} (t : Ty) (hm : X.mg "isinstance" = none) (hmc : X.mg c = none) (bc : Blt c (.type t.name)) (ha : PV X C e f) (hx : gs[j]? = some "isinstance" := by rfl) (hx2 : gs[j2]? = some c := by rfl)
    (hs : starEach [e, .Name c pc] X.env = (false, eval e X.env) :: starEach [.Name c pc] X.env := by rfl) : PV X C (.Call (.Name "isinstance" p) [e, .Name c pc] [] pos) (d1 (dIsi t) f) :=
  v_isi t (D.g j _ hx).1 hm b_isinstance.bt (D.g j2 _ hx2).1 hmc bc.bt ha b_isinstance.nn b_isinstance.nd bc.nn bc.nd hs rfl
theorem x_eq (D : DX X N M Ms gs sc) (ha : PV X C a f) (hb : PV X C b h) : PV X C (.Compare a [.Eq] [b] pos) (d2 dEq f h) := v_eq D.room ha hb
theorem x_ne (D : DX X N M Ms gs sc) (ha : PV X C a f) (hb : PV X C b h) : PV X C (.Compare a [.NotEq] [b] pos) (d2 dNe f h) := v_ne D.room ha hb
theorem xq_eq (D : DX X N M Ms gs sc) (ha : PV X C a f) (hb : PV X C b h) : PTV X C (.Compare a [.Eq] [b] pos) (tB1 (d2 dEq f h)) := q_eq D.room ha hb
theorem xq_ne (D : DX X N M Ms gs sc) (ha : PV X C a f) (hb : PV X C b h) : PTV X C (.Compare a [.NotEq] [b] pos) (tB1 (d2 dNe f h)) := q_ne D.room ha hb
theorem xi_rng1 (D : DX X N M Ms gs sc) (j : Nat) (hm : X.mg "range" = none) (ha : PV X C a f) (hx : gs[j]? = some "range" := by rfl) (hs0 : starEach (a :: []) X.env = (false, eval a X.env) :: starEach [] X.env := by rfl) (hs : starEach [a] X.env = [(false, eval a X.env)] := by rfl) : PIV X C tg (.Call (.Name "range" p) [a] [] pos) (iRng1 f) :=
  i_rng1 (D.g j _ hx).1 hm ha hs0 hs
theorem xi_rng2 (D : DX X N M Ms gs sc) (j : Nat) (hm : X.mg "range" = none) (ha : PV X C a f) (hb : PV X C b h) (hx : gs[j]? = some "range" := by rfl) (hs0 : starEach [a, b] X.env = (false, eval a X.env) :: starEach [b] X.env := by rfl) (hs1 : starEach [b] X.env = (false, eval b X.env) :: starEach [] X.env := by rfl)
    (hs : starEach [a, b] X.env = [(false, eval a X.env), (false, eval b X.env)] := by rfl) (hs2 : starEach [b] X.env = [(false, eval b X.env)] := by rfl) : PIV X C tg (.Call (.Name "range" p) [a, b] [] pos) (iRng2 f h) :=
  i_rng2 (D.g j _ hx).1 hm ha hb hs0 hs1 hs hs2
theorem xi_enum (D : DX X N M Ms gs sc) (j : Nat) {elts : List Expr} {kk : Nat} {tpos : Pos} (hm : X.mg "enumerate" = none) (ha : PV X C a f) (hx : gs[j]? = some "enumerate" := by rfl) (hs0 : starEach (a :: []) X.env = (false, eval a X.env) :: starEach [] X.env := by rfl) (hs : starEach [a] X.env = [(false, eval a X.env)] := by rfl) :
    PIV X C (.Tuple elts kk tpos) (.Call (.Name "enumerate" p) [a] [] pos) (iEnum f) := i_enum (D.g j _ hx).1 hm ha hs0 hs
theorem xi_zip (D : DX X N M Ms gs sc) (j : Nat) {elts : List Expr} {kk : Nat} {tpos : Pos} (hm : X.mg "zip" = none) (ha : PV X C a f) (hb : PV X C b h) (hx : gs[j]? = some "zip" := by rfl) (hs1 : starEach [b] X.env = (false, eval b X.env) :: starEach [] X.env := by rfl)
    (hs : starEach [a, b] X.env = (false, eval a X.env) :: starEach [b] X.env := by rfl) (hpl : (backTo pos (starEach [b] X.env)).any (·.1) = false := by rfl) : PIV X C (.Tuple elts kk tpos) (.Call (.Name "zip" p) [a, b] [] pos) (iZip f h) :=
  i_zip (D.g j _ hx).1 hm ha hb hs1 hs hpl
theorem DX.blkOk (D : DX X N M Ms gs sc) {scope : Scope} {own : List (Str × Nat)} (h : blkC N sc scope own = true) : BlkOk X.N X.env.scope scope own := by
  have q := blkOk_by h
  rw [D.n]
  exact ⟨q.kind, q.uniq, q.ix, fun y hy e => D.cf _ (q.free y hy e), q.own⟩
end
end VS
namespace VS
open PySem L2
open PyProof.Rows hiding St
/-! ### statements -/
inductive Out where
  | nx (s : S) | rt (d : D) (s : S) | ro (ds : List D) (s : S) | ex (c : Str) (p : Option Int) (s : S)
def Gr (F F' : Hp) (m m' : List Addr) (al : Bool) : Prop := Same F F' ∧ Pre m m' ∧ (al = false → m' = m)
theorem Gr.refl (F : Hp) (m : List Addr) (al : Bool) : Gr F F m m al := ⟨Same.refl _, Pre.refl _, fun _ => rfl⟩
theorem Gr.of {F F' : Hp} (m : List Addr) (al : Bool) (h : Same F F') : Gr F F' m m al := ⟨h, Pre.refl _, fun _ => rfl⟩
theorem Gr.trans {F F1 F2 : Hp} {m m1 m2 : List Addr} {al : Bool} (a : Gr F F1 m m1 al) (b : Gr F1 F2 m1 m2 al) : Gr F F2 m m2 al := ⟨a.1.trans b.1, a.2.1.trans b.2.1, fun z => (b.2.2 z).trans (a.2.2 z)⟩
/-- what an exception bears -/
def ExP (H : Hp) (dx : Option Addr) : Option Int → Prop
  | none => dx = none
  | some i => ∃ a f, dx = some a ∧ H a = some (.xd [(f, .int i)])
def EndsOk (G : Gx) (W : WX) (B F : Hp) (m : List Addr) (al : Bool) (D : Ends) : Option Out → Prop
  | some (.nx s') => ∀ σ' H' F' m' oa', Rel G B F' m' oa' σ' H' s' → Gr F F' m m' al → D.nx σ' H'
  | some (.rt d s') => ∀ v σ' H' F' m' oa', Rel G B F' m' oa' σ' H' s' → Gr F F' m m' al → Dat G m' F' v d → D.rt v H'
  | some (.ro ds s') => ∀ p vs σ' H' F' m' oa', B p = none → Rel G (upd B p (.lst vs)) F' m' oa' σ' H' s' → Gr F F' m m' al → DatL G m' F' vs ds → D.rt (.ref p) H'
  | some (.ex c p s') => ∀ Cc dx σ' H' F' m' oa', G.cls c = some Cc → ExP H' dx p → Rel G B F' m' oa' σ' H' s' → Gr F F' m m' al → W (.ref Cc) dx σ' H'
  | none => False
def tSt (G : Gx) (W : WX) (g : S → Option Out) : TS := fun D σ H => ∃ B F m oa s, Rel G B F m oa σ H s ∧ EndsOk G W B F m s.al D (g s)
def AlOk (g : S → Option Out) : Prop := ∀ s s', g s = some (.nx s') → s'.al = s.al
structure PSV (X : Cx) (C : Str → Option Addr) (W : WX) (st : Stmt) (g : S → Option Out) : Prop where
  run : PS X st (tSt (gx X C) W g)
  al : AlOk g
structure PSsV (X : Cx) (C : Str → Option Addr) (W : WX) (st : List Stmt) (g : S → Option Out) : Prop where
  run : PSs X st (tSt (gx X C) W g)
  al : AlOk g
/-- later: from a grown start -/
theorem EndsOk.from {G : Gx} {W : WX} {B F F1 : Hp} {m m1 : List Addr} {al : Bool} {D : Ends} {o : Option Out} (h : EndsOk G W B F m al D o) (gr : Gr F F1 m m1 al) : EndsOk G W B F1 m1 al D o := by
  cases o with
  | none => exact h
  | some o =>
    cases o with
    | nx s' => exact fun σ' H' F' m' oa' R g => h σ' H' F' m' oa' R (gr.trans g)
    | rt d s' => exact fun v σ' H' F' m' oa' R g => h v σ' H' F' m' oa' R (gr.trans g)
    | ro ds s' => exact fun p vs σ' H' F' m' oa' hb R g => h p vs σ' H' F' m' oa' hb R (gr.trans g)
    | ex c p s' => exact fun Cc dx σ' H' F' m' oa' hc hp R g => h Cc dx σ' H' F' m' oa' hc hp R (gr.trans g)
/-- other ways on -/
theorem EndsOk.imp {G : Gx} {W : WX} {B F : Hp} {m : List Addr} {al : Bool} {D D' : Ends} {o : Option Out} (h : EndsOk G W B F m al D o) (hr : ∀ v H, D.rt v H → D'.rt v H) (hn : ∀ s', o = some (.nx s') → ∀ σ' H' F' m' oa', Rel G B F' m' oa' σ' H' s' → Gr F F' m m' al → D'.nx σ' H') : EndsOk G W B F m al D' o := by
  cases o with
  | none => exact h
  | some o =>
    cases o with
    | nx s' => exact hn s' rfl
    | rt d s' => exact fun v σ' H' F' m' oa' R g dv => hr _ _ (h v σ' H' F' m' oa' R g dv)
    | ro ds s' => exact fun p vs σ' H' F' m' oa' hb R g dv => hr _ _ (h p vs σ' H' F' m' oa' hb R g dv)
    | ex c p s' => exact h
section
variable {X : Cx} {C : Str → Option Addr} {W : WX} {G : Gx} {B F : Hp} {m : List Addr} {oa : Own → Addr} {σ : St} {H : Hp} {s : S}
variable {a b e tg iter : Expr} {es : List Expr} {st : Stmt} {sts sts2 : List Stmt} {pos p2 p : Pos} {f h : S → Option D} {fs : S → Option (List D)} {qf : S → Option (Bool × List D)} {g k : S → Option Out} {t : S → Option Bool} {vs : List Nat}
def sNil : S → Option Out := fun s => some (.nx s)
def sSeq (g k : S → Option Out) : S → Option Out := fun s => match g s with
  | some (.nx s') => k s'
  | o => o
theorem s_nil : PSsV X C W [] sNil := by
  refine ⟨PSs.weak pss_nil ?_, fun s s' e => by cases e; rfl⟩
  rintro D σ H ⟨B, F, m, oa, s, R, q⟩
  exact q σ H F m oa R (Gr.refl _ _ _)
theorem s_cons (h1 : PSV X C W st g) (h2 : PSsV X C W sts k) : PSsV X C W (st :: sts) (sSeq g k) := by
  refine ⟨PSs.weak (pss_cons h1.run h2.run) ?_, fun s s' e => ?_⟩
  · rintro D σ H ⟨B, F, m, oa, s, R, q⟩
    refine ⟨B, F, m, oa, s, R, ?_⟩
    unfold sSeq at q
    cases hg : g s with
    | none => rw [hg] at q; exact q
    | some o =>
      rw [hg] at q
      cases o with
      | nx s1 => exact fun σ' H' F' m' oa' R' gr => ⟨B, F', m', oa', s1, R', by rw [h1.al _ _ hg]; exact q.from gr⟩
      | rt d s1 => exact q
      | ro ds s1 => exact q
      | ex c p s1 => exact q
  · unfold sSeq at e
    cases hg : g s with
    | none => rw [hg] at e; cases e
    | some o =>
      rw [hg] at e
      cases o with
      | nx s1 => exact (h2.al _ _ e).trans (h1.al _ _ hg)
      | _ => cases e
theorem s_one (h1 : PSV X C W st g) : PSsV X C W [st] g := ⟨pss_one h1.run, h1.al⟩
theorem s_pass : PSV X C W (.Pass pos) sNil := by
  refine ⟨PS.weak ps_pass ?_, fun s s' e => by cases e; rfl⟩
  rintro D σ H ⟨B, F, m, oa, s, R, q⟩
  exact q σ H F m oa R (Gr.refl _ _ _)
def sExpr (f : S → Option D) : S → Option Out := fun s => (f s).map fun _ => .nx s
theorem al_map {α : Type} {f : S → Option α} {q : α → S → S} (h : ∀ a s, (q a s).al = s.al) : AlOk (fun s => (f s).map fun a => .nx (q a s)) := by
  intro s s' e
  obtain ⟨a, _, h2⟩ := Option.map_eq_some_iff.mp e
  cases h2
  exact h a s
theorem s_expr (he : PV X C e f) (hs : swapsWith e none pos.line X.env = pure false := by rfl) : PSV X C W (.Expr e pos) (sExpr f) := by
  refine ⟨PS.weak (ps_expr he hs) ?_, al_map (q := fun _ s => s) fun _ _ => rfl⟩
  rintro D σ H ⟨B, F, m, oa, s, R, q⟩
  unfold sExpr at q
  cases hf : f s with
  | none => rw [hf] at q; exact q.elim
  | some d =>
    rw [hf] at q
    exact ⟨B, F, m, oa, s, d, R, hf, fun v F' H' R' ff dv => q σ H' F' m oa R' (Gr.of _ _ ff)⟩
def sRet (f : S → Option D) : S → Option Out := fun s => (f s).map fun d => .rt d s
theorem s_ret (he : PV X C e f) : PSV X C W (.Return (some e) pos) (sRet f) := by
  refine ⟨PS.weak (ps_ret he) ?_, fun s s' e => ?_⟩
  · rintro D σ H ⟨B, F, m, oa, s, R, q⟩
    unfold sRet at q
    cases hf : f s with
    | none => rw [hf] at q; exact q.elim
    | some d =>
      rw [hf] at q
      exact ⟨B, F, m, oa, s, d, R, hf, fun v F' H' R' ff dv => q v σ H' F' m oa R' (Gr.of _ _ ff) dv⟩
  · obtain ⟨a, _, h2⟩ := Option.map_eq_some_iff.mp e
    cases h2
def sRetO (fs : S → Option (List D)) : S → Option Out := fun s => (fs s).map fun d => .ro d s
theorem s_retO (he : PN X C e fs) : PSV X C W (.Return (some e) pos) (sRetO fs) := by
  refine ⟨PS.weak (ps_ret he) ?_, fun s s' e => ?_⟩
  · rintro D σ H ⟨B, F, m, oa, s, R, q⟩
    unfold sRetO at q
    cases hf : fs s with
    | none => rw [hf] at q; exact q.elim
    | some d =>
      rw [hf] at q
      exact ⟨B, F, m, oa, s, d, R, hf, fun p vs F' H' hb R' ff dv => q p vs σ H' F' m oa hb R' (Gr.of _ _ ff) dv⟩
  · obtain ⟨a, _, h2⟩ := Option.map_eq_some_iff.mp e
    cases h2
def sRetN : S → Option Out := fun s => some (.rt .non s)
theorem s_retN : PSV X C W (.Return none pos) sRetN := by
  refine ⟨PS.weak ps_retN ?_, fun s s' e => by cases e⟩
  rintro D σ H ⟨B, F, m, oa, s, R, q⟩
  exact q .non σ H F m oa R (Gr.refl _ _ _) .non
def sSet (i : Nat) (f : S → Option D) : S → Option Out := fun s => (f s).map fun d => .nx (s.put i (.fr d))
theorem s_setG {te : TE} {i : Nat} (h1 : PS X st (tAsg te (gName i))) (he : ∀ σ H Q, tV (gx X C) f σ H Q → te σ H Q) : PSV X C W st (sSet i f) := by
  refine ⟨PS.weak h1 ?_, al_map (q := fun d s => s.put i (.fr d)) fun _ _ => rfl⟩
  rintro D σ H ⟨B, F, m, oa, s, R, q⟩
  unfold sSet at q
  cases hf : f s with
  | none => rw [hf] at q; exact q.elim
  | some d =>
    rw [hf] at q
    exact he _ _ _ ⟨B, F, m, oa, s, d, R, hf, fun v F' H' R' ff dv => q _ H' F' m oa (R'.put i dv) (Gr.of _ _ ff)⟩
def sSetO (i : Nat) (fs : S → Option (List D)) : S → Option Out := fun s => (fs s).map fun ds => .nx (s.put i (.ow ds))
theorem s_setGO {te : TE} {i : Nat} (h1 : PS X st (tAsg te (gName i))) (he : ∀ σ H Q, tN (gx X C) fs σ H Q → te σ H Q) : PSV X C W st (sSetO i fs) := by
  refine ⟨PS.weak h1 ?_, al_map (q := fun d s => s.put i (.ow d)) fun _ _ => rfl⟩
  rintro D σ H ⟨B, F, m, oa, s, R, q⟩
  unfold sSetO at q
  cases hf : fs s with
  | none => rw [hf] at q; exact q.elim
  | some d =>
    rw [hf] at q
    exact he _ _ _ ⟨B, F, m, oa, s, d, R, hf, fun p vs F' H' hb R' ff dv => q _ H' F' m _ (R'.putOwn hb i dv) (Gr.of _ _ ff)⟩
variable {N : List Str} {M Ms : List (Option Str)} {gs : List Str} {sc : Scope}
theorem s_set (Dx : DX X N M Ms gs sc) (i : Nat) {x : Str} {pos' : Pos} (he : PV X C e f) (hx : Ms[i]? = some (some x) := by rfl) (hs : swapsWith e (some (.Name x pos')) pos.line X.env = pure false := by rfl) : PSV X C W (.Assign [.Name x pos'] e pos) (sSet i f) :=
  let ⟨h1, h2, h3⟩ := Dx.l i x hx
  s_setG (ps_set Dx.nd h1 h2 he hs h3) fun _ _ _ h => h
theorem s_setO (Dx : DX X N M Ms gs sc) (i : Nat) {x : Str} {pos' : Pos} (he : PN X C e fs) (hx : Ms[i]? = some (some x) := by rfl) (hs : swapsWith e (some (.Name x pos')) pos.line X.env = pure false := by rfl) : PSV X C W (.Assign [.Name x pos'] e pos) (sSetO i fs) :=
  let ⟨h1, h2, h3⟩ := Dx.l i x hx
  s_setGO (ps_set Dx.nd h1 h2 he hs h3) fun _ _ _ h => h
/-- name = [..], name a local that is no name of the comprehension -/
theorem s_setLcG {i : Nat} {y : Str} {py spos : Pos} {elt : Expr} {ifs : List Expr} {scope : Scope} {own : List (Str × Nat)} {it : S → Option (List D)} {gg : D → S → Option S} (hc : X.calm = true) (hN : X.N.Nodup) (hy : X.N[i]? = some y) (hyl : X.env.scope.names.lookup y = some .local)
    (hsw : swapsWith (.ListComp elt [⟨tg, iter, ifs, 0⟩] scope pos) (some (.Name y py)) spos.line X.env = pure true) (hi : PIV X C tg iter it) (ok : BlkOk X.N X.env.scope scope own)
    (hg : ∀ (s : Shared) (H : Hp) (L : Addr) (cl : List (Str × Addr)) (fp : List Addr), PGV (X.blk s H scope (compEnvC scope cl L X.env) fp) C (own.map (·.2)) tg gg)
    (ht : ∀ (s : Shared) (H : Hp) (L : Addr) (cl : List (Str × Addr)) (fp : List Addr), PTs (X.blk s H scope (compEnvC scope cl L X.env) fp) ifs (tT (gx X C) t))
    (he : ∀ (s : Shared) (H : Hp) (L : Addr) (cl : List (Str × Addr)) (fp : List Addr), PV (X.blk s H scope (compEnvC scope cl L X.env) fp) C elt f) (hs : ∀ x, foldedSetIterable iter X.env x = pure x := by intro _; rfl) :
    PS X (.Assign [.Name y py] (.ListComp elt [⟨tg, iter, ifs, 0⟩] scope pos) spos) (tAsg (tN (gx X C) (nLc (own.map (·.2)) it gg t f)) (gName i)) :=
  ⟨fun pins s₀ σ H D I w => (ps_setLc hc hN hy hyl hsw hi ok (fun s H L cl fp => (hg s H L cl fp).run) ht he hs).run pins s₀ σ H D I (lc_weak (hg s₀ H 0 [] []).ok _ w)⟩
/-- a, b = e : a tuple's or a list's items -/
def sAsg (f : S → Option D) (g : D → S → Option S) : S → Option Out := fun s => (f s).bind fun d => (g d s).map .nx
theorem s_asg {gg : D → S → Option S} (he : PV X C e f) (hg : PGV X C vs tg gg) (hs : swapsWithSole [tg] e pos.line X.env = pure false := by rfl) (hw : swappedStores [tg] e X.env = pure none := by rfl)
    (h1 : (assignEach [tg] X.env).map (·.2) = [assign tg X.env] := by rfl) : PSV X C W (.Assign [tg] e pos) (sAsg f gg) := by
  refine ⟨PS.weak (ps_asg he hg.run hs hw h1) ?_, fun s s' e => ?_⟩
  · rintro D σ H ⟨B, F, m, oa, s, R, q⟩
    unfold sAsg at q
    cases hf : f s with
    | none => rw [hf] at q; exact q.elim
    | some d =>
      rw [hf] at q
      cases hgd : gg d s with
      | none => rw [Option.bind_some, hgd] at q; exact q.elim
      | some s1 =>
        rw [Option.bind_some, hgd] at q
        exact ⟨B, F, m, oa, s, d, R, hf, fun v F' H' R' ff dv => ⟨B, F', m, oa, s, d, s1, R', dv, hgd, fun σ' R2 _ => q σ' H' F' m oa R2 (Gr.of _ _ ff)⟩⟩
  · obtain ⟨d, _, h2⟩ := Option.bind_eq_some_iff.mp e
    obtain ⟨s1, h3, h4⟩ := Option.map_eq_some_iff.mp h2
    cases h4
    exact (hg.ok _ _ _ h3).2.1
/-- x, y = a, b with plain locals -/
def sPar (i j : Nat) (f h : S → Option D) : S → Option Out := fun s => (f s).bind fun d => (h s).map fun d' => .nx ((s.put i (.fr d)).put j (.fr d'))
theorem swap2 {x y : Str} {px py pt pt2 : Pos} {kt k2 : Nat} {env : Env} (hb : env.blockKind = .function) (hx : env.kindOf x = some .local) (hy : env.kindOf y = some .local) (hl : (py.line == px.line) = true) (hne : (x == y) = false)
    (h1 : ([a, b].any fun | .Starred .. => true | _ => false) = false) (h2 : [a, b].all (foldedForSure 8) = false) (h3 : [a, b].all (constantsAlone 8) = false) :
    swappedStores [.Tuple [.Name x px, .Name y py] kt pt] (.Tuple [a, b] k2 pt2) env = pure (some [x, y]) := by
  have hne' : (y == x) = false := by
    rw [beq_eq_false_iff_ne] at hne ⊢
    exact fun z => hne z.symm
  have hl' : py.line = px.line := by simpa using hl
  unfold swappedStores
  simp only [List.any_cons, List.any_nil, Bool.or_false, Bool.or_eq_false_iff] at h1
  obtain ⟨g1, g2⟩ := h1
  simp [g1, g2, hb, hx, hy, hl', h2, h3, Expr.pos, List.eraseDups, List.eraseDupsBy, List.eraseDupsBy.loop, hne, hne']
  rintro (hh | hh)
  · exact absurd (hh.symm.trans g1) (by decide)
  · exact absurd (hh.symm.trans g2) (by decide)
theorem s_par (Dx : DX X N M Ms gs sc) (hsc : X.env.scope = sc) (i j : Nat) {x y : Str} {px py pt pt2 : Pos} {kt k2 : Nat} (ha : PV X C a f) (hb : PV X C b h) (hij : i ≠ j) (hl : (sc.names.lookup x == some .local && sc.names.lookup y == some .local && py.line == px.line && !(x == y)) = true)
    (h1 : ([a, b].any fun | .Starred .. => true | _ => false) = false := by rfl) (h2 : [a, b].all (foldedForSure 8) = false := by rfl) (h3 : [a, b].all (constantsAlone 8) = false := by rfl)
    (hx : Ms[i]? = some (some x) := by rfl) (hy : Ms[j]? = some (some y) := by rfl)
    (hs0 : starEach [a, b] X.env = (false, eval a X.env) :: starEach [b] X.env := by rfl) (hs1 : starEach [b] X.env = (false, eval b X.env) :: starEach [] X.env := by rfl)
    (hs : swapsWithSole [.Tuple [.Name x px, .Name y py] kt pt] (.Tuple [a, b] k2 pt2) pos.line X.env = pure false := by rfl) :
    PSV X C W (.Assign [.Tuple [.Name x px, .Name y py] kt pt] (.Tuple [a, b] k2 pt2) pos) (sPar i j f h) := by
  simp only [Bool.and_eq_true, beq_iff_eq, Bool.not_eq_true'] at hl
  obtain ⟨⟨⟨l1, l2⟩, l3⟩, l4⟩ := hl
  have lx : X.env.scope.names.lookup x = some .local := by rw [hsc]; exact l1
  have ly : X.env.scope.names.lookup y = some .local := by rw [hsc]; exact l2
  have hbk : X.env.blockKind = .function := by unfold Env.blockKind; rw [Dx.kind]; rfl
  have hw := swap2 (a := a) (b := b) (pt := pt) (pt2 := pt2) (kt := kt) (k2 := k2) (env := X.env) hbk lx ly (by simpa using l3) l4 h1 h2 h3
  refine ⟨PS.weak (ps_par Dx.calm Dx.nd (Dx.l i x hx).1 (Dx.l j y hy).1 hij lx ly (pa_cons ha (pa_cons hb pa_nil hs1) hs0) hw hs) ?_, fun s s' e => ?_⟩
  · rintro D σ H ⟨B, F, m, oa, s, R, q⟩
    unfold sPar at q
    cases hf : f s with
    | none => rw [hf] at q; exact q.elim
    | some d =>
      rw [hf] at q
      cases hh : h s with
      | none => rw [Option.bind_some, hh] at q; exact q.elim
      | some d' =>
        rw [Option.bind_some, hh] at q
        exact ⟨B, F, m, oa, s, d, R, hf, fun v F1 H1 R1 f1 dv => ⟨B, F1, m, oa, s, d', R1, hh, fun u F2 H2 R2 f2 du => ⟨v, u, rfl, q _ H2 F2 m oa ((R2.put i (dv.mono f2 (Pre.refl _))).put j du) (Gr.of _ _ (f1.trans f2))⟩⟩⟩
  · obtain ⟨d, _, h2⟩ := Option.bind_eq_some_iff.mp e
    obtain ⟨s1, h3, h4⟩ := Option.map_eq_some_iff.mp h2
    cases h4
    rfl
/-- name = [..] on one line: the name a plain local, or one that another block has captured -/
theorem lc_asg (Dx : DX X N M Ms gs sc) (hsc : X.env.scope = sc) (i : Nat) {y : Str} {py spos : Pos} {elt : Expr} {ifs : List Expr} {scope : Scope} {own : List (Str × Nat)} {it : S → Option (List D)} {gg : D → S → Option S} (hi : PIV X C tg iter it) (ok : BlkOk X.N X.env.scope scope own)
    (hg : ∀ (s : Shared) (H : Hp) (L : Addr) (cl : List (Str × Addr)) (fp : List Addr), PGV (X.blk s H scope (compEnvC scope cl L X.env) fp) C (own.map (·.2)) tg gg)
    (ht : ∀ (s : Shared) (H : Hp) (L : Addr) (cl : List (Str × Addr)) (fp : List Addr), PTs (X.blk s H scope (compEnvC scope cl L X.env) fp) ifs (tT (gx X C) t))
    (he : ∀ (s : Shared) (H : Hp) (L : Addr) (cl : List (Str × Addr)) (fp : List Addr), PV (X.blk s H scope (compEnvC scope cl L X.env) fp) C elt f)
    (hl : (((sc.names.lookup y == some .local && py.line == pos.line && !(scope.names.any fun (n, k) => n == y && (k == .local || k == .cell))) || sc.names.lookup y == some .cell)) = true)
    (hx : Ms[i]? = some (some y) := by rfl) (hs : ∀ x, foldedSetIterable iter X.env x = pure x := by intro _; rfl) :
    PS X (.Assign [.Name y py] (.ListComp elt [⟨tg, iter, ifs, 0⟩] scope pos) spos) (tAsg (tN (gx X C) (nLc (own.map (·.2)) it gg t f)) (gName i)) := by
  obtain ⟨w1, w2, w3⟩ := Dx.l i y hx
  rw [Bool.or_eq_true] at hl
  rcases hl with hl | hl
  · simp only [Bool.and_eq_true, beq_iff_eq, Bool.not_eq_true'] at hl
    have ly : X.env.scope.names.lookup y = some .local := by rw [hsc]; exact hl.1.1
    exact s_setLcG Dx.calm Dx.nd w1 ly (sw_true Dx.kind ly (by simp [hl.1.2]) hl.2) hi ok hg ht he hs
  · rw [beq_iff_eq] at hl
    have ly : X.env.kindOf y = some .cell := by show X.env.scope.names.lookup y = _; rw [hsc]; exact hl
    refine ps_set Dx.nd w1 w2 (n_lc Dx.calm Dx.nd hi ok hg ht he hs) ?_ w3
    unfold swapsWith
    simp [ly, show (NameKind.cell == NameKind.local) = false from rfl]
theorem s_lcO (Dx : DX X N M Ms gs sc) (hsc : X.env.scope = sc) (i : Nat) {y : Str} {py spos : Pos} {elt : Expr} {ifs : List Expr} {scope : Scope} {own : List (Str × Nat)} {it : S → Option (List D)} {gg : D → S → Option S} (hi : PIV X C tg iter it) (ok : BlkOk X.N X.env.scope scope own)
    (hg : ∀ (s : Shared) (H : Hp) (L : Addr) (cl : List (Str × Addr)) (fp : List Addr), PGV (X.blk s H scope (compEnvC scope cl L X.env) fp) C (own.map (·.2)) tg gg)
    (ht : ∀ (s : Shared) (H : Hp) (L : Addr) (cl : List (Str × Addr)) (fp : List Addr), PTs (X.blk s H scope (compEnvC scope cl L X.env) fp) ifs (tT (gx X C) t))
    (he : ∀ (s : Shared) (H : Hp) (L : Addr) (cl : List (Str × Addr)) (fp : List Addr), PV (X.blk s H scope (compEnvC scope cl L X.env) fp) C elt f)
    (hl : (((sc.names.lookup y == some .local && py.line == pos.line && !(scope.names.any fun (n, k) => n == y && (k == .local || k == .cell))) || sc.names.lookup y == some .cell)) = true)
    (hx : Ms[i]? = some (some y) := by rfl) (hs : ∀ x, foldedSetIterable iter X.env x = pure x := by intro _; rfl) :
    PSV X C W (.Assign [.Name y py] (.ListComp elt [⟨tg, iter, ifs, 0⟩] scope pos) spos) (sSetO i (nLc (own.map (·.2)) it gg t f)) :=
  s_setGO (lc_asg Dx hsc i hi ok hg ht he hl hx hs) fun _ _ _ h => h
theorem s_lc (Dx : DX X N M Ms gs sc) (hsc : X.env.scope = sc) (i : Nat) {y : Str} {py spos : Pos} {elt : Expr} {ifs : List Expr} {scope : Scope} {own : List (Str × Nat)} {it : S → Option (List D)} {gg : D → S → Option S} (hi : PIV X C tg iter it) (ok : BlkOk X.N X.env.scope scope own)
    (hg : ∀ (s : Shared) (H : Hp) (L : Addr) (cl : List (Str × Addr)) (fp : List Addr), PGV (X.blk s H scope (compEnvC scope cl L X.env) fp) C (own.map (·.2)) tg gg)
    (ht : ∀ (s : Shared) (H : Hp) (L : Addr) (cl : List (Str × Addr)) (fp : List Addr), PTs (X.blk s H scope (compEnvC scope cl L X.env) fp) ifs (tT (gx X C) t))
    (he : ∀ (s : Shared) (H : Hp) (L : Addr) (cl : List (Str × Addr)) (fp : List Addr), PV (X.blk s H scope (compEnvC scope cl L X.env) fp) C elt f)
    (hl : (((sc.names.lookup y == some .local && py.line == pos.line && !(scope.names.any fun (n, k) => n == y && (k == .local || k == .cell))) || sc.names.lookup y == some .cell)) = true)
    (hx : Ms[i]? = some (some y) := by rfl) (hs : ∀ x, foldedSetIterable iter X.env x = pure x := by intro _; rfl) :
    PSV X C W (.Assign [.Name y py] (.ListComp elt [⟨tg, iter, ifs, 0⟩] scope pos) spos) (sSet i (vN (nLc (own.map (·.2)) it gg t f))) :=
  s_setG (lc_asg Dx hsc i hi ok hg ht he hl hx hs) fun _ _ _ h => n_weak h
structure LcX (X : Cx) (C : Str → Option Addr) (scope : Scope) (own : List (Str × Nat)) (tg iter : Expr) (ifs : List Expr) (elt : Expr) (it : S → Option (List VS.D)) (gg : VS.D → S → Option S) (t : S → Option Bool) (f : S → Option VS.D) : Prop where
  hi : PIV X C tg iter it
  ok : BlkOk X.N X.env.scope scope own
  hg : ∀ (s : Shared) (H : Hp) (L : Addr) (cl : List (Str × Addr)) (fp : List Addr), PGV (X.blk s H scope (compEnvC scope cl L X.env) fp) C (own.map (·.2)) tg gg
  ht : ∀ (s : Shared) (H : Hp) (L : Addr) (cl : List (Str × Addr)) (fp : List Addr), PTs (X.blk s H scope (compEnvC scope cl L X.env) fp) ifs (tT (gx X C) t)
  he : ∀ (s : Shared) (H : Hp) (L : Addr) (cl : List (Str × Addr)) (fp : List Addr), PV (X.blk s H scope (compEnvC scope cl L X.env) fp) C elt f
theorem lcx (Dx : DX X N M Ms gs sc) (own : List (Str × Nat)) (M' Ms' : List (Option Str)) (gs' : List Str) {scope : Scope} {ifs : List Expr} {elt : Expr} {it : S → Option (List D)} {gg : D → S → Option S} {t : S → Option Bool} {f : S → Option D} (hi : PIV X C tg iter it) (hk : scope.kind = .function) (h1 : chkN N M' gs' scope = true) (h2 : chkS N Ms' scope = true) (h3 : blkC N sc scope own = true)
    (hg : ∀ (s : Shared) (H : Hp) (L : Addr) (cl : List (Str × Addr)) (fp : List Addr), DX (X.blk s H scope (compEnvC scope cl L X.env) fp) N M' Ms' gs' scope → PGV (X.blk s H scope (compEnvC scope cl L X.env) fp) C (own.map (·.2)) tg gg)
    (ht : ∀ (s : Shared) (H : Hp) (L : Addr) (cl : List (Str × Addr)) (fp : List Addr), DX (X.blk s H scope (compEnvC scope cl L X.env) fp) N M' Ms' gs' scope → PTs (X.blk s H scope (compEnvC scope cl L X.env) fp) ifs (tT (gx X C) t))
    (he : ∀ (s : Shared) (H : Hp) (L : Addr) (cl : List (Str × Addr)) (fp : List Addr), DX (X.blk s H scope (compEnvC scope cl L X.env) fp) N M' Ms' gs' scope → PV (X.blk s H scope (compEnvC scope cl L X.env) fp) C elt f) :
    LcX X C scope own tg iter ifs elt it gg t f :=
  ⟨hi, Dx.blkOk h3, fun s H L cl fp => hg s H L cl fp (Dx.blk s H L cl fp hk h1 h2), fun s H L cl fp => ht s H L cl fp (Dx.blk s H L cl fp hk h1 h2), fun s H L cl fp => he s H L cl fp (Dx.blk s H L cl fp hk h1 h2)⟩
theorem x_lc (Dx : DX X N M Ms gs sc) {scope : Scope} {own : List (Str × Nat)} {ifs : List Expr} {elt : Expr} {it : S → Option (List D)} {gg : D → S → Option S} {t : S → Option Bool} {f : S → Option D} (h : LcX X C scope own tg iter ifs elt it gg t f) (hs : ∀ x, foldedSetIterable iter X.env x = pure x := by intro _; rfl) :
    PN X C (.ListComp elt [⟨tg, iter, ifs, 0⟩] scope pos) (nLc (own.map (·.2)) it gg t f) := n_lc Dx.calm Dx.nd h.hi h.ok h.hg h.ht h.he hs
theorem xs_lcO (Dx : DX X N M Ms gs sc) (hsc : X.env.scope = sc) (i : Nat) {y : Str} {py spos : Pos} {scope : Scope} {own : List (Str × Nat)} {ifs : List Expr} {elt : Expr} {it : S → Option (List D)} {gg : D → S → Option S} {t : S → Option Bool} {f : S → Option D} (h : LcX X C scope own tg iter ifs elt it gg t f) (hl : (((sc.names.lookup y == some .local && py.line == pos.line && !(scope.names.any fun (n, k) => n == y && (k == .local || k == .cell))) || sc.names.lookup y == some .cell)) = true) (hx : Ms[i]? = some (some y) := by rfl) (hs : ∀ x, foldedSetIterable iter X.env x = pure x := by intro _; rfl) :
    PSV X C W (.Assign [.Name y py] (.ListComp elt [⟨tg, iter, ifs, 0⟩] scope pos) spos) (sSetO i (nLc (own.map (·.2)) it gg t f)) := s_lcO Dx hsc i h.hi h.ok h.hg h.ht h.he hl hx hs
theorem xs_lc (Dx : DX X N M Ms gs sc) (hsc : X.env.scope = sc) (i : Nat) {y : Str} {py spos : Pos} {scope : Scope} {own : List (Str × Nat)} {ifs : List Expr} {elt : Expr} {it : S → Option (List D)} {gg : D → S → Option S} {t : S → Option Bool} {f : S → Option D} (h : LcX X C scope own tg iter ifs elt it gg t f) (hl : (((sc.names.lookup y == some .local && py.line == pos.line && !(scope.names.any fun (n, k) => n == y && (k == .local || k == .cell))) || sc.names.lookup y == some .cell)) = true) (hx : Ms[i]? = some (some y) := by rfl) (hs : ∀ x, foldedSetIterable iter X.env x = pure x := by intro _; rfl) :
    PSV X C W (.Assign [.Name y py] (.ListComp elt [⟨tg, iter, ifs, 0⟩] scope pos) spos) (sSet i (vN (nLc (own.map (·.2)) it gg t f))) := s_lc Dx hsc i h.hi h.ok h.hg h.ht h.he hl hx hs
def sIf (t : S → Option Bool) (g k : S → Option Out) : S → Option Out := fun s => (t s).bind fun c => if c = true then g s else k s
theorem s_if {c : Expr} (hc : PTV X C c t) (h1 : PSsV X C W sts g) (h2 : PSsV X C W sts2 k) : PSV X C W (.If c sts sts2 pos) (sIf t g k) := by
  refine ⟨PS.weak (ps_if hc h1.run h2.run) ?_, fun s s' e => ?_⟩
  · rintro D σ H ⟨B, F, m, oa, s, R, q⟩
    unfold sIf at q
    cases ht : t s with
    | none => rw [ht] at q; exact q.elim
    | some b =>
      rw [ht, Option.bind_some] at q
      refine ⟨B, F, m, oa, s, b, R, ht, fun F' H' R' ff => ?_⟩
      cases b with
      | true =>
        rw [if_pos rfl] at q ⊢
        exact ⟨B, F', m, oa, s, R', q.from (Gr.of _ _ ff)⟩
      | false =>
        rw [if_neg Bool.false_ne_true] at q ⊢
        exact ⟨B, F', m, oa, s, R', q.from (Gr.of _ _ ff)⟩
  · obtain ⟨b, _, h3⟩ := Option.bind_eq_some_iff.mp e
    cases b with
    | true => rw [if_pos rfl] at h3; exact h1.al _ _ h3
    | false => rw [if_neg Bool.false_ne_true] at h3; exact h2.al _ _ h3
/-- a slot's own list is frozen first -/
def S.frz (s : S) (i : Nat) : Option S := match s.r[i]? with
  | some (.ow ds) => some (s.put i (.fr (.lst ds)))
  | _ => none
def sFrz (i : Nat) (g : S → Option Out) : S → Option Out := fun s => (s.frz i).bind g
theorem frz_al {s s1 : S} {i : Nat} (h : s.frz i = some s1) : s1.al = s.al := by
  unfold S.frz at h
  split at h <;> cases h
  rfl
theorem frz_weak {i : Nat} (D : Ends) (w : tSt G W (sFrz i g) D σ H) : tSt G W g D σ H := by
  obtain ⟨B, F, m, oa, s, R, q⟩ := w
  unfold sFrz at q
  cases hs : s.frz i with
  | none => rw [hs] at q; exact q.elim
  | some s1 =>
    rw [hs, Option.bind_some] at q
    have ha := frz_al hs
    unfold S.frz at hs
    split at hs
    · rename_i ds e
      cases hs
      obtain ⟨us, _, _, hf, R2⟩ := R.frz e
      exact ⟨B, _, m, oa, _, R2, by rw [ha]; exact q.from (Gr.of _ _ (same_upd hf))⟩
    · cases hs
theorem s_frz (i : Nat) (h1 : PSV X C W st g) : PSV X C W st (sFrz i g) := by
  refine ⟨PS.weak h1.run fun D σ H w => frz_weak D w, fun s s' e => ?_⟩
  obtain ⟨s1, h2, h3⟩ := Option.bind_eq_some_iff.mp e
  exact (h1.al _ _ h3).trans (frz_al h2)
theorem s_frzs (i : Nat) (h1 : PSsV X C W sts g) : PSsV X C W sts (sFrz i g) := by
  refine ⟨PSs.weak h1.run fun D σ H w => frz_weak D w, fun s s' e => ?_⟩
  obtain ⟨s1, h2, h3⟩ := Option.bind_eq_some_iff.mp e
  exact (h1.al _ _ h3).trans (frz_al h2)
/-! #### a slot's own list, changed -/
def S.own (s : S) (i : Nat) : Option (List D) := match s.r[i]? with
  | some (.ow ds) => some ds
  | _ => none
theorem own_get {i : Nat} {ds : List D} (h : s.own i = some ds) : s.r[i]? = some (.ow ds) := by
  unfold S.own at h
  split at h
  · cases h; assumption
  · cases h
def sApp (i : Nat) (f : S → Option D) : S → Option Out := fun s => (f s).bind fun d => (s.own i).bind fun ds => if ds.length < 1000000 then some (.nx (s.put i (.ow (ds ++ [d])))) else none
theorem own_cell (R : Rel G B F m oa σ H s) {i : Nat} {ds : List D} (h : s.own i = some ds) : ∃ us, σ[i]? = some (some (.ref (oa (.inl i)))) ∧ H (oa (.inl i)) = some (.lst us) ∧ DatL G m F us ds := by
  have e := own_get h
  have ho : ownAt s (.inl i) = some ds := by show slO s.r[i]? = some ds; rw [e]; rfl
  obtain ⟨h1, h2, us, h3, h4⟩ := R.cell _ _ ho
  exact ⟨us, R.slot i _ e, h3, h4⟩
/-- x.append(e), x a slot's own list -/
theorem s_app (Dx : DX X N M Ms gs sc) (i : Nat) {x : Str} {px apos cpos : Pos} (he : PV X C e f) (hx : M[i]? = some (some x) := by rfl) (hline : (apos.endLine == cpos.line) = true := by rfl) (hs0 : starEach [e] X.env = (false, eval e X.env) :: starEach [] X.env := by rfl)
    (hfew : ((backTo cpos (starEach [e] X.env)).all (fun x => !x.1) && (backToKw cpos (keywordEach [] X.env)).all (fun x => x.1.isSome) && decide ([e].length + ([] : List Keyword).length + (if ([] : List Keyword).isEmpty then 0 else 1) < 30)) = true := by rfl)
    (hb : attributeBase (.Name x px) "append" X.env (eval (.Name x px) X.env) = eval (.Name x px) X.env := by rfl) (hsw : swapsWith (.Call (.Attribute (.Name x px) "append" apos) [e] [] cpos) none pos.line X.env = pure false := by rfl) :
    PSV X C W (.Expr (.Call (.Attribute (.Name x px) "append" apos) [e] [] cpos) pos) (sApp i f) := by
  obtain ⟨n1, n2, n3, n4⟩ := Dx.v i x hx
  refine ⟨PS.weak (ps_expr (pe_bm PySem.F.plainAttrs_list PySem.F.slot_list_append PySem.F.type_list_append mt_append (pe_var n1 n2 n3 n4) (pa_cons he pa_nil hs0) hb hfew hline hs0 rfl) hsw) ?_, fun s s' e => ?_⟩
  · rintro D σ H ⟨B, F, m, oa, s, R, q⟩
    unfold sApp at q
    cases hf : f s with
    | none => rw [hf] at q; exact q.elim
    | some d =>
      rw [hf, Option.bind_some] at q
      cases ho : s.own i with
      | none => rw [ho] at q; exact q.elim
      | some ds =>
        rw [ho, Option.bind_some] at q
        split at q
        · rename_i hl
          obtain ⟨us, e1, e2, e3⟩ := own_cell R ho
          refine ⟨_, e1, Or.inl ⟨rfl, us, SqL.of e2⟩, B, F, m, oa, s, d, R, hf, fun v F' H' R' ff dv => ?_⟩
          obtain ⟨us', e1', e2', e3'⟩ := own_cell R' ho
          exact ⟨_, us', v, rfl, rfl, e2', by rw [e3'.length, szl]; omega, q _ _ F' m oa (R'.setOwn (own_get ho) (e3'.append (.cons dv .nil))) (Gr.of _ _ ff)⟩
        · exact q.elim
  · obtain ⟨d, _, h2⟩ := Option.bind_eq_some_iff.mp e
    obtain ⟨ds, _, h4⟩ := Option.bind_eq_some_iff.mp h2
    split at h4
    · cases h4; rfl
    · cases h4
/-! #### loops -/
def forGo (k : D → S → Option Out) : List D → S → Option Out
  | [], s => some (.nx s)
  | d :: ds, s => match k d s with
    | some (.nx s') => forGo k ds s'
    | o => o
def forK (gg : D → S → Option S) (g : S → Option Out) : D → S → Option Out := fun d s => (gg d s).bind g
def sFor (it : S → Option (List D)) (gg : D → S → Option S) (g : S → Option Out) : S → Option Out := fun s => (it s).bind fun ds => forGo (forK gg g) ds s
theorem forGo_al {k : D → S → Option Out} (hk : ∀ d s s', k d s = some (.nx s') → s'.al = s.al) : ∀ (ds : List D) (s s' : S), forGo k ds s = some (.nx s') → s'.al = s.al
  | [], s, s', h => by cases h; rfl
  | d :: ds, s, s', h => by
    rw [forGo] at h
    cases hd : k d s with
    | none => rw [hd] at h; cases h
    | some o =>
      rw [hd] at h
      cases o with
      | nx s1 => exact (forGo_al hk ds s1 s' h).trans (hk d s s1 hd)
      | _ => cases h
variable {it : S → Option (List D)} {gg : D → S → Option S}
theorem s_for (hp : PassesOwn (model X.prog X.w) X.A X.env X.xe) (hc : X.calm = true) (hi : PIV X C tg iter it) (hg : PGV X C vs tg gg) (hb : PSsV X C W sts g) (hs : ∀ x, foldedSetIterable iter X.env x = pure x := by intro _; rfl) : PSV X C W (.For tg iter sts [] pos) (sFor it gg g) := by
  have hk : ∀ d s s', forK gg g d s = some (.nx s') → s'.al = s.al := fun d s s' e => by
    obtain ⟨s1, h1, h2⟩ := Option.bind_eq_some_iff.mp e
    exact (hb.al _ _ h2).trans (hg.ok _ _ _ h1).2.1
  refine ⟨PS.weak (ps_for hp hc hi hg.run hb.run hs) ?_, fun s s' e => ?_⟩
  · rintro D σ H ⟨B, F, m, oa, s, R, q⟩
    unfold sFor at q
    cases hit : it s with
    | none => rw [hit] at q; exact q.elim
    | some ds =>
      rw [hit, Option.bind_some] at q
      refine ⟨B, F, m, oa, s, ds, R, hit, fun J F1 H1 R1 e1 ok => ?_⟩
      refine ⟨fun i mm σ H => mm = ds.length - i ∧ i ≤ ds.length ∧ ∃ F' m' oa' s', Rel (gx X C) B F' m' oa' σ H s' ∧ Gr F1 F' m m' s.al ∧ s'.al = s.al ∧ forGo (forK gg g) (ds.drop i) s' = forGo (forK gg g) ds s,
        ⟨ds.length, by simp, Nat.zero_le _, F1, m, oa, s, R1, Gr.refl _ _ _, rfl, rfl⟩, ?_⟩
      rintro i mm σ2 H2 ⟨rfl, hi, F', m', oa', s', R2, gr, ha, he⟩
      by_cases hlt : i < ds.length
      · have hd : ds[i]? = some ds[i] := List.getElem?_eq_getElem hlt
        obtain ⟨hgo, hy⟩ := ok.go gr.1 R2.fh i _ hd
        rw [List.drop_eq_getElem_cons hlt, forGo] at he
        refine Or.inr ⟨hgo, fun σ' H' => i + 1 ≤ ds.length ∧ ∃ F' m' oa' s', Rel (gx X C) B F' m' oa' σ' H' s' ∧ Gr F1 F' m m' s.al ∧ s'.al = s.al ∧ forGo (forK gg g) (ds.drop (i + 1)) s' = forGo (forK gg g) ds s,
          fun σ' H' ⟨w1, w2⟩ => ⟨ds.length - (i + 1), by omega, rfl, w1, w2⟩, fun x H3 yl => ?_⟩
        have step : ∃ F3, Rel (gx X C) B F3 m' oa' σ2 H3 s' ∧ Same F' F3 ∧ Dat (gx X C) m F3 x ds[i] := by
          rcases hy x H3 yl with ⟨rfl, dx⟩ | ⟨T, o, hT, rfl, dx⟩
          · exact ⟨F', R2, Same.refl _, dx⟩
          · have ff := same_upd (o := o) (R2.fresh hT).1
            exact ⟨upd F' T o, R2.new hT o, ff, dx _ ff upd_same⟩
        obtain ⟨F3, R3, e3, dx⟩ := step
        have grT := gr.trans (Gr.of (F := F') (F' := F3) m' s.al e3)
        cases hgd : gg ds[i] s' with
        | none =>
          have hk0 : forK gg g ds[i] s' = none := by unfold forK; rw [hgd]; rfl
          rw [hk0] at he
          dsimp only at he
          rw [← he] at q
          exact q.elim
        | some s1 =>
          have hkd : forK gg g ds[i] s' = g s1 := by unfold forK; rw [hgd]; rfl
          rw [hkd] at he
          refine ⟨B, F3, m', oa', s', ds[i], s1, R3, dx.mono (Same.refl _) gr.2.1, hgd, fun σ4 R4 _ => ⟨B, F3, m', oa', s1, R4, ?_⟩⟩
          have ha1 : s1.al = s.al := (hg.ok _ _ _ hgd).2.1.trans ha
          rw [ha1]
          cases hgs : g s1 with
          | none => rw [hgs] at he; dsimp only at he; rw [← he] at q; exact q.elim
          | some o =>
            rw [hgs] at he
            have q' := q.from ((Gr.of (F := F) (F' := F1) m s.al e1).trans grT)
            cases o with
            | nx s2 =>
              dsimp only at he
              exact fun σ5 H5 F5 m5 oa5 R5 g5 => ⟨hlt, F5, m5, oa5, s2, R5, grT.trans g5, (hb.al _ _ hgs).trans ha1, he⟩
            | rt d s2 => dsimp only at he; rw [← he] at q'; exact q'
            | ro d s2 => dsimp only at he; rw [← he] at q'; exact q'
            | ex c p s2 => dsimp only at he; rw [← he] at q'; exact q'
      · have ei : i = ds.length := by omega
        subst ei
        rw [List.drop_length, forGo] at he
        rw [← he] at q
        exact Or.inl ⟨ok.stop gr.1 R2.fh, q σ2 H2 F' m' oa' R2 ((Gr.of (F := F) (F' := F1) m s.al e1).trans gr)⟩
  · obtain ⟨ds, _, h2⟩ := Option.bind_eq_some_iff.mp e
    exact forGo_al hk ds s s' h2
def whGo (t : S → Option Bool) (g : S → Option Out) : Nat → S → Option Out
  | 0, _ => none
  | n + 1, s => match t s with
    | some true => (match g s with
      | some (.nx s') => whGo t g n s'
      | o => o)
    | some false => some (.nx s)
    | none => none
theorem whGo_succ {t : S → Option Bool} {g : S → Option Out} : ∀ (n : Nat) (s : S) (o : Out), whGo t g n s = some o → whGo t g (n + 1) s = some o
  | 0, _, _, h => by cases h
  | n + 1, s, o, h => by
    rw [whGo] at h ⊢
    cases ht : t s with
    | none => rw [ht] at h; cases h
    | some b =>
      rw [ht] at h
      cases b with
      | false => exact h
      | true =>
        dsimp only at h ⊢
        cases hg : g s with
        | none => rw [hg] at h; cases h
        | some o' =>
          rw [hg] at h
          cases o' with
          | nx s' => exact whGo_succ n s' o h
          | _ => exact h
theorem whGo_le {t : S → Option Bool} {g : S → Option Out} {n k : Nat} {s : S} {o : Out} (h : whGo t g n s = some o) (hk : n ≤ k) : whGo t g k s = some o := by
  induction k with
  | zero => cases Nat.le_zero.mp hk; exact h
  | succ k ih =>
    by_cases e : n = k + 1
    · subst e; exact h
    · exact whGo_succ k s o (ih (by omega))
open Classical in
noncomputable def sWhile (t : S → Option Bool) (g : S → Option Out) : S → Option Out := fun s => if h : ∃ n o, whGo t g n s = some o then whGo t g h.choose s else none
theorem sWhile_of {t : S → Option Bool} {g : S → Option Out} {n : Nat} {s : S} {o : Out} (h : whGo t g n s = some o) : sWhile t g s = some o := by
  have hx : ∃ n o, whGo t g n s = some o := ⟨n, o, h⟩
  unfold sWhile
  rw [dif_pos hx]
  obtain ⟨o', ho'⟩ := hx.choose_spec
  have h1 := whGo_le ho' (Nat.le_max_left _ n)
  have h2 := whGo_le h (Nat.le_max_right hx.choose _)
  rw [h1] at h2
  rw [ho', h2]
theorem sWhile_is {t : S → Option Bool} {g : S → Option Out} {s : S} {o : Out} (h : sWhile t g s = some o) : ∃ n, whGo t g n s = some o := by
  unfold sWhile at h
  split at h
  · exact ⟨_, h⟩
  · cases h
theorem whGo_al {t : S → Option Bool} {g : S → Option Out} (hg : AlOk g) : ∀ (n : Nat) (s s' : S), whGo t g n s = some (.nx s') → s'.al = s.al
  | 0, _, _, h => by cases h
  | n + 1, s, s', h => by
    rw [whGo] at h
    cases ht : t s with
    | none => rw [ht] at h; cases h
    | some b =>
      rw [ht] at h
      cases b with
      | false => cases h; rfl
      | true =>
        dsimp only at h
        cases hgs : g s with
        | none => rw [hgs] at h; cases h
        | some o' =>
          rw [hgs] at h
          cases o' with
          | nx s1 => exact (whGo_al hg n s1 s' h).trans (hg _ _ hgs)
          | _ => cases h
theorem s_while {c : Expr} (hp : PassesOwn (model X.prog X.w) X.A X.env X.xe) (hc : PTV X C c t) (hb : PSsV X C W sts g) : PSV X C W (.While c sts [] pos) (sWhile t g) := by
  refine ⟨PS.weak (ps_while hp hc hb.run) ?_, fun s s' e => ?_⟩
  · rintro D σ H ⟨B, F, m, oa, s, R, q⟩
    cases hw : sWhile t g s with
    | none => rw [hw] at q; exact q.elim
    | some o =>
      rw [hw] at q
      obtain ⟨n, hn⟩ := sWhile_is hw
      refine ⟨fun n σ H => ∃ F' m' oa' s', Rel (gx X C) B F' m' oa' σ H s' ∧ Gr F F' m m' s.al ∧ s'.al = s.al ∧ whGo t g n s' = some o, ⟨n, F, m, oa, s, R, Gr.refl _ _ _, rfl, hn⟩, ?_⟩
      rintro n σ2 H2 ⟨F', m', oa', s', R2, gr, ha, he⟩
      cases n with
      | zero => cases he
      | succ n =>
        rw [whGo] at he
        cases ht : t s' with
        | none => rw [ht] at he; cases he
        | some b =>
          rw [ht] at he
          refine ⟨B, F', m', oa', s', b, R2, ht, fun F3 H3 R3 f3 => ?_⟩
          have grT := gr.trans (Gr.of (F := F') (F' := F3) m' s.al f3)
          cases b with
          | false =>
            cases he
            exact iteF (q σ2 H3 F3 m' oa' R3 grT)
          | true =>
            dsimp only at he
            refine iteT ⟨fun σ' H' => ∃ F' m' oa' s', Rel (gx X C) B F' m' oa' σ' H' s' ∧ Gr F F' m m' s.al ∧ s'.al = s.al ∧ whGo t g n s' = some o, fun σ' H' w => ⟨n, Nat.lt_succ_self _, w⟩, B, F3, m', oa', s', R3, ?_⟩
            rw [ha]
            cases hgs : g s' with
            | none => rw [hgs] at he; cases he
            | some o' =>
              rw [hgs] at he
              have q' := q.from grT
              cases o' with
              | nx s2 => exact fun σ5 H5 F5 m5 oa5 R5 g5 => ⟨F5, m5, oa5, s2, R5, grT.trans g5, (hb.al _ _ hgs).trans ha, he⟩
              | rt d s2 => cases he; exact q'
              | ro d s2 => cases he; exact q'
              | ex c p s2 => cases he; exact q'
  · obtain ⟨n, hn⟩ := sWhile_is e
    exact whGo_al hb.al n s s' hn
end
end VS
namespace VS
open PySem L2
open PyProof.Rows hiding St
/-! ### defs -/
inductive Rs where
  | val (d : D) | own (ds : List D) | exc (c : Str) (p : Option Int)
def initS (N : Nat) (ds : List D) : S := ⟨ds.map .fr ++ List.replicate (N - ds.length) .un, [], false⟩
def outR : Option Out → Option Rs
  | some (.nx _) => some (.val .non)
  | some (.rt d _) => some (.val d)
  | some (.ro ds _) => some (.own ds)
  | some (.ex c p _) => some (.exc c p)
  | none => none
/-- what a def makes of its arguments -/
def fnP (N : Nat) (g : S → Option Out) (ds : List D) : Option Rs := outR (g (initS N ds))
/-- the promise: f tells what comes of the arguments; nothing that stood changes -/
def spP (G : Gx) (n : Nat) (f : List D → Option Rs) : Sp := fun vs H Q E => vs.length = n ∧ ∃ F m ds, Same F H ∧ m.Nodup ∧ DatL G m F vs ds ∧ match f ds with
  | some (.val d) => ∀ v F' H', Same F F' → Same F' H' → Same H H' → (∀ b, F' b ≠ none → F b ≠ none ∨ H b = none) → Dat G m F' v d → Q v H'
  | some (.own es) => ∀ p us F' H', Same F F' → Same F' H' → Same H H' → (∀ b, F' b ≠ none → F b ≠ none ∨ H b = none) → F' p = none → H p = none → H' p = some (.lst us) → DatL G m F' us es → Q (.ref p) H'
  | some (.exc c p) => ∀ Cc dx F' H', G.cls c = some Cc → ExP H' dx p → Same F F' → Same F' H' → Same H H' → (∀ b, F' b ≠ none → F b ≠ none ∨ H b = none) → E (.ref Cc) dx H'
  | none => False
open Classical in
/-- all that stands, but F -/
noncomputable def but (H F : Hp) : Hp := fun b => if F b = none then H b else none
theorem but_none {H F : Hp} {b : Addr} (h : but H F b = none) : F b ≠ none ∨ H b = none := by
  unfold but at h
  split at h
  · exact Or.inr h
  · rename_i n; exact Or.inl n
theorem but_same {H F H' F' : Hp} (fh : Same F H) (h1 : Same F F') (h2 : Same F' H') (h3 : Same (but H F) H') : Same H H' := fun b o e => by
  cases ef : F b with
  | none => exact h3 b o (by unfold but; rw [if_pos ef]; exact e)
  | some u =>
    have q := fh b u ef
    rw [e] at q; cases q
    exact h2 b _ (h1 b _ ef)
theorem init_rel {G : Gx} {F : Hp} {m : List Addr} {vs : List V} {H : Hp} {ds : List D} {N : Nat} (fh : Same F H) (mn : m.Nodup) (hd : DatL G m F vs ds) (oa : Own → Addr) :
    Rel G (but H F) F m oa (vs.map some ++ List.replicate (N - vs.length) none) H (initS N ds) where
  fh := fh
  bh := fun b o e => by
    unfold but at e
    split at e
    · exact e
    · cases e
  fb := fun b e => by unfold but; rw [if_neg e]
  len := by
    show (vs.map some ++ List.replicate (N - vs.length) none).length = (ds.map Sl.fr ++ List.replicate (N - ds.length) Sl.un).length
    rw [List.length_append, List.length_append, List.length_map, List.length_map, List.length_replicate, List.length_replicate, hd.length]
  slot := fun i sl e => by
    have e : (ds.map Sl.fr ++ List.replicate (N - ds.length) .un)[i]? = some sl := e
    by_cases hi : i < ds.length
    · rw [List.getElem?_append_left (by rw [List.length_map]; exact hi), List.getElem?_map] at e
      obtain ⟨d, h1, rfl⟩ := Option.map_eq_some_iff.mp e
      obtain ⟨v, h2, h3⟩ := hd.get h1
      refine ⟨v, ?_, h3⟩
      rw [List.getElem?_append_left (by rw [List.length_map, hd.length]; exact hi), List.getElem?_map, h2]
      rfl
    · rw [List.getElem?_append_right (by rw [List.length_map]; omega)] at e
      have := List.mem_of_getElem? e
      rw [List.eq_of_mem_replicate this]
      trivial
  cell := fun x es e => by
    exfalso
    cases x with
    | inr q => cases e
    | inl i =>
      have e : slO (ds.map Sl.fr ++ List.replicate (N - ds.length) .un)[i]? = some es := e
      by_cases hi : i < ds.length
      · rw [List.getElem?_append_left (by rw [List.length_map]; exact hi), List.getElem?_map] at e
        cases ed : ds[i]? with
        | none => rw [ed] at e; cases e
        | some d => rw [ed] at e; cases e
      · rw [List.getElem?_append_right (by rw [List.length_map]; omega)] at e
        cases er : (List.replicate (N - ds.length) Sl.un)[i - (ds.map Sl.fr).length]? with
        | none => rw [er] at e; cases e
        | some d =>
          have := List.eq_of_mem_replicate (List.mem_of_getElem? er)
          subst this
          rw [er] at e; cases e
  inj := fun x y es fs e1 => by
    exfalso
    cases x with
    | inr q => cases e1
    | inl i =>
      have e : slO (ds.map Sl.fr ++ List.replicate (N - ds.length) .un)[i]? = some es := e1
      by_cases hi : i < ds.length
      · rw [List.getElem?_append_left (by rw [List.length_map]; exact hi), List.getElem?_map] at e
        cases ed : ds[i]? with
        | none => rw [ed] at e; cases e
        | some d => rw [ed] at e; cases e
      · rw [List.getElem?_append_right (by rw [List.length_map]; omega)] at e
        cases er : (List.replicate (N - ds.length) Sl.un)[i - (ds.map Sl.fr).length]? with
        | none => rw [er] at e; cases e
        | some d =>
          have := List.eq_of_mem_replicate (List.mem_of_getElem? er)
          subst this
          rw [er] at e; cases e
  obj := fun n ob e => by cases e
  ml := fun e => by cases e
  mnd := mn
/-- what a body's walk is given -/
structure BX (X : Cx) (W : WX) (P : Program) (w : World) (K : PySem.W.Frag) (mg : Str → Option Value) (base : Heap) (N : List Str) (sc : Scope) (k : Nat) : Prop where
  prog : P = X.prog
  w : w = X.w
  K : K = X.K
  mg : mg = X.mg
  base : base = X.base
  n : X.N = N
  sc : X.env.scope = sc
  calm : X.calm = true
  fn : ∀ x, X.fn x = true
  room : Room k X.A
  own : PassesOwn (model X.prog X.w) X.A X.env X.xe
  tk : Takes X W
  stk : X.stack = X.env :: X.outer
  frm : X.env.frame = some X.env.locals
  ex : X.ex = []
section
variable {P : Program} {w : World} {K : PySem.W.Frag} {mg : Str → Option Value} {base : Heap} {C : Str → Option Addr}
/-- a def as it stands behind the top, with or without defaults -/
structure FunG (K : PySem.W.Frag) (x qual : Str) (st : Stmt) (f : Addr) (fd : FuncData) : Prop where
  ex : ∃ (oc : Value) (od : Option Addr) (dV kV doc pm : Value) (an : Option Addr) (cdv ct : Value) (osl : Array (Option Value)),
    fd = PySem.W.fnOf x qual (defArgs st) (defBody st) (defScope st) dV kV doc pm an cdv ct ∧ K.lookup f = some ⟨oc, od, .func fd, osl⟩ ∧ PySem.W.codeIn K cdv qual = true
theorem FunG.of {x qual : Str} {st : Stmt} {f : Addr} {fd : FuncData} (F : Fun K x qual st f fd) : FunG K x qual st f fd := by
  obtain ⟨oc, od, kV, doc, pm, an, cdv, ct, osl, h⟩ := F.ex
  exact ⟨⟨oc, od, _, kV, doc, pm, an, cdv, ct, osl, h⟩⟩
theorem FunG.okX {x qual : Str} {st : Stmt} {f : Addr} {fd : FuncData} {N ps : List Str} {k : Nat} {sp : Sp} (F : FunG K x qual st f fd) (S : FnScope N ps (defScope st)) (len : ∀ vs H Q E, sp vs H Q E → vs.length = ps.length)
    (hbody : ∀ (cdv : Value) (A : Around) (outer : List Env) (s : Shared) (H : Hp) (vs : List V) (Q : VK) (E : XK), Room k (A.deeper (envOfC qual (defScope st) s.heap.objs.size f cdv)) → sp vs H Q E →
      ∃ t, PSs (cxOf (L2.CX P w) P w K mg base N qual (defScope st) f cdv A outer s H E) (defBody st) t ∧ t { nx := fun _ H' => Q .non H', rt := Q } (start N vs) H) : FnOk P w K mg base (L2.CX P w) (k + 1) f fd ps sp := by
  obtain ⟨oc, od, dV, kV, doc, pm, an, cdv, ct, osl, rfl, lk, hcd⟩ := F.ex
  exact fn_of lk hcd S len fun A outer s H vs Q E hr hsp => hbody cdv A outer s H vs Q E hr hsp
theorem fn_pureG {x qual : Str} {st : Stmt} {f : Addr} {fd : FuncData} {N ps : List Str} {k : Nat} {g : S → Option Out} (Fn : FunG K x qual st f fd) (Sc : FnScope N ps (defScope st))
    (body : ∀ (X : Cx) (W : WX), BX X W P w K mg base N (defScope st) k → PSsV X C W (defBody st) g) : FnOk P w K mg base (L2.CX P w) (k + 1) f fd ps (spP ⟨K, C⟩ ps.length (fnP N.length g)) := by
  refine Fn.okX Sc (fun vs H Q E h => h.1) (fun cdv A outer s H vs Q E hr h => ?_)
  obtain ⟨hlen, F, m, ds, fh, mn, hd, q⟩ := h
  have B := body (cxOf (L2.CX P w) P w K mg base N qual (defScope st) f cdv A outer s H E) (fun cls d _ H => E cls d H)
    ⟨rfl, rfl, rfl, rfl, rfl, rfl, rfl, rfl, fun _ => rfl, hr, passes_of rfl, takes_of rfl rfl rfl rfl, rfl, rfl, rfl⟩
  refine ⟨_, B.run, ?_⟩
  refine ⟨but H F, F, m, fun _ => 0, initS N.length ds, init_rel (N := N.length) fh mn hd _, ?_⟩
  unfold fnP outR at q
  have fin : ∀ {F' H' : Hp} {m' oa'} {σ' : L2.St} {s' : S}, Rel ⟨K, C⟩ (but H F) F' m' oa' σ' H' s' → Gr F F' m m' false → Same F' H' ∧ Same H H' ∧ (∀ b, F' b ≠ none → F b ≠ none ∨ H b = none) ∧ m' = m := fun R g =>
    ⟨R.fh, but_same fh g.1 R.fh R.bh, fun b e => but_none (R.fb b e), g.2.2 rfl⟩
  cases hg : g (initS N.length ds) with
  | none => rw [hg] at q; exact q.elim
  | some o =>
    rw [hg] at q
    cases o with
    | nx s' =>
      intro σ' H' F' m' oa' R gr
      obtain ⟨h1, h2, h3, rfl⟩ := fin R gr
      exact q .non F' H' gr.1 h1 h2 h3 .non
    | rt d s' =>
      intro v σ' H' F' m' oa' R gr dv
      obtain ⟨h1, h2, h3, rfl⟩ := fin R gr
      exact q v F' H' gr.1 h1 h2 h3 dv
    | ro es s' =>
      intro p us σ' H' F' m' oa' hb R gr dv
      have fp : F' p = none := by
        cases ez : F' p with
        | none => rfl
        | some u => exact absurd (R.fb p (by rw [ez]; simp)) (by rw [upd_same]; simp)
      obtain ⟨h1, h2, h3, rfl⟩ := fin (R.lessB (same_upd hb)) gr
      refine q p us F' H' gr.1 h1 h2 h3 fp ?_ (R.bh p _ upd_same) dv
      rcases but_none hb with z | z
      · exact absurd (gr.1.free fp) z
      · exact z
    | ex c p s' =>
      intro Cc dx σ' H' F' m' oa' hc hp R gr
      obtain ⟨h1, h2, h3, rfl⟩ := fin R gr
      exact q Cc dx F' H' hc hp gr.1 h1 h2 h3
theorem fn_pure {x qual : Str} {st : Stmt} {f : Addr} {fd : FuncData} {N ps : List Str} {k : Nat} {g : S → Option Out} (Fn : Fun K x qual st f fd) (Sc : FnScope N ps (defScope st))
    (body : ∀ (X : Cx) (W : WX), BX X W P w K mg base N (defScope st) k → PSsV X C W (defBody st) g) : FnOk P w K mg base (L2.CX P w) (k + 1) f fd ps (spP ⟨K, C⟩ ps.length (fnP N.length g)) := fn_pureG (.of Fn) Sc body
end
section
variable {X : Cx} {C : Str → Option Addr} {e : Expr} {es : List Expr} {fs : S → Option (List D)} {pos p : Pos}
def vOf (mf : List D → Option Rs) : List D → Option D := fun ds => match mf ds with
  | some (.val d) => some d
  | some (.own es) => some (.lst es)
  | _ => none
def nOf (mf : List D → Option Rs) : List D → Option (List D) := fun ds => match mf ds with
  | some (.own es) => some es
  | _ => none
theorem v_call {k n : Nat} {f : Addr} {fd : FuncData} {ps : List Str} {x : Str} {mf : List D → Option Rs} (Fn : FnOk X.prog X.w X.K X.mg X.base (L2.CX X.prog X.w) k f fd ps (spP (gx X C) n mf)) (hr : Room k X.A)
    (hg : Gl X x) (hm : X.mg x = some (.ref f)) (hk : PySem.W.keepIn X.K (.ref f) = true) (hb : Binds X.K fd ps []) (hn : (e :: es).length = n) (ha : PAV X C (e :: es) fs) (hl : ∀ s ds, fs s = some ds → ds.length = n)
    (hdb : (x == ("__debug__" : Str)) = false := by decide) (he : starEach (e :: es) X.env = (false, eval e X.env) :: starEach es X.env := by rfl) (hpl : (backTo pos (starEach es X.env)).any (·.1) = false := by rfl) :
    PV X C (.Call (.Name x p) (e :: es) [] pos) (dCall (vOf mf) fs) := by
  refine PE.weak (pe_call Fn hr hg hm hk hb .nil passL ha hdb he hpl) ?_
  rintro σ H Q ⟨B, F, m, oa, s, d, R, hf, q⟩
  obtain ⟨ds, h1, h2⟩ := Option.bind_eq_some_iff.mp hf
  refine ⟨B, F, m, oa, s, ds, R, h1, fun vs F1 H1 R1 e1 dx => ?_⟩
  show spP (gx X C) n mf (vs ++ []) H1 Q E0
  rw [List.append_nil]
  refine ⟨by rw [dx.length, hl s ds h1], F1, m, ds, R1.fh, R1.mnd, dx, ?_⟩
  unfold vOf at h2
  cases hm' : mf ds with
  | none => rw [hm'] at h2; cases h2
  | some r =>
    rw [hm'] at h2
    cases r with
    | exc c p => cases h2
    | own es =>
      cases h2
      intro p us F' H' g1 g2 g3 g4 fp hn hp dl
      have ff := same_upd (o := .lst us) fp
      have keep : Rel (gx X C) B (upd F' p (.lst us)) m oa σ H' s := by
        refine R1.grow (g1.trans ff) (fun b o e => ?_) (fun b o e => g3 b o (R1.bh b o e)) (fun b e => ?_) (fun b o a1 a2 a3 => ⟨g3 b o a3, ?_⟩)
        · by_cases hb : b = p
          · subst hb; rw [upd_same] at e; cases e; exact hp
          · rw [upd_ne hb] at e; exact g2 b o e
        · by_cases hb : b = p
          · subst hb; exact R1.bh.free hn
          · rw [upd_ne hb] at e
            rcases g4 b e with h | h
            · exact R1.fb b h
            · exact R1.bh.free h
        · have hb : b ≠ p := fun z => by rw [z, hn] at a3; cases a3
          rw [upd_ne hb]
          cases e2 : F' b with
          | none => rfl
          | some u =>
            rcases g4 b (by rw [e2]; simp) with h | h
            · exact absurd a1 h
            · rw [a3] at h; cases h
      exact q _ _ H' keep (e1.trans (g1.trans ff)) (.lst (SqL.of upd_same) (dl.mono ff (Pre.refl _)))
    | val d' =>
      cases h2
      intro v F' H' g1 g2 g3 g4 dv
      have keep : Rel (gx X C) B F' m oa σ H' s := by
        refine R1.grow g1 g2 (fun b o e => g3 b o (R1.bh b o e)) (fun b e => ?_) (fun b o a1 a2 a3 => ⟨g3 b o a3, ?_⟩)
        · rcases g4 b e with h | h
          · exact R1.fb b h
          · exact R1.bh.free h
        · cases e2 : F' b with
          | none => rfl
          | some u =>
            rcases g4 b (by rw [e2]; simp) with h | h
            · exact absurd a1 h
            · rw [a3] at h; cases h
      exact q v F' H' keep (e1.trans g1) dv
/-- an object outside joins the frame -/
theorem Rel.addB {G : Gx} {B F : Hp} {m : List Addr} {oa : Own → Addr} {σ : L2.St} {H : Hp} {s : S} (R : Rel G B F m oa σ H s) {p : Addr} {o : HO} (hp : H p = some o) (fp : F p = none)
    (np : ∀ x ds, ownAt s x = some ds → oa x ≠ p) (nq : ∀ (n : Nat) (ob : Ob) (a : Addr), s.st[n]? = some ob → m[n]? = some a → a ≠ p) : Rel G (upd B p o) F m oa σ H s where
  fh := R.fh
  bh := fun b u e => by
    by_cases hb : b = p
    · subst hb; rw [upd_same] at e; cases e; exact hp
    · rw [upd_ne hb] at e; exact R.bh b u e
  fb := fun b e => by
    have hb : b ≠ p := fun z => e (z ▸ fp)
    rw [upd_ne hb]; exact R.fb b e
  len := R.len
  slot := R.slot
  cell := fun x ds e => by
    obtain ⟨h1, h2, r⟩ := R.cell x ds e
    exact ⟨h1, by rw [upd_ne (np x ds e)]; exact h2, r⟩
  inj := R.inj
  obj := fun n ob e => by
    obtain ⟨a, C, dx, fs, h1, h2, h3, h4, h5, r⟩ := (R.obj n ob e).ex
    exact ⟨⟨a, C, dx, fs, h1, h2, h3, h4, by rw [upd_ne (nq n ob a e h1)]; exact h5, r⟩⟩
  ml := R.ml
  mnd := R.mnd
def nCall (mf : List D → Option Rs) (fs : S → Option (List D)) : S → Option (List D) := fun s => (fs s).bind (nOf mf)
theorem n_call {k n : Nat} {f : Addr} {fd : FuncData} {ps : List Str} {x : Str} {mf : List D → Option Rs} (Fn : FnOk X.prog X.w X.K X.mg X.base (L2.CX X.prog X.w) k f fd ps (spP (gx X C) n mf)) (hr : Room k X.A)
    (hg : Gl X x) (hm : X.mg x = some (.ref f)) (hk : PySem.W.keepIn X.K (.ref f) = true) (hb : Binds X.K fd ps []) (hn : (e :: es).length = n) (ha : PAV X C (e :: es) fs) (hl : ∀ s ds, fs s = some ds → ds.length = n)
    (hdb : (x == ("__debug__" : Str)) = false := by decide) (he : starEach (e :: es) X.env = (false, eval e X.env) :: starEach es X.env := by rfl) (hpl : (backTo pos (starEach es X.env)).any (·.1) = false := by rfl) :
    PN X C (.Call (.Name x p) (e :: es) [] pos) (nCall mf fs) := by
  refine PE.weak (pe_call Fn hr hg hm hk hb .nil passL ha hdb he hpl) ?_
  rintro σ H Q ⟨B, F, m, oa, s, d, R, hf, q⟩
  obtain ⟨ds, h1, h2⟩ := Option.bind_eq_some_iff.mp hf
  refine ⟨B, F, m, oa, s, ds, R, h1, fun vs F1 H1 R1 e1 dx => ?_⟩
  show spP (gx X C) n mf (vs ++ []) H1 Q E0
  rw [List.append_nil]
  refine ⟨by rw [dx.length, hl s ds h1], F1, m, ds, R1.fh, R1.mnd, dx, ?_⟩
  unfold nOf at h2
  cases hm' : mf ds with
  | none => rw [hm'] at h2; cases h2
  | some r =>
    rw [hm'] at h2
    cases r with
    | exc c p => cases h2
    | val d => cases h2
    | own es =>
      cases h2
      intro p us F' H' g1 g2 g3 g4 fp hn hp dl
      have keep : Rel (gx X C) B F' m oa σ H' s := by
        refine R1.grow g1 g2 (fun b o e => g3 b o (R1.bh b o e)) (fun b e => ?_) (fun b o a1 a2 a3 => ⟨g3 b o a3, ?_⟩)
        · rcases g4 b e with h | h
          · exact R1.fb b h
          · exact R1.bh.free h
        · cases e2 : F' b with
          | none => rfl
          | some u =>
            rcases g4 b (by rw [e2]; simp) with h | h
            · exact absurd a1 h
            · rw [a3] at h; cases h
      refine q p us F' H' (R1.bh.free hn) (keep.addB hp fp (fun x es e z => ?_) fun n ob a e1 e2 z => ?_) (e1.trans g1) dl
      · obtain ⟨_, _, ws, h3, _⟩ := R1.cell x es e
        rw [z, hn] at h3; cases h3
      · obtain ⟨a', C', dx', fs', k1, k2, k3, _⟩ := (R1.obj n ob e1).ex
        rw [e2] at k1; cases k1
        rw [z, hn] at k3; cases k3
theorem aCons_len {f : S → Option D} {gs : S → Option (List D)} {n : Nat} (h : ∀ s ds, gs s = some ds → ds.length = n) : ∀ s ds, aCons f gs s = some ds → ds.length = n + 1 := by
  intro s ds e
  obtain ⟨x, _, e⟩ := Option.bind_eq_some_iff.mp e
  obtain ⟨xs, h2, rfl⟩ := Option.map_eq_some_iff.mp e
  rw [List.length_cons, h s xs h2]
theorem aNil_len : ∀ s ds, aNil s = some ds → ds.length = 0 := by
  intro s ds e
  cases e; rfl
variable {N : List Str} {M Ms : List (Option Str)} {gs : List Str} {sc : Scope}
theorem x_call (Dx : DX X N M Ms gs sc) (j : Nat) {k n : Nat} {f : Addr} {fd : FuncData} {ps : List Str} {x : Str} {mf : List D → Option Rs} (Fn : FnOk X.prog X.w X.K X.mg X.base (L2.CX X.prog X.w) k f fd ps (spP (gx X C) n mf)) (hr : Room k X.A)
    (hm : X.mg x = some (.ref f)) (hk : PySem.W.keepIn X.K (.ref f) = true) (hb : Binds X.K fd ps []) (ha : PAV X C (e :: es) fs) (hl : ∀ s ds, fs s = some ds → ds.length = n) (hn : (e :: es).length = n := by rfl) (hx : gs[j]? = some x := by rfl)
    (he : starEach (e :: es) X.env = (false, eval e X.env) :: starEach es X.env := by rfl) (hpl : (backTo pos (starEach es X.env)).any (·.1) = false := by rfl) :
    PV X C (.Call (.Name x p) (e :: es) [] pos) (dCall (vOf mf) fs) :=
  v_call Fn hr (Dx.g j x hx).1 hm hk hb hn ha hl (Dx.g j x hx).2 he hpl
end
end VS
namespace VS
open PySem L2
open PyProof.Rows hiding St
/-! ### what the walks of the defs are given of each other, and the law's own def -/
structure DefOk (P : Program) (w : World) (K : PySem.W.Frag) (mg : Str → Option Value) (base : Heap) (C : Str → Option Addr) (x : Str) (k : Nat) (ps : List Str) (mf : List D → Option Rs) : Prop where
  ex : ∃ f fd, FnOk P w K mg base (L2.CX P w) k f fd ps (spP ⟨K, C⟩ ps.length mf) ∧ mg x = some (.ref f) ∧ PySem.W.keepIn K (.ref f) = true ∧ Binds K fd ps []
section
variable {X : Cx} {C : Str → Option Addr} {e : Expr} {es : List Expr} {fs : S → Option (List D)} {pos p : Pos} {N : List Str} {M Ms : List (Option Str)} {gs : List Str} {sc : Scope}
theorem x_def (Dx : DX X N M Ms gs sc) (j : Nat) {k r : Nat} {x : Str} {ps : List Str} {mf : List D → Option Rs} (h : DefOk X.prog X.w X.K X.mg X.base C x k ps mf) (hr : Room r X.A) (hk : k ≤ r)
    (ha : PAV X C (e :: es) fs) (hl : ∀ s ds, fs s = some ds → ds.length = ps.length) (hn : (e :: es).length = ps.length := by rfl) (hx : gs[j]? = some x := by rfl)
    (he : starEach (e :: es) X.env = (false, eval e X.env) :: starEach es X.env := by rfl) (hpl : (backTo pos (starEach es X.env)).any (·.1) = false := by rfl) :
    PV X C (.Call (.Name x p) (e :: es) [] pos) (dCall (vOf mf) fs) := by
  obtain ⟨f, fd, Fn, hm, kp, hb⟩ := h.ex
  exact x_call Dx j Fn (hr.mono hk) hm kp hb ha hl hn hx he hpl
theorem x_defN (Dx : DX X N M Ms gs sc) (j : Nat) {k r : Nat} {x : Str} {ps : List Str} {mf : List D → Option Rs} (h : DefOk X.prog X.w X.K X.mg X.base C x k ps mf) (hr : Room r X.A) (hk : k ≤ r)
    (ha : PAV X C (e :: es) fs) (hl : ∀ s ds, fs s = some ds → ds.length = ps.length) (hn : (e :: es).length = ps.length := by rfl) (hx : gs[j]? = some x := by rfl)
    (he : starEach (e :: es) X.env = (false, eval e X.env) :: starEach es X.env := by rfl) (hpl : (backTo pos (starEach es X.env)).any (·.1) = false := by rfl) :
    PN X C (.Call (.Name x p) (e :: es) [] pos) (nCall mf fs) := by
  obtain ⟨f, fd, Fn, hm, kp, hb⟩ := h.ex
  exact n_call Fn (hr.mono hk) (Dx.g j x hx).1 hm kp hb hn ha hl (Dx.g j x hx).2 he hpl
end
/-- the law's own def answers True of every list of whole numbers that a script may be -/
def spLaw (K : PySem.W.Frag) : Sp := fun vs H Q E => ∃ (a : Addr) (ns : List Int), vs = [.ref a] ∧ SqL K H a (ns.map V.int) ∧ ns.length ≤ 63 ∧ (∀ z ∈ ns, Builtin.Int.intBits z ≤ 1048576) ∧ ∀ H', Q (.bl true) H'
theorem dat_ints {G : Gx} {F : Hp} : ∀ (ns : List Int), DatL G [] F (ns.map V.int) (ns.map D.int)
  | [] => .nil
  | n :: r => .cons (.int n) (dat_ints r)
section
variable {P : Program} {w : World} {K : PySem.W.Frag} {mg : Str → Option Value} {base : Heap} {C : Str → Option Addr} {CX : CXT}
theorem law_imp {k : Nat} {f : Addr} {fd : FuncData} {x : Str} {mf : List D → Option Rs} (Fn : FnOk P w K mg base CX k f fd [x] (spP ⟨K, C⟩ 1 mf))
    (hall : ∀ ns : List Int, ns.length ≤ 63 → (∀ z ∈ ns, Builtin.Int.intBits z ≤ 1048576) → mf [.lst (ns.map D.int)] = some (.val (.bl true))) : FnOk P w K mg base CX k f fd [x] (spLaw K) := by
  refine Fn.imp fun vs H Q E h => ?_
  obtain ⟨a, ns, rfl, hs, hl, hb, hq⟩ := h
  refine ⟨rfl, H, [], [.lst (ns.map D.int)], Same.refl _, List.nodup_nil, .cons (.lst hs (dat_ints ns)) .nil, ?_⟩
  rw [hall ns hl hb]
  intro v F' H' _ _ _ _ dv
  cases dv
  exact hq H'
end
theorem law_walk {l : PySem.W.OpenLaw} {k : Nat} {q : Program} {loose : List Str} {XP : (Str → Option Value) → Heap → Prop} {YP : World → Heap → Prop} {d : DefRec} {K : Params → PySem.W.Frag} {x : Str}
    (hn : l.most = some 63) (hdf : d.params.defaults = []) (hr : Room k callerA)
    (hY : ∀ (w : World) (h : Heap), YP w h → (K w.params).In h)
    (F : ∀ (w : World) (mg : Str → Option Value) (fa : Addr) (h : Heap), (K w.params).In h → h.Ns mainGlobals mg → mg d.name = some (.ref fa) →
      ∃ fd : FuncData, (∀ (s : Shared) (u : Value), BindsTo s fd ⟨[u], []⟩ [(x, u)]) ∧
        ∀ base : Heap, (K w.params).In base → base.Ns mainGlobals mg → FnOk l.prog w (K w.params) mg base (L2.CX l.prog w) k fa fd [x] (spLaw (K w.params))) :
    PySem.W.WalkO q loose XP YP l.row.toRowW d [] (fun f vs => PySem.call f vs) :=
  L2.walk_ofB (n := 63) (k := k) (x := x) (CX := fun w => L2.CX l.prog w) (sp := fun w => spLaw (K w.params)) hn (by decide) hdf hr hY F
    (fun _ _ a ns hl hb _ hS => ⟨a, ns, rfl, hS, hl, hb, fun _ => rfl⟩) fun _ _ _ _ _ z => by
      obtain ⟨_, _, _, _, _, _, _, _, _, _, _, _, h⟩ := z
      exact h
end VS
namespace VS
open PySem L2
open PyProof.Rows hiding St
/-! ### max of a list, a number by default -/
theorem maxOf_is (x : Int) : ∀ xs : List Int, PySem.W.maxOf x xs = xs.foldl max x := fun xs => by
  unfold PySem.W.maxOf
  congr 1
  funext a y
  show (if decide (a < y) = true then y else a) = max a y
  by_cases h : a < y
  · rw [decide_eq_true h]; simp; omega
  · rw [decide_eq_false h]; simp; omega
section
variable {X : Cx} {C : Str → Option Addr} {e : Expr} {pos p2 p : Pos} {qf : S → Option (Bool × List D)} {N : List Str} {M Ms : List (Option Str)} {gs : List Str} {sc : Scope}
def tMaxD (K : PySem.W.Frag) (ta : TE) (i : Int) : TE := fun σ H Q => ta σ H fun v H1 => ∃ a ns, v = .ref a ∧ SqL K H1 a (ns.map V.int) ∧ (ns = [] → Q (.int i) H1) ∧ ∀ y ys, ns = y :: ys → Q (.int (ys.foldl max y)) H1
theorem pe_maxD {ta : TE} {i : Int} {j : Nat} {kp : Pos} (hu : X.A.units + 64 < cLine) (hcl : X.calm = true) (hg : Gl X "max") (hm : X.mg "max" = none) (ha : PE X e ta) (hs : starEach [e] X.env = (false, eval e X.env) :: starEach [] X.env := by rfl)
    (he : backTo pos (starEach [e] X.env) = (false, eval e X.env) :: backTo pos (starEach [] X.env) := by rfl) (hpl : (backTo pos (starEach [e] X.env)).any (·.1) = false := by rfl) :
    PE X (.Call (.Name "max" p) [e] [⟨some "default", .Constant (.int i) j kp, p2⟩] pos) (tMaxD X.K ta i) := by
  refine ⟨fun pins s σ H Q I h => ?_⟩
  refine wpAny_Call_Name_kw (ld_blt I hg hm PyProof.Rows.boot_max ?_ (by decide) (by decide))
  have hA : PA X [e] (tCons ta tNil) := pa_cons ha pa_nil hs
  refine callWith_kw (thn (hA.run pos pins s σ H (fun vs H1 => match vs with
    | [v] => ∃ a ns, v = .ref a ∧ SqL X.K H1 a (ns.map V.int) ∧ (ns = [] → Q (.int i) H1) ∧ ∀ y ys, ns = y :: ys → Q (.int (ys.foldl max y)) H1
    | _ => False) I h) fun us s1 ⟨vs, H1, I1, r1, q1⟩ => ?_) he hpl rfl rfl
  match vs, q1 with
  | [v], q1 =>
    obtain ⟨a, ns, rfl, hl, q0, q2⟩ := q1
    rw [Vals.ref1 r1]
    refine kws_cons (thn (pe_int.run pins s1 σ H1 (fun v H2 => v = .int i ∧ H2 = H1) I1 ⟨rfl, rfl⟩) fun u s2 ⟨w, H2, I2, r2, q3⟩ => kws_nil ?_)
    obtain ⟨rfl, rfl⟩ := q3
    obtain ⟨its, rv, hls, _⟩ := I2.list hl
    have H0 := PySem.W.HoldAll.of_ints (h := s2.heap) rv.ints
    refine PySem.W.max_list_datum_default (I2.ok.hd hcl) hls.isList H0 (by show X.A.units + 1 + 0 < cLine; omega) (fun e h' tk hk => ?_) fun y ys k v h' tk e hv hh hk => ?_
    · exact ⟨.int i, _, I2.kept hk, r2, q0 e⟩
    · obtain ⟨t, rfl⟩ := PySem.W.int_of_holds hh
      exact ⟨.int _, _, I2.kept hk, ⟨_, rfl⟩, by rw [maxOf_is]; exact q2 y ys e⟩
def gMaxD (i : Int) : Bool → List D → Option D := fun k ds => if k = true then (intsOf ds).map fun ns => .int (match ns with
  | [] => i
  | y :: ys => ys.foldl max y) else none
theorem x_maxd (D : DX X N M Ms gs sc) (j : Nat) {i : Int} {k : Nat} {kp : Pos} (hm : X.mg "max" = none) (ha : PQ X C e qf) (hx : gs[j]? = some "max" := by rfl) (hs : starEach [e] X.env = (false, eval e X.env) :: starEach [] X.env := by rfl)
    (he : backTo pos (starEach [e] X.env) = (false, eval e X.env) :: backTo pos (starEach [] X.env) := by rfl) (hpl : (backTo pos (starEach [e] X.env)).any (·.1) = false := by rfl) :
    PV X C (.Call (.Name "max" p) [e] [⟨some "default", .Constant (.int i) k kp, p2⟩] pos) (dCallS (gMaxD i) qf) := by
  refine PE.weak (pe_maxD D.room D.calm (D.g j _ hx).1 hm ha hs he hpl) ?_
  rintro σ H Q ⟨B, F, m, oa, s, d, R, hf, q⟩
  obtain ⟨⟨kd, ds⟩, h1, h2⟩ := Option.bind_eq_some_iff.mp hf
  refine ⟨B, F, m, oa, s, kd, ds, R, h1, fun v F1 H1 R1 e1 sq => ?_⟩
  unfold gMaxD at h2
  simp only at h2
  split at h2
  · rename_i hk
    subst hk
    obtain ⟨ns, h3, rfl⟩ := Option.map_eq_some_iff.mp h2
    obtain ⟨a, vs, rfl, q1, q2, q3⟩ := sq.read R1
    have e := ints_dat q3 h3
    subst e
    refine ⟨a, ns, rfl, q1 rfl, fun z => ?_, fun y ys z => ?_⟩
    · subst z; exact q _ F1 H1 R1 e1 (.int _)
    · subst z; exact q _ F1 H1 R1 e1 (.int _)
  · cases h2
end
end VS
namespace VS
open PySem L2
open PyProof.Rows hiding St
/-! ### own errors without own __init__: raise -/
abbrev bmVE : List Value := [.type "ValueError", .type "Exception", .type "BaseException", .type "object"]
structure ExcOk (K : PySem.W.Frag) (mg : Str → Option Value) (C : Str → Option Addr) (x : Str) : Prop where
  ex : ∃ A, C x = some A ∧ mg x = some (.ref A) ∧ PySem.W.excIn K A bmVE "ValueError.__new__" = true ∧ PySem.W.keepIn K (.ref A) = true ∧ PySem.W.subIn K (.ref A) (.type "BaseException") = some true ∧ PySem.W.typeIn K (.ref A) = some (.type "type")
section
variable {X : Cx} {C : Str → Option Addr} {W : WX} {N : List Str} {M Ms : List (Option Str)} {gs : List Str} {sc : Scope}
def sRaise (x : Str) (p : Option Int) : S → Option Out := fun s => some (.ex x p s)
theorem s_raise (Dx : DX X N M Ms gs sc) (j : Nat) {x : Str} (tk : Takes X W) (E : ExcOk X.K X.mg C x) {m : Str} {k : Nat} {p p2 pos pos' : Pos} (hx : gs[j]? = some x := by rfl) :
    PSV X C W (.Raise (some (.Call (.Name x p) [.Constant (.str m) k p2] [] pos)) none pos') (sRaise x none) := by
  obtain ⟨A, h1, h2, h3, h4, h5, h6⟩ := E.ex
  refine ⟨PS.weak (ps_raise Dx.calm tk (pmk_own PySem.F.excBase_ValueError h3 h2 h4 (raises_own h5 h6) (Dx.g j x hx).1 (Dx.g j x hx).2)) ?_, fun s s' e => by cases e⟩
  rintro D σ H ⟨B, F, m, oa, s, R, q⟩
  exact q A none σ H F m oa h1 rfl R (Gr.refl _ _ _)
end
end VS
namespace VS
open PySem L2
open PyProof.Rows hiding St
section
variable {X : Cx} {C : Str → Option Addr} {W : WX} {N : List Str} {M Ms : List (Option Str)} {gs : List Str} {sc : Scope} {e ie : Expr} {f h : S → Option D}
/-! ### x[k] = v in a list of one's own -/
def sSetIx (i : Nat) (f h : S → Option D) : S → Option Out := fun s => (f s).bind fun d => (h s).bind fun k => (iInt k).bind fun z => (s.own i).bind fun ds => (ixN ds.length z).map fun j => .nx (s.put i (.ow (ds.set j d)))
theorem s_setix (Dx : DX X N M Ms gs sc) (i : Nat) {x : Str} {px sp pos : Pos} (he : PV X C e f) (hk : PV X C ie h) (hx : M[i]? = some (some x) := by rfl)
    (ha : ∀ v, assign (.Subscript (.Name x px) ie sp) X.env v = (do
      let ov ← holding [v] (eval (.Name x px) X.env)
      let iv ← holding [v, ov] (eval ie X.env)
      standAt sp
      holding [v, ov, iv] (setItem ov iv v)
      release [v, ov, iv] []) := by intro _; rfl)
    (hs : swapsWithSole [.Subscript (.Name x px) ie sp] e pos.line X.env = pure false := by rfl) (hw : swappedStores [.Subscript (.Name x px) ie sp] e X.env = pure none := by rfl)
    (h1 : (assignEach [.Subscript (.Name x px) ie sp] X.env).map (·.2) = [assign (.Subscript (.Name x px) ie sp) X.env] := by rfl) :
    PSV X C W (.Assign [.Subscript (.Name x px) ie sp] e pos) (sSetIx i f h) := by
  obtain ⟨n1, n2, n3, n4⟩ := Dx.v i x hx
  refine ⟨PS.weak (ps_asg he (pg_sub (pe_var n1 n2 n3 n4) hk set_list ha) hs hw h1) ?_, fun s s' e => ?_⟩
  · rintro D σ H ⟨B, F, m, oa, s, R, q⟩
    unfold sSetIx at q
    cases hf : f s with
    | none => rw [hf] at q; exact q.elim
    | some d =>
      rw [hf, Option.bind_some] at q
      cases hh : h s with
      | none => rw [hh] at q; exact q.elim
      | some k =>
        rw [hh, Option.bind_some] at q
        cases hz : iInt k with
        | none => rw [hz] at q; exact q.elim
        | some z =>
          rw [hz, Option.bind_some] at q
          cases ho : s.own i with
          | none => rw [ho] at q; exact q.elim
          | some ds =>
            rw [ho, Option.bind_some] at q
            cases hj : ixN ds.length z with
            | none => rw [hj] at q; exact q.elim
            | some j =>
              rw [hj, Option.map_some] at q
              refine ⟨B, F, m, oa, s, d, R, hf, fun v F1 H1 R1 f1 dv => ?_⟩
              obtain ⟨us, e1, e2, e3⟩ := own_cell R1 ho
              refine ⟨_, e1, B, F1, m, oa, s, k, R1, hh, fun u F2 H2 R2 f2 du => ?_⟩
              obtain ⟨us2, e4, e5, e6⟩ := own_cell R2 ho
              refine ⟨_, us2, z, j, rfl, iInt_dat du hz, e5, by rw [e6.length]; exact hj, q _ _ F2 m oa (R2.setOwn (own_get ho) (DatL.set (dv.mono f2 (Pre.refl _)) j e6)) (Gr.of _ _ (f1.trans f2))⟩
  · obtain ⟨d, _, h2⟩ := Option.bind_eq_some_iff.mp e
    obtain ⟨k, _, h3⟩ := Option.bind_eq_some_iff.mp h2
    obtain ⟨z, _, h4⟩ := Option.bind_eq_some_iff.mp h3
    obtain ⟨ds, _, h5⟩ := Option.bind_eq_some_iff.mp h4
    obtain ⟨j, _, h6⟩ := Option.map_eq_some_iff.mp h5
    cases h6; rfl
end
end VS
namespace VS
open PySem L2
open PyProof.Rows hiding St
section
variable {X : Cx} {C : Str → Option Addr} {W : WX} {N : List Str} {M Ms : List (Option Str)} {gs : List Str} {sc : Scope} {e : Expr} {es : List Expr} {f : S → Option D} {fs : S → Option (List D)} {qf : S → Option (Bool × List D)} {pos p : Pos}
/-! ### divmod -/
def gDivmod : List D → Option D := fun ds => (pairI ds).bind fun q => if 0 < q.2 ∧ divOk q.2 = true then some (.tup [.int (q.1 / q.2), .int (q.1 % q.2)]) else none
theorem giv_divmod : GivL X C (fun xs H Q => ∃ i j, xs = [V.int i, V.int j] ∧ CDivP i j ∧ ∀ p, H p = none → Q (.ref p) (upd H p (.tup [V.int (i / j), V.int (i % j)]))) gDivmod := by
  intro B F m oa σ H s ds d vs Q R hg dx q
  obtain ⟨z, h1, h2⟩ := Option.bind_eq_some_iff.mp hg
  split at h2
  · rename_i hc
    cases h2
    refine ⟨z.1, z.2, two_ints dx h1, ⟨hc.1, ?_⟩, fun p hp => ?_⟩
    · unfold divOk at hc
      simp only [Bool.and_eq_true, decide_eq_true_eq] at hc
      exact PyProof.noPylong_of_log2 hc.2.2
    · have ff := same_upd (o := .tup [V.int (z.1 / z.2), V.int (z.1 % z.2)]) (R.fresh hp).1
      exact q _ _ _ (R.new hp _) ff (.tup (SqT.of upd_same) (.cons (.int _) (.cons (.int _) .nil)))
  · cases h2
theorem x_divmod (D : DX X N M Ms gs sc) (j : Nat) (hm : X.mg "divmod" = none) (ha : PAV X C (e :: es) fs) (hx : gs[j]? = some "divmod" := by rfl) (hs : starEach (e :: es) X.env = (false, eval e X.env) :: starEach es X.env := by rfl) (hpl : (backTo pos (starEach es X.env)).any (·.1) = false := by rfl) : PV X C (.Call (.Name "divmod" p) (e :: es) [] pos) (dCall gDivmod fs) :=
  v_blt call_divmodW giv_divmod (D.g j _ hx).1 hm PyProof.Rows.boot_divmod ha (by decide) (by decide) hs hpl
/-! ### a module's constants -/
structure ConOk (K : PySem.W.Frag) (mg : Str → Option Value) (x : Str) (d : D) : Prop where
  ex : ∃ (u : Value) (v : V), mg x = some u ∧ RelV v u ∧ ∀ (C : Str → Option Addr) (m : List Addr) (F : Hp), Dat ⟨K, C⟩ m F v d
theorem con_int {K : PySem.W.Frag} {mg : Str → Option Value} {x : Str} {i : Int} {t : Nat} (h : mg x = some (.int i t)) : ConOk K mg x (.int i) := ⟨_, .int i, h, ⟨_, rfl⟩, fun _ _ _ => .int i⟩
theorem con_str {K : PySem.W.Frag} {mg : Str → Option Value} {x y : Str} {t : Nat} (h : mg x = some (.str y t)) : ConOk K mg x (.str y) := ⟨_, .str y, h, ⟨_, rfl⟩, fun _ _ _ => .str y⟩
theorem datL_ints {G : Gx} {m : List Addr} {F : Hp} : ∀ (ns : List Int), DatL G m F (ns.map V.int) (ns.map D.int)
  | [] => .nil
  | n :: r => .cons (.int n) (datL_ints r)
theorem con_tup {K : PySem.W.Frag} {mg : Str → Option Value} {x : Str} {ns : List Int} {a : Addr} {od : Option Addr} {its : Array Value} {n : Nat} {sl : Array (Option Value)} (h : mg x = some (.ref a)) (l : K.lookup a = some ⟨.type "tuple", od, .seq its n, sl⟩) (z : its.size ≤ 1000) (v : Vals (ns.map V.int) its.toList) : ConOk K mg x (.tup (ns.map D.int)) :=
  ⟨_, .ref a, h, rfl, fun _ _ _ => .tup (.inr ⟨_, its, n, l, rfl, rfl, Nat.le_trans z (by decide), v⟩) (datL_ints ns)⟩
theorem x_con (Dx : DX X N M Ms gs sc) (j : Nat) {x : Str} {d : VS.D} (h : ConOk X.K X.mg x d) (hx : gs[j]? = some x := by rfl) : PV X C (.Name x pos) (dC d) := by
  obtain ⟨u, v, h1, h2, h3⟩ := h.ex
  exact x_glob Dx j h1 h2 (fun m F => h3 C m F) hx
end
section
variable {X : Cx} {C : Str → Option Addr} {W : WX} {N : List Str} {M Ms : List (Option Str)} {gs : List Str} {sc : Scope} {e : Expr} {f : S → Option D} {qf : S → Option (Bool × List D)}
variable {G : Gx} {B F : Hp} {m : List Addr} {oa : Own → Addr} {σ : L2.St} {H : Hp} {s : S}
/-! ### a list of one's own is given away -/
theorem Rel.give (R : Rel G B F m oa σ H s) {i : Nat} {ds : List D} (ho : s.own i = some ds) : ∃ us, σ[i]? = some (some (.ref (oa (.inl i)))) ∧ DatL G m F us ds ∧ B (oa (.inl i)) = none ∧ Rel G (upd B (oa (.inl i)) (.lst us)) F m oa σ H (s.put i .un) := by
  have hi := own_get ho
  have how : ownAt s (.inl i) = some ds := by show slO s.r[i]? = some ds; rw [hi]; rfl
  obtain ⟨us, e1, e2, e3⟩ := own_cell R ho
  obtain ⟨c1, c2, _⟩ := R.cell _ _ how
  refine ⟨us, e1, e3, c2, ?_⟩
  have R0 := R.put0 i
  have R1 : Rel G B F m oa σ H (s.put i .un) :=
    { R0 with
      len := by rw [← R0.len, List.length_set]
      slot := fun j sl e => by
        by_cases hj : j = i
        · subst hj
          have e : (s.r.set j .un)[j]? = some sl := e
          have hl : j < s.r.length := (List.getElem?_eq_some_iff.mp hi).1
          rw [List.getElem?_set_self hl] at e
          cases e
          trivial
        · have := R0.slot j sl e
          rw [List.getElem?_set_ne (Ne.symm hj)] at this
          exact this }
  refine R1.addB e2 c1 (fun x es e z => ?_) fun n ob a h1 h2 z => ?_
  · rcases ownAt_put e with ⟨_, q⟩ | ⟨n1, q⟩
    · cases q
    · exact n1 (R.inj x _ es ds q how z)
  · obtain ⟨a', C', dx', fs', k1, k2, k3, _⟩ := (R1.obj n ob h1).ex
    rw [h2] at k1; cases k1
    rw [z, e2] at k3; cases k3
def sRetOwn (i : Nat) : S → Option Out := fun s => (s.own i).map fun ds => .ro ds (s.put i .un)
theorem s_retOwn (Dx : DX X N M Ms gs sc) (i : Nat) {x : Str} {px pos : Pos} (hx : M[i]? = some (some x) := by rfl) : PSV X C W (.Return (some (.Name x px)) pos) (sRetOwn i) := by
  obtain ⟨n1, n2, n3, n4⟩ := Dx.v i x hx
  refine ⟨PS.weak (ps_ret (pe_var n1 n2 n3 n4)) ?_, fun s s' e => ?_⟩
  · rintro D σ H ⟨B, F, m, oa, s, R, q⟩
    unfold sRetOwn at q
    cases ho : s.own i with
    | none => rw [ho] at q; exact q.elim
    | some ds =>
      rw [ho] at q
      obtain ⟨us, e1, e3, c2, R2⟩ := R.give ho
      exact ⟨_, e1, q _ us σ H F m oa c2 R2 (Gr.refl _ _ _) e3⟩
  · obtain ⟨ds, _, h⟩ := Option.map_eq_some_iff.mp e
    cases h
/-! ### clear, extend -/
def sClr (i : Nat) : S → Option Out := fun s => (s.own i).map fun _ => .nx (s.put i (.ow []))
theorem s_clr (Dx : DX X N M Ms gs sc) (i : Nat) {x : Str} {px apos cpos pos : Pos} (hx : M[i]? = some (some x) := by rfl) (hline : (apos.endLine == cpos.line) = true := by rfl)
    (hb : attributeBase (.Name x px) "clear" X.env (eval (.Name x px) X.env) = eval (.Name x px) X.env := by rfl) (hsw : swapsWith (.Call (.Attribute (.Name x px) "clear" apos) [] [] cpos) none pos.line X.env = pure false := by rfl) :
    PSV X C W (.Expr (.Call (.Attribute (.Name x px) "clear" apos) [] [] cpos) pos) (sClr i) := by
  obtain ⟨n1, n2, n3, n4⟩ := Dx.v i x hx
  refine ⟨PS.weak (ps_expr (pe_bm0 PySem.F.plainAttrs_list PySem.F.slot_list_clear PySem.F.type_list_clear mt_clear (pe_var n1 n2 n3 n4) hb hline) hsw) ?_, fun s s' e => ?_⟩
  · rintro D σ H ⟨B, F, m, oa, s, R, q⟩
    unfold sClr at q
    cases ho : s.own i with
    | none => rw [ho] at q; exact q.elim
    | some ds =>
      rw [ho] at q
      obtain ⟨us, e1, e2, e3⟩ := own_cell R ho
      exact ⟨_, e1, Or.inl ⟨rfl, us, SqL.of e2⟩, _, us, rfl, rfl, e2, q _ _ F m oa (R.setOwn (own_get ho) .nil) (Gr.refl _ _ _)⟩
  · obtain ⟨ds, _, h⟩ := Option.map_eq_some_iff.mp e
    cases h; rfl
end
end VS
namespace VS
open PySem L2
open PyProof.Rows hiding St
/-! ### lists of one's own lent to an expression whose value is plain -/
def scal : D → Bool
  | .non => true
  | .bl _ => true
  | .int _ => true
  | .str _ => true
  | _ => false
theorem scal_dat {G : Gx} {m m' : List Addr} {F F' : Hp} {v : V} {d : D} (h : scal d = true) (e : Dat G m F v d) : Dat G m' F' v d := by
  cases e with
  | non => exact .non
  | bl b => exact .bl b
  | int i => exact .int i
  | str x => exact .str x
  | _ => cases h
/-- frozen, where it is a list of one's own -/
def S.frzO (s : S) (i : Nat) : S := match s.frz i with
  | some s1 => s1
  | none => s
def S.frzs (s : S) : List Nat → S
  | [] => s
  | i :: is => (s.frzO i).frzs is
def plainS (s : S) : Bool := s.st.isEmpty && s.r.all fun
  | .ow _ => false
  | _ => true
def dBor (is : List Nat) (f : S → Option D) : S → Option D := fun s => if plainS (s.frzs is) = true then (f (s.frzs is)).bind fun d => if scal d = true then some d else none else none
theorem plain_none {s : S} (h : plainS s = true) (x : Own) : ownAt s x = none := by
  unfold plainS at h
  rw [Bool.and_eq_true, List.isEmpty_iff, List.all_eq_true] at h
  cases x with
  | inl i =>
    show slO s.r[i]? = none
    cases e : s.r[i]? with
    | none => rfl
    | some sl =>
      have := h.2 sl (List.mem_of_getElem? e)
      cases sl with
      | ow ds => cases this
      | _ => rfl
  | inr q =>
    obtain ⟨n, f⟩ := q
    show (match s.st[n]? with
      | some ob => slO (ob.fs.lookup f)
      | none => none) = none
    rw [h.1]; rfl
theorem frz_eq {s s1 : S} {i : Nat} (h : s.frz i = some s1) : ∃ ds, s.r[i]? = some (.ow ds) ∧ s1 = s.put i (.fr (.lst ds)) := by
  unfold S.frz at h
  split at h
  · rename_i ds e
    cases h
    exact ⟨ds, e, rfl⟩
  · cases h
section
variable {G : Gx} {m : List Addr} {oa : Own → Addr} {σ : L2.St} {H B : Hp}
theorem Rel.frzs : ∀ (is : List Nat) {F : Hp} {s : S}, Rel G B F m oa σ H s → ∃ F1, Rel G B F1 m oa σ H (s.frzs is) ∧ Same F F1 ∧ (s.frzs is).st = s.st ∧ ∀ x ds, ownAt s x = some ds → ownAt (s.frzs is) x = none → F1 (oa x) ≠ none
  | [], F, s, R => ⟨F, R, Same.refl _, rfl, fun x ds e e' => by
      have e' : ownAt s x = none := e'
      rw [e] at e'; cases e'⟩
  | i :: is, F, s, R => by
    show ∃ F1, Rel G B F1 m oa σ H ((s.frzO i).frzs is) ∧ Same F F1 ∧ ((s.frzO i).frzs is).st = s.st ∧ ∀ x ds, ownAt s x = some ds → ownAt ((s.frzO i).frzs is) x = none → F1 (oa x) ≠ none
    cases h1 : s.frz i with
    | none =>
      have e0 : s.frzO i = s := by unfold S.frzO; rw [h1]
      rw [e0]
      exact Rel.frzs is R
    | some s2 =>
      have e0 : s.frzO i = s2 := by unfold S.frzO; rw [h1]
      rw [e0]
      obtain ⟨ds, e1, rfl⟩ := frz_eq h1
      obtain ⟨vs, e2, e3, e4, R2⟩ := R.frz e1
      obtain ⟨F1, R3, f1, st, k⟩ := Rel.frzs is R2
      refine ⟨F1, R3, (same_upd e4).trans f1, st, fun x es e e' => ?_⟩
      by_cases hx : x = .inl i
      · subst hx
        rw [f1 _ _ upd_same]
        simp
      · refine k x es ?_ e'
        cases x with
        | inl j =>
          show slO (s.r.set i (.fr (.lst ds)))[j]? = some es
          rw [List.getElem?_set_ne (fun z => hx (by rw [z]))]
          exact e
        | inr q => exact e
end
section
variable {X : Cx} {C : Str → Option Addr} {e : Expr} {f : S → Option D}
theorem b_val (is : List Nat) (he : PV X C e f) : PV X C e (dBor is f) := by
  refine PE.weak he ?_
  rintro σ H Q ⟨B, F, m, oa, s, d, R, hf, q⟩
  unfold dBor at hf
  split at hf
  · rename_i hp
    obtain ⟨d', h3, h4⟩ := Option.bind_eq_some_iff.mp hf
    split at h4
    · rename_i hs
      cases h4
      obtain ⟨F1, R1, f1, st, k⟩ := R.frzs is
      have st0 : s.st = [] := by
        rw [← st]
        unfold plainS at hp
        rw [Bool.and_eq_true, List.isEmpty_iff] at hp
        exact hp.1
      refine ⟨B, F1, m, oa, _, _, R1, h3, fun v F2 H2 R2 f2 dv => ?_⟩
      refine q v F H2 ?_ (Same.refl _) (scal_dat hs dv)
      have fh : Same F H2 := fun b o e => R2.fh b o (f2 b o (f1 b o e))
      exact
      { fh := fh
        bh := R2.bh
        fb := R.fb
        len := R.len
        slot := R.slot
        cell := fun x ds e => by
          obtain ⟨c1, c2, ws, c3, c4⟩ := R.cell x ds e
          refine ⟨c1, c2, ws, ?_, c4⟩
          have n := k x ds e (plain_none hp x)
          cases z : F1 (oa x) with
          | none => exact absurd z n
          | some o =>
            have e1 := R1.fh _ _ z
            rw [c3] at e1; cases e1
            exact R2.fh _ _ (f2 _ _ z)
        inj := R.inj
        obj := fun n ob e => by rw [st0] at e; simp at e
        ml := R.ml
        mnd := R.mnd }
    · cases h4
  · cases hf
end
end VS
/-! ### try: body, except x as n: y = n: the error kept as a datum -/
namespace L2
open PySem PySem.Spec PyProof.Rows
/-- tracked from now on: an object that came up since the entry -/
theorem Inv.track {X : Cx} {pins : List (Addr × Obj)} {σ : L2.St} {H : Hp} {s : Shared} (I : Inv X pins σ H s) {a : Addr} {o : HO} {ob : Obj} (he : s.heap.get? a = some ob) (na : H a = none) (n0 : X.s_0.heap.get? a = none)
    (nL : a ≠ X.env.locals) (nC : ∀ x c, X.env.cells.lookup x = some c → c ≠ a) (nP : ∀ p ∈ X.pn ++ pins, p.1 ≠ a) (new : ObjOk X.prog X.w (upd H a o) s.heap a o) : Inv X pins σ (upd H a o) s := by
  refine ⟨I.ok, I.os, I.bare, ⟨I.base.keep, I.base.slot, ?_, I.base.there, ?_, ?_, ?_⟩, I.loc, I.cell, ?_, ?_, ?_, ?_, I.len⟩
  · intro b ob' e1 e2 e3
    have hb : b ≠ a := fun z => by rw [z, n0] at e1; cases e1
    rw [upd_ne hb]
    exact I.base.free b ob' e1 e2 e3
  · intro b xs e
    have q := I.base.tups b xs e
    rw [upd_ne (ne_of_none q na)]; exact q
  · intro b o' u e
    have q := I.base.frzs b o' u e
    rw [upd_ne (ne_of_none q na)]; exact q
  · intro b ps e
    obtain ⟨more, q⟩ := I.base.tbls b ps e
    exact ⟨more, by rw [upd_ne (ne_of_none q na)]; exact q⟩
  · rw [upd_ne (Ne.symm nL)]; exact I.free
  · intro x c e
    rw [upd_ne (nC x c e)]; exact I.freeC x c e
  · intro p hp
    obtain ⟨p1, p2, p3⟩ := I.pin p hp
    exact ⟨p1, by rw [upd_ne (nP p hp)]; exact p2, p3⟩
  · intro b u e
    by_cases hb : b = a
    · subst hb
      rw [upd_same] at e
      cases e
      exact new
    · rw [upd_ne hb] at e
      exact (I.hok b u e).stay (fun c v _ q => q) (fun c q => by rw [upd_ne (ne_of_none q na)]; exact q) fun c xs q => by rw [upd_ne (ne_of_none q na)]; exact q
/-- what is wished of an exception of the body -/
def wKp (K : PySem.W.Frag) (c : Value) (i j : Nat) (Wout : WX) (D : Ends) : WX := fun cls d σ H =>
  ∃ b, PySem.W.exmOne K cls c = some b ∧ (b = true → ∃ C, cls = .ref C ∧ ∀ a, H a = none → D.nx (((σ.set i (some (.ref a))).set j (some (.ref a))).set i none) (upd H a (VS.excHO C d a))) ∧ (b = false → Wout cls d σ H)
section
variable {X : Cx} {x n y : Str} {c : Value} {i j : Nat} {body orelse : List Stmt} {np yp p1 apos pos pos' : Pos} {tb : WX → TS} {u : TS} {Wout : WX}
theorem ps_try_keep (stk : X.stack = X.env :: X.outer) (frm : X.env.frame = some X.env.locals) (hN : X.N.Nodup) (hi : X.N[i]? = some n) (hln : X.env.kindOf n = some .local) (hj : X.N[j]? = some y) (hly : Loc X.env.scope y) (hfy : X.fn y = true ∨ X.env.scope.names.lookup y = some .local) (hij : i ≠ j)
    (hex : X.ex = []) (hc : Names X x c) (tk : Takes X Wout) (hdb : (n == ("__debug__" : Str)) = false) (hcd : (n == ("__classdict__" : Str)) = false) (hsw : swapsWith (.Name n p1) (some (.Name y yp)) apos.line X.env = pure false)
    (hb : ∀ (W : WX) (pn : List (Addr × Obj)) (xe : Value → Shared → Prop), Takes (X.tr pn xe) W → PassesOwn (model X.prog X.w) X.A X.env xe → PSs (X.tr pn xe) body (tb W)) (ho : PSs X orelse u) :
    PS X (.Try body [.ExceptHandler (some (.Name x np)) (some n) [.Assign [.Name y yp] (.Name n p1) apos] pos'] orelse [] pos) (fun D σ H => tb (wKp X.K c i j Wout D) { D with nx := u D } σ H) := by
  refine ⟨fun pins s σ H D I h => ?_⟩
  have ok := I.ok
  have fr := ok.frames
  rw [stk] at fr
  have vis : Loc X.env.scope n := .inl hln
  refine wpAny_Try_except ?_
  refine wpAny_mono ((hb (wKp X.K c i j Wout D) (X.pn ++ pins) _ (fun e t xx => ?_) PassesOwn.looking).run [] s σ H { D with nx := u D } (I.toTry _) h) (fun f t hsp => ?_) (fun e t he => he)
  · obtain ⟨a, B, s0, pins0, σ0, H0, cls, d, rfl, J0, nb, up, sky, na, hos, hag, b, hm, hyes, hno⟩ := xx
    have J : Inv X pins σ0 H0 s0 := J0.ofTry ok
    have sky1 : Sky B (X.env :: X.outer) a (Zc cls d) X.env.locals t.heap := by rw [← stk]; exact sky
    show wpAny (model X.prog X.w) X.A (noteFrame (.ref a) X.env) _ _ _
    refine Sky.land Zc.steady fr frm sky1 fun h1 fl1 up1 => ?_
    have J1 : Inv X pins σ0 H0 { t with heap := h1 } := J.landed nb fl1.1 (up.trans up1) hos hag
    obtain ⟨oe, vs, he, hz, hd⟩ := fl1.there
    -- a is no frame, and wasn't there ahead of the raise
    have noF : ∀ {h : Heap} {o : Obj} {ws : Array Value}, h.FunFrames B (X.env :: X.outer) → h.get? a = some o → o.data = .fields ws → a ∉ frs (X.env :: X.outer) := by
      intro h o ws ff e dd hin
      obtain ⟨_, o', e', hnf⟩ := ff.mem hin
      rw [e] at e'
      cases e'
      exact hnf _ dd
    have nf := noF fl1.2.2.1 he hd
    have nL : a ≠ X.env.locals := fun z => nf (List.mem_filterMap.mpr ⟨X.env, List.mem_cons_self, by rw [frm, z]⟩)
    have nF : a ∉ X.fs := by
      intro hin
      obtain ⟨e, h1, q⟩ := List.mem_filterMap.mp hin
      exact nf (List.mem_filterMap.mpr ⟨e, List.mem_cons_of_mem _ h1, q⟩)
    have new0 : s0.heap.get? a = none := by
      cases z : s0.heap.get? a with
      | none => rfl
      | some o0 =>
        have := nb a o0 z (by show a ∉ frs X.stack; rw [stk]; exact nf)
        rw [fl1.2.1] at this
        cases this
    have new1 : X.s_0.heap.get? a = none := by
      cases z : X.s_0.heap.get? a with
      | none => rfl
      | some o0 =>
        obtain ⟨o', q⟩ := J.base.there a o0 z (by rw [hex]; exact fun w => nomatch w)
        rw [new0] at q
        cases q
    have nP : ∀ p ∈ X.pn ++ pins, p.1 ≠ a := fun p hp z => by
      have := (J.pin p hp).1
      rw [z, new0] at this
      cases this
    have nC : ∀ x c, X.env.cells.lookup x = some c → c ≠ a := fun x c e z => by
      obtain ⟨v, o, ho', _⟩ := J.cell x c e
      rw [z, new0] at ho'
      cases ho'
    have S1 := J1.suite he hd na nL nF
    refine wpAny_handleBy_cons (codeAny_handlers_test ?_) (by intro q; cases q)
    have LT : PySem.W.Looks (model X.prog X.w) h1 (typeOf (.ref a)) cls := fun A Q E s k q => wpAny_typeOf_ref (k _ _ he) (by rw [hz.1]; exact q)
    have LM := PySem.W.exm_one (M := model X.prog X.w) (J1.kIn) LT hm
    have look : ∀ {Q : Value → Shared → Prop} {E : Value → Shared → Prop}, Q c { t with heap := h1 } → wpAny (model X.prog X.w) (X.A.mark (some (.ref a))) (eval (.Name x np) X.env) Q E { t with heap := h1 } := by
      intro Q E q
      obtain ⟨hg, hdbg, hm1 | ⟨hm1, hv, hnn⟩⟩ := hc
      · exact ld_glob (X := X.suite a ((a, oe) :: (X.pn ++ pins))) S1 hg hm1 q hdbg
      · exact ld_blt (X := X.suite a ((a, oe) :: (X.pn ++ pins))) S1 hg hm1 hv q hnn hdbg
    refine look (LM.here ?_)
    cases b with
    | true =>
      obtain ⟨C, rfl, hkeep⟩ := hyes rfl
      refine codeAny_handlers_suite_as ?_
      refine HandSPX.lands_againZ fl1 fun h2 fl2 up2 => ?_
      have J2 : Inv X pins σ0 H0 { t with heap := h2 } := J.landed nb fl2.1 ((up.trans up1).trans up2) hos hag
      obtain ⟨oe2, vs2, he2, hz2, hd2⟩ := fl2.there
      have S2 := J2.suite he2 hd2 na nL nF
      refine store_ok (X := X.suite a ((a, oe2) :: (X.pn ++ pins))) (v := .ref a) S2 hN hi vis rfl (fun s5 S5 => ?_) (.inr hln)
      have iσ : i < σ0.length := by rw [J.len]; exact (List.getElem?_eq_some_iff.mp hi).1
      have body1 : PSs (X.suite a ((a, oe2) :: (X.pn ++ pins))) [.Assign [.Name y yp] (.Name n p1) apos] (tAsg (tVar i) (gName j)) :=
        pss_one (ps_set (X := X.suite a ((a, oe2) :: (X.pn ++ pins))) hN hj hly (pe_var (X := X.suite a ((a, oe2) :: (X.pn ++ pins))) hi (.inl hln) hdb hcd) hsw hfy)
      refine wpAny_mono (body1.run [] s5 _ H0 ⟨fun τ G => τ = (σ0.set i (some (.ref a))).set j (some (.ref a)) ∧ G = H0, fun _ _ => False, fun _ _ => False, fun _ _ => False⟩ S5 ⟨.ref a, List.getElem?_set_self iσ, rfl, rfl⟩) (fun f s6 hsp => ?_) (fun _ _ z => False.elim z)
      cases f with
      | next =>
        obtain ⟨τ, G, S6, rfl, rfl⟩ := hsp
        have J6 : Inv X ((a, oe2) :: pins) ((σ0.set i (some (.ref a))).set j (some (.ref a))) G s6 :=
          ⟨ok, S6.os, S6.bare, S6.base, S6.loc, S6.cell, S6.free, S6.freeC, fun p hp => S6.pin p (by
            rw [List.append_nil]
            rcases List.mem_append.mp hp with q | q
            · exact List.mem_cons_of_mem _ (List.mem_append_left _ q)
            · rcases List.mem_cons.mp q with q | q
              · rw [q]; exact List.mem_cons_self
              · exact List.mem_cons_of_mem _ (List.mem_append_right _ q)), S6.hok, S6.len⟩
        refine gone_ok J6 hN hi hln fun s7 J7 => ?_
        have pa := J7.pin (a, oe2) (List.mem_append_right _ List.mem_cons_self)
        have J8 : Inv X pins (((σ0.set i (some (.ref a))).set j (some (.ref a))).set i none) G s7 :=
          ⟨ok, J7.os, J7.bare, J7.base, J7.loc, J7.cell, J7.free, J7.freeC, fun p hp => J7.pin p (by
            rcases List.mem_append.mp hp with q | q
            · exact List.mem_append_left _ q
            · exact List.mem_append_right _ (List.mem_cons_of_mem _ q)), J7.hok, J7.len⟩
        refine ⟨_, _, J8.track pa.1 na new1 nL nC nP (o := VS.excHO C d a) ⟨⟨oe2, vs2, pa.1, hz2, hd2⟩, ⟨oe2, pa.1⟩, fun _ _ ⟨o, v, q, r⟩ k => ⟨o, v, k o q, r⟩⟩, hkeep a na⟩
      | brk => obtain ⟨_, _, _, z⟩ := hsp; exact z.elim
      | cont => obtain ⟨_, _, _, z⟩ := hsp; exact z.elim
      | ret v => obtain ⟨_, _, _, _, _, z⟩ := hsp; exact z.elim
    | false =>
      show wpAny _ X.A (handleBy (.ref a) X.env []) _ _ _
      refine wpAny_handleBy_nil ?_
      obtain ⟨g1, g2, g3, ob, ws, T, oT, tz, w1, w2, w3, w4, w5⟩ := id fl1
      unfold PySem.passOn
      refine wpAny_bind (wpAny_field w1 w3 w4 ?_)
      have nT : ¬ ((Value.ref T == Value.none) = true) := by simp
      rw [if_neg nT]
      have up_ : wpAny (model X.prog X.w) X.A (setFlight (.ref a) X.env.frame) (fun _ s4 => wpAny (model X.prog X.w) X.A (throw (.ref a) : Sem Flow) (SP X pins D) X.xe s4) X.xe { t with heap := h1 } := by
        rw [frm]
        refine HandSPX.setFlight_upZ fl1 fun h2 hh2 up2 => wpAny_throw (tk _ _ ⟨a, B, s0, pins, σ0, H0, cls, d, rfl, J, nb, (up.trans up1).trans up2, .inr (.inr ?_), na, hos, hag, hno rfl⟩)
        rw [stk]
        exact hh2
      first
        | exact wpAny_bind (wpAny_pure (wpAny_bind up_))
        | exact wpAny_bind up_
  · cases f with
    | next =>
      obtain ⟨τ, G, J, q⟩ := hsp
      exact ho.run pins t τ G D (J.ofTry ok) q
    | brk => obtain ⟨τ, G, J, q⟩ := hsp; exact ⟨τ, G, J.ofTry ok, q⟩
    | cont => obtain ⟨τ, G, J, q⟩ := hsp; exact ⟨τ, G, J.ofTry ok, q⟩
    | ret v => obtain ⟨v', τ, G, J, r, q⟩ := hsp; exact ⟨v', τ, G, J.ofTry ok, r, q⟩
end
end L2
namespace VS
open PySem L2
open PyProof.Rows hiding St
/-! ### expressions that may raise -/
inductive Ex (α : Type) where
  | ok (a : α) | er (c : Str) (p : Option Int)
def tX (G : Gx) (W : WX) (f : S → Option (Ex D)) : TE := fun σ H Q => ∃ B F m oa s, Rel G B F m oa σ H s ∧ match f s with
  | some (.ok d) => ∀ v F' H', Rel G B F' m oa σ H' s → Same F F' → Dat G m F' v d → Q v H'
  | some (.er c p) => ∀ Cc dx F' H', G.cls c = some Cc → ExP H' dx p → Rel G B F' m oa σ H' s → Same F F' → W (.ref Cc) dx σ H'
  | none => False
abbrev PX (X : Cx) (C : Str → Option Addr) (W : WX) (e : Expr) (f : S → Option (Ex D)) : Prop := PE X e (tX (gx X C) W f)
def tAX (G : Gx) (W : WX) (f : S → Option (Ex (List D))) : TA := fun σ H Q => ∃ B F m oa s, Rel G B F m oa σ H s ∧ match f s with
  | some (.ok ds) => ∀ vs F' H', Rel G B F' m oa σ H' s → Same F F' → DatL G m F' vs ds → Q vs H'
  | some (.er c p) => ∀ Cc dx F' H', G.cls c = some Cc → ExP H' dx p → Rel G B F' m oa σ H' s → Same F F' → W (.ref Cc) dx σ H'
  | none => False
abbrev PAX (X : Cx) (C : Str → Option Addr) (W : WX) (es : List Expr) (f : S → Option (Ex (List D))) : Prop := PA X es (tAX (gx X C) W f)
section
variable {X : Cx} {C : Str → Option Addr} {W : WX} {N : List Str} {M Ms : List (Option Str)} {gs : List Str} {sc : Scope} {e : Expr} {es : List Expr} {f : S → Option D} {fs : S → Option (List D)} {fx : S → Option (Ex D)} {fxs : S → Option (Ex (List D))} {pos p : Pos}
def xPure (f : S → Option D) : S → Option (Ex D) := fun s => (f s).map .ok
theorem x_pure (he : PV X C e f) : PX X C W e (xPure f) := by
  refine PE.weak he ?_
  rintro σ H Q ⟨B, F, m, oa, s, R, q⟩
  unfold xPure at q
  cases hf : f s with
  | none => rw [hf] at q; exact q.elim
  | some d => rw [hf] at q; exact ⟨B, F, m, oa, s, d, R, hf, q⟩
def axNil : S → Option (Ex (List D)) := fun _ => some (.ok [])
theorem ax_nil : PAX X C W [] axNil := by
  refine PA.weak pa_nil ?_
  rintro σ H Q ⟨B, F, m, oa, s, R, q⟩
  exact q [] F H R (Same.refl _) .nil
def axCons (f : S → Option (Ex D)) (g : S → Option (Ex (List D))) : S → Option (Ex (List D)) := fun s => match f s with
  | some (.ok d) => (match g s with
    | some (.ok ds) => some (.ok (d :: ds))
    | some (.er c p) => some (.er c p)
    | none => none)
  | some (.er c p) => some (.er c p)
  | none => none
theorem ax_cons (he : PX X C W e fx) (hr : PAX X C W es fxs) (hs : starEach (e :: es) X.env = (false, eval e X.env) :: starEach es X.env := by rfl) : PAX X C W (e :: es) (axCons fx fxs) := by
  refine PA.weak (pa_cons he hr hs) ?_
  rintro σ H Q ⟨B, F, m, oa, s, R, q⟩
  unfold axCons at q
  refine ⟨B, F, m, oa, s, R, ?_⟩
  cases h1 : fx s with
  | none => rw [h1] at q; exact q.elim
  | some r =>
    rw [h1] at q
    cases r with
    | er c p => exact q
    | ok d =>
      intro v F1 H1 R1 e1 dv
      refine ⟨B, F1, m, oa, s, R1, ?_⟩
      cases h2 : fxs s with
      | none => rw [h2] at q; exact q.elim
      | some r2 =>
        rw [h2] at q
        cases r2 with
        | er c p => exact fun Cc dx F' H' a b c d => q Cc dx F' H' a b c (e1.trans d)
        | ok ds => exact fun vs F' H' a b c => q (v :: vs) F' H' a (e1.trans b) (.cons (dv.mono b (Pre.refl _)) c)
def rOf (mf : List D → Option Rs) : List D → Option (Ex D) := fun ds => match mf ds with
  | some (.val d) => some (.ok d)
  | some (.own es) => some (.ok (.lst es))
  | some (.exc c p) => some (.er c p)
  | none => none
def rCall (mf : List D → Option Rs) (fs : S → Option (Ex (List D))) : S → Option (Ex D) := fun s => match fs s with
  | some (.ok ds) => rOf mf ds
  | some (.er c p) => some (.er c p)
  | none => none
theorem x_rcall (Dx : DX X N M Ms gs sc) (j : Nat) {k r : Nat} {x : Str} {ps : List Str} {mf : List D → Option Rs} (h : DefOk X.prog X.w X.K X.mg X.base C x k ps mf) (hr : Room r X.A) (hk : k ≤ r) (tk : Takes X W)
    (ha : PAX X C W (e :: es) fxs) (hl : ∀ s ds, fxs s = some (.ok ds) → ds.length = ps.length) (hx : gs[j]? = some x := by rfl)
    (he : starEach (e :: es) X.env = (false, eval e X.env) :: starEach es X.env := by rfl) (hpl : (backTo pos (starEach es X.env)).any (·.1) = false := by rfl) :
    PX X C W (.Call (.Name x p) (e :: es) [] pos) (rCall mf fxs) := by
  obtain ⟨f, fd, Fn, hm, kp, hb⟩ := h.ex
  refine PE.weak (pe_callS (E := WE W) Fn (hr.mono hk) (Dx.g j x hx).1 hm kp hb (fun σ => passAt tk σ) ha (Dx.g j x hx).2 he hpl) ?_
  rintro σ H Q ⟨B, F, m, oa, s, R, q⟩
  refine ⟨B, F, m, oa, s, R, ?_⟩
  unfold rCall at q
  cases h1 : fxs s with
  | none => rw [h1] at q; exact q.elim
  | some r1 =>
    rw [h1] at q
    cases r1 with
    | er c p => exact q
    | ok ds =>
      intro vs F1 H1 R1 e1 dx
      refine ⟨by rw [dx.length, hl s ds h1], F1, m, ds, R1.fh, R1.mnd, dx, ?_⟩
      have keepR : ∀ {F' H' : Hp}, Same F1 F' → Same F' H' → Same H1 H' → (∀ b, F' b ≠ none → F1 b ≠ none ∨ H1 b = none) → Rel (gx X C) B F' m oa σ H' s := by
        intro F' H' g1 g2 g3 g4
        refine R1.grow g1 g2 (fun b o e => g3 b o (R1.bh b o e)) (fun b e => ?_) (fun b o a1 a2 a3 => ⟨g3 b o a3, ?_⟩)
        · rcases g4 b e with h | h
          · exact R1.fb b h
          · exact R1.bh.free h
        · cases e2 : F' b with
          | none => rfl
          | some u =>
            rcases g4 b (by rw [e2]; simp) with h | h
            · exact absurd a1 h
            · rw [a3] at h; cases h
      unfold rOf at q
      cases hm' : mf ds with
      | none => simp only [hm'] at q
      | some r2 =>
        simp only [hm'] at q
        cases r2 with
        | val d => exact fun v F' H' g1 g2 g3 g4 dv => q v F' H' (keepR g1 g2 g3 g4) (e1.trans g1) dv
        | exc c p => exact fun Cc dx F' H' a b g1 g2 g3 g4 => q Cc dx F' H' a b (keepR g1 g2 g3 g4) (e1.trans g1)
        | own es =>
          intro p us F' H' g1 g2 g3 g4 fp hn hp dl
          have ff := same_upd (o := .lst us) fp
          refine q _ (upd F' p (.lst us)) H' (keepR (g1.trans ff) (fun b o e => ?_) g3 fun b e => ?_) (e1.trans (g1.trans ff)) (.lst (SqL.of upd_same) (dl.mono ff (Pre.refl _)))
          · by_cases hb : b = p
            · subst hb; rw [upd_same] at e; cases e; exact hp
            · rw [upd_ne hb] at e; exact g2 b o e
          · by_cases hb : b = p
            · subst hb; exact .inr hn
            · rw [upd_ne hb] at e; exact g4 b e
theorem axNil_len : ∀ s ds, axNil s = some (.ok ds) → ds.length = 0 := by
  intro s ds e
  cases e; rfl
theorem axCons_len {n : Nat} (h : ∀ s ds, fxs s = some (.ok ds) → ds.length = n) : ∀ s ds, axCons fx fxs s = some (.ok ds) → ds.length = n + 1 := by
  intro s ds e
  unfold axCons at e
  split at e
  · split at e
    · rename_i h2
      cases e
      rw [List.length_cons, h s _ h2]
    · cases e
    · cases e
  · cases e
  · cases e
/-! #### statements with them -/
def sExprX (f : S → Option (Ex D)) : S → Option Out := fun s => match f s with
  | some (.ok _) => some (.nx s)
  | some (.er c p) => some (.ex c p s)
  | none => none
theorem s_exprX (he : PX X C W e fx) (hs : swapsWith e none pos.line X.env = pure false := by rfl) : PSV X C W (.Expr e pos) (sExprX fx) := by
  refine ⟨PS.weak (ps_expr he hs) ?_, fun s s' e => ?_⟩
  · rintro D σ H ⟨B, F, m, oa, s, R, q⟩
    refine ⟨B, F, m, oa, s, R, ?_⟩
    unfold sExprX at q
    cases h1 : fx s with
    | none => rw [h1] at q; exact q.elim
    | some r =>
      rw [h1] at q
      cases r with
      | ok d => exact fun v F' H' a b c => q σ H' F' m oa a (Gr.of _ _ b)
      | er c p => exact fun Cc dx F' H' a b c d => q Cc dx σ H' F' m oa a b c (Gr.of _ _ d)
  · unfold sExprX at e
    split at e <;> cases e
    rfl
def sSetX (i : Nat) (f : S → Option (Ex D)) : S → Option Out := fun s => match f s with
  | some (.ok d) => some (.nx (s.put i (.fr d)))
  | some (.er c p) => some (.ex c p s)
  | none => none
theorem s_setX (Dx : DX X N M Ms gs sc) (i : Nat) {x : Str} {pos' : Pos} (he : PX X C W e fx) (hx : Ms[i]? = some (some x) := by rfl) (hs : swapsWith e (some (.Name x pos')) pos.line X.env = pure false := by rfl) : PSV X C W (.Assign [.Name x pos'] e pos) (sSetX i fx) := by
  obtain ⟨w1, w2, w3⟩ := Dx.l i x hx
  refine ⟨PS.weak (ps_set Dx.nd w1 w2 he hs w3) ?_, fun s s' e => ?_⟩
  · rintro D σ H ⟨B, F, m, oa, s, R, q⟩
    refine ⟨B, F, m, oa, s, R, ?_⟩
    unfold sSetX at q
    cases h1 : fx s with
    | none => rw [h1] at q; exact q.elim
    | some r =>
      rw [h1] at q
      cases r with
      | ok d => exact fun v F' H' a b c => q _ H' F' m oa (a.put i c) (Gr.of _ _ b)
      | er c p => exact fun Cc dx F' H' a b c d => q Cc dx σ H' F' m oa a b c (Gr.of _ _ d)
  · unfold sSetX at e
    split at e <;> cases e
    rfl
def sRetX (f : S → Option (Ex D)) : S → Option Out := fun s => match f s with
  | some (.ok d) => some (.rt d s)
  | some (.er c p) => some (.ex c p s)
  | none => none
theorem s_retX (he : PX X C W e fx) : PSV X C W (.Return (some e) pos) (sRetX fx) := by
  refine ⟨PS.weak (ps_ret he) ?_, fun s s' e => ?_⟩
  · rintro D σ H ⟨B, F, m, oa, s, R, q⟩
    refine ⟨B, F, m, oa, s, R, ?_⟩
    unfold sRetX at q
    cases h1 : fx s with
    | none => rw [h1] at q; exact q.elim
    | some r =>
      rw [h1] at q
      cases r with
      | ok d => exact fun v F' H' a b c => q v σ H' F' m oa a (Gr.of _ _ b) c
      | er c p => exact fun Cc dx F' H' a b c d => q Cc dx σ H' F' m oa a b c (Gr.of _ _ d)
  · unfold sRetX at e
    split at e <;> cases e
end
/-! ### try: .. except x as n: y = n -/
def TabOk (C : Str → Option Addr) (tab : List (Str × Bool)) (Q : Addr → Bool → Prop) : Prop := ∀ c b, tab.lookup c = some b → ∀ A, C c = some A → Q A b
def sTry (tab : List (Str × Bool)) (i j : Nat) (g k : S → Option Out) : S → Option Out := fun s => match g s with
  | some (.nx s') => k s'
  | some (.ex c none s') => (match tab.lookup c with
    | some true => if s'.al = s.al then some (.nx (((s'.put i (.fr (.exc c none))).put j (.fr (.exc c none))).put i .un)) else none
    | some false => some (.ex c none s')
    | none => none)
  | some (.rt d s') => some (.rt d s')
  | some (.ro ds s') => some (.ro ds s')
  | _ => none
theorem DX.tr {X : Cx} {N : List Str} {M Ms : List (Option Str)} {gs : List Str} {sc : Scope} (D : DX X N M Ms gs sc) (pn : List (Addr × Obj)) (xe : Value → Shared → Prop) : DX (X.tr pn xe) N M Ms gs sc := ⟨D.n, D.nd, D.calm, D.kind, D.cf, D.room, D.v, D.l, D.g⟩
theorem BX.tr {X : Cx} {W W' : WX} {P : Program} {w : World} {K : PySem.W.Frag} {mg : Str → Option Value} {base : Heap} {N : List Str} {sc : Scope} {k : Nat} (b : BX X W P w K mg base N sc k) {pn : List (Addr × Obj)} {xe : Value → Shared → Prop} (tk : Takes (X.tr pn xe) W') (po : PassesOwn (model X.prog X.w) X.A X.env xe) :
    BX (X.tr pn xe) W' P w K mg base N sc k := ⟨b.prog, b.w, b.K, b.mg, b.base, b.n, b.sc, b.calm, b.fn, b.room, po, tk, b.stk, b.frm, b.ex⟩
section
variable {X : Cx} {C : Str → Option Addr} {W : WX} {N : List Str} {M Ms : List (Option Str)} {gs : List Str} {sc : Scope} {body orelse : List Stmt} {g k : S → Option Out}
theorem s_try (Dx : DX X N M Ms gs sc) (i j l : Nat) {x n y : Str} {tab : List (Str × Bool)} {A : Addr} {np yp p1 apos pos pos' : Pos} {P : Program} {w : World} {K : PySem.W.Frag} {mg : Str → Option Value} {base : Heap} {r : Nat} (b : BX X W P w K mg base N sc r)
    (hA : X.mg x = some (.ref A)) (ht : TabOk C tab fun B v => PySem.W.exmOne X.K (.ref B) (.ref A) = some v)
    (hb : ∀ (W : WX) (pn : List (Addr × Obj)) (xe : Value → Shared → Prop), Takes (X.tr pn xe) W → PassesOwn (model X.prog X.w) X.A X.env xe → PSsV (X.tr pn xe) C W body g) (ho : PSsV X C W orelse k) (hij : i ≠ j)
    (hloc : sc.names.lookup n = some .local) (hx : gs[l]? = some x := by rfl) (hi : Ms[i]? = some (some n) := by rfl) (hj : Ms[j]? = some (some y) := by rfl) (hdb : (n == ("__debug__" : Str)) = false := by decide) (hcd : (n == ("__classdict__" : Str)) = false := by decide)
    (hsw : swapsWith (.Name n p1) (some (.Name y yp)) apos.line X.env = pure false := by rfl) :
    PSV X C W (.Try body [.ExceptHandler (some (.Name x np)) (some n) [.Assign [.Name y yp] (.Name n p1) apos] pos'] orelse [] pos) (sTry tab i j g k) := by
  obtain ⟨w1, w2, w3⟩ := Dx.l i n hi
  obtain ⟨u1, u2, u3⟩ := Dx.l j y hj
  have hln : X.env.kindOf n = some .local := by show X.env.scope.names.lookup n = _; rw [b.sc]; exact hloc
  refine ⟨PS.weak (ps_try_keep (tb := fun W => tSt (gx X C) W g) b.stk b.frm Dx.nd w1 hln u1 u2 u3 hij b.ex ⟨(Dx.g l x hx).1, (Dx.g l x hx).2, .inl hA⟩ b.tk hdb hcd hsw (fun W pn xe tk po => (hb W pn xe tk po).run) ho.run) ?_, fun s s' e => ?_⟩
  · rintro D σ H ⟨B, F, m, oa, s, R, q⟩
    refine ⟨B, F, m, oa, s, R, ?_⟩
    unfold sTry at q
    have al0 := (hb W X.pn X.xe b.tk b.own).al
    cases h1 : g s with
    | none => rw [h1] at q; exact q.elim
    | some o =>
      rw [h1] at q
      cases o with
      | nx s' =>
        intro σ' H' F' m' oa' R' gr
        exact ⟨B, F', m', oa', s', R', by rw [al0 s s' h1]; exact q.from gr⟩
      | rt d s' => exact q
      | ro ds s' => exact q
      | ex c p s' =>
        cases p with
        | some i => exact q.elim
        | none =>
          intro Cc dx σ' H' F' m' oa' hc hp R' gr
          have hp : dx = none := hp
          subst hp
          simp only at q
          cases h2 : tab.lookup c with
          | none => simp only [h2] at q; exact q.elim
          | some v =>
            simp only [h2] at q
            refine ⟨v, ht c v h2 Cc hc, fun hv => ?_, fun hv => ?_⟩
            · subst hv
              simp only at q
              by_cases hal : s'.al = s.al
              case neg => rw [if_neg hal] at q; exact q.elim
              rw [if_pos hal] at q
              refine ⟨Cc, rfl, fun a na => ?_⟩
              have R2 := R'.new na (excHO Cc none a)
              have f2 := same_upd (o := excHO Cc none a) (R'.fresh na).1
              have de : Dat (gx X C) m' (upd F' a (excHO Cc none a)) (.ref a) (.exc c none) := .exc ⟨Cc, none, hc, upd_same, rfl⟩
              have R3 := ((R2.put i de).put j de).put0 i
              exact q _ _ _ m' oa' R3 (gr.trans (Gr.of _ _ f2))
            · subst hv
              exact q Cc none σ' H' F' m' oa' hc rfl R' gr
  · unfold sTry at e
    have al0 := (hb W X.pn X.xe b.tk b.own).al
    split at e
    · rename_i s1 h1
      exact (ho.al _ _ e).trans (al0 _ _ h1)
    · split at e
      · split at e
        · rename_i hal
          cases e
          exact hal
        · cases e
      · cases e
      · cases e
    · cases e
    · cases e
    · cases e
end
end VS
namespace VS
open PySem L2
open PyProof.Rows hiding St
/-! ### isinstance of a caught error -/
def rIsX (K : PySem.W.Frag) : List V → Hp → VK → Prop := fun xs H Q => ∃ (a E : Addr) (c : V) (cv : Value) (b : Bool), xs = [.ref a, c] ∧ RelV c cv ∧ (∀ u, RelV c u → u = cv) ∧ H a = some (excHO E none a) ∧ ExcC K E ∧ PySem.W.kitOne K (.ref E) cv = some b ∧ Q (.bl b) H
theorem call_isX {X : Cx} : CallR X (.builtin "isinstance") (rIsX X.K) := by
  intro pins s σ H xs us Q I r h
  obtain ⟨a, E, c, cv, b, rfl, _, hcv, ha, C, e, q⟩ := h
  obtain ⟨u1, u2, rfl, r1, r2⟩ := vals2 r
  cases (show u1 = Value.ref a from r1)
  have ec := hcv _ r2
  subst ec
  obtain ⟨⟨oe, vs, g1, g2, g3⟩, _⟩ := (show ObjOk X.prog X.w H s.heap a (excHO E none a) from I.hok a _ ha)
  have J : PySem.W.InstAt s.heap a oe E none := by
    obtain ⟨oc, od, oda, osl⟩ := oe
    obtain ⟨h1, h2⟩ := g2
    dsimp only at h1 h2 g3
    subst h1 h2 g3
    exact ⟨g1, rfl, rfl, trivial⟩
  exact PySem.W.kia_one (PySem.W.handS_kitx_exc C.hg C.hk C.hs C.hd C.ha C.hn C.ht C.hm) I.kIn J e (fun z => nomatch z) fun tk => ⟨.bl b, H, I.kept (t' := tk) fun _ _ z => z, rfl, q⟩
section
variable {X : Cx} {C : Str → Option Addr} {N : List Str} {M Ms : List (Option Str)} {gs : List Str} {sc : Scope} {e : Expr} {f : S → Option D} {p pos : Pos}
def dIsiX (tab : List (Str × Bool)) : D → Option D
  | .exc c none => (tab.lookup c).map .bl
  | _ => none
theorem isiX_weak {tab : List (Str × Bool)} {cv : Value} {c : V} (hr : RelV c cv) (hu : ∀ u, RelV c u → u = cv) (ht : TabOk C tab fun A b => ExcC X.K A ∧ PySem.W.kitOne X.K (.ref A) cv = some b) (σ : St) (H : Hp) (Q : VK) (w : tV (gx X C) (d1 (dIsiX tab) f) σ H Q) :
    tV (gx X C) f σ H fun v H1 => rIsX X.K [v, c] H1 Q := by
  obtain ⟨B, F, m, oa, s, d, R, hf, q⟩ := w
  obtain ⟨y, h1, hf⟩ := Option.bind_eq_some_iff.mp hf
  refine ⟨B, F, m, oa, s, y, R, h1, fun v F1 H1 R1 e1 dx => ?_⟩
  cases y with
  | exc x o =>
    cases o with
    | some i => cases hf
    | none =>
      obtain ⟨b, h2, rfl⟩ := Option.map_eq_some_iff.mp hf
      cases dx with
      | exc hx =>
        obtain ⟨A, dd, h3, h4, h5⟩ := hx
        have h5 : dd = none := h5
        subst h5
        obtain ⟨t1, t2⟩ := ht x b h2 A h3
        exact ⟨_, A, c, cv, b, rfl, hr, hu, R1.fh _ _ h4, t1, t2, q _ F1 H1 R1 e1 (.bl _)⟩
  | _ => cases hf
theorem x_isX (Dx : DX X N M Ms gs sc) (j j2 : Nat) {c : Str} {pc : Pos} {tab : List (Str × Bool)} {A : Addr} (hm : X.mg "isinstance" = none) (hA : X.mg c = some (.ref A)) (ht : TabOk C tab fun B b => ExcC X.K B ∧ PySem.W.kitOne X.K (.ref B) (.ref A) = some b) (ha : PV X C e f)
    (hx : gs[j]? = some "isinstance" := by rfl) (hx2 : gs[j2]? = some c := by rfl) (hs : starEach [e, .Name c pc] X.env = (false, eval e X.env) :: starEach [.Name c pc] X.env := by rfl) (hpl : (backTo pos (starEach [.Name c pc] X.env)).any (·.1) = false := by rfl) :
    PV X C (.Call (.Name "isinstance" p) [e, .Name c pc] [] pos) (d1 (dIsiX tab) f) :=
  PE.weak (pe_callB call_isX (Dx.g j _ hx).1 hm b_isinstance.bt (pa_cons ha (pa_cons (pe_glob (v := .ref A) (Dx.g j2 _ hx2).1 hA rfl (Dx.g j2 _ hx2).2) pa_nil) hs) b_isinstance.nn b_isinstance.nd hs hpl) fun σ H Q w => isiX_weak (c := .ref A) (cv := .ref A) rfl (fun u h => h) ht σ H Q w
theorem x_isXv (Dx : DX X N M Ms gs sc) (j j2 : Nat) {pc : Pos} {tab : List (Str × Bool)} (hm : X.mg "isinstance" = none) (hA : X.mg "ValueError" = none) (ht : TabOk C tab fun B b => ExcC X.K B ∧ PySem.W.kitOne X.K (.ref B) (.type "ValueError") = some b) (ha : PV X C e f)
    (hx : gs[j]? = some "isinstance" := by rfl) (hx2 : gs[j2]? = some "ValueError" := by rfl) (hs : starEach [e, .Name "ValueError" pc] X.env = (false, eval e X.env) :: starEach [.Name "ValueError" pc] X.env := by rfl) (hpl : (backTo pos (starEach [.Name "ValueError" pc] X.env)).any (·.1) = false := by rfl) :
    PV X C (.Call (.Name "isinstance" p) [e, .Name "ValueError" pc] [] pos) (d1 (dIsiX tab) f) :=
  PE.weak (pe_callB call_isX (Dx.g j _ hx).1 hm b_isinstance.bt (pa_cons ha (pa_cons (pe_bltn (v := .ty "ValueError") (Dx.g j2 _ hx2).1 hA L2.boot_ValueError rfl (by decide) (Dx.g j2 _ hx2).2) pa_nil) hs) b_isinstance.nn b_isinstance.nd hs hpl) fun σ H Q w => isiX_weak (c := .ty "ValueError") (cv := .type "ValueError") rfl (fun u h => h) ht σ H Q w
end
section
variable {X : Cx} {C : Str → Option Addr} {a : Expr} {f : S → Option D} {pos : Pos}
theorem q_isN {j pos'} (ha : PV X C a f) : PTV X C (.Compare a [.Is] [.Constant .none j pos'] pos) (tB1 (d1 dIsN f)) := by
  refine PT.weak (pt_cmpR op_isN ha pe_non (nomark _)) ?_
  rintro σ H Q ⟨B, F, m, oa, s, b, R, hf, q⟩
  have hf' : ((f s).bind dIsN).bind dB = some b := hf
  obtain ⟨x, h1, h2⟩ := Option.bind_eq_some_iff.mp hf'
  obtain ⟨y, h3, h4⟩ := Option.bind_eq_some_iff.mp h1
  cases h4
  cases h2
  exact ⟨B, F, m, oa, s, y, R, h3, fun v F1 H1 R1 e1 dx => ⟨rfl, _, rfl, by rw [isN_dat dx]; exact q F1 H1 R1 e1⟩⟩
theorem q_notN {j pos'} (ha : PV X C a f) : PTV X C (.Compare a [.IsNot] [.Constant .none j pos'] pos) (tB1 (d1 dNotN f)) := by
  refine PT.weak (pt_cmpR op_notN ha pe_non (nomark _)) ?_
  rintro σ H Q ⟨B, F, m, oa, s, b, R, hf, q⟩
  have hf' : ((f s).bind dNotN).bind dB = some b := hf
  obtain ⟨x, h1, h2⟩ := Option.bind_eq_some_iff.mp hf'
  obtain ⟨y, h3, h4⟩ := Option.bind_eq_some_iff.mp h1
  cases h4
  cases h2
  exact ⟨B, F, m, oa, s, y, R, h3, fun v F1 H1 R1 e1 dx => ⟨rfl, _, rfl, by rw [isN_dat dx]; exact q F1 H1 R1 e1⟩⟩
end
/-! ### the tables, from the facts of the classes -/
section
variable {K : PySem.W.Frag} {r t : Addr} {b : Bool}
theorem kit_ref (hc : PySem.W.isClsIn K t = true) (ht : PySem.W.typeIn K (.ref t) = some (.type "type")) (hs : PySem.W.subIn K (.ref r) (.ref t) = some b) (hr : PySem.W.subIn K (.ref r) (.ref r) = some true) : PySem.W.kitOne K (.ref r) (.ref t) = some b := by
  unfold PySem.W.kitOne PySem.W.kitCls
  by_cases e : r = t
  · subst e
    rw [hr] at hs
    cases hs
    simp
  · have e1 : ¬ ((Value.ref r == Value.ref t) = true) := by simp [e]
    have e2 : ((PySem.W.clsIn K t).isSome && PySem.W.typeIn K (.ref t) == some (.type "type")) = true := by
      have hc' : (PySem.W.clsIn K t).isSome = true := hc
      rw [hc', ht]; rfl
    rw [if_neg e1]
    simp only
    rw [if_pos e2]
    exact hs
theorem exm_ref' (hc : PySem.W.isClsIn K t = true) (hb : PySem.W.subIn K (.ref t) (.type "BaseException") = some true) (ht : PySem.W.typeIn K (.ref t) = some (.type "type")) (hs : PySem.W.subIn K (.ref r) (.ref t) = some b) : PySem.W.exmOne K (.ref r) (.ref t) = some b := by
  unfold PySem.W.exmOne PySem.W.kitCls
  have e1 : (PySem.W.subIn K (.ref t) (.type "BaseException") == some true) = true := by rw [hb]; rfl
  have e2 : ((PySem.W.clsIn K t).isSome && PySem.W.typeIn K (.ref t) == some (.type "type")) = true := by
    have hc' : (PySem.W.clsIn K t).isSome = true := hc
    rw [hc', ht]; rfl
  rw [if_pos e1]
  simp only
  rw [if_pos e2]
  exact hs
theorem kit_VE (hs : PySem.W.subIn K (.ref r) (.type "ValueError") = some b) : PySem.W.kitOne K (.ref r) (.type "ValueError") = some b := by
  unfold PySem.W.kitOne PySem.W.kitCls
  have e1 : ¬ ((Value.ref r == Value.type "ValueError") = true) := by simp
  have e2 : PySem.W.kitMeta "ValueError" = true := by decide +kernel
  rw [if_neg e1]
  simp only
  rw [if_pos e2]
  exact hs
end
theorem tab_nil {C : Str → Option Addr} {Q : Addr → Bool → Prop} : TabOk C [] Q := fun c b e => by cases e
theorem tab_cons {C : Str → Option Addr} {Q : Addr → Bool → Prop} {x : Str} {A : Addr} {v : Bool} {tab : List (Str × Bool)} (hC : C x = some A) (q : Q A v) (h : TabOk C tab Q) : TabOk C ((x, v) :: tab) Q := fun c b e B hB => by
  rw [List.lookup_cons] at e
  by_cases hc : c = x
  · subst hc
    rw [beq_self_eq_true] at e
    cases e
    rw [hC] at hB
    cases hB
    exact q
  · have : (c == x) = false := by simpa using hc
    rw [this] at e
    exact h c b e B hB
end VS
namespace VS
open PySem L2
open PyProof.Rows hiding St
/-! ### what is never reached: nothing is asked of it -/
section
variable {X : Cx} {C : Str → Option Addr} {W : WX} {st : Stmt} {sts : List Stmt}
def sNo : S → Option Out := fun _ => none
theorem s_no : PSV X C W st sNo := ⟨⟨fun pins s σ H D I w => by
  obtain ⟨B, F, m, oa, s, R, q⟩ := w
  exact q.elim⟩, fun s s' e => by cases e⟩
end
/-! ### in, not in: a whole number in a list or a tuple of whole numbers -/
section
variable {X : Cx} {C : Str → Option Addr} {a b : Expr} {f h : S → Option D} {pos : Pos}
def dIn (neg : Bool) (x y : D) : Option D := match x, dSeq y with
  | .int i, some (_, ds) => (intsOf ds).map fun ns => .bl (neg != ns.contains i)
  | _, _ => none
theorem inV_ints (i : Int) : ∀ ns : List Int, inV (.int i) (ns.map V.int) = ns.contains i := by
  intro ns
  induction ns with
  | nil => rfl
  | cons n r ih =>
    show (eqV (.int n) (.int i) || inV (.int i) (r.map V.int)) = (n :: r).contains i
    rw [ih, List.contains_cons]
    show ((n == i) || _) = _
    rw [show (n == i) = (i == n) from by rw [Bool.eq_iff_iff, beq_iff_eq, beq_iff_eq]; exact eq_comm]
theorem flat_ints : ∀ ns : List Int, (ns.map V.int).all flatV = true := by
  intro ns
  induction ns with
  | nil => rfl
  | cons n r ih =>
    rw [List.map_cons, List.all_cons, ih]
    rfl
theorem giv_in (neg : Bool) : Giv X C (rIn X.K neg) (dIn neg) := by
  intro B F m oa σ H s x y d v u Q R hg dx dy q
  unfold dIn at hg
  cases x with
  | int i =>
    cases hy : dSeq y with
    | none => simp only [hy] at hg; cases hg
    | some z =>
      obtain ⟨k, ds⟩ := z
      simp only [hy] at hg
      obtain ⟨ns, h1, rfl⟩ := Option.map_eq_some_iff.mp hg
      cases dx
      obtain ⟨l, vs, rfl, sk, dl⟩ := SeqK.of dy hy
      have e := ints_dat dl h1
      subst e
      refine ⟨l, ns.map V.int, rfl, ?_, rfl, flat_ints ns, ?_⟩
      · cases k with
        | true => exact .inl (R.fh.seq (sk.1 rfl))
        | false => exact .inr (same_seqT R.fh (sk.2 rfl))
      · have : (if neg = true then !inV (.int i) (ns.map V.int) else inV (.int i) (ns.map V.int)) = (neg != ns.contains i) := by
          rw [inV_ints]; cases neg <;> simp
        rw [this]
        exact q _ F H R (Same.refl _) (.bl _)
  | _ => cases hg
theorem v_in (ha : PV X C a f) (hb : PV X C b h) (hm : behindInMarks .In b = false := by rfl) : PV X C (.Compare a [.In] [b] pos) (d2 (dIn false) f h) := v_cmpG op_in_seq (giv_in false) ha hb hm
theorem v_notIn (ha : PV X C a f) (hb : PV X C b h) (hm : behindInMarks .NotIn b = false := by rfl) : PV X C (.Compare a [.NotIn] [b] pos) (d2 (dIn true) f h) := v_cmpG op_notIn_seq (giv_in true) ha hb hm
theorem q_in (ha : PV X C a f) (hb : PV X C b h) (hm : behindInMarks .In b = false := by rfl) : PTV X C (.Compare a [.In] [b] pos) (tB1 (d2 (dIn false) f h)) := q_cmp op_in_seq (giv_in false) ha hb hm
theorem q_notIn (ha : PV X C a f) (hb : PV X C b h) (hm : behindInMarks .NotIn b = false := by rfl) : PTV X C (.Compare a [.NotIn] [b] pos) (tB1 (d2 (dIn true) f h)) := q_cmp op_notIn_seq (giv_in true) ha hb hm
end
/-! ### a comprehension over range(f(..)), f may raise -/
section
variable {X : Cx} {C : Str → Option Addr} {W : WX} {N : List Str} {M Ms : List (Option Str)} {gs : List Str} {sc : Scope} {a tg elt : Expr} {ifs : List Expr} {scope : Scope} {own : List (Str × Nat)} {it : S → Option (List D)} {gg : D → S → Option S} {t : S → Option Bool} {f : S → Option D} {fx : S → Option (Ex D)} {p cp pos : Pos}
def xOr (fx : S → Option (Ex D)) (f : S → Option D) : S → Option (Ex D) := fun s => match fx s with
  | some (.er c p) => some (.er c p)
  | _ => (f s).map .ok
theorem PE.or2 {e : Expr} {t1 t2 : TE} (h1 : PE X e t1) (h2 : PE X e t2) : PE X e (fun σ H Q => t1 σ H Q ∨ t2 σ H Q) := ⟨fun pins s σ H Q I w => w.elim (h1.run pins s σ H Q I) (h2.run pins s σ H Q I)⟩
theorem x_lcR (Dx : DX X N M Ms gs sc) (j : Nat) (hm : X.mg "range" = none) (ha : PX X C W a fx) (h : LcX X C scope own tg (.Call (.Name "range" p) [a] [] cp) ifs elt it gg t f) (hx : gs[j]? = some "range" := by rfl)
    (hs0 : starEach [a] X.env = (false, eval a X.env) :: starEach [] X.env := by rfl) (hs1 : starEach [a] X.env = [(false, eval a X.env)] := by rfl) (hs : ∀ x, foldedSetIterable (.Call (.Name "range" p) [a] [] cp) X.env x = pure x := by intro _; rfl) :
    PX X C W (.ListComp elt [⟨tg, .Call (.Name "range" p) [a] [] cp, ifs, 0⟩] scope pos) (xOr fx (vN (nLc (own.map (·.2)) it gg t f))) := by
  have h1 := pe_lc (elt := elt) (pos := pos) (te := tV (gx X C) f) (g := tG (gx X C) (own.map (·.2)) gg) (tt := tT (gx X C) t) Dx.calm Dx.nd (pi_range1 (tg := tg) (p := p) (pos := cp) (Dx.g j _ hx).1 hm (pa_cons ha pa_nil hs0) hs1) h.ok (fun s H L cl fp => (h.hg s H L cl fp).run) h.ht h.he hs
  have h2 : PV X C (.ListComp elt [⟨tg, .Call (.Name "range" p) [a] [] cp, ifs, 0⟩] scope pos) (vN (nLc (own.map (·.2)) it gg t f)) := v_ofN (x_lc Dx h hs)
  refine PE.weak (PE.or2 h1 h2) ?_
  rintro σ H Q ⟨B, F, m, oa, s, R, q⟩
  unfold xOr at q
  cases hf : fx s with
  | none =>
    rw [hf] at q
    right
    cases hg : vN (nLc (own.map (·.2)) it gg t f) s with
    | none => simp only [hg] at q; exact q.elim
    | some d => simp only [hg] at q; exact ⟨B, F, m, oa, s, d, R, hg, q⟩
  | some r =>
    rw [hf] at q
    cases r with
    | ok d0 =>
      right
      cases hg : vN (nLc (own.map (·.2)) it gg t f) s with
      | none => simp only [hg] at q; exact q.elim
      | some d => simp only [hg] at q; exact ⟨B, F, m, oa, s, d, R, hg, q⟩
    | er c p =>
      left
      exact ⟨B, F, m, oa, s, R, by rw [hf]; exact q⟩
end
end VS
/-! ### a tuple by 1 -/
namespace L2
open PySem PySem.Spec PyProof.Rows PySem.Calls
theorem tuple_mul_one (l : Addr) (items : Array Value) (n : Nat) (dd : Option Addr) (sl : Array (Option Value)) (u : Tok) :
    Meets (Builtin.«tuple.__mul__» ⟨[.ref l, .int 1 u], []⟩) (fun _ R s => s.heap.get? l = some { cls := .type "tuple", dict := dd, data := .seq items n, slots := sl } ∧ R (.ok (.ret (Value.ref l))) s) :=
  .of_wp fun prog w A R s h => by
    obtain ⟨hp, g, d, tk, os⟩ := s
    obtain ⟨hq, h⟩ := h
    have f1 := AutoSeq1.idx_int
    have c0 : (decide ((1 : Int) < -(2 ^ 63)) || decide ((1 : Int) ≥ 2 ^ 63)) = false := by decide
    have c1 : (items.isEmpty || (1 : Int) == 1) = true := by simp
    wp_walk using wpAny_loadPart' hq
    repeat (first
      | (refine wpAny_ite_false (decide_eq_false (by rw [c0]; simp)) ?_; wp_walk using wpAny_loadPart' hq)
      | (refine wpAny_ite_true (decide_eq_true c1) ?_; wp_walk using wpAny_loadPart' hq))
    exact ⟨_, rfl, h⟩
def rRepOne (K : PySem.W.Frag) : R2 := fun x y H Q => ∃ l xs, x = .ref l ∧ y = .int 1 ∧ SqT K H l xs ∧ Q (.ref l) H
theorem op_repOne {X : Cx} : OpR X (binaryOp .Mult) (rRepOne X.K) := by
  intro pins s σ H x y v u Q I rx ry h
  obtain ⟨l, xs, rfl, rfl, hT, q⟩ := h
  cases rx
  obtain ⟨t, rfl⟩ := ry
  obtain ⟨its, r, ⟨⟨cls, dd, data, sl⟩, ho, hc, n, hd⟩, hs⟩ := I.tuple hT
  simp only at hc hd
  subst hc hd
  refine wpAny_binaryOp_repeat_ref (T := "tuple") (U := "int") (by decide) ⟨_, ho, rfl⟩ (fun s' => typeIs_int s' 1 t) noFill_tuple_mul F.fills_int_mul F.slot_int_rmul repeat_tuple F.slot_int_index.lookup
    (call_meets F.slot_int_rmul (typeIs_int s 1 t) F.entry_int_rmul (F.args_int_rmul_2 _ _) (int_rmul_tuple 1 t l its.toArray n dd sl)
      ⟨ho, rfl, ⟨_, ho, rfl⟩, call_meets F.slot_tuple_mul ⟨_, ho, rfl⟩ F.entry_tuple_mul (F.args_tuple_mul_2 _ _) (tuple_mul_one l its.toArray n dd sl t) ⟨ho, ?_⟩⟩)
  exact ⟨.ref l, H, I, rfl, q⟩
end L2
namespace VS
open PySem L2
open PyProof.Rows hiding St
/-! ### a tuple by a number; extend; an argument that raises ahead of all else -/
section
variable {X : Cx} {C : Str → Option Addr} {W : WX} {N : List Str} {M Ms : List (Option Str)} {gs : List Str} {sc : Scope} {a b e : Expr} {f h : S → Option D} {fs : S → Option (List D)} {fx : S → Option (Ex D)} {pos p : Pos}
def repD (ds : List D) (k : Nat) : List D := (List.replicate k ds).flatten
def dMulT : D → D → Option D
  | .tup ds, .int k => if ds ≠ [] ∧ 1 ≤ k ∧ k ≤ 1000 ∧ ds.length ≤ 1000 then some (.tup (repD ds k.toNat)) else none
  | _, _ => none
theorem DatL.rep {G : Gx} {m : List Addr} {F : Hp} {vs : List V} {ds : List D} (h : DatL G m F vs ds) : ∀ k : Nat, DatL G m F (List.replicate k vs).flatten (repD ds k)
  | 0 => .nil
  | k + 1 => by
    unfold repD
    rw [List.replicate_succ, List.replicate_succ, List.flatten_cons, List.flatten_cons]
    exact h.append (DatL.rep h k)
theorem giv_mulT : Giv X C (fun x y H Q => rRepT X.K x y H Q ∨ rRepOne X.K x y H Q) dMulT := by
  intro B F m oa σ H s x y d v u Q R hg dx dy q
  cases x with
  | tup ds =>
    cases y with
    | int k =>
      unfold dMulT at hg
      simp only at hg
      split at hg
      · rename_i hc
        obtain ⟨h1, h2, h3, h4⟩ := hc
        cases hg
        cases dy
        cases dx with
        | @tup l vs _ w1 w2 =>
          by_cases hk : k = 1
          · subst hk
            right
            refine ⟨l, vs, rfl, rfl, same_seqT R.fh w1, q _ F H R (Same.refl _) ?_⟩
            have e : repD ds (1 : Int).toNat = ds := by
              show (List.replicate 1 ds).flatten = ds
              simp
            rw [e]
            exact .tup w1 w2
          · left
            have hne : vs ≠ [] := fun z => h1 (by
              subst z
              have := w2.length
              exact List.eq_nil_of_length_eq_zero this.symm)
            refine ⟨l, k, vs, rfl, rfl, same_seqT R.fh w1, hne, by omega, h3, by rw [w2.length]; exact h4, fun p hp => ?_⟩
            have ff := same_upd (o := .tup (List.replicate k.toNat vs).flatten) (R.fresh hp).1
            exact q _ _ _ (R.new hp _) ff (.tup (SqT.of upd_same) ((w2.rep k.toNat).mono ff (Pre.refl _)))
      · cases hg
    | _ => cases hg
  | _ => cases hg
theorem v_mulT (ha : PV X C a f) (hb : PV X C b h) : PV X C (.BinOp a .Mult b pos) (d2 dMulT f h) := v_bin (op_repT.or op_repOne) giv_mulT ha hb
def sExt (i : Nat) (fs : S → Option (List D)) : S → Option Out := fun s => (fs s).bind fun es => (s.own i).bind fun ds => if ds.length + es.length ≤ 1000000 then some (.nx (s.put i (.ow (ds ++ es)))) else none
theorem s_ext (Dx : DX X N M Ms gs sc) (i : Nat) {x : Str} {px apos cpos : Pos} (he : PN X C e fs) (hx : M[i]? = some (some x) := by rfl) (hline : (apos.endLine == cpos.line) = true := by rfl) (hs0 : starEach [e] X.env = (false, eval e X.env) :: starEach [] X.env := by rfl)
    (hfew : ((backTo cpos (starEach [e] X.env)).all (fun x => !x.1) && (backToKw cpos (keywordEach [] X.env)).all (fun x => x.1.isSome) && decide ([e].length + ([] : List Keyword).length + (if ([] : List Keyword).isEmpty then 0 else 1) < 30)) = true := by rfl)
    (hb : attributeBase (.Name x px) "extend" X.env (eval (.Name x px) X.env) = eval (.Name x px) X.env := by rfl) (hsw : swapsWith (.Call (.Attribute (.Name x px) "extend" apos) [e] [] cpos) none pos.line X.env = pure false := by rfl) :
    PSV X C W (.Expr (.Call (.Attribute (.Name x px) "extend" apos) [e] [] cpos) pos) (sExt i fs) := by
  obtain ⟨n1, n2, n3, n4⟩ := Dx.v i x hx
  refine ⟨PS.weak (ps_expr (pe_bm PySem.F.plainAttrs_list PySem.F.slot_list_extend PySem.F.type_list_extend mt_extend (pe_var n1 n2 n3 n4) (pa_cons he pa_nil hs0) hb hfew hline hs0 rfl) hsw) ?_, fun s s' e => ?_⟩
  · rintro D σ H ⟨B, F, m, oa, s, R, q⟩
    unfold sExt at q
    cases hf : fs s with
    | none => rw [hf] at q; exact q.elim
    | some es =>
      rw [hf, Option.bind_some] at q
      cases ho : s.own i with
      | none => rw [ho] at q; exact q.elim
      | some ds =>
        rw [ho, Option.bind_some] at q
        split at q
        · rename_i hl
          obtain ⟨us, e1, e2, e3⟩ := own_cell R ho
          refine ⟨_, e1, Or.inl ⟨rfl, us, SqL.of e2⟩, B, F, m, oa, s, es, R, hf, fun pl vs F' H' hbp R' ff dv => ?_⟩
          obtain ⟨us', e1', e2', e3'⟩ := own_cell R' ho
          have hp := R'.bh pl _ upd_same
          have R2 := (R'.setOwn (own_get ho) (e3'.append dv)).lessB (B' := B) (same_upd hbp)
          exact ⟨_, pl, us', vs, rfl, rfl, e2', hp, by rw [e3'.length, dv.length, szl]; omega, q _ _ F' m oa R2 (Gr.of _ _ ff)⟩
        · exact q.elim
  · obtain ⟨d, _, h2⟩ := Option.bind_eq_some_iff.mp e
    obtain ⟨ds, _, h4⟩ := Option.bind_eq_some_iff.mp h2
    split at h4
    · cases h4; rfl
    · cases h4
/-- of the ways of fx the raising one alone -/
def tEr (G : Gx) (W : WX) (fx : S → Option (Ex D)) : St → Hp → Prop := fun σ H => ∃ B F m oa s, Rel G B F m oa σ H s ∧ ∃ c p, fx s = some (.er c p) ∧ ∀ Cc dx F' H', G.cls c = some Cc → ExP H' dx p → Rel G B F' m oa σ H' s → Same F F' → W (.ref Cc) dx σ H'
abbrev PEr (X : Cx) (C : Str → Option Addr) (W : WX) (e : Expr) (fx : S → Option (Ex D)) : Prop := PE X e (fun σ H _ => tEr (gx X C) W fx σ H)
theorem er_of (h : PX X C W e fx) : PEr X C W e fx := PE.weak h fun σ H Q ⟨B, F, m, oa, s, R, c, p, h1, h2⟩ => ⟨B, F, m, oa, s, R, by rw [h1]; exact h2⟩
/-- a statement that begins with such a call -/
def sOr (fx : S → Option (Ex D)) (g : S → Option Out) : S → Option Out := fun s => match fx s with
  | some (.er c p) => some (.ex c p s)
  | _ => g s
theorem s_or {st : Stmt} {g : S → Option Out} (h1 : PS X st (fun _ σ H => tEr (gx X C) W fx σ H)) (h2 : PSV X C W st g) : PSV X C W st (sOr fx g) := by
  refine ⟨⟨fun pins s σ H D I w => ?_⟩, fun s s' e => ?_⟩
  · obtain ⟨B, F, m, oa, t, R, q⟩ := w
    unfold sOr at q
    cases hf : fx t with
    | none => rw [hf] at q; exact h2.run.run pins s σ H D I ⟨B, F, m, oa, t, R, q⟩
    | some r =>
      rw [hf] at q
      cases r with
      | ok d => exact h2.run.run pins s σ H D I ⟨B, F, m, oa, t, R, q⟩
      | er c p => exact h1.run pins s σ H D I ⟨B, F, m, oa, t, R, c, p, hf, fun Cc dx F' H' a b c d => q Cc dx σ H' F' m oa a b c (Gr.of _ _ d)⟩
  · unfold sOr at e
    split at e
    · cases e
    · exact h2.al _ _ e
theorem er_ret (h : PEr X C W e fx) : PS X (.Return (some e) pos) (fun _ σ H => tEr (gx X C) W fx σ H) := PS.weak (ps_ret h) fun D σ H w => w
theorem er_if {c : Expr} {sts sts2 : List Stmt} (h : PT X c (fun σ H _ => tEr (gx X C) W fx σ H)) (h1 : PSs X sts (fun _ _ _ => False)) (h2 : PSs X sts2 (fun _ _ _ => False)) : PS X (.If c sts sts2 pos) (fun _ σ H => tEr (gx X C) W fx σ H) := PS.weak (ps_if h h1 h2) fun D σ H w => w
theorem er_notN {j : Nat} {p2 : Pos} (h : PEr X C W a fx) : PT X (.Compare a [.IsNot] [.Constant .none j p2] pos) (fun σ H _ => tEr (gx X C) W fx σ H) := PT.weak (pt_cmpR op_notN h pe_non (nomark _)) fun σ H Q w => w
theorem pss_no {sts : List Stmt} : PSs X sts (fun _ _ _ => False) := ⟨fun pins s σ H D I w => w.elim⟩
/-- a comprehension whose walk begins with such a call -/
theorem er_lc (Dx : DX X N M Ms gs sc) {scope : Scope} {own : List (Str × Nat)} {tg elt : Expr} {ifs : List Expr} {it : S → Option (List D)} {gg : D → S → Option S} {t : S → Option Bool} {f : S → Option D} (ha : PEr X C W a fx) (h : LcX X C scope own tg a ifs elt it gg t f)
    (hs : ∀ x, foldedSetIterable a X.env x = pure x := by intro _; rfl) : PEr X C W (.ListComp elt [⟨tg, a, ifs, 0⟩] scope pos) fx :=
  PE.weak (pe_lc (elt := elt) (pos := pos) (te := tV (gx X C) f) (g := tG (gx X C) (own.map (·.2)) gg) (tt := tT (gx X C) t) Dx.calm Dx.nd (pi_list (tg := tg) ha) h.ok (fun s H L cl fp => (h.hg s H L cl fp).run) h.ht h.he hs) fun σ H Q w => w
end
end VS
namespace VS
open PySem L2
open PyProof.Rows hiding St
/-! ### objects lent: all that is one's own frozen, for an expression whose value bears none of it -/
def slD : Option Sl → D
  | some (.fr d) => d
  | some (.ow ds) => .lst ds
  | _ => .non
/-- an object as a datum -/
def obD (ob : Ob) : D := .rob ob.cls (ob.fs.map (·.1)) (ob.fs.map fun q => slD (ob.fs.lookup q.1))
def lendSl (st : List Ob) : Sl → Sl
  | .ow ds => .fr (.lst ds)
  | .fr (.obj n) => match st[n]? with
    | some ob => .fr (obD ob)
    | none => .fr (.obj n)
  | x => x
def S.lend (s : S) : S := ⟨s.r.map (lendSl s.st), [], false⟩
mutual
def noL : D → Bool
  | .lst _ => false
  | .rob _ _ _ => false
  | .tup xs => noLs xs
  | _ => true
def noLs : List D → Bool
  | [] => true
  | x :: xs => noL x && noLs xs
end
section
variable {G : Gx} {m : List Addr} {oa : Own → Addr} {σ : L2.St} {H B F : Hp} {s : S}
/-- what is one's own -/
def Mine (m : List Addr) (oa : Own → Addr) (s : S) (b : Addr) : Prop := (∃ x ds, ownAt s x = some ds ∧ b = oa x) ∨ ∃ (n : Nat) (ob : Ob), s.st[n]? = some ob ∧ m[n]? = some b
open Classical in
noncomputable def notMine (m : List Addr) (oa : Own → Addr) (s : S) (F : Hp) : Hp := fun b => if Mine m oa s b then none else F b
open Classical in
noncomputable def notIn (H B : Hp) : Hp := fun b => if B b = none then H b else none
theorem notIn_of {b : Addr} (h : B b = none) : notIn H B b = H b := by unfold notIn; rw [if_pos h]
theorem notIn_some {b : Addr} {o : HO} (h : notIn H B b = some o) : B b = none ∧ H b = some o := by
  unfold notIn at h
  split at h
  · rename_i e; exact ⟨e, h⟩
  · cases h
theorem lookup_map_ns {β γ : Type} (g : Str → γ) : ∀ (fs : List (Str × β)) (f : Str), ((fs.map (·.1)).zip (fs.map fun q => g q.1)).lookup f = (fs.lookup f).map fun _ => g f
  | [], f => rfl
  | (k, v) :: r, f => by
    have ih := lookup_map_ns g r f
    rw [List.map_cons, List.map_cons, List.zip_cons_cons]
    by_cases h : f = k
    · subst h
      simp [List.lookup]
    · have hb : (f == k) = false := beq_eq_false_iff_ne.mpr h
      simp only [List.lookup, hb]
      exact ih
theorem lookup_mem {β : Type} : ∀ {fs : List (Str × β)} {q : Str × β}, q ∈ fs → ∃ v, fs.lookup q.1 = some v
  | (k, v) :: r, q, h => by
    by_cases e : q.1 = k
    · exact ⟨v, by simp [List.lookup, e]⟩
    · have hb : (q.1 == k) = false := beq_eq_false_iff_ne.mpr e
      rcases List.mem_cons.mp h with rfl | h
      · exact absurd rfl e
      · obtain ⟨w, h2⟩ := lookup_mem h
        exact ⟨w, by simp only [List.lookup, hb]; exact h2⟩
theorem datL_map {F : Hp} {α : Type} (f : α → V) (g : α → D) : ∀ (xs : List α), (∀ x ∈ xs, Dat G m F (f x) (g x)) → DatL G m F (xs.map f) (xs.map g)
  | [], _ => .nil
  | x :: xs, h => .cons (h x List.mem_cons_self) (datL_map f g xs fun y hy => h y (List.mem_cons_of_mem _ hy))
/-- an object frozen -/
theorem ob_dat {n : Nat} {ob : Ob} {a : Addr} (R : Rel G B F m oa σ H s) (e : s.st[n]? = some ob) (ha : m[n]? = some a) : Dat G m (notIn H B) (.ref a) (obD ob) := by
  obtain ⟨a', C, dx, fs, h1, h2, h3, h4, h5, h6, h7⟩ := (R.obj n ob e).ex
  rw [ha] at h1; cases h1
  have f1 : Same F (notIn H B) := fun b o z => by rw [notIn_of (R.fb b (by rw [z]; simp))]; exact R.fh b o z
  have val : ∀ f, match ob.fs.lookup f with
      | none => fs.lookup f = none
      | some sl => ∃ v, fs.lookup f = some v ∧ Dat G m (notIn H B) v (slD (some sl)) := fun f => by
    have q := h7 f
    cases hl : ob.fs.lookup f with
    | none => rw [hl] at q; exact q
    | some sl =>
      rw [hl] at q
      cases sl with
      | un => exact q.elim
      | fr d => obtain ⟨v, q1, q2⟩ := q; exact ⟨v, q1, q2.mono f1 (Pre.refl _)⟩
      | ow ds =>
        have c := R.cell (.inr (n, f)) ds (by
          show (match s.st[n]? with
            | some ob => slO (ob.fs.lookup f)
            | none => none) = _
          rw [e]; show slO (ob.fs.lookup f) = _; rw [hl]; rfl)
        obtain ⟨c1, c2, vs, c3, c4⟩ := c
        exact ⟨_, q, .lst (SqL.of (by rw [notIn_of c2]; exact c3)) (c4.mono f1 (Pre.refl _))⟩
  refine .rob (vs := ob.fs.map fun q => (fs.lookup q.1).getD .non) h2 (by rw [notIn_of h5]; exact h3) (fun f => ?_) (datL_map _ _ _ fun q hq => ?_)
  · rw [lookup_map_ns (fun f => (fs.lookup f).getD .non)]
    have v := val f
    cases hl : ob.fs.lookup f with
    | none => rw [hl] at v; rw [v]; rfl
    | some sl => rw [hl] at v; obtain ⟨w, v1, v2⟩ := v; rw [v1]; rfl
  · obtain ⟨sl, hl⟩ := lookup_mem hq
    have v := val q.1
    rw [hl] at v ⊢
    obtain ⟨w, v1, v2⟩ := v
    rw [v1]
    exact v2
theorem lend_own (x : Own) : ownAt s.lend x = none := by
  cases x with
  | inr q => rfl
  | inl i =>
    show slO (s.r.map (lendSl s.st))[i]? = none
    rw [List.getElem?_map]
    cases s.r[i]? with
    | none => rfl
    | some sl =>
      cases sl with
      | un => rfl
      | ow ds => rfl
      | fr d =>
        cases d with
        | obj n =>
          show slO (some (lendSl s.st (.fr (.obj n)))) = none
          unfold lendSl
          simp only
          cases s.st[n]? <;> rfl
        | _ => rfl
theorem Rel.lend (R : Rel G B F m oa σ H s) : Rel G B (notIn H B) m oa σ H s.lend ∧ Same F (notIn H B) := by
  have f1 : Same F (notIn H B) := fun b o z => by rw [notIn_of (R.fb b (by rw [z]; simp))]; exact R.fh b o z
  refine ⟨?_, f1⟩
  exact
  { fh := fun b o e => (notIn_some e).2
    bh := R.bh
    fb := fun b e => by
      cases z : notIn H B b with
      | none => exact absurd z e
      | some o => exact (notIn_some z).1
    len := by show _ = (s.r.map (lendSl s.st)).length; rw [List.length_map]; exact R.len
    slot := fun i sl e => by
      have e : (s.r.map (lendSl s.st))[i]? = some sl := e
      rw [List.getElem?_map] at e
      obtain ⟨sl0, h1, rfl⟩ := Option.map_eq_some_iff.mp e
      have q := R.slot i sl0 h1
      cases sl0 with
      | un => exact q
      | ow ds =>
        have c := R.cell (.inl i) ds (by show slO s.r[i]? = _; rw [h1]; rfl)
        obtain ⟨c1, c2, vs, c3, c4⟩ := c
        exact ⟨_, q, .lst (SqL.of (by rw [notIn_of c2]; exact c3)) (c4.mono f1 (Pre.refl _))⟩
      | fr d =>
        obtain ⟨v, q1, q2⟩ := q
        cases d with
        | obj n =>
          cases q2 with
          | obj hm =>
          show SlR _ _ _ _ _ (lendSl s.st (.fr (.obj n)))
          unfold lendSl
          simp only
          cases z : s.st[n]? with
          | none => exact ⟨_, q1, .obj hm⟩
          | some ob => exact ⟨_, q1, ob_dat R z hm⟩
        | _ => exact ⟨v, q1, q2.mono f1 (Pre.refl _)⟩
    cell := fun x ds e => by rw [lend_own] at e; cases e
    inj := fun x y ds es e => by rw [lend_own] at e; cases e
    obj := fun n ob e => by cases e
    ml := fun e => by cases e
    mnd := R.mnd }
theorem mine_in (R : Rel G B F m oa σ H s) {b : Addr} (h : Mine m oa s b) : F b = none ∧ B b = none ∧ ∃ o, H b = some o ∧ ((∃ vs, o = .lst vs) ∨ ∃ C dx fs, o = .ins C dx fs) := by
  rcases h with ⟨x, ds, h1, rfl⟩ | ⟨n, ob, h1, h2⟩
  · obtain ⟨c1, c2, vs, c3, _⟩ := R.cell x ds h1
    exact ⟨c1, c2, _, c3, .inl ⟨vs, rfl⟩⟩
  · obtain ⟨a, C, dx, fs, k1, _, k3, k4, k5, _⟩ := (R.obj n ob h1).ex
    rw [h2] at k1; cases k1
    exact ⟨k4, k5, _, k3, .inr ⟨C, dx, fs, rfl⟩⟩
mutual
theorem noL_dat {F2 H2 : Hp} (fh : Same F2 H2) (hm : ∀ b, Mine m oa s b → ∃ o, H2 b = some o ∧ ((∃ vs, o = .lst vs) ∨ ∃ C dx fs, o = .ins C dx fs)) : ∀ {v : V} {d : D}, noL d = true → Dat G m F2 v d → Dat G m (notMine m oa s F2) v d
  | _, _, _, .non => .non
  | _, _, _, .bl b => .bl b
  | _, _, _, .int i => .int i
  | _, _, _, .str x => .str x
  | _, _, h, .tup h1 t => by
    refine .tup ?_ (noLs_dat fh hm (by rw [noL] at h; exact h) t)
    have keep : ∀ (a : Addr) (o : HO), F2 a = some o → (∀ vs, o ≠ .lst vs) → (∀ C dx fs, o ≠ .ins C dx fs) → notMine m oa s F2 a = some o := fun a o e n1 n2 => by
      unfold notMine
      rw [if_neg (fun z => ?_)]
      · exact e
      · obtain ⟨o2, z1, z2⟩ := hm a z
        rw [fh _ _ e] at z1; cases z1
        rcases z2 with ⟨vs, z⟩ | ⟨C, dx, fs, z⟩
        · exact n1 _ z
        · exact n2 _ _ _ z
    rcases h1 with (h1 | ⟨o, h1⟩) | h1
    · exact Or.inl (Or.inl (keep _ _ h1 (fun vs z => by cases z) fun C dx fs z => by cases z))
    · exact Or.inl (Or.inr ⟨o, keep _ _ h1 (fun vs z => by cases z) fun C dx fs z => by cases z⟩)
    · exact Or.inr h1
  | _, _, h, .lst _ _ => by rw [noL] at h; cases h
  | _, _, _, .obj h => .obj h
  | _, .exc c p, _, .exc h => by
    have keep : ∀ (a : Addr) (o : HO), F2 a = some o → (∀ vs, o ≠ .lst vs) → (∀ C dx fs, o ≠ .ins C dx fs) → notMine m oa s F2 a = some o := fun a o e n1 n2 => by
      unfold notMine
      rw [if_neg (fun z => ?_)]
      · exact e
      · obtain ⟨o2, z1, z2⟩ := hm a z
        rw [fh _ _ e] at z1; cases z1
        rcases z2 with ⟨vs, z⟩ | ⟨C, dx, fs, z⟩
        · exact n1 _ z
        · exact n2 _ _ _ z
    obtain ⟨Cc, d, h1, h2, h3⟩ := h
    refine .exc ⟨Cc, d, h1, keep _ _ h2 (fun vs z => by cases z) (fun C dx fs z => by cases z), ?_⟩
    cases p with
    | none => exact h3
    | some i =>
      obtain ⟨dx, f, h4, h5⟩ := h3
      exact ⟨dx, f, h4, keep _ _ h5 (fun vs z => by cases z) (fun C dx fs z => by cases z)⟩
  | _, _, h, .rob _ _ _ _ => by rw [noL] at h; cases h
theorem noLs_dat {F2 H2 : Hp} (fh : Same F2 H2) (hm : ∀ b, Mine m oa s b → ∃ o, H2 b = some o ∧ ((∃ vs, o = .lst vs) ∨ ∃ C dx fs, o = .ins C dx fs)) : ∀ {vs : List V} {ds : List D}, noLs ds = true → DatL G m F2 vs ds → DatL G m (notMine m oa s F2) vs ds
  | _, _, _, .nil => .nil
  | _, _, h, .cons h1 t => by
    rw [noLs, Bool.and_eq_true] at h
    exact .cons (noL_dat fh hm h.1 h1) (noLs_dat fh hm h.2 t)
end
/-- back from the lending -/
theorem Rel.unlend (R : Rel G B F m oa σ H s) {B' F2 H2 : Hp} (f2 : Same (notIn H B) F2) (R2 : Rel G B' F2 m oa σ H2 s.lend) (bb : Same B B') :
    Rel G B' (notMine m oa s F2) m oa σ H2 s ∧ Same F (notMine m oa s F2) ∧ (∀ v d, noL d = true → Dat G m F2 v d → Dat G m (notMine m oa s F2) v d) ∧ (∀ vs ds, noLs ds = true → DatL G m F2 vs ds → DatL G m (notMine m oa s F2) vs ds) := by
  have mine : ∀ b, Mine m oa s b → F b = none ∧ B' b = none ∧ notMine m oa s F2 b = none ∧ ∃ o, H b = some o ∧ H2 b = some o ∧ ((∃ vs, o = .lst vs) ∨ ∃ C dx fs, o = .ins C dx fs) := fun b h => by
    obtain ⟨h1, h2, o, h3, h4⟩ := mine_in R h
    have e1 : F2 b = some o := f2 b o (by rw [notIn_of h2]; exact h3)
    refine ⟨h1, R2.fb b (by rw [e1]; simp), by unfold notMine; rw [if_pos h], o, h3, R2.fh _ _ e1, h4⟩
  have hm : ∀ b, Mine m oa s b → ∃ o, H2 b = some o ∧ ((∃ vs, o = .lst vs) ∨ ∃ C dx fs, o = .ins C dx fs) := fun b h => let ⟨_, _, _, o, _, h2, h3⟩ := mine b h; ⟨o, h2, h3⟩
  have le : ∀ b o, notMine m oa s F2 b = some o → F2 b = some o := fun b o e => by
    unfold notMine at e
    split at e
    · cases e
    · exact e
  have ff : Same F (notMine m oa s F2) := fun b o e => by
    unfold notMine
    rw [if_neg (fun z => by rw [(mine b z).1] at e; cases e)]
    exact f2 b o (R.lend.2 b o e)
  refine ⟨?_, ff, fun v d h => noL_dat R2.fh hm h, fun vs ds h => noLs_dat R2.fh hm h⟩
  exact
  { fh := fun b o e => R2.fh b o (le b o e)
    bh := R2.bh
    fb := fun b e => by
      cases z : notMine m oa s F2 b with
      | none => exact absurd z e
      | some o => exact R2.fb b (by rw [le _ _ z]; simp)
    len := R.len
    slot := fun i sl e => (R.slot i sl e).mono ff (Pre.refl _)
    cell := fun x ds e => by
      obtain ⟨_, _, vs, c3, c4⟩ := R.cell x ds e
      obtain ⟨_, k2, k3, o, k4, k5, _⟩ := mine (oa x) (.inl ⟨x, ds, e, rfl⟩)
      rw [c3] at k4; cases k4
      exact ⟨k3, k2, vs, k5, c4.mono ff (Pre.refl _)⟩
    inj := R.inj
    obj := fun n ob e => by
      obtain ⟨a, C, dx, fs, h1, h2, h3, h4, h5, h6, h7⟩ := (R.obj n ob e).ex
      obtain ⟨_, k2, k3, o, k4, k5, _⟩ := mine a (.inr ⟨n, ob, e, h1⟩)
      rw [h3] at k4; cases k4
      exact ⟨⟨a, C, dx, fs, h1, h2, k5, k3, k2, h6, fun f => (h7 f).mono ff (Pre.refl _)⟩⟩
    ml := R.ml
    mnd := R.mnd }
end
section
variable {X : Cx} {C : Str → Option Addr} {W : WX} {e : Expr} {f : S → Option D} {fs : S → Option (List D)} {t : S → Option Bool} {fx : S → Option (Ex D)}
def dLd (f : S → Option D) : S → Option D := fun s => (f s.lend).bind fun d => if noL d = true then some d else none
def nLd (f : S → Option (List D)) : S → Option (List D) := fun s => (f s.lend).bind fun d => if noLs d = true then some d else none
def bLd (t : S → Option Bool) : S → Option Bool := fun s => t s.lend
def xLd (fx : S → Option (Ex D)) : S → Option (Ex D) := fun s => match fx s.lend with
  | some (.ok d) => if noL d = true then some (.ok d) else none
  | o => o
theorem v_ld (he : PV X C e f) : PV X C e (dLd f) := by
  refine PE.weak he ?_
  rintro σ H Q ⟨B, F, m, oa, s, d, R, hf, q⟩
  obtain ⟨d', h1, h2⟩ := Option.bind_eq_some_iff.mp hf
  split at h2
  · rename_i hn
    cases h2
    refine ⟨B, _, m, oa, _, _, R.lend.1, h1, fun v F2 H2 R2 f2 dv => ?_⟩
    obtain ⟨k1, k2, k3, _⟩ := R.unlend f2 R2 (Same.refl _)
    exact q v _ H2 k1 k2 (k3 v _ hn dv)
  · cases h2
theorem n_ld (he : PN X C e fs) : PN X C e (nLd fs) := by
  refine PE.weak he ?_
  rintro σ H Q ⟨B, F, m, oa, s, d, R, hf, q⟩
  obtain ⟨d', h1, h2⟩ := Option.bind_eq_some_iff.mp hf
  split at h2
  · rename_i hn
    cases h2
    refine ⟨B, _, m, oa, _, _, R.lend.1, h1, fun p vs F2 H2 hb R2 f2 dv => ?_⟩
    obtain ⟨k1, k2, _, k4⟩ := R.unlend f2 R2 (same_upd hb)
    exact q p vs _ H2 hb k1 k2 (k4 vs _ hn dv)
  · cases h2
theorem t_ld (he : PTV X C e t) : PTV X C e (bLd t) := by
  refine PT.weak he ?_
  rintro σ H Q ⟨B, F, m, oa, s, b, R, hf, q⟩
  refine ⟨B, _, m, oa, _, _, R.lend.1, hf, fun F2 H2 R2 f2 => ?_⟩
  obtain ⟨k1, k2, _, _⟩ := R.unlend f2 R2 (Same.refl _)
  exact q _ H2 k1 k2
theorem x_ld (he : PX X C W e fx) : PX X C W e (xLd fx) := by
  refine PE.weak he ?_
  rintro σ H Q ⟨B, F, m, oa, s, R, q⟩
  refine ⟨B, _, m, oa, _, R.lend.1, ?_⟩
  unfold xLd at q
  cases h1 : fx s.lend with
  | none => rw [h1] at q; exact q.elim
  | some r =>
    rw [h1] at q
    cases r with
    | ok d =>
      by_cases hn : noL d = true
      · simp only [if_pos hn] at q
        intro v F2 H2 R2 f2 dv
        obtain ⟨k1, k2, k3, _⟩ := R.unlend f2 R2 (Same.refl _)
        exact q v _ H2 k1 k2 (k3 v _ hn dv)
      · simp only [if_neg hn] at q
    | er c p =>
      intro Cc dx F2 H2 hc hp R2 f2
      obtain ⟨k1, k2, _, _⟩ := R.unlend f2 R2 (Same.refl _)
      exact q Cc dx _ H2 hc hp k1 k2
end
end VS
namespace VS
open PySem L2
open PyProof.Rows hiding St
/-! ### objects that are read: their fields, their methods -/
/-- the classes, their fields -/
def ClsT (K : PySem.W.Frag) (C : Str → Option Addr) (cs fl : List Str) : Prop := ∀ c ∈ cs, ∃ A, C c = some A ∧ Cls K A ∧ ∀ f ∈ fl, NoAttr K A f
theorem datL_lookup {G : Gx} {m : List Addr} {F : Hp} : ∀ {ns : List Str} {vs : List V} {ds : List D} {f : Str} {d : D}, DatL G m F vs ds → (ns.zip ds).lookup f = some d → ∃ v, (ns.zip vs).lookup f = some v ∧ Dat G m F v d
  | [], _, _, _, _, _, e => by simp at e
  | n :: ns, _, _, f, d, .nil, e => by simp at e
  | n :: ns, _, _, f, d, .cons (v := v) h t, e => by
    rw [List.zip_cons_cons] at e ⊢
    by_cases q : f = n
    · subst q
      simp [List.lookup] at e ⊢
      subst e
      exact h
    · have hb : (f == n) = false := beq_eq_false_iff_ne.mpr q
      simp only [List.lookup, hb] at e ⊢
      exact datL_lookup t e
theorem zip_none {α : Type} : ∀ {ns : List Str} {vs : List α} {f : Str}, ns.contains f = false → (ns.zip vs).lookup f = none
  | [], _, _, _ => rfl
  | n :: ns, [], _, _ => rfl
  | n :: ns, v :: vs, f, h => by
    rw [List.contains_cons, Bool.or_eq_false_iff] at h
    rw [List.zip_cons_cons]
    simp only [List.lookup, h.1]
    exact zip_none h.2
section
variable {X : Cx} {C : Str → Option Addr} {W : WX} {e o : Expr} {es : List Expr} {g : S → Option D} {fs : S → Option (List D)} {fxs : S → Option (Ex (List D))} {pos apos : Pos}
def dFld (cs : List Str) (f : Str) : D → Option D
  | .rob c ns ds => if cs.contains c = true then (ns.zip ds).lookup f else none
  | _ => none
theorem v_fld {cs fl : List Str} (T : ClsT X.K C cs fl) (f : Str) (hf : fl.contains f = true) (he : PV X C e g) (hb : attributeBase e f X.env (eval e X.env) = eval e X.env := by rfl) : PV X C (.Attribute e f pos) (d1 (dFld cs f) g) := by
  refine PE.weak (pe_fld he hb) ?_
  rintro σ H Q ⟨B, F, m, oa, s, d, R, hg, q⟩
  obtain ⟨x, h1, h2⟩ := Option.bind_eq_some_iff.mp hg
  cases x with
  | rob c ns ds =>
    have h2 : (if cs.contains c = true then (ns.zip ds).lookup f else none) = some d := h2
    split at h2
    · rename_i hc
      refine ⟨B, F, m, oa, s, _, R, h1, fun v F1 H1 R1 e1 dv => ?_⟩
      cases dv with
      | rob k1 k2 k3 k4 =>
        obtain ⟨A, a1, a2, a3⟩ := T c (by simpa using hc)
        have k1 : C c = some _ := k1
        rw [a1] at k1; cases k1
        obtain ⟨w, w1, w2⟩ := datL_lookup k4 h2
        exact ⟨_, _, _, _, w, rfl, R1.fh _ _ k2, a2, a3 f (by simpa using hf), by rw [k3]; exact w1, q w F1 H1 R1 e1 w2⟩
    · cases h2
  | _ => cases h2
/-- what a callee promises, taken up -/
theorem keep_of {G : Gx} {B F : Hp} {m : List Addr} {oa : Own → Addr} {σ : L2.St} {H : Hp} {s : S} (R1 : Rel G B F m oa σ H s) {F' H' : Hp} (g1 : Same F F') (g2 : Same F' H') (g3 : Same H H') (g4 : ∀ b, F' b ≠ none → F b ≠ none ∨ H b = none) : Rel G B F' m oa σ H' s := by
  refine R1.grow g1 g2 (fun b o e => g3 b o (R1.bh b o e)) (fun b e => ?_) (fun b o a1 a2 a3 => ⟨g3 b o a3, ?_⟩)
  · rcases g4 b e with h | h
    · exact R1.fb b h
    · exact R1.bh.free h
  · cases e2 : F' b with
    | none => rfl
    | some u =>
      rcases g4 b (by rw [e2]; simp) with h | h
      · exact absurd a1 h
      · rw [a3] at h; cases h
theorem keep_own {G : Gx} {B F : Hp} {m : List Addr} {oa : Own → Addr} {σ : L2.St} {H : Hp} {s : S} (R1 : Rel G B F m oa σ H s) {F' H' : Hp} {p : Addr} {us : List V} (g1 : Same F F') (g2 : Same F' H') (g3 : Same H H') (g4 : ∀ b, F' b ≠ none → F b ≠ none ∨ H b = none) (fp : F' p = none) (hn : H p = none) (hp : H' p = some (.lst us)) : Rel G B (upd F' p (.lst us)) m oa σ H' s := by
  refine keep_of R1 (g1.trans (same_upd fp)) (fun b o e => ?_) g3 fun b e => ?_
  · by_cases hb : b = p
    · subst hb; rw [upd_same] at e; cases e; exact hp
    · rw [upd_ne hb] at e; exact g2 b o e
  · by_cases hb : b = p
    · subst hb; exact .inr hn
    · rw [upd_ne hb] at e; exact g4 b e
theorem sp_val {G : Gx} {B F : Hp} {m : List Addr} {oa : Own → Addr} {σ : L2.St} {H : Hp} {s : S} {n : Nat} {mf : List D → Option Rs} {vs : List V} {ds : List D} {d : D} {Q : VK} {E : XK} (R1 : Rel G B F m oa σ H s) (dx : DatL G m F vs ds) (hl : ds.length = n) (h2 : vOf mf ds = some d)
    (q : ∀ v F' H', Rel G B F' m oa σ H' s → Same F F' → Dat G m F' v d → Q v H') : spP G n mf vs H Q E := by
  refine ⟨by rw [dx.length, hl], F, m, ds, R1.fh, R1.mnd, dx, ?_⟩
  unfold vOf at h2
  cases hm' : mf ds with
  | none => rw [hm'] at h2; cases h2
  | some r =>
    rw [hm'] at h2
    cases r with
    | exc c p => cases h2
    | own es =>
      cases h2
      exact fun p us F' H' g1 g2 g3 g4 fp hn hp dl => q _ _ H' (keep_own R1 g1 g2 g3 g4 fp hn hp) (g1.trans (same_upd fp)) (.lst (SqL.of upd_same) (dl.mono (same_upd fp) (Pre.refl _)))
    | val d' =>
      cases h2
      exact fun v F' H' g1 g2 g3 g4 dv => q v F' H' (keep_of R1 g1 g2 g3 g4) g1 dv
theorem sp_x {G : Gx} {B F : Hp} {m : List Addr} {oa : Own → Addr} {σ : L2.St} {H : Hp} {s : S} {n : Nat} {mf : List D → Option Rs} {vs : List V} {ds : List D} {Q : VK} {E : XK} (R1 : Rel G B F m oa σ H s) (dx : DatL G m F vs ds) (hl : ds.length = n)
    (q : match rOf mf ds with
      | some (.ok d) => ∀ v F' H', Rel G B F' m oa σ H' s → Same F F' → Dat G m F' v d → Q v H'
      | some (.er c p) => ∀ Cc dx F' H', G.cls c = some Cc → ExP H' dx p → Rel G B F' m oa σ H' s → Same F F' → E (.ref Cc) dx H'
      | none => False) : spP G n mf vs H Q E := by
  refine ⟨by rw [dx.length, hl], F, m, ds, R1.fh, R1.mnd, dx, ?_⟩
  unfold rOf at q
  cases hm' : mf ds with
  | none => simp only [hm'] at q
  | some r2 =>
    simp only [hm'] at q
    cases r2 with
    | val d => exact fun v F' H' g1 g2 g3 g4 dv => q v F' H' (keep_of R1 g1 g2 g3 g4) g1 dv
    | exc c p => exact fun Cc dx F' H' a b g1 g2 g3 g4 => q Cc dx F' H' a b (keep_of R1 g1 g2 g3 g4) g1
    | own es => exact fun p us F' H' g1 g2 g3 g4 fp hn hp dl => q _ _ H' (keep_own R1 g1 g2 g3 g4 fp hn hp) (g1.trans (same_upd fp)) (.lst (SqL.of upd_same) (dl.mono (same_upd fp) (Pre.refl _)))
/-! #### methods -/
def tMethX (C : Addr) (m : Str) (sp : Sp) (E : L2.St → XK) (ta : TE) (t : TA) : TE := fun σ H Q => ta σ H fun x H1 => ∃ a dx fs, x = .ref a ∧ H1 a = some (.ins C dx fs) ∧ fs.lookup m = none ∧ t σ H1 fun vs H2 => sp (x :: vs) H2 Q (E σ)
theorem pe_methX {CX : CXT} {k : Nat} {f A : Addr} {fd : FuncData} {ps : List Str} {sp : Sp} {E : L2.St → XK} {m : Str} {ta : TE} {t : TA} {pl : Sem Bool} (he : PE X o ta) (c : Cls X.K A) (hm : Meth X.K A m f) (F : FnOk X.prog X.w X.K X.mg X.base CX k f fd ps sp) (hr : Room k X.A) (hb : Binds X.K fd ps []) (hx : ∀ σ, PassesAt CX X σ (E σ)) (ha : PA X (e :: es) t)
    (hst : starEach (e :: es) X.env = (false, eval e X.env) :: starEach es X.env := by rfl) (hpl : (backTo pos (starEach es X.env)).any (·.1) = false := by rfl)
    (ht : eval (.Call (.Attribute o m apos) (e :: es) [] pos) X.env = (do
      let ov ← eval o X.env
      standAt apos.atName
      let (f, first) ← holding [ov] (getMethod ov m pl)
      callWith pos f first (backTo pos (starEach (e :: es) X.env)) (backToKw pos (keywordEach [] X.env))) := by rfl) :
    PE X (.Call (.Attribute o m apos) (e :: es) [] pos) (tMethX A m sp E ta t) := by
  refine ⟨fun pins s σ H Q I h => ?_⟩
  refine PySem.W.methodCall_KW (pl := pl) (thn (he.run pins s σ H _ I h) fun u s1 ⟨x, H1, I1, rx, a, dx, fs, ex, ea, l, q⟩ => ?_) ht
  subst ex
  obtain rfl : u = Value.ref a := rx
  refine getmeth_ok I1 ea c hm l ?_
  refine PySem.W.callWith_K (first := [.ref a]) (h₀ := X.base) I.ok.mod.kin hm.kp (thn (ha.run pos pins s1 σ H1 _ I1 q) fun us s2 ⟨vs, H2, I2, r, q2⟩ => ⟨I2.kIn, ?_⟩) hst hpl
  exact run_fnS (us := .ref a :: us) (vs := .ref a :: vs) F hr hb (hx σ) I2 (.cons rfl r) q2
theorem pe_methX0 {CX : CXT} {k : Nat} {f A : Addr} {fd : FuncData} {ps : List Str} {sp : Sp} {E : L2.St → XK} {m : Str} {ta : TE} {pl : Sem Bool} (he : PE X o ta) (c : Cls X.K A) (hm : Meth X.K A m f) (F : FnOk X.prog X.w X.K X.mg X.base CX k f fd ps sp) (hr : Room k X.A) (hb : Binds X.K fd ps []) (hx : ∀ σ, PassesAt CX X σ (E σ))
    (ht : eval (.Call (.Attribute o m apos) [] [] pos) X.env = (do
      let ov ← eval o X.env
      standAt apos.atName
      let (f, first) ← holding [ov] (getMethod ov m pl)
      callWith pos f first (backTo pos (starEach [] X.env)) (backToKw pos (keywordEach [] X.env))) := by rfl) :
    PE X (.Call (.Attribute o m apos) [] [] pos) (tMethX A m sp E ta tNil) := by
  refine ⟨fun pins s σ H Q I h => ?_⟩
  refine PySem.W.methodCall_KW (pl := pl) (thn (he.run pins s σ H _ I h) fun u s1 ⟨x, H1, I1, rx, a, dx, fs, ex, ea, l, q⟩ => ?_) ht
  subst ex
  obtain rfl : u = Value.ref a := rx
  refine getmeth_ok I1 ea c hm l ?_
  exact PySem.W.callWith_K0 (first := [.ref a]) I1.kIn hm.kp (run_fnS (us := [.ref a]) (vs := [.ref a]) F hr hb (hx σ) I1 (.cons rfl .nil) q)
end
/-- a def of a class of objects: of what promise -/
structure MetOk (P : Program) (w : World) (K : PySem.W.Frag) (mg : Str → Option Value) (base : Heap) (C : Str → Option Addr) (k : Nat) (c m : Str) (sp : Sp) : Prop where
  ex : ∃ A f fd ps k', C c = some A ∧ Cls K A ∧ Meth K A m f ∧ FnOk P w K mg base (L2.CX P w) k' f fd ps sp ∧ Binds K fd ps [] ∧ k' ≤ k
/-- which def for which class -/
abbrev Disp := List (Str × (List D → Option Rs))
def DispOk (P : Program) (w : World) (K : PySem.W.Frag) (mg : Str → Option Value) (base : Heap) (C : Str → Option Addr) (k : Nat) (m : Str) (n : Nat) (T : Disp) : Prop := ∀ c mf, T.lookup c = some mf → MetOk P w K mg base C k c m (spP ⟨K, C⟩ n mf)
section
variable {P : Program} {w : World} {K : PySem.W.Frag} {mg : Str → Option Value} {base : Heap} {C : Str → Option Addr} {k n : Nat} {m : Str}
theorem disp_nil : DispOk P w K mg base C k m n [] := fun c mf h => by cases h
theorem disp_cons {c : Str} {mf : List D → Option Rs} {T : Disp} (h : MetOk P w K mg base C k c m (spP ⟨K, C⟩ n mf)) (t : DispOk P w K mg base C k m n T) : DispOk P w K mg base C k m n ((c, mf) :: T) := fun c' mf' e => by
  by_cases hc : c' = c
  · subst hc
    have hb : (c' == c') = true := beq_iff_eq.mpr rfl
    simp only [List.lookup, hb] at e
    cases e; exact h
  · have hb : (c' == c) = false := beq_eq_false_iff_ne.mpr hc
    simp only [List.lookup, hb] at e
    exact t c' mf' e
end
section
variable {X : Cx} {C : Str → Option Addr} {W : WX} {e o : Expr} {es : List Expr} {g : S → Option D} {fs : S → Option (List D)} {fxs : S → Option (Ex (List D))} {gx' : S → Option (Ex D)} {pos apos : Pos}
def onRob {α : Type} (m : Str) (T : Disp) (k : (List D → Option Rs) → D → Option α) : D → Option α
  | .rob c ns ds => if ns.contains m = true then none else (T.lookup c).bind fun mf => k mf (.rob c ns ds)
  | _ => none
theorem onRob_some {α : Type} {m : Str} {T : Disp} {k : (List D → Option Rs) → D → Option α} {d : D} {a : α} (h : onRob m T k d = some a) : ∃ c ns ds mf, d = .rob c ns ds ∧ ns.contains m = false ∧ T.lookup c = some mf ∧ k mf d = some a := by
  cases d with
  | rob c ns ds =>
    have h : (if ns.contains m = true then none else (T.lookup c).bind fun mf => k mf (.rob c ns ds)) = some a := h
    split at h
    · cases h
    · rename_i hn
      obtain ⟨mf, h1, h2⟩ := Option.bind_eq_some_iff.mp h
      exact ⟨c, ns, ds, mf, rfl, by simpa using hn, h1, h2⟩
  | _ => cases h
def rMeth (m : Str) (T : Disp) (g : S → Option D) (fs : S → Option (Ex (List D))) : S → Option (Ex D) := fun s => (g s).bind (onRob m T fun mf d => match fs s with
  | some (.ok ds) => rOf mf (d :: ds)
  | some (.er c p) => some (.er c p)
  | none => none)
theorem rob_at {G : Gx} {m : List Addr} {F : Hp} {v : V} {c mt : Str} {ns : List Str} {ds : List D} {A : Addr} (h : Dat G m F v (.rob c ns ds)) (hA : G.cls c = some A) (hn : ns.contains mt = false) : ∃ a dx fs, v = .ref a ∧ F a = some (.ins A dx fs) ∧ fs.lookup mt = none := by
  cases h with
  | rob k1 k2 k3 k4 =>
    rw [hA] at k1; cases k1
    exact ⟨_, _, _, rfl, k2, by rw [k3]; exact zip_none hn⟩
theorem x_meth {k r n : Nat} {m : Str} {T : Disp} (hT : DispOk X.prog X.w X.K X.mg X.base C k m n T) (hr : Room r X.A) (hk : k ≤ r) (tk : Takes X W) (ho : PV X C o g) (ha : PAX X C W (e :: es) fxs) (hl : ∀ s ds, fxs s = some (.ok ds) → ds.length + 1 = n)
    (hst : starEach (e :: es) X.env = (false, eval e X.env) :: starEach es X.env := by rfl) (hpl : (backTo pos (starEach es X.env)).any (·.1) = false := by rfl)
    (pl : Sem Bool) (ht : eval (.Call (.Attribute o m apos) (e :: es) [] pos) X.env = (do
      let ov ← eval o X.env
      standAt apos.atName
      let (f, first) ← holding [ov] (getMethod ov m pl)
      callWith pos f first (backTo pos (starEach (e :: es) X.env)) (backToKw pos (keywordEach [] X.env))) := by rfl) :
    PX X C W (.Call (.Attribute o m apos) (e :: es) [] pos) (rMeth m T g fxs) := by
  refine ⟨fun pins s0 σ H Q I w => ?_⟩
  obtain ⟨B, F, m', oa, s, R, q⟩ := w
  unfold rMeth at q
  cases hg : g s with
  | none => rw [hg] at q; exact q.elim
  | some d =>
    rw [hg, Option.bind_some] at q
    cases hq : onRob m T (fun mf d => match fxs s with
      | some (.ok ds) => rOf mf (d :: ds)
      | some (.er c p) => some (.er c p)
      | none => none) d with
    | none => rw [hq] at q; exact q.elim
    | some r1 =>
      rw [hq] at q
      obtain ⟨c, ns, ds, mf, rfl, hn, hT1, h3⟩ := onRob_some hq
      obtain ⟨A, f, fd, ps, k', a1, a2, a3, a4, a5, a6⟩ := (hT c mf hT1).ex
      refine (pe_methX (E := WE W) (pl := pl) ho a2 a3 a4 (hr.mono (Nat.le_trans a6 hk)) a5 (fun σ => passAt tk σ) ha hst hpl ht).run pins s0 σ H Q I ?_
      refine ⟨B, F, m', oa, s, _, R, hg, fun v F1 H1 R1 e1 dv => ?_⟩
      obtain ⟨a, dx, fs', rfl, k2, k3⟩ := rob_at (mt := m) dv (A := A) a1 hn
      refine ⟨a, dx, fs', rfl, R1.fh _ _ k2, k3, B, F1, m', oa, s, R1, ?_⟩
      cases hf : fxs s with
      | none => rw [hf] at h3; cases h3
      | some rr =>
        rw [hf] at h3
        cases rr with
        | er c2 p2 =>
          cases h3
          exact fun Cc dx F' H' a b c d => q Cc dx F' H' a b c (e1.trans d)
        | ok as =>
          intro vs F2 H2 R2 e2 dxs
          refine sp_x (ds := .rob c ns ds :: as) R2 (.cons (dv.mono e2 (Pre.refl _)) dxs) (by rw [List.length_cons]; exact hl s as hf) ?_
          have h3 : rOf mf (.rob c ns ds :: as) = some r1 := h3
          rw [h3]
          cases r1 with
          | ok d2 => exact fun v F' H' a b c => q v F' H' a ((e1.trans e2).trans b) c
          | er c2 p2 => exact fun Cc dx F' H' a b c d => q Cc dx F' H' a b c ((e1.trans e2).trans d)
theorem x_meth0 {k r : Nat} {m : Str} {T : Disp} (hT : DispOk X.prog X.w X.K X.mg X.base C k m 1 T) (hr : Room r X.A) (hk : k ≤ r) (tk : Takes X W) (ho : PV X C o g)
    (pl : Sem Bool) (ht : eval (.Call (.Attribute o m apos) [] [] pos) X.env = (do
      let ov ← eval o X.env
      standAt apos.atName
      let (f, first) ← holding [ov] (getMethod ov m pl)
      callWith pos f first (backTo pos (starEach [] X.env)) (backToKw pos (keywordEach [] X.env))) := by rfl) :
    PX X C W (.Call (.Attribute o m apos) [] [] pos) (rMeth m T g axNil) := by
  refine ⟨fun pins s0 σ H Q I w => ?_⟩
  obtain ⟨B, F, m', oa, s, R, q⟩ := w
  unfold rMeth at q
  cases hg : g s with
  | none => rw [hg] at q; exact q.elim
  | some d =>
    rw [hg, Option.bind_some] at q
    cases hq : onRob m T (fun mf d => match axNil s with
      | some (.ok ds) => rOf mf (d :: ds)
      | some (.er c p) => some (.er c p)
      | none => none) d with
    | none => rw [hq] at q; exact q.elim
    | some r1 =>
      rw [hq] at q
      obtain ⟨c, ns, ds, mf, rfl, hn, hT1, h3⟩ := onRob_some hq
      obtain ⟨A, f, fd, ps, k', a1, a2, a3, a4, a5, a6⟩ := (hT c mf hT1).ex
      refine (pe_methX0 (E := WE W) (pl := pl) ho a2 a3 a4 (hr.mono (Nat.le_trans a6 hk)) a5 (fun σ => passAt tk σ) ht).run pins s0 σ H Q I ?_
      refine ⟨B, F, m', oa, s, _, R, hg, fun v F1 H1 R1 e1 dv => ?_⟩
      obtain ⟨a, dx, fs', rfl, k2, k3⟩ := rob_at (mt := m) dv (A := A) a1 hn
      refine ⟨a, dx, fs', rfl, R1.fh _ _ k2, k3, ?_⟩
      refine sp_x (ds := [.rob c ns ds]) R1 (.cons dv .nil) rfl ?_
      have h3 : rOf mf [.rob c ns ds] = some r1 := h3
      rw [h3]
      cases r1 with
      | ok d2 => exact fun v F' H' a b c => q v F' H' a (e1.trans b) c
      | er c2 p2 => exact fun Cc dx F' H' a b c d => q Cc dx F' H' a b c (e1.trans d)
/-- of a method that may raise the ways that do not -/
def xVal (fx : S → Option (Ex D)) : S → Option D := fun s => match fx s with
  | some (.ok d) => some d
  | _ => none
theorem v_x (h : PX X C (fun _ _ _ _ => False) e gx') : PV X C e (xVal gx') := by
  refine PE.weak h ?_
  rintro σ H Q ⟨B, F, m, oa, s, d, R, hg, q⟩
  refine ⟨B, F, m, oa, s, R, ?_⟩
  unfold xVal at hg
  split at hg
  · rename_i h1
    cases hg
    rw [h1]
    exact q
  · cases hg
end
end VS
namespace VS
open PySem L2
open PyProof.Rows hiding St
/-! ### defs that change objects -/
abbrev Fo := List D → List Ob → Option (Rs × List Ob)
def spO (G : Gx) (n : Nat) (f : Fo) : Sp := fun vs H Q E => vs.length = n ∧ ∃ B F m oa obs ds, Rel G B F m oa [] H ⟨[], obs, true⟩ ∧ DatL G m F vs ds ∧ match f ds obs with
  | some (.val d, obs') => ∀ v F' H' m' oa', Rel G B F' m' oa' [] H' ⟨[], obs', true⟩ → Same F F' → Pre m m' → Dat G m' F' v d → Q v H'
  | some (.own es, obs') => ∀ p us F' H' m' oa', B p = none → Rel G (upd B p (.lst us)) F' m' oa' [] H' ⟨[], obs', true⟩ → Same F F' → Pre m m' → DatL G m' F' us es → Q (.ref p) H'
  | some (.exc c p, obs') => ∀ Cc dx F' H' m' oa', G.cls c = some Cc → ExP H' dx p → Rel G B F' m' oa' [] H' ⟨[], obs', true⟩ → Same F F' → Pre m m' → E (.ref Cc) dx H'
  | none => False
def initO (N : Nat) (ds : List D) (obs : List Ob) : S := ⟨ds.map .fr ++ List.replicate (N - ds.length) .un, obs, true⟩
def alR (s : S) (r : Rs) : Option (Rs × List Ob) := if s.al = true then some (r, s.st) else none
def outO : Option Out → Option (Rs × List Ob)
  | some (.nx s) => alR s (.val .non)
  | some (.rt d s) => alR s (.val d)
  | some (.ro ds s) => alR s (.own ds)
  | some (.ex c p s) => alR s (.exc c p)
  | none => none
/-- what a def makes of its arguments and of the objects -/
def fnO (N : Nat) (g : S → Option Out) : Fo := fun ds obs => outO (g (initO N ds obs))
section
variable {G : Gx} {m : List Addr} {oa : Own → Addr} {σ : L2.St} {H B F : Hp} {s : S}
/-- the slots forgotten -/
theorem Rel.noslots (R : Rel G B F m oa σ H s) (ha : s.al = true) : Rel G B F m oa [] H ⟨[], s.st, true⟩ where
  fh := R.fh
  bh := R.bh
  fb := R.fb
  len := rfl
  slot := fun i sl e => by simp at e
  cell := fun x ds e => by
    cases x with
    | inl i => cases e
    | inr q => exact R.cell (.inr q) ds e
  inj := fun x y ds es e1 e2 => by
    cases x with
    | inl i => cases e1
    | inr q => cases y with
      | inl i => cases e2
      | inr q2 => exact R.inj (.inr q) (.inr q2) ds es e1 e2
  obj := R.obj
  ml := fun _ => R.ml ha
  mnd := R.mnd
theorem Rel.initO {obs : List Ob} {vs : List V} {ds : List D} {N : Nat} (R : Rel G B F m oa [] H ⟨[], obs, true⟩) (hd : DatL G m F vs ds) : Rel G B F m oa (vs.map some ++ List.replicate (N - vs.length) none) H (initO N ds obs) := by
  have nown : ∀ i es, ownAt (VS.initO N ds obs) (.inl i) ≠ some es := fun i es e => by
    have e : slO (ds.map Sl.fr ++ List.replicate (N - ds.length) .un)[i]? = some es := e
    by_cases hi : i < ds.length
    · rw [List.getElem?_append_left (by rw [List.length_map]; exact hi), List.getElem?_map] at e
      cases ed : ds[i]? with
      | none => rw [ed] at e; cases e
      | some d => rw [ed] at e; cases e
    · rw [List.getElem?_append_right (by rw [List.length_map]; omega)] at e
      cases er : (List.replicate (N - ds.length) Sl.un)[i - (ds.map Sl.fr).length]? with
      | none => rw [er] at e; cases e
      | some d =>
        have := List.eq_of_mem_replicate (List.mem_of_getElem? er)
        subst this
        rw [er] at e; cases e
  exact
  { fh := R.fh
    bh := R.bh
    fb := R.fb
    len := by
      show (vs.map some ++ List.replicate (N - vs.length) none).length = (ds.map Sl.fr ++ List.replicate (N - ds.length) Sl.un).length
      rw [List.length_append, List.length_append, List.length_map, List.length_map, List.length_replicate, List.length_replicate, hd.length]
    slot := fun i sl e => by
      have e : (ds.map Sl.fr ++ List.replicate (N - ds.length) .un)[i]? = some sl := e
      by_cases hi : i < ds.length
      · rw [List.getElem?_append_left (by rw [List.length_map]; exact hi), List.getElem?_map] at e
        obtain ⟨d, h1, rfl⟩ := Option.map_eq_some_iff.mp e
        obtain ⟨v, h2, h3⟩ := hd.get h1
        refine ⟨v, ?_, h3⟩
        rw [List.getElem?_append_left (by rw [List.length_map, hd.length]; exact hi), List.getElem?_map, h2]
        rfl
      · rw [List.getElem?_append_right (by rw [List.length_map]; omega)] at e
        have := List.mem_of_getElem? e
        rw [List.eq_of_mem_replicate this]
        trivial
    cell := fun x es e => by
      cases x with
      | inl i => exact absurd e (nown i es)
      | inr q => exact R.cell (.inr q) es e
    inj := fun x y es fs e1 e2 => by
      cases x with
      | inl i => exact absurd e1 (nown i es)
      | inr q => cases y with
        | inl i => exact absurd e2 (nown i fs)
        | inr q2 => exact R.inj (.inr q) (.inr q2) es fs e1 e2
    obj := R.obj
    ml := R.ml
    mnd := R.mnd }
open Classical in
/-- the frame of a call: the caller's own lists, too -/
noncomputable def cellB (B : Hp) (oa : Own → Addr) (s : S) (H : Hp) : Hp := fun b => if ∃ i ds, ownAt s (.inl i) = some ds ∧ b = oa (.inl i) then H b else B b
theorem Rel.toCall (R : Rel G B F m oa σ H s) (ha : s.al = true) : Rel G (cellB B oa s H) F m oa [] H ⟨[], s.st, true⟩ := by
  have out : ∀ b, B b = none → (∀ i ds, ownAt s (.inl i) = some ds → b ≠ oa (.inl i)) → cellB B oa s H b = none := fun b h1 h2 => by
    unfold cellB
    rw [if_neg (fun ⟨i, ds, h3, h4⟩ => h2 i ds h3 h4)]
    exact h1
  exact
  { fh := R.fh
    bh := fun b o e => by
      unfold cellB at e
      split at e
      · exact e
      · exact R.bh b o e
    fb := fun b e => out b (R.fb b e) fun i ds h z => e (by rw [z]; exact (R.cell _ ds h).1)
    len := rfl
    slot := fun i sl e => by simp at e
    cell := fun x ds e => by
      cases x with
      | inl i => cases e
      | inr q =>
        obtain ⟨c1, c2, c3⟩ := R.cell (.inr q) ds e
        refine ⟨c1, out _ c2 fun i es h z => ?_, c3⟩
        have := R.inj (.inr q) (.inl i) ds es e h z
        cases this
    inj := fun x y ds es e1 e2 => by
      cases x with
      | inl i => cases e1
      | inr q => cases y with
        | inl i => cases e2
        | inr q2 => exact R.inj (.inr q) (.inr q2) ds es e1 e2
    obj := fun n ob e => by
      obtain ⟨a, C, dx, fs, h1, h2, h3, h4, h5, h6, h7⟩ := (R.obj n ob e).ex
      refine ⟨⟨a, C, dx, fs, h1, h2, h3, h4, out _ h5 fun i es h z => ?_, h6, h7⟩⟩
      obtain ⟨_, _, ws, c3, _⟩ := R.cell _ es h
      rw [z, c3] at h3; cases h3
    ml := fun _ => R.ml ha
    mnd := R.mnd }
def mixO (oa oa' : Own → Addr) : Own → Addr
  | .inl i => oa (.inl i)
  | .inr q => oa' (.inr q)
theorem Rel.ofCall (R : Rel G B F m oa σ H s) {Bc F' H' : Hp} {m' : List Addr} {oa' : Own → Addr} {st' : List Ob} (R' : Rel G Bc F' m' oa' [] H' ⟨[], st', true⟩) {B' : Hp}
    (hc : ∀ i ds, ownAt s (.inl i) = some ds → Bc (oa (.inl i)) = H (oa (.inl i)) ∧ B' (oa (.inl i)) = none) (hb : ∀ b, (∀ i ds, ownAt s (.inl i) = some ds → b ≠ oa (.inl i)) → Bc b = B' b) (ff : Same F F') (pm : Pre m m') : Rel G B' F' m' (mixO oa oa') σ H' ⟨s.r, st', s.al⟩ := by
  have nn : ∀ b, Bc b = none → B' b = none ∧ ∀ i ds, ownAt s (.inl i) = some ds → b ≠ oa (.inl i) := fun b h => by
    have n2 : ∀ i ds, ownAt s (.inl i) = some ds → b ≠ oa (.inl i) := fun i ds e z => by
      obtain ⟨_, _, vs, c3, _⟩ := R.cell _ ds e
      rw [z, (hc i ds e).1, c3] at h; cases h
    exact ⟨by rw [← hb b n2]; exact h, n2⟩
  exact
  { fh := R'.fh
    bh := fun b o e => by
      refine R'.bh b o ?_
      rw [hb b fun i ds h z => by rw [z, (hc i ds h).2] at e; cases e]
      exact e
    fb := fun b e => (nn b (R'.fb b e)).1
    len := R.len
    slot := fun i sl e => (R.slot i sl e).mono ff pm
    cell := fun x ds e => by
      cases x with
      | inl i =>
        have e : ownAt s (.inl i) = some ds := e
        obtain ⟨c1, c2, vs, c3, c4⟩ := R.cell _ ds e
        obtain ⟨k1, k2⟩ := hc i ds e
        have h3 := R'.bh _ _ (k1.trans c3)
        refine ⟨?_, k2, vs, h3, c4.mono ff pm⟩
        cases z : F' (oa (.inl i)) with
        | none => exact z
        | some o =>
          have := R'.fb _ (by rw [z]; simp)
          rw [k1, c3] at this; cases this
      | inr q =>
        obtain ⟨c1, c2, c3⟩ := R'.cell (.inr q) ds e
        exact ⟨c1, (nn _ c2).1, c3⟩
    inj := fun x y ds es e1 e2 z => by
      cases x with
      | inl i =>
        cases y with
        | inl j => exact R.inj (.inl i) (.inl j) ds es e1 e2 z
        | inr q =>
          obtain ⟨c1, c2, c3⟩ := R'.cell (.inr q) es e2
          exact absurd z.symm ((nn _ c2).2 i ds e1)
      | inr q =>
        cases y with
        | inl j =>
          obtain ⟨c1, c2, c3⟩ := R'.cell (.inr q) ds e1
          exact absurd z ((nn _ c2).2 j es e2)
        | inr q2 => exact R'.inj (.inr q) (.inr q2) ds es e1 e2 z
    obj := fun n ob e => by
      obtain ⟨a, C, dx, fs, h1, h2, h3, h4, h5, h6, h7⟩ := (R'.obj n ob e).ex
      exact ⟨⟨a, C, dx, fs, h1, h2, h3, h4, (nn _ h5).1, h6, h7⟩⟩
    ml := fun _ => R'.ml rfl
    mnd := R'.mnd }
theorem Rel.ofCall1 (R : Rel G B F m oa σ H s) {F' H' : Hp} {m' : List Addr} {oa' : Own → Addr} {st' : List Ob} (R' : Rel G (cellB B oa s H) F' m' oa' [] H' ⟨[], st', true⟩) (ff : Same F F') (pm : Pre m m') : Rel G B F' m' (mixO oa oa') σ H' ⟨s.r, st', s.al⟩ :=
  R.ofCall R' (fun i ds h => ⟨by unfold cellB; rw [if_pos ⟨i, ds, h, rfl⟩], (R.cell _ ds h).2.1⟩) (fun b h => by unfold cellB; rw [if_neg (fun ⟨i, ds, h3, h4⟩ => h i ds h3 h4)]) ff pm
theorem Rel.ofCallOwn (R : Rel G B F m oa σ H s) {F' H' : Hp} {m' : List Addr} {oa' : Own → Addr} {st' : List Ob} {p : Addr} {us : List V} (hp : cellB B oa s H p = none) (R' : Rel G (upd (cellB B oa s H) p (.lst us)) F' m' oa' [] H' ⟨[], st', true⟩) (ff : Same F F') (pm : Pre m m') : B p = none ∧ Rel G (upd B p (.lst us)) F' m' (mixO oa oa') σ H' ⟨s.r, st', s.al⟩ := by
  have np : ∀ i ds, ownAt s (.inl i) = some ds → oa (.inl i) ≠ p := fun i ds h z => by
    obtain ⟨_, _, vs, c3, _⟩ := R.cell _ ds h
    unfold cellB at hp
    rw [if_pos ⟨i, ds, h, z.symm⟩, ← z, c3] at hp
    cases hp
  refine ⟨?_, R.ofCall R' (fun i ds h => ⟨?_, ?_⟩) (fun b h => ?_) ff pm⟩
  · unfold cellB at hp
    rw [if_neg (fun ⟨i, ds, h, z⟩ => np i ds h z.symm)] at hp
    exact hp
  · rw [upd_ne (np i ds h)]; unfold cellB; rw [if_pos ⟨i, ds, h, rfl⟩]
  · rw [upd_ne (np i ds h)]; exact (R.cell _ ds h).2.1
  · by_cases hbp : b = p
    · subst hbp; rw [upd_same, upd_same]
    · rw [upd_ne hbp, upd_ne hbp]; unfold cellB; rw [if_neg (fun ⟨i, ds, h3, h4⟩ => h i ds h3 h4)]
end
section
variable {P : Program} {w : World} {K : PySem.W.Frag} {mg : Str → Option Value} {base : Heap} {C : Str → Option Addr}
theorem fn_objG {x qual : Str} {st : Stmt} {f : Addr} {fd : FuncData} {N ps : List Str} {k : Nat} {g : S → Option Out} (Fn : FunG K x qual st f fd) (Sc : FnScope N ps (defScope st))
    (body : ∀ (X : Cx) (W : WX), BX X W P w K mg base N (defScope st) k → PSsV X C W (defBody st) g) : FnOk P w K mg base (L2.CX P w) (k + 1) f fd ps (spO ⟨K, C⟩ ps.length (fnO N.length g)) := by
  refine Fn.okX Sc (fun vs H Q E h => h.1) (fun cdv A outer s H vs Q E hr h => ?_)
  obtain ⟨hlen, B, F, m, oa, obs, ds, R, hd, q⟩ := h
  have Bd := body (cxOf (L2.CX P w) P w K mg base N qual (defScope st) f cdv A outer s H E) (fun cls d _ H => E cls d H)
    ⟨rfl, rfl, rfl, rfl, rfl, rfl, rfl, rfl, fun _ => rfl, hr, passes_of rfl, takes_of rfl rfl rfl rfl, rfl, rfl, rfl⟩
  refine ⟨_, Bd.run, ?_⟩
  refine ⟨B, F, m, oa, initO N.length ds obs, R.initO (N := N.length) hd, ?_⟩
  unfold fnO outO at q
  cases hg : g (initO N.length ds obs) with
  | none => rw [hg] at q; exact q.elim
  | some o =>
    rw [hg] at q
    cases o with
    | nx s' =>
      intro σ' H' F' m' oa' R' gr
      by_cases ha : s'.al = true
      · simp only [alR, if_pos ha] at q
        exact q .non F' H' m' oa' (R'.noslots ha) gr.1 gr.2.1 .non
      · simp only [alR, if_neg ha] at q
    | rt d s' =>
      intro v σ' H' F' m' oa' R' gr dv
      by_cases ha : s'.al = true
      · simp only [alR, if_pos ha] at q
        exact q v F' H' m' oa' (R'.noslots ha) gr.1 gr.2.1 dv
      · simp only [alR, if_neg ha] at q
    | ro es s' =>
      intro p us σ' H' F' m' oa' hb R' gr dv
      by_cases ha : s'.al = true
      · simp only [alR, if_pos ha] at q
        exact q p us F' H' m' oa' hb (R'.noslots ha) gr.1 gr.2.1 dv
      · simp only [alR, if_neg ha] at q
    | ex c p s' =>
      intro Cc dx σ' H' F' m' oa' hc hp R' gr
      by_cases ha : s'.al = true
      · simp only [alR, if_pos ha] at q
        exact q Cc dx F' H' m' oa' hc hp (R'.noslots ha) gr.1 gr.2.1
      · simp only [alR, if_neg ha] at q
theorem fn_obj {x qual : Str} {st : Stmt} {f : Addr} {fd : FuncData} {N ps : List Str} {k : Nat} {g : S → Option Out} (Fn : Fun K x qual st f fd) (Sc : FnScope N ps (defScope st))
    (body : ∀ (X : Cx) (W : WX), BX X W P w K mg base N (defScope st) k → PSsV X C W (defBody st) g) : FnOk P w K mg base (L2.CX P w) (k + 1) f fd ps (spO ⟨K, C⟩ ps.length (fnO N.length g)) := fn_objG (.of Fn) Sc body
end
/-! ### expressions that change objects -/
abbrev EO (α : Type) := Ex α × List Ob
def tM (G : Gx) (W : WX) (f : S → Option (EO D)) : TE := fun σ H Q => ∃ B F m oa s, Rel G B F m oa σ H s ∧ match f s with
  | some (.ok d, st') => ∀ v F' H' m' oa', Rel G B F' m' oa' σ H' ⟨s.r, st', s.al⟩ → Gr F F' m m' s.al → Dat G m' F' v d → Q v H'
  | some (.er c p, st') => ∀ Cc dx F' H' m' oa', G.cls c = some Cc → ExP H' dx p → Rel G B F' m' oa' σ H' ⟨s.r, st', s.al⟩ → Gr F F' m m' s.al → W (.ref Cc) dx σ H'
  | none => False
abbrev PM (X : Cx) (C : Str → Option Addr) (W : WX) (e : Expr) (f : S → Option (EO D)) : Prop := PE X e (tM (gx X C) W f)
def tAM (G : Gx) (W : WX) (f : S → Option (EO (List D))) : TA := fun σ H Q => ∃ B F m oa s, Rel G B F m oa σ H s ∧ match f s with
  | some (.ok ds, st') => ∀ vs F' H' m' oa', Rel G B F' m' oa' σ H' ⟨s.r, st', s.al⟩ → Gr F F' m m' s.al → DatL G m' F' vs ds → Q vs H'
  | some (.er c p, st') => ∀ Cc dx F' H' m' oa', G.cls c = some Cc → ExP H' dx p → Rel G B F' m' oa' σ H' ⟨s.r, st', s.al⟩ → Gr F F' m m' s.al → W (.ref Cc) dx σ H'
  | none => False
abbrev PAM (X : Cx) (C : Str → Option Addr) (W : WX) (es : List Expr) (f : S → Option (EO (List D))) : Prop := PA X es (tAM (gx X C) W f)
section
variable {X : Cx} {C : Str → Option Addr} {W : WX} {N : List Str} {M Ms : List (Option Str)} {gs : List Str} {sc : Scope} {e o a b : Expr} {es : List Expr} {f : S → Option D} {fx : S → Option (Ex D)} {fm fm2 : S → Option (EO D)} {fms : S → Option (EO (List D))} {pos p apos : Pos}
def mPure (f : S → Option D) : S → Option (EO D) := fun s => (f s).map fun d => (.ok d, s.st)
theorem m_pure (he : PV X C e f) : PM X C W e (mPure f) := by
  refine PE.weak he ?_
  rintro σ H Q ⟨B, F, m, oa, s, R, q⟩
  unfold mPure at q
  cases hf : f s with
  | none => rw [hf] at q; exact q.elim
  | some d =>
    rw [hf] at q
    exact ⟨B, F, m, oa, s, d, R, hf, fun v F' H' R' e dv => q v F' H' m oa R' (Gr.of _ _ e) dv⟩
def mX (fx : S → Option (Ex D)) : S → Option (EO D) := fun s => (fx s).map fun r => (r, s.st)
theorem m_x (he : PX X C W e fx) : PM X C W e (mX fx) := by
  refine PE.weak he ?_
  rintro σ H Q ⟨B, F, m, oa, s, R, q⟩
  unfold mX at q
  refine ⟨B, F, m, oa, s, R, ?_⟩
  cases hf : fx s with
  | none => rw [hf] at q; exact q.elim
  | some r =>
    rw [hf] at q
    cases r with
    | ok d => exact fun v F' H' R' e dv => q v F' H' m oa R' (Gr.of _ _ e) dv
    | er c p => exact fun Cc dx F' H' a b R' e => q Cc dx F' H' m oa a b R' (Gr.of _ _ e)
def maNil : S → Option (EO (List D)) := fun s => some (.ok [], s.st)
theorem ma_nil : PAM X C W [] maNil := by
  refine PA.weak pa_nil ?_
  rintro σ H Q ⟨B, F, m, oa, s, R, q⟩
  exact q [] F H m oa R (Gr.refl _ _ _) .nil
def maCons (f : S → Option (EO D)) (g : S → Option (EO (List D))) : S → Option (EO (List D)) := fun s => match f s with
  | some (.ok d, st1) => (match g ⟨s.r, st1, s.al⟩ with
    | some (.ok ds, st2) => some (.ok (d :: ds), st2)
    | some (.er c p, st2) => some (.er c p, st2)
    | none => none)
  | some (.er c p, st1) => some (.er c p, st1)
  | none => none
theorem ma_cons (he : PM X C W e fm) (hr : PAM X C W es fms) (hs : starEach (e :: es) X.env = (false, eval e X.env) :: starEach es X.env := by rfl) : PAM X C W (e :: es) (maCons fm fms) := by
  refine PA.weak (pa_cons he hr hs) ?_
  rintro σ H Q ⟨B, F, m, oa, s, R, q⟩
  unfold maCons at q
  refine ⟨B, F, m, oa, s, R, ?_⟩
  cases h1 : fm s with
  | none => rw [h1] at q; exact q.elim
  | some r =>
    obtain ⟨r, st1⟩ := r
    rw [h1] at q
    cases r with
    | er c p => exact q
    | ok d =>
      intro v F1 H1 m1 oa1 R1 e1 dv
      refine ⟨B, F1, m1, oa1, _, R1, ?_⟩
      cases h2 : fms ⟨s.r, st1, s.al⟩ with
      | none => simp only [h2] at q
      | some r2 =>
        obtain ⟨r2, st2⟩ := r2
        simp only [h2] at q
        cases r2 with
        | er c p => exact fun Cc dx F' H' m' oa' a b c d => q Cc dx F' H' m' oa' a b c (e1.trans d)
        | ok ds => exact fun vs F' H' m' oa' a b c => q (v :: vs) F' H' m' oa' a (e1.trans b) (.cons (dv.mono b.1 b.2.1) c)
def rsO : Rs × List Ob → EO D
  | (.val d, st) => (.ok d, st)
  | (.own es, st) => (.ok (.lst es), st)
  | (.exc c p, st) => (.er c p, st)
/-- the promise of a def that changes objects, asked for -/
theorem spO_m {G : Gx} {B F : Hp} {m : List Addr} {oa : Own → Addr} {σ : L2.St} {H : Hp} {s : S} {n : Nat} {mf : Fo} {vs : List V} {ds : List D} {r : Rs × List Ob} {Q : VK} {E : XK} (R : Rel G B F m oa σ H s) (ha : s.al = true) (dx : DatL G m F vs ds) (hl : ds.length = n) (hm : mf ds s.st = some r)
    (q : match rsO r with
      | (.ok d, st') => ∀ v F' H' m' oa', Rel G B F' m' oa' σ H' ⟨s.r, st', s.al⟩ → Gr F F' m m' s.al → Dat G m' F' v d → Q v H'
      | (.er c p, st') => ∀ Cc dx F' H' m' oa', G.cls c = some Cc → ExP H' dx p → Rel G B F' m' oa' σ H' ⟨s.r, st', s.al⟩ → Gr F F' m m' s.al → E (.ref Cc) dx H') : spO G n mf vs H Q E := by
  refine ⟨by rw [dx.length, hl], _, F, m, oa, s.st, ds, R.toCall ha, dx, ?_⟩
  rw [hm]
  have gr : ∀ {F' m'}, Same F F' → Pre m m' → Gr F F' m m' s.al := fun a b => ⟨a, b, fun z => by rw [ha] at z; cases z⟩
  obtain ⟨r, st'⟩ := r
  cases r with
  | val d => exact fun v F' H' m' oa' R' f p dv => q v F' H' m' _ (R.ofCall1 R' f p) (gr f p) dv
  | exc c pp => exact fun Cc dx F' H' m' oa' a b R' f p => q Cc dx F' H' m' _ a b (R.ofCall1 R' f p) (gr f p)
  | own es =>
    intro p us F' H' m' oa' hb R' f pm dv
    obtain ⟨k1, k2⟩ := R.ofCallOwn hb R' f pm
    have k3 := k2.freezeB k1
    have fp : F' p = none := by
      cases ez : F' p with
      | none => rfl
      | some u => exact absurd (k2.fb p (by rw [ez]; simp)) (by rw [upd_same]; simp)
    exact q _ _ H' m' _ k3 (gr (f.trans (same_upd fp)) pm) (.lst (SqL.of upd_same) (dv.mono (same_upd fp) (Pre.refl _)))
/-- defs that change objects -/
structure DefO (P : Program) (w : World) (K : PySem.W.Frag) (mg : Str → Option Value) (base : Heap) (C : Str → Option Addr) (x : Str) (k : Nat) (ps : List Str) (mf : Fo) : Prop where
  ex : ∃ f fd, FnOk P w K mg base (L2.CX P w) k f fd ps (spO ⟨K, C⟩ ps.length mf) ∧ mg x = some (.ref f) ∧ PySem.W.keepIn K (.ref f) = true ∧ Binds K fd ps []
def mCall (mf : Fo) (fms : S → Option (EO (List D))) : S → Option (EO D) := fun s => if s.al = true then (match fms s with
  | some (.ok ds, st1) => (mf ds st1).map rsO
  | some (.er c p, st1) => some (.er c p, st1)
  | none => none) else none
theorem m_call (Dx : DX X N M Ms gs sc) (j : Nat) {k r : Nat} {x : Str} {ps : List Str} {mf : Fo} (h : DefO X.prog X.w X.K X.mg X.base C x k ps mf) (hr : Room r X.A) (hk : k ≤ r) (tk : Takes X W)
    (ha : PAM X C W (e :: es) fms) (hl : ∀ s ds st, fms s = some (.ok ds, st) → ds.length = ps.length) (hx : gs[j]? = some x := by rfl)
    (he : starEach (e :: es) X.env = (false, eval e X.env) :: starEach es X.env := by rfl) (hpl : (backTo pos (starEach es X.env)).any (·.1) = false := by rfl) :
    PM X C W (.Call (.Name x p) (e :: es) [] pos) (mCall mf fms) := by
  obtain ⟨f, fd, Fn, hm, kp, hb⟩ := h.ex
  refine PE.weak (pe_callS (E := WE W) Fn (hr.mono hk) (Dx.g j x hx).1 hm kp hb (fun σ => passAt tk σ) ha (Dx.g j x hx).2 he hpl) ?_
  rintro σ H Q ⟨B, F, m, oa, s, R, q⟩
  refine ⟨B, F, m, oa, s, R, ?_⟩
  unfold mCall at q
  by_cases hal : s.al = true
  case neg => simp only [if_neg hal] at q
  simp only [if_pos hal] at q
  cases h1 : fms s with
  | none => rw [h1] at q; exact q.elim
  | some r1 =>
    obtain ⟨r1, st1⟩ := r1
    rw [h1] at q
    cases r1 with
    | er c p => exact q
    | ok ds =>
      intro vs F1 H1 m1 oa1 R1 e1 dx
      simp only at q
      cases hmf : mf ds st1 with
      | none => rw [hmf] at q; exact q.elim
      | some r2 =>
        rw [hmf] at q
        refine spO_m (s := ⟨s.r, st1, s.al⟩) R1 hal dx (hl s ds st1 h1) hmf ?_
        have q : match rsO r2 with
          | (.ok d, st') => ∀ v F' H' m' oa', Rel (gx X C) B F' m' oa' σ H' ⟨s.r, st', s.al⟩ → Gr F F' m m' s.al → Dat (gx X C) m' F' v d → Q v H'
          | (.er c p, st') => ∀ Cc dx F' H' m' oa', C c = some Cc → ExP H' dx p → Rel (gx X C) B F' m' oa' σ H' ⟨s.r, st', s.al⟩ → Gr F F' m m' s.al → W (.ref Cc) dx σ H' := by
          revert q
          show (match some (rsO r2) with
            | some (.ok d, st') => _
            | some (.er c p, st') => _
            | none => False) → _
          cases rsO r2 with
          | mk x y => cases x <;> exact fun z => z
        revert q
        cases rsO r2 with
        | mk x y => cases x with
          | ok d => exact fun q v F' H' m' oa' a b c => q v F' H' m' oa' a (e1.trans b) c
          | er c p => exact fun q Cc dx F' H' m' oa' a b c d => q Cc dx F' H' m' oa' a b c (e1.trans d)
theorem maNil_len : ∀ s ds st, maNil s = some (.ok ds, st) → ds.length = 0 := by
  intro s ds st e
  cases e; rfl
theorem maCons_len {n : Nat} (h : ∀ s ds st, fms s = some (.ok ds, st) → ds.length = n) : ∀ s ds st, maCons fm fms s = some (.ok ds, st) → ds.length = n + 1 := by
  intro s ds st e
  unfold maCons at e
  split at e
  · split at e
    · rename_i h2
      cases e
      rw [List.length_cons, h _ _ _ h2]
    · cases e
    · cases e
  · cases e
  · cases e
end
end VS
namespace VS
open PySem L2
open PyProof.Rows hiding St
/-! ### objects changed: methods, makings, operators, tests, statements -/
def eb {α β : Type} (r : Option (EO α)) (k : α → List Ob → Option (EO β)) : Option (EO β) := match r with
  | some (.ok a, st) => k a st
  | some (.er c p, st) => some (.er c p, st)
  | none => none
def S.at (s : S) (st : List Ob) : S := ⟨s.r, st, s.al⟩
/-- what is wanted of an answer -/
def AnsM (G : Gx) (W : WX) (B F : Hp) (m : List Addr) (σ : L2.St) (s : S) (Q : VK) : Option (EO D) → Prop
  | some (.ok d, st') => ∀ v F' H' m' oa', Rel G B F' m' oa' σ H' ⟨s.r, st', s.al⟩ → Gr F F' m m' s.al → Dat G m' F' v d → Q v H'
  | some (.er c p, st') => ∀ Cc dx F' H' m' oa', G.cls c = some Cc → ExP H' dx p → Rel G B F' m' oa' σ H' ⟨s.r, st', s.al⟩ → Gr F F' m m' s.al → W (.ref Cc) dx σ H'
  | none => False
section
variable {X : Cx} {C : Str → Option Addr} {W : WX} {N : List Str} {M Ms : List (Option Str)} {gs : List Str} {sc : Scope} {e o a b : Expr} {es : List Expr} {f g : S → Option D} {fx : S → Option (Ex D)} {fm fm2 : S → Option (EO D)} {fms : S → Option (EO (List D))} {pos p apos : Pos}
theorem ansM_from {G : Gx} {B F F1 : Hp} {m m1 : List Addr} {σ : L2.St} {s : S} {st1 : List Ob} {Q : VK} {r : Option (EO D)} (h : AnsM G W B F m σ s Q r) (gr : Gr F F1 m m1 s.al) : AnsM G W B F1 m1 σ ⟨s.r, st1, s.al⟩ Q r := by
  cases r with
  | none => exact h
  | some r =>
    obtain ⟨r, st'⟩ := r
    cases r with
    | ok d => exact fun v F' H' m' oa' a b c => h v F' H' m' oa' a (gr.trans b) c
    | er c p => exact fun Cc dx F' H' m' oa' a b c d => h Cc dx F' H' m' oa' a b c (gr.trans d)
/-- the promise of a def, for an answer -/
theorem spO_a {G : Gx} {B F : Hp} {m : List Addr} {oa : Own → Addr} {σ : L2.St} {H : Hp} {s : S} {n : Nat} {mf : Fo} {vs : List V} {ds : List D} {Q : VK} (R : Rel G B F m oa σ H s) (ha : s.al = true) (dx : DatL G m F vs ds) (hl : ds.length = n) (q : AnsM G W B F m σ s Q ((mf ds s.st).map rsO)) : spO G n mf vs H Q (WE W σ) := by
  cases hm : mf ds s.st with
  | none => rw [hm] at q; exact q.elim
  | some r =>
    rw [hm] at q
    refine spO_m R ha dx hl hm ?_
    have q : AnsM G W B F m σ s Q (some (rsO r)) := q
    revert q
    cases rsO r with
    | mk x y => cases x with
      | ok d => exact fun q => q
      | er c p => exact fun q => q
abbrev DispO := List (Str × Fo)
def DispOkO (P : Program) (w : World) (K : PySem.W.Frag) (mg : Str → Option Value) (base : Heap) (C : Str → Option Addr) (k : Nat) (m : Str) (n : Nat) (T : DispO) : Prop := ∀ c mf, T.lookup c = some mf → MetOk P w K mg base C k c m (spO ⟨K, C⟩ n mf)
theorem dispO_nil {P : Program} {w : World} {K : PySem.W.Frag} {mg : Str → Option Value} {base : Heap} {C : Str → Option Addr} {k n : Nat} {m : Str} : DispOkO P w K mg base C k m n [] := fun c mf h => by cases h
theorem dispO_cons {P : Program} {w : World} {K : PySem.W.Frag} {mg : Str → Option Value} {base : Heap} {C : Str → Option Addr} {k n : Nat} {m : Str} {c : Str} {mf : Fo} {T : DispO} (h : MetOk P w K mg base C k c m (spO ⟨K, C⟩ n mf)) (t : DispOkO P w K mg base C k m n T) : DispOkO P w K mg base C k m n ((c, mf) :: T) := fun c' mf' e => by
  by_cases hc : c' = c
  · subst hc
    have hb : (c' == c') = true := beq_iff_eq.mpr rfl
    simp only [List.lookup, hb] at e
    cases e; exact h
  · have hb : (c' == c) = false := beq_eq_false_iff_ne.mpr hc
    simp only [List.lookup, hb] at e
    exact t c' mf' e
/-- the object's class tells the def -/
def onObj {α : Type} (s : S) (m : Str) (T : DispO) (k : Fo → Nat → Option α) : D → Option α
  | .obj n => (s.st[n]?).bind fun ob => if (ob.fs.lookup m).isSome = true then none else (T.lookup ob.cls).bind fun mf => k mf n
  | _ => none
theorem onObj_some {α : Type} {s : S} {m : Str} {T : DispO} {k : Fo → Nat → Option α} {d : D} {a : α} (h : onObj s m T k d = some a) : ∃ n ob mf, d = .obj n ∧ s.st[n]? = some ob ∧ ob.fs.lookup m = none ∧ T.lookup ob.cls = some mf ∧ k mf n = some a := by
  cases d with
  | obj n =>
    obtain ⟨ob, h1, h2⟩ := Option.bind_eq_some_iff.mp (show ((s.st[n]?).bind fun ob => if (ob.fs.lookup m).isSome = true then none else (T.lookup ob.cls).bind fun mf => k mf n) = some a from h)
    split at h2
    · cases h2
    · rename_i hn
      obtain ⟨mf, h3, h4⟩ := Option.bind_eq_some_iff.mp h2
      refine ⟨n, ob, mf, rfl, h1, ?_, h3, h4⟩
      cases z : ob.fs.lookup m with
      | none => rfl
      | some x => rw [z] at hn; exact absurd rfl hn
  | _ => cases h
def mMeth (m : Str) (T : DispO) (g : S → Option D) (fms : S → Option (EO (List D))) : S → Option (EO D) := fun s => if s.al = true then (g s).bind (onObj s m T fun mf n => eb (fms s) fun ds st1 => (mf (.obj n :: ds) st1).map rsO) else none
theorem ob_at {G : Gx} {B F : Hp} {m : List Addr} {oa : Own → Addr} {σ : L2.St} {H : Hp} {s : S} {v : V} {n : Nat} {ob : Ob} {mt : Str} {A : Addr} (R : Rel G B F m oa σ H s) (h : Dat G m F v (.obj n)) (e : s.st[n]? = some ob) (hA : G.cls ob.cls = some A) (hn : ob.fs.lookup mt = none) : ∃ a dx fs, v = .ref a ∧ H a = some (.ins A dx fs) ∧ fs.lookup mt = none := by
  cases h with
  | obj hm =>
    obtain ⟨a, C, dx, fs, h1, h2, h3, h4, h5, h6, h7⟩ := (R.obj n ob e).ex
    rw [hm] at h1; cases h1
    rw [hA] at h2; cases h2
    have q := h7 mt
    rw [hn] at q
    exact ⟨_, dx, fs, rfl, h3, q⟩
theorem m_meth {k r n : Nat} {m : Str} {T : DispO} (hT : DispOkO X.prog X.w X.K X.mg X.base C k m n T) (hr : Room r X.A) (hk : k ≤ r) (tk : Takes X W) (ho : PV X C o g) (ha : PAM X C W (e :: es) fms) (hl : ∀ s ds st, fms s = some (.ok ds, st) → ds.length + 1 = n)
    (hst : starEach (e :: es) X.env = (false, eval e X.env) :: starEach es X.env := by rfl) (hpl : (backTo pos (starEach es X.env)).any (·.1) = false := by rfl)
    (pl : Sem Bool) (ht : eval (.Call (.Attribute o m apos) (e :: es) [] pos) X.env = (do
      let ov ← eval o X.env
      standAt apos.atName
      let (f, first) ← holding [ov] (getMethod ov m pl)
      callWith pos f first (backTo pos (starEach (e :: es) X.env)) (backToKw pos (keywordEach [] X.env))) := by rfl) :
    PM X C W (.Call (.Attribute o m apos) (e :: es) [] pos) (mMeth m T g fms) := by
  refine ⟨fun pins s0 σ H Q I w => ?_⟩
  obtain ⟨B, F, m', oa, s, R, q⟩ := w
  have q : AnsM (gx X C) W B F m' σ s Q (mMeth m T g fms s) := q
  unfold mMeth at q
  by_cases hal : s.al = true
  case neg => rw [if_neg hal] at q; exact q.elim
  rw [if_pos hal] at q
  cases hg : g s with
  | none => rw [hg] at q; exact q.elim
  | some d =>
    rw [hg, Option.bind_some] at q
    cases hq : onObj s m T (fun mf n => eb (fms s) fun ds st1 => (mf (.obj n :: ds) st1).map rsO) d with
    | none => rw [hq] at q; exact q.elim
    | some r1 =>
      rw [hq] at q
      obtain ⟨i, ob, mf, rfl, h1, h2, hT1, h3⟩ := onObj_some hq
      obtain ⟨A, f, fd, ps, k', a1, a2, a3, a4, a5, a6⟩ := (hT _ mf hT1).ex
      refine (pe_methX (E := WE W) (pl := pl) ho a2 a3 a4 (hr.mono (Nat.le_trans a6 hk)) a5 (fun σ => passAt tk σ) ha hst hpl ht).run pins s0 σ H Q I ?_
      refine ⟨B, F, m', oa, s, _, R, hg, fun v F1 H1 R1 e1 dv => ?_⟩
      obtain ⟨a, dx, fs', rfl, k2, k3⟩ := ob_at (mt := m) R1 dv h1 a1 h2
      refine ⟨a, dx, fs', rfl, k2, k3, B, F1, m', oa, s, R1, ?_⟩
      cases hf : fms s with
      | none => rw [hf] at h3; cases h3
      | some rr =>
        obtain ⟨rr, st1⟩ := rr
        rw [hf] at h3
        cases rr with
        | er c2 p2 =>
          cases h3
          exact fun Cc dx F' H' m2 oa2 a b c d => q Cc dx F' H' m2 oa2 a b c ((Gr.of _ _ e1).trans d)
        | ok as =>
          intro vs F2 H2 m2 oa2 R2 e2 dxs
          have h3 : (mf (.obj i :: as) st1).map rsO = some r1 := h3
          refine spO_a (s := ⟨s.r, st1, s.al⟩) (ds := .obj i :: as) R2 hal (.cons (dv.mono e2.1 e2.2.1) dxs) (by rw [List.length_cons]; exact hl s as st1 hf) ?_
          rw [h3]
          exact ansM_from q ((Gr.of _ _ e1).trans e2)
theorem m_meth0 {k r : Nat} {m : Str} {T : DispO} (hT : DispOkO X.prog X.w X.K X.mg X.base C k m 1 T) (hr : Room r X.A) (hk : k ≤ r) (tk : Takes X W) (ho : PV X C o g)
    (pl : Sem Bool) (ht : eval (.Call (.Attribute o m apos) [] [] pos) X.env = (do
      let ov ← eval o X.env
      standAt apos.atName
      let (f, first) ← holding [ov] (getMethod ov m pl)
      callWith pos f first (backTo pos (starEach [] X.env)) (backToKw pos (keywordEach [] X.env))) := by rfl) :
    PM X C W (.Call (.Attribute o m apos) [] [] pos) (mMeth m T g maNil) := by
  refine ⟨fun pins s0 σ H Q I w => ?_⟩
  obtain ⟨B, F, m', oa, s, R, q⟩ := w
  have q : AnsM (gx X C) W B F m' σ s Q (mMeth m T g maNil s) := q
  unfold mMeth at q
  by_cases hal : s.al = true
  case neg => rw [if_neg hal] at q; exact q.elim
  rw [if_pos hal] at q
  cases hg : g s with
  | none => rw [hg] at q; exact q.elim
  | some d =>
    rw [hg, Option.bind_some] at q
    cases hq : onObj s m T (fun mf n => eb (maNil s) fun ds st1 => (mf (.obj n :: ds) st1).map rsO) d with
    | none => rw [hq] at q; exact q.elim
    | some r1 =>
      rw [hq] at q
      obtain ⟨i, ob, mf, rfl, h1, h2, hT1, h3⟩ := onObj_some hq
      obtain ⟨A, f, fd, ps, k', a1, a2, a3, a4, a5, a6⟩ := (hT _ mf hT1).ex
      refine (pe_methX0 (E := WE W) (pl := pl) ho a2 a3 a4 (hr.mono (Nat.le_trans a6 hk)) a5 (fun σ => passAt tk σ) ht).run pins s0 σ H Q I ?_
      refine ⟨B, F, m', oa, s, _, R, hg, fun v F1 H1 R1 e1 dv => ?_⟩
      obtain ⟨a, dx, fs', rfl, k2, k3⟩ := ob_at (mt := m) R1 dv h1 a1 h2
      refine ⟨a, dx, fs', rfl, k2, k3, ?_⟩
      have h3 : (mf [.obj i] s.st).map rsO = some r1 := h3
      refine spO_a (s := s) (ds := [.obj i]) R1 hal (.cons dv .nil) rfl ?_
      rw [h3]
      exact ansM_from (st1 := s.st) q (Gr.of _ _ e1)
/-! #### a new object -/
theorem Rel.newObj {G : Gx} {B F : Hp} {m : List Addr} {oa : Own → Addr} {σ : L2.St} {H : Hp} {s : S} {c : Str} {A x dx : Addr} (R : Rel G B F m oa σ H s) (ha : s.al = true) (hc : G.cls c = some A) (nx : H x = none) (ndx : H dx = none) (ne : dx ≠ x) :
    Rel G B F (m ++ [x]) oa σ (upd (upd H dx (.own x)) x (.ins A dx [])) ⟨s.r, s.st ++ [⟨c, []⟩], s.al⟩ ∧ Pre m (m ++ [x]) := by
  have pm : Pre m (m ++ [x]) := fun n a e => by
    rw [List.getElem?_append_left (List.getElem?_eq_some_iff.mp e).1]; exact e
  have up : ∀ b o, H b = some o → (upd (upd H dx (.own x)) x (.ins A dx [])) b = some o := fun b o e => by
    rw [upd_ne (ne_of_none e nx), upd_ne (ne_of_none e ndx)]; exact e
  have old : ∀ q ds, ownAt ⟨s.r, s.st ++ [⟨c, []⟩], s.al⟩ q = some ds → ownAt s q = some ds := fun q ds e => by
    cases q with
    | inl i => exact e
    | inr q =>
      obtain ⟨n, f⟩ := q
      have e : (match (s.st ++ [⟨c, []⟩])[n]? with
        | some ob => slO (ob.fs.lookup f)
        | none => none) = some ds := e
      by_cases h : n < s.st.length
      · rw [List.getElem?_append_left h] at e; exact e
      · rw [List.getElem?_append_right (by omega)] at e
        cases hz : n - s.st.length with
        | zero => rw [hz] at e; cases e
        | succ j => rw [hz] at e; cases e
  have ml := R.ml ha
  refine ⟨?_, pm⟩
  exact
  { fh := fun b o e => up b o (R.fh b o e)
    bh := fun b o e => up b o (R.bh b o e)
    fb := R.fb
    len := R.len
    slot := fun i sl e => (R.slot i sl e).mono (Same.refl _) pm
    cell := fun q ds e => by
      obtain ⟨c1, c2, vs, c3, c4⟩ := R.cell q ds (old q ds e)
      exact ⟨c1, c2, vs, up _ _ c3, c4.mono (Same.refl _) pm⟩
    inj := fun q r ds es e1 e2 => R.inj q r ds es (old q ds e1) (old r es e2)
    obj := fun n ob e => by
      have e : (s.st ++ [⟨c, []⟩])[n]? = some ob := e
      by_cases h : n < s.st.length
      · rw [List.getElem?_append_left h] at e
        obtain ⟨a, C, dx', fs, h1, h2, h3, h4, h5, h6, h7⟩ := (R.obj n ob e).ex
        exact ⟨⟨a, C, dx', fs, pm _ _ h1, h2, up _ _ h3, h4, h5, h6, fun f => (h7 f).mono (Same.refl _) pm⟩⟩
      · rw [List.getElem?_append_right (by omega)] at e
        have hn : n = s.st.length := by
          have := (List.getElem?_eq_some_iff.mp e).1
          simp at this; omega
        subst hn
        simp at e
        subst e
        refine ⟨⟨x, A, dx, [], ?_, hc, upd_same, ?_, ?_, Nat.le_refl _, fun f => rfl⟩⟩
        · rw [← ml, List.getElem?_append_right (Nat.le_refl _)]; simp
        · cases z : F x with
          | none => rfl
          | some o => rw [R.fh _ _ z] at nx; cases nx
        · cases z : B x with
          | none => rfl
          | some o => rw [R.bh _ _ z] at nx; cases nx
    ml := fun _ => by show (m ++ [x]).length = (s.st ++ [(⟨c, []⟩ : Ob)]).length; rw [List.length_append, List.length_append, ml]; rfl
    mnd := by
      rw [List.nodup_append]
      refine ⟨R.mnd, by simp, fun a h1 b h2 => ?_⟩
      simp at h2
      subst h2
      intro z
      subst z
      obtain ⟨n, hn, h3⟩ := List.getElem_of_mem h1
      have e : s.st[n]? = some s.st[n] := List.getElem?_eq_getElem (by omega)
      obtain ⟨a', C, dx', fs, k1, k2, k3, _⟩ := (R.obj n _ e).ex
      rw [List.getElem?_eq_getElem hn, h3] at k1; cases k1
      rw [nx] at k3; cases k3 }
structure MakOk (P : Program) (w : World) (K : PySem.W.Frag) (mg : Str → Option Value) (base : Heap) (C : Str → Option Addr) (k : Nat) (c : Str) (n : Nat) (mf : Fo) : Prop where
  ex : ∃ A f fd ps, C c = some A ∧ mg c = some (.ref A) ∧ Mk K A f ∧ FnOk P w K mg base (L2.CX P w) k f fd ps (spO ⟨K, C⟩ n mf) ∧ Binds K fd ps []
def mkEnd (n : Nat) : Option (Rs × List Ob) → Option (EO D)
  | some (.val .non, st) => some (.ok (.obj n), st)
  | _ => none
def mMake (c : Str) (mf : Fo) (fms : S → Option (EO (List D))) : S → Option (EO D) := fun s => if s.al = true then eb (fms s) (fun ds st1 => mkEnd st1.length (mf (.obj st1.length :: ds) (st1 ++ [⟨c, []⟩]))) else none
theorem m_make (Dx : DX X N M Ms gs sc) (j : Nat) {k r n : Nat} {c : Str} {mf : Fo} (h : MakOk X.prog X.w X.K X.mg X.base C k c n mf) (hr : Room r X.A) (hk : k + 1 ≤ r)
    (ha : PAM X C W (e :: es) fms) (hl : ∀ s ds st, fms s = some (.ok ds, st) → ds.length + 1 = n) (hx : gs[j]? = some c := by rfl)
    (he : starEach (e :: es) X.env = (false, eval e X.env) :: starEach es X.env := by rfl) (hpl : (backTo pos (starEach es X.env)).any (·.1) = false := by rfl) :
    PM X C W (.Call (.Name c p) (e :: es) [] pos) (mMake c mf fms) := by
  obtain ⟨A, f, fd, ps, hC, hm, Mk, Fn, hb⟩ := h.ex
  refine PE.weak (pe_make Mk Fn (hr.mono hk) (Dx.g j c hx).1 hm hb .nil passL ha (Dx.g j c hx).2 he hpl) ?_
  rintro σ H Q ⟨B, F, m, oa, s, R, q⟩
  have q : AnsM (gx X C) W B F m σ s Q (mMake c mf fms s) := q
  refine ⟨B, F, m, oa, s, R, ?_⟩
  unfold mMake at q
  by_cases hal : s.al = true
  case neg => rw [if_neg hal] at q; exact q.elim
  rw [if_pos hal] at q
  cases h1 : fms s with
  | none => rw [h1] at q; exact q.elim
  | some r1 =>
    obtain ⟨r1, st1⟩ := r1
    rw [h1] at q
    cases r1 with
    | er c p => exact q
    | ok ds =>
      intro vs F1 H1 m1 oa1 R1 e1 dxs x dx nx ndx nex
      have q : AnsM (gx X C) W B F m σ s Q (mkEnd st1.length (mf (.obj st1.length :: ds) (st1 ++ [⟨c, []⟩]))) := q
      obtain ⟨R2, pm⟩ := R1.newObj (c := c) hal hC nx ndx nex
      have hob : (m1 ++ [x])[st1.length]? = some x := by
        have ml : m1.length = st1.length := R1.ml hal
        rw [← ml, List.getElem?_append_right (Nat.le_refl _)]; simp
      rw [List.append_nil]
      cases hmf : mf (.obj st1.length :: ds) (st1 ++ [⟨c, []⟩]) with
      | none => rw [hmf] at q; exact q.elim
      | some r2 =>
        rw [hmf] at q
        refine spO_m (s := ⟨s.r, st1 ++ [⟨c, []⟩], s.al⟩) R2 hal (.cons (.obj hob) (dxs.mono (Same.refl _) pm)) (by rw [List.length_cons]; exact hl s ds st1 h1) hmf ?_
        obtain ⟨r2, st2⟩ := r2
        cases r2 with
        | exc c p => exact q.elim
        | own es => exact q.elim
        | val d =>
          cases d with
          | non =>
            intro v F' H' m' oa' R' gr dv
            cases dv
            have gr2 : Gr F1 F' m1 m' s.al := ⟨gr.1, pm.trans gr.2.1, fun z => by rw [hal] at z; cases z⟩
            have q : ∀ v F' H' m' oa', Rel (gx X C) B F' m' oa' σ H' ⟨s.r, st2, s.al⟩ → Gr F F' m m' s.al → Dat (gx X C) m' F' v (.obj st1.length) → Q v H' := q
            exact And.intro rfl (q _ F' H' m' oa' R' (e1.trans gr2) (.obj (gr.2.1 _ _ hob)))
          | _ => exact q.elim
/-! #### a def of a class called by the class -/
def tCC (A : Addr) (sp : Sp) (E : L2.St → XK) (ta : TE) (t : TA) : TE := fun σ H Q => ta σ H fun x H1 => x = .ref A ∧ t σ H1 fun vs H2 => sp vs H2 Q (E σ)
theorem pe_cc {CX : CXT} {k : Nat} {f A : Addr} {mc : Value} {fd : FuncData} {ps : List Str} {sp : Sp} {E : L2.St → XK} {m : Str} {ta : TE} {t : TA} {pl : Sem Bool} (he : PE X o ta) (r : ClX.CRead X.K A mc) (hm : PySem.W.findCls X.K (.ref A) mc m = some (.val (.ref f))) (kp : PySem.W.keepIn X.K (.ref f) = true)
    (F : FnOk X.prog X.w X.K X.mg X.base CX k f fd ps sp) (hr : Room k X.A) (hb : Binds X.K fd ps []) (hx : ∀ σ, PassesAt CX X σ (E σ)) (ha : PA X (e :: es) t)
    (hst : starEach (e :: es) X.env = (false, eval e X.env) :: starEach es X.env := by rfl) (hpl : (backTo pos (starEach es X.env)).any (·.1) = false := by rfl)
    (ht : eval (.Call (.Attribute o m apos) (e :: es) [] pos) X.env = (do
      let ov ← eval o X.env
      standAt apos.atName
      let (f, first) ← holding [ov] (getMethod ov m pl)
      callWith pos f first (backTo pos (starEach (e :: es) X.env)) (backToKw pos (keywordEach [] X.env))) := by rfl) :
    PE X (.Call (.Attribute o m apos) (e :: es) [] pos) (tCC A sp E ta t) := by
  refine ⟨fun pins s σ H Q I h => ?_⟩
  refine PySem.W.methodCall_KW (pl := pl) (thn (he.run pins s σ H _ I h) fun u s1 ⟨x, H1, I1, rx, ex, q⟩ => ?_) ht
  subst ex
  obtain rfl : u = Value.ref A := rx
  refine PySem.W.method_cls I1.kIn r.ga (PySem.W.cls_value I1.kIn r.rd hm (handed_of (v := .ref f) rfl) ?_)
  have I2 := I1.tok (s1.toks + 1)
  refine PySem.W.callWith_K (first := []) (h₀ := X.base) I.ok.mod.kin kp (thn (ha.run pos pins _ σ H1 _ I2 q) fun us s2 ⟨vs, H2, I3, rv, q2⟩ => ⟨I3.kIn, ?_⟩) hst hpl
  exact run_fnS F hr hb (hx σ) I3 rv q2
structure CcOk (P : Program) (w : World) (K : PySem.W.Frag) (mg : Str → Option Value) (base : Heap) (C : Str → Option Addr) (k : Nat) (c m : Str) (n : Nat) (mf : Fo) : Prop where
  ex : ∃ A mc f fd ps, mg c = some (.ref A) ∧ ClX.CRead K A mc ∧ PySem.W.findCls K (.ref A) mc m = some (.val (.ref f)) ∧ PySem.W.keepIn K (.ref f) = true ∧ FnOk P w K mg base (L2.CX P w) k f fd ps (spO ⟨K, C⟩ n mf) ∧ Binds K fd ps []
theorem m_cc (Dx : DX X N M Ms gs sc) (j : Nat) {k r n : Nat} {c m : Str} {mf : Fo} {np : Pos} (h : CcOk X.prog X.w X.K X.mg X.base C k c m n mf) (hr : Room r X.A) (hk : k ≤ r) (tk : Takes X W)
    (ha : PAM X C W (e :: es) fms) (hl : ∀ s ds st, fms s = some (.ok ds, st) → ds.length = n) (hx : gs[j]? = some c := by rfl)
    (hst : starEach (e :: es) X.env = (false, eval e X.env) :: starEach es X.env := by rfl) (hpl : (backTo pos (starEach es X.env)).any (·.1) = false := by rfl)
    (pl : Sem Bool) (ht : eval (.Call (.Attribute (.Name c np) m apos) (e :: es) [] pos) X.env = (do
      let ov ← eval (.Name c np) X.env
      standAt apos.atName
      let (f, first) ← holding [ov] (getMethod ov m pl)
      callWith pos f first (backTo pos (starEach (e :: es) X.env)) (backToKw pos (keywordEach [] X.env))) := by rfl) :
    PM X C W (.Call (.Attribute (.Name c np) m apos) (e :: es) [] pos) (mCall mf fms) := by
  obtain ⟨A, mc, f, fd, ps, hm, r, hf, kp, Fn, hb⟩ := h.ex
  refine PE.weak (pe_cc (E := WE W) (pl := pl) (pe_glob (Dx.g j c hx).1 hm (v := .ref A) rfl (Dx.g j c hx).2) r hf kp Fn (hr.mono hk) hb (fun σ => passAt tk σ) ha hst hpl ht) ?_
  rintro σ H Q ⟨B, F, m', oa, s, R, q⟩
  have q : AnsM (gx X C) W B F m' σ s Q (mCall mf fms s) := q
  refine ⟨rfl, B, F, m', oa, s, R, ?_⟩
  unfold mCall at q
  by_cases hal : s.al = true
  case neg => rw [if_neg hal] at q; exact q.elim
  rw [if_pos hal] at q
  cases h1 : fms s with
  | none => rw [h1] at q; exact q.elim
  | some r1 =>
    obtain ⟨r1, st1⟩ := r1
    rw [h1] at q
    cases r1 with
    | er c p => exact q
    | ok ds =>
      intro vs F1 H1 m1 oa1 R1 e1 dx
      have q : AnsM (gx X C) W B F m' σ s Q ((mf ds st1).map rsO) := q
      exact spO_a (s := ⟨s.r, st1, s.al⟩) R1 hal dx (hl s ds st1 h1) (ansM_from q e1)
/-! #### operators -/
def mD2 (g : D → D → Option D) (fa fb : S → Option (EO D)) : S → Option (EO D) := fun s => eb (fa s) fun x st1 => eb (fb ⟨s.r, st1, s.al⟩) fun y st2 => (g x y).map fun d => (.ok d, st2)
theorem m2_weak {r : R2} {g : D → D → Option D} (hr : Giv X C r g) (σ : L2.St) (H : Hp) (Q : VK) (w : tM (gx X C) W (mD2 g fm fm2) σ H Q) : tOp r (tM (gx X C) W fm) (tM (gx X C) W fm2) σ H Q := by
  obtain ⟨B, F, m, oa, s, R, q⟩ := w
  have q : AnsM (gx X C) W B F m σ s Q (mD2 g fm fm2 s) := q
  unfold mD2 at q
  refine ⟨B, F, m, oa, s, R, ?_⟩
  cases h1 : fm s with
  | none => rw [h1] at q; exact q.elim
  | some r1 =>
    obtain ⟨r1, st1⟩ := r1
    rw [h1] at q
    cases r1 with
    | er c p => exact q
    | ok x =>
      intro v F1 H1 m1 oa1 R1 e1 dx
      have q : AnsM (gx X C) W B F m σ s Q (eb (fm2 ⟨s.r, st1, s.al⟩) fun y st2 => (g x y).map fun d => (.ok d, st2)) := q
      refine ⟨B, F1, m1, oa1, ⟨s.r, st1, s.al⟩, R1, ?_⟩
      cases h2 : fm2 ⟨s.r, st1, s.al⟩ with
      | none => rw [h2] at q; exact q.elim
      | some r2 =>
        obtain ⟨r2, st2⟩ := r2
        rw [h2] at q
        cases r2 with
        | er c p => exact fun Cc dx F' H' m' oa' a b c d => q Cc dx F' H' m' oa' a b c (e1.trans d)
        | ok y =>
          intro u F2 H2 m2 oa2 R2 e2 dy
          have q : AnsM (gx X C) W B F m σ s Q ((g x y).map fun d => (.ok d, st2)) := q
          cases hg : g x y with
          | none => rw [hg] at q; exact q.elim
          | some d =>
            rw [hg] at q
            exact hr R2 hg (dx.mono e2.1 e2.2.1) dy fun w F3 H3 R3 e3 dw => q w F3 H3 m2 oa2 R3 ((e1.trans e2).trans (Gr.of _ _ e3)) dw
theorem m_cmp {op : CmpOp} {r : R2} {g : D → D → Option D} (ho : OpR X (compareOp op) r) (hr : Giv X C r g) (ha : PM X C W a fm) (hb : PM X C W b fm2) (hm : behindInMarks op b = false) : PM X C W (.Compare a [op] [b] pos) (mD2 g fm fm2) :=
  PE.weak (pe_cmpR ho ha hb hm) (m2_weak hr)
theorem m_bin {op : Operator} {r : R2} {g : D → D → Option D} (ho : OpR X (binaryOp op) r) (hr : Giv X C r g) (ha : PM X C W a fm) (hb : PM X C W b fm2) : PM X C W (.BinOp a op b pos) (mD2 g fm fm2) := PE.weak (pe_op ho ha hb) (m2_weak hr)
theorem m_eq (hu : X.A.units + 64 < cLine) (ha : PM X C W a fm) (hb : PM X C W b fm2) : PM X C W (.Compare a [.Eq] [b] pos) (mD2 dEq fm fm2) := m_cmp (op_eqD hu) giv_eq ha hb (nomark _)
theorem m_ne (hu : X.A.units + 64 < cLine) (ha : PM X C W a fm) (hb : PM X C W b fm2) : PM X C W (.Compare a [.NotEq] [b] pos) (mD2 dNe fm fm2) := m_cmp (op_neD hu) giv_ne ha hb (nomark _)
/-! #### tests -/
def tTM (G : Gx) (W : WX) (f : S → Option (EO Bool)) : TT := fun σ H Q => ∃ B F m oa s, Rel G B F m oa σ H s ∧ match f s with
  | some (.ok b, st') => ∀ F' H' m' oa', Rel G B F' m' oa' σ H' ⟨s.r, st', s.al⟩ → Gr F F' m m' s.al → Q b H'
  | some (.er c p, st') => ∀ Cc dx F' H' m' oa', G.cls c = some Cc → ExP H' dx p → Rel G B F' m' oa' σ H' ⟨s.r, st', s.al⟩ → Gr F F' m m' s.al → W (.ref Cc) dx σ H'
  | none => False
abbrev PTM (X : Cx) (C : Str → Option Addr) (W : WX) (e : Expr) (f : S → Option (EO Bool)) : Prop := PT X e (tTM (gx X C) W f)
abbrev PWM (X : Cx) (C : Str → Option Addr) (W : WX) (e : Expr) (f : S → Option (EO Bool)) : Prop := PW X e (tTM (gx X C) W f)
def bM (f : S → Option (EO D)) : S → Option (EO Bool) := fun s => eb (f s) fun d st => (dB d).map fun b => (.ok b, st)
theorem tm_weak {te : TE} (σ : L2.St) (H : Hp) (Q : Bool → Hp → Prop) (w : tTM (gx X C) W (bM fm) σ H Q) (k : ∀ (Q' : VK), (∀ b H', Q b H' → Q' (.bl b) H') → tM (gx X C) W fm σ H Q' → te σ H Q') (Q' : VK) (hQ : ∀ b H', Q b H' → Q' (.bl b) H') : te σ H Q' := by
  refine k Q' hQ ?_
  obtain ⟨B, F, m, oa, s, R, q⟩ := w
  refine ⟨B, F, m, oa, s, R, ?_⟩
  unfold bM at q
  cases h1 : fm s with
  | none => rw [h1] at q; exact q.elim
  | some r1 =>
    obtain ⟨r1, st1⟩ := r1
    rw [h1] at q
    cases r1 with
    | er c p => exact q
    | ok d =>
      intro v F' H' m' oa' R' gr dv
      simp only [eb] at q
      cases d with
      | bl b => cases dv; exact hQ _ _ (q F' H' m' oa' R' gr)
      | _ => exact q.elim
theorem tm_val (ha : PM X C W a fm) (he : ∀ whole, isTrue a X.env whole = (do let v ← whole; standAt a.pos; holding [v] (truthy v)) := by intro _; rfl) : PTM X C W a (bM fm) := by
  refine PT.weak (pt_val ha he) ?_
  intro σ H Q w
  exact tm_weak σ H Q w (fun _ _ z => z) _ fun b H' z => ⟨b, rfl, z⟩
theorem tm_cmp {op : CmpOp} {r : R2} {g : D → D → Option D} (ho : OpR X (compareOp op) r) (hr : Giv X C r g) (ha : PM X C W a fm) (hb : PM X C W b fm2) (hm : behindInMarks op b = false) : PTM X C W (.Compare a [op] [b] pos) (bM (mD2 g fm fm2)) := by
  refine PT.weak (pt_cmpR ho ha hb hm) ?_
  intro σ H Q w
  exact tm_weak (te := tOp r (tM (gx X C) W fm) (tM (gx X C) W fm2)) σ H Q w (fun _ _ z => m2_weak hr σ H _ z) _ fun b H' z => ⟨b, rfl, z⟩
theorem tm_eq (hu : X.A.units + 64 < cLine) (ha : PM X C W a fm) (hb : PM X C W b fm2) : PTM X C W (.Compare a [.Eq] [b] pos) (bM (mD2 dEq fm fm2)) := tm_cmp (op_eqD hu) giv_eq ha hb (nomark _)
theorem tm_ne (hu : X.A.units + 64 < cLine) (ha : PM X C W a fm) (hb : PM X C W b fm2) : PTM X C W (.Compare a [.NotEq] [b] pos) (bM (mD2 dNe fm fm2)) := tm_cmp (op_neD hu) giv_ne ha hb (nomark _)
variable {t t2 : S → Option Bool} {tm tm2 : S → Option (EO Bool)} {rest : List Expr}
def bP (t : S → Option Bool) : S → Option (EO Bool) := fun s => (t s).map fun b => (.ok b, s.st)
theorem tm_pure (ha : PTV X C a t) : PTM X C W a (bP t) := by
  refine PT.weak ha ?_
  rintro σ H Q ⟨B, F, m, oa, s, R, q⟩
  unfold bP at q
  cases h1 : t s with
  | none => rw [h1] at q; exact q.elim
  | some b =>
    rw [h1] at q
    exact ⟨B, F, m, oa, s, b, R, h1, fun F' H' R' e => q F' H' m oa R' (Gr.of _ _ e)⟩
def bMN (t : S → Option (EO Bool)) : S → Option (EO Bool) := fun s => eb (t s) fun b st => some (.ok (!b), st)
theorem tm_not (ha : PTM X C W a tm) : PTM X C W (.UnaryOp .Not a pos) (bMN tm) := by
  refine PT.weak (pt_not ha) ?_
  rintro σ H Q ⟨B, F, m, oa, s, R, q⟩
  unfold bMN at q
  refine ⟨B, F, m, oa, s, R, ?_⟩
  cases h1 : tm s with
  | none => rw [h1] at q; exact q.elim
  | some r1 =>
    obtain ⟨r1, st1⟩ := r1
    rw [h1] at q
    cases r1 with
    | er c p => exact q
    | ok d => exact q
theorem tm_and1 (ha : PTM X C W a tm) : PWM X C W (.BoolOp .And [a] pos) tm := pw_and1 ha
theorem tm_or1 (ha : PTM X C W a tm) : PWM X C W (.BoolOp .Or [a] pos) tm := pw_or1 ha
def bMA (t u : S → Option (EO Bool)) : S → Option (EO Bool) := fun s => eb (t s) fun b st => if b = true then u ⟨s.r, st, s.al⟩ else some (.ok false, st)
def bMO (t u : S → Option (EO Bool)) : S → Option (EO Bool) := fun s => eb (t s) fun b st => if b = true then some (.ok true, st) else u ⟨s.r, st, s.al⟩
theorem tm_and (ha : PTM X C W a tm) (hb : PWM X C W (.BoolOp .And (b :: rest) pos) tm2) : PWM X C W (.BoolOp .And (a :: b :: rest) pos) (bMA tm tm2) := by
  refine PW.weak (pw_and ha hb) ?_
  rintro σ H Q ⟨B, F, m, oa, s, R, q⟩
  unfold bMA at q
  refine ⟨B, F, m, oa, s, R, ?_⟩
  cases h1 : tm s with
  | none => rw [h1] at q; exact q.elim
  | some r1 =>
    obtain ⟨r1, st1⟩ := r1
    rw [h1] at q
    cases r1 with
    | er c p => exact q
    | ok c =>
      intro F1 H1 m1 oa1 R1 e1
      simp only [eb] at q
      cases c with
      | false => exact q F1 H1 m1 oa1 R1 e1
      | true =>
        rw [if_pos rfl] at q ⊢
        refine ⟨B, F1, m1, oa1, _, R1, ?_⟩
        cases h2 : tm2 ⟨s.r, st1, s.al⟩ with
        | none => rw [h2] at q; exact q.elim
        | some r2 =>
          obtain ⟨r2, st2⟩ := r2
          rw [h2] at q
          cases r2 with
          | er c p => exact fun Cc dx F' H' m' oa' a b c d => q Cc dx F' H' m' oa' a b c (e1.trans d)
          | ok c => exact fun F' H' m' oa' a b => q F' H' m' oa' a (e1.trans b)
theorem tm_or (ha : PTM X C W a tm) (hb : PWM X C W (.BoolOp .Or (b :: rest) pos) tm2) : PWM X C W (.BoolOp .Or (a :: b :: rest) pos) (bMO tm tm2) := by
  refine PW.weak (pw_or ha hb) ?_
  rintro σ H Q ⟨B, F, m, oa, s, R, q⟩
  unfold bMO at q
  refine ⟨B, F, m, oa, s, R, ?_⟩
  cases h1 : tm s with
  | none => rw [h1] at q; exact q.elim
  | some r1 =>
    obtain ⟨r1, st1⟩ := r1
    rw [h1] at q
    cases r1 with
    | er c p => exact q
    | ok c =>
      intro F1 H1 m1 oa1 R1 e1
      simp only [eb] at q
      cases c with
      | true => exact q F1 H1 m1 oa1 R1 e1
      | false =>
        rw [if_neg Bool.false_ne_true] at q ⊢
        refine ⟨B, F1, m1, oa1, _, R1, ?_⟩
        cases h2 : tm2 ⟨s.r, st1, s.al⟩ with
        | none => rw [h2] at q; exact q.elim
        | some r2 =>
          obtain ⟨r2, st2⟩ := r2
          rw [h2] at q
          cases r2 with
          | er c p => exact fun Cc dx F' H' m' oa' a b c d => q Cc dx F' H' m' oa' a b c (e1.trans d)
          | ok c => exact fun F' H' m' oa' a b => q F' H' m' oa' a (e1.trans b)
end
end VS
namespace VS
open PySem L2
open PyProof.Rows hiding St
/-! ### statements that change objects -/
def putS (f : Str) (x : Sl) : List (Str × Sl) → List (Str × Sl)
  | [] => [(f, x)]
  | (g, y) :: r => if g = f then (g, x) :: r else (g, y) :: putS f x r
theorem lookup_putS (f g : Str) (x : Sl) : ∀ fs : List (Str × Sl), (putS f x fs).lookup g = if g = f then some x else fs.lookup g
  | [] => by
    show List.lookup g [(f, x)] = _
    by_cases h : g = f
    · have hb : (g == f) = true := beq_iff_eq.mpr h
      simp only [List.lookup, hb, if_pos h]
    · have hb : (g == f) = false := beq_eq_false_iff_ne.mpr h
      simp only [List.lookup, hb, if_neg h]
  | (k, y) :: r => by
    have ih := lookup_putS f g x r
    unfold putS
    by_cases hk : k = f
    · subst hk
      rw [if_pos rfl]
      by_cases h : g = k
      · have hb : (g == k) = true := beq_iff_eq.mpr h
        simp only [List.lookup, hb, if_pos h]
      · have hb : (g == k) = false := beq_eq_false_iff_ne.mpr h
        simp only [List.lookup, hb, if_neg h]
    · rw [if_neg hk]
      by_cases h : g = k
      · have hb : (g == k) = true := beq_iff_eq.mpr h
        have hn : ¬ g = f := fun z => hk (h ▸ z)
        simp only [List.lookup, hb, if_neg hn]
      · have hb : (g == k) = false := beq_eq_false_iff_ne.mpr h
        simp only [List.lookup, hb, ih]
theorem putF_len (f : Str) (v : V) : ∀ fs : List (Str × V), (putF f v fs).length = if (fs.lookup f).isSome = true then fs.length else fs.length + 1
  | [] => rfl
  | (g, x) :: r => by
    have ih := putF_len f v r
    unfold putF
    by_cases h : g = f
    · have hb : (f == g) = true := beq_iff_eq.mpr h.symm
      rw [if_pos h]
      simp only [List.lookup, hb, Option.isSome_some, if_true, List.length_cons]
    · have hb : (f == g) = false := beq_eq_false_iff_ne.mpr (Ne.symm h)
      rw [if_neg h, List.length_cons, ih]
      simp only [List.lookup, hb, List.length_cons]
      split <;> rfl
theorem putS_len (f : Str) (v : Sl) : ∀ fs : List (Str × Sl), (putS f v fs).length = if (fs.lookup f).isSome = true then fs.length else fs.length + 1
  | [] => rfl
  | (g, x) :: r => by
    have ih := putS_len f v r
    unfold putS
    by_cases h : g = f
    · have hb : (f == g) = true := beq_iff_eq.mpr h.symm
      rw [if_pos h]
      simp only [List.lookup, hb, Option.isSome_some, if_true, List.length_cons]
    · have hb : (f == g) = false := beq_eq_false_iff_ne.mpr (Ne.symm h)
      rw [if_neg h, List.length_cons, ih]
      simp only [List.lookup, hb, List.length_cons]
      split <;> rfl
def S.fld (s : S) (n : Nat) (f : Str) (x : Sl) : S := ⟨s.r, match s.st[n]? with
  | some ob => s.st.set n ⟨ob.cls, putS f x ob.fs⟩
  | none => s.st, s.al⟩
section
variable {G : Gx} {m : List Addr} {oa : Own → Addr} {σ : L2.St} {H B F : Hp} {s : S}
theorem ownAt_fld {n : Nat} {ob : Ob} {f : Str} {x : Sl} (e : s.st[n]? = some ob) {y : Own} {ds : List D} (h : ownAt (s.fld n f x) y = some ds) : (y = .inr (n, f) ∧ x = .ow ds) ∨ (y ≠ .inr (n, f) ∧ ownAt s y = some ds) := by
  cases y with
  | inl i => exact .inr ⟨(fun z => by cases z), h⟩
  | inr q =>
    obtain ⟨k, g⟩ := q
    have h : (match (match s.st[n]? with
      | some ob => s.st.set n ⟨ob.cls, putS f x ob.fs⟩
      | none => s.st)[k]? with
      | some ob => slO (ob.fs.lookup g)
      | none => none) = some ds := h
    rw [e] at h
    by_cases hk : n = k
    · subst hk
      have hl := (List.getElem?_eq_some_iff.mp e).1
      rw [List.getElem?_set_self hl] at h
      have h : slO ((putS f x ob.fs).lookup g) = some ds := h
      rw [lookup_putS] at h
      by_cases hg : g = f
      · subst hg
        rw [if_pos rfl] at h
        cases x with
        | ow es => cases h; exact .inl ⟨rfl, rfl⟩
        | _ => cases h
      · rw [if_neg hg] at h
        refine .inr ⟨(fun z => hg (by cases z; rfl)), ?_⟩
        show (match s.st[n]? with
          | some ob => slO (ob.fs.lookup g)
          | none => none) = _
        rw [e]; exact h
    · rw [List.getElem?_set_ne hk] at h
      exact .inr ⟨(fun z => hk (by cases z; rfl)), h⟩
/-- a field is stored -/
theorem Rel.fld (R : Rel G B F m oa σ H s) {n : Nat} {ob : Ob} {a C dx : Addr} {fs : List (Str × V)} {f : Str} {v : V} {x : Sl} (e : s.st[n]? = some ob) (ha : m[n]? = some a) (hH : H a = some (.ins C dx fs))
    (hx : FlR G F m (oa (.inr (n, f))) (some v) (some x))
    (hc : ∀ ds, x = .ow ds → CellR G B F m H (oa (.inr (n, f))) ds ∧ ∀ z es, ownAt s z = some es → z ≠ .inr (n, f) → oa z ≠ oa (.inr (n, f))) : Rel G B F m oa σ (upd H a (.ins C dx (putF f v fs))) (s.fld n f x) := by
  obtain ⟨a', C', dx', fs', h1, h2, h3, h4, h5, h6, h7⟩ := (R.obj n ob e).ex
  rw [ha] at h1; cases h1
  rw [hH] at h3; cases h3
  have hl := (List.getElem?_eq_some_iff.mp e).1
  have cellU : ∀ {p ds}, CellR G B F m H p ds → CellR G B F m (upd H a (.ins C dx (putF f v fs))) p ds := fun {p ds} ⟨c1, c2, vs, c3, c4⟩ => by
    have np : p ≠ a := fun z => by rw [z, hH] at c3; cases c3
    exact ⟨c1, c2, vs, by rw [upd_ne np]; exact c3, c4⟩
  exact
  { fh := fun b o z => by rw [upd_ne (ne_of_none z h4)]; exact R.fh b o z
    bh := fun b o z => by rw [upd_ne (ne_of_none z h5)]; exact R.bh b o z
    fb := R.fb
    len := R.len
    slot := R.slot
    cell := fun y ds z => by
      rcases ownAt_fld e z with ⟨h1, h2⟩ | ⟨_, h2⟩
      · subst h1; exact cellU (hc ds h2).1
      · exact cellU (R.cell y ds h2)
    inj := fun y z ds es e1 e2 q => by
      rcases ownAt_fld e e1 with ⟨y1, y2⟩ | ⟨y1, y2⟩ <;> rcases ownAt_fld e e2 with ⟨z1, z2⟩ | ⟨z1, z2⟩
      · rw [y1, z1]
      · subst y1; exact absurd q.symm ((hc ds y2).2 z es z2 z1)
      · subst z1; exact absurd q ((hc es z2).2 y ds y2 y1)
      · exact R.inj y z ds es y2 z2 q
    obj := fun k ob' z => by
      have z : (match s.st[n]? with
        | some ob => s.st.set n ⟨ob.cls, putS f x ob.fs⟩
        | none => s.st)[k]? = some ob' := z
      rw [e] at z
      by_cases hk : n = k
      · subst hk
        rw [List.getElem?_set_self hl] at z
        cases z
        refine ⟨⟨a, C, dx, putF f v fs, ha, h2, upd_same, h4, h5, ?_, fun g => ?_⟩⟩
        · show (putF f v fs).length ≤ (putS f x ob.fs).length
          rw [putF_len, putS_len]
          have q := h7 f
          cases l1 : ob.fs.lookup f with
          | none =>
            rw [l1] at q
            have q : fs.lookup f = none := q
            rw [q]
            simp only [Option.isSome_none, Bool.false_eq_true, if_false]
            omega
          | some sl =>
            have : (fs.lookup f).isSome = true := by
              rw [l1] at q
              cases sl with
              | un => exact q.elim
              | fr d => obtain ⟨w, q1, _⟩ := q; rw [q1]; rfl
              | ow ds => have q : fs.lookup f = some _ := q; rw [q]; rfl
            rw [this]
            simp only [Option.isSome_some, if_true]
            exact h6
        · show FlR G F m (oa (.inr (n, g))) ((putF f v fs).lookup g) ((putS f x ob.fs).lookup g)
          rw [lookup_putF, lookup_putS]
          by_cases hg : g = f
          · subst hg; rw [if_pos rfl, if_pos rfl]; exact hx
          · rw [if_neg hg, if_neg hg]; exact h7 g
      · rw [List.getElem?_set_ne hk] at z
        obtain ⟨a2, C2, dx2, fs2, k1, k2, k3, k4, k5, k6, k7⟩ := (R.obj k ob' z).ex
        have na : a2 ≠ a := fun w => by
          subst w
          obtain ⟨i1, i2⟩ := List.getElem?_eq_some_iff.mp ha
          exact hk ((List.getElem?_inj i1 R.mnd).mp (ha.trans k1.symm))
        exact ⟨⟨a2, C2, dx2, fs2, k1, k2, by rw [upd_ne na]; exact k3, k4, k5, k6, k7⟩⟩
    ml := fun z => by
      have := R.ml z
      show m.length = (match s.st[n]? with
        | some ob => s.st.set n ⟨ob.cls, putS f x ob.fs⟩
        | none => s.st).length
      rw [e]; simpa using this
    mnd := R.mnd }
theorem Rel.fldV (R : Rel G B F m oa σ H s) {n : Nat} {ob : Ob} {a C dx : Addr} {fs : List (Str × V)} {f : Str} {v : V} {d : D} (e : s.st[n]? = some ob) (ha : m[n]? = some a) (hH : H a = some (.ins C dx fs)) (dv : Dat G m F v d) :
    Rel G B F m oa σ (upd H a (.ins C dx (putF f v fs))) (s.fld n f (.fr d)) := R.fld e ha hH ⟨v, rfl, dv⟩ fun ds z => by cases z
theorem Rel.fldN {p : Addr} {vs : List V} (R : Rel G (upd B p (.lst vs)) F m oa σ H s) (hb : B p = none) {n : Nat} {ob : Ob} {a C dx : Addr} {fs : List (Str × V)} {f : Str} {ds : List D} (e : s.st[n]? = some ob) (ha : m[n]? = some a) (hH : H a = some (.ins C dx fs)) (dv : DatL G m F vs ds) :
    Rel G B F m (oaSet oa (.inr (n, f)) p) σ (upd H a (.ins C dx (putF f (.ref p) fs))) (s.fld n f (.ow ds)) := by
  have fp : F p = none := by
    cases z : F p with
    | none => rfl
    | some u => exact absurd (R.fb p (by rw [z]; simp)) (by rw [upd_same]; simp)
  have np : ∀ x ds, ownAt s x = some ds → oa x ≠ p := fun x es e z => by
    obtain ⟨_, h2, _⟩ := R.cell x es e
    rw [z, upd_same] at h2; cases h2
  -- first the field holds nothing of its own
  have R0 : Rel G (upd B p (.lst vs)) F m oa σ (upd H a (.ins C dx (putF f .non fs))) (s.fld n f (.fr .non)) := R.fldV e ha hH .non
  have R1 := R0.lessB (B' := B) (same_upd hb)
  have R2 : Rel G B F m (oaSet oa (.inr (n, f)) p) σ (upd H a (.ins C dx (putF f .non fs))) (s.fld n f (.fr .non)) := R1.reoa fun x es z => by
    rcases ownAt_fld e z with ⟨_, h2⟩ | ⟨h1, _⟩
    · cases h2
    · exact oaSet_ne h1
  have e2 : (s.fld n f (.fr .non)).st[n]? = some ⟨ob.cls, putS f (.fr .non) ob.fs⟩ := by
    show (match s.st[n]? with
      | some ob => s.st.set n ⟨ob.cls, putS f (.fr .non) ob.fs⟩
      | none => s.st)[n]? = _
    rw [e]
    exact List.getElem?_set_self (List.getElem?_eq_some_iff.mp e).1
  have npa : p ≠ a := fun z => by
    have := R.bh p _ upd_same
    rw [z, hH] at this; cases this
  have R3 := R2.fld (f := f) (v := .ref p) (x := .ow ds) e2 ha upd_same (by show some (V.ref p) = some (.ref (oaSet oa (.inr (n, f)) p (.inr (n, f)))); rw [oaSet_same]) fun es z => by
    cases z
    rw [oaSet_same]
    refine ⟨⟨fp, hb, vs, by rw [upd_ne npa]; exact R.bh p _ upd_same, dv⟩, fun z es w nz => ?_⟩
    rw [oaSet_ne nz]
    rcases ownAt_fld e w with ⟨_, h2⟩ | ⟨_, h2⟩
    · cases h2
    · exact np z es h2
  have pp : ∀ (fs : List (Str × V)), putF f (.ref p) (putF f .non fs) = putF f (.ref p) fs := fun fs => by
    induction fs with
    | nil => show (if f = f then _ else _) = _; rw [if_pos rfl]; rfl
    | cons q r ih =>
      obtain ⟨g, y⟩ := q
      by_cases hg : g = f
      · simp only [putF, if_pos hg]
      · simp only [putF, if_neg hg, ih]
  have ps : ∀ (fs : List (Str × Sl)), putS f (.ow ds) (putS f (.fr .non) fs) = putS f (.ow ds) fs := fun fs => by
    induction fs with
    | nil => show (if f = f then _ else _) = _; rw [if_pos rfl]; rfl
    | cons q r ih =>
      obtain ⟨g, y⟩ := q
      by_cases hg : g = f
      · simp only [putS, if_pos hg]
      · simp only [putS, if_neg hg, ih]
  have hu : upd (upd H a (.ins C dx (putF f .non fs))) a (.ins C dx (putF f (.ref p) (putF f .non fs))) = upd H a (.ins C dx (putF f (.ref p) fs)) := by
    rw [pp]
    funext b
    by_cases hb : b = a
    · subst hb; rw [upd_same, upd_same]
    · rw [upd_ne hb, upd_ne hb, upd_ne hb]
  have hs : (s.fld n f (.fr .non)).fld n f (.ow ds) = s.fld n f (.ow ds) := by
    show (⟨s.r, match (s.fld n f (.fr .non)).st[n]? with
      | some ob => (s.fld n f (.fr .non)).st.set n ⟨ob.cls, putS f (.ow ds) ob.fs⟩
      | none => (s.fld n f (.fr .non)).st, s.al⟩ : S) = _
    rw [e2]
    show (⟨s.r, (match s.st[n]? with
      | some ob => s.st.set n ⟨ob.cls, putS f (.fr .non) ob.fs⟩
      | none => s.st).set n ⟨ob.cls, putS f (.ow ds) (putS f (.fr .non) ob.fs)⟩, s.al⟩ : S) = ⟨s.r, match s.st[n]? with
      | some ob => s.st.set n ⟨ob.cls, putS f (.ow ds) ob.fs⟩
      | none => s.st, s.al⟩
    rw [e, ps]
    simp only [List.set_set]
  rw [hu, hs] at R3
  exact R3
/-- a list of a field's own changes -/
theorem Rel.fldSet (R : Rel G B F m oa σ H s) {n : Nat} {ob : Ob} {f : Str} {ds es : List D} {us : List V} (e : s.st[n]? = some ob) (hl : ob.fs.lookup f = some (.ow ds)) (du : DatL G m F us es) :
    Rel G B F m oa σ (upd H (oa (.inr (n, f))) (.lst us)) (s.fld n f (.ow es)) := by
  have own : ownAt s (.inr (n, f)) = some ds := by
    show (match s.st[n]? with
      | some ob => slO (ob.fs.lookup f)
      | none => none) = _
    rw [e]; show slO (ob.fs.lookup f) = _; rw [hl]; rfl
  obtain ⟨c1, c2, vs, c3, c4⟩ := R.cell _ ds own
  have hn := (List.getElem?_eq_some_iff.mp e).1
  exact
  { fh := fun b o z => by rw [upd_ne (ne_of_none z c1)]; exact R.fh b o z
    bh := fun b o z => by rw [upd_ne (ne_of_none z c2)]; exact R.bh b o z
    fb := R.fb
    len := R.len
    slot := R.slot
    cell := fun y gs z => by
      rcases ownAt_fld e z with ⟨h1, h2⟩ | ⟨h1, h2⟩
      · subst h1; cases h2; exact ⟨c1, c2, us, upd_same, du⟩
      · obtain ⟨k1, k2, ws, k3, k4⟩ := R.cell y gs h2
        have ny : oa y ≠ oa (.inr (n, f)) := fun w => h1 (R.inj _ _ _ _ h2 own w)
        exact ⟨k1, k2, ws, by rw [upd_ne ny]; exact k3, k4⟩
    inj := fun y z gs hs e1 e2 q => by
      have o1 : ∃ gs, ownAt s y = some gs := by
        rcases ownAt_fld e e1 with ⟨h1, _⟩ | ⟨_, h2⟩
        · subst h1; exact ⟨_, own⟩
        · exact ⟨_, h2⟩
      have o2 : ∃ gs, ownAt s z = some gs := by
        rcases ownAt_fld e e2 with ⟨h1, _⟩ | ⟨_, h2⟩
        · subst h1; exact ⟨_, own⟩
        · exact ⟨_, h2⟩
      obtain ⟨_, o1⟩ := o1
      obtain ⟨_, o2⟩ := o2
      exact R.inj y z _ _ o1 o2 q
    obj := fun k ob' z => by
      have z : (match s.st[n]? with
        | some ob => s.st.set n ⟨ob.cls, putS f (.ow es) ob.fs⟩
        | none => s.st)[k]? = some ob' := z
      rw [e] at z
      have keep : ∀ {a C dx : Addr} {fs : List (Str × V)}, H a = some (.ins C dx fs) → (upd H (oa (.inr (n, f))) (.lst us)) a = some (.ins C dx fs) := fun {a C dx fs} h => by
        rw [upd_ne (fun w => by rw [w, c3] at h; cases h)]; exact h
      by_cases hk : n = k
      · subst hk
        rw [List.getElem?_set_self hn] at z
        cases z
        obtain ⟨a, C, dx, fs, h1, h2, h3, h4, h5, h6, h7⟩ := (R.obj n ob e).ex
        refine ⟨⟨a, C, dx, fs, h1, h2, keep h3, h4, h5, ?_, fun g => ?_⟩⟩
        · show fs.length ≤ (putS f (.ow es) ob.fs).length
          rw [putS_len, hl]
          exact h6
        · show FlR G F m (oa (.inr (n, g))) (fs.lookup g) ((putS f (.ow es) ob.fs).lookup g)
          rw [lookup_putS]
          by_cases hg : g = f
          · subst hg
            rw [if_pos rfl]
            have q := h7 g
            rw [hl] at q
            exact q
          · rw [if_neg hg]; exact h7 g
      · rw [List.getElem?_set_ne hk] at z
        obtain ⟨a, C, dx, fs, h1, h2, h3, h4, h5, h6, h7⟩ := (R.obj k ob' z).ex
        exact ⟨⟨a, C, dx, fs, h1, h2, keep h3, h4, h5, h6, h7⟩⟩
    ml := fun z => by
      have := R.ml z
      show m.length = (match s.st[n]? with
        | some ob => s.st.set n ⟨ob.cls, putS f (.ow es) ob.fs⟩
        | none => s.st).length
      rw [e]; simpa using this
    mnd := R.mnd }
end
end VS
namespace VS
open PySem L2
open PyProof.Rows hiding St
section
variable {X : Cx} {C : Str → Option Addr} {W : WX} {N : List Str} {M Ms : List (Option Str)} {gs : List Str} {sc : Scope} {e o ie : Expr} {f g h : S → Option D} {fs : S → Option (List D)} {fm : S → Option (EO D)} {tm : S → Option (EO Bool)} {sts sts2 : List Stmt} {g1 g2 : S → Option Out} {pos : Pos}
/-- an answer goes on -/
def onM {α : Type} (fm : S → Option (EO α)) (k : α → S → Option Out) : S → Option Out := fun s => match fm s with
  | some (.ok a, st) => k a ⟨s.r, st, s.al⟩
  | some (.er c p, st) => some (.ex c p ⟨s.r, st, s.al⟩)
  | none => none
def sExprM (fm : S → Option (EO D)) := onM fm fun _ s => some (.nx s)
def sSetM (i : Nat) (fm : S → Option (EO D)) := onM fm fun d s => some (.nx (s.put i (.fr d)))
def sRetM (fm : S → Option (EO D)) := onM fm fun d s => some (.rt d s)
def sIfM (tm : S → Option (EO Bool)) (g k : S → Option Out) := onM tm fun c s => if c = true then g s else k s
theorem m_ends {D : Ends} {σ : L2.St} {H : Hp} {k : VS.D → S → Option Out} (w : tSt (gx X C) W (onM fm k) D σ H) (Q : VK)
    (kk : ∀ (B F : Hp) (m : List Addr) (s : S) (d : VS.D) (st' : List Ob), EndsOk (gx X C) W B F m s.al D (k d ⟨s.r, st', s.al⟩) → ∀ v F' H' m' oa', Rel (gx X C) B F' m' oa' σ H' ⟨s.r, st', s.al⟩ → Gr F F' m m' s.al → Dat (gx X C) m' F' v d → Q v H') : tM (gx X C) W fm σ H Q := by
  obtain ⟨B, F, m, oa, s, R, q⟩ := w
  refine ⟨B, F, m, oa, s, R, ?_⟩
  unfold onM at q
  cases h1 : fm s with
  | none => rw [h1] at q; exact q.elim
  | some r1 =>
    obtain ⟨r1, st1⟩ := r1
    rw [h1] at q
    cases r1 with
    | er c p => exact fun Cc dx F' H' m' oa' a b c d => q Cc dx σ H' F' m' oa' a b c d
    | ok d => exact fun v F' H' m' oa' R' gr dv => kk B F m s d st1 q v F' H' m' oa' R' gr dv
theorem onM_al {α : Type} {fm : S → Option (EO α)} {k : α → S → Option Out} (h : ∀ a, AlOk (k a)) : AlOk (onM fm k) := fun s s' e => by
  unfold onM at e
  split at e
  · have z := h _ _ _ e
    exact z
  · cases e
  · cases e
theorem s_exprM (he : PM X C W e fm) (hs : swapsWith e none pos.line X.env = pure false := by rfl) : PSV X C W (.Expr e pos) (sExprM fm) :=
  ⟨PS.weak (ps_expr he hs) fun D σ H w => m_ends w _ fun B F m s d st' q v F' H' m' oa' R' gr dv => q σ H' F' m' oa' R' gr, onM_al fun a s s' e => by cases e; rfl⟩
theorem s_setM (Dx : DX X N M Ms gs sc) (i : Nat) {x : Str} {pos' : Pos} (he : PM X C W e fm) (hx : Ms[i]? = some (some x) := by rfl) (hs : swapsWith e (some (.Name x pos')) pos.line X.env = pure false := by rfl) : PSV X C W (.Assign [.Name x pos'] e pos) (sSetM i fm) := by
  obtain ⟨w1, w2, w3⟩ := Dx.l i x hx
  exact ⟨PS.weak (ps_set Dx.nd w1 w2 he hs w3) fun D σ H w => m_ends w _ fun B F m s d st' q v F' H' m' oa' R' gr dv => q _ H' F' m' oa' (R'.put i dv) gr, onM_al fun a s s' e => by cases e; rfl⟩
theorem s_retM (he : PM X C W e fm) : PSV X C W (.Return (some e) pos) (sRetM fm) :=
  ⟨PS.weak (ps_ret he) fun D σ H w => m_ends w _ fun B F m s d st' q v F' H' m' oa' R' gr dv => q v σ H' F' m' oa' R' gr dv, onM_al fun a s s' e => by cases e⟩
theorem s_ifM {c : Expr} (hc : PTM X C W c tm) (h1 : PSsV X C W sts g1) (h2 : PSsV X C W sts2 g2) : PSV X C W (.If c sts sts2 pos) (sIfM tm g1 g2) := by
  refine ⟨PS.weak (ps_if hc h1.run h2.run) ?_, onM_al fun c s s' e => ?_⟩
  · rintro D σ H ⟨B, F, m, oa, s, R, q⟩
    refine ⟨B, F, m, oa, s, R, ?_⟩
    unfold sIfM onM at q
    cases h1 : tm s with
    | none => rw [h1] at q; exact q.elim
    | some r1 =>
      obtain ⟨r1, st1⟩ := r1
      rw [h1] at q
      cases r1 with
      | er c p => exact fun Cc dx F' H' m' oa' a b c d => q Cc dx σ H' F' m' oa' a b c d
      | ok c =>
        intro F' H' m' oa' R' gr
        cases c with
        | true => exact ⟨B, F', m', oa', _, R', EndsOk.from (show EndsOk (gx X C) W B F m s.al D (g1 ⟨s.r, st1, s.al⟩) from q) gr⟩
        | false => exact ⟨B, F', m', oa', _, R', EndsOk.from (show EndsOk (gx X C) W B F m s.al D (g2 ⟨s.r, st1, s.al⟩) from q) gr⟩
  · cases c with
    | true => exact h1.al _ _ e
    | false => exact h2.al _ _ e
/-! #### fields -/
/-- the object that is meant -/
def onFld {α : Type} (cs : List Str) (s : S) (k : Nat → Ob → Option α) : D → Option α
  | .obj n => (s.st[n]?).bind fun ob => if ob.fs.length < 999 ∧ cs.contains ob.cls = true then k n ob else none
  | _ => none
theorem onFld_some {α : Type} {cs : List Str} {s : S} {k : Nat → Ob → Option α} {d : D} {a : α} (h : onFld cs s k d = some a) : ∃ n ob, d = .obj n ∧ s.st[n]? = some ob ∧ ob.fs.length < 999 ∧ cs.contains ob.cls = true ∧ k n ob = some a := by
  cases d with
  | obj n =>
    obtain ⟨ob, h1, h2⟩ := Option.bind_eq_some_iff.mp (show ((s.st[n]?).bind fun ob => if ob.fs.length < 999 ∧ cs.contains ob.cls = true then k n ob else none) = some a from h)
    split at h2
    · rename_i hc; exact ⟨n, ob, rfl, h1, hc.1, hc.2, h2⟩
    · cases h2
  | _ => cases h
theorem obj_at {G : Gx} {B F : Hp} {m : List Addr} {oa : Own → Addr} {σ : L2.St} {H : Hp} {s : S} {v : V} {n : Nat} {ob : Ob} (R : Rel G B F m oa σ H s) (h : Dat G m F v (.obj n)) (e : s.st[n]? = some ob) :
    ∃ a A dx fs, v = .ref a ∧ m[n]? = some a ∧ G.cls ob.cls = some A ∧ H a = some (.ins A dx fs) ∧ fs.length ≤ ob.fs.length ∧ ∀ f, FlR G F m (oa (.inr (n, f))) (fs.lookup f) (ob.fs.lookup f) := by
  cases h with
  | obj hm =>
    obtain ⟨a, A, dx, fs, h1, h2, h3, h4, h5, h6, h7⟩ := (R.obj n ob e).ex
    rw [hm] at h1; cases h1
    exact ⟨_, A, dx, fs, rfl, hm, h2, h3, h6, h7⟩
def sFld (cs : List Str) (nm : Str) (g f : S → Option D) : S → Option Out := fun s => (f s).bind fun d => (g s).bind (onFld cs s fun n _ => some (.nx (s.fld n nm (.fr d))))
def sFldN (cs : List Str) (nm : Str) (g : S → Option D) (fs : S → Option (List D)) : S → Option Out := fun s => (fs s).bind fun ds => (g s).bind (onFld cs s fun n _ => some (.nx (s.fld n nm (.ow ds))))
theorem s_fld {cs fl : List Str} (T : ClsT X.K C cs fl) {nm : Str} {pos' : Pos} (hf : fl.contains nm = true) (ho : PV X C o g) (he : PV X C e f) (hs : swapsWith e (some (.Attribute o nm pos')) pos.line X.env = pure false := by rfl) : PSV X C W (.Assign [.Attribute o nm pos'] e pos) (sFld cs nm g f) := by
  refine ⟨PS.weak (ps_fld ho he hs) ?_, fun s s' e => ?_⟩
  · rintro D σ H ⟨B, F, m, oa, s, R, q⟩
    unfold sFld at q
    cases h1 : f s with
    | none => rw [h1] at q; exact q.elim
    | some d =>
      rw [h1, Option.bind_some] at q
      cases h2 : g s with
      | none => rw [h2] at q; exact q.elim
      | some x =>
        rw [h2, Option.bind_some] at q
        cases h3 : onFld cs s (fun n _ => some (Out.nx (s.fld n nm (.fr d)))) x with
        | none => rw [h3] at q; exact q.elim
        | some r =>
          rw [h3] at q
          obtain ⟨n, ob, rfl, e1, e2, e3, e4⟩ := onFld_some h3
          cases e4
          refine ⟨B, F, m, oa, s, d, R, h1, fun v F1 H1 R1 f1 dv => ⟨B, F1, m, oa, s, _, R1, h2, fun u F2 H2 R2 f2 du => ?_⟩⟩
          obtain ⟨a, A, dx, fs, rfl, k1, k2, k3, k4, k5⟩ := obj_at R2 du e1
          obtain ⟨A', a1, a2, a3⟩ := T _ (by simpa using e3)
          have k2 : C ob.cls = some A := k2
          rw [a1] at k2; cases k2
          exact ⟨a, _, dx, fs, rfl, k3, a2, a3 nm (by simpa using hf), by omega, q _ _ F2 m oa (R2.fldV e1 k1 k3 (dv.mono f2 (Pre.refl _))) (Gr.of _ _ (f1.trans f2))⟩
  · obtain ⟨d, _, h2⟩ := Option.bind_eq_some_iff.mp e
    obtain ⟨x, _, h3⟩ := Option.bind_eq_some_iff.mp h2
    obtain ⟨n, ob, _, _, _, _, h4⟩ := onFld_some h3
    cases h4; rfl
theorem s_fldN {cs fl : List Str} (T : ClsT X.K C cs fl) {nm : Str} {pos' : Pos} (hf : fl.contains nm = true) (ho : PV X C o g) (he : PN X C e fs) (hs : swapsWith e (some (.Attribute o nm pos')) pos.line X.env = pure false := by rfl) : PSV X C W (.Assign [.Attribute o nm pos'] e pos) (sFldN cs nm g fs) := by
  refine ⟨PS.weak (ps_fld ho he hs) ?_, fun s s' e => ?_⟩
  · rintro D σ H ⟨B, F, m, oa, s, R, q⟩
    unfold sFldN at q
    cases h1 : fs s with
    | none => rw [h1] at q; exact q.elim
    | some d =>
      rw [h1, Option.bind_some] at q
      cases h2 : g s with
      | none => rw [h2] at q; exact q.elim
      | some x =>
        rw [h2, Option.bind_some] at q
        cases h3 : onFld cs s (fun n _ => some (Out.nx (s.fld n nm (.ow d)))) x with
        | none => rw [h3] at q; exact q.elim
        | some r =>
          rw [h3] at q
          obtain ⟨n, ob, rfl, e1, e2, e3, e4⟩ := onFld_some h3
          cases e4
          refine ⟨B, F, m, oa, s, d, R, h1, fun p vs F1 H1 hb R1 f1 dv => ⟨upd B p (.lst vs), F1, m, oa, s, _, R1, h2, fun u F2 H2 R2 f2 du => ?_⟩⟩
          obtain ⟨a, A, dx, fs, rfl, k1, k2, k3, k4, k5⟩ := obj_at R2 du e1
          obtain ⟨A', a1, a2, a3⟩ := T _ (by simpa using e3)
          have k2 : C ob.cls = some A := k2
          rw [a1] at k2; cases k2
          exact ⟨a, _, dx, fs, rfl, k3, a2, a3 nm (by simpa using hf), by omega, q _ _ F2 m _ (R2.fldN hb e1 k1 k3 (dv.mono f2 (Pre.refl _))) (Gr.of _ _ (f1.trans f2))⟩
  · obtain ⟨d, _, h2⟩ := Option.bind_eq_some_iff.mp e
    obtain ⟨x, _, h3⟩ := Option.bind_eq_some_iff.mp h2
    obtain ⟨n, ob, _, _, _, _, h4⟩ := onFld_some h3
    cases h4; rfl
/-- o.f += j -/
def sFldAdd (cs : List Str) (nm : Str) (g f : S → Option D) : S → Option Out := fun s => (g s).bind (onFld cs s fun n ob => match ob.fs.lookup nm, f s with
  | some (.fr (.int i)), some (.int j) => some (.nx (s.fld n nm (.fr (.int (i + j)))))
  | _, _ => none)
theorem s_fldAdd {cs fl : List Str} (T : ClsT X.K C cs fl) {nm : Str} {pos' : Pos} (hf : fl.contains nm = true) (ho : PV X C o g) (he : PV X C e f) : PSV X C W (.AugAssign (.Attribute o nm pos') .Add e pos) (sFldAdd cs nm g f) := by
  refine ⟨PS.weak (ps_fldaug ho he in_add) ?_, fun s s' e => ?_⟩
  · rintro D σ H ⟨B, F, m, oa, s, R, q⟩
    unfold sFldAdd at q
    cases h2 : g s with
    | none => rw [h2] at q; exact q.elim
    | some x =>
      rw [h2, Option.bind_some] at q
      cases h3 : onFld cs s (fun n ob => match ob.fs.lookup nm, f s with
        | some (.fr (.int i)), some (.int j) => some (Out.nx (s.fld n nm (.fr (.int (i + j)))))
        | _, _ => none) x with
      | none => rw [h3] at q; exact q.elim
      | some r =>
        rw [h3] at q
        obtain ⟨n, ob, rfl, e1, e2, e3, e4⟩ := onFld_some h3
        split at e4
        · rename_i i j l1 l2
          cases e4
          refine ⟨B, F, m, oa, s, _, R, h2, fun u F1 H1 R1 f1 du => ?_⟩
          obtain ⟨a, A, dx, fs, rfl, k1, k2, k3, k4, k5⟩ := obj_at R1 du e1
          obtain ⟨A', a1, a2, a3⟩ := T _ (by simpa using e3)
          have k2 : C ob.cls = some A := k2
          rw [a1] at k2; cases k2
          have k6 := k5 nm
          rw [l1] at k6
          obtain ⟨v, k6, k7⟩ := k6
          cases k7
          refine ⟨a, _, dx, fs, _, rfl, k3, a2, a3 nm (by simpa using hf), k6, B, F1, m, oa, s, _, R1, l2, fun w F2 H2 R2 f2 dw => ?_⟩
          cases dw
          obtain ⟨a', A', dx', fs', z1, m1, m2, m3, m4, m5⟩ := obj_at R2 (du.mono f2 (Pre.refl _)) e1
          cases z1
          have m2 : C ob.cls = some A' := m2
          rw [a1] at m2; cases m2
          exact ⟨i, j, rfl, rfl, dx', fs', m3, by omega, q _ _ F2 m oa (R2.fldV e1 m1 m3 (.int _)) (Gr.of _ _ (f1.trans f2))⟩
        · cases e4
  · obtain ⟨x, _, h3⟩ := Option.bind_eq_some_iff.mp e
    obtain ⟨n, ob, _, _, _, _, h4⟩ := onFld_some h3
    split at h4
    · cases h4; rfl
    · cases h4
/-- o.f[k] = v, o.f a list of the object's own -/
def sFldIx (cs : List Str) (nm : Str) (g h f : S → Option D) : S → Option Out := fun s => (f s).bind fun d => (g s).bind (onFld cs s fun n ob => match ob.fs.lookup nm, (h s).bind iInt with
  | some (.ow ds), some z => (ixN ds.length z).map fun j => .nx (s.fld n nm (.ow (ds.set j d)))
  | _, _ => none)
theorem s_fldIx {cs fl : List Str} (T : ClsT X.K C cs fl) {nm : Str} {ap sp : Pos} (hf : fl.contains nm = true) (ho : PV X C o g) (hk : PV X C ie h) (he : PV X C e f) (hbs : attributeBase o nm X.env (eval o X.env) = eval o X.env := by rfl)
    (ha : ∀ v, assign (.Subscript (.Attribute o nm ap) ie sp) X.env v = (do
      let ov ← holding [v] (eval (.Attribute o nm ap) X.env)
      let iv ← holding [v, ov] (eval ie X.env)
      standAt sp
      holding [v, ov, iv] (setItem ov iv v)
      release [v, ov, iv] []) := by intro _; rfl)
    (hs : swapsWithSole [.Subscript (.Attribute o nm ap) ie sp] e pos.line X.env = pure false := by rfl) (hw : swappedStores [.Subscript (.Attribute o nm ap) ie sp] e X.env = pure none := by rfl)
    (h1 : (assignEach [.Subscript (.Attribute o nm ap) ie sp] X.env).map (·.2) = [assign (.Subscript (.Attribute o nm ap) ie sp) X.env] := by rfl) :
    PSV X C W (.Assign [.Subscript (.Attribute o nm ap) ie sp] e pos) (sFldIx cs nm g h f) := by
  refine ⟨PS.weak (ps_asg he (pg_sub (pe_fld (f := nm) ho hbs) hk set_list ha) hs hw h1) ?_, fun s s' e => ?_⟩
  · rintro D σ H ⟨B, F, m, oa, s, R, q⟩
    unfold sFldIx at q
    cases hv : f s with
    | none => rw [hv] at q; exact q.elim
    | some d =>
      rw [hv, Option.bind_some] at q
      cases h2 : g s with
      | none => rw [h2] at q; exact q.elim
      | some x =>
        rw [h2, Option.bind_some] at q
        cases h3 : onFld cs s (fun n ob => match ob.fs.lookup nm, (h s).bind iInt with
          | some (.ow ds), some z => (ixN ds.length z).map fun j => Out.nx (s.fld n nm (.ow (ds.set j d)))
          | _, _ => none) x with
        | none => rw [h3] at q; exact q.elim
        | some r =>
          rw [h3] at q
          obtain ⟨n, ob, rfl, e1, e2, e3, e4⟩ := onFld_some h3
          split at e4
          · rename_i ds z l1 l2
            obtain ⟨j, hj, e4⟩ := Option.map_eq_some_iff.mp e4
            subst e4
            obtain ⟨kd, l3, l4⟩ := Option.bind_eq_some_iff.mp l2
            refine ⟨B, F, m, oa, s, d, R, hv, fun v F1 H1 R1 f1 dv => ⟨B, F1, m, oa, s, _, R1, h2, fun u F2 H2 R2 f2 du => ?_⟩⟩
            obtain ⟨a, A, dx, fs, rfl, k1, k2, k3, k4, k5⟩ := obj_at R2 du e1
            obtain ⟨A', a1, a2, a3⟩ := T _ (by simpa using e3)
            have k2 : C ob.cls = some A := k2
            rw [a1] at k2; cases k2
            have k6 := k5 nm
            rw [l1] at k6
            have k6 : fs.lookup nm = some (.ref (oa (.inr (n, nm)))) := k6
            refine ⟨a, _, dx, fs, _, rfl, k3, a2, a3 nm (by simpa using hf), k6, B, F2, m, oa, s, kd, R2, l3, fun w F3 H3 R3 f3 dw => ?_⟩
            have own : ownAt s (.inr (n, nm)) = some ds := by
              show (match s.st[n]? with
                | some ob => slO (ob.fs.lookup nm)
                | none => none) = _
              rw [e1]; show slO (ob.fs.lookup nm) = _; rw [l1]; rfl
            obtain ⟨_, _, us, c3, c4⟩ := R3.cell _ ds own
            exact ⟨_, us, z, j, rfl, iInt_dat dw l4, c3, by rw [c4.length]; exact hj, q _ _ F3 m oa (R3.fldSet e1 l1 (DatL.set (dv.mono (f2.trans f3) (Pre.refl _)) j c4)) (Gr.of _ _ ((f1.trans f2).trans f3))⟩
          · cases e4
  · obtain ⟨d, _, h2⟩ := Option.bind_eq_some_iff.mp e
    obtain ⟨x, _, h3⟩ := Option.bind_eq_some_iff.mp h2
    obtain ⟨n, ob, _, _, _, _, h4⟩ := onFld_some h3
    split at h4
    · obtain ⟨j, _, h5⟩ := Option.map_eq_some_iff.mp h4
      cases h5; rfl
    · cases h4
/-- x += e -/
def sAug (i : Nat) (f : S → Option D) : S → Option Out := fun s => match s.get i, f s with
  | some (.int a), some (.int b) => some (.nx (s.put i (.fr (.int (a + b)))))
  | _, _ => none
theorem get_fr {s : S} {i : Nat} {d : D} (h : s.get i = some d) : s.r[i]? = some (.fr d) := by
  unfold S.get at h
  split at h
  · cases h; assumption
  · cases h
theorem s_aug (Dx : DX X N M Ms gs sc) (i : Nat) {x : Str} {pos' : Pos} (he : PV X C e f) (hx : Ms[i]? = some (some x) := by rfl) : PSV X C W (.AugAssign (.Name x pos') .Add e pos) (sAug i f) := by
  obtain ⟨w1, w2, w3⟩ := Dx.l i x hx
  refine ⟨PS.weak (ps_aug Dx.nd w1 w2 he ip_add w3) ?_, fun s s' e => ?_⟩
  · rintro D σ H ⟨B, F, m, oa, s, R, q⟩
    unfold sAug at q
    split at q
    · rename_i a b l1 l2
      obtain ⟨v, h1, h2⟩ := R.slot i _ (get_fr l1)
      cases h2
      refine ⟨_, h1, B, F, m, oa, s, _, R, l2, fun u F1 H1 R1 f1 du => ?_⟩
      cases du
      exact ⟨a, b, rfl, rfl, q _ _ F1 m oa (R1.put i (.int _)) (Gr.of _ _ f1)⟩
    · exact q.elim
  · unfold sAug at e
    split at e
    · cases e; rfl
    · cases e
/-- a frozen field of an object, read where it stands -/
def dFldO (cs : List Str) (nm : Str) (g : S → Option D) : S → Option D := fun s => (g s).bind (onFld cs s fun _ ob => match ob.fs.lookup nm with
  | some (.fr d) => some d
  | _ => none)
theorem v_fldO {cs fl : List Str} (T : ClsT X.K C cs fl) {nm : Str} (hf : fl.contains nm = true) (ho : PV X C o g) (hbs : attributeBase o nm X.env (eval o X.env) = eval o X.env := by rfl) : PV X C (.Attribute o nm pos) (dFldO cs nm g) := by
  refine PE.weak (pe_fld (f := nm) ho hbs) ?_
  rintro σ H Q ⟨B, F, m, oa, s, d, R, hd, q⟩
  obtain ⟨x, h2, h3⟩ := Option.bind_eq_some_iff.mp hd
  obtain ⟨n, ob, rfl, e1, e2, e3, e4⟩ := onFld_some h3
  split at e4
  · rename_i d' l1
    cases e4
    refine ⟨B, F, m, oa, s, _, R, h2, fun u F2 H2 R2 f2 du => ?_⟩
    obtain ⟨a, A, dx, fs, rfl, k1, k2, k3, k4, k5⟩ := obj_at R2 du e1
    obtain ⟨A', a1, a2, a3⟩ := T _ (by simpa using e3)
    have k2 : C ob.cls = some A := k2
    rw [a1] at k2; cases k2
    have k6 := k5 nm
    rw [l1] at k6
    obtain ⟨v, k6, k7⟩ := k6
    exact ⟨a, _, dx, fs, v, rfl, k3, a2, a3 nm (by simpa using hf), k6, q v F2 H2 R2 f2 k7⟩
  · cases e4
/-- an object's own list is frozen first -/
def sFrzF (i : Nat) (nm : Str) (g : S → Option Out) : S → Option Out := fun s => match s.get i with
  | some (.obj n) => (match s.st[n]? with
    | some ob => (match ob.fs.lookup nm with
      | some (.ow ds) => g (s.fld n nm (.fr (.lst ds)))
      | _ => g s)
    | none => g s)
  | _ => g s
theorem Rel.fldFrz {G : Gx} {B F : Hp} {m : List Addr} {oa : Own → Addr} {σ : L2.St} {H : Hp} {s : S} (R : Rel G B F m oa σ H s) {n : Nat} {ob : Ob} {f : Str} {ds : List D} (e : s.st[n]? = some ob) (hl : ob.fs.lookup f = some (.ow ds)) : ∃ F', Rel G B F' m oa σ H (s.fld n f (.fr (.lst ds))) ∧ Same F F' := by
  have own : ownAt s (.inr (n, f)) = some ds := by
    show (match s.st[n]? with
      | some ob => slO (ob.fs.lookup f)
      | none => none) = _
    rw [e]; show slO (ob.fs.lookup f) = _; rw [hl]; rfl
  obtain ⟨c1, c2, vs, c3, c4⟩ := R.cell _ ds own
  have hn := (List.getElem?_eq_some_iff.mp e).1
  have ff := same_upd (o := .lst vs) c1
  refine ⟨upd F (oa (.inr (n, f))) (.lst vs), ?_, ff⟩
  exact
  { fh := fun b o z => by
      by_cases hb : b = oa (.inr (n, f))
      · subst hb; rw [upd_same] at z; cases z; exact c3
      · rw [upd_ne hb] at z; exact R.fh b o z
    bh := R.bh
    fb := fun b z => by
      by_cases hb : b = oa (.inr (n, f))
      · subst hb; exact c2
      · rw [upd_ne hb] at z; exact R.fb b z
    len := R.len
    slot := fun i sl z => (R.slot i sl z).mono ff (Pre.refl _)
    cell := fun y gs z => by
      rcases ownAt_fld e z with ⟨_, h2⟩ | ⟨h1, h2⟩
      · cases h2
      · obtain ⟨k1, k2, ws, k3, k4⟩ := R.cell y gs h2
        have ny : oa y ≠ oa (.inr (n, f)) := fun w => h1 (R.inj _ _ _ _ h2 own w)
        exact ⟨by rw [upd_ne ny]; exact k1, k2, ws, k3, k4.mono ff (Pre.refl _)⟩
    inj := fun y z gs hs e1 e2 q => by
      rcases ownAt_fld e e1 with ⟨_, h2⟩ | ⟨_, h2⟩
      · cases h2
      · rcases ownAt_fld e e2 with ⟨_, h3⟩ | ⟨_, h3⟩
        · cases h3
        · exact R.inj y z _ _ h2 h3 q
    obj := fun k ob' z => by
      have z : (match s.st[n]? with
        | some ob => s.st.set n ⟨ob.cls, putS f (.fr (.lst ds)) ob.fs⟩
        | none => s.st)[k]? = some ob' := z
      rw [e] at z
      have keep : ∀ {a C dx : Addr} {fs : List (Str × V)}, H a = some (.ins C dx fs) → F a = none → (upd F (oa (.inr (n, f))) (.lst vs)) a = none := fun {a C dx fs} h h2 => by
        rw [upd_ne (fun w => by rw [w, c3] at h; cases h)]; exact h2
      by_cases hk : n = k
      · subst hk
        rw [List.getElem?_set_self hn] at z
        cases z
        obtain ⟨a, C, dx, fs, h1, h2, h3, h4, h5, h6, h7⟩ := (R.obj n ob e).ex
        refine ⟨⟨a, C, dx, fs, h1, h2, h3, keep h3 h4, h5, ?_, fun g => ?_⟩⟩
        · show fs.length ≤ (putS f (.fr (.lst ds)) ob.fs).length
          rw [putS_len, hl]
          exact h6
        · show FlR _ _ m (oa (.inr (n, g))) (fs.lookup g) ((putS f (.fr (.lst ds)) ob.fs).lookup g)
          rw [lookup_putS]
          by_cases hg : g = f
          · subst hg
            rw [if_pos rfl]
            have q := h7 g
            rw [hl] at q
            exact ⟨_, q, .lst (SqL.of upd_same) (c4.mono ff (Pre.refl _))⟩
          · rw [if_neg hg]; exact (h7 g).mono ff (Pre.refl _)
      · rw [List.getElem?_set_ne hk] at z
        obtain ⟨a, C, dx, fs, h1, h2, h3, h4, h5, h6, h7⟩ := (R.obj k ob' z).ex
        exact ⟨⟨a, C, dx, fs, h1, h2, h3, keep h3 h4, h5, h6, fun f => (h7 f).mono ff (Pre.refl _)⟩⟩
    ml := fun z => by
      have := R.ml z
      show m.length = (match s.st[n]? with
        | some ob => s.st.set n ⟨ob.cls, putS f (.fr (.lst ds)) ob.fs⟩
        | none => s.st).length
      rw [e]; simpa using this
    mnd := R.mnd }
theorem s_frzF (i : Nat) (nm : Str) {st : Stmt} {g : S → Option Out} (h : PSV X C W st g) : PSV X C W st (sFrzF i nm g) := by
  refine ⟨PS.weak h.run ?_, fun s s' e => ?_⟩
  · rintro D σ H ⟨B, F, m, oa, s, R, q⟩
    unfold sFrzF at q
    split at q
    · rename_i n _
      cases e1 : s.st[n]? with
      | none => simp only [e1] at q; exact ⟨B, F, m, oa, s, R, q⟩
      | some ob =>
        simp only [e1] at q
        cases e2 : ob.fs.lookup nm with
        | none => simp only [e2] at q; exact ⟨B, F, m, oa, s, R, q⟩
        | some sl =>
          simp only [e2] at q
          cases sl with
          | ow ds =>
            obtain ⟨F', R', ff⟩ := R.fldFrz e1 e2
            exact ⟨B, F', m, oa, _, R', q.from (Gr.of _ _ ff)⟩
          | un => exact ⟨B, F, m, oa, s, R, q⟩
          | fr d => exact ⟨B, F, m, oa, s, R, q⟩
    · exact ⟨B, F, m, oa, s, R, q⟩
  · unfold sFrzF at e
    split at e
    · split at e
      · split at e
        · have z := h.al _ _ e
          exact z
        · exact h.al _ _ e
      · exact h.al _ _ e
    · exact h.al _ _ e
end
/-! ### the law's own def, where it makes objects -/
section
variable {P : Program} {w : World} {K : PySem.W.Frag} {mg : Str → Option Value} {base : Heap} {C : Str → Option Addr} {CX : CXT}
theorem law_impO {k : Nat} {f : Addr} {fd : FuncData} {x : Str} {mf : Fo} (Fn : FnOk P w K mg base CX k f fd [x] (spO ⟨K, C⟩ 1 mf))
    (hall : ∀ ns : List Int, ns.length ≤ 63 → (∀ z ∈ ns, Builtin.Int.intBits z ≤ 1048576) → ∃ st, mf [.lst (ns.map D.int)] [] = some (.val (.bl true), st)) : FnOk P w K mg base CX k f fd [x] (spLaw K) := by
  refine Fn.imp fun vs H Q E h => ?_
  obtain ⟨a, ns, rfl, hs, hl, hb, hq⟩ := h
  refine ⟨rfl, fun _ => none, H, [], fun _ => 0, [], [.lst (ns.map D.int)], ?_, .cons (.lst hs (dat_ints ns)) .nil, ?_⟩
  · exact
    { fh := Same.refl _
      bh := fun b o e => by cases e
      fb := fun b _ => rfl
      len := rfl
      slot := fun i sl e => by simp at e
      cell := fun x ds e => by
        cases x with
        | inl i => cases e
        | inr q => cases e
      inj := fun x y ds es e => by
        cases x with
        | inl i => cases e
        | inr q => cases e
      obj := fun n ob e => by simp at e
      ml := fun _ => rfl
      mnd := List.nodup_nil }
  · obtain ⟨st, e⟩ := hall ns hl hb
    rw [e]
    intro v F' H' m' oa' _ _ _ dv
    cases dv
    exact hq H'
end
end VS
namespace VS
open PySem L2
open PyProof.Rows hiding St
/-! ### list.index, of whole numbers -/
def idxI : List Int → Int → Option Nat
  | [], _ => none
  | n :: ns, i => if n = i then some 0 else (idxI ns i).map (· + 1)
theorem idxI_is : ∀ {ns : List Int} {i : Int} {j : Nat}, idxI ns i = some j → ns[j]? = some i ∧ ∀ m z, m < j → ns[m]? = some z → z ≠ i
  | [], i, j, h => by cases h
  | n :: ns, i, j, h => by
    unfold idxI at h
    split at h
    · rename_i e
      cases h
      exact ⟨by simp [e], fun m z hm => by omega⟩
    · rename_i e
      obtain ⟨k, h1, rfl⟩ := Option.map_eq_some_iff.mp h
      obtain ⟨a, b⟩ := idxI_is h1
      refine ⟨by simpa using a, fun m z hm hz => ?_⟩
      cases m with
      | zero => simp at hz; rw [← hz]; exact e
      | succ m => exact b m z (by omega) (by simpa using hz)
section
variable {X : Cx} {C : Str → Option Addr} {W : WX} {a e : Expr} {f : S → Option D} {qf : S → Option (Bool × List D)} {apos cpos : Pos}
variable {G : Gx} {B F : Hp} {m : List Addr} {oa : Own → Addr} {σ : L2.St} {H : Hp} {s : S}
def dIndex (qf : S → Option (Bool × List D)) (f : S → Option D) : S → Option D := fun s => (qf s).bind fun q => (f s).bind fun d => if q.1 = true then (intsOf q.2).bind fun ns => (iInt d).bind fun i => (idxI ns i).map fun j => .int (j : Nat) else none
theorem v_index (ha : PQ X C a qf) (he : PV X C e f) (hline : (apos.endLine == cpos.line) = true := by rfl) (hs0 : starEach [e] X.env = (false, eval e X.env) :: starEach [] X.env := by rfl)
    (hfew : ((backTo cpos (starEach [e] X.env)).all (fun x => !x.1) && (backToKw cpos (keywordEach [] X.env)).all (fun x => x.1.isSome) && decide ([e].length + ([] : List Keyword).length + (if ([] : List Keyword).isEmpty then 0 else 1) < 30)) = true := by rfl)
    (hb : attributeBase a "index" X.env (eval a X.env) = eval a X.env := by rfl) :
    PV X C (.Call (.Attribute a "index" apos) [e] [] cpos) (dIndex qf f) := by
  refine PE.weak (pe_bm PySem.F.plainAttrs_list PySem.F.slot_list_index PySem.F.type_list_index mt_index ha (pa_cons he pa_nil hs0) hb hfew hline hs0 rfl) ?_
  rintro σ H Q ⟨B, F, m, oa, s, d, R, hf, q⟩
  obtain ⟨⟨k, ds⟩, h1, g1⟩ := Option.bind_eq_some_iff.mp hf
  obtain ⟨x, h2, g2⟩ := Option.bind_eq_some_iff.mp g1
  cases k with
  | false => exact absurd g2 (by simp)
  | true =>
    simp only [if_true] at g2
    obtain ⟨ns, h3, g3⟩ := Option.bind_eq_some_iff.mp g2
    obtain ⟨i, h4, g4⟩ := Option.bind_eq_some_iff.mp g3
    obtain ⟨j, h5, rfl⟩ := Option.map_eq_some_iff.mp g4
    refine ⟨B, F, m, oa, s, true, ds, R, h1, fun v F1 H1 R1 e1 sq => ?_⟩
    obtain ⟨p, vs, rfl, q1, q2, q3⟩ := sq.read R1
    refine ⟨Or.inl ⟨rfl, vs, q1 rfl⟩, B, F1, m, oa, s, x, R1, h2, fun u F2 H2 R2 e2 dx => ?_⟩
    obtain ⟨p', vs', ep, w1, w2, w3⟩ := (sq.mono e2).read R2
    cases ep
    have eu := iInt_dat dx h4
    subst eu
    have ev := ints_dat w3 h3
    subst ev
    obtain ⟨z1, z2⟩ := idxI_is h5
    refine ⟨p, ns.map V.int, .int i, j, .int i, rfl, rfl, w1 rfl, rfl, ?_, by rw [List.getElem?_map, z1]; rfl, by simp [eqV], fun t z' ht hz => ?_, q _ F2 H2 R2 (e1.trans e2) (.int _)⟩
    · rw [List.all_eq_true]
      intro y hy
      obtain ⟨w, _, rfl⟩ := List.mem_map.mp hy
      rfl
    · rw [List.getElem?_map] at hz
      obtain ⟨w, h6, rfl⟩ := Option.map_eq_some_iff.mp hz
      have := z2 t w ht h6
      simp [eqV, this]
/-! ### list(range(n)) -/
theorem datL_maps {α : Type} {g : α → V} {k : α → D} (h : ∀ a, Dat G m F (g a) (k a)) : ∀ l : List α, DatL G m F (l.map g) (l.map k)
  | [] => .nil
  | a :: l => .cons (h a) (datL_maps h l)
def nListR (f : S → Option D) : S → Option (List D) := fun s => (f s).bind fun d => (iInt d).bind fun j => if 0 ≤ j ∧ j ≤ 16777216 then some (rngD 0 j) else none
variable {N : List Str} {M Ms : List (Option Str)} {gs : List Str} {sc : Scope} {p pr pos ppos : Pos}
theorem x_listR (Dx : DX X N M Ms gs sc) (j j2 : Nat) (hm : X.mg "list" = none) (hm2 : X.mg "range" = none) (ha : PV X C e f) (hx : gs[j]? = some "list" := by rfl) (hx2 : gs[j2]? = some "range" := by rfl)
    (n1 : starEach [e] X.env = (false, eval e X.env) :: starEach [] X.env := by rfl) (n2 : starEach [Expr.Call (.Name "range" pr) [e] [] ppos] X.env = (false, eval (Expr.Call (.Name "range" pr) [e] [] ppos) X.env) :: starEach [] X.env := by rfl) :
    PN X C (.Call (.Name "list" p) [.Call (.Name "range" pr) [e] [] ppos] [] pos) (nListR f) := by
  refine PE.weak (pe_listRg Dx.calm (Dx.g j _ hx).1 hm (prg_1 (Dx.g j2 _ hx2).1 hm2 ha n1) n2) ?_
  rintro σ H Q ⟨B, F, m, oa, s, ds, R, hf, q⟩
  obtain ⟨d, h1, g1⟩ := Option.bind_eq_some_iff.mp hf
  obtain ⟨i, h2, g2⟩ := Option.bind_eq_some_iff.mp g1
  split at g2
  · rename_i hi
    cases g2
    refine ⟨B, F, m, oa, s, d, R, h1, fun v F1 H1 R1 e1 dx => ?_⟩
    have ev := iInt_dat dx h2
    subst ev
    refine ⟨i, rfl, RgOk.of_le (by omega) hi.2 (by omega) hi.1, fun y hy => q y (rgV 0 i) F1 _ (R1.fresh hy).2 (R1.newB hy _) e1 ?_⟩
    exact datL_maps (fun (k : Nat) => Dat.int (0 + (k : Int))) _
  · cases g2
/-! ### 1 << n -/
def shlOk (i j : Int) : Bool := powOk i j
def dShl := iB shlOk fun i j => .int (i * 2 ^ j.toNat)
theorem v_shl {b : Expr} {h : S → Option D} (ha : PV X C a f) (hb : PV X C b h) : PV X C (.BinOp a .LShift b pos) (d2 dShl f h) := v_bin op_shl (giv_I (fun _ _ e => pow_ok e) fun _ _ _ _ => .int _) ha hb
end
end VS
namespace VS
open PySem L2
open PyProof.Rows hiding St
section
variable {X : Cx} {C : Str → Option Addr} {W : WX} {N : List Str} {M Ms : List (Option Str)} {gs : List Str} {sc : Scope} {e o a b ke : Expr} {es rest : List Expr} {f g : S → Option D} {fx fk : S → Option (Ex D)} {fxs : S → Option (Ex (List D))} {fm fm2 : S → Option (EO D)} {fms : S → Option (EO (List D))} {pos p apos kpos : Pos}
/-! ### a def that changes nothing, called with arguments that do -/
def mPCall (mf : List D → Option Rs) (fms : S → Option (EO (List D))) : S → Option (EO D) := fun s => eb (fms s) fun ds st => (rOf mf ds).map fun r => (r, st)
theorem m_pcall (Dx : DX X N M Ms gs sc) (j : Nat) {k r : Nat} {x : Str} {ps : List Str} {mf : List D → Option Rs} (h : DefOk X.prog X.w X.K X.mg X.base C x k ps mf) (hr : Room r X.A) (hk : k ≤ r) (tk : Takes X W)
    (ha : PAM X C W (e :: es) fms) (hl : ∀ s ds st, fms s = some (.ok ds, st) → ds.length = ps.length) (hx : gs[j]? = some x := by rfl)
    (he : starEach (e :: es) X.env = (false, eval e X.env) :: starEach es X.env := by rfl) (hpl : (backTo pos (starEach es X.env)).any (·.1) = false := by rfl) :
    PM X C W (.Call (.Name x p) (e :: es) [] pos) (mPCall mf fms) := by
  obtain ⟨f, fd, Fn, hm, kp, hb⟩ := h.ex
  refine PE.weak (pe_callS (E := WE W) Fn (hr.mono hk) (Dx.g j x hx).1 hm kp hb (fun σ => passAt tk σ) ha (Dx.g j x hx).2 he hpl) ?_
  rintro σ H Q ⟨B, F, m, oa, s, R, q⟩
  refine ⟨B, F, m, oa, s, R, ?_⟩
  unfold mPCall at q
  cases h1 : fms s with
  | none => rw [h1] at q; exact q.elim
  | some r1 =>
    obtain ⟨r1, st1⟩ := r1
    rw [h1] at q
    cases r1 with
    | er c p => exact q
    | ok ds =>
      intro vs F1 H1 m1 oa1 R1 e1 dx
      simp only [eb] at q
      refine sp_x R1 dx (hl s ds st1 h1) ?_
      cases h2 : rOf mf ds with
      | none => rw [h2] at q; exact q.elim
      | some r2 =>
        rw [h2] at q
        cases r2 with
        | ok d => exact fun v F' H' a b c => q v F' H' m1 oa1 a (e1.trans (Gr.of _ _ b)) c
        | er c p => exact fun Cc dx F' H' a b c d => q Cc dx F' H' m1 oa1 a b c (e1.trans (Gr.of _ _ d))
/-! ### and, or, as values -/
def mAnd (f g : S → Option (EO D)) : S → Option (EO D) := fun s => eb (f s) fun d st => (dB d).bind fun c => if c = true then g ⟨s.r, st, s.al⟩ else some (.ok (.bl false), st)
def mOr (f g : S → Option (EO D)) : S → Option (EO D) := fun s => eb (f s) fun d st => (dB d).bind fun c => if c = true then some (.ok (.bl true), st) else g ⟨s.r, st, s.al⟩
theorem m_one {op} (ha : PM X C W a fm) : PM X C W (.BoolOp op [a] pos) fm := pe_one ha
theorem m_and (ha : PM X C W a fm) (hb : PM X C W (.BoolOp .And (b :: rest) pos) fm2) : PM X C W (.BoolOp .And (a :: b :: rest) pos) (mAnd fm fm2) := by
  refine PE.weak (pe_and ha hb) ?_
  rintro σ H Q ⟨B, F, m, oa, s, R, q⟩
  unfold mAnd at q
  refine ⟨B, F, m, oa, s, R, ?_⟩
  cases h1 : fm s with
  | none => rw [h1] at q; exact q.elim
  | some r1 =>
    obtain ⟨r1, st1⟩ := r1
    rw [h1] at q
    cases r1 with
    | er c p => exact q
    | ok d =>
      intro v F1 H1 m1 oa1 R1 e1 dv
      simp only [eb] at q
      cases h2 : dB d with
      | none => rw [h2] at q; exact q.elim
      | some c =>
        rw [h2] at q
        have ex := dB_some h2
        subst ex
        cases dv
        refine ⟨_, rfl, ?_⟩
        cases c with
        | false => exact q _ F1 H1 m1 oa1 R1 e1 (.bl _)
        | true =>
          rw [if_pos rfl]
          refine ⟨B, F1, m1, oa1, _, R1, ?_⟩
          have q : match fm2 ⟨s.r, st1, s.al⟩ with
            | some (.ok d, st') => ∀ v F' H' m' oa', Rel (gx X C) B F' m' oa' σ H' ⟨s.r, st', s.al⟩ → Gr F F' m m' s.al → Dat (gx X C) m' F' v d → Q v H'
            | some (.er c p, st') => ∀ Cc dx F' H' m' oa', C c = some Cc → ExP H' dx p → Rel (gx X C) B F' m' oa' σ H' ⟨s.r, st', s.al⟩ → Gr F F' m m' s.al → W (.ref Cc) dx σ H'
            | none => False := q
          cases h3 : fm2 ⟨s.r, st1, s.al⟩ with
          | none => rw [h3] at q; exact q.elim
          | some r3 =>
            obtain ⟨r3, st3⟩ := r3
            rw [h3] at q
            cases r3 with
            | ok d => exact fun v F' H' m' oa' a b c => q v F' H' m' oa' a (e1.trans b) c
            | er c p => exact fun Cc dx F' H' m' oa' a b c d => q Cc dx F' H' m' oa' a b c (e1.trans d)
theorem m_or (ha : PM X C W a fm) (hb : PM X C W (.BoolOp .Or (b :: rest) pos) fm2) : PM X C W (.BoolOp .Or (a :: b :: rest) pos) (mOr fm fm2) := by
  refine PE.weak (pe_or ha hb) ?_
  rintro σ H Q ⟨B, F, m, oa, s, R, q⟩
  unfold mOr at q
  refine ⟨B, F, m, oa, s, R, ?_⟩
  cases h1 : fm s with
  | none => rw [h1] at q; exact q.elim
  | some r1 =>
    obtain ⟨r1, st1⟩ := r1
    rw [h1] at q
    cases r1 with
    | er c p => exact q
    | ok d =>
      intro v F1 H1 m1 oa1 R1 e1 dv
      simp only [eb] at q
      cases h2 : dB d with
      | none => rw [h2] at q; exact q.elim
      | some c =>
        rw [h2] at q
        have ex := dB_some h2
        subst ex
        cases dv
        refine ⟨_, rfl, ?_⟩
        cases c with
        | true => exact q _ F1 H1 m1 oa1 R1 e1 (.bl _)
        | false =>
          rw [if_neg Bool.false_ne_true]
          refine ⟨B, F1, m1, oa1, _, R1, ?_⟩
          have q : match fm2 ⟨s.r, st1, s.al⟩ with
            | some (.ok d, st') => ∀ v F' H' m' oa', Rel (gx X C) B F' m' oa' σ H' ⟨s.r, st', s.al⟩ → Gr F F' m m' s.al → Dat (gx X C) m' F' v d → Q v H'
            | some (.er c p, st') => ∀ Cc dx F' H' m' oa', C c = some Cc → ExP H' dx p → Rel (gx X C) B F' m' oa' σ H' ⟨s.r, st', s.al⟩ → Gr F F' m m' s.al → W (.ref Cc) dx σ H'
            | none => False := q
          cases h3 : fm2 ⟨s.r, st1, s.al⟩ with
          | none => rw [h3] at q; exact q.elim
          | some r3 =>
            obtain ⟨r3, st3⟩ := r3
            rw [h3] at q
            cases r3 with
            | ok d => exact fun v F' H' m' oa' a b c => q v F' H' m' oa' a (e1.trans b) c
            | er c p => exact fun Cc dx F' H' m' oa' a b c d => q Cc dx F' H' m' oa' a b c (e1.trans d)
/-! ### defaults -/
theorem datL_app {G : Gx} {m : List Addr} {F : Hp} : ∀ {vs ws : List V} {ds es : List D}, DatL G m F vs ds → DatL G m F ws es → DatL G m F (vs ++ ws) (ds ++ es)
  | _, _, _, _, .nil, h => h
  | _, _, _, _, .cons a r, h => .cons a (datL_app r h)
structure DefDOk (P : Program) (w : World) (K : PySem.W.Frag) (mg : Str → Option Value) (base : Heap) (C : Str → Option Addr) (x : Str) (k : Nat) (ps : List Str) (mf : List D → Option Rs) (dd : List D) : Prop where
  ex : ∃ f fd dvs ds, FnOk P w K mg base (L2.CX P w) k f fd ps (spP ⟨K, C⟩ ps.length mf) ∧ mg x = some (.ref f) ∧ PySem.W.keepIn K (.ref f) = true ∧ Binds K fd ps ds ∧ Vals dvs ds ∧ ∀ (m : List Addr) (F : Hp), DatL ⟨K, C⟩ m F dvs dd
structure DefDO (P : Program) (w : World) (K : PySem.W.Frag) (mg : Str → Option Value) (base : Heap) (C : Str → Option Addr) (x : Str) (k : Nat) (ps : List Str) (mf : Fo) (dd : List D) : Prop where
  ex : ∃ f fd dvs ds, FnOk P w K mg base (L2.CX P w) k f fd ps (spO ⟨K, C⟩ ps.length mf) ∧ mg x = some (.ref f) ∧ PySem.W.keepIn K (.ref f) = true ∧ Binds K fd ps ds ∧ Vals dvs ds ∧ ∀ (m : List Addr) (F : Hp), DatL ⟨K, C⟩ m F dvs dd
def axApp (dd : List D) (g : S → Option (Ex (List D))) : S → Option (Ex (List D)) := fun s => match g s with
  | some (.ok ds) => some (.ok (ds ++ dd))
  | some (.er c p) => some (.er c p)
  | none => none
def maApp (dd : List D) (g : S → Option (EO (List D))) : S → Option (EO (List D)) := fun s => eb (g s) fun ds st => some (.ok (ds ++ dd), st)
theorem x_rcallD (Dx : DX X N M Ms gs sc) (j : Nat) {k r : Nat} {x : Str} {ps : List Str} {mf : List D → Option Rs} {dd : List D} (h : DefDOk X.prog X.w X.K X.mg X.base C x k ps mf dd) (hr : Room r X.A) (hk : k ≤ r) (tk : Takes X W)
    (ha : PAX X C W (e :: es) fxs) (hl : ∀ s ds, fxs s = some (.ok ds) → ds.length + dd.length = ps.length) (hx : gs[j]? = some x := by rfl)
    (he : starEach (e :: es) X.env = (false, eval e X.env) :: starEach es X.env := by rfl) (hpl : (backTo pos (starEach es X.env)).any (·.1) = false := by rfl) :
    PX X C W (.Call (.Name x p) (e :: es) [] pos) (rCall mf (axApp dd fxs)) := by
  obtain ⟨f, fd, dvs, dw, Fn, hm, kp, hb, hv, hd⟩ := h.ex
  refine PE.weak (pe_callSD (E := WE W) Fn (hr.mono hk) (Dx.g j x hx).1 hm kp hb hv (fun σ => passAt tk σ) ha (Dx.g j x hx).2 he hpl) ?_
  rintro σ H Q ⟨B, F, m, oa, s, R, q⟩
  refine ⟨B, F, m, oa, s, R, ?_⟩
  unfold rCall axApp at q
  cases h1 : fxs s with
  | none => rw [h1] at q; exact q.elim
  | some r1 =>
    rw [h1] at q
    cases r1 with
    | er c p => exact q
    | ok ds =>
      intro vs F1 H1 R1 e1 dx
      refine sp_x R1 (datL_app dx (hd m F1)) (by rw [List.length_append]; exact hl s ds h1) ?_
      have q : match rOf mf (ds ++ dd) with
        | some (.ok d) => ∀ v F' H', Rel (gx X C) B F' m oa σ H' s → Same F F' → Dat (gx X C) m F' v d → Q v H'
        | some (.er c p) => ∀ Cc dx F' H', C c = some Cc → ExP H' dx p → Rel (gx X C) B F' m oa σ H' s → Same F F' → W (.ref Cc) dx σ H'
        | none => False := q
      cases h2 : rOf mf (ds ++ dd) with
      | none => rw [h2] at q; exact q.elim
      | some r2 =>
        rw [h2] at q
        cases r2 with
        | ok d => exact fun v F' H' a b c => q v F' H' a (e1.trans b) c
        | er c p => exact fun Cc dx F' H' a b c d => q Cc dx F' H' a b c (e1.trans d)
theorem m_callD (Dx : DX X N M Ms gs sc) (j : Nat) {k r : Nat} {x : Str} {ps : List Str} {mf : Fo} {dd : List D} (h : DefDO X.prog X.w X.K X.mg X.base C x k ps mf dd) (hr : Room r X.A) (hk : k ≤ r) (tk : Takes X W)
    (ha : PAM X C W (e :: es) fms) (hl : ∀ s ds st, fms s = some (.ok ds, st) → ds.length + dd.length = ps.length) (hx : gs[j]? = some x := by rfl)
    (he : starEach (e :: es) X.env = (false, eval e X.env) :: starEach es X.env := by rfl) (hpl : (backTo pos (starEach es X.env)).any (·.1) = false := by rfl) :
    PM X C W (.Call (.Name x p) (e :: es) [] pos) (mCall mf (maApp dd fms)) := by
  obtain ⟨f, fd, dvs, dw, Fn, hm, kp, hb, hv, hd⟩ := h.ex
  refine PE.weak (pe_callSD (E := WE W) Fn (hr.mono hk) (Dx.g j x hx).1 hm kp hb hv (fun σ => passAt tk σ) ha (Dx.g j x hx).2 he hpl) ?_
  rintro σ H Q ⟨B, F, m, oa, s, R, q⟩
  refine ⟨B, F, m, oa, s, R, ?_⟩
  unfold mCall maApp at q
  by_cases hal : s.al = true
  case neg => simp only [if_neg hal] at q
  simp only [if_pos hal] at q
  cases h1 : fms s with
  | none => rw [h1] at q; exact q.elim
  | some r1 =>
    obtain ⟨r1, st1⟩ := r1
    rw [h1] at q
    cases r1 with
    | er c p => exact q
    | ok ds =>
      intro vs F1 H1 m1 oa1 R1 e1 dx
      simp only [eb] at q
      refine spO_a (s := ⟨s.r, st1, s.al⟩) R1 hal (datL_app dx (hd m1 F1)) (by rw [List.length_append]; exact hl s ds st1 h1) ?_
      have q : AnsM (gx X C) W B F m σ s Q ((mf (ds ++ dd) st1).map rsO) := by
        cases h2 : (mf (ds ++ dd) st1).map rsO with
        | none => rw [h2] at q; exact q.elim
        | some r2 =>
          rw [h2] at q
          obtain ⟨r2, st2⟩ := r2
          cases r2 <;> exact q
      exact ansM_from q e1
/-! ### one keyword, behind all others -/
def tCallK1 (sp : Sp) (E : L2.St → XK) (t tk : TA) : TE := fun σ H Q => t σ H fun vs H1 => tk σ H1 fun zs H2 => zs.length = 1 ∧ sp (vs ++ zs) H2 Q (E σ)
/-- binding with one keyword -/
def BindK (K : PySem.W.Frag) (fd : FuncData) (ps : List Str) (key : Str) : Prop := ∀ (s : Shared) (us ws : List Value), K.In s.heap → (us ++ ws).length = ps.length → ws.length = 1 → BindsTo s fd ⟨us, [key].zip ws⟩ (ps.zip (us ++ ws))
theorem run_fnK1 {CX : CXT} {k : Nat} {f : Addr} {fd : FuncData} {ps : List Str} {sp : Sp} {E : L2.St → XK} {key : Str} {pins : List (Addr × Obj)} {σ : L2.St} {H : Hp} {s : Shared} {Q : VK} {us ws : List Value} {vs zs : List V} (F : FnOk X.prog X.w X.K X.mg X.base CX k f fd ps sp) (hr : Room k X.A) (hb : BindK X.K fd ps key) (hx : PassesAt CX X σ (E σ))
    (I : Inv X pins σ H s) (r : Vals vs us) (rz : Vals zs ws) (l2 : zs.length = 1) (h : sp (vs ++ zs) H Q (E σ)) : wpAny (model X.prog X.w) X.A (call (.ref f) us ([key].zip ws)) (EP X pins σ Q) X.xe s := by
  have r2 : Vals (vs ++ zs) (us ++ ws) := r.append rz
  have hl : (us ++ ws).length = ps.length := by rw [← r2.length]; exact F.len _ _ _ _ h
  refine wpAny_call (codeAny_mono (F.run X.A X.stack s H ⟨us, [key].zip ws⟩ (us ++ ws) (vs ++ zs) Q (E σ) hr I.env0 (hb s us ws I.kIn hl (rz.length.symm.trans l2)) r2 h) fun r s' hq => ?_)
  cases r with
  | error e => exact hx pins H s e s' I hq
  | ok fl =>
    cases fl with
    | ret u => exact I.after hq
    | next => exact False.elim hq
    | brk => exact False.elim hq
    | cont => exact False.elim hq
theorem pe_callK1 {CX : CXT} {k : Nat} {f : Addr} {fd : FuncData} {ps : List Str} {sp : Sp} {E : L2.St → XK} {key x : Str} {t tk : TA} {kws : List Keyword} (F : FnOk X.prog X.w X.K X.mg X.base CX k f fd ps sp) (hr : Room k X.A) (hg : Gl X x) (hm : X.mg x = some (.ref f)) (hk : PySem.W.keepIn X.K (.ref f) = true) (hb : BindK X.K fd ps key) (hx : ∀ σ, PassesAt CX X σ (E σ))
    (ha : PA X (e :: es) t) (hkw : PK X kws tk) (hall : (backToKw pos (keywordEach kws X.env)).all (·.1.isSome) = true) (hks : (backToKw pos (keywordEach kws X.env)).filterMap (·.1) = [key])
    (hdb : (x == ("__debug__" : Str)) = false) (he : starEach (e :: es) X.env = (false, eval e X.env) :: starEach es X.env)
    (hpl : ((backTo pos (starEach (e :: es) X.env)).any (·.1) || (backToKw pos (keywordEach kws X.env)).any (·.1.isNone)) = false) :
    PE X (.Call (.Name x p) (e :: es) kws pos) (tCallK1 sp E t tk) := by
  refine ⟨fun pins s σ H Q I h => ?_⟩
  refine wpAny_Call_Name_kw (ld_glob I hg hm ?_ hdb)
  refine PySem.W.callWith_KW (h₀ := X.base) I.ok.mod.kin hk hall (thn (ha.run pos pins s σ H _ I h) fun us s1 ⟨vs, H1, I1, r, q⟩ => ?_) hpl he
  refine thn (hkw.run pos pins s1 σ H1 _ I1 q) fun ws s2 ⟨zs, H2, I2, rz, l2, q2⟩ => ⟨I2.kIn, ?_⟩
  rw [hks]
  exact run_fnK1 F hr hb (hx σ) I2 r rz l2 q2
structure DefKOk (P : Program) (w : World) (K : PySem.W.Frag) (mg : Str → Option Value) (base : Heap) (C : Str → Option Addr) (x : Str) (k : Nat) (ps : List Str) (mf : List D → Option Rs) (key : Str) : Prop where
  ex : ∃ f fd, FnOk P w K mg base (L2.CX P w) k f fd ps (spP ⟨K, C⟩ ps.length mf) ∧ mg x = some (.ref f) ∧ PySem.W.keepIn K (.ref f) = true ∧ BindK K fd ps key
structure DefKO (P : Program) (w : World) (K : PySem.W.Frag) (mg : Str → Option Value) (base : Heap) (C : Str → Option Addr) (x : Str) (k : Nat) (ps : List Str) (mf : Fo) (key : Str) : Prop where
  ex : ∃ f fd, FnOk P w K mg base (L2.CX P w) k f fd ps (spO ⟨K, C⟩ ps.length mf) ∧ mg x = some (.ref f) ∧ PySem.W.keepIn K (.ref f) = true ∧ BindK K fd ps key
def axSnoc (g : S → Option (Ex (List D))) (f : S → Option (Ex D)) : S → Option (Ex (List D)) := fun s => match g s with
  | some (.ok ds) => (match f s with
    | some (.ok d) => some (.ok (ds ++ [d]))
    | some (.er c p) => some (.er c p)
    | none => none)
  | some (.er c p) => some (.er c p)
  | none => none
def maSnoc (g : S → Option (EO (List D))) (f : S → Option (EO D)) : S → Option (EO (List D)) := fun s => eb (g s) fun ds st => eb (f ⟨s.r, st, s.al⟩) fun d st2 => some (.ok (ds ++ [d]), st2)
theorem x_rcallK (Dx : DX X N M Ms gs sc) (j : Nat) {k r : Nat} {x key : Str} {ps : List Str} {mf : List D → Option Rs} (h : DefKOk X.prog X.w X.K X.mg X.base C x k ps mf key) (hr : Room r X.A) (hk : k ≤ r) (tk : Takes X W)
    (ha : PAX X C W (e :: es) fxs) (hf : PX X C W ke fk) (hl : ∀ s ds, fxs s = some (.ok ds) → ds.length + 1 = ps.length) (hx : gs[j]? = some x := by rfl)
    (hall : (backToKw pos (keywordEach [⟨some key, ke, kpos⟩] X.env)).all (·.1.isSome) = true := by rfl) (hks : (backToKw pos (keywordEach [⟨some key, ke, kpos⟩] X.env)).filterMap (·.1) = [key] := by rfl)
    (he : starEach (e :: es) X.env = (false, eval e X.env) :: starEach es X.env := by rfl)
    (hpl : ((backTo pos (starEach (e :: es) X.env)).any (·.1) || (backToKw pos (keywordEach [⟨some key, ke, kpos⟩] X.env)).any (·.1.isNone)) = false := by rfl) :
    PX X C W (.Call (.Name x p) (e :: es) [⟨some key, ke, kpos⟩] pos) (rCall mf (axSnoc fxs fk)) := by
  obtain ⟨f, fd, Fn, hm, kp, hb⟩ := h.ex
  refine PE.weak (pe_callK1 (E := WE W) Fn (hr.mono hk) (Dx.g j x hx).1 hm kp hb (fun σ => passAt tk σ) ha (pk_cons hf pk_nil) hall hks (Dx.g j x hx).2 he hpl) ?_
  rintro σ H Q ⟨B, F, m, oa, s, R, q⟩
  refine ⟨B, F, m, oa, s, R, ?_⟩
  unfold rCall axSnoc at q
  cases h1 : fxs s with
  | none => rw [h1] at q; exact q.elim
  | some r1 =>
    rw [h1] at q
    cases r1 with
    | er c p => exact q
    | ok ds =>
      intro vs F1 H1 R1 e1 dx
      refine ⟨B, F1, m, oa, s, R1, ?_⟩
      simp only at q
      cases h0 : fk s with
      | none => rw [h0] at q; exact q.elim
      | some r0 =>
        rw [h0] at q
        cases r0 with
        | er c p => exact fun Cc dx F' H' a b c d => q Cc dx F' H' a b c (e1.trans d)
        | ok d =>
          intro z F2 H2 R2 e2 dz
          refine ⟨rfl, sp_x R2 (datL_app (dx.mono e2 (Pre.refl _)) (.cons dz .nil)) (by rw [List.length_append]; exact hl s ds h1) ?_⟩
          have q : match rOf mf (ds ++ [d]) with
            | some (.ok d) => ∀ v F' H', Rel (gx X C) B F' m oa σ H' s → Same F F' → Dat (gx X C) m F' v d → Q v H'
            | some (.er c p) => ∀ Cc dx F' H', C c = some Cc → ExP H' dx p → Rel (gx X C) B F' m oa σ H' s → Same F F' → W (.ref Cc) dx σ H'
            | none => False := q
          cases h2 : rOf mf (ds ++ [d]) with
          | none => rw [h2] at q; exact q.elim
          | some r2 =>
            rw [h2] at q
            cases r2 with
            | ok d => exact fun v F' H' a b c => q v F' H' a ((e1.trans e2).trans b) c
            | er c p => exact fun Cc dx F' H' a b c d => q Cc dx F' H' a b c ((e1.trans e2).trans d)
theorem m_callK (Dx : DX X N M Ms gs sc) (j : Nat) {k r : Nat} {x key : Str} {ps : List Str} {mf : Fo} (h : DefKO X.prog X.w X.K X.mg X.base C x k ps mf key) (hr : Room r X.A) (hk : k ≤ r) (tk : Takes X W)
    (ha : PAM X C W (e :: es) fms) (hf : PM X C W ke fm) (hl : ∀ s ds st, fms s = some (.ok ds, st) → ds.length + 1 = ps.length) (hx : gs[j]? = some x := by rfl)
    (hall : (backToKw pos (keywordEach [⟨some key, ke, kpos⟩] X.env)).all (·.1.isSome) = true := by rfl) (hks : (backToKw pos (keywordEach [⟨some key, ke, kpos⟩] X.env)).filterMap (·.1) = [key] := by rfl)
    (he : starEach (e :: es) X.env = (false, eval e X.env) :: starEach es X.env := by rfl)
    (hpl : ((backTo pos (starEach (e :: es) X.env)).any (·.1) || (backToKw pos (keywordEach [⟨some key, ke, kpos⟩] X.env)).any (·.1.isNone)) = false := by rfl) :
    PM X C W (.Call (.Name x p) (e :: es) [⟨some key, ke, kpos⟩] pos) (mCall mf (maSnoc fms fm)) := by
  obtain ⟨f, fd, Fn, hm, kp, hb⟩ := h.ex
  refine PE.weak (pe_callK1 (E := WE W) Fn (hr.mono hk) (Dx.g j x hx).1 hm kp hb (fun σ => passAt tk σ) ha (pk_cons hf pk_nil) hall hks (Dx.g j x hx).2 he hpl) ?_
  rintro σ H Q ⟨B, F, m, oa, s, R, q⟩
  refine ⟨B, F, m, oa, s, R, ?_⟩
  unfold mCall maSnoc at q
  by_cases hal : s.al = true
  case neg => simp only [if_neg hal] at q
  simp only [if_pos hal] at q
  cases h1 : fms s with
  | none => rw [h1] at q; exact q.elim
  | some r1 =>
    obtain ⟨r1, st1⟩ := r1
    rw [h1] at q
    cases r1 with
    | er c p => exact q
    | ok ds =>
      intro vs F1 H1 m1 oa1 R1 e1 dx
      refine ⟨B, F1, m1, oa1, _, R1, ?_⟩
      simp only [eb] at q
      cases h0 : fm ⟨s.r, st1, s.al⟩ with
      | none => rw [h0] at q; exact q.elim
      | some r0 =>
        obtain ⟨r0, st0⟩ := r0
        rw [h0] at q
        cases r0 with
        | er c p => exact fun Cc dx F' H' m' oa' a b c d => q Cc dx F' H' m' oa' a b c (e1.trans d)
        | ok d =>
          intro z F2 H2 m2 oa2 R2 e2 dz
          simp only at q
          refine ⟨rfl, spO_a (s := ⟨s.r, st0, s.al⟩) R2 hal (datL_app (dx.mono e2.1 e2.2.1) (.cons dz .nil)) (by rw [List.length_append]; exact hl s ds st1 h1) ?_⟩
          have q : AnsM (gx X C) W B F m σ s Q ((mf (ds ++ [d]) st0).map rsO) := by
            cases h2 : (mf (ds ++ [d]) st0).map rsO with
            | none => rw [h2] at q; exact q.elim
            | some r2 =>
              rw [h2] at q
              obtain ⟨r2, st2⟩ := r2
              cases r2 <;> exact q
          exact ansM_from q (e1.trans e2)
end
section
variable {K : PySem.W.Frag} {x qual key : Str} {params : Arguments} {body : List Stmt} {scope : Scope} {dvs : List V} {f : Addr} {fd : FuncData} {ps : List Str}
theorem bindK_of (F : FunD K x qual params body scope dvs [] f fd) (n : Nat) (hn : n + 1 = ps.length) (hd : dvs ≠ [])
    (h : ∀ (T : Addr) (kV doc pm : Value) (an : Option Addr) (cdv ct : Value) (us its ws : List Value), us.length = n → ws.length = 1 → its.length = dvs.length →
      ∃ k, bindArgs (PySem.W.fnOf x qual params body scope (.ref T) kV doc pm an cdv ct) ⟨us, [key].zip ws⟩ = seqItems? (.ref T) >>= k ∧ k (some its.toArray) = pure (ps.zip (us ++ ws))) : BindK K fd ps key := by
  obtain ⟨oc, od, dV, kV, doc, pm, an, cdv, ct, osl, rfl, lk, hcd, hD, hK⟩ := F.ex
  rcases hD with ⟨e, _⟩ | ⟨_, T, o, its, m, rfl, lT, oT, rT⟩
  · exact absurd e hd
  · intro s us ws X hl h1
    obtain ⟨k, e1, e2⟩ := h T kV doc pm an cdv ct us its ws (by rw [List.length_append] at hl; omega) h1 rT.length.symm
    refine BindsTo.of_looks fun M => ?_
    rw [e1]
    exact looks_items X lT oT (.of_pure e2)
theorem binds_all (F : FunD K x qual params body scope dvs [] f fd) (hd : dvs ≠ [])
    (h : ∀ (T : Addr) (kV doc pm : Value) (an : Option Addr) (cdv ct : Value) (us its : List Value), us.length = ps.length → its.length = dvs.length →
      ∃ k, bindArgs (PySem.W.fnOf x qual params body scope (.ref T) kV doc pm an cdv ct) ⟨us, []⟩ = seqItems? (.ref T) >>= k ∧ k (some its.toArray) = pure (ps.zip us)) : Binds K fd ps [] := by
  obtain ⟨ds, v, b⟩ := FunD.binds1 (ps := ps) F ps.length dvs.length hd (by simp) fun T kV doc pm an cdv ct us its h1 h2 => by
    obtain ⟨k, e1, e2⟩ := h T kV doc pm an cdv ct us its h1 h2
    exact ⟨k, e1, by rw [e2, List.drop_of_length_le (by omega), List.append_nil]⟩
  rw [List.drop_length] at v
  cases v
  exact b
end
/-! ### name = [..] over what is one's own, lent -/
theorem ldN_weak {G : Gx} {fs : S → Option (List D)} {σ : L2.St} {H : Hp} {Q : VK} (w : tN G (nLd fs) σ H Q) : tN G fs σ H Q := by
  obtain ⟨B, F, m, oa, s, d, R, hf, q⟩ := w
  obtain ⟨d', h1, h2⟩ := Option.bind_eq_some_iff.mp hf
  split at h2
  · rename_i hn
    cases h2
    refine ⟨B, _, m, oa, _, _, R.lend.1, h1, fun p vs F2 H2 hb R2 f2 dv => ?_⟩
    obtain ⟨k1, k2, _, k4⟩ := R.unlend f2 R2 (same_upd hb)
    exact q p vs _ H2 hb k1 k2 (k4 vs _ hn dv)
  · cases h2
section
variable {X : Cx} {C : Str → Option Addr} {W : WX} {N : List Str} {M Ms : List (Option Str)} {gs : List Str} {sc : Scope} {tg iter : Expr} {pos : Pos}
theorem xs_lcL (Dx : DX X N M Ms gs sc) (hsc : X.env.scope = sc) (i : Nat) {y : Str} {py spos : Pos} {scope : Scope} {own : List (Str × Nat)} {ifs : List Expr} {elt : Expr} {it : S → Option (List D)} {gg : D → S → Option S} {t : S → Option Bool} {f : S → Option D} (h : LcX X C scope own tg iter ifs elt it gg t f) (hl : (((sc.names.lookup y == some .local && py.line == pos.line && !(scope.names.any fun (n, k) => n == y && (k == .local || k == .cell))) || sc.names.lookup y == some .cell)) = true) (hx : Ms[i]? = some (some y) := by rfl) (hs : ∀ x, foldedSetIterable iter X.env x = pure x := by intro _; rfl) :
    PSV X C W (.Assign [.Name y py] (.ListComp elt [⟨tg, iter, ifs, 0⟩] scope pos) spos) (sSet i (vN (nLd (nLc (own.map (·.2)) it gg t f)))) :=
  s_setG (lc_asg Dx hsc i h.hi h.ok h.hg h.ht h.he hl hx hs) fun _ _ _ h => ldN_weak (n_weak h)
end
end VS
namespace VS
open PySem L2
open PyProof.Rows hiding St
section
variable {X : Cx} {C : Str → Option Addr} {W : WX} {N : List Str} {M Ms : List (Option Str)} {gs : List Str} {sc : Scope} {e o a b ke : Expr} {es rest : List Expr} {f g : S → Option D} {fx fk : S → Option (Ex D)} {fxs : S → Option (Ex (List D))} {fm fm2 : S → Option (EO D)} {fms fl : S → Option (EO (List D))} {pos p apos kpos : Pos}
/-! ### a list of one's own from a def that changes objects -/
def tMO (G : Gx) (W : WX) (f : S → Option (EO (List D))) : TE := fun σ H Q => ∃ B F m oa s, Rel G B F m oa σ H s ∧ match f s with
  | some (.ok ds, st') => ∀ p us F' H' m' oa', B p = none → Rel G (upd B p (.lst us)) F' m' oa' σ H' ⟨s.r, st', s.al⟩ → Gr F F' m m' s.al → DatL G m' F' us ds → Q (.ref p) H'
  | some (.er c p, st') => ∀ Cc dx F' H' m' oa', G.cls c = some Cc → ExP H' dx p → Rel G B F' m' oa' σ H' ⟨s.r, st', s.al⟩ → Gr F F' m m' s.al → W (.ref Cc) dx σ H'
  | none => False
abbrev PMO (X : Cx) (C : Str → Option Addr) (W : WX) (e : Expr) (f : S → Option (EO (List D))) : Prop := PE X e (tMO (gx X C) W f)
def rsN : Rs × List Ob → Option (EO (List D))
  | (.own es, st) => some (.ok es, st)
  | (.exc c p, st) => some (.er c p, st)
  | (.val _, _) => none
def mCallO (mf : Fo) (fms : S → Option (EO (List D))) : S → Option (EO (List D)) := fun s => if s.al = true then (match fms s with
  | some (.ok ds, st1) => (mf ds st1).bind rsN
  | some (.er c p, st1) => some (.er c p, st1)
  | none => none) else none
theorem m_callO (Dx : DX X N M Ms gs sc) (j : Nat) {k r : Nat} {x : Str} {ps : List Str} {mf : Fo} (h : DefO X.prog X.w X.K X.mg X.base C x k ps mf) (hr : Room r X.A) (hk : k ≤ r) (tk : Takes X W)
    (ha : PAM X C W (e :: es) fms) (hl : ∀ s ds st, fms s = some (.ok ds, st) → ds.length = ps.length) (hx : gs[j]? = some x := by rfl)
    (he : starEach (e :: es) X.env = (false, eval e X.env) :: starEach es X.env := by rfl) (hpl : (backTo pos (starEach es X.env)).any (·.1) = false := by rfl) :
    PMO X C W (.Call (.Name x p) (e :: es) [] pos) (mCallO mf fms) := by
  obtain ⟨f, fd, Fn, hm, kp, hb⟩ := h.ex
  refine PE.weak (pe_callS (E := WE W) Fn (hr.mono hk) (Dx.g j x hx).1 hm kp hb (fun σ => passAt tk σ) ha (Dx.g j x hx).2 he hpl) ?_
  rintro σ H Q ⟨B, F, m, oa, s, R, q⟩
  refine ⟨B, F, m, oa, s, R, ?_⟩
  unfold mCallO at q
  by_cases hal : s.al = true
  case neg => simp only [if_neg hal] at q
  simp only [if_pos hal] at q
  cases h1 : fms s with
  | none => rw [h1] at q; exact q.elim
  | some r1 =>
    obtain ⟨r1, st1⟩ := r1
    rw [h1] at q
    cases r1 with
    | er c p => exact q
    | ok ds =>
      intro vs F1 H1 m1 oa1 R1 e1 dx
      simp only at q
      cases hmf : mf ds st1 with
      | none => rw [hmf] at q; exact q.elim
      | some r2 =>
        rw [hmf] at q
        refine ⟨by rw [dx.length, hl s ds st1 h1], _, F1, m1, oa1, st1, ds, R1.toCall (s := ⟨s.r, st1, s.al⟩) hal, dx, ?_⟩
        rw [hmf]
        have gr : ∀ {F' m'}, Same F1 F' → Pre m1 m' → Gr F1 F' m1 m' s.al := fun a b => ⟨a, b, fun z => by rw [hal] at z; cases z⟩
        obtain ⟨r2, st'⟩ := r2
        cases r2 with
        | val d => exact q.elim
        | exc c pp => exact fun Cc dx F' H' m' oa' a b R' f p => q Cc dx F' H' m' _ a b (R1.ofCall1 R' f p) (e1.trans (gr f p))
        | own zs =>
          intro p us F' H' m' oa' hb R' f pm dv
          obtain ⟨k1, k2⟩ := R1.ofCallOwn (s := ⟨s.r, st1, s.al⟩) hb R' f pm
          exact q p us F' H' m' _ k1 k2 (e1.trans (gr f pm)) dv
def sSetMO (i : Nat) (fm : S → Option (EO (List D))) := onM fm fun ds s => some (.nx (s.put i (.ow ds)))
theorem s_setMO (Dx : DX X N M Ms gs sc) (i : Nat) {x : Str} {pos' : Pos} (he : PMO X C W e fl) (hx : Ms[i]? = some (some x) := by rfl) (hs : swapsWith e (some (.Name x pos')) pos.line X.env = pure false := by rfl) : PSV X C W (.Assign [.Name x pos'] e pos) (sSetMO i fl) := by
  obtain ⟨w1, w2, w3⟩ := Dx.l i x hx
  refine ⟨PS.weak (ps_set Dx.nd w1 w2 he hs w3) ?_, onM_al fun a s s' e => by cases e; rfl⟩
  rintro D σ H ⟨B, F, m, oa, s, R, q⟩
  refine ⟨B, F, m, oa, s, R, ?_⟩
  unfold sSetMO onM at q
  cases h1 : fl s with
  | none => rw [h1] at q; exact q.elim
  | some r1 =>
    obtain ⟨r1, st1⟩ := r1
    rw [h1] at q
    cases r1 with
    | er c p => exact fun Cc dx F' H' m' oa' a b c d => q Cc dx σ H' F' m' oa' a b c d
    | ok d => exact fun p us F' H' m' oa' hb R' gr dv => q _ H' F' m' _ (R'.putOwn hb i dv) gr
/-! ### isinstance of an object -/
structure ObC (K : PySem.W.Frag) (A : Addr) : Prop where
  cl : Cls K A
  ha : PySem.W.findIn K (.ref A) "__class__" = some (some (.builtin "object.__class__"))
  hn : PySem.W.specialIn K (.builtin "object.__class__") "__get__" = some (some (.builtin "getset_descriptor.__get__"))
  htk : PySem.W.takesIn K (.builtin "object.__class__") = some true
  hm : PySem.W.mroIn K A (.type "object") = some true
def dIsiO (tab : List (Str × Bool)) (f : S → Option D) : S → Option D := fun s => match f s with
  | some (.obj n) => (s.st[n]?).bind fun ob => (tab.lookup ob.cls).map .bl
  | _ => none
theorem x_isO (Dx : DX X N M Ms gs sc) (j j2 : Nat) {c : Str} {pc : Pos} {tab : List (Str × Bool)} {A : Addr} (hm : X.mg "isinstance" = none) (hA : X.mg c = some (.ref A)) (ht : TabOk C tab fun B b => ObC X.K B ∧ PySem.W.kitOne X.K (.ref B) (.ref A) = some b) (ha : PV X C e f)
    (hx : gs[j]? = some "isinstance" := by rfl) (hx2 : gs[j2]? = some c := by rfl) (hs : starEach [e, .Name c pc] X.env = (false, eval e X.env) :: starEach [.Name c pc] X.env := by rfl) (hpl : (backTo pos (starEach [.Name c pc] X.env)).any (·.1) = false := by rfl) :
    PV X C (.Call (.Name "isinstance" p) [e, .Name c pc] [] pos) (dIsiO tab f) := by
  refine PE.weak (pe_callB call_isi (Dx.g j _ hx).1 hm b_isinstance.bt (pa_cons ha (pa_cons (pe_glob (v := .ref A) (Dx.g j2 _ hx2).1 hA rfl (Dx.g j2 _ hx2).2) pa_nil) hs) b_isinstance.nn b_isinstance.nd hs hpl) ?_
  rintro σ H Q ⟨B, F, m, oa, s, d, R, hf, q⟩
  unfold dIsiO at hf
  cases h1 : f s with
  | none => rw [h1] at hf; cases hf
  | some y =>
    rw [h1] at hf
    cases y with
    | obj n =>
      obtain ⟨ob, h2, h3⟩ := Option.bind_eq_some_iff.mp hf
      obtain ⟨bb, h4, rfl⟩ := Option.map_eq_some_iff.mp h3
      refine ⟨B, F, m, oa, s, .obj n, R, h1, fun v F1 H1 R1 e1 dx => ?_⟩
      obtain ⟨a, A', dx', fs, rfl, k1, k2, k3, _⟩ := obj_at R1 dx h2
      obtain ⟨t1, t2⟩ := ht _ bb h4 A' k2
      exact ⟨.ref a, .ref A, .ref A', .ref A, bb, rfl, .own _, .base (.ins k3 t1.cl t1.ha t1.hn t1.htk t1.hm), t2, q _ F1 H1 R1 e1 (.bl _)⟩
    | _ => cases hf
/-! ### try: body, except x: y = None -/
def sTryN (tab : List (Str × Bool)) (j : Nat) (g : S → Option Out) : S → Option Out := fun s => match g s with
  | some (.nx s') => if s'.al = s.al then some (.nx s') else none
  | some (.ex c none s') => (match tab.lookup c with
    | some true => if s'.al = s.al then some (.nx (s'.put j (.fr .non))) else none
    | some false => some (.ex c none s')
    | none => none)
  | some (.rt d s') => some (.rt d s')
  | some (.ro ds s') => some (.ro ds s')
  | _ => none
theorem s_tryN {body : List Stmt} {g : S → Option Out} (Dx : DX X N M Ms gs sc) (j l : Nat) {x y : Str} {tab : List (Str × Bool)} {A : Addr} {np yp p1 apos pos pos' : Pos} {jn : Nat} {P : Program} {w : World} {K : PySem.W.Frag} {mg : Str → Option Value} {base : Heap} {r : Nat} (b : BX X W P w K mg base N sc r)
    (hA : X.mg x = some (.ref A)) (ht : TabOk C tab fun B v => PySem.W.exmOne X.K (.ref B) (.ref A) = some v)
    (hb : ∀ (W : WX) (pn : List (Addr × Obj)) (xe : Value → Shared → Prop), Takes (X.tr pn xe) W → PassesOwn (model X.prog X.w) X.A X.env xe → PSsV (X.tr pn xe) C W body g)
    (hx : gs[l]? = some x := by rfl) (hj : Ms[j]? = some (some y) := by rfl)
    (hsw : swapsWith (.Constant .none jn p1) (some (.Name y yp)) apos.line X.env = pure false := by rfl) :
    PSV X C W (.Try body [.ExceptHandler (some (.Name x np)) none [.Assign [.Name y yp] (.Constant .none jn p1) apos] pos'] [] [] pos) (sTryN tab j g) := by
  obtain ⟨u1, u2, u3⟩ := Dx.l j y hj
  refine ⟨PS.weak (ps_try_only (tb := fun W => tSt (gx X C) W g) (ts := fun a cls d => tAsg (tC .non) (gName j)) b.stk b.frm ⟨(Dx.g l x hx).1, (Dx.g l x hx).2, .inl hA⟩ b.tk (fun W pn xe tk po => (hb W pn xe tk po).run) (fun a oe cls d pn _ _ =>
    pss_one (ps_set (X := X.suite a ((a, oe) :: pn)) Dx.nd u1 u2 pe_non hsw u3))) ?_, fun s s' e => ?_⟩
  · rintro D σ H ⟨B, F, m, oa, s, R, q⟩
    refine ⟨B, F, m, oa, s, R, ?_⟩
    unfold sTryN at q
    cases h1 : g s with
    | none => rw [h1] at q; exact q.elim
    | some o =>
      rw [h1] at q
      cases o with
      | nx s' =>
        intro σ' H' F' m' oa' R' gr
        simp only at q
        by_cases hal : s'.al = s.al
        case neg => rw [if_neg hal] at q; exact q.elim
        rw [if_pos hal] at q
        exact q σ' H' F' m' oa' R' gr
      | rt d s' => exact q
      | ro ds s' => exact q
      | ex c p s' =>
        cases p with
        | some i => exact q.elim
        | none =>
          intro Cc dx σ' H' F' m' oa' hc hp R' gr
          simp only at q
          cases h2 : tab.lookup c with
          | none => simp only [h2] at q; exact q.elim
          | some v =>
            simp only [h2] at q
            refine ⟨v, ht c v h2 Cc hc, fun hv => ?_, fun hv => ?_⟩
            · subst hv
              simp only at q
              by_cases hal : s'.al = s.al
              case neg => rw [if_neg hal] at q; exact q.elim
              rw [if_pos hal] at q
              intro a na
              exact q _ H' F' m' oa' (R'.put j .non) gr
            · subst hv
              exact q Cc dx σ' H' F' m' oa' hc hp R' gr
  · unfold sTryN at e
    split at e
    · split at e
      · rename_i h; cases e; exact h
      · cases e
    · split at e
      · split at e
        · rename_i h; cases e; exact h
        · cases e
      · cases e
      · cases e
    · cases e
    · cases e
    · cases e
/-! ### is, is not of truths -/
theorem op_isB : OpR X (compareOp .Is) (fun x y H Q => ∃ a b, x = .bl a ∧ y = .bl b ∧ Q (.bl (decide (a = b))) H) := by
  intro pins s σ H x y v u Q I rx ry h
  obtain ⟨a, b, rfl, rfl, q⟩ := h
  cases rx
  cases ry
  show wpAny _ _ ((isSame (.bool a) (.bool b)) >>= fun z => pure (Value.bool z)) _ _ s
  refine wpAny_bind (wpAny_isSame_plain rfl (wpAny_pure (fin_bl I q ?_)))
  cases a <;> cases b <;> rfl
theorem op_notB : OpR X (compareOp .IsNot) (fun x y H Q => ∃ a b, x = .bl a ∧ y = .bl b ∧ Q (.bl (!decide (a = b))) H) := by
  intro pins s σ H x y v u Q I rx ry h
  obtain ⟨a, b, rfl, rfl, q⟩ := h
  cases rx
  cases ry
  show wpAny _ _ ((isSame (.bool a) (.bool b)) >>= fun z => pure (Value.bool (!z))) _ _ s
  refine wpAny_bind (wpAny_isSame_plain rfl (wpAny_pure (fin_bl I q ?_)))
  cases a <;> cases b <;> rfl
def dIsB (neg : Bool) : D → D → Option D
  | .bl a, .bl b => some (.bl (neg != decide (a = b)))
  | _, _ => none
theorem giv_isB : Giv X C (fun x y H Q => ∃ a b, x = .bl a ∧ y = .bl b ∧ Q (.bl (decide (a = b))) H) (dIsB false) := by
  intro B F m oa σ H s x y d v u Q R hg dx dy q
  unfold dIsB at hg
  split at hg
  · cases hg; cases dx; cases dy
    exact ⟨_, _, rfl, rfl, q _ F H R (Same.refl _) (by rw [show ∀ z : Bool, (false != z) = z from fun z => by cases z <;> rfl]; exact .bl _)⟩
  · cases hg
theorem giv_notB : Giv X C (fun x y H Q => ∃ a b, x = .bl a ∧ y = .bl b ∧ Q (.bl (!decide (a = b))) H) (dIsB true) := by
  intro B F m oa σ H s x y d v u Q R hg dx dy q
  unfold dIsB at hg
  split at hg
  · cases hg; cases dx; cases dy
    exact ⟨_, _, rfl, rfl, q _ F H R (Same.refl _) (by rw [show ∀ z : Bool, (true != z) = !z from fun z => by cases z <;> rfl]; exact .bl _)⟩
  · cases hg
theorem m_isB (ha : PM X C W a fm) (hb : PM X C W b fm2) (hm : behindInMarks .Is b = false) : PM X C W (.Compare a [.Is] [b] pos) (mD2 (dIsB false) fm fm2) := m_cmp op_isB giv_isB ha hb hm
theorem m_notB (ha : PM X C W a fm) (hb : PM X C W b fm2) (hm : behindInMarks .IsNot b = false) : PM X C W (.Compare a [.IsNot] [b] pos) (mD2 (dIsB true) fm fm2) := m_cmp op_notB giv_notB ha hb hm
theorem tm_isB (ha : PM X C W a fm) (hb : PM X C W b fm2) (hm : behindInMarks .Is b = false) : PTM X C W (.Compare a [.Is] [b] pos) (bM (mD2 (dIsB false) fm fm2)) := tm_cmp op_isB giv_isB ha hb hm
theorem tm_notB (ha : PM X C W a fm) (hb : PM X C W b fm2) (hm : behindInMarks .IsNot b = false) : PTM X C W (.Compare a [.IsNot] [b] pos) (bM (mD2 (dIsB true) fm fm2)) := tm_cmp op_notB giv_notB ha hb hm
/-! ### a list with what changes objects, and another -/
def dCat : D → D → Option D
  | .lst x, .lst y => if x.length + y.length ≤ 16777216 then some (.lst (x ++ y)) else none
  | _, _ => none
theorem giv_cat : Giv X C (rCatL X.K) dCat := by
  intro B F m oa σ H s x y d v u Q R hg dx dy q
  unfold dCat at hg
  split at hg
  · split at hg
    · rename_i hl
      cases hg
      cases dx with
      | @lst ax vx xs h1 h2 =>
        cases dy with
        | @lst ay vy ys h3 h4 =>
          refine ⟨ax, ay, vx, vy, rfl, rfl, R.fh.seq h1, R.fh.seq h3, by rw [h2.length, h4.length, szl]; exact hl, fun p hp => ?_⟩
          have ff := same_upd (o := .lst (vx ++ vy)) (R.fresh hp).1
          exact q _ _ _ (R.new hp _) ff (.lst (SqL.of upd_same) ((h2.append h4).mono ff (Pre.refl _)))
    · cases hg
  · cases hg
/-! ### a def without parameters; several names at once -/
theorem pe_callS0 {CX : CXT} {k : Nat} {f : Addr} {fd : FuncData} {ps : List Str} {sp : Sp} {E : L2.St → XK} {x : Str} (F : FnOk X.prog X.w X.K X.mg X.base CX k f fd ps sp) (hr : Room k X.A) (hg : Gl X x) (hm : X.mg x = some (.ref f)) (hk : PySem.W.keepIn X.K (.ref f) = true) (hb : Binds X.K fd ps []) (hx : ∀ σ, PassesAt CX X σ (E σ))
    (hdb : (x == ("__debug__" : Str)) = false := by decide) : PE X (.Call (.Name x p) [] [] pos) (tCallS sp E tNil) := by
  refine ⟨fun pins s σ H Q I h => ?_⟩
  refine wpAny_Call_Name_kw (ld_glob I hg hm ?_ hdb)
  exact PySem.W.callWith_K0 I.kIn hk (run_fnS (us := []) (vs := []) F hr hb (hx σ) I .nil h)
theorem m_call0 (Dx : DX X N M Ms gs sc) (j : Nat) {k r : Nat} {x : Str} {ps : List Str} {mf : Fo} (h : DefO X.prog X.w X.K X.mg X.base C x k ps mf) (hr : Room r X.A) (hk : k ≤ r) (tk : Takes X W) (hl : ps.length = 0 := by rfl) (hx : gs[j]? = some x := by rfl) :
    PM X C W (.Call (.Name x p) [] [] pos) (mCall mf maNil) := by
  obtain ⟨f, fd, Fn, hm, kp, hb⟩ := h.ex
  refine PE.weak (pe_callS0 (E := WE W) Fn (hr.mono hk) (Dx.g j x hx).1 hm kp hb (fun σ => passAt tk σ) (Dx.g j x hx).2) ?_
  rintro σ H Q ⟨B, F, m, oa, s, R, q⟩
  have q : AnsM (gx X C) W B F m σ s Q (mCall mf maNil s) := q
  unfold mCall at q
  by_cases hal : s.al = true
  case neg => rw [if_neg hal] at q; exact q.elim
  rw [if_pos hal] at q
  exact spO_a R hal .nil (by rw [hl]; rfl) q
def sAsgM (fm : S → Option (EO D)) (g : D → S → Option S) : S → Option Out := onM fm fun d s => (g d s).map .nx
theorem s_asgM {vs : List Nat} {tg : Expr} {gg : D → S → Option S} (he : PM X C W e fm) (hg : PGV X C vs tg gg) (hs : swapsWithSole [tg] e pos.line X.env = pure false := by rfl) (hw : swappedStores [tg] e X.env = pure none := by rfl)
    (h1 : (assignEach [tg] X.env).map (·.2) = [assign tg X.env] := by rfl) : PSV X C W (.Assign [tg] e pos) (sAsgM fm gg) := by
  refine ⟨PS.weak (ps_asg he hg.run hs hw h1) fun D σ H w => m_ends w _ fun B F m s d st' q v F' H' m' oa' R' gr dv => ?_, onM_al fun a s s' e => ?_⟩
  · cases hgd : gg d ⟨s.r, st', s.al⟩ with
    | none => rw [hgd] at q; exact q.elim
    | some s1 =>
      rw [hgd] at q
      exact ⟨B, F', m', oa', _, d, s1, R', dv, hgd, fun σ' R2 _ => q σ' H' F' m' oa' R2 gr⟩
  · obtain ⟨s1, h3, h4⟩ := Option.map_eq_some_iff.mp e
    cases h4
    exact (hg.ok _ _ _ h3).2.1
theorem m_cat (ha : PM X C W a fm) (hb : PM X C W b fm2) : PM X C W (.BinOp a .Add b pos) (mD2 dCat fm fm2) := m_bin op_catL giv_cat ha hb
end
end VS
namespace VS
open PySem L2
open PyProof.Rows hiding St
/-! ### a def that is handed a list and gives it back, changed -/
open Classical in
/-- an object is let go that nothing names -/
noncomputable def hDel (H : Hp) (a : Addr) : Hp := fun b => if b = a then none else H b
theorem hDel_ne {H : Hp} {a b : Addr} (h : b ≠ a) : hDel H a b = H b := if_neg h
theorem hDel_same {H : Hp} {a : Addr} : hDel H a a = none := if_pos rfl
theorem hDel_some {H : Hp} {a b : Addr} {o : HO} (h : hDel H a b = some o) : b ≠ a ∧ H b = some o := by
  by_cases e : b = a
  · subst e; rw [hDel_same] at h; cases h
  · rw [hDel_ne e] at h; exact ⟨e, h⟩
theorem Rel.letGo {G : Gx} {B F : Hp} {m : List Addr} {oa : Own → Addr} {σ : L2.St} {H : Hp} {s : S} (R : Rel G B F m oa σ H s) {a : Addr} (fa : F a = none) (ba : B a = none)
    (np : ∀ x ds, ownAt s x = some ds → oa x ≠ a) (nq : ∀ (n : Nat) (ob : Ob) (b : Addr), s.st[n]? = some ob → m[n]? = some b → b ≠ a) : Rel G B F m oa σ (hDel H a) s where
  fh := fun b o e => by rw [hDel_ne (ne_of_none e fa)]; exact R.fh b o e
  bh := fun b o e => by rw [hDel_ne (ne_of_none e ba)]; exact R.bh b o e
  fb := R.fb
  len := R.len
  slot := R.slot
  cell := fun x ds e => by
    obtain ⟨h1, h2, vs, h3, h4⟩ := R.cell x ds e
    exact ⟨h1, h2, vs, by rw [hDel_ne (np x ds e)]; exact h3, h4⟩
  inj := R.inj
  obj := fun n ob e => by
    obtain ⟨b, C, dx, fs, h1, h2, h3, h4, h5, r⟩ := (R.obj n ob e).ex
    exact ⟨⟨b, C, dx, fs, h1, h2, by rw [hDel_ne (nq n ob b e h1)]; exact h3, h4, h5, r⟩⟩
  ml := R.ml
  mnd := R.mnd
/-- the promise: a list of one's own in, a list of one's own out; what else stands stays -/
def spW (G : Gx) (f : List D → Option (List D)) : Sp := fun vs H Q E => ∃ a F m us ds, vs = [.ref a] ∧ H a = some (.lst us) ∧ F a = none ∧ Same F H ∧ m.Nodup ∧ DatL G m F us ds ∧ match f ds with
  | some es => ∀ p ws F' H', Same F F' → Same F' H' → (∀ b o, b ≠ a → F b = none → H b = some o → H' b = some o ∧ F' b = none) → (∀ b, F' b ≠ none → F b ≠ none ∨ H b = none ∨ b = a) → F' p = none → (H p = none ∨ p = a) → H' p = some (.lst ws) → DatL G m F' ws es → Q (.ref p) H'
  | none => False
def initW (N : Nat) (ds : List D) : S := ⟨.ow ds :: List.replicate (N - 1) .un, [], false⟩
def outW : Option Out → Option (List D)
  | some (.ro es _) => some es
  | _ => none
def fnW (N : Nat) (g : S → Option Out) (ds : List D) : Option (List D) := outW (g (initW N ds))
section
variable {P : Program} {w : World} {K : PySem.W.Frag} {mg : Str → Option Value} {base : Heap} {C : Str → Option Addr}
theorem fn_own {x qual : Str} {st : Stmt} {f : Addr} {fd : FuncData} {N ps : List Str} {k : Nat} {g : S → Option Out} (Fn : Fun K x qual st f fd) (Sc : FnScope N ps (defScope st)) (hp1 : ps.length = 1) (hN : 1 ≤ N.length)
    (body : ∀ (X : Cx) (W : WX), BX X W P w K mg base N (defScope st) k → PSsV X C W (defBody st) g) : FnOk P w K mg base (L2.CX P w) (k + 1) f fd ps (spW ⟨K, C⟩ (fnW N.length g)) := by
  refine (FunG.of Fn).okX Sc (fun vs H Q E h => ?_) (fun cdv A outer s H vs Q E hr h => ?_)
  · obtain ⟨a, F, m, us, ds, rfl, _⟩ := h
    rw [hp1]; rfl
  · obtain ⟨a, F, m, us, ds, rfl, ha, fa, fh, mn, hd, q⟩ := h
    have Bd := body (cxOf (L2.CX P w) P w K mg base N qual (defScope st) f cdv A outer s H E) (fun cls d _ H => E cls d H)
      ⟨rfl, rfl, rfl, rfl, rfl, rfl, rfl, rfl, fun _ => rfl, hr, passes_of rfl, takes_of rfl rfl rfl rfl, rfl, rfl, rfl⟩
    refine ⟨_, Bd.run, ?_⟩
    -- the frame: all that stands but F and the list
    have hB : but H F = upd (hDel (but H F) a) a (.lst us) := by
      funext b
      by_cases e : b = a
      · subst e; rw [upd_same]; unfold but; rw [if_pos fa]; exact ha
      · rw [upd_ne e, hDel_ne e]
    have R0 := init_rel (G := ⟨K, C⟩) (vs := []) (ds := []) (N := N.length) fh mn .nil (fun _ => 0)
    rw [hB] at R0
    have R1 := R0.putOwn hDel_same 0 hd
    have e1 : (initS N.length []).put 0 (.ow ds) = initW N.length ds := by
      unfold initS initW S.put
      obtain ⟨n, hn⟩ : ∃ n, N.length = n + 1 := ⟨N.length - 1, by omega⟩
      rw [hn]
      simp [List.replicate_succ]
    have e2 : (([] : List V).map some ++ List.replicate (N.length - ([] : List V).length) none).set 0 (some (.ref a)) = ([V.ref a].map some ++ List.replicate (N.length - [V.ref a].length) none : L2.St) := by
      obtain ⟨n, hn⟩ : ∃ n, N.length = n + 1 := ⟨N.length - 1, by omega⟩
      rw [hn]
      simp [List.replicate_succ]
    rw [e1, e2] at R1
    refine ⟨hDel (but H F) a, F, m, _, initW N.length ds, R1, ?_⟩
    unfold fnW outW at q
    cases hg : g (initW N.length ds) with
    | none => rw [hg] at q; exact q.elim
    | some o =>
      rw [hg] at q
      cases o with
      | nx s' => exact q.elim
      | rt d s' => exact q.elim
      | ex c p s' => exact q.elim
      | ro es s' =>
        intro p ws σ' H' F' m' oa' hb R gr dv
        have mm : m' = m := gr.2.2 rfl
        subst mm
        have fp : F' p = none := by
          cases ez : F' p with
          | none => rfl
          | some u => exact absurd (R.fb p (by rw [ez]; simp)) (by rw [upd_same]; simp)
        have RB := R.lessB (same_upd hb)
        have bnone : ∀ b, hDel (but H F) a b = none → F b ≠ none ∨ H b = none ∨ b = a := fun b hb => by
          by_cases e : b = a
          · exact .inr (.inr e)
          · rw [hDel_ne e] at hb
            rcases but_none hb with z | z
            · exact .inl z
            · exact .inr (.inl z)
        refine q p ws F' H' gr.1 RB.fh (fun b o hba fb hbo => ?_) (fun b e => bnone b (RB.fb b e)) fp ?_ (R.bh p _ upd_same) dv
        · have bb : hDel (but H F) a b = some o := by
            rw [hDel_ne hba]; unfold but; rw [if_pos fb]; exact hbo
          refine ⟨RB.bh b o bb, ?_⟩
          cases e2 : F' b with
          | none => rfl
          | some u =>
            have := RB.fb b (by rw [e2]; simp)
            rw [bb] at this; cases this
        · rcases bnone p hb with z | z | z
          · exact absurd (gr.1.free fp) z
          · exact .inl z
          · exact .inr z
end
structure DefW (P : Program) (w : World) (K : PySem.W.Frag) (mg : Str → Option Value) (base : Heap) (C : Str → Option Addr) (x : Str) (k : Nat) (ps : List Str) (mf : List D → Option (List D)) : Prop where
  ex : ∃ f fd, FnOk P w K mg base (L2.CX P w) k f fd ps (spW ⟨K, C⟩ mf) ∧ mg x = some (.ref f) ∧ PySem.W.keepIn K (.ref f) = true ∧ Binds K fd ps []
section
variable {X : Cx} {C : Str → Option Addr} {W : WX} {N : List Str} {M Ms : List (Option Str)} {gs : List Str} {sc : Scope} {e ie : Expr} {f h f2 h2 : S → Option D}
/-- x = f(x), x a list of one's own -/
def sSetW (i : Nat) (mf : List D → Option (List D)) : S → Option Out := fun s => (s.own i).bind fun ds => (mf ds).map fun es => .nx (s.put i (.ow es))
theorem s_setW (Dx : DX X N M Ms gs sc) (i j : Nat) {k r : Nat} {x y : Str} {ps : List Str} {mf : List D → Option (List D)} {p px px' pos cpos : Pos} (hd : DefW X.prog X.w X.K X.mg X.base C y k ps mf) (hr : Room r X.A) (hk : k ≤ r)
    (hx : Ms[i]? = some (some x) := by rfl) (hx' : M[i]? = some (some x) := by rfl) (hy : gs[j]? = some y := by rfl)
    (hst : starEach [.Name x px'] X.env = (false, eval (.Name x px') X.env) :: starEach [] X.env := by rfl) (hpl : (backTo cpos (starEach [] X.env)).any (·.1) = false := by rfl)
    (hs : swapsWith (.Call (.Name y p) [.Name x px'] [] cpos) (some (.Name x px)) pos.line X.env = pure false := by rfl) :
    PSV X C W (.Assign [.Name x px] (.Call (.Name y p) [.Name x px'] [] cpos) pos) (sSetW i mf) := by
  obtain ⟨fA, fd, Fn, hm, kp, hb⟩ := hd.ex
  obtain ⟨w1, w2, w3⟩ := Dx.l i x hx
  obtain ⟨n1, n2, n3, n4⟩ := Dx.v i x hx'
  refine ⟨PS.weak (ps_set Dx.nd w1 w2 (pe_call Fn (hr.mono hk) (Dx.g j y hy).1 hm kp hb .nil passL (pa_cons (pe_var n1 n2 n3 n4) pa_nil hst) (Dx.g j y hy).2 hst hpl) hs w3) ?_, fun s s' e => ?_⟩
  · rintro D σ H ⟨B, F, m, oa, s, R, q⟩
    unfold sSetW at q
    cases ho : s.own i with
    | none => rw [ho] at q; exact q.elim
    | some ds =>
      rw [ho, Option.bind_some] at q
      cases hf : mf ds with
      | none => rw [hf] at q; exact q.elim
      | some es =>
        rw [hf, Option.map_some] at q
        have hri := own_get ho
        have hown : ownAt s (.inl i) = some ds := by show slO s.r[i]? = some ds; rw [hri]; rfl
        obtain ⟨fa, ba, us, ha, hd⟩ := R.cell _ _ hown
        have hsl : σ[i]? = some (some (.ref (oa (.inl i)))) := R.slot i _ hri
        refine ⟨.ref (oa (.inl i)), hsl, ?_⟩
        refine ⟨oa (.inl i), F, m, us, ds, rfl, ha, fa, R.fh, R.mnd, hd, ?_⟩
        rw [hf]
        intro p ws F' H' ff fh keep fb fp hp hp2 dl
        -- the slot is empty meanwhile
        have R1 : Rel (gx X C) B F m oa (σ.set i (some (.ref (oa (.inl i))))) H (s.put i .un) := R.putAny i (some (.ref (oa (.inl i)))) .un trivial (fun ds z => by cases z)
        have es1 : ∀ (x : Own) (zs : List VS.D), ownAt (s.put i .un) x = some zs → x ≠ .inl i ∧ ownAt s x = some zs := fun x zs e => by
          rcases ownAt_put e with ⟨k1, k2⟩ | ⟨k1, k2⟩
          · cases k2
          · exact ⟨k1, k2⟩
        have R2 := R1.letGo fa ba (fun x zs e z => (es1 x zs e).1 (R.inj x _ _ _ (es1 x zs e).2 hown z)) (fun n ob b e1 e2 z => by
          obtain ⟨b', C', dx, fs, k1, k2, k3, _⟩ := (R.obj n ob e1).ex
          rw [e2] at k1; cases k1
          rw [z, ha] at k3; cases k3)
        have R3 : Rel (gx X C) B F' m oa (σ.set i (some (.ref (oa (.inl i))))) H' (s.put i .un) := by
          refine R2.grow ff fh (fun b o e => ?_) (fun b e => ?_) (fun b o a1 a2 a3 => ?_)
          · have hne : b ≠ oa (.inl i) := ne_of_none e ba
            have fbn : F b = none := by
              cases ez : F b with
              | none => rfl
              | some u => rw [R.fb b (by rw [ez]; simp)] at e; cases e
            exact (keep b o hne fbn (R.bh b o e)).1
          · rcases fb b e with z | z | z
            · exact R.fb b z
            · exact R.bh.free z
            · rw [z]; exact ba
          · obtain ⟨c1, c2⟩ := hDel_some a3
            exact keep b o c1 a1 c2
        have bp : B p = none := by
          rcases hp with z | z
          · exact R.bh.free z
          · rw [z]; exact ba
        have npx : ∀ (b : Addr) (o : HO), hDel H (oa (.inl i)) b = some o → b ≠ p := fun b o e z => by
          obtain ⟨c1, c2⟩ := hDel_some e
          rcases hp with y | y
          · rw [z, y] at c2; cases c2
          · exact c1 (z.trans y)
        have R4 := R3.addB (o := .lst ws) hp2 fp (fun x zs e => by
          obtain ⟨_, _, vs, c3, _⟩ := R2.cell x zs e
          exact npx _ _ c3) (fun n ob b e1 e2 => by
          obtain ⟨b', C', dx, fs, k1, k2, k3, _⟩ := (R2.obj n ob e1).ex
          rw [e2] at k1; cases k1
          exact npx _ _ k3)
        have R5 := R4.putOwn bp i dl
        have e3 : (s.put i .un).put i (.ow es) = s.put i (.ow es) := by unfold S.put; simp [List.set_set]
        have e4 : (σ.set i (some (.ref (oa (.inl i))))).set i (some (.ref p)) = σ.set i (some (.ref p)) := by rw [List.set_set]
        rw [e3, e4] at R5
        exact q _ H' F' m _ R5 (Gr.of _ _ ff)
  · obtain ⟨ds, _, h3⟩ := Option.bind_eq_some_iff.mp e
    obtain ⟨es, _, h4⟩ := Option.map_eq_some_iff.mp h3
    cases h4
    rfl
/-! ### two places of a list of one's own, each with what stood at another -/
def sSwapIx (i : Nat) (f f2 h h2 : S → Option D) : S → Option Out := fun s => (f s).bind fun d => (f2 s).bind fun d2 => (h s).bind fun k => (iInt k).bind fun z => (s.own i).bind fun ds => (ixN ds.length z).bind fun j =>
  (h2 (s.put i (.ow (ds.set j d)))).bind fun k2 => (iInt k2).bind fun z2 => (ixN ds.length z2).map fun j2 => .nx ((s.put i (.ow (ds.set j d))).put i (.ow ((ds.set j d).set j2 d2)))
theorem swapS {a b ie ie2 o o2 : Expr} {sp sp2 pt pt2 : Pos} {kt k2 : Nat} {env : Env} : swappedStores [.Tuple [.Subscript o ie sp, .Subscript o2 ie2 sp2] kt pt] (.Tuple [a, b] k2 pt2) env = pure none := by
  unfold swappedStores
  by_cases hb : env.blockKind = .function
  · by_cases hs : ([a, b].any fun | .Starred .. => true | _ => false) = true
    · simp only [hs]
      simp [hb]
    · have hs : ([a, b].any fun | .Starred .. => true | _ => false) = false := by simpa using hs
      simp only [hs]
      simp [hb]
  · simp [hb]
theorem s_swapIx {a b ie2 : Expr} (Dx : DX X N M Ms gs sc) (i : Nat) {x : Str} {px px2 sp sp2 pt pt2 pos : Pos} {kt k2 : Nat} (ha : PV X C a f) (hb : PV X C b f2) (hk : PV X C ie h) (hk2 : PV X C ie2 h2) (hx : M[i]? = some (some x) := by rfl)
    (ha1 : ∀ v, assign (.Subscript (.Name x px) ie sp) X.env v = (do
      let ov ← holding [v] (eval (.Name x px) X.env)
      let iv ← holding [v, ov] (eval ie X.env)
      standAt sp
      holding [v, ov, iv] (setItem ov iv v)
      release [v, ov, iv] []) := by intro _; rfl)
    (ha2 : ∀ v, assign (.Subscript (.Name x px2) ie2 sp2) X.env v = (do
      let ov ← holding [v] (eval (.Name x px2) X.env)
      let iv ← holding [v, ov] (eval ie2 X.env)
      standAt sp2
      holding [v, ov, iv] (setItem ov iv v)
      release [v, ov, iv] []) := by intro _; rfl)
    (hs0 : starEach [a, b] X.env = (false, eval a X.env) :: starEach [b] X.env := by rfl) (hs1 : starEach [b] X.env = (false, eval b X.env) :: starEach [] X.env := by rfl)
    (hs : swapsWithSole [.Tuple [.Subscript (.Name x px) ie sp, .Subscript (.Name x px2) ie2 sp2] kt pt] (.Tuple [a, b] k2 pt2) pos.line X.env = pure false := by rfl)
    (h1 : (assignEach [.Tuple [.Subscript (.Name x px) ie sp, .Subscript (.Name x px2) ie2 sp2] kt pt] X.env).map (·.2) = [assign (.Tuple [.Subscript (.Name x px) ie sp, .Subscript (.Name x px2) ie2 sp2] kt pt) X.env] := by rfl)
    (g1 : (assignEach [.Subscript (.Name x px) ie sp, .Subscript (.Name x px2) ie2 sp2] X.env).map (·.2) = assign (.Subscript (.Name x px) ie sp) X.env :: (assignEach [.Subscript (.Name x px2) ie2 sp2] X.env).map (·.2) := by rfl)
    (g2 : (assignEach [.Subscript (.Name x px2) ie2 sp2] X.env).map (·.2) = assign (.Subscript (.Name x px2) ie2 sp2) X.env :: (assignEach [] X.env).map (·.2) := by rfl)
    (g3 : (assignEach [.Subscript (.Name x px) ie sp, .Subscript (.Name x px2) ie2 sp2] X.env).length = 2 := by rfl) (g4 : (assignEach [.Subscript (.Name x px) ie sp, .Subscript (.Name x px2) ie2 sp2] X.env).findIdx? (·.1) = none := by rfl) :
    PSV X C W (.Assign [.Tuple [.Subscript (.Name x px) ie sp, .Subscript (.Name x px2) ie2 sp2] kt pt] (.Tuple [a, b] k2 pt2) pos) (sSwapIx i f f2 h h2) := by
  obtain ⟨n1, n2, n3, n4⟩ := Dx.v i x hx
  have T := v_tup (pos := pt2) (x1 := k2) (a_cons ha (a_cons hb a_nil hs1) hs0)
  refine ⟨PS.weak (ps_asg T (pg_tup Dx.calm (pgs_cons (pg_sub (pe_var n1 n2 n3 n4) hk set_list ha1) (pgs_cons (pg_sub (pe_var n1 n2 n3 n4) hk2 set_list ha2) pgs_nil g2) g1) g3 g4) hs swapS h1) ?_, fun s s' e => ?_⟩
  · rintro D σ H ⟨B, F, m, oa, s, R, q⟩
    unfold sSwapIx at q
    cases hf : f s with
    | none => rw [hf] at q; exact q.elim
    | some d =>
      rw [hf, Option.bind_some] at q
      cases hf2 : f2 s with
      | none => rw [hf2] at q; exact q.elim
      | some d2 =>
        rw [hf2, Option.bind_some] at q
        cases hh : h s with
        | none => rw [hh] at q; exact q.elim
        | some k =>
          rw [hh, Option.bind_some] at q
          cases hz : iInt k with
          | none => rw [hz] at q; exact q.elim
          | some z =>
            rw [hz, Option.bind_some] at q
            cases ho : s.own i with
            | none => rw [ho] at q; exact q.elim
            | some ds =>
              rw [ho, Option.bind_some] at q
              cases hj : ixN ds.length z with
              | none => rw [hj] at q; exact q.elim
              | some j =>
                rw [hj, Option.bind_some] at q
                cases hh2 : h2 (s.put i (.ow (ds.set j d))) with
                | none => rw [hh2] at q; exact q.elim
                | some k' =>
                  rw [hh2, Option.bind_some] at q
                  cases hz2 : iInt k' with
                  | none => rw [hz2] at q; exact q.elim
                  | some z2 =>
                    rw [hz2, Option.bind_some] at q
                    cases hj2 : ixN ds.length z2 with
                    | none => rw [hj2] at q; exact q.elim
                    | some j2 =>
                      rw [hj2, Option.map_some] at q
                      refine ⟨B, F, m, oa, s, .tup [d, d2], R, ?_, fun v F1 H1 R1 f1 dv => ?_⟩
                      · show (aCons f (aCons f2 aNil) s).bind _ = _
                        simp [aCons, aNil, hf, hf2, dTup]
                      · cases dv with
                        | @tup a vs xs w1 w2 =>
                          cases w2 with
                          | @cons v1 _ r1 _ dv1 w2 =>
                            cases w2 with
                            | @cons v2 _ r2 _ dv2 w2 =>
                              cases w2
                              obtain ⟨us, e1, e2, e3⟩ := own_cell R1 ho
                              refine ⟨_, _, rfl, same_seqT R1.fh w1, rfl, v1, _, rfl, _, e1, B, F1, m, oa, s, k, R1, hh, fun u F2 H2 R2 ff2 du => ?_⟩
                              obtain ⟨us2, e4, e5, e6⟩ := own_cell R2 ho
                              refine ⟨_, us2, z, j, rfl, iInt_dat du hz, e5, by rw [e6.length]; exact hj, ?_⟩
                              have R3 := R2.setOwn (own_get ho) (DatL.set (dv1.mono ff2 (Pre.refl _)) j e6)
                              have ho3 : (s.put i (.ow (ds.set j d))).own i = some (ds.set j d) := by
                                have hl := (List.getElem?_eq_some_iff.mp (own_get ho)).1
                                unfold S.own S.put
                                rw [List.getElem?_set_self hl]
                              obtain ⟨us3, e7, e8, e9⟩ := own_cell R3 ho3
                              refine ⟨v2, _, rfl, _, e7, B, F2, m, oa, _, k', R3, hh2, fun u2 F4 H4 R4 ff4 du2 => ?_⟩
                              obtain ⟨us4, e10, e11, e12⟩ := own_cell R4 ho3
                              refine ⟨_, us4, z2, j2, rfl, iInt_dat du2 hz2, e11, by rw [e12.length, List.length_set]; exact hj2, rfl, ?_⟩
                              exact q _ _ F4 m oa (R4.setOwn (own_get ho3) (DatL.set (dv2.mono (ff2.trans ff4) (Pre.refl _)) j2 e12)) (Gr.of _ _ ((f1.trans ff2).trans ff4))
  · obtain ⟨d, _, h2⟩ := Option.bind_eq_some_iff.mp e
    obtain ⟨k, _, h3⟩ := Option.bind_eq_some_iff.mp h2
    obtain ⟨z, _, h4⟩ := Option.bind_eq_some_iff.mp h3
    obtain ⟨ds, _, h5⟩ := Option.bind_eq_some_iff.mp h4
    obtain ⟨j, _, h6⟩ := Option.bind_eq_some_iff.mp h5
    obtain ⟨j, _, h6⟩ := Option.bind_eq_some_iff.mp h6
    obtain ⟨j, _, h6⟩ := Option.bind_eq_some_iff.mp h6
    obtain ⟨j, _, h6⟩ := Option.bind_eq_some_iff.mp h6
    obtain ⟨j, _, h6⟩ := Option.map_eq_some_iff.mp h6
    cases h6; rfl
/-! ### x, y, z = a, b, c with plain locals -/
def sPar3 (i j l : Nat) (f h f2 : S → Option D) : S → Option Out := fun s => (f s).bind fun d => (h s).bind fun d' => (f2 s).map fun d2 => .nx (((s.put i (.fr d)).put j (.fr d')).put l (.fr d2))
theorem swap3 {x y z : Str} {px py pz pt pt2 : Pos} {kt k2 : Nat} {a b c : Expr} {env : Env} (hb : env.blockKind = .function) (hx : env.kindOf x = some .local) (hy : env.kindOf y = some .local) (hz : env.kindOf z = some .local) (hl : (py.line == px.line) = true) (hl2 : (pz.line == px.line) = true) (hne : (x == y) = false) (hne2 : (x == z) = false) (hne3 : (y == z) = false)
    (h1 : ([a, b, c].any fun | .Starred .. => true | _ => false) = false) (h2 : [a, b, c].all (foldedForSure 8) = false) (h3 : [a, b, c].all (constantsAlone 8) = false) :
    swappedStores [.Tuple [.Name x px, .Name y py, .Name z pz] kt pt] (.Tuple [a, b, c] k2 pt2) env = pure (some [x, y, z]) := by
  have n1 : (y == x) = false := by rw [beq_eq_false_iff_ne] at hne ⊢; exact fun z => hne z.symm
  have n2 : (z == x) = false := by rw [beq_eq_false_iff_ne] at hne2 ⊢; exact fun z => hne2 z.symm
  have n3 : (z == y) = false := by rw [beq_eq_false_iff_ne] at hne3 ⊢; exact fun z => hne3 z.symm
  have hl' : py.line = px.line := by simpa using hl
  have hl2' : pz.line = px.line := by simpa using hl2
  unfold swappedStores
  simp only [List.any_cons, List.any_nil, Bool.or_false, Bool.or_eq_false_iff] at h1
  obtain ⟨g1, g2, g3⟩ := h1
  simp [g1, g2, g3, hb, hx, hy, hz, hl', hl2', h2, h3, Expr.pos, List.eraseDups, List.eraseDupsBy, List.eraseDupsBy.loop, hne, n1, hne2, n2, hne3, n3]
  rintro (hh | hh | hh)
  · exact absurd (hh.symm.trans g1) (by decide)
  · exact absurd (hh.symm.trans g2) (by decide)
  · exact absurd (hh.symm.trans g3) (by decide)
theorem s_par3 {a b c : Expr} (Dx : DX X N M Ms gs sc) (hsc : X.env.scope = sc) (i j l : Nat) {x y z : Str} {px py pz pt pt2 pos : Pos} {kt k2 : Nat} (ha : PV X C a f) (hb : PV X C b h) (hc : PV X C c f2) (hij : i ≠ j) (hil : i ≠ l) (hjl : j ≠ l)
    (hl : (sc.names.lookup x == some .local && sc.names.lookup y == some .local && sc.names.lookup z == some .local && py.line == px.line && pz.line == px.line && !(x == y) && !(x == z) && !(y == z)) = true)
    (h1 : ([a, b, c].any fun | .Starred .. => true | _ => false) = false := by rfl) (h2 : [a, b, c].all (foldedForSure 8) = false := by rfl) (h3 : [a, b, c].all (constantsAlone 8) = false := by rfl)
    (hx : Ms[i]? = some (some x) := by rfl) (hy : Ms[j]? = some (some y) := by rfl) (hz : Ms[l]? = some (some z) := by rfl)
    (hs0 : starEach [a, b, c] X.env = (false, eval a X.env) :: starEach [b, c] X.env := by rfl) (hs1 : starEach [b, c] X.env = (false, eval b X.env) :: starEach [c] X.env := by rfl) (hs2 : starEach [c] X.env = (false, eval c X.env) :: starEach [] X.env := by rfl)
    (hs : swapsWithSole [.Tuple [.Name x px, .Name y py, .Name z pz] kt pt] (.Tuple [a, b, c] k2 pt2) pos.line X.env = pure false := by rfl) :
    PSV X C W (.Assign [.Tuple [.Name x px, .Name y py, .Name z pz] kt pt] (.Tuple [a, b, c] k2 pt2) pos) (sPar3 i j l f h f2) := by
  simp only [Bool.and_eq_true, beq_iff_eq, Bool.not_eq_true'] at hl
  obtain ⟨⟨⟨⟨⟨⟨⟨l1, l2⟩, l3⟩, l4⟩, l5⟩, l6⟩, l7⟩, l8⟩ := hl
  have lx : X.env.scope.names.lookup x = some .local := by rw [hsc]; exact l1
  have ly : X.env.scope.names.lookup y = some .local := by rw [hsc]; exact l2
  have lz : X.env.scope.names.lookup z = some .local := by rw [hsc]; exact l3
  have hbk : X.env.blockKind = .function := by unfold Env.blockKind; rw [Dx.kind]; rfl
  have hw := swap3 (a := a) (b := b) (c := c) (pt := pt) (pt2 := pt2) (kt := kt) (k2 := k2) (env := X.env) hbk lx ly lz (by simpa using l4) (by simpa using l5) l6 l7 l8 h1 h2 h3
  refine ⟨PS.weak (ps_par3 Dx.calm Dx.nd (Dx.l i x hx).1 (Dx.l j y hy).1 (Dx.l l z hz).1 hij hil hjl lx ly lz (pa_cons ha (pa_cons hb (pa_cons hc pa_nil hs2) hs1) hs0) hw hs) ?_, fun s s' e => ?_⟩
  · rintro D σ H ⟨B, F, m, oa, s, R, q⟩
    unfold sPar3 at q
    cases hf : f s with
    | none => rw [hf] at q; exact q.elim
    | some d =>
      rw [hf, Option.bind_some] at q
      cases hh : h s with
      | none => rw [hh] at q; exact q.elim
      | some d' =>
        rw [hh, Option.bind_some] at q
        cases hf2 : f2 s with
        | none => rw [hf2] at q; exact q.elim
        | some d2 =>
          rw [hf2, Option.map_some] at q
          exact ⟨B, F, m, oa, s, d, R, hf, fun v F1 H1 R1 f1 dv => ⟨B, F1, m, oa, s, d', R1, hh, fun u F2 H2 R2 f2' du => ⟨B, F2, m, oa, s, d2, R2, hf2, fun w F3 H3 R3 f3 dw => ⟨v, u, w, rfl, q _ H3 F3 m oa (((R3.put i (dv.mono (f2'.trans f3) (Pre.refl _))).put j (du.mono f3 (Pre.refl _))).put l dw) (Gr.of _ _ ((f1.trans f2').trans f3))⟩⟩⟩⟩
  · obtain ⟨d, _, h2⟩ := Option.bind_eq_some_iff.mp e
    obtain ⟨d', _, h2⟩ := Option.bind_eq_some_iff.mp h2
    obtain ⟨s1, h3, h4⟩ := Option.map_eq_some_iff.mp h2
    cases h4
    rfl
end
end VS
namespace VS
open PySem L2
open PyProof.Rows hiding St
/-! ### lists of one's own lent to an expression whose value can't be them: by the kind of their first items -/
def kd : D → Nat
  | .non => 0
  | .bl _ => 1
  | .int _ => 2
  | .str _ => 3
  | _ => 4
def kv : V → Nat
  | .non => 0
  | .bl _ => 1
  | .int _ => 2
  | .str _ => 3
  | .ref _ => 4
  | _ => 5
/-- the kinds of the items, in order -/
def hdD (ds : List D) : List Nat := ds.map kd
def hdV (vs : List V) : List Nat := vs.map kv
mutual
def sepD (k : List Nat) : D → Bool
  | .tup xs => sepL k xs
  | .lst xs => (hdD xs != k) && sepL k xs
  | .rob _ _ xs => sepL k xs
  | _ => true
def sepL (k : List Nat) : List D → Bool
  | [] => true
  | x :: xs => sepD k x && sepL k xs
end
theorem kd_dat {G : Gx} {m : List Addr} {F : Hp} {v : V} {d : D} (e : Dat G m F v d) : kv v = kd d := by
  cases e <;> rfl
theorem hd_dat {G : Gx} {m : List Addr} {F : Hp} : ∀ {vs : List V} {ds : List D}, DatL G m F vs ds → hdV vs = hdD ds
  | _, _, .nil => rfl
  | _, _, .cons (v := v) (vs := vs) (d := d) (ds := ds) h t => by
    have := hd_dat t
    unfold hdV hdD at this ⊢
    rw [List.map_cons, List.map_cons, kd_dat h, this]
open Classical in
noncomputable def drop (F : Hp) (P : Addr → Prop) : Hp := fun b => if P b then none else F b
theorem drop_out {F : Hp} {P : Addr → Prop} {b : Addr} (h : ¬ P b) : drop F P b = F b := if_neg h
theorem drop_in {F : Hp} {P : Addr → Prop} {b : Addr} (h : P b) : drop F P b = none := if_pos h
theorem drop_some {F : Hp} {P : Addr → Prop} {b : Addr} {o : HO} (h : drop F P b = some o) : F b = some o ∧ ¬ P b := by
  by_cases p : P b
  · rw [drop_in p] at h; cases h
  · rw [drop_out p] at h; exact ⟨h, p⟩
section
variable {G : Gx} {m : List Addr} {F : Hp} {P : Addr → Prop} {ks : List (List Nat)}
theorem drop_keep (hP : ∀ p, P p → ∃ vs, F p = some (.lst vs) ∧ hdV vs ∈ ks) {a : Addr} {o : HO} (h : F a = some o) (hn : ∀ vs, o ≠ .lst vs) : drop F P a = some o := by
  rw [drop_out (fun p => by
    obtain ⟨vs, e, _⟩ := hP a p
    rw [h] at e
    exact hn vs (Option.some.inj e))]
  exact h
mutual
theorem dat_drop (hP : ∀ p, P p → ∃ vs, F p = some (.lst vs) ∧ hdV vs ∈ ks) : ∀ {v : V} {d : D}, Dat G m F v d → (∀ k ∈ ks, sepD k d = true) → Dat G m (drop F P) v d
  | _, _, .non, _ => .non
  | _, _, .bl b, _ => .bl b
  | _, _, .int i, _ => .int i
  | _, _, .str x, _ => .str x
  | _, _, .tup (a := a) h t, s => by
    refine .tup ?_ (datL_drop hP t fun k hk => by have := s k hk; simpa only [sepD] using this)
    rcases h with (h | ⟨o, h⟩) | h
    · exact .inl (.inl (drop_keep hP h (fun vs e => by cases e)))
    · exact .inl (.inr ⟨o, drop_keep hP h (fun vs e => by cases e)⟩)
    · exact .inr h
  | _, _, .lst (a := a) (vs := vs) (ds := ds) h t, s => by
    have s1 : ∀ k ∈ ks, hdD ds ≠ k := fun k hk => by
      have := s k hk
      simp only [sepD, Bool.and_eq_true, bne_iff_ne] at this
      exact this.1
    refine .lst ?_ (datL_drop hP t fun k hk => by
      have := s k hk
      simp only [sepD, Bool.and_eq_true] at this
      exact this.2)
    rcases h with (h | ⟨o, h⟩) | h
    · by_cases p : P a
      · obtain ⟨us, e, hk⟩ := hP a p
        rw [h] at e
        cases e
        rw [hd_dat t] at hk
        exact absurd rfl (s1 _ hk)
      · exact .inl (.inl (by rw [drop_out p]; exact h))
    · exact .inl (.inr ⟨o, drop_keep hP h (fun vs e => by cases e)⟩)
    · exact .inr h
  | _, _, .obj h, _ => .obj h
  | _, _, .exc h, _ => .exc (by
    obtain ⟨C, d, h1, h2, h3⟩ := h
    refine ⟨C, d, h1, drop_keep hP h2 (fun vs e => by cases e), ?_⟩
    revert h3
    split
    · exact id
    · rintro ⟨dx, f, h4, h5⟩
      exact ⟨dx, f, h4, drop_keep hP h5 (fun vs e => by cases e)⟩)
  | _, _, .rob h1 h2 h3 t, s => .rob h1 (drop_keep hP h2 (fun vs e => by cases e)) h3 (datL_drop hP t fun k hk => by have := s k hk; simpa only [sepD] using this)
theorem datL_drop (hP : ∀ p, P p → ∃ vs, F p = some (.lst vs) ∧ hdV vs ∈ ks) : ∀ {vs : List V} {ds : List D}, DatL G m F vs ds → (∀ k ∈ ks, sepL k ds = true) → DatL G m (drop F P) vs ds
  | _, _, .nil, _ => .nil
  | _, _, .cons h t, s => .cons (dat_drop hP h fun k hk => by
      have := s k hk
      simp only [sepL, Bool.and_eq_true] at this
      exact this.1) (datL_drop hP t fun k hk => by
      have := s k hk
      simp only [sepL, Bool.and_eq_true] at this
      exact this.2)
end
end
/-- the kinds of the lists of one's own -/
def ownKs : List Sl → List (List Nat)
  | [] => []
  | .ow ds :: r => hdD ds :: ownKs r
  | _ :: r => ownKs r
theorem ownKs_mem : ∀ {r : List Sl} {i : Nat} {ds : List D}, r[i]? = some (.ow ds) → hdD ds ∈ ownKs r
  | [], i, ds, h => by simp at h
  | x :: r, 0, ds, h => by
    simp at h
    subst h
    exact List.mem_cons_self
  | x :: r, i + 1, ds, h => by
    have := ownKs_mem (r := r) (i := i) (ds := ds) (by simpa using h)
    cases x with
    | ow es => exact List.mem_cons_of_mem _ this
    | _ => exact this
def sepA (s : S) (d : D) : Bool := (ownKs s.r).all fun k => sepD k d
def dLen (is : List Nat) (f : S → Option D) : S → Option D := fun s => if plainS (s.frzs is) = true then (f (s.frzs is)).bind fun d => if sepA s d = true then some d else none else none
section
variable {X : Cx} {C : Str → Option Addr} {e : Expr} {f : S → Option D} {t : S → Option Bool}
theorem b_lend (is : List Nat) (he : PV X C e f) : PV X C e (dLen is f) := by
  refine PE.weak he ?_
  rintro σ H Q ⟨B, F, m, oa, s, d, R, hf, q⟩
  unfold dLen at hf
  split at hf
  · rename_i hp
    obtain ⟨d', h3, h4⟩ := Option.bind_eq_some_iff.mp hf
    split at h4
    · rename_i hs
      cases h4
      obtain ⟨F1, R1, f1, st, k⟩ := R.frzs is
      have st0 : s.st = [] := by
        rw [← st]
        unfold plainS at hp
        rw [Bool.and_eq_true, List.isEmpty_iff] at hp
        exact hp.1
      refine ⟨B, F1, m, oa, _, _, R1, h3, fun v F2 H2 R2 f2 dv => ?_⟩
      obtain ⟨P, hP⟩ : ∃ P : Addr → Prop, ∀ b, P b ↔ ∃ x ds, ownAt s x = some ds ∧ oa x = b := ⟨_, fun _ => Iff.rfl⟩
      have F2own : ∀ x ds, ownAt s x = some ds → ∃ ws, F2 (oa x) = some (.lst ws) ∧ H (oa x) = some (.lst ws) ∧ DatL (gx X C) m F ws ds := fun x ds e => by
        obtain ⟨c1, c2, ws, c3, c4⟩ := R.cell x ds e
        have n := k x ds e (plain_none hp x)
        cases z : F1 (oa x) with
        | none => exact absurd z n
        | some o =>
          have e1 := R1.fh _ _ z
          rw [c3] at e1; cases e1
          exact ⟨ws, f2 _ _ z, c3, c4⟩
      have own1 : ∀ x ds, ownAt s x = some ds → ∃ i : Nat, s.r[i]? = some (Sl.ow ds) := fun x ds e => by
        cases x with
        | inl i =>
          have e : slO s.r[i]? = some ds := e
          refine ⟨i, ?_⟩
          cases z : s.r[i]? with
          | none => rw [z] at e; cases e
          | some sl =>
            rw [z] at e
            cases sl with
            | ow es => cases e; rfl
            | _ => cases e
        | inr y =>
          obtain ⟨n, g⟩ := y
          have e : (match s.st[n]? with | some ob => slO (ob.fs.lookup g) | none => none) = some ds := e
          rw [st0] at e
          cases e
      have hP2 : ∀ p, P p → ∃ vs, F2 p = some (.lst vs) ∧ hdV vs ∈ ownKs s.r := fun p hp' => by
        obtain ⟨x, ds, e, rfl⟩ := (hP p).mp hp'
        obtain ⟨ws, w1, _, w3⟩ := F2own x ds e
        obtain ⟨i, hi⟩ := own1 x ds e
        exact ⟨ws, w1, by rw [hd_dat w3]; exact ownKs_mem hi⟩
      have hs' : ∀ k ∈ ownKs s.r, sepD k d = true := by
        unfold sepA at hs
        rwa [List.all_eq_true] at hs
      have FF : Same F (drop F2 P) := fun b o e => by
        have nP : ¬ P b := fun p => by
          obtain ⟨x, ds, e1, e2⟩ := (hP b).mp p
          obtain ⟨c1, _⟩ := R.cell x ds e1
          rw [e2, e] at c1
          cases c1
        rw [drop_out nP]
        exact f2 _ _ (f1 _ _ e)
      refine q v (drop F2 P) H2 ?_ FF (dat_drop hP2 dv hs')
      exact
      { fh := fun b o e => R2.fh _ _ (drop_some e).1
        bh := R2.bh
        fb := fun b e => R2.fb b (by
          intro z
          by_cases p : P b
          · exact e (drop_in p)
          · rw [drop_out p] at e; exact e z)
        len := R.len
        slot := fun i sl e => (R.slot i sl e).mono FF (Pre.refl m)
        cell := fun x ds e => by
          obtain ⟨c1, c2, ws, c3, c4⟩ := R.cell x ds e
          obtain ⟨ws', w1, w2, w3⟩ := F2own x ds e
          exact ⟨drop_in ((hP _).mpr ⟨x, ds, e, rfl⟩), c2, ws', R2.fh _ _ w1, w3.mono FF (Pre.refl m)⟩
        inj := R.inj
        obj := fun n ob e => by rw [st0] at e; simp at e
        ml := R.ml
        mnd := R.mnd }
    · cases h4
  · cases hf
/-! ### .. lent to a test -/
def tBor (is : List Nat) (t : S → Option Bool) : S → Option Bool := fun s => if plainS (s.frzs is) = true then t (s.frzs is) else none
theorem q_bor (is : List Nat) (he : PTV X C e t) : PTV X C e (tBor is t) := by
  refine PT.weak he ?_
  rintro σ H Q ⟨B, F, m, oa, s, d, R, hf, q⟩
  unfold tBor at hf
  split at hf
  · rename_i hp
    obtain ⟨F1, R1, f1, st, k⟩ := R.frzs is
    have st0 : s.st = [] := by
      rw [← st]
      unfold plainS at hp
      rw [Bool.and_eq_true, List.isEmpty_iff] at hp
      exact hp.1
    refine ⟨B, F1, m, oa, _, _, R1, hf, fun F2 H2 R2 f2 => ?_⟩
    refine q F H2 ?_ (Same.refl _)
    have fh : Same F H2 := fun b o e => R2.fh b o (f2 b o (f1 b o e))
    exact
    { fh := fh
      bh := R2.bh
      fb := R.fb
      len := R.len
      slot := R.slot
      cell := fun x ds e => by
        obtain ⟨c1, c2, ws, c3, c4⟩ := R.cell x ds e
        refine ⟨c1, c2, ws, ?_, c4⟩
        have n := k x ds e (plain_none hp x)
        cases z : F1 (oa x) with
        | none => exact absurd z n
        | some o =>
          have e1 := R1.fh _ _ z
          rw [c3] at e1; cases e1
          exact R2.fh _ _ (f2 _ _ z)
      inj := R.inj
      obj := fun n ob e => by rw [st0] at e; simp at e
      ml := R.ml
      mnd := R.mnd }
  · cases hf
end
end VS
namespace VS
open PySem L2
/-! ### the plain side: how the mirrors are reckoned -/
section
variable {r : List Sl} {x : Sl} {st : List Ob} {al : Bool} {d d' : D} {ds es : List D} {i n : Nat} {a b : Int} {s : S}
variable {f h : S → Option D} {fs : S → Option (List D)} {qf qh : S → Option (Bool × List D)} {t u : S → Option Bool} {g k : S → Option Out}
@[simp] theorem ev_get0 : S.get ⟨.fr d :: r, st, al⟩ 0 = some d := rfl
@[simp] theorem ev_getS : S.get ⟨x :: r, st, al⟩ (n + 1) = S.get ⟨r, st, al⟩ n := by unfold S.get; simp
@[simp] theorem ev_seqO : S.seq ⟨.ow ds :: r, st, al⟩ 0 = some (true, ds) := rfl
@[simp] theorem ev_seqF : S.seq ⟨.fr d :: r, st, al⟩ 0 = dSeq d := rfl
@[simp] theorem ev_seqS : S.seq ⟨x :: r, st, al⟩ (n + 1) = S.seq ⟨r, st, al⟩ n := by unfold S.seq; simp
@[simp] theorem ev_own0 : S.own ⟨.ow ds :: r, st, al⟩ 0 = some ds := rfl
@[simp] theorem ev_ownS : S.own ⟨x :: r, st, al⟩ (n + 1) = S.own ⟨r, st, al⟩ n := by unfold S.own; simp
@[simp] theorem ev_put : S.put ⟨r, st, al⟩ i x = ⟨r.set i x, st, al⟩ := rfl
@[simp] theorem ev_frz0 : S.frz ⟨.ow ds :: r, st, al⟩ 0 = some ⟨.fr (.lst ds) :: r, st, al⟩ := rfl
@[simp] theorem ev_frzS : S.frz ⟨x :: r, st, al⟩ (n + 1) = (S.frz ⟨r, st, al⟩ n).map fun s => ⟨x :: s.r, s.st, s.al⟩ := by
  unfold S.frz
  simp only [List.getElem?_cons_succ]
  split <;> simp_all
@[simp] theorem ev_dSeqL : dSeq (.lst ds) = some (true, ds) := rfl
@[simp] theorem ev_dSeqT : dSeq (.tup ds) = some (false, ds) := rfl
@[simp] theorem ev_seq : sSeq g k s = (match g s with | some (.nx s') => k s' | o => o) := rfl
@[simp] theorem ev_nil : sNil s = some (.nx s) := rfl
@[simp] theorem ev_set : sSet i f s = (f s).map fun d => .nx (s.put i (.fr d)) := rfl
@[simp] theorem ev_setO : sSetO i fs s = (fs s).map fun ds => .nx (s.put i (.ow ds)) := rfl
@[simp] theorem ev_ret : sRet f s = (f s).map fun d => .rt d s := rfl
@[simp] theorem ev_retO : sRetO fs s = (fs s).map fun d => .ro d s := rfl
@[simp] theorem ev_retN : sRetN s = some (.rt .non s) := rfl
@[simp] theorem ev_expr : sExpr f s = (f s).map fun _ => .nx s := rfl
@[simp] theorem ev_asg {gg : D → S → Option S} : sAsg f gg s = (f s).bind fun d => (gg d s).map .nx := rfl
@[simp] theorem ev_par {j : Nat} : sPar i j f h s = (f s).bind fun d => (h s).map fun d' => .nx ((s.put i (.fr d)).put j (.fr d')) := rfl
@[simp] theorem ev_if : sIf t g k s = (t s).bind fun c => if c = true then g s else k s := rfl
@[simp] theorem ev_frz : sFrz i g s = (s.frz i).bind g := rfl
theorem ev_app : sApp i f s = (f s).bind fun d => (s.own i).bind fun ds => if ds.length < 1000000 then some (.nx (s.put i (.ow (ds ++ [d])))) else none := rfl
theorem app_of (hf : f s = some d) (ho : s.own i = some ds) (hl : ds.length < 1000000) : sApp i f s = some (.nx (s.put i (.ow (ds ++ [d])))) := by
  unfold sApp; simp [hf, ho, hl]
@[simp] theorem ev_for {it : S → Option (List D)} {gg : D → S → Option S} : sFor it gg g s = (it s).bind fun ds => forGo (forK gg g) ds s := rfl
@[simp] theorem ev_forK {gg : D → S → Option S} : forK gg g d s = (gg d s).bind g := rfl
@[simp] theorem ev_c : dC d s = some d := rfl
@[simp] theorem ev_d2 {o : D → D → Option D} : d2 o f h s = (f s).bind fun x => (h s).bind fun y => o x y := rfl
@[simp] theorem ev_d1 {o : D → Option D} : d1 o f s = (f s).bind o := rfl
@[simp] theorem ev_aNil : aNil s = some [] := rfl
@[simp] theorem ev_aCons : aCons f fs s = (f s).bind fun x => (fs s).map fun xs => x :: xs := rfl
@[simp] theorem ev_dCall {o : List D → Option D} : dCall o fs s = (fs s).bind o := rfl
@[simp] theorem ev_dCallS {o : Bool → List D → Option D} : dCallS o qf s = (qf s).bind fun q => o q.1 q.2 := rfl
@[simp] theorem ev_dTup : dTup fs s = (fs s).bind fun ds => if ds.length ≤ 1000 then some (.tup ds) else none := rfl
@[simp] theorem ev_dLst : dLst fs s = (fs s).bind fun ds => if ds.length ≤ 1000 then some ds else none := rfl
@[simp] theorem ev_vN : vN fs s = (fs s).map .lst := rfl
@[simp] theorem ev_sN : sN fs s = (fs s).map fun ds => (true, ds) := rfl
@[simp] theorem ev_sV : sV f s = (f s).bind dSeq := rfl
@[simp] theorem ev_dIx : dIx qf f s = (qf s).bind fun q => (f s).bind fun d => (iInt d).bind fun i => atI q.2 i := rfl
@[simp] theorem ev_iInt : iInt (.int a) = some a := rfl
@[simp] theorem ev_dCut {fl fh : S → Option (Option Int)} {o : Bool → List D → Option Int → Option Int → Option D} : dCut qf fl fh o s = (qf s).bind fun q => (fl s).bind fun l => (fh s).bind fun u => o q.1 q.2 l u := rfl
@[simp] theorem ev_gCutL {l u : Option Int} : gCut true ds l u = some (.lst (cutD ds l u)) := rfl
@[simp] theorem ev_gCutT {l u : Option Int} : gCut false ds l u = some (.tup (cutD ds l u)) := rfl
@[simp] theorem ev_nCut {fl fh : S → Option (Option Int)} : nCut qf fl fh s = (qf s).bind fun q => (fl s).bind fun l => (fh s).bind fun u => if q.1 = true then some (cutD q.2 l u) else none := rfl
@[simp] theorem ev_oNone : oNone s = some none := rfl
@[simp] theorem ev_oSome : oSome f s = (f s).bind fun d => (iInt d).map some := rfl
@[simp] theorem ev_nCat : nCat qf qh s = (qf s).bind fun x => (qh s).bind fun y => if x.1 = true ∧ y.1 = true ∧ x.2.length + y.2.length ≤ 16777216 then some (x.2 ++ y.2) else none := rfl
@[simp] theorem ev_nList : nList qf s = (qf s).map fun q => q.2 := rfl
@[simp] theorem ev_iSeq : iSeq f s = (f s).bind fun d => (dSeq d).map fun q => q.2 := rfl
@[simp] theorem ev_iEnum : iEnum f s = (f s).bind fun d => (dSeq d).map fun q => enumD q.2 := rfl
@[simp] theorem ev_iZip : iZip f h s = (f s).bind fun d => (h s).bind fun d' => (dSeq d).bind fun q => (dSeq d').map fun q' => zipD q.2 q'.2 := rfl
@[simp] theorem ev_iRng1 : iRng1 f s = (f s).bind fun d => (iInt d).bind fun j => if inB j = true then some (rngD 0 j) else none := rfl
@[simp] theorem ev_iRng2 : iRng2 f h s = (f s).bind fun d => (h s).bind fun d' => (iInt d).bind fun i => (iInt d').bind fun j => if inB i = true ∧ inB j = true then some (rngD i j) else none := rfl
theorem in_B (h1 : -4611686018427387904 < a) (h2 : a < 4611686018427387904) : inB a = true := by unfold inB; simp; omega
@[simp] theorem ev_gName : gName' i d s = some (s.put i (.fr d)) := rfl
@[simp] theorem ev_gsNil : gsNil [] s = some s := rfl
@[simp] theorem ev_gsCons {gg : D → S → Option S} {gs : List D → S → Option S} : gsCons gg gs (d :: ds) s = (gg d s).bind (gs ds) := rfl
@[simp] theorem ev_gTupN {gs : List D → S → Option S} : gTupN n gs d s = (dSeq d).bind fun q => if q.2.length = n then gs q.2 s else none := rfl
@[simp] theorem ev_tB1 : tB1 f s = (f s).bind dB := rfl
@[simp] theorem ev_dB {c : Bool} : dB (.bl c) = some c := rfl
@[simp] theorem ev_bAnd : bAnd t u s = (t s).bind fun c => if c = true then u s else some false := rfl
@[simp] theorem ev_bOr : bOr t u s = (t s).bind fun c => if c = true then some true else u s := rfl
@[simp] theorem ev_bNot : bNot t s = (t s).map fun c => !c := rfl
@[simp] theorem ev_bYes : bYes s = some true := rfl
@[simp] theorem ev_vAnd : vAnd f h s = (f s).bind fun x => (dB x).bind fun c => if c = true then h s else some (.bl false) := rfl
@[simp] theorem ev_vOr : vOr f h s = (f s).bind fun x => (dB x).bind fun c => if c = true then some (.bl true) else h s := rfl
@[simp] theorem ev_dNot {c : Bool} : dNot (.bl c) = some (.bl (!c)) := rfl
/- numbers -/
@[simp] theorem ev_add : dAdd (.int a) (.int b) = some (.int (a + b)) := rfl
@[simp] theorem ev_sub : dSub (.int a) (.int b) = some (.int (a - b)) := rfl
@[simp] theorem ev_neg : dNeg (.int a) = some (.int (-a)) := rfl
@[simp] theorem ev_lt : dLt (.int a) (.int b) = some (.bl (decide (a < b))) := rfl
@[simp] theorem ev_le : dLe (.int a) (.int b) = some (.bl (decide (a ≤ b))) := rfl
@[simp] theorem ev_gt : dGt (.int a) (.int b) = some (.bl (decide (b < a))) := rfl
@[simp] theorem ev_ge : dGe (.int a) (.int b) = some (.bl (decide (b ≤ a))) := rfl
theorem sh_int : SeqAt.shaped (.int a) = true := by
  unfold SeqAt.shaped
  simp [PyData.canLay0, PyData.depth, PyData.canLay]
theorem sh_bool {c : Bool} : SeqAt.shaped (.bool c) = true := by
  unfold SeqAt.shaped
  simp [PyData.canLay0, PyData.depth, PyData.canLay]
@[simp] theorem ev_eqI : dEq (.int a) (.int b) = some (.bl (decide (a = b))) := by
  unfold dEq eqB
  simp [toPy, sh_int, PyData.eqv]
  rfl
@[simp] theorem ev_neI : dNe (.int a) (.int b) = some (.bl (!decide (a = b))) := by
  unfold dNe eqB
  simp [toPy, sh_int, PyData.eqv]
  rfl
@[simp] theorem ev_eqB {c e : Bool} : dEq (.bl c) (.bl e) = some (.bl (c == e)) := by
  unfold dEq eqB
  simp [toPy, sh_bool, PyData.eqv]
@[simp] theorem ev_neB {c e : Bool} : dNe (.bl c) (.bl e) = some (.bl (!(c == e))) := by
  unfold dNe eqB
  simp [toPy, sh_bool, PyData.eqv]
@[simp] theorem ev_isN : dIsN .non = some (.bl true) := rfl
@[simp] theorem ev_isNI : dIsN (.int a) = some (.bl false) := rfl
@[simp] theorem ev_gInt : gInt [.int a] = some (.int a) := rfl
@[simp] theorem ev_gIntB {c : Bool} : gInt [.bl c] = some (.int (if c = true then 1 else 0)) := rfl
@[simp] theorem ev_gAbs : gAbs [.int a] = some (.int (a.natAbs : Int)) := by
  show some (D.int (if a < 0 then -a else a)) = _
  have e : (if a < 0 then -a else a) = (a.natAbs : Int) := by split <;> omega
  rw [e]
@[simp] theorem ev_gMax2 : gMax2 [.int a, .int b] = some (.int (max a b)) := by
  unfold gMax2 pairI
  simp only [Option.map_some]
  congr 2
  split <;> omega
@[simp] theorem ev_gMin2 : gMin2 [.int a, .int b] = some (.int (min a b)) := by
  unfold gMin2 pairI
  simp only [Option.map_some]
  congr 2
  split <;> omega
@[simp] theorem ev_gLen {q : Bool} : gLen q ds = some (.int ds.length) := rfl
@[simp] theorem ev_gTuple {q : Bool} : gTuple q ds = some (.tup ds) := rfl
@[simp] theorem ev_isiTup : dIsi .tup (.tup ds) = some (.bl true) := rfl
@[simp] theorem ev_isiLst : dIsi .lst (.lst ds) = some (.bl true) := rfl
@[simp] theorem ev_isiInt : dIsi .int (.int a) = some (.bl true) := rfl
@[simp] theorem ev_isiBI : dIsi .bl (.int a) = some (.bl false) := rfl
@[simp] theorem ev_isiIB {c : Bool} : dIsi .int (.bl c) = some (.bl true) := rfl
@[simp] theorem ev_isiBB {c : Bool} : dIsi .bl (.bl c) = some (.bl true) := rfl
theorem log2_lt {m : Nat} {e : Nat} (he : e ≠ 0) (h : m < 2 ^ e) : m.log2 < e := by
  by_cases h0 : m = 0
  · subst h0; simp; omega
  · exact (Nat.log2_lt h0).mpr h
theorem mulOk_L (h1 : -18446744073709551616 < a) (h2 : a < 18446744073709551616) : mulOk a b = true := by
  unfold mulOk; simp; left; left; omega
theorem mulOk_R (h1 : -18446744073709551616 < b) (h2 : b < 18446744073709551616) : mulOk a b = true := by
  unfold mulOk; simp; left; right; omega
theorem mulOk_B (h1 : a.natAbs < 2 ^ 499999) (h2 : b.natAbs < 2 ^ 499999) : mulOk a b = true := by
  unfold mulOk
  have e1 := log2_lt (by decide) h1
  have e2 := log2_lt (by decide) h2
  simp; right; omega
theorem mul_of (h : mulOk a b = true) : dMulI (.int a) (.int b) = some (.int (a * b)) := by
  unfold dMulI iB; simp [h]
theorem ev_mulL (h1 : -18446744073709551616 < a) (h2 : a < 18446744073709551616) : dMulI (.int a) (.int b) = some (.int (a * b)) := mul_of (mulOk_L h1 h2)
theorem ev_mulR (h1 : -18446744073709551616 < b) (h2 : b < 18446744073709551616) : dMulI (.int a) (.int b) = some (.int (a * b)) := mul_of (mulOk_R h1 h2)
theorem ev_mod (h1 : 0 < b) : dMod (.int a) (.int b) = some (.int (a % b)) := by
  unfold dMod iB
  simp [Int.fmod_eq_emod_of_nonneg _ (Int.le_of_lt h1)]
  omega
set_option exponentiation.threshold 10000 in
theorem divOk_of (h1 : 0 < b) (h2 : b.natAbs < 2 ^ 8999) : divOk b = true := by
  unfold divOk
  have := log2_lt (by decide) h2
  simp; omega
theorem div_of (h1 : 0 < b) (h2 : b.natAbs < 2 ^ 8999) : dDiv (.int a) (.int b) = some (.int (a / b)) := by
  unfold dDiv iB
  simp [divOk_of h1 h2, Int.fdiv_eq_ediv_of_nonneg _ (Int.le_of_lt h1)]
theorem ev_div (h1 : 0 < b) (h2 : b < 2 ^ 256) : dDiv (.int a) (.int b) = some (.int (a / b)) := by
  refine div_of h1 ?_
  have : b.natAbs < 2 ^ 256 := by omega
  exact Nat.lt_of_lt_of_le this (Nat.pow_le_pow_right (by decide) (by decide))
theorem ev_pow {e : Nat} (h2 : e ≤ 1000) (h3 : a.natAbs < 18446744073709551616) : dPow (.int a) (.int (e : Int)) = some (.int (a ^ e)) := by
  unfold dPow iB powOk
  simp
  omega
@[simp] theorem ev_pow10_18 : dPow (.int 10) (.int 18) = some (.int 1000000000000000000) := by first | rfl | (unfold dPow iB powOk; simp)
@[simp] theorem ev_pow10_6 : dPow (.int 10) (.int 6) = some (.int 1000000) := by first | rfl | (unfold dPow iB powOk; simp)
@[simp] theorem ev_pow10_30 : dPow (.int 10) (.int 30) = some (.int 1000000000000000000000000000000) := by first | rfl | (unfold dPow iB powOk; simp)
@[simp] theorem ev_pow10_29 : dPow (.int 10) (.int 29) = some (.int 100000000000000000000000000000) := by first | rfl | (unfold dPow iB powOk; simp)
@[simp] theorem ev_pow10_60 : dPow (.int 10) (.int 60) = some (.int 1000000000000000000000000000000000000000000000000000000000000) := by first | rfl | (unfold dPow iB powOk; simp)
@[simp] theorem ev_pow10_59 : dPow (.int 10) (.int 59) = some (.int 100000000000000000000000000000000000000000000000000000000000) := by first | rfl | (unfold dPow iB powOk; simp)
@[simp] theorem ev_pow10_20 : dPow (.int 10) (.int 20) = some (.int 100000000000000000000) := by first | rfl | (unfold dPow iB powOk; simp)
@[simp] theorem ev_pow10_9 : dPow (.int 10) (.int 9) = some (.int 1000000000) := by first | rfl | (unfold dPow iB powOk; simp)
@[simp] theorem ev_vOf {mf : List D → Option Rs} : vOf mf ds = (match mf ds with | some (.val d) => some d | some (.own es) => some (.lst es) | _ => none) := rfl
@[simp] theorem ev_nOf {mf : List D → Option Rs} : nOf mf ds = (match mf ds with | some (.own es) => some es | _ => none) := rfl
@[simp] theorem ev_nCall {mf : List D → Option Rs} : nCall mf fs s = (fs s).bind (nOf mf) := rfl
@[simp] theorem ev_retOwn : sRetOwn i s = (s.own i).map fun ds => .ro ds (s.put i .un) := rfl
@[simp] theorem ev_clr : sClr i s = (s.own i).map fun _ => .nx (s.put i (.ow [])) := rfl
@[simp] theorem ev_bor {is : List Nat} : dBor is f s = if plainS (s.frzs is) = true then (f (s.frzs is)).bind fun d => if scal d = true then some d else none else none := rfl
@[simp] theorem ev_frzs0 : s.frzs [] = s := rfl
@[simp] theorem ev_frzsC {is : List Nat} : s.frzs (i :: is) = (s.frzO i).frzs is := rfl
@[simp] theorem ev_frzOo : S.frzO ⟨.ow ds :: r, st, al⟩ 0 = ⟨.fr (.lst ds) :: r, st, al⟩ := rfl
@[simp] theorem ev_frzOf : S.frzO ⟨.fr d :: r, st, al⟩ 0 = ⟨.fr d :: r, st, al⟩ := rfl
@[simp] theorem ev_frzOu : S.frzO ⟨.un :: r, st, al⟩ 0 = ⟨.un :: r, st, al⟩ := rfl
@[simp] theorem ev_frzOS : S.frzO ⟨x :: r, st, al⟩ (n + 1) = ⟨x :: (S.frzO ⟨r, st, al⟩ n).r, (S.frzO ⟨r, st, al⟩ n).st, (S.frzO ⟨r, st, al⟩ n).al⟩ := by
  unfold S.frzO
  rw [ev_frzS]
  cases S.frz ⟨r, st, al⟩ n <;> rfl
@[simp] theorem ev_plain0 : plainS ⟨[], [], al⟩ = true := rfl
@[simp] theorem ev_plainF : plainS ⟨.fr d :: r, [], al⟩ = plainS ⟨r, [], al⟩ := rfl
@[simp] theorem ev_plainU : plainS ⟨.un :: r, [], al⟩ = plainS ⟨r, [], al⟩ := rfl
@[simp] theorem ev_scalB {c : Bool} : scal (.bl c) = true := rfl
@[simp] theorem ev_scalI : scal (.int a) = true := rfl
@[simp] theorem ev_divmod (h : 0 < b ∧ b < 2 ^ 256) : gDivmod [.int a, .int b] = some (.tup [.int (a / b), .int (a % b)]) := by
  unfold gDivmod pairI
  have : divOk b = true := by
    unfold divOk
    have := log2_lt (m := b.natAbs) (e := 256) (by decide) (by omega)
    simp; omega
  simp [this, h.1]
@[simp] theorem ev_outRt : outR (some (.rt d s)) = some (.val d) := rfl
@[simp] theorem ev_outRo : outR (some (.ro ds s)) = some (.own ds) := rfl
@[simp] theorem ev_outNx : outR (some (.nx s)) = some (.val .non) := rfl
@[simp] theorem ev_at0 {α : Type} {x : α} {xs : List α} : atI (x :: xs) 0 = some x := by
  unfold atI ixN; simp
@[simp] theorem ev_at1 {α : Type} {x y : α} {xs : List α} : atI (x :: y :: xs) 1 = some y := by
  unfold atI ixN
  rw [if_pos (by omega), if_pos (by simp; omega)]
  rfl
theorem at_nat {α : Type} {xs : List α} {j : Nat} (h : j < xs.length) : atI xs (j : Int) = some xs[j] := by
  unfold atI ixN; simp [h]
theorem at_of {α : Type} {xs : List α} {i : Int} (h0 : 0 ≤ i) (h : i < xs.length) : atI xs i = some (xs[i.toNat]'(by omega)) := by
  obtain ⟨j, rfl⟩ := Int.eq_ofNat_of_zero_le h0
  exact at_nat (by omega)
end
section
variable {r : List Sl} {st : List Ob} {al : Bool} {d : D} {ds : List D} {i : Nat} {a b : Int} {s : S} {f : S → Option D} {t : S → Option Bool} {x : Option D}
/-- a slot that is not a list of one's own -/
def op : Option D → Sl
  | none => .un
  | some d => .fr d
theorem op_none : op none = .un := rfl
theorem op_some : op (some d) = .fr d := rfl
def okAt : List Sl → Nat → Bool
  | [], _ => true
  | .ow _ :: _, 0 => false
  | .un :: _, 0 => true
  | .fr _ :: _, 0 => true
  | _ :: r, n + 1 => okAt r n
@[simp] theorem okAt_op : okAt (op x :: r) 0 = true := by cases x <;> rfl
@[simp] theorem okAt_un : okAt (.un :: r) 0 = true := rfl
@[simp] theorem okAt_fr : okAt (.fr d :: r) 0 = true := rfl
@[simp] theorem okAt_S {y : Sl} : okAt (y :: r) (i + 1) = okAt r i := by cases y <;> rfl
theorem okAt_is : ∀ (r : List Sl) (i : Nat), (match r[i]? with | some (.ow _) => false | _ => true) = okAt r i
  | [], i => by simp [okAt]
  | y :: r, 0 => by cases y <;> simp [okAt]
  | y :: r, i + 1 => by
    have ih := okAt_is r i
    rw [okAt_S, ← ih]
    simp
@[simp] theorem ev_noOwn0 : noOwn s [] = true := rfl
@[simp] theorem ev_noOwnC {vs : List Nat} : noOwn ⟨r, st, al⟩ (i :: vs) = (okAt r i && noOwn ⟨r, st, al⟩ vs) := by
  show ((match r[i]? with | some (.ow _) => false | _ => true) && _) = _
  rw [okAt_is]
  rfl
@[simp] theorem ev_wipe0 : s.wipe [] = s := rfl
@[simp] theorem ev_wipeC {vs : List Nat} : s.wipe (i :: vs) = (s.wipe vs).put i .un := rfl
@[simp] theorem ev_nLc {vs : List Nat} {it : S → Option (List D)} {g : D → S → Option S} : nLc vs it g t f s = (it s).bind fun ds => if ds.length ≤ 1000000 ∧ noOwn s vs = true then lcGo (lcK g t f (s.wipe vs)) ds else none := rfl
@[simp] theorem ev_lcK {g : D → S → Option S} : lcK g t f s d = (g d s).bind fun s1 => (t s1).bind fun b => if b = true then (f s1).map some else some none := rfl
theorem lc_mapP {α : Type} {k : D → Option (Option D)} {φ ψ : α → D} : ∀ {ps : List α}, (∀ p ∈ ps, k (φ p) = some (some (ψ p))) → lcGo k (ps.map φ) = some (ps.map ψ)
  | [], _ => rfl
  | p :: ps, h => by
    have e1 := h p List.mem_cons_self
    have e2 := lc_mapP (k := k) (φ := φ) (ψ := ψ) (ps := ps) fun x hx => h x (List.mem_cons_of_mem _ hx)
    rw [List.map_cons]
    unfold lcGo
    simp [e1, e2]
theorem ev_mulM (h1 : -2 ^ 256 < a) (h2 : a < 2 ^ 256) (h3 : -2 ^ 256 < b) (h4 : b < 2 ^ 256) : dMulI (.int a) (.int b) = some (.int (a * b)) := by
  refine mul_of (mulOk_B ?_ ?_)
  · exact Nat.lt_of_lt_of_le (m := 2 ^ 256) (by omega) (Nat.pow_le_pow_right (by decide) (by decide))
  · exact Nat.lt_of_lt_of_le (m := 2 ^ 256) (by omega) (Nat.pow_le_pow_right (by decide) (by decide))
end
def ow' : Option (List D) → Sl
  | none => .un
  | some ds => .ow ds
theorem ow_none : ow' none = .un := rfl
theorem ow_some : ow' (some ds) = .ow ds := rfl
@[simp] theorem ev_frzOw {o : Option (List D)} : S.frzO ⟨ow' o :: r, st, al⟩ 0 = ⟨op (o.map D.lst) :: r, st, al⟩ := by cases o <;> rfl
@[simp] theorem ev_frzOp : S.frzO ⟨op x :: r, st, al⟩ 0 = ⟨op x :: r, st, al⟩ := by cases x <;> rfl
@[simp] theorem ev_plainO {r : List Sl} {al : Bool} {x : Option D} : plainS ⟨op x :: r, [], al⟩ = plainS ⟨r, [], al⟩ := by cases x <;> rfl
/-! #### whole numbers, fractions, ranges -/
def iL (ns : List Int) : List D := ns.map D.int
@[simp] theorem iL_len (ns : List Int) : (iL ns).length = ns.length := by unfold iL; simp
theorem iL_app (ns : List Int) (x : Int) : iL (ns ++ [x]) = iL ns ++ [.int x] := by simp [iL]
theorem iL_at {ns : List Int} {i : Int} (h0 : 0 ≤ i) (h : i < ns.length) : atI (iL ns) i = some (.int (ns[i.toNat]'(by omega))) := by
  rw [at_of h0 (by simpa using h)]
  simp [iL]
theorem iL_get {ns : List Int} {i : Int} (h0 : 0 ≤ i) (h : i < ns.length) : ∃ x ∈ ns, atI (iL ns) i = some (.int x) :=
  ⟨_, List.getElem_mem _, iL_at h0 h⟩
theorem iL_ix {ns : List Int} {i : Nat} (h : i < (iL ns).length) : (iL ns)[i] = .int (ns[i]'(by simpa using h)) := by simp [iL]
def fr (p : Int × Int) : D := .tup [.int p.1, .int p.2]
def fL (ps : List (Int × Int)) : List D := ps.map fr
@[simp] theorem fL_len (ps : List (Int × Int)) : (fL ps).length = ps.length := by unfold fL; simp
theorem fL_app (ps : List (Int × Int)) (p : Int × Int) : fL (ps ++ [p]) = fL ps ++ [.tup [.int p.1, .int p.2]] := by simp [fL, fr]
theorem fL_ix {ps : List (Int × Int)} {i : Nat} (h : i < (fL ps).length) : (fL ps)[i] = fr (ps[i]'(by simpa using h)) := by simp [fL]
theorem rng_len (a b : Int) : (rngD a b).length = (b - a).toNat := rngD_length a b
theorem rng_at (a b : Int) (i : Nat) (h : i < (rngD a b).length) : (rngD a b)[i] = .int (a + i) := by
  simp [rngD]
theorem zip_len (ds es : List D) : (zipD ds es).length = min ds.length es.length := by simp [zipD]
theorem zip_at {ds es : List D} {i : Nat} (h : i < (zipD ds es).length) : (zipD ds es)[i] = .tup [ds[i]'(by rw [zip_len] at h; omega), es[i]'(by rw [zip_len] at h; omega)] := by
  simp [zipD]
theorem enum_len (ds : List D) : (enumD ds).length = ds.length := by simp [enumD]
theorem enum_at {ds : List D} {i : Nat} (h : i < (enumD ds).length) : (enumD ds)[i] = .tup [.int i, ds[i]'(by rw [enum_len] at h; omega)] := by
  simp [enumD]
theorem sIx_no {n d : Nat} : HT.sIx n d none = d := rfl
theorem sIx_pos {n d : Nat} {b : Int} (h : 0 ≤ b) : HT.sIx n d (some b) = min b.toNat n := by
  show (if b < 0 then (b + (n : Int)).toNat else min b.toNat n) = _
  rw [if_neg (by omega)]
theorem sIx_neg {n d : Nat} {b : Int} (h : b < 0) : HT.sIx n d (some b) = (b + (n : Int)).toNat := by
  show (if b < 0 then (b + (n : Int)).toNat else min b.toNat n) = _
  rw [if_pos h]
theorem cut_to {ds : List D} {b : Int} (h : 0 ≤ b) : cutD ds none (some b) = ds.take b.toNat := by
  unfold cutD
  rw [sIx_pos h, sIx_no, Nat.sub_zero, List.drop_zero]
  rw [List.take_eq_take_iff]
  omega
theorem cut_from {ds : List D} {a : Int} (h : 0 ≤ a) : cutD ds (some a) none = ds.drop a.toNat := by
  unfold cutD
  rw [sIx_pos h, sIx_no, List.take_of_length_le (by simp)]
  rcases Nat.lt_or_ge a.toNat ds.length with z | z
  · rw [Nat.min_eq_left (by omega)]
  · rw [Nat.min_eq_right (by omega), List.drop_eq_nil_of_le (by omega), List.drop_eq_nil_of_le (by omega)]
theorem cut_ft {ds : List D} {a b : Int} (h : 0 ≤ a) (h' : 0 ≤ b) : cutD ds (some a) (some b) = (ds.take b.toNat).drop a.toNat := by
  unfold cutD
  rw [sIx_pos h, sIx_pos h', List.drop_take]
  rcases Nat.lt_or_ge a.toNat ds.length with z | z
  · rw [Nat.min_eq_left (a := a.toNat) (by omega)]
    rw [List.take_eq_take_iff, List.length_drop]
    omega
  · rw [Nat.min_eq_right (a := a.toNat) (by omega), List.drop_eq_nil_of_le (by omega), List.drop_eq_nil_of_le (as := ds) (i := a.toNat) (by omega)]
    simp
theorem cut_last {ds : List D} : cutD ds none (some (-1)) = ds.dropLast := by
  unfold cutD
  rw [sIx_neg (by omega), sIx_no, List.drop_zero, Nat.sub_zero, List.dropLast_eq_take]
  rw [List.take_eq_take_iff]
  omega
/-! #### loops -/
theorem for_inv {k : D → S → Option Out} (I : Nat → S → Prop) : ∀ (ds : List D) (o : Nat) (s : S), I o s →
    (∀ (i : Nat) (hi : i < ds.length) (s : S), I (o + i) s → ∃ s', k ds[i] s = some (.nx s') ∧ I (o + i + 1) s') → ∃ s', forGo k ds s = some (.nx s') ∧ I (o + ds.length) s'
  | [], o, s, h0, _ => ⟨s, rfl, h0⟩
  | d :: ds, o, s, h0, step => by
    obtain ⟨s1, e1, h1⟩ := step 0 (by simp) s h0
    obtain ⟨s2, e2, h2⟩ := for_inv I ds (o + 1) s1 h1 fun i hi s hs => by
      have := step (i + 1) (by simpa using hi) s (by rw [show o + (i + 1) = o + 1 + i by omega]; exact hs)
      rw [show o + (i + 1) + 1 = o + 1 + i + 1 by omega] at this
      simpa using this
    refine ⟨s2, ?_, ?_⟩
    · have e1 : k d s = some (.nx s1) := e1
      unfold forGo
      rw [e1]
      exact e2
    · rw [show o + (d :: ds).length = o + 1 + ds.length by simp; omega]; exact h2
theorem forI {k : D → S → Option Out} {ds : List D} {s : S} (I : Nat → S → Prop) (h0 : I 0 s)
    (step : ∀ (i : Nat) (hi : i < ds.length) (s : S), I i s → ∃ s', k ds[i] s = some (.nx s') ∧ I (i + 1) s') : ∃ s', forGo k ds s = some (.nx s') ∧ I ds.length s' := by
  have := for_inv (k := k) I ds 0 s h0 fun i hi s hs => by
    have := step i hi s (by simpa using hs)
    simpa using this
  simpa using this
theorem step_of {x : Option Out} {I : S → Prop} {s1 : S} (e : x = some (.nx s1)) (h : I s1) : ∃ s', x = some (.nx s') ∧ I s' := ⟨s1, e, h⟩
theorem lc_map {k : D → Option (Option D)} {g : D → D} : ∀ {ds : List D}, (∀ d ∈ ds, k d = some (some (g d))) → lcGo k ds = some (ds.map g)
  | [], _ => rfl
  | d :: ds, h => by
    have e1 := h d List.mem_cons_self
    have e2 := lc_map (k := k) (g := g) (ds := ds) fun x hx => h x (List.mem_cons_of_mem _ hx)
    unfold lcGo
    simp [e1, e2]
/-! #### the greatest common factor by division -/
theorem gcd_loop {w : S → Option Bool} {b : S → Option Out} (hw : ∀ x y : Nat, w ⟨[.fr (.int x), .fr (.int y)], [], false⟩ = some (decide (0 < y)))
    (hb : ∀ x y : Nat, 0 < y → b ⟨[.fr (.int x), .fr (.int y)], [], false⟩ = some (.nx ⟨[.fr (.int y), .fr (.int (x % y : Nat))], [], false⟩)) :
    ∀ (n x y : Nat), y < n → whGo w b n ⟨[.fr (.int x), .fr (.int y)], [], false⟩ = some (.nx ⟨[.fr (.int (Nat.gcd x y)), .fr (.int (0 : Nat))], [], false⟩)
  | 0, x, y, h => by omega
  | n + 1, x, y, h => by
    unfold whGo
    rw [hw]
    by_cases h0 : 0 < y
    · have hm := Nat.mod_lt x h0
      have ih := gcd_loop hw hb n y (x % y) (by omega)
      have e : Nat.gcd x y = Nat.gcd y (x % y) := by rw [Nat.gcd_comm x y, Nat.gcd_rec y x, Nat.gcd_comm]
      rw [e]
      simp only [h0, decide_true, hb x y h0]
      exact ih
    · obtain rfl : y = 0 := by omega
      simp
/-! #### equality of trees of whole numbers -/
inductive Tr : Nat → D → Prop
  | int {k : Nat} (i : Int) : Tr k (.int i)
  | non {k : Nat} : Tr k .non
  | tup {k : Nat} {xs : List D} : (∀ x ∈ xs, Tr k x) → Tr (k + 1) (.tup xs)
  | lst {k : Nat} {xs : List D} : (∀ x ∈ xs, Tr k x) → Tr (k + 1) (.lst xs)
theorem tr_pyL {k : Nat} : ∀ {xs : List D}, (∀ x ∈ xs, ∃ p, toPy x = some p ∧ PyData.canLay0 p = true ∧ PyData.depth p ≤ k) → ∃ ps, toPyL xs = some ps ∧ PyData.canLayAll0 ps = true ∧ PyData.depthAll ps ≤ k
  | [], _ => ⟨[], by simp [toPyL], by simp [PyData.canLayAll0], by simp [PyData.depthAll]⟩
  | x :: xs, h => by
    obtain ⟨p, h1, h2, h3⟩ := h x List.mem_cons_self
    obtain ⟨ps, h4, h5, h6⟩ := tr_pyL (xs := xs) fun y hy => h y (List.mem_cons_of_mem _ hy)
    exact ⟨p :: ps, by simp [toPyL, h1, h4], by simp [PyData.canLayAll0, h2, h5], by simp only [PyData.depthAll]; omega⟩
theorem tr_py {k : Nat} {d : D} (h : Tr k d) : ∃ p, toPy d = some p ∧ PyData.canLay0 p = true ∧ PyData.depth p ≤ k := by
  induction h with
  | int i => exact ⟨.int i, by simp [toPy], by simp [PyData.canLay0], by simp [PyData.depth]⟩
  | non => exact ⟨.none, by simp [toPy], by simp [PyData.canLay0], by simp [PyData.depth]⟩
  | tup _ ih =>
    obtain ⟨ps, h4, h5, h6⟩ := tr_pyL ih
    exact ⟨.tuple ps, by simp [toPy, h4], by simp [PyData.canLay0, h5], by simp only [PyData.depth]; omega⟩
  | lst _ ih =>
    obtain ⟨ps, h4, h5, h6⟩ := tr_pyL ih
    exact ⟨.list ps, by simp [toPy, h4], by simp [PyData.canLay0, h5], by simp only [PyData.depth]; omega⟩
theorem tr_eqvL : ∀ {xs ys : List D} {ps qs : List PyData}, (∀ x ∈ xs, ∀ p, toPy x = some p → ∀ (j : Nat) (e : D), Tr j e → ∀ q, toPy e = some q → (PyData.eqv p q = true ↔ x = e)) → (∀ y ∈ ys, ∃ j, Tr j y) → toPyL xs = some ps → toPyL ys = some qs → (PyData.eqvAll ps qs = true ↔ xs = ys)
  | [], [], ps, qs, _, _, h1, h2 => by
    simp only [toPyL, Option.some.injEq] at h1 h2
    subst h1; subst h2
    simp [PyData.eqvAll]
  | [], y :: ys, ps, qs, _, _, h1, h2 => by
    simp only [toPyL, Option.some.injEq] at h1
    rw [toPyL] at h2
    obtain ⟨q, e1, h2⟩ := Option.bind_eq_some_iff.mp h2
    obtain ⟨rs, e2, rfl⟩ := Option.map_eq_some_iff.mp h2
    subst h1
    simp [PyData.eqvAll]
  | x :: xs, [], ps, qs, _, _, h1, h2 => by
    simp only [toPyL, Option.some.injEq] at h2
    rw [toPyL] at h1
    obtain ⟨q, e1, h1⟩ := Option.bind_eq_some_iff.mp h1
    obtain ⟨rs, e2, rfl⟩ := Option.map_eq_some_iff.mp h1
    subst h2
    simp [PyData.eqvAll]
  | x :: xs, y :: ys, ps, qs, hx, hy, h1, h2 => by
    rw [toPyL] at h1 h2
    obtain ⟨p, e1, h1⟩ := Option.bind_eq_some_iff.mp h1
    obtain ⟨rs, e2, rfl⟩ := Option.map_eq_some_iff.mp h1
    obtain ⟨q, e3, h2⟩ := Option.bind_eq_some_iff.mp h2
    obtain ⟨us, e4, rfl⟩ := Option.map_eq_some_iff.mp h2
    obtain ⟨j, hj⟩ := hy y List.mem_cons_self
    have a := hx x List.mem_cons_self p e1 j y hj q e3
    have b := tr_eqvL (xs := xs) (ys := ys) (fun z hz => hx z (List.mem_cons_of_mem _ hz)) (fun z hz => hy z (List.mem_cons_of_mem _ hz)) e2 e4
    simp [PyData.eqvAll, a, b]
theorem tr_eqv {k : Nat} {d : D} (h : Tr k d) : ∀ p, toPy d = some p → ∀ (j : Nat) (e : D), Tr j e → ∀ q, toPy e = some q → (PyData.eqv p q = true ↔ d = e) := by
  induction h with
  | int i =>
    intro p hp j e he q hq
    simp only [toPy, Option.some.injEq] at hp
    subst hp
    cases he with
    | int i' => simp only [toPy, Option.some.injEq] at hq; subst hq; simp [PyData.eqv]
    | non => simp only [toPy, Option.some.injEq] at hq; subst hq; simp [PyData.eqv]
    | tup _ => rw [toPy] at hq; obtain ⟨_, _, rfl⟩ := Option.map_eq_some_iff.mp hq; simp [PyData.eqv]
    | lst _ => rw [toPy] at hq; obtain ⟨_, _, rfl⟩ := Option.map_eq_some_iff.mp hq; simp [PyData.eqv]
  | non =>
    intro p hp j e he q hq
    simp only [toPy, Option.some.injEq] at hp
    subst hp
    cases he with
    | int i' => simp only [toPy, Option.some.injEq] at hq; subst hq; simp [PyData.eqv]
    | non => simp only [toPy, Option.some.injEq] at hq; subst hq; simp [PyData.eqv]
    | tup _ => rw [toPy] at hq; obtain ⟨_, _, rfl⟩ := Option.map_eq_some_iff.mp hq; simp [PyData.eqv]
    | lst _ => rw [toPy] at hq; obtain ⟨_, _, rfl⟩ := Option.map_eq_some_iff.mp hq; simp [PyData.eqv]
  | tup _ ih =>
    intro p hp j e he q hq
    rw [toPy] at hp
    obtain ⟨ps, e1, rfl⟩ := Option.map_eq_some_iff.mp hp
    cases he with
    | int i' => simp only [toPy, Option.some.injEq] at hq; subst hq; simp [PyData.eqv]
    | non => simp only [toPy, Option.some.injEq] at hq; subst hq; simp [PyData.eqv]
    | tup h2 =>
      rw [toPy] at hq
      obtain ⟨qs, e2, rfl⟩ := Option.map_eq_some_iff.mp hq
      simp only [PyData.eqv, D.tup.injEq]
      exact tr_eqvL ih (fun y hy => ⟨_, h2 y hy⟩) e1 e2
    | lst _ => rw [toPy] at hq; obtain ⟨_, _, rfl⟩ := Option.map_eq_some_iff.mp hq; simp [PyData.eqv]
  | lst _ ih =>
    intro p hp j e he q hq
    rw [toPy] at hp
    obtain ⟨ps, e1, rfl⟩ := Option.map_eq_some_iff.mp hp
    cases he with
    | int i' => simp only [toPy, Option.some.injEq] at hq; subst hq; simp [PyData.eqv]
    | non => simp only [toPy, Option.some.injEq] at hq; subst hq; simp [PyData.eqv]
    | tup _ => rw [toPy] at hq; obtain ⟨_, _, rfl⟩ := Option.map_eq_some_iff.mp hq; simp [PyData.eqv]
    | lst h2 =>
      rw [toPy] at hq
      obtain ⟨qs, e2, rfl⟩ := Option.map_eq_some_iff.mp hq
      simp only [PyData.eqv, D.lst.injEq]
      exact tr_eqvL ih (fun y hy => ⟨_, h2 y hy⟩) e1 e2
theorem eqB_tr {k j : Nat} {a b : D} (ha : Tr k a) (hb : Tr j b) (hk : k ≤ 64) (hj : j ≤ 64) : ∃ c : Bool, eqB a b = some c ∧ (c = true ↔ a = b) := by
  obtain ⟨p, h1, h2, h3⟩ := tr_py ha
  obtain ⟨q, h4, h5, h6⟩ := tr_py hb
  refine ⟨PyData.eqv p q, ?_, tr_eqv ha p h1 j b hb q h4⟩
  unfold eqB SeqAt.shaped
  simp [h1, h4, h2, h5]
  omega
theorem eq_tr {k j : Nat} {a b : D} (ha : Tr k a) (hb : Tr j b) (hk : k ≤ 64 := by omega) (hj : j ≤ 64 := by omega) : ∃ c : Bool, dEq a b = some (.bl c) ∧ dNe a b = some (.bl (!c)) ∧ (c = true ↔ a = b) := by
  obtain ⟨c, h1, h2⟩ := eqB_tr ha hb hk hj
  exact ⟨c, by unfold dEq; rw [h1]; rfl, by unfold dNe; rw [h1]; rfl, h2⟩
theorem eq_same {k : Nat} {a : D} (ha : Tr k a) (hk : k ≤ 64 := by omega) : dEq a a = some (.bl true) ∧ dNe a a = some (.bl false) := by
  obtain ⟨c, h1, h2, h3⟩ := eq_tr ha ha hk hk
  obtain rfl : c = true := h3.mpr rfl
  exact ⟨h1, h2⟩
theorem tr_iL (ns : List Int) : ∀ x ∈ iL ns, Tr 0 x := by
  intro x hx
  obtain ⟨n, _, rfl⟩ := List.mem_map.mp hx
  exact .int n
theorem tr_fr (p : Int × Int) : Tr 1 (fr p) := .tup fun x hx => by
  simp at hx
  rcases hx with rfl | rfl <;> exact .int _
theorem tr_fL (ps : List (Int × Int)) : ∀ x ∈ fL ps, Tr 1 x := by
  intro x hx
  obtain ⟨n, _, rfl⟩ := List.mem_map.mp hx
  exact tr_fr n
theorem intsOf_iL : ∀ ns : List Int, intsOf (iL ns) = some ns
  | [] => rfl
  | n :: ns => by
    have ih := intsOf_iL ns
    show (intsOf (iL ns)).map (n :: ·) = _
    rw [ih]; rfl
theorem sum_iL (ns : List Int) : gSum true (iL ns) = some (.int ns.sum) := by
  unfold gSum; simp [intsOf_iL]
theorem min_iL {ns : List Int} (h : 0 < ns.length) : gMin true (iL ns) = some (.int (minL ns)) := by
  unfold gMin; simp [intsOf_iL, h]
theorem max_iL {ns : List Int} (h : 0 < ns.length) : gMax true (iL ns) = some (.int (maxL ns)) := by
  unfold gMax; simp [intsOf_iL, h]
theorem zip_iL : ∀ a b : List Int, zipD (iL a) (iL b) = fL (a.zip b)
  | [], b => by simp [zipD, iL, fL]
  | a :: as, [] => by simp [zipD, iL, fL]
  | a :: as, b :: bs => by
    have ih := zip_iL as bs
    simp only [zipD, iL, fL, List.map_cons, List.zipWith_cons_cons, List.zip_cons_cons, fr] at ih ⊢
    rw [ih]
/-- a loop whose body may end it with an answer -/
theorem for_all {α : Type} {φ : α → D} {k : D → S → Option Out} {d : D} (P : α → Prop) (I : S → Prop) : ∀ (ps : List α) (s : S), I s →
    (∀ p ∈ ps, ∀ s, I s → (P p → ∃ s', k (φ p) s = some (.nx s') ∧ I s') ∧ (¬ P p → ∃ s', k (φ p) s = some (.rt d s'))) →
    ((∀ p ∈ ps, P p) → ∃ s', forGo k (ps.map φ) s = some (.nx s') ∧ I s') ∧ ((¬ ∀ p ∈ ps, P p) → ∃ s', forGo k (ps.map φ) s = some (.rt d s'))
  | [], s, h, _ => ⟨fun _ => ⟨s, rfl, h⟩, fun z => absurd (fun p hp => by cases hp) z⟩
  | p :: ps, s, h, hk => by
    obtain ⟨k1, k2⟩ := hk p List.mem_cons_self s h
    refine ⟨fun z => ?_, fun z => ?_⟩
    · obtain ⟨s1, e1, i1⟩ := k1 (z p List.mem_cons_self)
      obtain ⟨s2, e2, i2⟩ := (for_all P I ps s1 i1 fun q hq => hk q (List.mem_cons_of_mem _ hq)).1 fun q hq => z q (List.mem_cons_of_mem _ hq)
      refine ⟨s2, ?_, i2⟩
      rw [List.map_cons]
      unfold forGo
      rw [e1]
      exact e2
    · by_cases hp : P p
      · obtain ⟨s1, e1, i1⟩ := k1 hp
        obtain ⟨s2, e2⟩ := (for_all P I ps s1 i1 fun q hq => hk q (List.mem_cons_of_mem _ hq)).2 fun w => z fun q hq => by
          rcases List.mem_cons.mp hq with rfl | hq
          · exact hp
          · exact w q hq
        refine ⟨s2, ?_⟩
        rw [List.map_cons]
        unfold forGo
        rw [e1]
        exact e2
      · obtain ⟨s1, e1⟩ := k2 hp
        refine ⟨s1, ?_⟩
        rw [List.map_cons]
        unfold forGo
        rw [e1]
open Classical in
theorem pick {α β : Type} [Inhabited β] {P : α → β → Prop} {l : List α} (h : ∀ a ∈ l, ∃ b, P a b) : ∃ f : α → β, ∀ a ∈ l, P a (f a) :=
  ⟨fun a => if h : ∃ b, P a b then h.choose else default, fun a ha => by
    have w := h a ha
    simp only [dif_pos w]
    exact w.choose_spec⟩
theorem at_last {α : Type} {xs : List α} (h : xs ≠ []) : atI xs (-1) = some (xs.getLast h) := by
  have hl : 0 < xs.length := List.length_pos_iff.mpr h
  unfold atI ixN
  rw [if_neg (by omega), if_pos (by omega)]
  show xs[((-1 : Int) + xs.length).toNat]? = _
  rw [show ((-1 : Int) + xs.length).toNat = xs.length - 1 by omega, List.getLast_eq_getElem, List.getElem?_eq_getElem]
theorem lc_filt {α : Type} {k : D → Option (Option D)} {φ ψ : α → D} (P : α → Bool) : ∀ {ps : List α}, (∀ p ∈ ps, k (φ p) = some (if P p = true then some (ψ p) else none)) → lcGo k (ps.map φ) = some ((ps.filter P).map ψ)
  | [], _ => rfl
  | p :: ps, h => by
    have e1 := h p List.mem_cons_self
    have e2 := lc_filt (k := k) (φ := φ) (ψ := ψ) P (ps := ps) fun x hx => h x (List.mem_cons_of_mem _ hx)
    rw [List.map_cons]
    unfold lcGo
    by_cases hp : P p = true
    · simp [e1, e2, hp]
    · simp [e1, e2, hp]
theorem seq_step {g k : S → Option Out} {s s' : S} {r : Option Rs} (h : g s = some (.nx s')) (h2 : outR (k s') = r) : outR (sSeq g k s) = r := by
  rw [← h2]; unfold sSeq; rw [h]
theorem seq_go {g k : S → Option Out} {s s' : S} {r : Option Out} (h : g s = some (.nx s')) (h2 : k s' = r) : sSeq g k s = r := by
  rw [← h2]; unfold sSeq; rw [h]
/-- a list (true) or a tuple -/
def sq (k : Bool) (xs : List D) : D := if k = true then .lst xs else .tup xs
@[simp] theorem sq_seq {k : Bool} {xs : List D} : dSeq (sq k xs) = some (k, xs) := by cases k <;> rfl
theorem sq_l (xs : List D) : D.lst xs = sq true xs := rfl
theorem sq_t (xs : List D) : D.tup xs = sq false xs := rfl
@[simp] theorem ev_seqQ {r : List Sl} {st : List Ob} {al k : Bool} {xs : List D} : S.seq ⟨.fr (sq k xs) :: r, st, al⟩ 0 = some (k, xs) := by
  show dSeq (sq k xs) = _
  simp
theorem maxD_iL (i : Int) (ns : List Int) : gMaxD i true (iL ns) = some (.int (match ns with
  | [] => i
  | y :: ys => ys.foldl max y)) := by
  unfold gMaxD; cases ns <;> simp [intsOf_iL]
@[simp] theorem ev_setIx {i : Nat} {f h : S → Option D} {s : S} : sSetIx i f h s = (f s).bind fun d => (h s).bind fun k => (iInt k).bind fun z => (s.own i).bind fun ds => (ixN ds.length z).map fun j => .nx (s.put i (.ow (ds.set j d))) := rfl
@[simp] theorem ev_raise {x : Str} {p : Option Int} {s : S} : sRaise x p s = some (.ex x p s) := rfl
@[simp] theorem ev_outEx {c : Str} {p : Option Int} {s : S} : outR (some (.ex c p s)) = some (.exc c p) := rfl
theorem ixN_at {n : Nat} {z : Int} (h0 : 0 ≤ z) (h1 : z < n) : ixN n z = some z.toNat := by
  unfold ixN
  rw [if_pos h0, if_pos h1]
theorem ev_divN {a b : Int} (hd : b ∣ a) (h1 : b ≠ 0) (h2 : -2 ^ 256 < b) (h3 : b < 2 ^ 256) : dDiv (.int a) (.int b) = some (.int (a / b)) := by
  unfold dDiv iB divOk
  have := log2_lt (m := b.natAbs) (e := 256) (by decide) (by omega)
  simp [h1, Int.fdiv_eq_ediv_of_dvd hd]
  omega
/-- p is the fraction t by b in lowest terms -/
structure IsF (p : Int × Int) (t b : Int) : Prop where
  pos : 0 < p.2
  one : Int.gcd p.1 p.2 = 1
  eq : p.1 * b = t * p.2
theorem IsF.dvd {p : Int × Int} {t b : Int} (h : IsF p t b) : p.2 ∣ b := by
  have e : p.2 ∣ p.1 * b := by rw [h.eq]; exact Int.dvd_mul_left _ _
  have e2 := Int.natAbs_dvd_natAbs.mpr e
  rw [Int.natAbs_mul] at e2
  have e3 : Nat.Coprime p.2.natAbs p.1.natAbs := by
    have := h.one
    rw [Int.gcd_comm] at this
    exact this
  exact Int.natAbs_dvd_natAbs.mp (e3.dvd_of_dvd_mul_left e2)
theorem IsF.le {p : Int × Int} {t b : Int} (h : IsF p t b) (hb : b ≠ 0) : p.2 ≤ b.natAbs ∧ p.1.natAbs ≤ t.natAbs := by
  have e := h.dvd
  have e0 := h.pos
  have e1 : p.2 ≤ b.natAbs := by
    have := Int.le_of_dvd (by omega) (Int.dvd_natAbs.mpr e)
    exact this
  refine ⟨e1, ?_⟩
  have e2 := congrArg Int.natAbs h.eq
  rw [Int.natAbs_mul, Int.natAbs_mul] at e2
  have e3 : t.natAbs * p.2.natAbs ≤ t.natAbs * b.natAbs := Nat.mul_le_mul_left _ (by omega)
  rw [← e2] at e3
  exact Nat.le_of_mul_le_mul_right e3 (by omega)
theorem isF_make {t b f : Int} (hb : b ≠ 0) (hf : f = if b < 0 then 0 - (Int.gcd t b : Int) else (Int.gcd t b : Int)) : IsF (t / f, b / f) t b ∧ f ∣ t ∧ f ∣ b ∧ f ≠ 0 := by
  have hg : 0 < Int.gcd t b := Int.gcd_pos_of_ne_zero_right t hb
  obtain ⟨c, hc⟩ := Int.gcd_dvd_left t b
  obtain ⟨d, hd⟩ := Int.gcd_dvd_right t b
  have h1 := Int.gcd_ediv_gcd_ediv_gcd hg
  have g0 : ((Int.gcd t b : Nat) : Int) ≠ 0 := by omega
  generalize hG : ((Int.gcd t b : Nat) : Int) = g at hc hd h1 hf g0
  have gp : 0 < g := by omega
  have e1 : t / g = c := by rw [hc]; exact Int.mul_ediv_cancel_left _ g0
  have e2 : b / g = d := by rw [hd]; exact Int.mul_ediv_cancel_left _ g0
  rw [e1, e2] at h1
  by_cases hn : b < 0
  · rw [if_pos hn] at hf
    have hf2 : f = -g := by omega
    subst hf2
    have e3 : t / -g = -c := by rw [Int.ediv_neg, e1]
    have e4 : b / -g = -d := by rw [Int.ediv_neg, e2]
    have hdn : d < 0 := by
      rcases (by omega : d < 0 ∨ 0 ≤ d) with z | z
      · exact z
      · have := Int.mul_nonneg (show 0 ≤ g by omega) z
        omega
    refine ⟨⟨by show 0 < b / -g; rw [e4]; omega, by show Int.gcd (t / -g) (b / -g) = 1; rw [e3, e4, Int.gcd_neg, Int.neg_gcd]; exact h1, ?_⟩, ⟨-c, by rw [Int.neg_mul_neg]; exact hc⟩, ⟨-d, by rw [Int.neg_mul_neg]; exact hd⟩, by omega⟩
    show t / -g * b = t * (b / -g)
    rw [e3, e4, hc, hd, Int.neg_mul, Int.mul_neg, Int.mul_left_comm c g d, Int.mul_assoc]
  · rw [if_neg hn] at hf
    subst hf
    have hdn : 0 < d := by
      rcases (by omega : 0 < d ∨ d ≤ 0) with z | z
      · exact z
      · have := Int.mul_nonpos_of_nonneg_of_nonpos (show 0 ≤ f by omega) z
        omega
    refine ⟨⟨by show 0 < b / f; rw [e2]; exact hdn, by show Int.gcd (t / f) (b / f) = 1; rw [e1, e2]; exact h1, ?_⟩, ⟨c, hc⟩, ⟨d, hd⟩, g0⟩
    show t / f * b = t * (b / f)
    rw [e1, e2, hc, hd, Int.mul_left_comm c _ d, Int.mul_assoc]
/-- a comprehension, item by item -/
theorem lc_ex {α β : Type} {k : D → Option (Option D)} (φ : α → D) (χ : β → D) (R : α → β → Prop) : ∀ (ps : List α), (∀ p ∈ ps, ∃ z, k (φ p) = some (some (χ z)) ∧ R p z) →
    ∃ zs : List β, lcGo k (ps.map φ) = some (zs.map χ) ∧ zs.length = ps.length ∧ ∀ (i : Nat) (h : i < ps.length) (h' : i < zs.length), R ps[i] zs[i]
  | [], _ => ⟨[], rfl, rfl, fun i h => by simp at h⟩
  | p :: ps, h => by
    obtain ⟨z, e1, r1⟩ := h p List.mem_cons_self
    obtain ⟨zs, e2, e3, r2⟩ := lc_ex φ χ R ps fun q hq => h q (List.mem_cons_of_mem _ hq)
    refine ⟨z :: zs, ?_, by simp [e3], fun i h h' => ?_⟩
    · rw [List.map_cons]
      unfold lcGo
      simp [e1, e2]
    · cases i with
      | zero => exact r1
      | succ i => exact r2 i (by simpa using h) (by simpa using h')
theorem rng_map (n : Int) : rngD 0 n = (List.range n.toNat).map fun (i : Nat) => D.int (i : Int) := by
  unfold rngD
  rw [Int.sub_zero]
  congr 1
  funext i
  rw [Int.zero_add]
/-- .. over a range -/
theorem lc_rng {β : Type} {k : D → Option (Option D)} (n : Int) (χ : β → D) (R : Nat → β → Prop) (h : ∀ i : Nat, i < n.toNat → ∃ z, k (.int i) = some (some (χ z)) ∧ R i z) :
    ∃ zs : List β, lcGo k (rngD 0 n) = some (zs.map χ) ∧ zs.length = n.toNat ∧ ∀ (i : Nat) (h : i < zs.length), R i zs[i] := by
  rw [rng_map]
  obtain ⟨zs, h1, h2, h3⟩ := lc_ex (fun (i : Nat) => D.int (i : Int)) χ R (List.range n.toNat) fun i hi => h i (List.mem_range.mp hi)
  rw [List.length_range] at h2
  exact ⟨zs, h1, h2, fun i hi => by have := h3 i (by rw [List.length_range]; omega) hi; simpa using this⟩
/-- trees with truths in them: alike themselves -/
inductive Tb : Nat → D → Prop
  | int {k : Nat} (i : Int) : Tb k (.int i)
  | non {k : Nat} : Tb k .non
  | bl {k : Nat} (b : Bool) : Tb k (.bl b)
  | tup {k : Nat} {xs : List D} : (∀ x ∈ xs, Tb k x) → Tb (k + 1) (.tup xs)
  | lst {k : Nat} {xs : List D} : (∀ x ∈ xs, Tb k x) → Tb (k + 1) (.lst xs)
theorem tb_py {k : Nat} {d : D} (h : Tb k d) : ∃ p, toPy d = some p ∧ PyData.canLay0 p = true ∧ PyData.depth p ≤ k := by
  induction h with
  | int i => exact ⟨.int i, by simp [toPy], by simp [PyData.canLay0], by simp [PyData.depth]⟩
  | bl i => exact ⟨.bool i, by simp [toPy], by simp [PyData.canLay0], by simp [PyData.depth]⟩
  | non => exact ⟨.none, by simp [toPy], by simp [PyData.canLay0], by simp [PyData.depth]⟩
  | tup _ ih =>
    obtain ⟨ps, h4, h5, h6⟩ := tr_pyL ih
    exact ⟨.tuple ps, by simp [toPy, h4], by simp [PyData.canLay0, h5], by simp only [PyData.depth]; omega⟩
  | lst _ ih =>
    obtain ⟨ps, h4, h5, h6⟩ := tr_pyL ih
    exact ⟨.list ps, by simp [toPy, h4], by simp [PyData.canLay0, h5], by simp only [PyData.depth]; omega⟩
theorem eq_sameB {k : Nat} {a : D} (ha : Tb k a) (hk : k ≤ 64 := by omega) : dEq a a = some (.bl true) ∧ dNe a a = some (.bl false) := by
  obtain ⟨p, h1, h2, h3⟩ := tb_py ha
  have h4 := PySem.SeqAt.eqv_refl p h2
  have h5 : p.depth ≤ 64 := by omega
  unfold dEq dNe eqB SeqAt.shaped
  simp [h1, h2, h4, h5]
def bL (ts : List Bool) : List D := ts.map D.bl
@[simp] theorem bL_len (ts : List Bool) : (bL ts).length = ts.length := by unfold bL; simp
theorem bL_ix {ts : List Bool} {i : Nat} (h : i < (bL ts).length) : (bL ts)[i] = .bl (ts[i]'(by simpa using h)) := by simp [bL]
theorem tb_bL (ts : List Bool) : ∀ x ∈ bL ts, Tb 0 x := by
  intro x hx
  obtain ⟨n, _, rfl⟩ := List.mem_map.mp hx
  exact .bl n
section
variable {s : S} {d : D} {ds : List D} {c : Str} {p : Option Int} {f : S → Option D} {fx : S → Option (Ex D)} {fxs : S → Option (Ex (List D))} {mf : List D → Option Rs} {i j : Nat} {tab : List (Str × Bool)} {g k : S → Option Out}
@[simp] theorem ev_xPure : xPure f s = (f s).map .ok := rfl
@[simp] theorem ev_axNil : axNil s = some (.ok []) := rfl
@[simp] theorem ev_axCons : axCons fx fxs s = (match fx s with
  | some (.ok d) => (match fxs s with
    | some (.ok ds) => some (.ok (d :: ds))
    | some (.er c p) => some (.er c p)
    | none => none)
  | some (.er c p) => some (.er c p)
  | none => none) := rfl
@[simp] theorem ev_rCall : rCall mf fxs s = (match fxs s with
  | some (.ok ds) => rOf mf ds
  | some (.er c p) => some (.er c p)
  | none => none) := rfl
@[simp] theorem ev_rOf : rOf mf ds = (match mf ds with
  | some (.val d) => some (.ok d)
  | some (.own es) => some (.ok (.lst es))
  | some (.exc c p) => some (.er c p)
  | none => none) := rfl
@[simp] theorem ev_exprX : sExprX fx s = (match fx s with
  | some (.ok _) => some (.nx s)
  | some (.er c p) => some (.ex c p s)
  | none => none) := rfl
@[simp] theorem ev_setX : sSetX i fx s = (match fx s with
  | some (.ok d) => some (.nx (s.put i (.fr d)))
  | some (.er c p) => some (.ex c p s)
  | none => none) := rfl
@[simp] theorem ev_retX : sRetX fx s = (match fx s with
  | some (.ok d) => some (.rt d s)
  | some (.er c p) => some (.ex c p s)
  | none => none) := rfl
@[simp] theorem ev_try : sTry tab i j g k s = (match g s with
  | some (.nx s') => k s'
  | some (.ex c none s') => (match tab.lookup c with
    | some true => if s'.al = s.al then some (.nx (((s'.put i (.fr (.exc c none))).put j (.fr (.exc c none))).put i .un)) else none
    | some false => some (.ex c none s')
    | none => none)
  | some (.rt d s') => some (.rt d s')
  | some (.ro ds s') => some (.ro ds s')
  | _ => none) := rfl
@[simp] theorem ev_sOr : sOr fx g s = (match fx s with
  | some (.er c p) => some (.ex c p s)
  | _ => g s) := rfl
@[simp] theorem ev_ext {fs : S → Option (List D)} : sExt i fs s = (fs s).bind fun es => (s.own i).bind fun ds => if ds.length + es.length ≤ 1000000 then some (.nx (s.put i (.ow (ds ++ es)))) else none := rfl
@[simp] theorem ev_xOr : xOr fx f s = (match fx s with
  | some (.er c p) => some (.er c p)
  | _ => (f s).map .ok) := rfl
@[simp] theorem ev_isiX : dIsiX tab (.exc c none) = (tab.lookup c).map .bl := rfl
@[simp] theorem ev_isNE : dIsN (.exc c p) = some (.bl false) := rfl
@[simp] theorem ev_notN : dNotN .non = some (.bl false) := rfl
@[simp] theorem ev_notNI {a : Int} : dNotN (.int a) = some (.bl true) := rfl
@[simp] theorem ev_isNB {a : Bool} : dIsN (.bl a) = some (.bl false) := rfl
@[simp] theorem ev_notNE : dNotN (.exc c p) = some (.bl true) := rfl
end
/-! ### objects -/
section
variable {r : List Sl} {x : Sl} {st : List Ob} {al : Bool} {d : D} {ds : List D} {n i : Nat} {s : S} {ob : Ob}
variable {f g h : S → Option D} {fs : S → Option (List D)} {fx : S → Option (Ex D)} {fxs : S → Option (Ex (List D))} {fm fm2 : S → Option (EO D)} {fms : S → Option (EO (List D))} {tm tm2 : S → Option (EO Bool)} {t : S → Option Bool} {g1 g2 k : S → Option Out} {c m nm : Str} {cs ns : List Str}
@[simp] theorem ev_lend : S.lend ⟨r, st, al⟩ = ⟨r.map (lendSl st), [], false⟩ := rfl
@[simp] theorem lend_ow : lendSl st (.ow ds) = .fr (.lst ds) := rfl
@[simp] theorem lend_un : lendSl st .un = .un := rfl
@[simp] theorem lend_int {a : Int} : lendSl st (.fr (.int a)) = .fr (.int a) := rfl
@[simp] theorem lend_bl {a : Bool} : lendSl st (.fr (.bl a)) = .fr (.bl a) := rfl
@[simp] theorem lend_non : lendSl st (.fr .non) = .fr .non := rfl
@[simp] theorem lend_lst : lendSl st (.fr (.lst ds)) = .fr (.lst ds) := rfl
@[simp] theorem lend_tup : lendSl st (.fr (.tup ds)) = .fr (.tup ds) := rfl
@[simp] theorem lend_rob : lendSl st (.fr (.rob c ns ds)) = .fr (.rob c ns ds) := rfl
@[simp] theorem lend_exc {p : Option Int} : lendSl st (.fr (.exc c p)) = .fr (.exc c p) := rfl
theorem lend_obj (h : st[n]? = some ob) : lendSl st (.fr (.obj n)) = .fr (obD ob) := by unfold lendSl; simp only [h]
@[simp] theorem ev_dLd : dLd f s = (f s.lend).bind fun d => if noL d = true then some d else none := rfl
@[simp] theorem ev_nLd : nLd fs s = (fs s.lend).bind fun d => if noLs d = true then some d else none := rfl
@[simp] theorem ev_xLd : xLd fx s = (match fx s.lend with
  | some (.ok d) => if noL d = true then some (.ok d) else none
  | o => o) := rfl
@[simp] theorem noL_int {a : Int} : noL (.int a) = true := rfl
@[simp] theorem noL_bl {a : Bool} : noL (.bl a) = true := rfl
@[simp] theorem noL_non : noL .non = true := rfl
@[simp] theorem noL_tup : noL (.tup ds) = noLs ds := rfl
@[simp] theorem noL_exc {p : Option Int} : noL (.exc c p) = true := rfl
@[simp] theorem noLs_nil : noLs [] = true := rfl
@[simp] theorem noLs_cons : noLs (d :: ds) = (noL d && noLs ds) := rfl
@[simp] theorem noLs_iL : ∀ zs : List Int, noLs (iL zs) = true
  | [] => rfl
  | z :: zs => by
    have := noLs_iL zs
    show (true && noLs (iL zs)) = true
    rw [this]; rfl
@[simp] theorem noLs_fL : ∀ zs : List (Int × Int), noLs (fL zs) = true
  | [] => rfl
  | z :: zs => by
    have := noLs_fL zs
    show (true && noLs (fL zs)) = true
    rw [this]; rfl
@[simp] theorem ev_xVal : xVal fx s = (match fx s with
  | some (.ok d) => some d
  | _ => none) := rfl
@[simp] theorem ev_rMeth {T : Disp} : rMeth m T g fxs s = (g s).bind (onRob m T fun mf d => match fxs s with
  | some (.ok ds) => rOf mf (d :: ds)
  | some (.er c p) => some (.er c p)
  | none => none) := rfl
theorem ev_onRob {α : Type} {T : Disp} {q : (List D → Option Rs) → D → Option α} {mf : List D → Option Rs} (h1 : ns.contains m = false) (h2 : T.lookup c = some mf) : onRob m T q (.rob c ns ds) = q mf (.rob c ns ds) := by
  unfold onRob; simp only [h1, h2, Option.bind_some, Bool.false_eq_true, if_false]
@[simp] theorem ev_mPure : mPure f s = (f s).map fun d => (.ok d, s.st) := rfl
@[simp] theorem ev_mX : mX fx s = (fx s).map fun r => (r, s.st) := rfl
@[simp] theorem ev_maNil : maNil s = some (.ok [], s.st) := rfl
@[simp] theorem ev_maCons : maCons fm fms s = (match fm s with
  | some (.ok d, st1) => (match fms ⟨s.r, st1, s.al⟩ with
    | some (.ok ds, st2) => some (.ok (d :: ds), st2)
    | some (.er c p, st2) => some (.er c p, st2)
    | none => none)
  | some (.er c p, st1) => some (.er c p, st1)
  | none => none) := rfl
@[simp] theorem ev_mCall {mf : Fo} : mCall mf fms s = if s.al = true then (match fms s with
  | some (.ok ds, st1) => (mf ds st1).map rsO
  | some (.er c p, st1) => some (.er c p, st1)
  | none => none) else none := rfl
@[simp] theorem ev_rsO1 : rsO (.val d, st) = (.ok d, st) := rfl
@[simp] theorem ev_rsO2 : rsO (.own ds, st) = (.ok (.lst ds), st) := rfl
@[simp] theorem ev_rsO3 {p : Option Int} : rsO (.exc c p, st) = (.er c p, st) := rfl
@[simp] theorem ev_eb1 {α β : Type} {a : α} {q : α → List Ob → Option (EO β)} : eb (some (.ok a, st)) q = q a st := rfl
@[simp] theorem ev_eb2 {α β : Type} {p : Option Int} {q : α → List Ob → Option (EO β)} : eb (some (.er c p, st)) q = some (.er c p, st) := rfl
@[simp] theorem ev_mMeth {T : DispO} : mMeth m T g fms s = if s.al = true then (g s).bind (onObj s m T fun mf n => eb (fms s) fun ds st1 => (mf (.obj n :: ds) st1).map rsO) else none := rfl
theorem ev_onObj {α : Type} {T : DispO} {q : Fo → Nat → Option α} {mf : Fo} (h1 : s.st[n]? = some ob) (h2 : ob.fs.lookup m = none) (h3 : T.lookup ob.cls = some mf) : onObj s m T q (.obj n) = q mf n := by
  unfold onObj; simp only [h1, h2, h3, Option.bind_some, Option.isSome_none, Bool.false_eq_true, if_false]
@[simp] theorem ev_mMake {mf : Fo} : mMake c mf fms s = if s.al = true then eb (fms s) (fun ds st1 => mkEnd st1.length (mf (.obj st1.length :: ds) (st1 ++ [⟨c, []⟩]))) else none := rfl
@[simp] theorem ev_mkEnd : mkEnd n (some (.val .non, st)) = some (.ok (.obj n), st) := rfl
@[simp] theorem ev_mD2 {q : D → D → Option D} : mD2 q fm fm2 s = eb (fm s) fun x st1 => eb (fm2 ⟨s.r, st1, s.al⟩) fun y st2 => (q x y).map fun d => (.ok d, st2) := rfl
@[simp] theorem ev_mPCall {mf : List D → Option Rs} : mPCall mf fms s = eb (fms s) fun ds st => (rOf mf ds).map fun r => (r, st) := rfl
@[simp] theorem ev_mAnd : mAnd fm fm2 s = eb (fm s) fun d st => (dB d).bind fun c => if c = true then fm2 ⟨s.r, st, s.al⟩ else some (.ok (.bl false), st) := rfl
@[simp] theorem ev_mOr : mOr fm fm2 s = eb (fm s) fun d st => (dB d).bind fun c => if c = true then some (.ok (.bl true), st) else fm2 ⟨s.r, st, s.al⟩ := rfl
@[simp] theorem ev_axApp {dd : List D} : axApp dd fxs s = (match fxs s with
  | some (.ok ds) => some (.ok (ds ++ dd))
  | some (.er c p) => some (.er c p)
  | none => none) := rfl
@[simp] theorem ev_maApp {dd : List D} : maApp dd fms s = eb (fms s) fun ds st => some (.ok (ds ++ dd), st) := rfl
@[simp] theorem ev_axSnoc : axSnoc fxs fx s = (match fxs s with
  | some (.ok ds) => (match fx s with
    | some (.ok d) => some (.ok (ds ++ [d]))
    | some (.er c p) => some (.er c p)
    | none => none)
  | some (.er c p) => some (.er c p)
  | none => none) := rfl
@[simp] theorem ev_maSnoc : maSnoc fms fm s = eb (fms s) fun ds st => eb (fm ⟨s.r, st, s.al⟩) fun d st2 => some (.ok (ds ++ [d]), st2) := rfl
@[simp] theorem ev_mCallO {mf : Fo} : mCallO mf fms s = if s.al = true then (match fms s with
  | some (.ok ds, st1) => (mf ds st1).bind rsN
  | some (.er c p, st1) => some (.er c p, st1)
  | none => none) else none := rfl
@[simp] theorem ev_rsN1 : rsN (.own ds, st) = some (.ok ds, st) := rfl
@[simp] theorem ev_rsN2 {p : Option Int} : rsN (.exc c p, st) = some (.er c p, st) := rfl
@[simp] theorem ev_dCat : dCat (.lst ds) (.lst es) = if ds.length + es.length ≤ 16777216 then some (.lst (ds ++ es)) else none := rfl
@[simp] theorem ev_dIsB {neg x y : Bool} : dIsB neg (.bl x) (.bl y) = some (.bl (neg != decide (x = y))) := rfl
@[simp] theorem ev_bM : bM fm s = eb (fm s) fun d st => (dB d).map fun b => (.ok b, st) := rfl
@[simp] theorem ev_bP : bP t s = (t s).map fun b => (.ok b, s.st) := rfl
@[simp] theorem ev_bMN : bMN tm s = eb (tm s) fun b st => some (.ok (!b), st) := rfl
@[simp] theorem ev_bMA : bMA tm tm2 s = eb (tm s) fun b st => if b = true then tm2 ⟨s.r, st, s.al⟩ else some (.ok false, st) := rfl
@[simp] theorem ev_bMO : bMO tm tm2 s = eb (tm s) fun b st => if b = true then some (.ok true, st) else tm2 ⟨s.r, st, s.al⟩ := rfl
@[simp] theorem ev_onM {α : Type} {fa : S → Option (EO α)} {q : α → S → Option Out} : onM fa q s = (match fa s with
  | some (.ok a, st) => q a ⟨s.r, st, s.al⟩
  | some (.er c p, st) => some (.ex c p ⟨s.r, st, s.al⟩)
  | none => none) := rfl
@[simp] theorem ev_sExprM : sExprM fm s = onM fm (fun _ s => some (.nx s)) s := rfl
@[simp] theorem ev_sSetM : sSetM i fm s = onM fm (fun d s => some (.nx (s.put i (.fr d)))) s := rfl
@[simp] theorem ev_sRetM : sRetM fm s = onM fm (fun d s => some (.rt d s)) s := rfl
@[simp] theorem ev_sSetMO {fl : S → Option (EO (List D))} : sSetMO i fl s = onM fl (fun ds s => some (.nx (s.put i (.ow ds)))) s := rfl
@[simp] theorem ev_sTryN {tab : List (Str × Bool)} {g : S → Option Out} : sTryN tab i g s = (match g s with
  | some (.nx s') => if s'.al = s.al then some (.nx s') else none
  | some (.ex c none s') => (match tab.lookup c with
    | some true => if s'.al = s.al then some (.nx (s'.put i (.fr .non))) else none
    | some false => some (.ex c none s')
    | none => none)
  | some (.rt d s') => some (.rt d s')
  | some (.ro ds s') => some (.ro ds s')
  | _ => none) := rfl
@[simp] theorem ev_dIsiO {tab : List (Str × Bool)} : dIsiO tab f s = (match f s with
  | some (.obj n) => (s.st[n]?).bind fun ob => (tab.lookup ob.cls).map .bl
  | _ => none) := rfl
@[simp] theorem ev_sAsgM {gg : D → S → Option S} : sAsgM fm gg s = onM fm (fun d s => (gg d s).map .nx) s := rfl
@[simp] theorem ev_sSetW {mf : List D → Option (List D)} : sSetW i mf s = (s.own i).bind fun ds => (mf ds).map fun es => .nx (s.put i (.ow es)) := rfl
@[simp] theorem ev_sPar3 {j l : Nat} {f h f2 : S → Option D} : sPar3 i j l f h f2 s = (f s).bind fun d => (h s).bind fun d' => (f2 s).map fun d2 => .nx (((s.put i (.fr d)).put j (.fr d')).put l (.fr d2)) := rfl
@[simp] theorem ev_sSwapIx {f f2 h h2 : S → Option D} : sSwapIx i f f2 h h2 s = (f s).bind fun d => (f2 s).bind fun d2 => (h s).bind fun k => (iInt k).bind fun z => (s.own i).bind fun ds => (ixN ds.length z).bind fun j =>
  (h2 (s.put i (.ow (ds.set j d)))).bind fun k2 => (iInt k2).bind fun z2 => (ixN ds.length z2).map fun j2 => .nx ((s.put i (.ow (ds.set j d))).put i (.ow ((ds.set j d).set j2 d2))) := rfl
@[simp] theorem ev_outW1 : outW (some (.ro ds s)) = some ds := rfl
@[simp] theorem ev_sIfM : sIfM tm g1 g2 s = onM tm (fun c s => if c = true then g1 s else g2 s) s := rfl
@[simp] theorem ev_sFld : sFld cs nm g f s = (f s).bind fun d => (g s).bind (onFld cs s fun n _ => some (.nx (s.fld n nm (.fr d)))) := rfl
@[simp] theorem ev_sFldN : sFldN cs nm g fs s = (fs s).bind fun ds => (g s).bind (onFld cs s fun n _ => some (.nx (s.fld n nm (.ow ds)))) := rfl
@[simp] theorem ev_sFldAdd : sFldAdd cs nm g f s = (g s).bind (onFld cs s fun n ob => match ob.fs.lookup nm, f s with
  | some (.fr (.int i)), some (.int j) => some (.nx (s.fld n nm (.fr (.int (i + j)))))
  | _, _ => none) := rfl
theorem ev_onFld {α : Type} {q : Nat → Ob → Option α} (h1 : s.st[n]? = some ob) (h2 : ob.fs.length < 999) (h3 : cs.contains ob.cls = true) : onFld cs s q (.obj n) = q n ob := by
  unfold onFld; simp only [h1, Option.bind_some]; rw [if_pos ⟨h2, h3⟩]
theorem ev_fld {sl : Sl} (h1 : st[n]? = some ob) : S.fld ⟨r, st, al⟩ n nm sl = ⟨r, st.set n ⟨ob.cls, putS nm sl ob.fs⟩, al⟩ := by
  unfold S.fld; simp only [h1]
@[simp] theorem ev_aug : sAug i f s = (match s.get i, f s with
  | some (.int a), some (.int b) => some (.nx (s.put i (.fr (.int (a + b)))))
  | _, _ => none) := rfl
@[simp] theorem ev_outO1 : outO (some (.nx ⟨r, st, true⟩)) = some (.val .non, st) := rfl
@[simp] theorem ev_outO2 : outO (some (.rt d ⟨r, st, true⟩)) = some (.val d, st) := rfl
@[simp] theorem ev_outO3 : outO (some (.ro ds ⟨r, st, true⟩)) = some (.own ds, st) := rfl
@[simp] theorem ev_outO4 {p : Option Int} : outO (some (.ex c p ⟨r, st, true⟩)) = some (.exc c p, st) := rfl
theorem ev_dFld (h1 : cs.contains c = true) : dFld cs nm (.rob c ns ds) = (ns.zip ds).lookup nm := by
  show (if _ then _ else _) = _
  rw [if_pos h1]
end
theorem seq_stepO {g k : S → Option Out} {s s' : S} {r : Option (Rs × List Ob)} (h : g s = some (.nx s')) (h2 : outO (k s') = r) : outO (sSeq g k s) = r := by
  rw [← h2]; unfold sSeq; rw [h]
theorem sh_non : SeqAt.shaped .none = true := by
  unfold SeqAt.shaped
  simp [PyData.canLay0, PyData.depth, PyData.canLay]
@[simp] theorem ev_neN {b : Int} : dNe .non (.int b) = some (.bl true) := by
  unfold dNe eqB
  simp [toPy, sh_int, sh_non, PyData.eqv]
@[simp] theorem ev_eqN {b : Int} : dEq .non (.int b) = some (.bl false) := by
  unfold dEq eqB
  simp [toPy, sh_int, sh_non, PyData.eqv]
theorem on_obj {α : Type} {r : List Sl} {st : List Ob} {al : Bool} {n : Nat} {ob : Ob} {m : Str} {T : DispO} {q : Fo → Nat → Option α} {mf : Fo} (h1 : st[n]? = some ob) (h2 : ob.fs.lookup m = none) (h3 : T.lookup ob.cls = some mf) : onObj ⟨r, st, al⟩ m T q (.obj n) = q mf n := ev_onObj (s := ⟨r, st, al⟩) h1 h2 h3
theorem on_fld {α : Type} {r : List Sl} {st : List Ob} {al : Bool} {n : Nat} {ob : Ob} {cs : List Str} {q : Nat → Ob → Option α} (h1 : st[n]? = some ob) (h2 : ob.fs.length < 999) (h3 : cs.contains ob.cls = true) : onFld cs ⟨r, st, al⟩ q (.obj n) = q n ob := ev_onFld (s := ⟨r, st, al⟩) h1 h2 h3
@[simp] theorem ev_dIndex {qf : S → Option (Bool × List D)} {f : S → Option D} {s : S} : dIndex qf f s = (qf s).bind fun q => (f s).bind fun d => if q.1 = true then (intsOf q.2).bind fun ns => (iInt d).bind fun i => (idxI ns i).map fun j => .int (j : Nat) else none := rfl
@[simp] theorem ev_nListR {f : S → Option D} {s : S} : nListR f s = (f s).bind fun d => (iInt d).bind fun j => if 0 ≤ j ∧ j ≤ 16777216 then some (rngD 0 j) else none := rfl
theorem ev_shl {a b : Int} (h1 : a.natAbs < 18446744073709551616) (h2 : 0 ≤ b ∧ b ≤ 1000000) : dShl (.int a) (.int b) = some (.int (a * 2 ^ b.toNat)) := by
  unfold dShl iB shlOk powOk
  simp
  omega
theorem seq_stepE {g k : S → Option Out} {s s' : S} {v : Rs} (h : g s = some (.nx s')) (h2 : ∃ st, outO (k s') = some (v, st)) : ∃ st, outO (sSeq g k s) = some (v, st) := by
  obtain ⟨st, e⟩ := h2
  exact ⟨st, seq_stepO h e⟩
theorem lc_const {k : D → Option (Option D)} {n : Nat} {v : Int} (h : ∀ d, k d = some (some (.int v))) : lcGo k (rngD 0 (n : Int)) = some (iL (List.replicate n v)) := by
  rw [rng_map, Int.toNat_natCast, show iL (List.replicate n v) = (List.range n).map (fun _ => D.int v) by simp [iL, List.map_const']]
  exact lc_mapP fun o _ => h _
/-! ### lists lent -/
section
variable {r : List Sl} {st : List Ob} {al : Bool} {d : D} {ds : List D} {is : List Nat} {f : S → Option D} {t : S → Option Bool} {s : S} {k : List Nat} {x : Option D}
@[simp] theorem ev_dLen : dLen is f s = if plainS (s.frzs is) = true then (f (s.frzs is)).bind fun d => if sepA s d = true then some d else none else none := rfl
@[simp] theorem ev_tBor : tBor is t s = if plainS (s.frzs is) = true then t (s.frzs is) else none := rfl
@[simp] theorem sepA_nil : sepA ⟨[], st, al⟩ d = true := rfl
@[simp] theorem sepA_fr {e : D} : sepA ⟨.fr e :: r, st, al⟩ d = sepA ⟨r, st, al⟩ d := rfl
@[simp] theorem sepA_un : sepA ⟨.un :: r, st, al⟩ d = sepA ⟨r, st, al⟩ d := rfl
@[simp] theorem sepA_op : sepA ⟨op x :: r, st, al⟩ d = sepA ⟨r, st, al⟩ d := by cases x <;> rfl
@[simp] theorem sepA_ow : sepA ⟨.ow ds :: r, st, al⟩ d = (sepD (hdD ds) d && sepA ⟨r, st, al⟩ d) := rfl
@[simp] theorem sepD_int {a : Int} : sepD k (.int a) = true := by simp [sepD]
@[simp] theorem sepD_bl {a : Bool} : sepD k (.bl a) = true := by simp [sepD]
@[simp] theorem sepD_non : sepD k .non = true := by simp [sepD]
@[simp] theorem sepD_tup : sepD k (.tup ds) = sepL k ds := by simp [sepD]
@[simp] theorem sepD_lst : sepD k (.lst ds) = ((hdD ds != k) && sepL k ds) := by simp [sepD]
@[simp] theorem sepL_nil : sepL k [] = true := by simp [sepL]
@[simp] theorem sepL_cons : sepL k (d :: ds) = (sepD k d && sepL k ds) := by simp [sepL]
@[simp] theorem sepL_iL : ∀ ns : List Int, sepL k (iL ns) = true
  | [] => by simp [iL]
  | n :: ns => by
    have := sepL_iL ns
    unfold iL at this ⊢
    rw [List.map_cons, sepL_cons, this]
    simp
@[simp] theorem sepL_fL : ∀ ps : List (Int × Int), sepL k (fL ps) = true
  | [] => by simp [fL]
  | p :: ps => by
    have := sepL_fL ps
    unfold fL at this ⊢
    rw [List.map_cons, sepL_cons, this]
    simp [fr]
@[simp] theorem hdD_nil : hdD [] = [] := rfl
@[simp] theorem hdD_cons : hdD (d :: ds) = kd d :: hdD ds := rfl
@[simp] theorem kd_int {a : Int} : kd (.int a) = 2 := rfl
@[simp] theorem kd_lst : kd (.lst ds) = 4 := rfl
@[simp] theorem kd_tup : kd (.tup ds) = 4 := rfl
theorem hd_iL : ∀ ns : List Int, hdD (iL ns) = List.replicate ns.length 2
  | [] => rfl
  | n :: ns => by
    have := hd_iL ns
    unfold iL at this ⊢
    rw [List.map_cons, hdD_cons, this]
    rfl
theorem hd_fL : ∀ ps : List (Int × Int), hdD (fL ps) = List.replicate ps.length 4
  | [] => rfl
  | p :: ps => by
    have := hd_fL ps
    unfold fL at this ⊢
    rw [List.map_cons, hdD_cons, this]
    rfl
/-- a list of lists and a number is no list of fractions -/
theorem sep_pair {ps : List (Int × Int)} {ts : List Int} {L : Int} (h : 0 < ps.length) : sepD (hdD (fL ps)) (.lst [.lst (iL ts), .int L]) = true := by
  have e1 : (hdD (iL ts) != hdD (fL ps)) = true := by
    rw [bne_iff_ne, hd_iL, hd_fL]
    intro e
    cases ps with
    | nil => simp at h
    | cons p ps =>
      have := congrArg (fun l : List Nat => l[0]?) e
      cases ts with
      | nil => simp at this
      | cons t ts => simp [List.replicate_succ] at this
  have e2 : (hdD [D.lst (iL ts), .int L] != hdD (fL ps)) = true := by
    rw [bne_iff_ne, hd_fL]
    intro e
    have l := congrArg List.length e
    simp at l
    rw [← l] at e
    simp [List.replicate_succ] at e
  simp only [sepD_lst, sepL_cons, sepL_nil, e1, e2, sepL_iL, sepD_int, Bool.and_true, Bool.true_and, Bool.and_self]
end
end VS
namespace Lw
open PySem L2 VS
open PyProof.Rows hiding St
/-- shared_factor(one, other): the slots 0 one 1 other -/
noncomputable def w1_shared_factor : S → Option Bool := (tB1 (d2 dNe (fun s => s.get 1) (dC (.int 0))))
noncomputable def b1_shared_factor : S → Option Out := (sSeq (sPar 0 1 (fun s => s.get 1) (d2 dMod (fun s => s.get 0) (fun s => s.get 1))) sNil)
noncomputable def g_shared_factor : S → Option Out := (sSeq (sPar 0 1 (dCall gAbs (aCons (fun s => s.get 0) aNil)) (dCall gAbs (aCons (fun s => s.get 1) aNil))) (sSeq (sWhile w1_shared_factor b1_shared_factor) (sSeq (sRet (fun s => s.get 0)) sNil)))
noncomputable def f_shared_factor : List D → Option Rs := fnP 2 g_shared_factor
theorem u_shared_factor (x0 x1 : D) : f_shared_factor [x0, x1] = outR (g_shared_factor ⟨[.fr x0, .fr x1], [], false⟩) := rfl
/-- part(top, bottom): the slots 0 top 1 bottom 2 factor -/
noncomputable def g_part : S → Option Out := (sSeq (sIf (tB1 (d2 dEq (fun s => s.get 1) (dC (.int 0)))) (sSeq (sRaise "NoFraction" none) sNil) sNil) (sSeq (sSet 2 (dCall (vOf f_shared_factor) (aCons (fun s => s.get 0) (aCons (fun s => s.get 1) aNil)))) (sSeq (sIf (tB1 (d2 dLt (fun s => s.get 1) (dC (.int 0)))) (sSeq (sSet 2 (d2 dSub (dC (.int 0)) (fun s => s.get 2))) sNil) sNil) (sSeq (sRet (dTup (aCons (d2 dDiv (fun s => s.get 0) (fun s => s.get 2)) (aCons (d2 dDiv (fun s => s.get 1) (fun s => s.get 2)) aNil)))) sNil))))
noncomputable def f_part : List D → Option Rs := fnP 3 g_part
theorem u_part (x0 x1 : D) : f_part [x0, x1] = outR (g_part ⟨[.fr x0, .fr x1, .un], [], false⟩) := rfl
/-- product(one, other): the slots 0 one 1 other 2 here 3 there -/
noncomputable def e1_product : S → Option D := (d2 dMulI (fun s => s.get 2) (fun s => s.get 3))
noncomputable def g_product : S → Option Out := (sSeq (sRet (dCallS gSum (sN (nLc [2, 3] (iZip (fun s => s.get 0) (fun s => s.get 1)) (gTupN 2 (gsCons (gName' 2) (gsCons (gName' 3) gsNil))) bYes e1_product)))) sNil)
noncomputable def f_product : List D → Option Rs := fnP 4 g_product
theorem u_product (x0 x1 : D) : f_product [x0, x1] = outR (g_product ⟨[.fr x0, .fr x1, .un, .un], [], false⟩) := rfl
/-- square(one): the slots 0 one -/
noncomputable def g_square : S → Option Out := (sSeq (sRet (dCall (vOf f_product) (aCons (fun s => s.get 0) (aCons (fun s => s.get 0) aNil)))) sNil)
noncomputable def f_square : List D → Option Rs := fnP 1 g_square
theorem u_square (x0 : D) : f_square [x0] = outR (g_square ⟨[.fr x0], [], false⟩) := rfl
/-- eliminated(table): the slots 0 table 1 before 2 k 3 at 4 middle 5 i 6 here 7 one 8 other -/
noncomputable def w1_eliminated : S → Option Bool := (tB1 (d2 dEq (dIx (sV (dIx (fun s => s.seq 0) (fun s => s.get 3))) (fun s => s.get 2)) (dC (.int 0))))
noncomputable def b1_eliminated : S → Option Out := (sSeq (sAug 3 (dC (.int 1))) sNil)
noncomputable def e1_eliminated : S → Option D := (d2 dDiv (d2 dSub (d2 dMulI (fun s => s.get 7) (dIx (fun s => s.seq 4) (fun s => s.get 2))) (d2 dMulI (fun s => s.get 6) (fun s => s.get 8))) (fun s => s.get 1))
noncomputable def b2_eliminated : S → Option Out := (sSeq (sIf (tB1 (d2 dNe (fun s => s.get 5) (fun s => s.get 2))) (sSeq (sSet 6 (dIx (sV (dIx (fun s => s.seq 0) (fun s => s.get 5))) (fun s => s.get 2))) (sSeq (sSetIx 0 (vN (nLc [7, 8] (iZip (dIx (fun s => s.seq 0) (fun s => s.get 5)) (fun s => s.get 4)) (gTupN 2 (gsCons (gName' 7) (gsCons (gName' 8) gsNil))) bYes e1_eliminated)) (fun s => s.get 5)) sNil)) sNil) sNil)
noncomputable def b3_eliminated : S → Option Out := (sSeq (sSet 3 (fun s => s.get 2)) (sSeq (sWhile w1_eliminated b1_eliminated) (sSeq (sSwapIx 0 (dIx (fun s => s.seq 0) (fun s => s.get 3)) (dIx (fun s => s.seq 0) (fun s => s.get 2)) (fun s => s.get 2) (fun s => s.get 3)) (sSeq (sSet 4 (dIx (fun s => s.seq 0) (fun s => s.get 2))) (sSeq (sFor (iRng1 (dCallS gLen (fun s => s.seq 0))) (gName' 5) b2_eliminated) (sSeq (sSet 1 (dIx (fun s => s.seq 4) (fun s => s.get 2))) sNil))))))
noncomputable def g_eliminated : S → Option Out := (sSeq (sSet 1 (dC (.int 1))) (sSeq (sFor (iRng1 (dCallS gLen (fun s => s.seq 0))) (gName' 2) b3_eliminated) (sSeq (sRetOwn 0) sNil)))
noncomputable def f_eliminated : List D → Option (List D) := fnW 9 g_eliminated
theorem u_eliminated (ds : List D) : f_eliminated ds = outW (g_eliminated ⟨[.ow ds, .un, .un, .un, .un, .un, .un, .un, .un], [], false⟩) := rfl
/-- flat_tops(vectors, some): the slots 0 vectors 1 some 2 table 3 one 4 other 5 bottom 6 tops 7 row 8 top -/
noncomputable def e1_flat_tops : S → Option D := (dC (.int 1))
noncomputable def e2_flat_tops : S → Option D := (dCall (vOf f_product) (aCons (dIx (fun s => s.seq 0) (fun s => s.get 3)) (aCons (dIx (fun s => s.seq 0) (fun s => s.get 4)) aNil)))
noncomputable def b1_flat_tops : S → Option Out := (sSeq (sApp 2 (vN (nCat (sN (nCat (sN (dLst (aCons (dC (.int 1)) aNil))) (sN (nLc [4] (iSeq (fun s => s.get 1)) (gName' 4) bYes e2_flat_tops)))) (sN (dLst (aCons (dC (.int 0)) aNil)))))) sNil)
noncomputable def e3_flat_tops : S → Option D := (dIx (fun s => s.seq 7) (d1 dNeg (dC (.int 1))))
noncomputable def e4_flat_tops : S → Option D := (d2 dSub (dC (.int 0)) (fun s => s.get 8))
noncomputable def g_flat_tops : S → Option Out := (sSeq (sSetO 2 (dLst (aCons (vN (nCat (sN (nCat (sN (dLst (aCons (dC (.int 0)) aNil))) (sN (nLc [3] (iSeq (fun s => s.get 1)) (gName' 3) bYes e1_flat_tops)))) (sN (dLst (aCons (dC (.int 1)) aNil))))) aNil))) (sSeq (sFor (iSeq (fun s => s.get 1)) (gName' 3) b1_flat_tops) (sSeq (sSetW 2 f_eliminated) (sSeq (sSet 5 (dIx (sV (dIx (fun s => s.seq 2) (dC (.int 0)))) (dC (.int 0)))) (sSeq (sSet 6 (vN (nLc [7] (iSeq (dCut (fun s => s.seq 2) (oSome (dC (.int 1))) oNone gCut)) (gName' 7) bYes e3_flat_tops))) (sSeq (sIf (tB1 (d2 dLt (fun s => s.get 5) (dC (.int 0)))) (sSeq (sRet (dTup (aCons (vN (nLc [8] (iSeq (fun s => s.get 6)) (gName' 8) bYes e4_flat_tops)) (aCons (d2 dSub (dC (.int 0)) (fun s => s.get 5)) aNil)))) sNil) sNil) (sSeq (sRet (dTup (aCons (fun s => s.get 6) (aCons (fun s => s.get 5) aNil)))) sNil)))))))
noncomputable def f_flat_tops : List D → Option Rs := fnP 9 g_flat_tops
theorem u_flat_tops (x0 x1 : D) : f_flat_tops [x0, x1] = outR (g_flat_tops ⟨[.fr x0, .fr x1, .un, .un, .un, .un, .un, .un, .un], [], false⟩) := rfl
/-- lowest_terms(tops, bottom): the slots 0 tops 1 bottom 2 factor 3 top -/
noncomputable def b1_lowest_terms : S → Option Out := (sSeq (sSet 2 (dCall (vOf f_shared_factor) (aCons (fun s => s.get 2) (aCons (fun s => s.get 3) aNil)))) sNil)
noncomputable def e1_lowest_terms : S → Option D := (d2 dDiv (fun s => s.get 3) (fun s => s.get 2))
noncomputable def g_lowest_terms : S → Option Out := (sSeq (sSet 2 (fun s => s.get 1)) (sSeq (sFor (iSeq (fun s => s.get 0)) (gName' 3) b1_lowest_terms) (sSeq (sRet (dTup (aCons (vN (nLc [3] (iSeq (fun s => s.get 0)) (gName' 3) bYes e1_lowest_terms)) (aCons (d2 dDiv (fun s => s.get 1) (fun s => s.get 2)) aNil)))) sNil)))
noncomputable def f_lowest_terms : List D → Option Rs := fnP 4 g_lowest_terms
theorem u_lowest_terms (x0 x1 : D) : f_lowest_terms [x0, x1] = outR (g_lowest_terms ⟨[.fr x0, .fr x1, .un, .un], [], false⟩) := rfl
/-- first_left(tops, bottom, flat, under): the slots 0 tops 1 bottom 2 flat 3 under 4 best 5 top 6 aim 7 go 8 way -/
noncomputable def b1_first_left : S → Option Out := (sSeq (sIf (tB1 (d2 dLt (fun s => s.get 6) (dC (.int 0)))) (sSeq (sSet 7 (d2 dMulI (fun s => s.get 5) (fun s => s.get 3))) (sSeq (sSet 8 (d2 dSub (fun s => s.get 7) (d2 dMulI (fun s => s.get 6) (fun s => s.get 1)))) (sSeq (sIf (tB1 (d2 dLt (d2 dMulI (fun s => s.get 7) (dIx (fun s => s.seq 4) (dC (.int 1)))) (d2 dMulI (dIx (fun s => s.seq 4) (dC (.int 0))) (fun s => s.get 8)))) (sSeq (sSet 4 (dTup (aCons (fun s => s.get 7) (aCons (fun s => s.get 8) aNil)))) sNil) sNil) sNil))) sNil) sNil)
noncomputable def g_first_left : S → Option Out := (sSeq (sSet 4 (dTup (aCons (dC (.int 1)) (aCons (dC (.int 1)) aNil)))) (sSeq (sFor (iZip (fun s => s.get 0) (fun s => s.get 2)) (gTupN 2 (gsCons (gName' 5) (gsCons (gName' 6) gsNil))) b1_first_left) (sSeq (sRet (fun s => s.get 4)) sNil)))
noncomputable def f_first_left : List D → Option Rs := fnP 9 g_first_left
theorem u_first_left (x0 x1 x2 x3 : D) : f_first_left [x0, x1, x2, x3] = outR (g_first_left ⟨[.fr x0, .fr x1, .fr x2, .fr x3, .un, .un, .un, .un, .un], [], false⟩) := rfl
/-- brought_in(vectors, some, tops, bottom): the slots 0 vectors 1 some 2 tops 3 bottom 4 flat 5 under 6 go 7 way 8 mixed 9 top 10 aim 11 kept 12 k -/
noncomputable def e1_brought_in : S → Option D := (d2 dAdd (d2 dMulI (d2 dMulI (fun s => s.get 9) (fun s => s.get 5)) (d2 dSub (fun s => s.get 7) (fun s => s.get 6))) (d2 dMulI (d2 dMulI (fun s => s.get 10) (fun s => s.get 3)) (fun s => s.get 6)))
noncomputable def t1_brought_in : S → Option Bool := (tB1 (d2 dGt (dIx (fun s => s.seq 8) (fun s => s.get 12)) (dC (.int 0))))
noncomputable def e2_brought_in : S → Option D := (fun s => s.get 12)
noncomputable def e3_brought_in : S → Option D := (dIx (fun s => s.seq 1) (fun s => s.get 12))
noncomputable def e4_brought_in : S → Option D := (dIx (fun s => s.seq 8) (fun s => s.get 12))
noncomputable def w1_brought_in : S → Option Bool := (tB1 (d2 dLt (dCallS gMin (fun s => s.seq 4)) (dC (.int 0))))
noncomputable def b1_brought_in : S → Option Out := (sSeq (sAsg (dCall (vOf f_first_left) (aCons (fun s => s.get 2) (aCons (fun s => s.get 3) (aCons (fun s => s.get 4) (aCons (fun s => s.get 5) aNil))))) (gTupN 2 (gsCons (gName' 6) (gsCons (gName' 7) gsNil)))) (sSeq (sSet 8 (vN (nLc [9, 10] (iZip (fun s => s.get 2) (fun s => s.get 4)) (gTupN 2 (gsCons (gName' 9) (gsCons (gName' 10) gsNil))) bYes e1_brought_in))) (sSeq (sSet 11 (vN (nLc [12] (iRng1 (dCallS gLen (fun s => s.seq 1))) (gName' 12) t1_brought_in e2_brought_in))) (sSeq (sSet 1 (vN (nLc [12] (iSeq (fun s => s.get 11)) (gName' 12) bYes e3_brought_in))) (sSeq (sAsg (dCall (vOf f_lowest_terms) (aCons (vN (nLc [12] (iSeq (fun s => s.get 11)) (gName' 12) bYes e4_brought_in)) (aCons (d2 dMulI (d2 dMulI (fun s => s.get 3) (fun s => s.get 5)) (fun s => s.get 7)) aNil))) (gTupN 2 (gsCons (gName' 2) (gsCons (gName' 3) gsNil)))) (sSeq (sAsg (dCall (vOf f_flat_tops) (aCons (fun s => s.get 0) (aCons (fun s => s.get 1) aNil))) (gTupN 2 (gsCons (gName' 4) (gsCons (gName' 5) gsNil)))) sNil))))))
noncomputable def t2_brought_in : S → Option Bool := (tB1 (d2 dGt (dIx (fun s => s.seq 4) (fun s => s.get 12)) (dC (.int 0))))
noncomputable def e5_brought_in : S → Option D := (fun s => s.get 12)
noncomputable def e6_brought_in : S → Option D := (dIx (fun s => s.seq 4) (fun s => s.get 12))
noncomputable def e7_brought_in : S → Option D := (dIx (fun s => s.seq 1) (fun s => s.get 12))
noncomputable def g_brought_in : S → Option Out := (sSeq (sAsg (dCall (vOf f_flat_tops) (aCons (fun s => s.get 0) (aCons (fun s => s.get 1) aNil))) (gTupN 2 (gsCons (gName' 4) (gsCons (gName' 5) gsNil)))) (sSeq (sWhile w1_brought_in b1_brought_in) (sSeq (sSet 11 (vN (nLc [12] (iRng1 (dCallS gLen (fun s => s.seq 1))) (gName' 12) t2_brought_in e5_brought_in))) (sSeq (sAsg (dCall (vOf f_lowest_terms) (aCons (vN (nLc [12] (iSeq (fun s => s.get 11)) (gName' 12) bYes e6_brought_in)) (aCons (fun s => s.get 5) aNil))) (gTupN 2 (gsCons (gName' 2) (gsCons (gName' 3) gsNil)))) (sSeq (sRet (dTup (aCons (vN (nLc [12] (iSeq (fun s => s.get 11)) (gName' 12) bYes e7_brought_in)) (aCons (fun s => s.get 2) (aCons (fun s => s.get 3) aNil))))) sNil)))))
noncomputable def f_brought_in : List D → Option Rs := fnP 13 g_brought_in
theorem u_brought_in (x0 x1 x2 x3 : D) : f_brought_in [x0, x1, x2, x3] = outR (g_brought_in ⟨[.fr x0, .fr x1, .fr x2, .fr x3, .un, .un, .un, .un, .un, .un, .un, .un, .un], [], false⟩) := rfl
/-- summed(vectors, some, tops): the slots 0 vectors 1 some 2 tops 3 total 4 number 5 one 6 top 7 here -/
noncomputable def e1_summed : S → Option D := (dC (.int 0))
noncomputable def e2_summed : S → Option D := (d2 dAdd (fun s => s.get 7) (d2 dMulI (fun s => s.get 6) (fun s => s.get 4)))
noncomputable def b1_summed : S → Option Out := (sSeq (sSet 3 (vN (nLc [7, 4] (iZip (fun s => s.get 3) (dIx (fun s => s.seq 0) (fun s => s.get 5))) (gTupN 2 (gsCons (gName' 7) (gsCons (gName' 4) gsNil))) bYes e2_summed))) sNil)
noncomputable def g_summed : S → Option Out := (sSeq (sSet 3 (vN (nLc [4] (iSeq (dIx (fun s => s.seq 0) (dC (.int 0)))) (gName' 4) bYes e1_summed))) (sSeq (sFor (iZip (fun s => s.get 1) (fun s => s.get 2)) (gTupN 2 (gsCons (gName' 5) (gsCons (gName' 6) gsNil))) b1_summed) (sSeq (sRet (fun s => s.get 3)) sNil)))
noncomputable def f_summed : List D → Option Rs := fnP 8 g_summed
theorem u_summed (x0 x1 x2 : D) : f_summed [x0, x1, x2] = outR (g_summed ⟨[.fr x0, .fr x1, .fr x2, .un, .un, .un, .un, .un], [], false⟩) := rfl
/-- least_at(vectors, mixed): the slots 0 vectors 1 mixed 2 best 3 number 4 vector -/
noncomputable def b1_least_at : S → Option Out := (sSeq (sIf (tB1 (d2 dLt (dCall (vOf f_product) (aCons (fun s => s.get 1) (aCons (fun s => s.get 4) aNil))) (dCall (vOf f_product) (aCons (fun s => s.get 1) (aCons (dIx (fun s => s.seq 0) (fun s => s.get 2)) aNil))))) (sSeq (sSet 2 (fun s => s.get 3)) sNil) sNil) sNil)
noncomputable def g_least_at : S → Option Out := (sSeq (sSet 2 (dC (.int 0))) (sSeq (sFor (iEnum (fun s => s.get 0)) (gTupN 2 (gsCons (gName' 3) (gsCons (gName' 4) gsNil))) b1_least_at) (sSeq (sRet (fun s => s.get 2)) sNil)))
noncomputable def f_least_at : List D → Option Rs := fnP 5 g_least_at
theorem u_least_at (x0 x1 : D) : f_least_at [x0, x1] = outR (g_least_at ⟨[.fr x0, .fr x1, .un, .un, .un], [], false⟩) := rfl
/-- nearest_shares(vectors): the slots 0 vectors 1 squares 2 vector 3 some 4 tops 5 bottom 6 mixed 7 at 8 shares 9 one 10 top -/
noncomputable def e1_nearest_shares : S → Option D := (dCall (vOf f_square) (aCons (fun s => s.get 2) aNil))
noncomputable def w1_nearest_shares : S → Option Bool := (tB1 (d2 dLt (d2 dMulI (fun s => s.get 5) (dCall (vOf f_product) (aCons (fun s => s.get 6) (aCons (dIx (fun s => s.seq 0) (fun s => s.get 7)) aNil)))) (dCall (vOf f_square) (aCons (fun s => s.get 6) aNil))))
noncomputable def b1_nearest_shares : S → Option Out := (sSeq (sAsg (dCall (vOf f_brought_in) (aCons (fun s => s.get 0) (aCons (vN (nCat (fun s => s.seq 3) (sN (dLst (aCons (fun s => s.get 7) aNil))))) (aCons (vN (nCat (fun s => s.seq 4) (sN (dLst (aCons (dC (.int 0)) aNil))))) (aCons (fun s => s.get 5) aNil))))) (gTupN 3 (gsCons (gName' 3) (gsCons (gName' 4) (gsCons (gName' 5) gsNil))))) (sSeq (sSet 6 (dCall (vOf f_summed) (aCons (fun s => s.get 0) (aCons (fun s => s.get 3) (aCons (fun s => s.get 4) aNil))))) (sSeq (sSet 7 (dCall (vOf f_least_at) (aCons (fun s => s.get 0) (aCons (fun s => s.get 6) aNil)))) sNil)))
noncomputable def e2_nearest_shares : S → Option D := (dTup (aCons (dC (.int 0)) (aCons (dC (.int 1)) aNil)))
noncomputable def b2_nearest_shares : S → Option Out := (sSeq (sSetIx 8 (dCall (vOf f_part) (aCons (fun s => s.get 10) (aCons (fun s => s.get 5) aNil))) (fun s => s.get 9)) sNil)
noncomputable def g_nearest_shares : S → Option Out := (sSeq (sSet 1 (vN (nLc [2] (iSeq (fun s => s.get 0)) (gName' 2) bYes e1_nearest_shares))) (sSeq (sPar3 3 4 5 (vN (dLst (aCons (dIndex (fun s => s.seq 1) (dCallS gMin (fun s => s.seq 1))) aNil))) (vN (dLst (aCons (dC (.int 1)) aNil))) (dC (.int 1))) (sSeq (sSet 6 (dCall (vOf f_summed) (aCons (fun s => s.get 0) (aCons (fun s => s.get 3) (aCons (fun s => s.get 4) aNil))))) (sSeq (sSet 7 (dCall (vOf f_least_at) (aCons (fun s => s.get 0) (aCons (fun s => s.get 6) aNil)))) (sSeq (sWhile w1_nearest_shares b1_nearest_shares) (sSeq (sSetO 8 (nLc [2] (iSeq (fun s => s.get 0)) (gName' 2) bYes e2_nearest_shares)) (sSeq (sFor (iZip (fun s => s.get 3) (fun s => s.get 4)) (gTupN 2 (gsCons (gName' 9) (gsCons (gName' 10) gsNil))) b2_nearest_shares) (sSeq (sRetOwn 8) sNil))))))))
noncomputable def f_nearest_shares : List D → Option Rs := fnP 11 g_nearest_shares
theorem u_nearest_shares (x0 : D) : f_nearest_shares [x0] = outR (g_nearest_shares ⟨[.fr x0, .un, .un, .un, .un, .un, .un, .un, .un, .un, .un], [], false⟩) := rfl
/-- _law_cell_at(_law_script, _law_k): the slots 0 _law_script 1 _law_k -/
noncomputable def g_law_cell_at : S → Option Out := (sSeq (sIf (tB1 (d2 dLt (fun s => s.get 1) (dCallS gLen (fun s => s.seq 0)))) (sSeq (sRet (dIx (fun s => s.seq 0) (fun s => s.get 1))) sNil) sNil) (sSeq (sRet (dC (.int 0))) sNil))
noncomputable def f_law_cell_at : List D → Option Rs := fnP 2 g_law_cell_at
theorem u_law_cell_at (x0 x1 : D) : f_law_cell_at [x0, x1] = outR (g_law_cell_at ⟨[.fr x0, .fr x1], [], false⟩) := rfl
/-- _law_mixed(_law_cell, _law_k): the slots 0 _law_cell 1 _law_k 2 _law_number -/
noncomputable def g_law_mixed : S → Option Out := (sSeq (sSet 2 (d2 dMod (d2 dMulI (d2 dAdd (d2 dAdd (d2 dAdd (d2 dMod (fun s => s.get 0) (d2 dPow (dC (.int 10)) (dC (.int 30)))) (d2 dMulI (d2 dMulI (dC (.int 7919)) (fun s => s.get 1)) (fun s => s.get 1))) (d2 dMulI (dC (.int 13)) (fun s => s.get 1))) (dC (.int 5))) (dC (.int 48271))) (dC (.int 2147483647)))) (sSeq (sRet (d2 dMod (d2 dAdd (d2 dAdd (d2 dMulI (fun s => s.get 2) (dC (.int 69621))) (d2 dMulI (dC (.int 5)) (fun s => s.get 1))) (dC (.int 1))) (dC (.int 2147483629)))) sNil))
noncomputable def f_law_mixed : List D → Option Rs := fnP 3 g_law_mixed
theorem u_law_mixed (x0 x1 : D) : f_law_mixed [x0, x1] = outR (g_law_mixed ⟨[.fr x0, .fr x1, .un], [], false⟩) := rfl
/-- _law_draws(_law_cell, _law_most, _law_many, _law_way): the slots 0 _law_cell 1 _law_most 2 _law_many 3 _law_way 4 _law_found 5 _law_left 6 _law_k -/
noncomputable def b1_law_draws : S → Option Out := (sSeq (sIf (bAnd (tB1 (d2 dEq (fun s => s.get 3) (dC (.int 0)))) (tB1 (d2 dGt (fun s => s.get 5) (dC (.int 0))))) (sSeq (sApp 4 (d2 dMod (fun s => s.get 5) (fun s => s.get 1))) (sSeq (sSet 5 (d2 dDiv (fun s => s.get 5) (fun s => s.get 1))) sNil)) (sSeq (sApp 4 (d2 dMod (d2 dDiv (dCall (vOf f_law_mixed) (aCons (fun s => s.get 0) (aCons (fun s => s.get 6) aNil))) (dC (.int 8))) (fun s => s.get 1))) sNil)) sNil)
noncomputable def g_law_draws : S → Option Out := (sSeq (sSetO 4 (dLst aNil)) (sSeq (sSet 5 (dCall gAbs (aCons (fun s => s.get 0) aNil))) (sSeq (sFor (iRng1 (fun s => s.get 2)) (gName' 6) b1_law_draws) (sSeq (sFrz 4 (sRet (fun s => s.get 4))) sNil))))
noncomputable def f_law_draws : List D → Option Rs := fnP 7 g_law_draws
theorem u_law_draws (x0 x1 x2 x3 : D) : f_law_draws [x0, x1, x2, x3] = outR (g_law_draws ⟨[.fr x0, .fr x1, .fr x2, .fr x3, .un, .un, .un], [], false⟩) := rfl
/-- _law_vectors(_law_script): the slots 0 _law_script 1 _law_first 2 _law_long 3 _law_way 4 _law_many 5 _law_most 6 _law_cells 7 _law_draws_here 8 _law_k 9 _law_shift 10 _law_draw -/
noncomputable def e1_law_vectors : S → Option D := (d2 dMod (d2 dDiv (dCall (vOf f_law_mixed) (aCons (dCall (vOf f_law_cell_at) (aCons (fun s => s.get 6) (aCons (fun s => s.get 8) aNil))) (aCons (fun s => s.get 8) aNil))) (dC (.int 8))) (fun s => s.get 5))
noncomputable def e2_law_vectors : S → Option D := (d2 dMod (d2 dDiv (dCall (vOf f_law_mixed) (aCons (dCall (vOf f_law_cell_at) (aCons (fun s => s.get 6) (aCons (d2 dMod (fun s => s.get 8) (dC (.int 60))) aNil))) (aCons (fun s => s.get 8) aNil))) (dC (.int 8))) (dC (.int 3)))
noncomputable def e3_law_vectors : S → Option D := (d2 dSub (fun s => s.get 10) (dC (.int 1)))
noncomputable def e4_law_vectors : S → Option D := (dCallS gTuple (sN (nLc [10] (iSeq (dCut (fun s => s.seq 7) (oSome (d2 dMulI (dC (.int 12)) (fun s => s.get 8))) (oSome (d2 dAdd (d2 dMulI (dC (.int 12)) (fun s => s.get 8)) (dC (.int 12)))) gCut)) (gName' 10) bYes e3_law_vectors)))
noncomputable def e5_law_vectors : S → Option D := (d2 dSub (fun s => s.get 10) (fun s => s.get 9))
noncomputable def e6_law_vectors : S → Option D := (dCallS gTuple (sN (nLc [10] (iSeq (dCut (fun s => s.seq 7) (oSome (d2 dMulI (fun s => s.get 8) (fun s => s.get 2))) (oSome (d2 dMulI (d2 dAdd (fun s => s.get 8) (dC (.int 1))) (fun s => s.get 2))) gCut)) (gName' 10) bYes e5_law_vectors)))
noncomputable def g_law_vectors : S → Option Out := (sSeq (sSet 1 (dCall (vOf f_law_cell_at) (aCons (fun s => s.get 0) (aCons (dC (.int 0)) aNil)))) (sSeq (sSet 2 (d2 dAdd (dC (.int 1)) (d2 dMod (fun s => s.get 1) (dC (.int 4))))) (sSeq (sSet 3 (d2 dMod (d2 dDiv (fun s => s.get 1) (dC (.int 4))) (dC (.int 2)))) (sSeq (sSet 4 (d2 dAdd (dC (.int 1)) (d2 dMod (d2 dDiv (fun s => s.get 1) (dC (.int 8))) (dIx (sN (dLst (aCons (dC (.int 10)) (aCons (dC (.int 4)) aNil)))) (dCall gInt (aCons (d2 dEq (d2 dMod (d2 dDiv (fun s => s.get 1) (dC (.int 80))) (dC (.int 8))) (dC (.int 1))) aNil)))))) (sSeq (sSet 5 (dIx (sN (dLst (aCons (dC (.int 7)) (aCons (dC (.int 11)) (aCons (dC (.int 5)) aNil))))) (d2 dMod (d2 dDiv (fun s => s.get 1) (dC (.int 640))) (dC (.int 3))))) (sSeq (sIf (tB1 (d2 dEq (d2 dMod (d2 dDiv (fun s => s.get 1) (dC (.int 80))) (dC (.int 8))) (dC (.int 1)))) (sSeq (sSet 5 (dC (.int 20001))) sNil) sNil) (sSeq (sSet 6 (dCut (fun s => s.seq 0) (oSome (dC (.int 2))) (oSome (dC (.int 62))) gCut)) (sSeq (sIf (tB1 (d2 dEq (fun s => s.get 3) (dC (.int 0)))) (sSeq (sSet 7 (dCall (vOf f_law_draws) (aCons (dCall (vOf f_law_cell_at) (aCons (fun s => s.get 0) (aCons (dC (.int 2)) aNil))) (aCons (fun s => s.get 5) (aCons (d2 dMulI (fun s => s.get 4) (fun s => s.get 2)) (aCons (dC (.int 0)) aNil)))))) sNil) (sSeq (sSet 7 (vN (nLc [8] (iRng1 (d2 dMulI (fun s => s.get 4) (fun s => s.get 2))) (gName' 8) bYes e1_law_vectors))) sNil)) (sSeq (sSet 9 (dIx (sN (dLst (aCons (d2 dDiv (fun s => s.get 5) (dC (.int 2))) (aCons (dC (.int 0)) (aCons (d2 dDiv (fun s => s.get 5) (dC (.int 2))) (aCons (d2 dDiv (fun s => s.get 5) (dC (.int 3))) aNil)))))) (d2 dMod (d2 dDiv (fun s => s.get 1) (dC (.int 1920))) (dC (.int 4))))) (sSeq (sIf (tB1 (d2 dEq (fun s => s.get 5) (dC (.int 20001)))) (sSeq (sSet 9 (dC (.int 10000))) sNil) sNil) (sSeq (sIf (tB1 (d2 dEq (d2 dMod (d2 dDiv (fun s => s.get 1) (dC (.int 7680))) (dC (.int 32))) (dC (.int 5)))) (sSeq (sSet 7 (vN (nLc [8] (iRng1 (dC (.int 240))) (gName' 8) bYes e2_law_vectors))) (sSeq (sRet (vN (nLc [8] (iRng1 (dC (.int 20))) (gName' 8) bYes e4_law_vectors))) sNil)) sNil) (sSeq (sRet (vN (nLc [8] (iRng1 (fun s => s.get 4)) (gName' 8) bYes e6_law_vectors))) sNil))))))))))))
noncomputable def f_law_vectors : List D → Option Rs := fnP 11 g_law_vectors
theorem u_law_vectors (x0 : D) : f_law_vectors [x0] = outR (g_law_vectors ⟨[.fr x0, .un, .un, .un, .un, .un, .un, .un, .un, .un, .un], [], false⟩) := rfl
/-- _law_factor(_law_one, _law_other): the slots 0 _law_one 1 _law_other -/
noncomputable def w1_law_factor : S → Option Bool := (tB1 (d2 dGt (fun s => s.get 1) (dC (.int 0))))
noncomputable def b1_law_factor : S → Option Out := (sSeq (sPar 0 1 (fun s => s.get 1) (d2 dMod (fun s => s.get 0) (fun s => s.get 1))) sNil)
noncomputable def g_law_factor : S → Option Out := (sSeq (sSet 0 (dCall gAbs (aCons (fun s => s.get 0) aNil))) (sSeq (sSet 1 (dCall gAbs (aCons (fun s => s.get 1) aNil))) (sSeq (sWhile w1_law_factor b1_law_factor) (sSeq (sRet (fun s => s.get 0)) sNil))))
noncomputable def f_law_factor : List D → Option Rs := fnP 2 g_law_factor
theorem u_law_factor (x0 x1 : D) : f_law_factor [x0, x1] = outR (g_law_factor ⟨[.fr x0, .fr x1], [], false⟩) := rfl
/-- _law_is_part(_law_found, _law_top, _law_bottom): the slots 0 _law_found 1 _law_top 2 _law_bottom 3 _law_one -/
noncomputable def b1_law_is_part : S → Option Out := (sSeq (sIf (bOr (bNot (tB1 (d1 (dIsi .int) (fun s => s.get 3)))) (tB1 (d1 (dIsi .bl) (fun s => s.get 3)))) (sSeq (sRet (dC (.bl false))) sNil) sNil) sNil)
noncomputable def g_law_is_part : S → Option Out := (sSeq (sIf (bOr (bNot (tB1 (d1 (dIsi .tup) (fun s => s.get 0)))) (tB1 (d2 dNe (dCallS gLen (fun s => s.seq 0)) (dC (.int 2))))) (sSeq (sRet (dC (.bl false))) sNil) sNil) (sSeq (sFor (iSeq (fun s => s.get 0)) (gName' 3) b1_law_is_part) (sSeq (sIf (bOr (tB1 (d2 dLt (dIx (fun s => s.seq 0) (dC (.int 1))) (dC (.int 1)))) (tB1 (d2 dNe (dCall (vOf f_law_factor) (aCons (dIx (fun s => s.seq 0) (dC (.int 0))) (aCons (dIx (fun s => s.seq 0) (dC (.int 1))) aNil))) (dC (.int 1))))) (sSeq (sRet (dC (.bl false))) sNil) sNil) (sSeq (sRet (d2 dEq (d2 dMulI (dIx (fun s => s.seq 0) (dC (.int 0))) (fun s => s.get 2)) (d2 dMulI (fun s => s.get 1) (dIx (fun s => s.seq 0) (dC (.int 1)))))) sNil))))
noncomputable def f_law_is_part : List D → Option Rs := fnP 4 g_law_is_part
theorem u_law_is_part (x0 x1 x2 : D) : f_law_is_part [x0, x1, x2] = outR (g_law_is_part ⟨[.fr x0, .fr x1, .fr x2, .un], [], false⟩) := rfl
/-- _law_are_shares(_law_found, _law_many): the slots 0 _law_found 1 _law_many 2 _law_top 3 _law_bottom 4 _law_one 5 _law_factor_here -/
noncomputable def b1_law_are_shares : S → Option Out := (sSeq (sIf (bOr (bNot (tB1 (dCall (vOf f_law_is_part) (aCons (fun s => s.get 4) (aCons (dIx (fun s => s.seq 4) (dC (.int 0))) (aCons (dIx (fun s => s.seq 4) (dC (.int 1))) aNil)))))) (tB1 (d2 dLt (dIx (fun s => s.seq 4) (dC (.int 0))) (dC (.int 0))))) (sSeq (sRet (dC (.bl false))) sNil) sNil) (sSeq (sSet 2 (d2 dAdd (d2 dMulI (fun s => s.get 2) (dIx (fun s => s.seq 4) (dC (.int 1)))) (d2 dMulI (dIx (fun s => s.seq 4) (dC (.int 0))) (fun s => s.get 3)))) (sSeq (sSet 3 (d2 dMulI (fun s => s.get 3) (dIx (fun s => s.seq 4) (dC (.int 1))))) (sSeq (sSet 5 (dCall (vOf f_law_factor) (aCons (fun s => s.get 2) (aCons (fun s => s.get 3) aNil)))) (sSeq (sSet 2 (d2 dDiv (fun s => s.get 2) (fun s => s.get 5))) (sSeq (sSet 3 (d2 dDiv (fun s => s.get 3) (fun s => s.get 5))) sNil))))))
noncomputable def g_law_are_shares : S → Option Out := (sSeq (sIf (bOr (bNot (tB1 (d1 (dIsi .lst) (fun s => s.get 0)))) (tB1 (d2 dNe (dCallS gLen (fun s => s.seq 0)) (fun s => s.get 1)))) (sSeq (sRet (dC (.bl false))) sNil) sNil) (sSeq (sSet 2 (dC (.int 0))) (sSeq (sSet 3 (dC (.int 1))) (sSeq (sFor (iSeq (fun s => s.get 0)) (gName' 4) b1_law_are_shares) (sSeq (sRet (vAnd (d2 dEq (fun s => s.get 2) (dC (.int 1))) (d2 dEq (fun s => s.get 3) (dC (.int 1))))) sNil)))))
noncomputable def f_law_are_shares : List D → Option Rs := fnP 6 g_law_are_shares
theorem u_law_are_shares (x0 x1 : D) : f_law_are_shares [x0, x1] = outR (g_law_are_shares ⟨[.fr x0, .fr x1, .un, .un, .un, .un], [], false⟩) := rfl
/-- _law_common(_law_found): the slots 0 _law_found 1 _law_bottom 2 _law_one -/
noncomputable def b1_law_common : S → Option Out := (sSeq (sSet 1 (d2 dMulI (d2 dDiv (fun s => s.get 1) (dCall (vOf f_law_factor) (aCons (fun s => s.get 1) (aCons (dIx (fun s => s.seq 2) (dC (.int 1))) aNil)))) (dIx (fun s => s.seq 2) (dC (.int 1))))) sNil)
noncomputable def e1_law_common : S → Option D := (d2 dMulI (dIx (fun s => s.seq 2) (dC (.int 0))) (d2 dDiv (fun s => s.get 1) (dIx (fun s => s.seq 2) (dC (.int 1)))))
noncomputable def g_law_common : S → Option Out := (sSeq (sSet 1 (dC (.int 1))) (sSeq (sFor (iSeq (fun s => s.get 0)) (gName' 2) b1_law_common) (sSeq (sRet (vN (dLst (aCons (vN (nLc [2] (iSeq (fun s => s.get 0)) (gName' 2) bYes e1_law_common)) (aCons (fun s => s.get 1) aNil))))) sNil)))
noncomputable def f_law_common : List D → Option Rs := fnP 3 g_law_common
theorem u_law_common (x0 : D) : f_law_common [x0] = outR (g_law_common ⟨[.fr x0, .un, .un], [], false⟩) := rfl
/-- _law_summed(_law_vectors_here, _law_tops): the slots 0 _law_vectors_here 1 _law_tops 2 _law_total 3 _law_number 4 _law_vector 5 _law_top 6 _law_here -/
noncomputable def e1_law_summed : S → Option D := (dC (.int 0))
noncomputable def e2_law_summed : S → Option D := (d2 dAdd (fun s => s.get 6) (d2 dMulI (fun s => s.get 5) (fun s => s.get 3)))
noncomputable def b1_law_summed : S → Option Out := (sSeq (sSet 2 (vN (nLc [6, 3] (iZip (fun s => s.get 2) (fun s => s.get 4)) (gTupN 2 (gsCons (gName' 6) (gsCons (gName' 3) gsNil))) bYes e2_law_summed))) sNil)
noncomputable def g_law_summed : S → Option Out := (sSeq (sSet 2 (vN (nLc [3] (iSeq (dIx (fun s => s.seq 0) (dC (.int 0)))) (gName' 3) bYes e1_law_summed))) (sSeq (sFor (iZip (fun s => s.get 0) (fun s => s.get 1)) (gTupN 2 (gsCons (gName' 4) (gsCons (gName' 5) gsNil))) b1_law_summed) (sSeq (sRet (fun s => s.get 2)) sNil)))
noncomputable def f_law_summed : List D → Option Rs := fnP 7 g_law_summed
theorem u_law_summed (x0 x1 : D) : f_law_summed [x0, x1] = outR (g_law_summed ⟨[.fr x0, .fr x1, .un, .un, .un, .un, .un], [], false⟩) := rfl
/-- _law_product(_law_one, _law_other): the slots 0 _law_one 1 _law_other 2 _law_here 3 _law_there -/
noncomputable def e1_law_product : S → Option D := (d2 dMulI (fun s => s.get 2) (fun s => s.get 3))
noncomputable def g_law_product : S → Option Out := (sSeq (sRet (dCallS gSum (sN (nLc [2, 3] (iZip (fun s => s.get 0) (fun s => s.get 1)) (gTupN 2 (gsCons (gName' 2) (gsCons (gName' 3) gsNil))) bYes e1_law_product)))) sNil)
noncomputable def f_law_product : List D → Option Rs := fnP 4 g_law_product
theorem u_law_product (x0 x1 : D) : f_law_product [x0, x1] = outR (g_law_product ⟨[.fr x0, .fr x1, .un, .un], [], false⟩) := rfl
/-- law(_law_script): the slots 0 _law_script 1 _law_vectors_here 2 _law_handed 3 _law_found 4 _law_tops 5 _law_bottom 6 _law_mixed_here 7 _law_vector 8 _law_kept -/
noncomputable def b1_law : S → Option Out := (sSeq (sIf (tB1 (d2 dLt (d2 dMulI (fun s => s.get 5) (dCall (vOf f_law_product) (aCons (fun s => s.get 6) (aCons (fun s => s.get 7) aNil)))) (dCall (vOf f_law_product) (aCons (fun s => s.get 6) (aCons (fun s => s.get 6) aNil))))) (sSeq (sRet (dC (.bl false))) sNil) sNil) sNil)
noncomputable def g_law : S → Option Out := (sSeq (sSet 1 (dCall (vOf f_law_vectors) (aCons (fun s => s.get 0) aNil))) (sSeq (sSet 2 (vN (nList (fun s => s.seq 1)))) (sSeq (sSetO 3 (nCall f_nearest_shares (aCons (fun s => s.get 2) aNil))) (sSeq (sIf (bOr (tB1 (d2 dNe (fun s => s.get 2) (fun s => s.get 1))) (bNot (tB1 (dBor [3] (dCall (vOf f_law_are_shares) (aCons (fun s => s.get 3) (aCons (dCallS gLen (fun s => s.seq 1)) aNil))))))) (sSeq (sRet (dC (.bl false))) sNil) sNil) (sSeq (sAsg (dLen [3] (dCall (vOf f_law_common) (aCons (fun s => s.get 3) aNil))) (gTupN 2 (gsCons (gName' 4) (gsCons (gName' 5) gsNil)))) (sSeq (sSet 6 (dCall (vOf f_law_summed) (aCons (fun s => s.get 1) (aCons (fun s => s.get 4) aNil)))) (sSeq (sFor (iSeq (fun s => s.get 1)) (gName' 7) b1_law) (sSeq (sSet 8 (vN (nList (fun s => s.seq 3)))) (sSeq (sIf (tBor [3] (bOr (tB1 (d2 dNe (dCall (vOf f_nearest_shares) (aCons (vN (dLst (aCons (dTup (aCons (dC (.int 3)) (aCons (dC (.int 0)) aNil))) (aCons (dTup (aCons (dC (.int 0)) (aCons (dC (.int 4)) aNil))) aNil)))) aNil)) (vN (dLst (aCons (dTup (aCons (dC (.int 16)) (aCons (dC (.int 25)) aNil))) (aCons (dTup (aCons (dC (.int 9)) (aCons (dC (.int 25)) aNil))) aNil)))))) (tB1 (d2 dNe (fun s => s.get 3) (fun s => s.get 8))))) (sSeq (sRet (dC (.bl false))) sNil) sNil) (sSeq (sClr 3) (sSeq (sRet (d2 dEq (dCall (vOf f_nearest_shares) (aCons (fun s => s.get 2) aNil)) (fun s => s.get 8))) sNil)))))))))))
noncomputable def f_law : List D → Option Rs := fnP 9 g_law
theorem u_law (x0 : D) : f_law [x0] = outR (g_law ⟨[.fr x0, .un, .un, .un, .un, .un, .un, .un, .un], [], false⟩) := rfl
end Lw
set_option autoImplicit false
namespace Lw
open PySem L2 VS
theorem cell_is (ns : List Int) (k : Int) (h : 0 ≤ k) : f_law_cell_at [.lst (iL ns), .int k] = some (.val (.int (ns.getD k.toNat 0))) := by
  rw [u_law_cell_at]
  unfold g_law_cell_at
  by_cases hk : k < ns.length
  · have e := iL_at h hk
    have hg : ns.getD k.toNat 0 = ns[k.toNat]'(by omega) := by
      rw [List.getD_eq_getElem?_getD, List.getElem?_eq_getElem (by omega)]; rfl
    rw [hg]
    simp [hk, e]
  · have hg : ns.getD k.toNat 0 = 0 := by
      rw [List.getD_eq_getElem?_getD, List.getElem?_eq_none (by omega)]; rfl
    rw [hg]
    simp [hk]
end Lw
namespace Lw
open PySem L2 VS
theorem mixed_is (c k : Int) (h0 : 0 ≤ k) (h1 : k < 1000000) : ∃ n : Int, f_law_mixed [.int c, .int k] = some (.val (.int n)) ∧ 0 ≤ n ∧ n < 2147483629 := by
  rw [u_law_mixed]
  unfold g_law_mixed
  simp (disch := omega) [ev_mod, ev_mulR, ev_mulL]
  omega
theorem draws_is (c m n w : Int) (hm : 0 < m) (hm2 : m < 2 ^ 256) (hn : 0 ≤ n) (hn2 : n < 100000) : ∃ ns : List Int, f_law_draws [.int c, .int m, .int n, .int w] = some (.val (.lst (iL ns))) ∧ ns.length = n.toNat ∧ ∀ x ∈ ns, 0 ≤ x ∧ x < m := by
  rw [u_law_draws]
  unfold g_law_draws
  obtain ⟨s', h1, l, left, z, rfl, h2, h3, h4⟩ := forI (k := forK (gName' 6) b1_law_draws) (ds := rngD 0 n) (s := ⟨[.fr (.int c), .fr (.int m), .fr (.int n), .fr (.int w), .ow [], .fr (.int (c.natAbs : Int)), .un], [], false⟩)
    (fun i s => ∃ (l : List Int) (left : Int) (z : Sl), s = ⟨[.fr (.int c), .fr (.int m), .fr (.int n), .fr (.int w), .ow (iL l), .fr (.int left), z], [], false⟩ ∧ 0 ≤ left ∧ l.length = i ∧ ∀ x ∈ l, 0 ≤ x ∧ x < m)
    ⟨[], _, _, rfl, by omega, rfl, by simp⟩ (fun i hi s => by
      rintro ⟨l, left, z, rfl, h2, h3, h4⟩
      rw [rng_len] at hi
      rw [rng_at, Int.zero_add]
      obtain ⟨q, hq, hq0, hq1⟩ := mixed_is c i (by omega) (by omega)
      have hl : (iL l).length < 1000000 := by rw [iL_len]; omega
      have e1 := Int.emod_nonneg left (by omega : m ≠ 0)
      have e2 := Int.emod_lt_of_pos left hm
      have e3 := Int.emod_nonneg (q / 8) (by omega : m ≠ 0)
      have e4 := Int.emod_lt_of_pos (q / 8) hm
      by_cases hw : w = 0 ∧ 0 < left
      · obtain ⟨rfl, hw⟩ := hw
        apply step_of
        · simp (disch := omega) [b1_law_draws, hw, ev_app, ev_mod, ev_div, hl, -iL_len]
          exact rfl
        · refine ⟨l ++ [left % m], left / m, .fr (.int i), by rw [iL_app], Int.ediv_nonneg h2 (by omega), by simp [h3], ?_⟩
          intro x hx
          rcases List.mem_append.mp hx with hx | hx
          · exact h4 x hx
          · simp at hx; omega
      · have hf : (if decide (w = 0) = true then some (decide (0 < left)) else some false) = some false := by
          by_cases hw0 : w = 0
          · have : ¬ 0 < left := fun z => hw ⟨hw0, z⟩
            simp [hw0, this]
          · simp [hw0]
        apply step_of
        · simp (disch := omega) only [b1_law_draws, ev_forK, ev_gName, ev_put, List.set_cons_succ, List.set_cons_zero, Option.bind_some, ev_seq, ev_if, ev_bAnd, ev_tB1, ev_d2, ev_get0, ev_getS, ev_c, ev_eqI, ev_gt, ev_dB, hf]
          simp (disch := omega) [ev_app, ev_mod, ev_div, hl, hq, -iL_len]
          exact rfl
        · refine ⟨l ++ [q / 8 % m], left, .fr (.int i), by rw [iL_app], h2, by simp [h3], ?_⟩
          intro x hx
          rcases List.mem_append.mp hx with hx | hx
          · exact h4 x hx
          · simp at hx; omega)
  refine ⟨l, ?_, ?_, h4⟩
  · have hb := in_B (a := n) (by omega) (by omega)
    simp [hb, h1]
  · rw [h3, rng_len]; omega
end Lw
namespace Lw
open PySem L2 VS
theorem fac_law (a b : Int) : f_law_factor [.int a, .int b] = some (.val (.int (Int.gcd a b))) := by
  rw [u_law_factor]
  unfold g_law_factor
  have h := sWhile_of (gcd_loop (w := w1_law_factor) (b := b1_law_factor) (fun x y => by simp [w1_law_factor]) (fun x y h => by simp [b1_law_factor, ev_mod (show (0 : Int) < y by omega)]) (b.natAbs + 1) a.natAbs b.natAbs (by omega))
  simp [h, Int.gcd]
end Lw
namespace Lw
open PySem L2 VS
theorem is_part_is {p : Int × Int} {t b : Int} (h : IsF p t b) (h0 : b ≠ 0) (h1 : b.natAbs < 2 ^ 256) (h2 : t.natAbs < 2 ^ 256) : f_law_is_part [fr p, .int t, .int b] = some (.val (.bl true)) := by
  rw [u_law_is_part]
  unfold g_law_is_part
  obtain ⟨l1, l2⟩ := h.le h0
  have ps := h.pos
  have on := h.one
  have eq := h.eq
  obtain ⟨s1, e1, x, rfl⟩ := forI (k := forK (gName' 3) b1_law_is_part) (ds := [.int p.1, .int p.2]) (s := ⟨[.fr (fr p), .fr (.int t), .fr (.int b), .un], [], false⟩)
    (fun i s => ∃ x : Option D, s = ⟨[.fr (fr p), .fr (.int t), .fr (.int b), op x], [], false⟩)
    ⟨none, rfl⟩ (fun i hi s => by
      rintro ⟨x, rfl⟩
      rcases (by simp at hi; omega : i = 0 ∨ i = 1) with rfl | rfl
      · apply step_of
        · simp [b1_law_is_part]
          exact rfl
        · exact ⟨some _, by rw [op_some]⟩
      · apply step_of
        · simp [b1_law_is_part]
          exact rfl
        · exact ⟨some _, by rw [op_some]⟩)
  have n1 : ¬ p.2 < 1 := by omega
  unfold fr at e1
  simp (disch := omega) [fr, e1, n1, fac_law, on, ev_mulM, eq]
end Lw
namespace Lw
open PySem L2 VS
theorem fac_shared (a b : Int) : f_shared_factor [.int a, .int b] = some (.val (.int (Int.gcd a b))) := by
  rw [u_shared_factor]
  unfold g_shared_factor
  have h := sWhile_of (gcd_loop (w := w1_shared_factor) (b := b1_shared_factor) (fun x y => by simp [w1_shared_factor]; by_cases h : y = 0 <;> simp [h] <;> omega) (fun x y h => by simp [b1_shared_factor, ev_mod (show (0 : Int) < y by omega)]) (b.natAbs + 1) a.natAbs b.natAbs (by omega))
  simp [h, Int.gcd]
end Lw
namespace Lw
open PySem L2 VS
theorem part_is (t b : Int) (hb : b ≠ 0) (h1 : -2 ^ 255 < b) (h2 : b < 2 ^ 255) : ∃ p : Int × Int, f_part [.int t, .int b] = some (.val (fr p)) ∧ IsF p t b := by
  rw [u_part]
  unfold g_part
  obtain ⟨f, hf⟩ : ∃ f : Int, f = if b < 0 then 0 - (Int.gcd t b : Int) else (Int.gcd t b : Int) := ⟨_, rfl⟩
  obtain ⟨q, d1, d2, d3⟩ := isF_make (t := t) hb hf
  have hg : ((Int.gcd t b : Nat) : Int) ≤ b.natAbs := by
    have := Int.le_of_dvd (by omega) (Int.dvd_natAbs.mpr (Int.gcd_dvd_right t b))
    exact this
  have f1 : -2 ^ 256 < f := by rw [hf]; split <;> omega
  have f2 : f < 2 ^ 256 := by rw [hf]; split <;> omega
  refine ⟨(t / f, b / f), ?_, q⟩
  have e1 := ev_divN d1 d3 f1 f2
  have e2 := ev_divN d2 d3 f1 f2
  by_cases hn : b < 0
  · rw [if_pos hn] at hf
    simp [hb, fac_shared, hn, ← hf, e1, e2, fr]
  · rw [if_neg hn] at hf
    simp [hb, fac_shared, hn, ← hf, e1, e2, fr]
end Lw
namespace Lw
open PySem L2 VS
/-- points, as tuples -/
def pL (ps : List (List Int)) : List D := ps.map fun p => .tup (iL p)
@[simp] theorem pL_len (ps : List (List Int)) : (pL ps).length = ps.length := by unfold pL; simp
theorem pL_app (ps : List (List Int)) (p : List Int) : pL (ps ++ [p]) = pL ps ++ [.tup (iL p)] := by simp [pL]
theorem pL_ix {ps : List (List Int)} {i : Nat} (h : i < (pL ps).length) : (pL ps)[i] = .tup (iL (ps[i]'(by simpa using h))) := by simp [pL]
end Lw
namespace Lw
open PySem L2 VS
def dot (a b : List Int) : Int := ((a.zip b).map fun p => p.1 * p.2).sum
/-- numbers that may be multiplied -/
def Sm (a : List Int) : Prop := ∀ x ∈ a, -2 ^ 256 < x ∧ x < 2 ^ 256
theorem product_is {a b : List Int} (ha : Sm a) (hb : Sm b) (hl : a.length ≤ 1000000) : f_product [.tup (iL a), .tup (iL b)] = some (.val (.int (dot a b))) := by
  rw [u_product]
  unfold g_product
  have e : lcGo (lcK (gTupN 2 (gsCons (gName' 2) (gsCons (gName' 3) gsNil))) bYes e1_product ⟨[.fr (.tup (iL a)), .fr (.tup (iL b)), .un, .un], [], false⟩) (zipD (iL a) (iL b)) = some (iL ((a.zip b).map fun p => p.1 * p.2)) := by
    rw [zip_iL]
    unfold fL iL
    rw [List.map_map]
    refine lc_mapP fun p hp => ?_
    have h1 := ha _ (List.of_mem_zip hp).1
    have h2 := hb _ (List.of_mem_zip hp).2
    simp (disch := omega) [fr, e1_product, ev_mulM]
  have l : (zipD (iL a) (iL b)).length ≤ 1000000 := by rw [zip_len, iL_len]; omega
  simp [e, l, sum_iL, dot]
end Lw
namespace Lw
/-! ### minors, by rows and columns -/
/-- a row, expanded -/
def mEx (y : Nat → Int) (g : List Nat → Int) : List Nat → Int
  | [] => 0
  | c :: cs => y c * g cs - mEx y (fun l => g (c :: l)) cs
def mW : List (Nat → Int) → List Nat → Int
  | [], [] => 1
  | [], _ :: _ => 0
  | y :: ys, cs => mEx y (mW ys) cs
theorem mEx_lin (y : Nat → Int) (a b : Int) : ∀ (cs : List Nat) (g h : List Nat → Int), mEx y (fun l => a * g l + b * h l) cs = a * mEx y g cs + b * mEx y h cs
  | [], g, h => by simp [mEx]
  | c :: cs, g, h => by
    have ih := mEx_lin y a b cs (fun l => g (c :: l)) (fun l => h (c :: l))
    simp only [mEx, ih]
    grind
theorem mEx_liny (y z : Nat → Int) (a b : Int) : ∀ (cs : List Nat) (g : List Nat → Int), mEx (fun j => a * y j + b * z j) g cs = a * mEx y g cs + b * mEx z g cs
  | [], g => by simp [mEx]
  | c :: cs, g => by
    have ih := mEx_liny y z a b cs (fun l => g (c :: l))
    simp only [mEx, ih]
    grind
theorem mEx_zero (y : Nat → Int) : ∀ (cs : List Nat), mEx y (fun _ => 0) cs = 0
  | [] => rfl
  | c :: cs => by simp only [mEx, mEx_zero y cs]; simp
theorem mEx_zeroy (z : Nat → Int) : ∀ (cs : List Nat) (g : List Nat → Int), (∀ c ∈ cs, z c = 0) → mEx z g cs = 0
  | [], g, _ => rfl
  | c :: cs, g, h => by
    simp only [mEx, h c List.mem_cons_self, mEx_zeroy z cs _ fun x hx => h x (List.mem_cons_of_mem _ hx)]
    simp
theorem mEx_swap (a b : Nat → Int) : ∀ (cs : List Nat) (g : List Nat → Int), mEx a (mEx b g) cs = - mEx b (mEx a g) cs
  | [], g => rfl
  | c :: cs, g => by
    have ih := mEx_swap a b cs (fun l => g (c :: l))
    have e1 : ∀ x y : Nat → Int, (fun l => mEx y g (c :: l)) = fun l => y c * g l + (-1) * mEx y (fun l => g (c :: l)) l := fun x y => by
      funext l
      simp only [mEx]
      omega
    have e2 : ∀ x y : Nat → Int, mEx x (mEx y g) (c :: cs) = x c * mEx y g cs - (y c * mEx x g cs + (-1) * mEx x (mEx y (fun l => g (c :: l))) cs) := fun x y => by
      rw [mEx, e1 x y, mEx_lin]
    rw [e2 a b, e2 b a, ih]
    grind
theorem mW_swap (a b : Nat → Int) (ys : List (Nat → Int)) (cs : List Nat) : mW (a :: b :: ys) cs = - mW (b :: a :: ys) cs := mEx_swap a b cs (mW ys)
theorem mW_dup (a : Nat → Int) : ∀ (ys : List (Nat → Int)) (cs : List Nat), a ∈ ys → mW (a :: ys) cs = 0
  | b :: zs, cs, h => by
    rcases List.mem_cons.mp h with rfl | h
    · have := mW_swap a a zs cs
      omega
    · rw [mW_swap]
      have e : mW (a :: zs) = fun _ => 0 := by funext l; exact mW_dup a zs l h
      show - mEx b (mW (a :: zs)) cs = 0
      rw [e, mEx_zero]
      rfl
/-- sums of rows, each times a number -/
inductive Sp (ys : List (Nat → Int)) : (Nat → Int) → Prop
  | zero : Sp ys (fun _ => 0)
  | add {y f : Nat → Int} (a : Int) : y ∈ ys → Sp ys f → Sp ys (fun j => a * y j + f j)
theorem Sp.mul {ys : List (Nat → Int)} {f : Nat → Int} (s : Int) (h : Sp ys f) : Sp ys (fun j => s * f j) := by
  induction h with
  | zero => simp only [Int.mul_zero]; exact .zero
  | add a hy _ ih =>
    rename_i y f _
    have := Sp.add (s * a) hy ih
    rw [show (fun j => s * (a * y j + f j)) = fun j => s * a * y j + s * f j by funext j; grind]
    exact this
theorem Sp.plus {ys : List (Nat → Int)} {f g : Nat → Int} (h : Sp ys f) (h' : Sp ys g) : Sp ys (fun j => f j + g j) := by
  induction h with
  | zero => simp only [Int.zero_add]; exact h'
  | add a hy _ ih =>
    rename_i y f _
    rw [show (fun j => a * y j + f j + g j) = fun j => a * y j + (f j + g j) by funext j; omega]
    exact .add a hy ih
theorem Sp.more {ys zs : List (Nat → Int)} {f : Nat → Int} (h : Sp ys f) (hs : ∀ y ∈ ys, y ∈ zs) : Sp zs f := by
  induction h with
  | zero => exact .zero
  | add a hy _ ih => exact .add a (hs _ hy) ih
theorem Sp.mem {ys : List (Nat → Int)} {y : Nat → Int} (h : y ∈ ys) : Sp ys y := by
  have := Sp.add (ys := ys) 1 h .zero
  simpa using this
theorem mW_sp {zs : List (Nat → Int)} {f : Nat → Int} (h : Sp zs f) (cs : List Nat) : mW (f :: zs) cs = 0 := by
  induction h with
  | zero => exact mEx_zeroy _ cs _ fun _ _ => rfl
  | add a hy _ ih =>
    rename_i y f _
    have e := mEx_liny y f a 1 cs (mW zs)
    simp only [Int.one_mul] at e
    show mEx (fun j => a * y j + f j) (mW zs) cs = 0
    rw [e]
    have h1 : mEx y (mW zs) cs = 0 := mW_dup y zs cs hy
    have h2 : mEx f (mW zs) cs = 0 := ih
    rw [h1, h2]
    simp
theorem mW_span : ∀ (ys : List (Nat → Int)) (l : List Nat), Sp ys (fun j => mW ys (j :: l))
  | [], l => .zero
  | y :: ys, l => by
    have ih := mW_span ys
    have q : ∀ (l pre : List Nat), Sp ys (fun j => mEx y (fun l' => mW ys (j :: (pre ++ l'))) l) := fun l => by
      induction l with
      | nil => intro pre; exact .zero
      | cons c cs ihl =>
        intro pre
        have a := (ih (pre ++ cs)).mul (y c)
        have b := (ihl (pre ++ [c])).mul (-1)
        have := a.plus b
        rw [show (fun j => mEx y (fun l' => mW ys (j :: (pre ++ l'))) (c :: cs)) = fun j => y c * mW ys (j :: (pre ++ cs)) + -1 * mEx y (fun l' => mW ys (j :: (pre ++ [c] ++ l'))) cs by
          funext j
          simp only [mEx, List.append_assoc, List.singleton_append]
          omega]
        exact this
    have a : Sp (y :: ys) (fun j => mW ys l * y j) := (Sp.mem List.mem_cons_self).mul _
    have b : Sp (y :: ys) (fun j => -1 * mEx y (fun l' => mW ys (j :: ([] ++ l'))) l) := ((q l []).mul (-1)).more fun z hz => List.mem_cons_of_mem _ hz
    have c := a.plus b
    rw [show (fun j => mW (y :: ys) (j :: l)) = fun j => mW ys l * y j + -1 * mEx y (fun l' => mW ys (j :: ([] ++ l'))) l by
      funext j
      simp only [mW, mEx, List.nil_append]
      grind]
    exact c
/-- a row's rest: what it is less sums of the rows -/
theorem mW_rest (y : Nat → Int) (ys : List (Nat → Int)) (cs : List Nat) : ∃ f, Sp ys f ∧ ∀ j, mW (y :: ys) (j :: cs) = mW ys cs * y j + f j := by
  have q : ∀ (l pre : List Nat), Sp ys (fun j => mEx y (fun l' => mW ys (j :: (pre ++ l'))) l) := fun l => by
    induction l with
    | nil => intro pre; exact .zero
    | cons c cs ihl =>
      intro pre
      have a := (mW_span ys (pre ++ cs)).mul (y c)
      have b := (ihl (pre ++ [c])).mul (-1)
      have := a.plus b
      rw [show (fun j => mEx y (fun l' => mW ys (j :: (pre ++ l'))) (c :: cs)) = fun j => y c * mW ys (j :: (pre ++ cs)) + -1 * mEx y (fun l' => mW ys (j :: (pre ++ [c] ++ l'))) cs by
        funext j
        simp only [mEx, List.append_assoc, List.singleton_append]
        omega]
      exact this
  refine ⟨_, (q cs []).mul (-1), fun j => ?_⟩
  simp only [mW, mEx, List.nil_append]
  grind
theorem mW_scale (s : Int) (y : Nat → Int) (ys : List (Nat → Int)) (cs : List Nat) : mW ((fun j => s * y j) :: ys) cs = s * mW (y :: ys) cs := by
  have := mEx_liny y y s 0 cs (mW ys)
  simp only [Int.zero_mul, Int.add_zero] at this
  exact this
theorem mW_addS {y f : Nat → Int} {ys : List (Nat → Int)} (h : Sp ys f) (cs : List Nat) : mW ((fun j => y j + f j) :: ys) cs = mW (y :: ys) cs := by
  have := mEx_liny y f 1 1 cs (mW ys)
  simp only [Int.one_mul] at this
  have e : mEx f (mW ys) cs = 0 := mW_sp h cs
  rw [e, Int.add_zero] at this
  exact this
/-- two rows more -/
theorem mW_two {ys : List (Nat → Int)} {cs : List Nat} {x y : Nat → Int} {j k : Nat} (hd : mW ys cs ≠ 0) (hx : ∀ c ∈ cs, mW (x :: ys) (c :: cs) = 0) (hy : ∀ c ∈ cs, mW (y :: ys) (c :: cs) = 0) :
    mW ys cs * mW (y :: x :: ys) (j :: k :: cs) = mW (y :: ys) (j :: cs) * mW (x :: ys) (k :: cs) - mW (y :: ys) (k :: cs) * mW (x :: ys) (j :: cs) := by
  obtain ⟨f, f1, f2⟩ := mW_rest x ys cs
  obtain ⟨g, g1, g2⟩ := mW_rest y ys cs
  obtain ⟨x', hx'⟩ : ∃ x' : Nat → Int, x' = fun j => mW (x :: ys) (j :: cs) := ⟨_, rfl⟩
  obtain ⟨y', hy'⟩ : ∃ y' : Nat → Int, y' = fun j => mW (y :: ys) (j :: cs) := ⟨_, rfl⟩
  have hx2 : ∀ c ∈ cs, x' c = 0 := fun c hc => by rw [hx']; exact hx c hc
  have hy2 : ∀ c ∈ cs, y' c = 0 := fun c hc => by rw [hy']; exact hy c hc
  obtain ⟨d, hdd⟩ : ∃ d : Int, d = mW ys cs := ⟨_, rfl⟩
  rw [← hdd] at hd f2 g2 ⊢
  have fx : x' = fun j => d * x j + f j := by rw [hx']; funext j; exact f2 j
  have fy : y' = fun j => d * y j + g j := by rw [hy']; funext j; exact g2 j
  have a1 : mW (y' :: x :: ys) (j :: k :: cs) = d * mW (y :: x :: ys) (j :: k :: cs) := by
    rw [fy, mW_addS (g1.more fun z hz => List.mem_cons_of_mem _ hz), mW_scale]
  have a2 : mW (x' :: y' :: ys) (j :: k :: cs) = d * mW (x :: y' :: ys) (j :: k :: cs) := by
    rw [fx, mW_addS (f1.more fun z hz => List.mem_cons_of_mem _ hz), mW_scale]
  have a3 : mW (y' :: x' :: ys) (j :: k :: cs) = d * (d * mW (y :: x :: ys) (j :: k :: cs)) := by
    rw [mW_swap, a2, mW_swap, a1]
    grind
  have a4 : mW (y' :: x' :: ys) (j :: k :: cs) = y' j * (x' k * d) - y' k * (x' j * d) := by
    simp only [mW, mEx]
    rw [mEx_zeroy y' cs _ hy2, mEx_zeroy x' cs _ hx2, mEx_zeroy x' cs _ hx2, ← hdd]
    grind
  have a5 : d * (d * mW (y :: x :: ys) (j :: k :: cs)) = d * (y' j * x' k - y' k * x' j) := by
    rw [← a3, a4]
    grind
  have a6 := Int.eq_of_mul_eq_mul_left hd a5
  rw [a6, hx', hy']
/-- how great a minor may be -/
theorem mEx_le {y : Nat → Int} {B M : Nat} (hy : ∀ j, (y j).natAbs ≤ B) : ∀ (cs : List Nat) (g : List Nat → Int), (∀ l, (g l).natAbs ≤ M) → (mEx y g cs).natAbs ≤ cs.length * (B * M)
  | [], g, _ => by simp [mEx]
  | c :: cs, g, hg => by
    have ih := mEx_le hy cs (fun l => g (c :: l)) fun l => hg _
    have h1 : (y c * g cs).natAbs ≤ B * M := by rw [Int.natAbs_mul]; exact Nat.mul_le_mul (hy c) (hg cs)
    simp only [mEx, List.length_cons]
    have h2 : (cs.length + 1) * (B * M) = cs.length * (B * M) + B * M := Nat.succ_mul _ _
    omega
end Lw
namespace Lw
def mB (B : Nat) : Nat → Nat
  | 0 => 1
  | n + 1 => (n + 1) * (B * mB B n)
theorem mEx_le0 {y : Nat → Int} : ∀ (cs : List Nat) (g : List Nat → Int), (∀ l, l.length + 1 = cs.length → g l = 0) → mEx y g cs = 0
  | [], g, _ => rfl
  | c :: cs, g, hg => by
    have ih := mEx_le0 (y := y) cs (fun l => g (c :: l)) fun l hl => hg _ (by simp only [List.length_cons]; omega)
    simp only [mEx, ih, hg cs (by simp)]
    simp
theorem mW_len : ∀ (ys : List (Nat → Int)) (cs : List Nat), cs.length ≠ ys.length → mW ys cs = 0
  | [], [], h => absurd rfl h
  | [], _ :: _, _ => rfl
  | y :: ys, cs, h => mEx_le0 cs _ fun l hl => mW_len ys l (by simp only [List.length_cons] at h; omega)
theorem mW_le {B : Nat} : ∀ (ys : List (Nat → Int)) (cs : List Nat), (∀ y ∈ ys, ∀ j, (y j).natAbs ≤ B) → (mW ys cs).natAbs ≤ mB B ys.length
  | [], [], _ => by simp [mW, mB]
  | [], _ :: _, _ => by simp [mW]
  | y :: ys, cs, h => by
    by_cases hl : cs.length = ys.length + 1
    · have ih := fun l => mW_le (B := B) ys l fun z hz => h z (List.mem_cons_of_mem _ hz)
      have := mEx_le (h y List.mem_cons_self) cs (mW ys) ih
      show (mEx y (mW ys) cs).natAbs ≤ mB B (ys.length + 1)
      rw [hl] at this
      exact this
    · rw [mW_len (y :: ys) cs (by simpa using hl)]
      simp
/-! ### sums over places -/
def sN (g : Nat → Int) : Nat → Int
  | 0 => 0
  | m + 1 => sN g m + g m
theorem sN_ext {g h : Nat → Int} : ∀ (m : Nat), (∀ j, j < m → g j = h j) → sN g m = sN h m
  | 0, _ => rfl
  | m + 1, e => by simp only [sN, sN_ext m fun j hj => e j (by omega), e m (by omega)]
theorem sN_lin {g h : Nat → Int} (a b : Int) : ∀ (m : Nat), sN (fun j => a * g j + b * h j) m = a * sN g m + b * sN h m
  | 0 => by simp [sN]
  | m + 1 => by simp only [sN, sN_lin a b m]; grind
theorem sN_zero {g : Nat → Int} : ∀ (m : Nat), (∀ j, j < m → g j = 0) → sN g m = 0
  | 0, _ => rfl
  | m + 1, e => by simp only [sN, sN_zero m fun j hj => e j (by omega), e m (by omega)]; rfl
theorem sN_one {g : Nat → Int} {a : Nat} : ∀ (m : Nat), a < m → (∀ j, j < m → j ≠ a → g j = 0) → sN g m = g a
  | 0, h, _ => by omega
  | m + 1, h, e => by
    by_cases hm : a = m
    · subst hm
      simp only [sN, sN_zero a fun j hj => e j (by omega) (by omega)]
      omega
    · simp only [sN, sN_one m (by omega) fun j hj => e j (by omega), e m (by omega) (by omega)]
      omega
theorem sN_two {g : Nat → Int} {a b : Nat} (hab : a < b) : ∀ (m : Nat), b < m → (∀ j, j < m → j ≠ a → j ≠ b → g j = 0) → sN g m = g a + g b
  | 0, h, _ => by omega
  | m + 1, h, e => by
    by_cases hm : b = m
    · subst hm
      simp only [sN, sN_one (a := a) b hab fun j hj hja => e j (by omega) hja (by omega)]
    · simp only [sN, sN_two hab m (by omega) fun j hj => e j (by omega), e m (by omega) (by omega) (by omega)]
      omega
/-! ### a table brought to one number along its middle -/
def bpre (c : Nat → Nat → Int) : Nat → List (Nat → Int)
  | 0 => []
  | k + 1 => c k :: bpre c k
def bcols : Nat → List Nat
  | 0 => []
  | k + 1 => k :: bcols k
theorem bcols_mem {k j : Nat} : j ∈ bcols k ↔ j < k := by
  induction k with
  | zero => simp [bcols]
  | succ k ih => simp only [bcols, List.mem_cons, ih]; omega
theorem bpre_len (c : Nat → Nat → Int) (k : Nat) : (bpre c k).length = k := by
  induction k with
  | zero => rfl
  | succ k ih => simp [bpre, ih]
theorem bpre_mem {c : Nat → Nat → Int} {k : Nat} {y : Nat → Int} (h : y ∈ bpre c k) : ∃ i, i < k ∧ y = c i := by
  induction k with
  | zero => simp [bpre] at h
  | succ k ih =>
    rcases List.mem_cons.mp h with rfl | h
    · exact ⟨k, by omega, rfl⟩
    · obtain ⟨i, h1, h2⟩ := ih h
      exact ⟨i, by omega, h2⟩
theorem bpre_ext {c c' : Nat → Nat → Int} {k : Nat} (h : ∀ i, i < k → c i = c' i) : bpre c k = bpre c' k := by
  induction k with
  | zero => rfl
  | succ k ih => simp only [bpre, h k (by omega), ih fun i hi => h i (by omega)]
def neg1 (i : Nat) : Nat → Int := fun j => if j = i then -1 else 0
/-- where k columns are done -/
structure Bar (A : Nat → Nat → Int) (n m B k : Nat) (T : Nat → Nat → Int) (c : Nat → Nat → Int) (d : Int) : Prop where
  dd : d = mW (bpre c k) (bcols k)
  nz : d ≠ 0
  van : ∀ y j, j < k → mW (y :: bpre c k) (j :: bcols k) = 0
  hi : ∀ i, k ≤ i → ∀ j, T i j = mW (c i :: bpre c k) (j :: bcols k)
  lo : ∀ i, i < k → ∀ j, T i j = mW (neg1 i :: bpre c k) (j :: bcols k) + if j = i then d else 0
  bd : ∀ i j, (c i j).natAbs ≤ B
  null : ∀ z : Nat → Int, (∀ i, i < n → sN (fun j => T i j * z j) m = 0) → ∀ i, i < n → sN (fun j => A i j * z j) m = 0
theorem Bar.start {A : Nat → Nat → Int} {n m B : Nat} (hB : ∀ i j, (A i j).natAbs ≤ B) : Bar A n m B 0 A A 1 := by
  refine ⟨rfl, by decide, fun y j h => by omega, fun i _ j => ?_, fun i h => by omega, hB, fun z h => h⟩
  simp [mW, bpre, bcols, mEx]
section
variable {A : Nat → Nat → Int} {n m B k : Nat} {T c : Nat → Nat → Int} {d : Int}
/-- two rows changed -/
def swp {α : Type} (k a : Nat) (T : Nat → α) : Nat → α := fun i => if i = k then T a else if i = a then T k else T i
theorem Bar.swap (h : Bar A n m B k T c d) {a : Nat} (ha : k ≤ a) (han : a < n) : Bar A n m B k (swp k a T) (swp k a c) d := by
  have e : bpre (swp k a c) k = bpre c k := bpre_ext fun i hi => by unfold swp; rw [if_neg (by omega), if_neg (by omega)]
  refine ⟨by rw [e]; exact h.dd, h.nz, by rw [e]; exact h.van, fun i hi j => ?_, fun i hi j => ?_, fun i j => ?_, fun z hz => h.null z fun i hi => ?_⟩
  · rw [e]
    unfold swp
    split
    · exact h.hi a ha j
    · split
      · exact h.hi k (Nat.le_refl _) j
      · exact h.hi i hi j
  · rw [e]
    unfold swp
    rw [if_neg (by omega), if_neg (by omega)]
    exact h.lo i hi j
  · unfold swp
    split
    · exact h.bd _ _
    · split <;> exact h.bd _ _
  · by_cases h1 : i = k
    · subst h1
      have := hz a han
      unfold swp at this
      by_cases h2 : a = i
      · subst h2; simpa using this
      · rw [if_neg h2, if_pos rfl] at this; exact this
    · by_cases h2 : i = a
      · subst h2
        have := hz k (by omega)
        unfold swp at this
        rw [if_pos rfl] at this
        exact this
      · have := hz i hi
        unfold swp at this
        rw [if_neg h1, if_neg h2] at this
        exact this
/-- one column more -/
def bstep (k : Nat) (d : Int) (T : Nat → Nat → Int) : Nat → Nat → Int := fun i j => if i = k then T i j else (T i j * T k k - T i k * T k j) / d
/-- the divisions leave nothing -/
theorem Bar.exact (h : Bar A n m B k T c d) (i : Nat) (hi : i ≠ k) (j : Nat) : ∃ q, T i j * T k k - T i k * T k j = d * q ∧ q = if k ≤ i then mW (c i :: c k :: bpre c k) (j :: k :: bcols k) else mW (neg1 i :: c k :: bpre c k) (j :: k :: bcols k) + if j = i then T k k else 0 := by
  refine ⟨_, ?_, rfl⟩
  have hd : mW (bpre c k) (bcols k) ≠ 0 := by rw [← h.dd]; exact h.nz
  have van : ∀ y, ∀ x ∈ bcols k, mW (y :: bpre c k) (x :: bcols k) = 0 := fun y x hx => h.van y x (bcols_mem.mp hx)
  by_cases hk : k ≤ i
  · rw [if_pos hk]
    have t := mW_two (j := j) (k := k) hd (van (c k)) (van (c i))
    rw [← h.dd, ← h.hi k (Nat.le_refl _), ← h.hi i hk, ← h.hi k (Nat.le_refl _), ← h.hi i hk] at t
    rw [t]
  · rw [if_neg hk]
    have t := mW_two (j := j) (k := k) hd (van (c k)) (van (neg1 i))
    rw [← h.dd, ← h.hi k (Nat.le_refl _), ← h.hi k (Nat.le_refl _)] at t
    have l1 := h.lo i (by omega) j
    have l2 := h.lo i (by omega) k
    rw [if_neg (by omega)] at l2
    rw [Int.mul_add, t, l1, l2]
    by_cases hj : j = i
    · rw [if_pos hj, if_pos hj]; grind
    · rw [if_neg hj, if_neg hj]; grind
theorem Bar.step (h : Bar A n m B k T c d) (hk : k < n) (hp : T k k ≠ 0) : Bar A n m B (k + 1) (bstep k d T) c (T k k) := by
  have hd : mW (bpre c k) (bcols k) ≠ 0 := by rw [← h.dd]; exact h.nz
  have van : ∀ y, ∀ x ∈ bcols k, mW (y :: bpre c k) (x :: bcols k) = 0 := fun y x hx => h.van y x (bcols_mem.mp hx)
  have quo : ∀ i, i ≠ k → ∀ j, bstep k d T i j = if k ≤ i then mW (c i :: c k :: bpre c k) (j :: k :: bcols k) else mW (neg1 i :: c k :: bpre c k) (j :: k :: bcols k) + if j = i then T k k else 0 := fun i hi j => by
    obtain ⟨q, q1, q2⟩ := h.exact i hi j
    unfold bstep
    rw [if_neg hi, q1, Int.mul_ediv_cancel_left _ h.nz, q2]
  refine ⟨h.hi k (Nat.le_refl _) k, hp, fun y j hj => ?_, fun i hi j => ?_, fun i hi j => ?_, h.bd, fun z hz => h.null z fun i hi => ?_⟩
  · have t := mW_two (j := j) (k := k) hd (van (c k)) (van y)
    have z : mW (y :: bpre c k) (j :: bcols k) * mW (c k :: bpre c k) (k :: bcols k) - mW (y :: bpre c k) (k :: bcols k) * mW (c k :: bpre c k) (j :: bcols k) = 0 := by
      by_cases e : j = k
      · subst e; omega
      · rw [h.van y j (by omega), h.van (c k) j (by omega)]; simp
    rw [z] at t
    rcases Int.mul_eq_zero.mp t with t | t
    · exact absurd t hd
    · exact t
  · rw [quo i (by omega), if_pos (by omega)]
    rfl
  · by_cases e : i = k
    · subst e
      unfold bstep
      rw [if_pos rfl]
      have t := mW_two (j := j) (k := i) hd (van (c i)) (van (neg1 i))
      have y : ∀ l, mW (neg1 i :: bpre c i) (l :: bcols i) = (if l = i then -1 else 0) * d := fun l => by
        have e0 := mEx_zeroy (neg1 i) (bcols i) (fun l' => mW (bpre c i) (l :: l')) fun x hx => by
          have := bcols_mem.mp hx
          unfold neg1
          rw [if_neg (by omega)]
        simp only [mW, mEx]
        rw [e0, h.dd]
        unfold neg1
        omega
      rw [← h.dd, y j, y i, if_pos rfl, ← h.hi i (Nat.le_refl _), ← h.hi i (Nat.le_refl _)] at t
      have t2 : d * mW (neg1 i :: c i :: bpre c i) (j :: i :: bcols i) = d * (T i j - if j = i then T i i else 0) := by
        rw [t]
        by_cases hj : j = i
        · rw [if_pos hj, if_pos hj]; grind
        · rw [if_neg hj, if_neg hj]; grind
      have t3 := Int.eq_of_mul_eq_mul_left h.nz t2
      show T i j = mW (neg1 i :: c i :: bpre c i) (j :: i :: bcols i) + if j = i then T i i else 0
      rw [t3]
      omega
    · rw [quo i e, if_neg (by omega)]
      rfl
  · have z0 := hz k hk
    have e0 : sN (fun j => bstep k d T k j * z j) m = sN (fun j => T k j * z j) m := sN_ext m fun j _ => by unfold bstep; rw [if_pos rfl]
    rw [e0] at z0
    by_cases e : i = k
    · rw [e]; exact z0
    · have z1 := hz i hi
      have e1 : sN (fun j => T k k * (T i j * z j) + -T i k * (T k j * z j)) m = d * sN (fun j => bstep k d T i j * z j) m + 0 * sN (fun j => 0) m := by
        rw [← sN_lin]
        refine sN_ext m fun j _ => ?_
        obtain ⟨q, q1, q2⟩ := h.exact i e j
        have : bstep k d T i j = q := by
          unfold bstep
          rw [if_neg e, q1, Int.mul_ediv_cancel_left _ h.nz]
        rw [this]
        have : T k k * (T i j * z j) + -T i k * (T k j * z j) = (T i j * T k k - T i k * T k j) * z j := by grind
        rw [this, q1]
        grind
      rw [sN_lin, z0, z1] at e1
      have e2 : T k k * sN (fun j => T i j * z j) m = 0 := by omega
      rcases Int.mul_eq_zero.mp e2 with w | w
      · exact absurd w hp
      · exact w
/-- one row has something there -/
theorem Bar.pivot (h : Bar A n m B k T c d) (hk : k < n) (hm : n ≤ m) (ns : ∀ z : Nat → Int, (∀ i, i < n → sN (fun j => A i j * z j) m = 0) → (∀ j, n ≤ j → z j = 0) → ∀ j, j < n → z j = 0) : ∃ i, k ≤ i ∧ i < n ∧ T i k ≠ 0 := by
  apply Classical.byContradiction
  intro hc
  have hz : ∀ i, k ≤ i → i < n → T i k = 0 := fun i h1 h2 => Classical.byContradiction fun h3 => hc ⟨i, h1, h2, h3⟩
  have low : ∀ i, i < k → ∀ j, j < k → T i j = if j = i then d else 0 := fun i hi j hj => by
    rw [h.lo i hi j, h.van _ j hj]; omega
  have := ns (fun j => if j = k then d else if j < k then -T j k else 0) (h.null _ fun i hi => ?_) (fun j hj => by
    rw [if_neg (by omega), if_neg (by omega)]) k hk
  · simp only [if_true] at this
    exact h.nz this
  · by_cases hik : i < k
    · rw [sN_two (a := i) (b := k) hik m (by omega) fun j hj h1 h2 => by
        rw [if_neg h2]
        by_cases hjk : j < k
        · rw [low i hik j hjk, if_neg h1]; simp
        · rw [if_neg hjk]; simp]
      simp only [if_true]
      rw [if_neg (by omega), if_pos hik, low i hik i hik, if_pos rfl]
      grind
    · refine sN_zero m fun j hj => ?_
      by_cases h2 : j = k
      · simp only [if_pos h2]
        rw [h2, hz i (by omega) hi]; simp
      · simp only [if_neg h2]
        by_cases hjk : j < k
        · rw [h.hi i (by omega), h.van _ j hjk]; simp
        · rw [if_neg hjk]; simp
/-- what comes out -/
theorem Bar.out {d : Int} (h : Bar A n (n + 1) B n T c d) (hB : 1 ≤ B) : (∀ i, i < n → T i i = d) ∧ (∀ i, i < n → (T i n).natAbs ≤ mB B (n + 1)) ∧ d.natAbs ≤ mB B n ∧ ∀ i, i < n → sN (fun j => A i j * (if j = n then -d else T j n)) (n + 1) = 0 := by
  have low : ∀ i, i < n → ∀ j, j < n → T i j = if j = i then d else 0 := fun i hi j hj => by
    rw [h.lo i hi j, h.van _ j hj]; omega
  refine ⟨fun i hi => by rw [low i hi i hi, if_pos rfl], fun i hi => ?_, ?_, h.null _ fun i hi => ?_⟩
  · rw [h.lo i hi n, if_neg (by omega), Int.add_zero]
    have := mW_le (B := B) (neg1 i :: bpre c n) (n :: bcols n) fun y hy j => by
      rcases List.mem_cons.mp hy with rfl | hy
      · unfold neg1
        split <;> simp <;> omega
      · obtain ⟨l, _, rfl⟩ := bpre_mem hy
        exact h.bd l j
    rw [List.length_cons, bpre_len] at this
    exact this
  · rw [h.dd]
    have := mW_le (B := B) (bpre c n) (bcols n) fun y hy j => by
      obtain ⟨l, _, rfl⟩ := bpre_mem hy
      exact h.bd l j
    rw [bpre_len] at this
    exact this
  · rw [sN_two (a := i) (b := n) hi (n + 1) (by omega) fun j hj h1 h2 => by
      rw [low i hi j (by omega), if_neg h1]; simp]
    simp only [if_true]
    rw [if_neg (by omega), low i hi i hi, if_pos rfl]
    grind
/-- how great what stands in between is -/
theorem Bar.le (h : Bar A n m B k T c d) (hB : 1 ≤ B) (i j : Nat) : (T i j).natAbs ≤ mB B (k + 1) + mB B k ∧ d.natAbs ≤ mB B k := by
  have hb : ∀ y ∈ bpre c k, ∀ j, (y j).natAbs ≤ B := fun y hy j => by
    obtain ⟨l, _, rfl⟩ := bpre_mem hy
    exact h.bd l j
  have h0 := mW_le (B := B) (bpre c k) (bcols k) hb
  rw [bpre_len, ← h.dd] at h0
  refine ⟨?_, h0⟩
  by_cases hi : k ≤ i
  · rw [h.hi i hi j]
    have := mW_le (B := B) (c i :: bpre c k) (j :: bcols k) fun y hy j => by
      rcases List.mem_cons.mp hy with rfl | hy
      · exact h.bd i j
      · exact hb y hy j
    rw [List.length_cons, bpre_len] at this
    omega
  · rw [h.lo i (by omega) j]
    have := mW_le (B := B) (neg1 i :: bpre c k) (j :: bcols k) fun y hy j => by
      rcases List.mem_cons.mp hy with rfl | hy
      · unfold neg1
        split <;> simp <;> omega
      · exact hb y hy j
    rw [List.length_cons, bpre_len] at this
    have e : (if j = i then d else 0).natAbs ≤ d.natAbs := by split <;> omega
    omega
end
end Lw
namespace Lw
/-! ### mixtures, by the table of products -/
theorem sN_add {g h : Nat → Int} (m : Nat) : sN (fun j => g j + h j) m = sN g m + sN h m := by
  have := sN_lin (g := g) (h := h) 1 1 m
  rw [Int.one_mul, Int.one_mul] at this
  rw [← this]
  exact sN_ext m fun j _ => by omega
theorem sN_mul {g : Nat → Int} (a : Int) (m : Nat) : sN (fun j => a * g j) m = a * sN g m := by
  have := sN_lin (g := g) (h := fun _ => 0) a 0 m
  rw [show a * sN g m = a * sN g m + 0 * sN (fun _ => 0) m by omega, ← this]
  exact sN_ext m fun j _ => by omega
theorem sN_swap (F : Nat → Nat → Int) (n : Nat) : ∀ m, sN (fun i => sN (fun j => F i j) n) m = sN (fun j => sN (fun i => F i j) m) n
  | 0 => by simp only [sN]; exact (sN_zero n fun _ _ => rfl).symm
  | m + 1 => by
    simp only [sN]
    rw [sN_swap F n m, sN_add]
theorem pos_of {a b : Int} (h : 0 < a * b) (ha : 0 < a) : 0 < b := by
  rcases (by omega : 0 < b ∨ b ≤ 0) with w | w
  · exact w
  · have := Int.mul_le_mul_of_nonneg_left w (Int.le_of_lt ha)
    omega
def gd (n : Nat) (G : Nat → Nat → Int) (c : Nat → Int) (i : Nat) : Int := sN (fun j => c j * G j i) n
def Bf (n : Nat) (G : Nat → Nat → Int) (c e : Nat → Int) : Int := sN (fun i => gd n G c i * e i) n
structure Gm (n : Nat) (G : Nat → Nat → Int) : Prop where
  sym : ∀ i j, G i j = G j i
  psd : ∀ c, 0 ≤ Bf n G c c
section
variable {n : Nat} {G : Nat → Nat → Int}
theorem gd_lin (a b : Int) (c e : Nat → Int) (i : Nat) : gd n G (fun j => a * c j + b * e j) i = a * gd n G c i + b * gd n G e i := by
  unfold gd
  rw [← sN_lin]
  exact sN_ext n fun j _ => by grind
theorem Bf_linl (a b : Int) (c e f : Nat → Int) : Bf n G (fun j => a * c j + b * e j) f = a * Bf n G c f + b * Bf n G e f := by
  unfold Bf
  rw [← sN_lin]
  exact sN_ext n fun i _ => by rw [gd_lin]; grind
theorem Bf_linr (a b : Int) (f c e : Nat → Int) : Bf n G f (fun j => a * c j + b * e j) = a * Bf n G f c + b * Bf n G f e := by
  unfold Bf
  rw [← sN_lin]
  exact sN_ext n fun i _ => by grind
theorem Bf_sym (h : Gm n G) (c e : Nat → Int) : Bf n G c e = Bf n G e c := by
  have x : ∀ c e : Nat → Int, Bf n G c e = sN (fun i => sN (fun j => c j * G j i * e i) n) n := fun c e => by
    unfold Bf gd
    refine sN_ext n fun i _ => ?_
    rw [Int.mul_comm, ← sN_mul]
    exact sN_ext n fun j _ => by grind
  rw [x, x, sN_swap]
  refine sN_ext n fun i _ => sN_ext n fun j _ => ?_
  rw [h.sym i j]
  grind
theorem Bf_null (h : Gm n G) {z : Nat → Int} (hz : Bf n G z z = 0) (e : Nat → Int) : Bf n G z e = 0 := by
  have p := h.psd (fun j => (Bf n G e e + 1) * z j + (-(Bf n G z e)) * e j)
  rw [Bf_linl, Bf_linr, Bf_linr, hz, Bf_sym h e z] at p
  have pe := h.psd e
  generalize Bf n G e e = E at p pe
  generalize Bf n G z e = b at p ⊢
  have q : (E + 1) * ((E + 1) * 0 + -b * b) + -b * ((E + 1) * b + -b * E) = -((b * b) * (E + 2)) := by grind
  rw [q] at p
  rcases (by omega : b = 0 ∨ 0 < b ∨ b < 0) with w | w | w
  · exact w
  · have := Int.mul_pos (Int.mul_pos w w) (show 0 < E + 2 by omega); omega
  · have := Int.mul_pos (Int.mul_pos_of_neg_of_neg w w) (show 0 < E + 2 by omega); omega
/-- affinely independent -/
def AI (n : Nat) (G : Nat → Nat → Int) (S : List Nat) : Prop := ∀ z : Nat → Int, (∀ i, i ∉ S → z i = 0) → sN z n = 0 → Bf n G z z = 0 → ∀ i, i < n → z i = 0
/-- the nearest point of the flat: its shares (of any sign) over one number -/
structure Flat (n : Nat) (G : Nat → Nat → Int) (S : List Nat) (y : Nat → Int) (u : Int) : Prop where
  off : ∀ i, i ∉ S → y i = 0
  sum : sN y n = u
  up : 0 < u
  kkt : ∀ i, i ∈ S → u * gd n G y i = Bf n G y y
theorem AI.less {S T : List Nat} (h : AI n G S) (hs : ∀ i, i ∈ T → i ∈ S) : AI n G T := fun z z0 z1 z2 => h z (fun i hi => z0 i fun w => hi (hs i w)) z1 z2
section
variable {S : List Nat} {y c : Nat → Int} {u b : Int}
theorem Flat.bf (h : Gm n G) (f : Flat n G S y u) {z : Nat → Int} (zo : ∀ i, i ∉ S → z i = 0) : u * Bf n G z y = sN z n * Bf n G y y := by
  rw [Bf_sym h z y, Int.mul_comm (sN z n), ← sN_mul, Bf, ← sN_mul]
  refine sN_ext n fun i _ => ?_
  by_cases hi : i ∈ S
  · rw [← f.kkt i hi]; grind
  · rw [zo i hi]; grind
theorem Flat.dif (h : Gm n G) (f : Flat n G S y u) (co : ∀ i, i ∉ S → c i = 0) (cs : sN c n = b) : Bf n G (fun j => u * c j + (-b) * y j) (fun j => u * c j + (-b) * y j) = u * u * Bf n G c c - b * b * Bf n G y y := by
  have e := f.bf h co
  rw [cs] at e
  rw [Bf_linl, Bf_linr, Bf_linr, Bf_sym h y c]
  generalize Bf n G c y = m at e ⊢
  generalize Bf n G c c = p
  generalize Bf n G y y = q at e ⊢
  have : u * (u * p + -b * m) + -b * (u * m + -b * q) = u * u * p - 2 * (b * (u * m)) + b * b * q := by grind
  rw [this, e]
  grind
theorem Flat.low (h : Gm n G) (f : Flat n G S y u) (co : ∀ i, i ∉ S → c i = 0) (cs : sN c n = b) : b * b * Bf n G y y ≤ u * u * Bf n G c c := by
  have := h.psd (fun j => u * c j + (-b) * y j)
  rw [f.dif h co cs] at this
  omega
/-- the same shares, the same square -/
theorem Flat.same (h : Gm n G) {T : List Nat} (f : Flat n G S y u) (g : Flat n G T c b) (e : ∀ i, i ∈ S ↔ i ∈ T) : b * b * Bf n G y y = u * u * Bf n G c c := by
  have h1 := f.low h (fun i hi => g.off i fun w => hi ((e i).mpr w)) g.sum
  have h2 := g.low h (fun i hi => f.off i fun w => hi ((e i).mp w)) f.sum
  omega
theorem at_sum {a : Nat} (ha : a < n) (f0 : Flat n G S c b) {z : Nat → Int} (zo : ∀ i, i ∉ S ++ [a] → z i = 0) (as : a ∉ S) : b * Bf n G c z = Bf n G c c * sN z n + (b * gd n G c a - Bf n G c c) * z a := by
  rw [Bf, ← sN_mul, ← sN_mul]
  have o := sN_one (g := fun i => if i = a then (b * gd n G c a - Bf n G c c) * z a else 0) n ha (fun j _ hj => if_neg hj)
  simp only [if_true] at o
  rw [← o, ← sN_add]
  refine sN_ext n fun i _ => ?_
  by_cases hi : i ∈ S
  · have ne : i ≠ a := fun w => as (w ▸ hi)
    rw [if_neg ne, ← f0.kkt i hi]
    grind
  · by_cases ia : i = a
    · subst ia
      rw [if_pos rfl]
      grind
    · rw [if_neg ia, zo i (by simp [hi, ia])]
      grind
theorem at_new {a : Nat} (h : Gm n G) (ha : a < n) (f0 : Flat n G S c b) (ai : AI n G S) (hlt : b * gd n G c a < Bf n G c c) :
    a ∉ S ∧ AI n G (S ++ [a]) ∧ ∀ (y : Nat → Int) (u : Int), Flat n G (S ++ [a]) y u → 0 < y a ∧ b * b * Bf n G y y < u * u * Bf n G c c := by
  have as : a ∉ S := fun w => by
    have := f0.kkt a w
    omega
  have ai2 : AI n G (S ++ [a]) := fun z z0 z1 z2 => by
    have e := at_sum ha f0 z0 as
    rw [Bf_sym h c z, Bf_null h z2, z1] at e
    have za : z a = 0 := by
      have e : (b * gd n G c a - Bf n G c c) * z a = 0 := by omega
      rcases Int.mul_eq_zero.mp e with w | w
      · omega
      · exact w
    refine ai z (fun i hi => ?_) z1 z2
    by_cases ia : i = a
    · rw [ia, za]
    · exact z0 i (by simp [hi, ia])
  refine ⟨as, ai2, fun y u f => ?_⟩
  have e := at_sum ha f0 f.off as
  rw [f.sum] at e
  have co : ∀ i, i ∉ S ++ [a] → c i = 0 := fun i hi => f0.off i fun w => hi (by simp [w])
  have e2 := f.bf h co
  rw [f0.sum] at e2
  have dif := f.dif h co f0.sum
  have key : u * ((Bf n G c c - b * gd n G c a) * y a) = u * u * Bf n G c c - b * b * Bf n G y y := by
    have k1 : u * (b * Bf n G c y) = b * (b * Bf n G y y) := by
      rw [← e2]; grind
    rw [e] at k1
    have k2 : u * (Bf n G c c * u + (b * gd n G c a - Bf n G c c) * y a) = u * u * Bf n G c c - u * ((Bf n G c c - b * gd n G c a) * y a) := by grind
    rw [k2] at k1
    have k3 : b * (b * Bf n G y y) = b * b * Bf n G y y := by grind
    omega
  have pw := h.psd (fun j => u * c j + (-b) * y j)
  have up := f.up
  have bp := f0.up
  have dp : 0 < Bf n G c c - b * gd n G c a := by omega
  rcases (by omega : 0 < u * u * Bf n G c c - b * b * Bf n G y y ∨ u * u * Bf n G c c - b * b * Bf n G y y = 0 ∨ u * u * Bf n G c c - b * b * Bf n G y y < 0) with w | w | w
  · refine ⟨?_, by omega⟩
    rw [← key] at w
    exact pos_of (pos_of w up) dp
  · exfalso
    have wz := ai2 (fun j => u * c j + (-b) * y j) (fun i hi => by rw [co i hi, f.off i hi]; simp) (by rw [sN_lin, f0.sum, f.sum]; grind) (by rw [dif, w])
    have g1 := gd_lin (n := n) (G := G) u (-b) c y a
    have g0 : gd n G (fun j => u * c j + (-b) * y j) a = 0 := sN_zero n fun j hj => by have := wz j hj; simp only [this, Int.zero_mul]
    rw [g0] at g1
    have k := f.kkt a (by simp)
    -- u² (b gd c a) = u² Bcc
    have t1 : u * u * (b * gd n G c a) = b * b * Bf n G y y := by
      have : u * gd n G c a = b * gd n G y a := by
        have : -b * gd n G y a = -(b * gd n G y a) := by grind
        omega
      have a1 : u * u * (b * gd n G c a) = b * u * (u * gd n G c a) := by grind
      rw [a1, this]
      have a2 : b * u * (b * gd n G y a) = b * b * (u * gd n G y a) := by grind
      rw [a2, k]
    have t2 : u * u * (b * gd n G c a) = u * u * Bf n G c c := by omega
    have t3 := Int.eq_of_mul_eq_mul_left (show u * u ≠ 0 from Int.ne_of_gt (Int.mul_pos up up)) t2
    omega
  · rw [dif] at pw; omega
/-- a step towards the flat's nearest -/
theorem step_is (h : Gm n G) (f : Flat n G S y u) (co : ∀ i, i ∉ S → c i = 0) (cs : sN c n = b) {go way : Int} (g0 : 0 ≤ go) (gw : go ≤ way) :
    sN (fun j => c j * u * (way - go) + y j * b * go) n = b * u * way ∧
    Bf n G (fun j => c j * u * (way - go) + y j * b * go) (fun j => c j * u * (way - go) + y j * b * go) = u * u * Bf n G c c * (way * way) - (u * u * Bf n G c c - b * b * Bf n G y y) * (go * (2 * way - go)) := by
  have e : (fun j => c j * u * (way - go) + y j * b * go) = fun j => (u * (way - go)) * c j + (b * go) * y j := by
    funext j; grind
  rw [e]
  refine ⟨by rw [sN_lin, cs, f.sum]; grind, ?_⟩
  have q := f.bf h co
  rw [cs] at q
  rw [Bf_linl, Bf_linr, Bf_linr, Bf_sym h y c]
  generalize Bf n G c y = m at q ⊢
  generalize Bf n G c c = p
  generalize Bf n G y y = r at q ⊢
  have : u * (way - go) * (u * (way - go) * p + b * go * m) + b * go * (u * (way - go) * m + b * go * r) = u * u * p * ((way - go) * (way - go)) + 2 * ((way - go) * go) * (b * (u * m)) + go * go * (b * b * r) := by grind
  rw [this, q]
  grind
end
end
end Lw
namespace Lw
/-! ### numbers at places, spread over the vectors -/
def spr (m : Nat) (s : Nat → Nat) (z : Nat → Int) : Nat → Int := fun i => sN (fun k => if s k = i then z k else 0) m
section
variable {n m : Nat} {s : Nat → Nat} {z : Nat → Int}
theorem spr_sum (hs : ∀ k, k < m → s k < n) (f : Nat → Int) : sN (fun i => spr m s z i * f i) n = sN (fun k => z k * f (s k)) m := by
  have e : sN (fun i => spr m s z i * f i) n = sN (fun i => sN (fun k => if s k = i then z k * f i else 0) m) n := by
    refine sN_ext n fun i _ => ?_
    unfold spr
    rw [Int.mul_comm, ← sN_mul]
    refine sN_ext m fun k _ => ?_
    split
    · grind
    · simp
  rw [e, sN_swap]
  refine sN_ext m fun k hk => ?_
  have o := sN_one (g := fun i => if s k = i then z k * f i else 0) n (hs k hk) (fun j _ hj => if_neg (Ne.symm hj))
  rw [o]
  exact if_pos rfl
theorem spr_off {i : Nat} (h : ∀ k, k < m → s k ≠ i) : spr m s z i = 0 := sN_zero m fun k hk => if_neg (h k hk)
theorem spr_at (inj : ∀ k l, k < m → l < m → s k = s l → k = l) {k : Nat} (hk : k < m) : spr m s z (s k) = z k := by
  have o := sN_one (g := fun l => if s l = s k then z l else 0) m hk (fun l hl hj => if_neg fun w => hj (inj l k hl hk w))
  unfold spr
  rw [o]
  exact if_pos rfl
theorem sN_left (g : Nat → Int) : ∀ m, sN g (m + 1) = g 0 + sN (fun j => g (j + 1)) m
  | 0 => by simp [sN]
  | m + 1 => by
    rw [show sN g (m + 1 + 1) = sN g (m + 1) + g (m + 1) from rfl, sN_left g m]
    simp only [sN]
    omega
variable {G : Nat → Nat → Int}
/-- the table of the flat through some vectors -/
def kT (m : Nat) (s : Nat → Nat) (G : Nat → Nat → Int) : Nat → Nat → Int := fun i j => if i = 0 then (if j = 0 then 0 else 1) else if j = 0 then 1 else if j = m + 1 then 0 else G (s (i - 1)) (s (j - 1))
theorem kT_row0 (x : Nat → Int) : sN (fun j => kT m s G 0 j * x j) (m + 2) = sN (fun k => x (k + 1)) m + x (m + 1) := by
  rw [sN_left]
  simp only [sN, kT, if_true]
  rw [if_neg (by omega)]
  have : sN (fun j => (if j + 1 = 0 then (0 : Int) else 1) * x (j + 1)) m = sN (fun k => x (k + 1)) m := sN_ext m fun k _ => by rw [if_neg (by omega)]; omega
  rw [this]
  omega
theorem kT_row (x : Nat → Int) (i : Nat) : sN (fun j => kT m s G (i + 1) j * x j) (m + 2) = x 0 + sN (fun k => G (s i) (s k) * x (k + 1)) m := by
  have k0 : kT m s G (i + 1) 0 = 1 := by unfold kT; rw [if_neg (by omega), if_pos rfl]
  have kl : kT m s G (i + 1) (m + 1) = 0 := by unfold kT; rw [if_neg (by omega), if_neg (by omega), if_pos rfl]
  have kk : sN (fun j => kT m s G (i + 1) (j + 1) * x (j + 1)) m = sN (fun k => G (s i) (s k) * x (k + 1)) m := sN_ext m fun k hk => by
    unfold kT
    rw [if_neg (by omega), if_neg (by omega), if_neg (by omega)]
    rfl
  rw [sN_left]
  simp only [sN]
  rw [k0, kl, kk]
  omega
section
variable (hs : ∀ k, k < m → s k < n) (inj : ∀ k l, k < m → l < m → s k = s l → k = l) (hg : Gm n G) {S : List Nat} (hS : ∀ i, i ∈ S ↔ ∃ k, k < m ∧ s k = i)
include hs inj hg hS
theorem spr_gd (x : Nat → Int) (i : Nat) : gd n G (spr m s x) i = sN (fun k => G i (s k) * x k) m := by
  unfold gd
  rw [spr_sum hs fun j => G j i]
  exact sN_ext m fun k _ => by rw [hg.sym (s k) i]; grind
theorem spr_Bf (x : Nat → Int) : Bf n G (spr m s x) (spr m s x) = sN (fun k => gd n G (spr m s x) (s k) * x k) m := by
  unfold Bf
  have : sN (fun i => gd n G (spr m s x) i * spr m s x i) n = sN (fun i => spr m s x i * gd n G (spr m s x) i) n := sN_ext n fun i _ => by grind
  rw [this, spr_sum hs fun i => gd n G (spr m s x) i]
  exact sN_ext m fun k _ => by grind
theorem kT_null (m0 : 0 < m) (ai : AI n G S) (z : Nat → Int) (hz : ∀ i, i < m + 1 → sN (fun j => kT m s G i j * z j) (m + 2) = 0) (hz0 : ∀ j, m + 1 ≤ j → z j = 0) : ∀ j, j < m + 1 → z j = 0 := by
  obtain ⟨x, hx⟩ : ∃ x : Nat → Int, ∀ k, x k = z (k + 1) := ⟨fun k => z (k + 1), fun _ => rfl⟩
  have r0 := hz 0 (by omega)
  rw [kT_row0, hz0 (m + 1) (by omega), Int.add_zero] at r0
  have rr : ∀ i, i < m → gd n G (spr m s x) (s i) = -z 0 := fun i hi => by
    have := hz (i + 1) (by omega)
    rw [kT_row] at this
    rw [spr_gd hs inj hg hS]
    have e : sN (fun k => G (s i) (s k) * x k) m = sN (fun k => G (s i) (s k) * z (k + 1)) m := sN_ext m fun k _ => by rw [hx]
    omega
  have sz : sN x m = 0 := by
    rw [← r0]
    exact sN_ext m fun k _ => hx k
  have sx : sN (spr m s x) n = 0 := by
    have e := spr_sum (z := x) hs fun _ => 1
    have e1 : sN (fun i => spr m s x i * 1) n = sN (spr m s x) n := sN_ext n fun i _ => by omega
    have e2 : sN (fun k => x k * 1) m = sN x m := sN_ext m fun k _ => by omega
    rw [e1, e2, sz] at e
    exact e
  have bb : Bf n G (spr m s x) (spr m s x) = 0 := by
    rw [spr_Bf hs inj hg hS]
    have : sN (fun k => gd n G (spr m s x) (s k) * x k) m = sN (fun k => -z 0 * x k) m := sN_ext m fun k hk => by rw [rr k hk]
    rw [this, sN_mul, sz]
    omega
  have all := ai (spr m s x) (fun i hi => spr_off fun k hk w => hi ((hS i).mpr ⟨k, hk, w⟩)) sx bb
  have xz : ∀ k, k < m → z (k + 1) = 0 := fun k hk => by
    have := all (s k) (hs k hk)
    rw [spr_at inj hk, hx] at this
    exact this
  intro j hj
  cases j with
  | succ j => exact xz j (by omega)
  | zero =>
    have := rr 0 m0
    rw [spr_gd hs inj hg hS, sN_zero m fun k hk => by rw [hx, xz k hk]; simp] at this
    omega
/-- what the eliminated table tells -/
theorem flat_of {x : Nat → Int} {d : Int} (hd : d ≠ 0) (r0 : sN (fun j => kT m s G 0 j * (if j = m + 1 then -d else x j)) (m + 2) = 0) (r : ∀ i, i < m → sN (fun j => kT m s G (i + 1) j * (if j = m + 1 then -d else x j)) (m + 2) = 0) :
    Flat n G S (spr m s fun k => if d < 0 then -x (k + 1) else x (k + 1)) (if d < 0 then -d else d) := by
  rw [kT_row0, if_pos rfl] at r0
  have e0 : sN (fun k => if k + 1 = m + 1 then -d else x (k + 1)) m = sN (fun k => x (k + 1)) m := sN_ext m fun k hk => if_neg (by omega)
  rw [e0] at r0
  have rr : ∀ i, i < m → x 0 + sN (fun k => G (s i) (s k) * x (k + 1)) m = 0 := fun i hi => by
    have := r i hi
    rw [kT_row, if_neg (by omega)] at this
    have e1 : sN (fun k => G (s i) (s k) * if k + 1 = m + 1 then -d else x (k + 1)) m = sN (fun k => G (s i) (s k) * x (k + 1)) m := sN_ext m fun k hk => by rw [if_neg (by omega)]
    rw [e1] at this
    exact this
  obtain ⟨sg, hsg, sg2⟩ : ∃ sg : Int, (sg = if d < 0 then -1 else 1) ∧ sg * sg = 1 := by
    refine ⟨_, rfl, ?_⟩
    split <;> rfl
  have ey : (fun k => if d < 0 then -x (k + 1) else x (k + 1)) = fun k => sg * x (k + 1) := by
    funext k
    rw [hsg]
    split <;> omega
  have eu : (if d < 0 then -d else d) = sg * d := by
    rw [hsg]
    split <;> omega
  rw [ey, eu]
  have gdk : ∀ i, i < m → gd n G (spr m s fun k => sg * x (k + 1)) (s i) = -(sg * x 0) := fun i hi => by
    rw [spr_gd hs inj hg hS]
    have : sN (fun k => G (s i) (s k) * (sg * x (k + 1))) m = sN (fun k => sg * (G (s i) (s k) * x (k + 1))) m := sN_ext m fun k _ => by grind
    rw [this, sN_mul]
    have := rr i hi
    have : sN (fun k => G (s i) (s k) * x (k + 1)) m = - x 0 := by omega
    rw [this]
    grind
  have sx : sN (fun k => x (k + 1)) m = d := by omega
  refine ⟨fun i hi => spr_off fun k hk w => hi ((hS i).mpr ⟨k, hk, w⟩), ?_, ?_, fun i hi => ?_⟩
  · have e := spr_sum (z := fun k => sg * x (k + 1)) hs fun _ => 1
    have e1 : sN (fun i => spr m s (fun k => sg * x (k + 1)) i * 1) n = sN (spr m s fun k => sg * x (k + 1)) n := sN_ext n fun i _ => by omega
    have e2 : sN (fun k => sg * x (k + 1) * 1) m = sN (fun k => sg * x (k + 1)) m := sN_ext m fun k _ => by omega
    rw [e1, e2, sN_mul, sx] at e
    exact e
  · rw [← eu]; split <;> omega
  · obtain ⟨k, hk, rfl⟩ := (hS i).mp hi
    rw [gdk k hk, spr_Bf hs inj hg hS]
    have : sN (fun k => gd n G (spr m s fun k => sg * x (k + 1)) (s k) * (sg * x (k + 1))) m = sN (fun k => (-(sg * x 0) * sg) * x (k + 1)) m := sN_ext m fun k hk => by rw [gdk k hk]; grind
    rw [this, sN_mul, sx]
    grind
end
end
end Lw
namespace Lw
open PySem L2 VS
/-! ### the table, eliminated -/
def frow (M : Nat) (f : Nat → Int) : List Int := (List.range M).map f
def mat (N M : Nat) (T : Nat → Nat → Int) : List D := (List.range N).map fun i => .lst (iL (frow M (T i)))
@[simp] theorem mat_len (N M : Nat) (T : Nat → Nat → Int) : (mat N M T).length = N := by simp [mat]
@[simp] theorem frow_len (M : Nat) (f : Nat → Int) : (frow M f).length = M := by simp [frow]
theorem frow_ext {M : Nat} {f g : Nat → Int} (h : ∀ j, j < M → f j = g j) : frow M f = frow M g := by
  unfold frow
  exact List.map_congr_left fun j hj => h j (List.mem_range.mp hj)
theorem mat_ext {N M : Nat} {T U : Nat → Nat → Int} (h : ∀ i, i < N → ∀ j, j < M → T i j = U i j) : mat N M T = mat N M U := by
  unfold mat
  exact List.map_congr_left fun i hi => by rw [frow_ext (h i (List.mem_range.mp hi))]
theorem mat_at {N M : Nat} {T : Nat → Nat → Int} {i : Nat} (hi : i < N) : atI (mat N M T) (i : Int) = some (.lst (iL (frow M (T i)))) := by
  rw [at_nat (by rw [mat_len]; exact hi)]
  simp [mat]
theorem frow_at {M : Nat} {f : Nat → Int} {j : Nat} (hj : j < M) : atI (iL (frow M f)) (j : Int) = some (.int (f j)) := by
  rw [at_nat (by rw [iL_len, frow_len]; exact hj), iL_ix]
  simp [frow]
theorem mat_set {N M : Nat} {T : Nat → Nat → Int} {r : Nat → Int} (k : Nat) : (mat N M T).set k (.lst (iL (frow M r))) = mat N M fun i => if i = k then r else T i := by
  apply List.ext_getElem
  · simp
  · intro i h1 h2
    rw [List.getElem_set]
    simp only [mat, List.getElem_map, List.getElem_range]
    by_cases e : k = i
    · rw [if_pos e, if_pos e.symm]
    · rw [if_neg e, if_neg (Ne.symm e)]
theorem zip_frow (M : Nat) (f g : Nat → Int) : zipD (iL (frow M f)) (iL (frow M g)) = (List.range M).map fun j => .tup [.int (f j), .int (g j)] := by
  rw [zip_iL]
  apply List.ext_getElem
  · simp
  · intro i h1 h2
    rw [fL_ix]
    simp [frow, fr]
theorem least_of {P : Nat → Prop} {k : Nat} : ∀ {i : Nat}, k ≤ i → P i → ∃ a, k ≤ a ∧ a ≤ i ∧ P a ∧ ∀ l, k ≤ l → l < a → ¬ P l := fun {i} => by
  induction i using Nat.strongRecOn with
  | ind i ih =>
    intro h p
    by_cases hc : ∃ l, k ≤ l ∧ l < i ∧ P l
    · obtain ⟨l, h1, h2, h3⟩ := hc
      obtain ⟨a, a1, a2, a3, a4⟩ := ih l h2 h1 h3
      exact ⟨a, a1, by omega, a3, a4⟩
    · exact ⟨i, h, Nat.le_refl _, p, fun l h1 h2 h3 => hc ⟨l, h1, h2, h3⟩⟩
theorem mB_mono {B : Nat} (hB : 1 ≤ B) : ∀ k, mB B k ≤ mB B (k + 1) := fun k => by
  show mB B k ≤ (k + 1) * (B * mB B k)
  have h1 : mB B k ≤ B * mB B k := by
    have := Nat.mul_le_mul_right (mB B k) hB
    omega
  have h2 : 1 * (B * mB B k) ≤ (k + 1) * (B * mB B k) := Nat.mul_le_mul_right _ (by omega)
  omega
theorem mB_le {B : Nat} (hB : 1 ≤ B) {k l : Nat} (h : k ≤ l) : mB B k ≤ mB B l := by
  induction l with
  | zero => cases Nat.le_zero.mp h; exact Nat.le_refl _
  | succ l ih =>
    by_cases e : k = l + 1
    · subst e; exact Nat.le_refl _
    · exact Nat.le_trans (ih (by omega)) (mB_mono hB l)
section
variable {N B k : Nat} {A T c : Nat → Nat → Int} {d : Int}
abbrev ES (N : Nat) (T : Nat → Nat → Int) (d : Int) (k : Nat) (a m i h : Option D) : S := ⟨[.ow (mat N (N + 1) T), .fr (.int d), .fr (.int k), op a, op m, op i, op h, .un, .un], [], false⟩
theorem find_go (hk : k < N) : ∀ (t at_ : Nat) (m i h : Option D), at_ + t < N → (∀ l, at_ ≤ l → l < at_ + t → T l k = 0) → T (at_ + t) k ≠ 0 → whGo w1_eliminated b1_eliminated (t + 1) (ES N T d k (some (.int at_)) m i h) = some (.nx (ES N T d k (some (.int ((at_ + t : Nat) : Int))) m i h)) := fun t => by
  induction t with
  | zero =>
    intro at_ m i h h1 h2 h3
    unfold whGo
    have e := mat_at (N := N) (M := N + 1) (T := T) (i := at_) (by omega)
    have e2 := frow_at (M := N + 1) (f := T at_) (j := k) (by omega)
    have h3 : ¬ T at_ k = 0 := h3
    simp [w1_eliminated, ES, op_some, e, e2, h3]
  | succ t ih =>
    intro at_ m i h h1 h2 h3
    unfold whGo
    have e := mat_at (N := N) (M := N + 1) (T := T) (i := at_) (by omega)
    have e2 := frow_at (M := N + 1) (f := T at_) (j := k) (by omega)
    have h0 := h2 at_ (Nat.le_refl _) (by omega)
    have n := ih (at_ + 1) m i h (by omega) (fun l a b => h2 l (by omega) (by omega)) (by rw [show at_ + 1 + t = at_ + (t + 1) by omega]; exact h3)
    rw [show at_ + 1 + t = at_ + (t + 1) by omega] at n
    have w : w1_eliminated (ES N T d k (some (.int at_)) m i h) = some true := by
      simp [w1_eliminated, ES, op_some, e, e2, h0]
    have b : b1_eliminated (ES N T d k (some (.int at_)) m i h) = some (.nx (ES N T d k (some (.int ((at_ + 1 : Nat) : Int))) m i h)) := by
      simp [b1_eliminated, ES, op_some]
    rw [w]
    simp only [b]
    exact n
theorem elim_step (hB : 1 ≤ B) (hs : 2 * mB B (N + 1) < 2 ^ 200) (h : Bar A N (N + 1) B k T c d) (hk : k < N) (hN : N ≤ 1000)
    (ns : ∀ z : Nat → Int, (∀ i, i < N → sN (fun j => A i j * z j) (N + 1) = 0) → (∀ j, N ≤ j → z j = 0) → ∀ j, j < N → z j = 0) (a m i hh : Option D) :
    ∃ T' c' d' a' m' i' h', b3_eliminated (ES N T d k a m i hh) = some (.nx (ES N T' d' k a' m' i' h')) ∧ Bar A N (N + 1) B (k + 1) T' c' d' := by
  obtain ⟨p0, p1, p2, p3⟩ := h.pivot hk (Nat.le_succ N) ns
  obtain ⟨p, q1, q2, q3, q4⟩ := least_of (P := fun l => T l k ≠ 0) p1 p3
  have pN : p < N := by omega
  have hw := h.swap (a := p) q1 pN
  obtain ⟨U, hU⟩ : ∃ U, U = swp k p T := ⟨_, rfl⟩
  rw [← hU] at hw
  have Ukk : U k k ≠ 0 := by
    rw [hU]; unfold swp; rw [if_pos rfl]; exact q3
  have nx := hw.step hk Ukk
  have le := fun i j => (hw.le hB i j).1
  have ld := (hw.le hB 0 0).2
  have m1 := mB_le hB (show k + 1 ≤ N + 1 by omega)
  have m0 := mB_le hB (show k ≤ N + 1 by omega)
  have Tle : ∀ i j, (U i j).natAbs < 2 ^ 200 := fun i j => by have := le i j; omega
  have fg := find_go (T := T) (d := d) hk (p - k) k m i hh (by omega) (fun l l1 l2 => Classical.byContradiction fun w => q4 l l1 (by omega) w) (by rw [show k + (p - k) = p by omega]; exact q3)
  rw [show k + (p - k) = p by omega] at fg
  have fw := sWhile_of fg
  have big : (2 : Nat) ^ 200 ≤ 2 ^ 499999 := Nat.pow_le_pow_right (by decide) (by decide)
  have sw : ((mat N (N + 1) T).set k (.lst (iL (frow (N + 1) (T p))))).set p (.lst (iL (frow (N + 1) (T k)))) = mat N (N + 1) U := by
    rw [mat_set, mat_set]
    refine mat_ext fun i _ j _ => ?_
    rw [hU]
    unfold swp
    by_cases e1 : i = p
    · rw [if_pos e1]
      by_cases e2 : i = k
      · rw [if_pos e2, ← e1, e2]
      · rw [if_neg e2, if_pos e1]
    · rw [if_neg e1]
      by_cases e2 : i = k
      · rw [if_pos e2, if_pos e2]
      · rw [if_neg e2, if_neg e2, if_neg e1]
  have i1 := mat_at (N := N) (M := N + 1) (T := T) pN
  have i2 := mat_at (N := N) (M := N + 1) (T := T) hk
  have i3 := mat_at (N := N) (M := N + 1) (T := U) hk
  have x1 : ixN N (k : Int) = some k := by rw [ixN_at (by omega) (by omega)]; rfl
  have x2 : ixN N (p : Int) = some p := by rw [ixN_at (by omega) (by omega)]; rfl
  have kk := frow_at (M := N + 1) (f := U k) (j := k) (by omega)
  obtain ⟨s1, e1, i', h', rfl⟩ := forI (k := forK (gName' 5) b2_eliminated) (ds := rngD 0 N) (s := ES N U d k (some (.int p)) (some (.lst (iL (frow (N + 1) (U k))))) i hh)
    (fun r s => ∃ i' h' : Option D, s = ES N (fun x => if x < r then bstep k d U x else U x) d k (some (.int p)) (some (.lst (iL (frow (N + 1) (U k))))) i' h')
    ⟨i, hh, by simp⟩ (fun r hr s => by
      rintro ⟨i', h', rfl⟩
      rw [rng_len] at hr
      rw [rng_at, Int.zero_add]
      have hr : r < N := by omega
      obtain ⟨V, hV⟩ : ∃ V : Nat → Nat → Int, V = fun x => if x < r then bstep k d U x else U x := ⟨_, rfl⟩
      have Vr : V r = U r := by rw [hV]; exact if_neg (by omega)
      rw [← hV]
      by_cases e : r = k
      · have same : mat N (N + 1) (fun x => if x < r + 1 then bstep k d U x else U x) = mat N (N + 1) V := by
          refine mat_ext fun x _ j _ => ?_
          rw [hV]
          by_cases x1 : x < r
          · simp only [if_pos x1, if_pos (show x < r + 1 by omega)]
          · by_cases x2 : x = k
            · simp only [if_neg x1, if_pos (show x < r + 1 by omega)]
              unfold bstep; rw [if_pos x2]
            · simp only [if_neg x1, if_neg (show ¬ x < r + 1 by omega)]
        have ei : (r : Int) = (k : Int) := by omega
        apply step_of
        · simp [b2_eliminated, ES, ei]
          exact rfl
        · exact ⟨some (.int r), h', by unfold ES; rw [same, ei]; rfl⟩
      · have ei : ¬ (r : Int) = (k : Int) := by omega
        have j1 := mat_at (N := N) (M := N + 1) (T := V) hr
        rw [Vr] at j1
        have j2 := frow_at (M := N + 1) (f := U r) (j := k) (by omega)
        have x3 : ixN N (r : Int) = some r := by rw [ixN_at (by omega) (by omega)]; rfl
        have lc : ∀ s : S, s = ⟨[.ow (mat N (N + 1) V), .fr (.int d), .fr (.int k), .fr (.int p), .fr (.lst (iL (frow (N + 1) (U k)))), .fr (.int r), .fr (.int (U r k)), .un, .un], [], false⟩ → lcGo (lcK (gTupN 2 (gsCons (gName' 7) (gsCons (gName' 8) gsNil))) bYes e1_eliminated s) (zipD (iL (frow (N + 1) (U r))) (iL (frow (N + 1) (U k)))) = some (iL (frow (N + 1) (bstep k d U r))) := fun s hs => by
          subst hs
          rw [zip_frow, show iL (frow (N + 1) (bstep k d U r)) = (List.range (N + 1)).map fun j => D.int (bstep k d U r j) by simp [iL, frow]]
          refine lc_mapP fun j hj => ?_
          have mm1 := mulOk_B (Nat.lt_of_lt_of_le (Tle r j) big) (Nat.lt_of_lt_of_le (Tle k k) big)
          have mm2 := mulOk_B (Nat.lt_of_lt_of_le (Tle r k) big) (Nat.lt_of_lt_of_le (Tle k j) big)
          obtain ⟨q, qe, _⟩ := hw.exact r e j
          have dv := ev_divN (a := U r j * U k k - U r k * U k j) (b := d) ⟨q, qe⟩ hw.nz (by omega) (by omega)
          have be : bstep k d U r j = (U r j * U k k - U r k * U k j) / d := by unfold bstep; rw [if_neg e]
          simp [e1_eliminated, kk, mul_of mm1, mul_of mm2, dv, be]
        have lc := lc _ rfl
        have zl : (zipD (iL (frow (N + 1) (U r))) (iL (frow (N + 1) (U k)))).length ≤ 1000000 := by rw [zip_frow]; simp; omega
        have st := mat_set (N := N) (M := N + 1) (T := V) (r := bstep k d U r) r
        have same : mat N (N + 1) (fun x => if x < r + 1 then bstep k d U x else U x) = mat N (N + 1) (fun x => if x = r then bstep k d U r else V x) := by
          refine mat_ext fun x _ j _ => ?_
          rw [hV]
          by_cases x1 : x < r
          · simp only [if_pos x1, if_pos (show x < r + 1 by omega), if_neg (show ¬ x = r by omega)]
          · by_cases x2 : x = r
            · simp only [if_pos x2, if_pos (show x < r + 1 by omega)]
              rw [x2]
            · simp only [if_neg x1, if_neg (show ¬ x < r + 1 by omega), if_neg x2]
        apply step_of
        · simp only [ES, op_some]
          simp [b2_eliminated, ei, j1, j2, zl, lc, x3, st, -zip_iL]
          exact rfl
        · exact ⟨some (.int r), some (.int (U r k)), by unfold ES; rw [same]; rfl⟩)
  rw [rng_len] at e1
  have fin : mat N (N + 1) (fun x => if x < ((N : Int) - 0).toNat then bstep k d U x else U x) = mat N (N + 1) (bstep k d U) := mat_ext fun x hx j _ => by
    rw [if_pos (by omega)]
  refine ⟨bstep k d U, swp k p c, U k k, some (.int p), some (.lst (iL (frow (N + 1) (U k)))), i', h', ?_, nx⟩
  have ib := in_B (a := (N : Int)) (by omega) (by omega)
  have fw : sWhile w1_eliminated b1_eliminated ⟨[.ow (mat N (N + 1) T), .fr (.int d), .fr (.int k), .fr (.int k), op m, op i, op hh, .un, .un], [], false⟩ = _ := fw
  simp only [ES, op_some] at e1 fw ⊢
  rw [fin] at e1
  simp [b3_eliminated, fw, i1, i2, x1, x2, sw, i3, ib, e1, kk]
theorem elim_is (hB : 1 ≤ B) (hs : 2 * mB B (N + 1) < 2 ^ 200) (hA : ∀ i j, (A i j).natAbs ≤ B) (hN : N ≤ 1000)
    (ns : ∀ z : Nat → Int, (∀ i, i < N → sN (fun j => A i j * z j) (N + 1) = 0) → (∀ j, N ≤ j → z j = 0) → ∀ j, j < N → z j = 0) :
    ∃ T d, f_eliminated (mat N (N + 1) A) = some (mat N (N + 1) T) ∧ d ≠ 0 ∧ (∀ i, i < N → T i i = d) ∧ (∀ i, i < N → (T i N).natAbs ≤ mB B (N + 1)) ∧ d.natAbs ≤ mB B N ∧ ∀ i, i < N → sN (fun j => A i j * (if j = N then -d else T j N)) (N + 1) = 0 := by
  rw [u_eliminated]
  unfold g_eliminated
  obtain ⟨s1, e1, k', T, c, d, a, m, i, h, rfl, br⟩ := forI (k := forK (gName' 2) b3_eliminated) (ds := rngD 0 N) (s := ⟨[.ow (mat N (N + 1) A), .fr (.int 1), .un, .un, .un, .un, .un, .un, .un], [], false⟩)
    (fun k s => ∃ (k' : Option D) (T c : Nat → Nat → Int) (d : Int) (a m i h : Option D), s = ⟨[.ow (mat N (N + 1) T), .fr (.int d), op k', op a, op m, op i, op h, .un, .un], [], false⟩ ∧ Bar A N (N + 1) B k T c d)
    ⟨none, A, A, 1, none, none, none, none, rfl, Bar.start hA⟩ (fun k hk s => by
      rintro ⟨k', T, c, d, a, m, i, h, rfl, br⟩
      rw [rng_len] at hk
      rw [rng_at, Int.zero_add]
      obtain ⟨T', c', d', a', m', i', h', e, br'⟩ := elim_step hB hs br (by omega) hN ns a m i h
      simp only [ES] at e
      exact ⟨_, by simp [e]; exact rfl, some (.int k), T', c', d', a', m', i', h', rfl, br'⟩)
  rw [rng_len, show ((N : Int) - 0).toNat = N by omega] at br
  have ib := in_B (a := (N : Int)) (by omega) (by omega)
  have o := br.out hB
  exact ⟨T, d, by simp [ib, e1], br.nz, o⟩
end
end Lw
namespace Lw
open PySem L2 VS
/-! ### the products of some vectors -/
def gram (vs : List (List Int)) (i j : Nat) : Int := dot (vs.getD i []) (vs.getD j [])
theorem dot_cons' (a b : Int) (p q : List Int) : dot (a :: p) (b :: q) = a * b + dot p q := by simp [dot]
theorem dot_sN : ∀ (d : Nat) (a b : List Int), a.length = d → b.length = d → dot a b = sN (fun k => a.getD k 0 * b.getD k 0) d
  | 0, a, b, ha, hb => by
    cases a with
    | nil => simp [dot, sN]
    | cons x a => simp at ha
  | d + 1, [], b, ha, _ => by simp at ha
  | d + 1, x :: a, [], _, hb => by simp at hb
  | d + 1, x :: a, y :: b, ha, hb => by
    rw [dot_cons', dot_sN d a b (by simpa using ha) (by simpa using hb), sN_left]
    rfl
structure Vc (vs : List (List Int)) (d Bd : Nat) : Prop where
  len : ∀ v ∈ vs, v.length = d
  sm : ∀ v ∈ vs, ∀ x ∈ v, -1073741824 ≤ x ∧ x ≤ 1073741824
  n0 : 0 < vs.length
  n1 : vs.length ≤ 100
  d1 : d ≤ 100
  bd : ∀ i j, (gram vs i j).natAbs ≤ Bd
  b1 : 1 ≤ Bd
section
variable {vs : List (List Int)} {d Bd : Nat}
theorem Vc.ent (v : Vc vs d Bd) {i : Nat} (hi : i < vs.length) : vs.getD i [] ∈ vs := by
  rw [List.getD_eq_getElem?_getD, List.getElem?_eq_getElem hi]
  exact List.getElem_mem hi
theorem Vc.ln (v : Vc vs d Bd) {i : Nat} (hi : i < vs.length) : (vs.getD i []).length = d := v.len _ (v.ent hi)
theorem dot_com (a b : List Int) : dot a b = dot b a := by
  induction a generalizing b with
  | nil => cases b <;> simp [dot]
  | cons x a ih =>
    cases b with
    | nil => simp [dot]
    | cons y b => rw [dot_cons', dot_cons', ih, Int.mul_comm]
/-- the mixture's coordinate -/
def mxc (vs : List (List Int)) (c : Nat → Int) (k : Nat) : Int := sN (fun j => c j * (vs.getD j []).getD k 0) vs.length
theorem gd_mx (v : Vc vs d Bd) (c : Nat → Int) {i : Nat} (hi : i < vs.length) : gd vs.length (gram vs) c i = sN (fun k => mxc vs c k * (vs.getD i []).getD k 0) d := by
  unfold gd
  have e : sN (fun j => c j * gram vs j i) vs.length = sN (fun j => sN (fun k => c j * (vs.getD j []).getD k 0 * (vs.getD i []).getD k 0) d) vs.length := sN_ext _ fun j hj => by
    unfold gram
    rw [dot_sN d _ _ (v.ln hj) (v.ln hi), ← sN_mul]
    exact sN_ext d fun k _ => by grind
  rw [e, sN_swap]
  refine sN_ext d fun k _ => ?_
  unfold mxc
  rw [Int.mul_comm, ← sN_mul]
  exact sN_ext _ fun j _ => by grind
theorem Bf_mx (v : Vc vs d Bd) (c e : Nat → Int) : Bf vs.length (gram vs) c e = sN (fun k => mxc vs c k * mxc vs e k) d := by
  unfold Bf
  have x : sN (fun i => gd vs.length (gram vs) c i * e i) vs.length = sN (fun i => sN (fun k => mxc vs c k * (e i * (vs.getD i []).getD k 0)) d) vs.length := sN_ext _ fun i hi => by
    rw [gd_mx v c hi, Int.mul_comm, ← sN_mul]
    exact sN_ext d fun k _ => by grind
  rw [x, sN_swap]
  refine sN_ext d fun k _ => ?_
  rw [sN_mul]
  rfl
theorem sN_nn {g : Nat → Int} : ∀ (m : Nat), (∀ j, j < m → 0 ≤ g j) → 0 ≤ sN g m
  | 0, _ => Int.le_refl _
  | m + 1, h => by
    have := sN_nn m fun j hj => h j (by omega)
    have := h m (by omega)
    show 0 ≤ sN g m + g m
    omega
theorem Vc.gm (v : Vc vs d Bd) : Gm vs.length (gram vs) := by
  refine ⟨fun i j => dot_com _ _, fun c => ?_⟩
  rw [Bf_mx v]
  refine sN_nn d fun k _ => ?_
  have := Int.natAbs_mul_self (a := mxc vs c k)
  omega
end
/-! ### the flat through some vectors -/
def nL (S : List Nat) : List D := S.map fun (k : Nat) => .int (k : Int)
@[simp] theorem nL_len (S : List Nat) : (nL S).length = S.length := by simp [nL]
theorem nL_ix {S : List Nat} {i : Nat} (h : i < (nL S).length) : (nL S)[i] = .int ((S[i]'(by simpa using h) : Nat) : Int) := by simp [nL]
theorem frow_split (m : Nat) (f : Nat → Int) : frow (m + 2) f = f 0 :: (frow m (fun k => f (k + 1)) ++ [f (m + 1)]) := by
  unfold frow
  rw [List.range_succ, List.map_append, List.range_succ_eq_map]
  simp
theorem spr_ext {m : Nat} {s : Nat → Nat} {z w : Nat → Int} (h : ∀ k, k < m → z k = w k) : spr m s z = spr m s w := by
  funext i
  unfold spr
  exact sN_ext m fun k hk => by rw [h k hk]
/-- positions -/
def pS (S : List Nat) (k : Nat) : Nat := S.getD k 0
theorem pS_ix {S : List Nat} {k : Nat} (h : k < S.length) : pS S k = S[k] := by
  unfold pS
  rw [List.getD_eq_getElem?_getD, List.getElem?_eq_getElem h]; rfl
/-- shares by vectors, of shares by places -/
def cf (S : List Nat) (t : List Int) : Nat → Int := spr S.length (pS S) fun k => t.getD k 0
section
variable {vs : List (List Int)} {d Bd : Nat} {S : List Nat}
theorem pS_lt (hS : ∀ i ∈ S, i < vs.length) : ∀ k, k < S.length → pS S k < vs.length := fun k hk => by
  rw [pS_ix hk]; exact hS _ (List.getElem_mem hk)
theorem pS_inj (nd : S.Nodup) : ∀ k l, k < S.length → l < S.length → pS S k = pS S l → k = l := fun k l hk hl e => by
  rw [pS_ix hk, pS_ix hl] at e
  exact (List.getElem_inj nd).mp e
theorem pS_mem : ∀ i, i ∈ S ↔ ∃ k, k < S.length ∧ pS S k = i := fun i => by
  rw [List.mem_iff_getElem]
  constructor
  · rintro ⟨k, hk, e⟩
    exact ⟨k, hk, by rw [pS_ix hk]; exact e⟩
  · rintro ⟨k, hk, e⟩
    exact ⟨k, hk, by rw [pS_ix hk] at e; exact e⟩
theorem flat_is (v : Vc vs d Bd) (hS : ∀ i ∈ S, i < vs.length) (nd : S.Nodup) (s0 : 0 < S.length) (ai : AI vs.length (gram vs) S) (hb : 2 * mB Bd (S.length + 2) < 2 ^ 200) (h100 : S.length ≤ 100) :
    ∃ (f : List Int) (u : Int), f_flat_tops [.lst (pL vs), .lst (nL S)] = some (.val (.tup [.lst (iL f), .int u])) ∧ f.length = S.length ∧ Flat vs.length (gram vs) S (cf S f) u ∧ (∀ x ∈ f, x.natAbs ≤ mB Bd (S.length + 2)) ∧ u.natAbs ≤ mB Bd (S.length + 2) := by
  rw [u_flat_tops]
  unfold g_flat_tops
  obtain ⟨m, hm⟩ : ∃ m, m = S.length := ⟨_, rfl⟩
  obtain ⟨K, hK⟩ : ∃ K, K = kT m (pS S) (gram vs) := ⟨_, rfl⟩
  rw [← hm] at s0 hb h100
  have pd : ∀ i j, i < vs.length → j < vs.length → f_product [.tup (iL (vs.getD i [])), .tup (iL (vs.getD j []))] = some (.val (.int (gram vs i j))) := fun i j hi hj =>
    product_is (fun x hx => by have := v.sm _ (v.ent hi) x hx; omega) (fun x hx => by have := v.sm _ (v.ent hj) x hx; omega) (by rw [v.ln hi]; have := v.d1; omega)
  have at_ : ∀ i, i < vs.length → atI (pL vs) (i : Int) = some (.tup (iL (vs.getD i []))) := fun i hi => by
    rw [at_nat (by rw [pL_len]; exact hi), pL_ix, List.getD_eq_getElem?_getD, List.getElem?_eq_getElem hi]
    rfl
  have e1 : lcGo (lcK (gName' 3) bYes e1_flat_tops ⟨[.fr (.lst (pL vs)), .fr (.lst (nL S)), .un, .un, .un, .un, .un, .un, .un], [], false⟩) (nL S) = some (iL (List.replicate m 1)) := by
    rw [show iL (List.replicate m (1 : Int)) = S.map fun (_ : Nat) => D.int 1 by rw [hm]; simp [iL, List.map_const']]
    refine lc_mapP (φ := fun (k : Nat) => D.int (k : Int)) fun k _ => ?_
    simp [e1_flat_tops]
  have r0 : D.int 0 :: (iL (List.replicate m 1) ++ [D.int 1]) = iL (frow (m + 2) (K 0)) := by
    rw [frow_split, hK]
    have a : frow m (fun k => kT m (pS S) (gram vs) 0 (k + 1)) = List.replicate m 1 := by
      unfold frow
      apply List.ext_getElem
      · simp
      · intro i h1 h2
        simp [kT]
    rw [a]
    simp [iL, kT]
  have mat1 : ∀ i, mat (i + 1) (m + 2) K = mat i (m + 2) K ++ [.lst (iL (frow (m + 2) (K i)))] := fun i => by
    unfold mat
    rw [List.range_succ, List.map_append]
    rfl
  obtain ⟨s1, q1, x, rfl⟩ := forI (k := forK (gName' 3) b1_flat_tops) (ds := nL S) (s := ⟨[.fr (.lst (pL vs)), .fr (.lst (nL S)), .ow (mat 1 (m + 2) K), .un, .un, .un, .un, .un, .un], [], false⟩)
    (fun i s => ∃ x : Option D, s = ⟨[.fr (.lst (pL vs)), .fr (.lst (nL S)), .ow (mat (i + 1) (m + 2) K), op x, .un, .un, .un, .un, .un], [], false⟩)
    ⟨none, rfl⟩ (fun i hi s => by
      rintro ⟨x, rfl⟩
      rw [nL_len] at hi
      rw [nL_ix]
      have hlt := hS _ (List.getElem_mem hi)
      have pi := pS_ix hi
      obtain ⟨o, ho⟩ : ∃ o, o = S[i] := ⟨_, rfl⟩
      rw [← ho] at hlt pi ⊢
      have e2 : ∀ s : VS.S, s = ⟨[.fr (.lst (pL vs)), .fr (.lst (nL S)), .ow (mat (i + 1) (m + 2) K), .fr (.int (o : Int)), .un, .un, .un, .un, .un], [], false⟩ → lcGo (lcK (gName' 4) bYes e2_flat_tops s) (nL S) = some (iL (S.map fun k => gram vs o k)) := fun s hs => by
        subst hs
        rw [show iL (S.map fun k => gram vs o k) = S.map fun k => D.int (gram vs o k) by simp [iL]]
        refine lc_mapP (φ := fun (k : Nat) => D.int (k : Int)) fun k hk => ?_
        have a1 := at_ o hlt
        have a2 := at_ k (hS k hk)
        have p := pd o k hlt (hS k hk)
        simp [e2_flat_tops, a1, a2, p, -List.getD_eq_getElem?_getD]
      have e2 := e2 _ rfl
      have ri : D.int 1 :: (iL (S.map fun k => gram vs o k) ++ [D.int 0]) = iL (frow (m + 2) (K (i + 1))) := by
        rw [frow_split, hK]
        have a : frow m (fun k => kT m (pS S) (gram vs) (i + 1) (k + 1)) = S.map fun k => gram vs o k := by
          apply List.ext_getElem
          · simp [frow, hm]
          · intro j h1 h2
            simp only [frow, List.getElem_map, List.getElem_range]
            rw [frow_len] at h1
            unfold kT
            rw [if_neg (by omega), if_neg (by omega), if_neg (by omega), Nat.add_sub_cancel, Nat.add_sub_cancel, pi, pS_ix (by omega)]
        rw [a]
        simp [iL, kT]
      have l0 : S.length ≤ 1000000 := by omega
      have l1 : 1 + S.length ≤ 16777216 := by omega
      have l2 : S.length ≤ 16777214 := by omega
      have l3 : i < 1000000 := by omega
      have l4 : i + 1 < 1000000 := by omega
      apply step_of
      · simp [b1_flat_tops, l0, e2, l1, l2, ri, ev_app, l3, l4, ← mat1]
        exact rfl
      · exact ⟨some _, rfl⟩)
  rw [nL_len, ← hm] at q1
  have hs := pS_lt hS
  have inj := pS_inj nd
  have pm : ∀ i, i ∈ S ↔ ∃ k, k < m ∧ pS S k = i := by rw [hm]; exact pS_mem
  rw [← hm] at hs inj
  have hA : ∀ i j, (K i j).natAbs ≤ Bd := fun i j => by
    have := v.b1
    rw [hK]
    unfold kT
    split
    · split <;> simp <;> omega
    · split
      · simpa using this
      · split
        · simp
        · exact v.bd _ _
  obtain ⟨T, dd, t1, t2, t3, t4, t5, t6⟩ := elim_is (N := m + 1) (A := K) v.b1 hb hA (by omega) (by
    rw [hK]
    exact kT_null hs inj v.gm pm s0 ai)
  have mB1 : mB Bd (m + 1) ≤ mB Bd (m + 2) := mB_mono v.b1 (m + 1)
  obtain ⟨f, hf⟩ : ∃ f : List Int, f = (List.range m).map fun k => if dd < 0 then -T (k + 1) (m + 1) else T (k + 1) (m + 1) := ⟨_, rfl⟩
  have fl : f.length = m := by rw [hf]; simp
  have fg : ∀ k, k < m → f.getD k 0 = if dd < 0 then -T (k + 1) (m + 1) else T (k + 1) (m + 1) := fun k hk => by
    rw [hf, List.getD_eq_getElem?_getD, List.getElem?_eq_getElem (by simpa using hk)]
    simp
  refine ⟨f, if dd < 0 then -dd else dd, ?_, by omega, ?_, fun x hx => ?_, ?_⟩
  · have tops : lcGo (lcK (gName' 7) bYes e3_flat_tops ⟨[.fr (.lst (pL vs)), .fr (.lst (nL S)), .ow (mat (m + 1) (m + 2) T), op x, .un, .fr (.int dd), .un, .un, .un], [], false⟩) ((mat (m + 1) (m + 2) T).drop 1) = some (iL ((List.range m).map fun k => T (k + 1) (m + 1))) := by
      have dr : (mat (m + 1) (m + 2) T).drop 1 = (List.range m).map fun k => .lst (iL (frow (m + 2) (T (k + 1)))) := by
        unfold mat
        rw [List.range_succ_eq_map]
        simp
      rw [dr, show iL ((List.range m).map fun k => T (k + 1) (m + 1)) = (List.range m).map fun k => D.int (T (k + 1) (m + 1)) by simp [iL]]
      refine lc_mapP fun k hk => ?_
      have la : atI (iL (frow (m + 2) (T (k + 1)))) (-1) = some (.int (T (k + 1) (m + 1))) := by
        have e : iL (frow (m + 2) (T (k + 1))) = iL (T (k + 1) 0 :: frow m (fun j => T (k + 1) (j + 1))) ++ [.int (T (k + 1) (m + 1))] := by
          rw [frow_split, ← iL_app]; rfl
        rw [e, at_last (by simp)]
        simp
      simp [e3_flat_tops, la]
    have ng : ∀ z : Sl, lcGo (lcK (gName' 8) bYes e4_flat_tops ⟨[.fr (.lst (pL vs)), .fr (.lst (nL S)), .ow (mat (m + 1) (m + 2) T), op x, .un, .fr (.int dd), .fr (.lst (iL ((List.range m).map fun k => T (k + 1) (m + 1)))), z, .un], [], false⟩) (iL ((List.range m).map fun k => T (k + 1) (m + 1))) = some (iL ((List.range m).map fun k => -T (k + 1) (m + 1))) := fun z => by
      unfold iL
      rw [List.map_map, List.map_map]
      refine lc_mapP fun k _ => ?_
      simp [e4_flat_tops]
    have l0 : S.length ≤ 1000000 := by omega
    have l1 : 1 + m ≤ 16777216 := by omega
    have l2 : m ≤ 16777214 := by omega
    have lm : m ≤ 1000000 := by omega
    have a00 := mat_at (N := m + 1) (M := m + 2) (T := T) (i := 0) (by omega)
    have a01 := frow_at (M := m + 2) (f := T 0) (j := 0) (by omega)
    have a00 : atI (mat (m + 1) (m + 2) T) 0 = _ := a00
    have a01 : atI (iL (frow (m + 2) (T 0))) 0 = _ := a01
    rw [t3 0 (by omega)] at a01
    have cu : cutD (mat (m + 1) (m + 2) T) (some 1) none = (mat (m + 1) (m + 2) T).drop 1 := by rw [cut_from (by omega)]; rfl
    have m1e : [D.lst (iL (frow (m + 2) (K 0)))] = mat 1 (m + 2) K := rfl
    apply seq_step
    · simp [l0, e1, l1, l2, r0, m1e]
      exact rfl
    apply seq_step
    · simp
      exact q1
    apply seq_step
    · simp [t1]
      exact rfl
    apply seq_step
    · simp [a00, a01]
      exact rfl
    apply seq_step
    · simp [cu, lm, tops, -List.drop_one]
      exact rfl
    by_cases z : dd < 0
    · rw [if_pos z]
      simp only [if_pos z] at hf
      simp [z, lm, ng, hf]
    · rw [if_neg z]
      simp only [if_neg z] at hf
      simp [z, hf]
  · have fo := flat_of (x := fun j => T j (m + 1)) (d := dd) hs inj v.gm pm t2 (by have := t6 0 (by omega); rw [hK] at this; exact this) (fun i hi => by have := t6 (i + 1) (by omega); rw [hK] at this; exact this)
    have e : cf S f = spr m (pS S) fun k => if dd < 0 then -T (k + 1) (m + 1) else T (k + 1) (m + 1) := by
      unfold cf
      rw [← hm]
      exact spr_ext fg
    rw [e]
    exact fo
  · rw [hf] at hx
    obtain ⟨k, hk, rfl⟩ := List.mem_map.mp hx
    have := t4 (k + 1) (by have := List.mem_range.mp hk; omega)
    rw [← hm]
    split
    · rw [Int.natAbs_neg]; exact this
    · exact this
  · rw [← hm]
    split
    · rw [Int.natAbs_neg]; omega
    · omega
end
end Lw
namespace Lw
open PySem L2 VS
theorem nlt_mul {a b : Int} {p q : Nat} (h : a.natAbs < 2 ^ p) (h' : b.natAbs < 2 ^ q) : (a * b).natAbs < 2 ^ (p + q) := by
  rw [Int.natAbs_mul, Nat.pow_add]
  exact Nat.mul_lt_mul'' h h'
theorem nlt_le {a : Int} {p q : Nat} (h : a.natAbs < 2 ^ p) (hq : p ≤ q) : a.natAbs < 2 ^ q := Nat.lt_of_lt_of_le h (Nat.pow_le_pow_right (by decide) hq)
theorem nlt_add {a b : Int} {p : Nat} (h : a.natAbs < 2 ^ p) (h' : b.natAbs < 2 ^ p) : (a + b).natAbs < 2 ^ (p + 1) := by
  rw [Nat.pow_succ]
  omega
theorem nlt_sub {a b : Int} {p : Nat} (h : a.natAbs < 2 ^ p) (h' : b.natAbs < 2 ^ p) : (a - b).natAbs < 2 ^ (p + 1) := by
  rw [Nat.pow_succ]
  omega
theorem mul_nlt {a b : Int} {p q : Nat} (h : a.natAbs < 2 ^ p) (h' : b.natAbs < 2 ^ q) (hp : p ≤ 400000) (hq : q ≤ 400000) : dMulI (.int a) (.int b) = some (.int (a * b)) := mul_of (mulOk_B (nlt_le h (by omega)) (nlt_le h' (by omega)))
theorem lowest_is (ts : List Int) (b : Int) (hb : 0 < b) (hb2 : b.natAbs < 2 ^ 8999) (hl : ts.length ≤ 1000) :
    ∃ g : Int, f_lowest_terms [.lst (iL ts), .int b] = some (.val (.tup [.lst (iL (ts.map fun t => t / g)), .int (b / g)])) ∧ 0 < g ∧ g ∣ b ∧ (∀ t ∈ ts, g ∣ t) ∧ ∀ h : Int, h ∣ b → (∀ t ∈ ts, h ∣ t) → h ∣ g := by
  rw [u_lowest_terms]
  unfold g_lowest_terms
  obtain ⟨s1, e1, g, x, rfl, g0, g1, g2, g3⟩ := forI (k := forK (gName' 3) b1_lowest_terms) (ds := iL ts) (s := ⟨[.fr (.lst (iL ts)), .fr (.int b), .fr (.int b), .un], [], false⟩)
    (fun i s => ∃ (g : Int) (x : Option D), s = ⟨[.fr (.lst (iL ts)), .fr (.int b), .fr (.int g), op x], [], false⟩ ∧ 0 < g ∧ g ∣ b ∧ (∀ t ∈ ts.take i, g ∣ t) ∧ ∀ h : Int, h ∣ b → (∀ t ∈ ts.take i, h ∣ t) → h ∣ g)
    ⟨b, none, rfl, hb, Int.dvd_refl b, by simp, fun h h1 _ => h1⟩ (fun i hi s => by
      rintro ⟨g, x, rfl, g0, g1, g2, g3⟩
      rw [iL_len] at hi
      rw [iL_ix]
      have tk : ts.take (i + 1) = ts.take i ++ [ts[i]] := by rw [List.take_succ, List.getElem?_eq_getElem hi]; rfl
      rw [tk]
      generalize ts[i] = t
      have f := fac_shared g t
      apply step_of
      · simp [b1_lowest_terms, f]
        exact rfl
      · refine ⟨(Int.gcd g t : Int), some _, rfl, ?_, Int.dvd_trans (Int.gcd_dvd_left g t) g1, fun z hz => ?_, fun h h1 h2 => Int.dvd_coe_gcd (g3 h h1 fun z hz => h2 z (List.mem_append_left _ hz)) (h2 t (by simp))⟩
        · have : Int.gcd g t ≠ 0 := fun w => by
            have := (Int.gcd_eq_zero_iff.mp w).1
            omega
          omega
        · rcases List.mem_append.mp hz with hz | hz
          · exact Int.dvd_trans (Int.gcd_dvd_left g t) (g2 z hz)
          · simp only [List.mem_singleton] at hz
            subst hz
            exact Int.gcd_dvd_right g z)
  rw [iL_len, List.take_length] at g2 g3
  have gb : g.natAbs < 2 ^ 8999 := by
    have := Int.le_of_dvd hb g1
    exact Nat.lt_of_le_of_lt (by omega) hb2
  have dv : ∀ t : Int, dDiv (.int t) (.int g) = some (.int (t / g)) := fun t => div_of g0 gb
  have lc : ∀ z : Sl, lcGo (lcK (gName' 3) bYes e1_lowest_terms ⟨[.fr (.lst (iL ts)), .fr (.int b), .fr (.int g), z], [], false⟩) (iL ts) = some (iL (ts.map fun t => t / g)) := fun z => by
    rw [show iL (ts.map fun t => t / g) = ts.map fun t => D.int (t / g) by simp [iL]]
    refine lc_mapP (φ := D.int) fun t _ => ?_
    simp [e1_lowest_terms, dv]
  have l1 : ts.length ≤ 1000000 := by omega
  exact ⟨g, by simp [e1, l1, lc, dv], g0, g1, g2, g3⟩
/-- how far the shares may go -/
structure Lft (ts fs : List Int) (b u go way : Int) (i : Nat) : Prop where
  g0 : 0 ≤ go
  gw : go ≤ way
  w0 : 0 < way
  le : ∀ j, j < i → fs.getD j 0 < 0 → go * (ts.getD j 0 * u - fs.getD j 0 * b) ≤ ts.getD j 0 * u * way
  one : (go = 1 ∧ way = 1) ∨ ∃ j, j < i ∧ fs.getD j 0 < 0 ∧ go = ts.getD j 0 * u ∧ way = ts.getD j 0 * u - fs.getD j 0 * b
  sm : go.natAbs < 2 ^ 200000 ∧ way.natAbs < 2 ^ 200001
theorem first_is {ts fs : List Int} {b u : Int} {p : Nat} (hl : ts.length = fs.length) (ht : ∀ t ∈ ts, 0 ≤ t ∧ t.natAbs < 2 ^ p) (hf : ∀ t ∈ fs, t.natAbs < 2 ^ p) (hb : 0 < b ∧ b.natAbs < 2 ^ p) (hu : 0 < u ∧ u.natAbs < 2 ^ p) (hp : p ≤ 100000) :
    ∃ go way : Int, f_first_left [.lst (iL ts), .int b, .lst (iL fs), .int u] = some (.val (.tup [.int go, .int way])) ∧ Lft ts fs b u go way ts.length := by
  rw [u_first_left]
  unfold g_first_left
  have one : (1 : Int).natAbs < 2 ^ 200000 := by
    show 1 < 2 ^ 200000
    exact Nat.one_lt_two_pow (by omega)
  obtain ⟨s1, e1, go, way, x, y, z, w, rfl, L⟩ := forI (k := forK (gTupN 2 (gsCons (gName' 5) (gsCons (gName' 6) gsNil))) b1_first_left) (ds := zipD (iL ts) (iL fs)) (s := ⟨[.fr (.lst (iL ts)), .fr (.int b), .fr (.lst (iL fs)), .fr (.int u), .fr (.tup [.int 1, .int 1]), .un, .un, .un, .un], [], false⟩)
    (fun i s => ∃ (go way : Int) (x y z w : Option D), s = ⟨[.fr (.lst (iL ts)), .fr (.int b), .fr (.lst (iL fs)), .fr (.int u), .fr (.tup [.int go, .int way]), op x, op y, op z, op w], [], false⟩ ∧ Lft ts fs b u go way i)
    ⟨1, 1, none, none, none, none, rfl, by omega, by omega, by omega, fun j hj => by omega, .inl ⟨rfl, rfl⟩, one, nlt_le one (by omega)⟩ (fun i hi s => by
      rintro ⟨go, way, x, y, z, w, rfl, L⟩
      rw [zip_len, iL_len, iL_len] at hi
      rw [zip_at, iL_ix, iL_ix]
      have hi1 : i < ts.length := by omega
      have hi2 : i < fs.length := by omega
      have t1 := ht _ (List.getElem_mem hi1)
      have f1 := hf _ (List.getElem_mem hi2)
      have tg : ts.getD i 0 = ts[i] := by rw [List.getD_eq_getElem?_getD, List.getElem?_eq_getElem hi1]; rfl
      have fg : fs.getD i 0 = fs[i] := by rw [List.getD_eq_getElem?_getD, List.getElem?_eq_getElem hi2]; rfl
      rw [← tg] at t1 ⊢
      rw [← fg] at f1 ⊢
      obtain ⟨t, ht'⟩ : ∃ t, t = ts.getD i 0 := ⟨_, rfl⟩
      obtain ⟨f, hf'⟩ : ∃ f, f = fs.getD i 0 := ⟨_, rfl⟩
      rw [← ht'] at t1 ⊢
      rw [← hf'] at f1 ⊢
      by_cases n : f < 0
      · obtain ⟨gi, hgi⟩ : ∃ gi, gi = t * u := ⟨_, rfl⟩
        obtain ⟨wi, hwi⟩ : ∃ wi, wi = gi - f * b := ⟨_, rfl⟩
        have gi0 : 0 ≤ gi := by rw [hgi]; exact Int.mul_nonneg t1.1 (by omega)
        have fb : 0 < -(f * b) := by
          have := Int.mul_pos (show 0 < -f by omega) hb.1
          have e : -f * b = -(f * b) := by grind
          omega
        have wi0 : gi < wi := by omega
        have gis : gi.natAbs < 2 ^ 200000 := by rw [hgi]; exact nlt_le (nlt_mul t1.2 hu.2) (by omega)
        have fbs : (f * b).natAbs < 2 ^ 200000 := nlt_le (nlt_mul f1 hb.2) (by omega)
        have wis : wi.natAbs < 2 ^ 200001 := by rw [hwi]; exact nlt_sub gis fbs
        have m1 := mul_nlt t1.2 hu.2 (by omega) (by omega)
        have m2 := mul_nlt f1 hb.2 (by omega) (by omega)
        have m3 := mul_nlt gis L.sm.2 (by omega) (by omega)
        have m4 := mul_nlt L.sm.1 wis (by omega) (by omega)
        have a0 : ∀ a b : D, atI [a, b] 0 = some a := fun a b => rfl
        have a1 : ∀ a b : D, atI [a, b] 1 = some b := fun a b => rfl
        rw [← hgi] at m1
        by_cases c : gi * way < go * wi
        · apply step_of
          · simp [b1_first_left, n, m1, m2, ← hwi, a0, a1, m3, m4, c]
            exact rfl
          · refine ⟨gi, wi, some _, some _, some _, some _, rfl, gi0, by omega, by omega, fun j hj hn => ?_, .inr ⟨i, by omega, by rw [← hf']; exact n, by rw [← ht', hgi], by rw [← ht', ← hf', ← hgi, hwi]⟩, gis, wis⟩
            by_cases e : j = i
            · subst e
              rw [← ht', ← hf', ← hgi, ← hwi]
              exact Int.le_refl _
            · have l := L.le j (by omega) hn
              obtain ⟨gj, hgj⟩ : ∃ gj, gj = ts.getD j 0 * u := ⟨_, rfl⟩
              obtain ⟨wj, hwj⟩ : ∃ wj, wj = ts.getD j 0 * u - fs.getD j 0 * b := ⟨_, rfl⟩
              rw [← hwj, ← hgj] at l ⊢
              have tj : 0 ≤ ts.getD j 0 := by
                rw [List.getD_eq_getElem?_getD, List.getElem?_eq_getElem (show j < ts.length by omega)]
                exact (ht _ (List.getElem_mem _)).1
              have wj0 : 0 < wj := by
                have := Int.mul_pos (show 0 < -(fs.getD j 0) by omega) hb.1
                have e : -(fs.getD j 0) * b = -(fs.getD j 0 * b) := by grind
                have := Int.mul_nonneg tj (show 0 ≤ u by omega)
                omega
              -- gi way wj ≤ go wi wj ≤ gj way wi
              have k1 : gi * way * wj ≤ go * wi * wj := Int.mul_le_mul_of_nonneg_right (by omega) (by omega)
              have k2 : go * wj * wi ≤ gj * way * wi := Int.mul_le_mul_of_nonneg_right l (by omega)
              have k3 : way * (gi * wj) ≤ way * (gj * wi) := by
                have e1 : gi * way * wj = way * (gi * wj) := by grind
                have e2 : go * wi * wj = go * wj * wi := by grind
                have e3 : gj * way * wi = way * (gj * wi) := by grind
                omega
              exact Int.le_of_mul_le_mul_left k3 L.w0
        · apply step_of
          · simp [b1_first_left, n, m1, m2, ← hwi, a0, a1, m3, m4, c]
            exact rfl
          · refine ⟨go, way, some _, some _, some _, some _, rfl, L.g0, L.gw, L.w0, fun j hj hn => ?_, ?_, L.sm⟩
            · by_cases e : j = i
              · subst e
                rw [← ht', ← hf', ← hgi, ← hwi]
                omega
              · exact L.le j (by omega) hn
            · rcases L.one with q | ⟨j, q1, q2⟩
              · exact .inl q
              · exact .inr ⟨j, by omega, q2⟩
      · apply step_of
        · simp [b1_first_left, n]
          exact rfl
        · refine ⟨go, way, some _, some _, z, w, rfl, L.g0, L.gw, L.w0, fun j hj hn => ?_, ?_, L.sm⟩
          · by_cases e : j = i
            · subst e; rw [← hf'] at hn; exact absurd hn n
            · exact L.le j (by omega) hn
          · rcases L.one with q | ⟨j, q1, q2⟩
            · exact .inl q
            · exact .inr ⟨j, by omega, q2⟩)
  rw [zip_len, iL_len, iL_len, show min ts.length fs.length = ts.length by omega] at L
  exact ⟨go, way, by simp [e1], L⟩
end Lw
namespace Lw
open PySem L2 VS
/-! ### a step between two flats -/
section
variable {n : Nat} {G : Nat → Nat → Int}
theorem spr_lin {m : Nat} {s : Nat → Nat} {z w : Nat → Int} (a b : Int) (i : Nat) : spr m s (fun k => a * z k + b * w k) i = a * spr m s z i + b * spr m s w i := by
  unfold spr
  rw [← sN_lin]
  exact sN_ext m fun k _ => by split <;> simp
/-- what is kept -/
theorem cf_kept {S K : List Nat} {z : Nat → Int} (nd : S.Nodup) (kn : K.Nodup) (kl : ∀ k ∈ K, k < S.length) (kz : ∀ k, k < S.length → k ∉ K → z k = 0) :
    cf (K.map (pS S)) (K.map z) = spr S.length (pS S) z := by
  have inj := pS_inj nd
  have knd : (K.map (pS S)).Nodup := by
    rw [List.nodup_iff_pairwise_ne, List.pairwise_map]
    exact List.Pairwise.imp_of_mem (fun {a b} ha hb hab e => hab (inj a b (kl a ha) (kl b hb) e)) (List.nodup_iff_pairwise_ne.mp kn)
  funext i
  by_cases hi : ∃ k, k < S.length ∧ pS S k = i
  · obtain ⟨k, hk, rfl⟩ := hi
    rw [spr_at inj hk]
    by_cases hK : k ∈ K
    · obtain ⟨l, hl, rfl⟩ := List.getElem_of_mem hK
      have e : pS S K[l] = pS (K.map (pS S)) l := by
        rw [pS_ix (S := K.map (pS S)) (by simpa using hl)]
        simp
      unfold cf
      rw [e, spr_at (pS_inj knd) (by simpa using hl), List.getD_eq_getElem?_getD, List.getElem?_eq_getElem (by simpa using hl)]
      simp
    · rw [kz k hk hK]
      unfold cf
      refine spr_off fun l hl w => ?_
      rw [List.length_map] at hl
      rw [pS_ix (by simpa using hl)] at w
      simp only [List.getElem_map] at w
      have := inj _ _ (kl _ (List.getElem_mem hl)) hk w
      exact hK (this ▸ List.getElem_mem hl)
  · rw [spr_off fun k hk w => hi ⟨k, hk, w⟩]
    unfold cf
    refine spr_off fun l hl w => ?_
    rw [List.length_map] at hl
    rw [pS_ix (by simpa using hl)] at w
    simp only [List.getElem_map] at w
    exact hi ⟨_, kl _ (List.getElem_mem hl), w⟩
theorem cf_at {S : List Nat} {t : List Int} (nd : S.Nodup) {k : Nat} (hk : k < S.length) : cf S t (pS S k) = t.getD k 0 := by
  unfold cf
  exact spr_at (pS_inj nd) hk
theorem cf_off {S : List Nat} {t : List Int} {i : Nat} (h : i ∉ S) : cf S t i = 0 := by
  unfold cf
  exact spr_off fun k hk w => h (pS_mem i |>.mpr ⟨k, hk, w⟩)
theorem cf_nn {S : List Nat} {t : List Int} (nd : S.Nodup) (ht : ∀ x ∈ t, 0 ≤ x) (i : Nat) : 0 ≤ cf S t i := by
  by_cases h : i ∈ S
  · obtain ⟨k, hk, rfl⟩ := (pS_mem i).mp h
    rw [cf_at nd hk, List.getD_eq_getElem?_getD]
    by_cases hl : k < t.length
    · rw [List.getElem?_eq_getElem hl]; exact ht _ (List.getElem_mem hl)
    · rw [List.getElem?_eq_none (by omega)]; exact Int.le_refl _
  · rw [cf_off h]; exact Int.le_refl _
theorem sN_ge {g : Nat → Int} {a : Nat} : ∀ (m : Nat), (∀ j, j < m → 0 ≤ g j) → a < m → g a ≤ sN g m
  | 0, _, h => by omega
  | m + 1, hn, h => by
    have h0 := hn m (by omega)
    show g a ≤ sN g m + g m
    by_cases e : a = m
    · subst e
      have := sN_nn a fun j hj => hn j (by omega)
      omega
    · have := sN_ge m (fun j hj => hn j (by omega)) (show a < m by omega)
      omega
/-- some vectors, their shares, over one number -/
structure Md (n : Nat) (G : Nat → Nat → Int) (S : List Nat) (ts : List Int) (b : Int) : Prop where
  len : ts.length = S.length
  nd : S.Nodup
  lt : ∀ i ∈ S, i < n
  ai : AI n G S
  nn : ∀ t ∈ ts, 0 ≤ t
  bp : 0 < b
  sum : sN (cf S ts) n = b
theorem Md.ne {S : List Nat} {ts : List Int} {b : Int} (h : Md n G S ts b) : 0 < S.length := by
  rcases Nat.eq_zero_or_pos S.length with w | w
  · have := h.sum
    rw [sN_zero n fun j _ => cf_off (by rw [List.length_eq_zero_iff.mp w]; simp)] at this
    have := h.bp
    omega
  · exact w
theorem Md.le {S : List Nat} {ts : List Int} {b : Int} (h : Md n G S ts b) : ∀ t ∈ ts, t ≤ b := fun t ht => by
  obtain ⟨k, hk, rfl⟩ := List.getElem_of_mem ht
  have hk' : k < S.length := by rw [← h.len]; exact hk
  have g := sN_ge (g := cf S ts) n (fun j _ => cf_nn h.nd h.nn j) (h.lt (pS S k) ((pS_mem _).mpr ⟨k, hk', rfl⟩))
  rw [h.sum, cf_at h.nd hk', List.getD_eq_getElem?_getD, List.getElem?_eq_getElem hk] at g
  exact g
theorem getD_map {α : Type} {l : List α} {f : α → Int} {k : Nat} (h : k < l.length) : (l.map f).getD k 0 = f l[k] := by
  rw [List.getD_eq_getElem?_getD, List.getElem?_eq_getElem (by simpa using h)]
  simp
/-- scaled shares -/
theorem Bf_scale (g : Int) (c : Nat → Int) : Bf n G (fun j => g * c j) (fun j => g * c j) = g * g * Bf n G c c := by
  have e : (fun j => g * c j) = fun j => g * c j + 0 * c j := by funext j; omega
  rw [e, Bf_linl, Bf_linr]
  grind
/-- one step: to the first share that falls to nought -/
theorem mid_step (hg : Gm n G) {S : List Nat} {ts fs : List Int} {b u go way : Int} (md : Md n G S ts b) (fl : Flat n G S (cf S fs) u) (fln : fs.length = S.length) (neg : ∃ k, k < S.length ∧ fs.getD k 0 < 0) (L : Lft ts fs b u go way ts.length)
    {K : List Nat} (hK : K = (List.range S.length).filter fun k => decide (0 < ts.getD k 0 * u * (way - go) + fs.getD k 0 * b * go)) {g : Int} (g0 : 0 < g) (gb : g ∣ b * u * way) (gt : ∀ k ∈ K, g ∣ ts.getD k 0 * u * (way - go) + fs.getD k 0 * b * go)
    (gm : ∀ h : Int, h ∣ b * u * way → (∀ k ∈ K, h ∣ ts.getD k 0 * u * (way - go) + fs.getD k 0 * b * go) → h ∣ g) :
    Md n G (K.map (pS S)) (K.map fun k => (ts.getD k 0 * u * (way - go) + fs.getD k 0 * b * go) / g) (b * u * way / g) ∧ K.length < S.length ∧ b * u * way / g ≤ way ∧ (∃ j, j < S.length ∧ fs.getD j 0 < 0 ∧ go = ts.getD j 0 * u ∧ way = ts.getD j 0 * u - fs.getD j 0 * b) ∧
    g * g * Bf n G (cf (K.map (pS S)) (K.map fun k => (ts.getD k 0 * u * (way - go) + fs.getD k 0 * b * go) / g)) (cf (K.map (pS S)) (K.map fun k => (ts.getD k 0 * u * (way - go) + fs.getD k 0 * b * go) / g)) = u * u * Bf n G (cf S ts) (cf S ts) * (way * way) - (u * u * Bf n G (cf S ts) (cf S ts) - b * b * Bf n G (cf S fs) (cf S fs)) * (go * (2 * way - go)) ∧
    g * (b * u * way / g) = b * u * way ∧ ∀ i, i ∈ K.map (pS S) → i ∈ S := by
  obtain ⟨mx, hmx⟩ : ∃ mx : Nat → Int, ∀ k, mx k = ts.getD k 0 * u * (way - go) + fs.getD k 0 * b * go := ⟨_, fun _ => rfl⟩
  simp only [← hmx] at hK gt gm ⊢
  have up := fl.up
  have bp := md.bp
  have tn : ∀ k, k < S.length → 0 ≤ ts.getD k 0 := fun k hk => by
    rw [List.getD_eq_getElem?_getD, List.getElem?_eq_getElem (by rw [md.len]; exact hk)]
    exact md.nn _ (List.getElem_mem _)
  have wp := L.w0
  have gw := L.gw
  have g00 := L.g0
  have nn : ∀ k, k < S.length → 0 ≤ mx k := fun k hk => by
    have t0 := tn k hk
    rw [hmx]
    by_cases f0 : fs.getD k 0 < 0
    · have l := L.le k (by rw [md.len]; exact hk) f0
      have e : ts.getD k 0 * u * (way - go) + fs.getD k 0 * b * go = ts.getD k 0 * u * way - go * (ts.getD k 0 * u - fs.getD k 0 * b) := by grind
      omega
    · have a := Int.mul_nonneg (Int.mul_nonneg t0 (show 0 ≤ u by omega)) (show 0 ≤ way - go by omega)
      have b := Int.mul_nonneg (Int.mul_nonneg (show 0 ≤ fs.getD k 0 by omega) (show 0 ≤ b by omega)) g00
      omega
  obtain ⟨j, j1, j2, j3, j4⟩ : ∃ j, j < S.length ∧ fs.getD j 0 < 0 ∧ go = ts.getD j 0 * u ∧ way = ts.getD j 0 * u - fs.getD j 0 * b := by
    rcases L.one with ⟨q1, q2⟩ | ⟨j, q1, q2⟩
    · exfalso
      obtain ⟨k, hk, hn⟩ := neg
      have l := L.le k (by rw [md.len]; exact hk) hn
      rw [q1, q2] at l
      have := Int.mul_pos (show 0 < -(fs.getD k 0) by omega) bp
      have e : -(fs.getD k 0) * b = -(fs.getD k 0 * b) := by grind
      omega
    · exact ⟨j, by rw [← md.len]; exact q1, q2⟩
  have mj : mx j = 0 := by
    rw [hmx, j3, j4]; grind
  have fac : ∀ k, mx k = b * u * (fs.getD k 0 * ts.getD j 0 - ts.getD k 0 * fs.getD j 0) := fun k => by
    rw [hmx, j3, j4]; grind
  have kmem : ∀ k, k ∈ K ↔ k < S.length ∧ 0 < mx k := fun k => by
    rw [hK, List.mem_filter, List.mem_range, decide_eq_true_eq]
  have kn : K.Nodup := by rw [hK]; exact List.Pairwise.filter _ List.nodup_range
  have kl : ∀ k ∈ K, k < S.length := fun k hk => ((kmem k).mp hk).1
  have lenlt : K.length < S.length := by
    have e := List.length_filter_lt_length_iff_exists (l := List.range S.length) (p := fun k => decide (0 < mx k))
    rw [List.length_range, ← hK] at e
    exact e.mpr ⟨j, List.mem_range.mpr j1, by simp [mj]⟩
  -- the function
  have gq : ∀ k ∈ K, g * (mx k / g) = mx k := fun k hk => Int.mul_ediv_cancel' (gt k hk)
  have ck := cf_kept (S := S) (K := K) (z := mx) md.nd kn kl (fun k hk hn => by
    have a1 := nn k hk
    have a2 : ¬ 0 < mx k := fun w => hn ((kmem k).mpr ⟨hk, w⟩)
    omega)
  have ck2 := cf_kept (S := S) (K := K) (z := fun k => if k ∈ K then mx k / g else 0) md.nd kn kl (fun k hk hn => if_neg hn)
  have ek : (K.map fun k => if k ∈ K then mx k / g else 0) = K.map fun k => mx k / g := List.map_congr_left fun k hk => if_pos hk
  rw [ek] at ck2
  have scale : (fun i => g * cf (K.map (pS S)) (K.map fun k => mx k / g) i) = fun i => spr S.length (pS S) mx i := by
    funext i
    rw [ck2]
    unfold spr
    rw [← sN_mul]
    refine sN_ext _ fun k hk => ?_
    by_cases hi : pS S k = i
    · rw [if_pos hi, if_pos hi]
      by_cases hk' : k ∈ K
      · simp only [if_pos hk']; exact gq k hk'
      · simp only [if_neg hk']
        have a1 := nn k hk
        have a2 : ¬ 0 < mx k := fun w => hk' ((kmem k).mpr ⟨hk, w⟩)
        omega
    · rw [if_neg hi, if_neg hi]; omega
  have comb : (fun i => spr S.length (pS S) mx i) = fun i => cf S ts i * u * (way - go) + cf S fs i * b * go := by
    funext i
    have e := spr_lin (m := S.length) (s := pS S) (z := fun k => ts.getD k 0) (w := fun k => fs.getD k 0) (u * (way - go)) (b * go) i
    have e2 : spr S.length (pS S) mx i = spr S.length (pS S) (fun k => u * (way - go) * ts.getD k 0 + b * go * fs.getD k 0) i := congrFun (spr_ext fun k _ => by rw [hmx]; grind) i
    rw [e2, e]
    unfold cf
    grind
  obtain ⟨st1, st2⟩ := step_is hg fl (c := cf S ts) (b := b) (fun i hi => cf_off hi) md.sum (go := go) (way := way) g00 gw
  have bd : g * (b * u * way / g) = b * u * way := Int.mul_ediv_cancel' gb
  have bup : 0 < b * u * way := Int.mul_pos (Int.mul_pos bp up) wp
  have q0 : 0 < b * u * way / g := pos_of (show 0 < g * (b * u * way / g) by omega) g0
  have sum' : sN (cf (K.map (pS S)) (K.map fun k => mx k / g)) n = b * u * way / g := by
    have e := sN_mul (g := cf (K.map (pS S)) (K.map fun k => mx k / g)) g n
    rw [scale, comb, st1, ← bd] at e
    exact (Int.eq_of_mul_eq_mul_left (by omega) e).symm
  have sub : ∀ i, i ∈ K.map (pS S) → i ∈ S := fun i hi => by
    obtain ⟨k, hk, rfl⟩ := List.mem_map.mp hi
    exact (pS_mem _).mpr ⟨k, kl k hk, rfl⟩
  refine ⟨⟨by simp, ?_, fun i hi => md.lt i (sub i hi), md.ai.less sub, fun t ht => ?_, q0, sum'⟩, lenlt, ?_, ⟨j, j1, j2, j3, j4⟩, ?_, bd, sub⟩
  · rw [List.nodup_iff_pairwise_ne, List.pairwise_map]
    exact List.Pairwise.imp_of_mem (fun {a b} ha hb hab e => hab (pS_inj md.nd a b (kl a ha) (kl b hb) e)) (List.nodup_iff_pairwise_ne.mp kn)
  · obtain ⟨k, hk, rfl⟩ := List.mem_map.mp ht
    exact Int.ediv_nonneg (nn k (kl k hk)) (by omega)
  · have d1 : b * u ∣ g := gm (b * u) ⟨way, rfl⟩ fun k _ => ⟨_, fac k⟩
    have bu : 0 < b * u := Int.mul_pos bp up
    have le := Int.le_of_dvd g0 d1
    have : b * u * (b * u * way / g) ≤ b * u * way := by
      have := Int.mul_le_mul_of_nonneg_right le (show 0 ≤ b * u * way / g by omega)
      omega
    exact Int.le_of_mul_le_mul_left this bu
  · rw [← Bf_scale, scale, comb]
    exact st2
end
end Lw
namespace Lw
open PySem L2 VS
/-! ### a vector brought in -/
/-- what flat_tops tells -/
structure Fd (vs : List (List Int)) (S : List Nat) (f : List Int) (u : Int) : Prop where
  eq : f_flat_tops [.lst (pL vs), .lst (nL S)] = some (.val (.tup [.lst (iL f), .int u]))
  len : f.length = S.length
  fl : Flat vs.length (gram vs) S (cf S f) u
  sm : ∀ x ∈ f, u.natAbs + x.natAbs < 2 ^ 200
abbrev BS (vs : List (List Int)) (S : List Nat) (ts : List Int) (b : Int) (f : List Int) (u : Int) (x6 x7 x8 x11 : Option D) : VS.S := ⟨[.fr (.lst (pL vs)), .fr (.lst (nL S)), .fr (.lst (iL ts)), .fr (.int b), .fr (.lst (iL f)), .fr (.int u), op x6, op x7, op x8, .un, .un, op x11, .un], [], false⟩
section
variable {vs : List (List Int)} {d Bd mm : Nat}
theorem fd_is (v : Vc vs d Bd) (hb : 2 * mB Bd (mm + 2) < 2 ^ 200) {S : List Nat} (hS : ∀ i ∈ S, i < vs.length) (nd : S.Nodup) (s0 : 0 < S.length) (ai : AI vs.length (gram vs) S) (hl : S.length ≤ mm) (h20 : mm ≤ 20) : ∃ f u, Fd vs S f u := by
  have m1 := mB_le v.b1 (show S.length + 2 ≤ mm + 2 by omega)
  obtain ⟨f, u, e1, e2, e3, e4, e5⟩ := flat_is v hS nd s0 ai (by omega) (by omega)
  exact ⟨f, u, e1, e2, e3, fun x hx => by have := e4 x hx; omega⟩
theorem lft_j {S : List Nat} {ts fs : List Int} {b u go way : Int} {G : Nat → Nat → Int} (md : Md vs.length G S ts b) (neg : ∃ k, k < S.length ∧ fs.getD k 0 < 0) (L : Lft ts fs b u go way ts.length) :
    ∃ j, j < S.length ∧ fs.getD j 0 < 0 ∧ go = ts.getD j 0 * u ∧ way = ts.getD j 0 * u - fs.getD j 0 * b := by
  rcases L.one with ⟨q1, q2⟩ | ⟨j, q1, q2⟩
  · exfalso
    obtain ⟨k, hk, hn⟩ := neg
    have l := L.le k (by rw [md.len]; exact hk) hn
    rw [q1, q2] at l
    have := Int.mul_pos (show 0 < -(fs.getD k 0) by omega) md.bp
    have e : -(fs.getD k 0) * b = -(fs.getD k 0 * b) := by grind
    omega
  · exact ⟨j, by rw [← md.len]; exact q1, q2⟩
theorem getD_mem {l : List Int} {k : Nat} (h : k < l.length) : l.getD k 0 ∈ l := by
  rw [List.getD_eq_getElem?_getD, List.getElem?_eq_getElem h]
  exact List.getElem_mem h
theorem brt_step (v : Vc vs d Bd) (hb : 2 * mB Bd (mm + 2) < 2 ^ 200) (h20 : mm ≤ 20) {S : List Nat} {ts f : List Int} {b u : Int} {q : Nat} (md : Md vs.length (gram vs) S ts b) (fd : Fd vs S f u) (hq : b.natAbs < 2 ^ q) (hq2 : q ≤ 4200) (hl : S.length ≤ mm) (neg : ∃ k, k < S.length ∧ f.getD k 0 < 0) (x6 x7 x8 x11 : Option D) :
    ∃ (S' : List Nat) (ts' : List Int) (b' : Int) (f' : List Int) (u' go way g : Int) (x8' x11' : Option D), b1_brought_in (BS vs S ts b f u x6 x7 x8 x11) = some (.nx (BS vs S' ts' b' f' u' (some (.int go)) (some (.int way)) x8' x11')) ∧ Md vs.length (gram vs) S' ts' b' ∧ Fd vs S' f' u' ∧ S'.length < S.length ∧ b'.natAbs < 2 ^ (q + 200) ∧
      (0 < g ∧ g * b' = b * u * way ∧ 0 ≤ go ∧ go ≤ way ∧ 0 < way ∧ (∃ j, j < S.length ∧ f.getD j 0 < 0 ∧ go = ts.getD j 0 * u) ∧
        g * g * Bf vs.length (gram vs) (cf S' ts') (cf S' ts') = u * u * Bf vs.length (gram vs) (cf S ts) (cf S ts) * (way * way) - (u * u * Bf vs.length (gram vs) (cf S ts) (cf S ts) - b * b * Bf vs.length (gram vs) (cf S f) (cf S f)) * (go * (2 * way - go))) := by
  obtain ⟨m, hm⟩ : ∃ m, m = S.length := ⟨_, rfl⟩
  have up := fd.fl.up
  have tsm : ∀ t ∈ ts, 0 ≤ t ∧ t.natAbs < 2 ^ q := fun t ht => by
    have a := md.nn t ht
    have c := md.le t ht
    exact ⟨a, Nat.lt_of_le_of_lt (by omega) hq⟩
  have fsm : ∀ x ∈ f, x.natAbs < 2 ^ 200 := fun x hx => by have := fd.sm x hx; omega
  have fne : ∃ x, x ∈ f := ⟨f.getD 0 0, getD_mem (by rw [fd.len]; exact md.ne)⟩
  have usm : u.natAbs < 2 ^ 200 := by
    obtain ⟨x, hx⟩ := fne
    have := fd.sm x hx
    omega
  obtain ⟨go, way, fi, L⟩ := first_is (ts := ts) (fs := f) (b := b) (u := u) (p := q + 200) (by rw [md.len, fd.len]) (fun t ht => ⟨(tsm t ht).1, nlt_le (tsm t ht).2 (by omega)⟩) (fun x hx => nlt_le (fsm x hx) (by omega)) ⟨md.bp, nlt_le hq (by omega)⟩ ⟨up, nlt_le usm (by omega)⟩ (by omega)
  obtain ⟨j, j1, j2, j3, j4⟩ := lft_j md neg L
  have jt := tsm _ (getD_mem (l := ts) (k := j) (by rw [md.len]; exact j1))
  have jm := getD_mem (l := f) (k := j) (by rw [fd.len]; exact j1)
  have jtb := md.le _ (getD_mem (l := ts) (k := j) (by rw [md.len]; exact j1))
  have way_b : way.natAbs < 2 ^ (q + 200) := by
    have s := fd.sm _ jm
    have e : way ≤ b * (u + -(f.getD j 0)) := by
      rw [j4]
      have a := Int.mul_le_mul_of_nonneg_right jtb (show 0 ≤ u by omega)
      have c : b * (u + -(f.getD j 0)) = b * u - f.getD j 0 * b := by grind
      omega
    have e2 : (b * (u + -(f.getD j 0))).natAbs < 2 ^ (q + 200) := nlt_mul hq (by omega)
    have := L.w0
    omega
  obtain ⟨mx, hmx⟩ : ∃ mx : Nat → Int, ∀ k, mx k = ts.getD k 0 * u * (way - go) + f.getD k 0 * b * go := ⟨_, fun _ => rfl⟩
  obtain ⟨mixL, hmix⟩ : ∃ mixL : List Int, mixL = (ts.zip f).map fun p => p.1 * u * (way - go) + p.2 * b * go := ⟨_, rfl⟩
  have mixl : mixL.length = m := by rw [hmix, List.length_map, List.length_zip, md.len, fd.len]; omega
  have mixg : ∀ k, k < m → mixL.getD k 0 = mx k := fun k hk => by
    rw [hmix, getD_map (by rw [List.length_zip, md.len, fd.len]; omega), hmx]
    simp only [List.getElem_zip]
    rw [List.getD_eq_getElem?_getD, List.getElem?_eq_getElem (show k < ts.length by rw [md.len]; omega), List.getD_eq_getElem?_getD, List.getElem?_eq_getElem (show k < f.length by rw [fd.len]; omega)]
    rfl
  obtain ⟨K, hK⟩ : ∃ K : List Nat, K = (List.range S.length).filter fun k => decide (0 < ts.getD k 0 * u * (way - go) + f.getD k 0 * b * go) := ⟨_, rfl⟩
  have Kl : ∀ k ∈ K, k < m := fun k hk => by rw [hK] at hk; have := (List.mem_filter.mp hk).1; rw [hm]; exact List.mem_range.mp this
  have KL : K.length ≤ m := by
    rw [hK, hm]
    have := List.length_filter_le (fun k => decide (0 < ts.getD k 0 * u * (way - go) + f.getD k 0 * b * go)) (List.range S.length)
    rw [List.length_range] at this
    exact this
  have bup : 0 < b * u * way := Int.mul_pos (Int.mul_pos md.bp up) L.w0
  have bups : (b * u * way).natAbs < 2 ^ 8999 := nlt_le (nlt_mul (nlt_mul hq usm) way_b) (by omega)
  obtain ⟨g, lo, g0, g1, g2, g3⟩ := lowest_is (K.map fun k => mixL.getD k 0) (b * u * way) bup bups (by rw [List.length_map]; omega)
  have g2' : ∀ k ∈ K, g ∣ ts.getD k 0 * u * (way - go) + f.getD k 0 * b * go := fun k hk => by
    have := g2 _ (List.mem_map.mpr ⟨k, hk, rfl⟩)
    rw [mixg k (Kl k hk), hmx] at this
    exact this
  obtain ⟨md', kl, bw, _, nrm, gb, sub⟩ := mid_step v.gm md fd.fl fd.len neg L hK g0 g1 g2' (fun h h1 h2 => g3 h h1 fun t ht => by
    obtain ⟨k, hk, rfl⟩ := List.mem_map.mp ht
    rw [mixg k (Kl k hk), hmx]
    exact h2 k hk)
  have tse : ((K.map fun k => mixL.getD k 0).map fun t => t / g) = K.map fun k => (ts.getD k 0 * u * (way - go) + f.getD k 0 * b * go) / g := by
    rw [List.map_map]
    refine List.map_congr_left fun k hk => ?_
    show mixL.getD k 0 / g = _
    rw [mixg k (Kl k hk), hmx]
  rw [tse] at lo
  obtain ⟨S', hS'⟩ : ∃ S', S' = K.map (pS S) := ⟨_, rfl⟩
  obtain ⟨ts', hts'⟩ : ∃ ts', ts' = K.map fun k => (ts.getD k 0 * u * (way - go) + f.getD k 0 * b * go) / g := ⟨_, rfl⟩
  have Sl' : S'.length = K.length := by rw [hS', List.length_map]
  rw [← hS', ← hts'] at md' nrm
  rw [← hts'] at lo
  obtain ⟨f', u', fd'⟩ := fd_is v hb md'.lt md'.nd md'.ne md'.ai (by omega) h20
  refine ⟨S', ts', b * u * way / g, f', u', go, way, g, some (.lst (iL mixL)), some (.lst (nL K)), ?_, md', fd', by omega, ?_, g0, gb, L.g0, L.gw, L.w0, ⟨j, j1, j2, j3⟩, nrm⟩
  · have e1 : lcGo (lcK (gTupN 2 (gsCons (gName' 9) (gsCons (gName' 10) gsNil))) bYes e1_brought_in ⟨[.fr (.lst (pL vs)), .fr (.lst (nL S)), .fr (.lst (iL ts)), .fr (.int b), .fr (.lst (iL f)), .fr (.int u), .fr (.int go), .fr (.int way), op x8, .un, .un, op x11, .un], [], false⟩) (zipD (iL ts) (iL f)) = some (iL mixL) := by
      rw [zip_iL, hmix, show iL ((ts.zip f).map fun p => p.1 * u * (way - go) + p.2 * b * go) = (ts.zip f).map fun p => D.int (p.1 * u * (way - go) + p.2 * b * go) by simp [iL]]
      refine lc_mapP (φ := fr) fun p hp => ?_
      have z := List.of_mem_zip hp
      have a1 := (tsm p.1 z.1).2
      have a2 := fsm p.2 z.2
      have wg : (way - go).natAbs < 2 ^ 200002 := nlt_sub L.sm.2 (nlt_le L.sm.1 (by omega))
      have m1 := mul_nlt a1 usm (by omega) (by omega)
      have m2 := mul_nlt (nlt_mul a1 usm) wg (by omega) (by omega)
      have m3 := mul_nlt a2 hq (by omega) (by omega)
      have m4 := mul_nlt (nlt_mul a2 hq) L.sm.1 (by omega) (by omega)
      simp [e1_brought_in, fr, m1, m2, m3, m4]
    have at_m : ∀ k, k < m → atI (iL mixL) (k : Int) = some (.int (mixL.getD k 0)) := fun k hk => by
      rw [at_nat (by rw [iL_len]; omega), iL_ix, List.getD_eq_getElem?_getD, List.getElem?_eq_getElem (show k < mixL.length by omega)]
      rfl
    have at_s : ∀ k, k < m → atI (nL S) (k : Int) = some (.int (pS S k : Nat)) := fun k hk => by
      rw [at_nat (by rw [nL_len]; omega), nL_ix, pS_ix (by omega)]
    have e2 : lcGo (lcK (gName' 12) t1_brought_in e2_brought_in ⟨[.fr (.lst (pL vs)), .fr (.lst (nL S)), .fr (.lst (iL ts)), .fr (.int b), .fr (.lst (iL f)), .fr (.int u), .fr (.int go), .fr (.int way), .fr (.lst (iL mixL)), .un, .un, op x11, .un], [], false⟩) (rngD 0 (S.length : Int)) = some (nL K) := by
      rw [rng_map, Int.toNat_natCast, hK]
      unfold nL
      refine lc_filt (φ := fun (i : Nat) => D.int (i : Int)) (fun k => decide (0 < ts.getD k 0 * u * (way - go) + f.getD k 0 * b * go)) fun k hk => ?_
      have hk := List.mem_range.mp hk
      have am := at_m k (by omega)
      rw [mixg k (by omega), hmx] at am
      generalize ts.getD k 0 * u * (way - go) + f.getD k 0 * b * go = z at am
      by_cases hz : 0 < z <;> simp [t1_brought_in, e2_brought_in, am, hz]
    have e3 : lcGo (lcK (gName' 12) bYes e3_brought_in ⟨[.fr (.lst (pL vs)), .fr (.lst (nL S)), .fr (.lst (iL ts)), .fr (.int b), .fr (.lst (iL f)), .fr (.int u), .fr (.int go), .fr (.int way), .fr (.lst (iL mixL)), .un, .un, .fr (.lst (nL K)), .un], [], false⟩) (nL K) = some (nL S') := by
      rw [hS', show nL (K.map (pS S)) = K.map fun k => D.int ((pS S k : Nat) : Int) by simp [nL]]
      refine lc_mapP (φ := fun (i : Nat) => D.int (i : Int)) fun k hk => ?_
      simp [e3_brought_in, at_s k (Kl k hk)]
    have e4 : lcGo (lcK (gName' 12) bYes e4_brought_in ⟨[.fr (.lst (pL vs)), .fr (.lst (nL S')), .fr (.lst (iL ts)), .fr (.int b), .fr (.lst (iL f)), .fr (.int u), .fr (.int go), .fr (.int way), .fr (.lst (iL mixL)), .un, .un, .fr (.lst (nL K)), .un], [], false⟩) (nL K) = some (iL (K.map fun k => mixL.getD k 0)) := by
      rw [show iL (K.map fun k => mixL.getD k 0) = K.map fun k => D.int (mixL.getD k 0) by simp [iL]]
      refine lc_mapP (φ := fun (i : Nat) => D.int (i : Int)) fun k hk => ?_
      simp [e4_brought_in, at_m k (Kl k hk), -List.getD_eq_getElem?_getD]
    have zl : (zipD (iL ts) (iL f)).length ≤ 1000000 := by rw [zip_len, iL_len, iL_len, md.len]; omega
    have kl2 : K.length ≤ 1000000 := by omega
    have ib := in_B (a := (S.length : Int)) (by omega) (by omega)
    have rl : (rngD 0 (S.length : Int)).length ≤ 1000000 := by rw [rng_len]; omega
    have mb1 := mul_nlt hq usm (by omega) (by omega)
    have mb2 := mul_nlt (nlt_mul hq usm) way_b (by omega) (by omega)
    have fq := fd'.eq
    unfold b1_brought_in
    apply seq_go
    · simp [fi]
      exact rfl
    apply seq_go
    · simp [zl, e1, -zip_iL]
      exact rfl
    apply seq_go
    · simp [ib, rl, e2]
      exact rfl
    apply seq_go
    · simp [kl2, e3]
      exact rfl
    apply seq_go
    · simp [kl2, e4, mb1, mb2, lo, -List.getD_eq_getElem?_getD]
      exact rfl
    simp [fq, op_some]
  · have : 0 ≤ b * u * way / g := Int.le_of_lt md'.bp
    have := L.w0
    omega
end
end Lw
namespace Lw
open PySem L2 VS
section
variable {vs : List (List Int)} {d Bd mm : Nat}
theorem w_brt {S : List Nat} {ts : List Int} {b : Int} {f : List Int} {u : Int} {x6 x7 x8 x11 : Option D} (h : 0 < f.length) : w1_brought_in (BS vs S ts b f u x6 x7 x8 x11) = some (decide (minL f < 0)) := by
  have m := min_iL h
  simp [w1_brought_in, m]
/-- the square, lower than n0 by b0 -/
def Low (vs : List (List Int)) (N0 b0 : Int) (c : Nat → Int) (b : Int) : Prop := Bf vs.length (gram vs) c c * (b0 * b0) < N0 * (b * b)
theorem sq_pos {x : Int} (h : 0 < x) : 0 < x * x := Int.mul_pos h h
theorem brt_loop (v : Vc vs d Bd) (hb : 2 * mB Bd (mm + 2) < 2 ^ 200) (h20 : mm ≤ 20) {N0 b0 : Int} (b00 : 0 < b0) : ∀ (l : Nat) (S : List Nat) (ts : List Int) (b : Int) (f : List Int) (u : Int) (x6 x7 x8 x11 : Option D), S.length ≤ l → S.length ≤ mm → Md vs.length (gram vs) S ts b → Fd vs S f u → b.natAbs < 2 ^ (200 * (mm + 1 - S.length)) → Low vs N0 b0 (cf S ts) b →
    ∃ (k : Nat) (S' : List Nat) (ts' : List Int) (b' : Int) (f' : List Int) (u' : Int) (x6' x7' x8' x11' : Option D), whGo w1_brought_in b1_brought_in k (BS vs S ts b f u x6 x7 x8 x11) = some (.nx (BS vs S' ts' b' f' u' x6' x7' x8' x11')) ∧ Md vs.length (gram vs) S' ts' b' ∧ Fd vs S' f' u' ∧ S'.length ≤ mm ∧ (∀ x ∈ f', 0 ≤ x) ∧ Low vs N0 b0 (cf S' f') u' := fun l => by
  induction l with
  | zero =>
    intro S ts b f u x6 x7 x8 x11 h0 _ md
    have := md.ne
    omega
  | succ l ih =>
    intro S ts b f u x6 x7 x8 x11 hl hlm md fd hq low
    have fp : 0 < f.length := by rw [fd.len]; exact md.ne
    obtain ⟨mn1, mn2⟩ := minL_is fp
    by_cases neg : minL f < 0
    · obtain ⟨k, hk, ek⟩ := List.getElem_of_mem mn1
      obtain ⟨S', ts', b', f', u', go, way, g, x8', x11', e, md', fd', sl, bs, g0, gb, go0, gw, w0, _, nrm⟩ := brt_step v hb h20 md fd hq (by omega) hlm ⟨k, by rw [← fd.len]; exact hk, by rw [List.getD_eq_getElem?_getD, List.getElem?_eq_getElem hk]; simp only [Option.getD_some]; omega⟩ x6 x7 x8 x11
      have bp' := md'.bp
      have low' : Low vs N0 b0 (cf S' ts') b' := by
        have fl := fd.fl.low v.gm (c := cf S ts) (b := b) (fun i hi => cf_off hi) md.sum
        unfold Low at low ⊢
        have t0 : 0 ≤ go * (2 * way - go) := Int.mul_nonneg go0 (by omega)
        have P0 : 0 ≤ u * u * Bf vs.length (gram vs) (cf S ts) (cf S ts) - b * b * Bf vs.length (gram vs) (cf S f) (cf S f) := by omega
        have pt := Int.mul_nonneg P0 t0
        generalize (u * u * Bf vs.length (gram vs) (cf S ts) (cf S ts) - b * b * Bf vs.length (gram vs) (cf S f) (cf S f)) * (go * (2 * way - go)) = Pt at nrm pt
        generalize Bf vs.length (gram vs) (cf S ts) (cf S ts) = Nc at *
        generalize Bf vs.length (gram vs) (cf S' ts') (cf S' ts') = Nc' at *
        have gg : 0 < g * g := sq_pos g0
        have uw : 0 < (u * way) * (u * way) := sq_pos (Int.mul_pos fd.fl.up w0)
        have k1 : g * g * (Nc' * (b0 * b0)) ≤ (u * way) * (u * way) * (Nc * (b0 * b0)) := by
          have e1 : g * g * (Nc' * (b0 * b0)) = (g * g * Nc') * (b0 * b0) := by grind
          rw [e1, nrm]
          have e2 : (u * u * Nc * (way * way) - Pt) * (b0 * b0) = (u * way) * (u * way) * (Nc * (b0 * b0)) - Pt * (b0 * b0) := by grind
          rw [e2]
          have := Int.mul_nonneg pt (Int.le_of_lt (sq_pos b00))
          omega
        have k2 : (u * way) * (u * way) * (Nc * (b0 * b0)) < (u * way) * (u * way) * (N0 * (b * b)) := Int.mul_lt_mul_of_pos_left low uw
        have k3 : (u * way) * (u * way) * (N0 * (b * b)) = g * g * (N0 * (b' * b')) := by
          have e1 : (u * way) * (u * way) * (N0 * (b * b)) = N0 * ((b * u * way) * (b * u * way)) := by grind
          rw [e1, ← gb]
          grind
        exact Int.lt_of_mul_lt_mul_left (by omega) (Int.le_of_lt gg)
      obtain ⟨k', S2, ts2, b2, f2, u2, y6, y7, y8, y11, r1, r2⟩ := ih S' ts' b' f' u' (some (.int go)) (some (.int way)) x8' x11' (by omega) (by omega) md' fd' (Nat.lt_of_lt_of_le bs (Nat.pow_le_pow_right (by decide) (by omega))) low'
      refine ⟨k' + 1, S2, ts2, b2, f2, u2, y6, y7, y8, y11, ?_, r2⟩
      unfold whGo
      rw [w_brt fp, decide_eq_true neg]
      simp only [e]
      exact r1
    · refine ⟨1, S, ts, b, f, u, x6, x7, x8, x11, ?_, md, fd, hlm, fun x hx => by have := mn2 x hx; omega, ?_⟩
      · unfold whGo
        rw [w_brt fp, decide_eq_false neg]
      · have fl := fd.fl.low v.gm (c := cf S ts) (b := b) (fun i hi => cf_off hi) md.sum
        unfold Low at low ⊢
        generalize Bf vs.length (gram vs) (cf S ts) (cf S ts) = Nc at *
        generalize Bf vs.length (gram vs) (cf S f) (cf S f) = Ny at *
        have bb : 0 < b * b := sq_pos md.bp
        have uu : 0 < u * u := sq_pos fd.fl.up
        have k1 : b * b * (Ny * (b0 * b0)) ≤ u * u * (Nc * (b0 * b0)) := by
          have := Int.mul_le_mul_of_nonneg_right fl (Int.le_of_lt (sq_pos b00))
          have e1 : b * b * (Ny * (b0 * b0)) = b * b * Ny * (b0 * b0) := by grind
          have e2 : u * u * (Nc * (b0 * b0)) = u * u * Nc * (b0 * b0) := by grind
          omega
        have k2 : u * u * (Nc * (b0 * b0)) < u * u * (N0 * (b * b)) := Int.mul_lt_mul_of_pos_left low uu
        have k3 : u * u * (N0 * (b * b)) = b * b * (N0 * (u * u)) := by grind
        exact Int.lt_of_mul_lt_mul_left (by omega) (Int.le_of_lt bb)
/-- a walk's state: shares above nought, the nearest of their flat -/
structure Mj (vs : List (List Int)) (S : List Nat) (ts : List Int) (b : Int) : Prop where
  md : Md vs.length (gram vs) S ts b
  pos : ∀ t ∈ ts, 0 < t
  fl : Flat vs.length (gram vs) S (cf S ts) b
  sm : b.natAbs < 2 ^ 200
theorem cf_app0 {S : List Nat} {ts : List Int} {a : Nat} (nd : (S ++ [a]).Nodup) (hl : ts.length = S.length) : cf (S ++ [a]) (ts ++ [0]) = cf S ts := by
  have nd0 : S.Nodup := (List.nodup_append.mp nd).1
  have as : a ∉ S := fun w => (List.nodup_append.mp nd).2.2 a w a (by simp) rfl
  funext i
  by_cases hi : i ∈ S ++ [a]
  · obtain ⟨k, hk, rfl⟩ := (pS_mem (S := S ++ [a]) i).mp hi
    rw [cf_at nd hk]
    rw [List.length_append, List.length_singleton] at hk
    by_cases e : k = S.length
    · subst e
      have p : pS (S ++ [a]) S.length = a := by
        rw [pS_ix (by simp)]; simp
      rw [p, cf_off as, List.getD_eq_getElem?_getD, List.getElem?_append_right (by omega), hl]
      simp
    · have p : pS (S ++ [a]) k = pS S k := by
        rw [pS_ix (by simp; omega), pS_ix (by omega), List.getElem_append_left (by omega)]
      rw [p, cf_at nd0 (by omega), List.getD_eq_getElem?_getD, List.getElem?_append_left (by omega), List.getD_eq_getElem?_getD]
  · rw [cf_off hi, cf_off fun w => hi (by simp [w])]
theorem brt_is (v : Vc vs d Bd) (hb : 2 * mB Bd (mm + 2) < 2 ^ 200) (h20 : mm ≤ 20) (hAI : ∀ S : List Nat, S.Nodup → (∀ i ∈ S, i < vs.length) → AI vs.length (gram vs) S → S.length ≤ mm) {S : List Nat} {ts : List Int} {b : Int} {a : Nat} (mj : Mj vs S ts b) (ha : a < vs.length)
    (hlt : b * gd vs.length (gram vs) (cf S ts) a < Bf vs.length (gram vs) (cf S ts) (cf S ts)) :
    ∃ (S' : List Nat) (ts' : List Int) (b' : Int), f_brought_in [.lst (pL vs), .lst (nL (S ++ [a])), .lst (iL (ts ++ [0])), .int b] = some (.val (.tup [.lst (nL S'), .lst (iL ts'), .int b'])) ∧ Mj vs S' ts' b' ∧ Low vs (Bf vs.length (gram vs) (cf S ts) (cf S ts)) b (cf S' ts') b' := by
  obtain ⟨as, ai2, key⟩ := at_new v.gm ha mj.fl mj.md.ai hlt
  have nd2 : (S ++ [a]).Nodup := List.nodup_append.mpr ⟨mj.md.nd, by simp, fun x hx y hy => by simp only [List.mem_singleton] at hy; subst hy; exact fun e => as (e ▸ hx)⟩
  have lt2 : ∀ i ∈ S ++ [a], i < vs.length := fun i hi => by
    rcases List.mem_append.mp hi with h | h
    · exact mj.md.lt i h
    · simp only [List.mem_singleton] at h; rw [h]; exact ha
  have l2 := hAI _ nd2 lt2 ai2
  have cfe := cf_app0 nd2 mj.md.len
  have md2 : Md vs.length (gram vs) (S ++ [a]) (ts ++ [0]) b := ⟨by simp [mj.md.len], nd2, lt2, ai2, fun t ht => by
    rcases List.mem_append.mp ht with h | h
    · exact mj.md.nn t h
    · simp only [List.mem_singleton] at h; omega, mj.md.bp, by rw [cfe]; exact mj.md.sum⟩
  obtain ⟨f, u, fd⟩ := fd_is v hb lt2 nd2 md2.ne ai2 l2 h20
  obtain ⟨ya, strict⟩ := key (cf (S ++ [a]) f) u fd.fl
  obtain ⟨N0, hN0⟩ : ∃ N0, N0 = Bf vs.length (gram vs) (cf S ts) (cf S ts) := ⟨_, rfl⟩
  rw [← hN0] at strict ⊢
  have fp : 0 < f.length := by rw [fd.len]; exact md2.ne
  obtain ⟨mn1, mn2⟩ := minL_is fp
  -- where the walk within comes to
  obtain ⟨k, S2, ts2, b2, f2, u2, y6, y7, y8, y11, r1, md3, fd3, l3, nn3, low3⟩ : ∃ (k : Nat) (S' : List Nat) (ts' : List Int) (b' : Int) (f' : List Int) (u' : Int) (x6' x7' x8' x11' : Option D), whGo w1_brought_in b1_brought_in k (BS vs (S ++ [a]) (ts ++ [0]) b f u none none none none) = some (.nx (BS vs S' ts' b' f' u' x6' x7' x8' x11')) ∧ Md vs.length (gram vs) S' ts' b' ∧ Fd vs S' f' u' ∧ S'.length ≤ mm ∧ (∀ x ∈ f', 0 ≤ x) ∧ Low vs N0 b (cf S' f') u' := by
    by_cases neg : minL f < 0
    · obtain ⟨k, hk, ek⟩ := List.getElem_of_mem mn1
      obtain ⟨S', ts', b', f', u', go, way, g, x8', x11', e, md', fd', sl, bs, g0, gb, go0, gw, w0, ⟨j, j1, j2, j3⟩, nrm⟩ := brt_step v hb h20 md2 fd mj.sm (by omega) l2 ⟨k, by rw [← fd.len]; exact hk, by rw [List.getD_eq_getElem?_getD, List.getElem?_eq_getElem hk]; simp only [Option.getD_some]; omega⟩ none none none none
      have gop : 0 < go := by
        have jne : pS (S ++ [a]) j ≠ a := fun w => by
          have := cf_at (t := f) nd2 j1
          rw [w] at this
          omega
        have jl : j < S.length := by
          rcases (by rw [List.length_append, List.length_singleton] at j1; omega : j < S.length ∨ j = S.length) with w | w
          · exact w
          · exfalso
            subst w
            refine jne ?_
            rw [pS_ix (by simp)]; simp
        have tj : 0 < (ts ++ [0]).getD j 0 := by
          rw [List.getD_eq_getElem?_getD, List.getElem?_append_left (by rw [mj.md.len]; exact jl), List.getElem?_eq_getElem (by rw [mj.md.len]; exact jl)]
          exact mj.pos _ (List.getElem_mem _)
        rw [j3]
        exact Int.mul_pos tj fd.fl.up
      have low' : Low vs N0 b (cf S' ts') b' := by
        unfold Low
        rw [cfe, ← hN0] at nrm
        have t0 : 0 < go * (2 * way - go) := Int.mul_pos gop (by omega)
        have P0 : 0 < u * u * N0 - b * b * Bf vs.length (gram vs) (cf (S ++ [a]) f) (cf (S ++ [a]) f) := by omega
        have pt := Int.mul_pos P0 t0
        generalize (u * u * N0 - b * b * Bf vs.length (gram vs) (cf (S ++ [a]) f) (cf (S ++ [a]) f)) * (go * (2 * way - go)) = Pt at nrm pt
        generalize Bf vs.length (gram vs) (cf S' ts') (cf S' ts') = Nc' at *
        have gg : 0 < g * g := sq_pos g0
        have k1 : g * g * (Nc' * (b * b)) = g * g * (N0 * (b' * b')) - Pt * (b * b) := by
          have e1 : g * g * (Nc' * (b * b)) = (g * g * Nc') * (b * b) := by grind
          have e2 : g * g * (N0 * (b' * b')) = N0 * ((g * b') * (g * b')) := by grind
          rw [e1, nrm, e2, gb]
          grind
        have := Int.mul_pos pt (sq_pos mj.md.bp)
        exact Int.lt_of_mul_lt_mul_left (show g * g * (Nc' * (b * b)) < g * g * (N0 * (b' * b')) by omega) (Int.le_of_lt gg)
      obtain ⟨k', rest⟩ := brt_loop v hb h20 mj.md.bp S'.length S' ts' b' f' u' (some (.int go)) (some (.int way)) x8' x11' (Nat.le_refl _) (by omega) md' fd' (Nat.lt_of_lt_of_le bs (Nat.pow_le_pow_right (by decide) (by omega))) low'
      obtain ⟨S2, ts2, b2, f2, u2, y6, y7, y8, y11, r1, r2⟩ := rest
      refine ⟨k' + 1, S2, ts2, b2, f2, u2, y6, y7, y8, y11, ?_, r2⟩
      unfold whGo
      rw [w_brt fp, decide_eq_true neg]
      simp only [e]
      exact r1
    · refine ⟨1, S ++ [a], ts ++ [0], b, f, u, none, none, none, none, ?_, md2, fd, l2, fun x hx => by have := mn2 x hx; omega, ?_⟩
      · unfold whGo
        rw [w_brt fp, decide_eq_false neg]
      · unfold Low
        have e1 : Bf vs.length (gram vs) (cf (S ++ [a]) f) (cf (S ++ [a]) f) * (b * b) = b * b * Bf vs.length (gram vs) (cf (S ++ [a]) f) (cf (S ++ [a]) f) := by grind
        have e2 : N0 * (u * u) = u * u * N0 := by grind
        omega
  -- what is kept
  obtain ⟨K, hK⟩ : ∃ K : List Nat, K = (List.range S2.length).filter fun k => decide (0 < f2.getD k 0) := ⟨_, rfl⟩
  have kmem : ∀ k, k ∈ K ↔ k < S2.length ∧ 0 < f2.getD k 0 := fun k => by rw [hK, List.mem_filter, List.mem_range, decide_eq_true_eq]
  have KL : K.length ≤ S2.length := by
    rw [hK]
    have := List.length_filter_le (fun k => decide (0 < f2.getD k 0)) (List.range S2.length)
    rw [List.length_range] at this
    exact this
  have kn : K.Nodup := by rw [hK]; exact List.Pairwise.filter _ List.nodup_range
  have up := fd3.fl.up
  have usm : u2.natAbs < 2 ^ 200 := by
    have := fd3.sm _ (getD_mem (l := f2) (k := 0) (by rw [fd3.len]; exact md3.ne))
    omega
  obtain ⟨g, lo, g0, g1, g2, g3⟩ := lowest_is (K.map fun k => f2.getD k 0) u2 up (nlt_le usm (by omega)) (by rw [List.length_map]; omega)
  have g2' : ∀ k ∈ K, g ∣ f2.getD k 0 := fun k hk => g2 _ (List.mem_map.mpr ⟨k, hk, rfl⟩)
  have tse : ((K.map fun k => f2.getD k 0).map fun t => t / g) = K.map fun k => f2.getD k 0 / g := by rw [List.map_map]; rfl
  rw [tse] at lo
  obtain ⟨S', hS'⟩ : ∃ S', S' = K.map (pS S2) := ⟨_, rfl⟩
  obtain ⟨ts', hts'⟩ : ∃ ts', ts' = K.map fun k => f2.getD k 0 / g := ⟨_, rfl⟩
  have sub : ∀ i, i ∈ S' → i ∈ S2 := fun i hi => by
    rw [hS'] at hi
    obtain ⟨k, hk, rfl⟩ := List.mem_map.mp hi
    exact (pS_mem _).mpr ⟨k, ((kmem k).mp hk).1, rfl⟩
  have gq : ∀ k ∈ K, g * (f2.getD k 0 / g) = f2.getD k 0 := fun k hk => Int.mul_ediv_cancel' (g2' k hk)
  have nnk : ∀ k, k < S2.length → 0 ≤ f2.getD k 0 := fun k hk => nn3 _ (getD_mem (by rw [fd3.len]; exact hk))
  have ck := cf_kept (S := S2) (K := K) (z := fun k => if k ∈ K then f2.getD k 0 / g else 0) md3.nd kn (fun k hk => ((kmem k).mp hk).1) (fun k hk hn => if_neg hn)
  have ek : (K.map fun k => if k ∈ K then f2.getD k 0 / g else 0) = ts' := by rw [hts']; exact List.map_congr_left fun k hk => if_pos hk
  rw [ek, ← hS'] at ck
  have scale : (fun i => g * cf S' ts' i) = cf S2 f2 := by
    funext i
    rw [ck]
    unfold cf spr
    rw [← sN_mul]
    refine sN_ext _ fun k hk => ?_
    by_cases hi : pS S2 k = i
    · rw [if_pos hi, if_pos hi]
      by_cases hk' : k ∈ K
      · simp only [if_pos hk']; exact gq k hk'
      · simp only [if_neg hk']
        have a1 := nnk k hk
        have a2 : ¬ 0 < f2.getD k 0 := fun w => hk' ((kmem k).mpr ⟨hk, w⟩)
        omega
    · rw [if_neg hi, if_neg hi]; omega
  have gu : g * (u2 / g) = u2 := Int.mul_ediv_cancel' g1
  have u0 : 0 < u2 / g := pos_of (show 0 < g * (u2 / g) by omega) g0
  have sum' : sN (cf S' ts') vs.length = u2 / g := by
    have e := sN_mul (g := cf S' ts') g vs.length
    rw [scale, fd3.fl.sum] at e
    have e : g * (u2 / g) = g * sN (cf S' ts') vs.length := by omega
    exact (Int.eq_of_mul_eq_mul_left (by omega) e).symm
  have bfs : g * g * Bf vs.length (gram vs) (cf S' ts') (cf S' ts') = Bf vs.length (gram vs) (cf S2 f2) (cf S2 f2) := by
    rw [← Bf_scale, scale]
  have gds : ∀ i, g * gd vs.length (gram vs) (cf S' ts') i = gd vs.length (gram vs) (cf S2 f2) i := fun i => by
    rw [← scale]
    unfold gd
    rw [← sN_mul]
    exact sN_ext _ fun j _ => by grind
  have le_u : (u2 / g).natAbs < 2 ^ 200 := by
    have : 1 * (u2 / g) ≤ g * (u2 / g) := Int.mul_le_mul_of_nonneg_right (by omega) (by omega)
    exact Nat.lt_of_le_of_lt (show (u2 / g).natAbs ≤ u2.natAbs by omega) usm
  have nd' : S'.Nodup := by
    rw [hS', List.nodup_iff_pairwise_ne, List.pairwise_map]
    exact List.Pairwise.imp_of_mem (fun {a b} ha hb hab e => hab (pS_inj md3.nd a b ((kmem a).mp ha).1 ((kmem b).mp hb).1 e)) (List.nodup_iff_pairwise_ne.mp kn)
  have pos' : ∀ t ∈ ts', 0 < t := fun t ht => by
    rw [hts'] at ht
    obtain ⟨k, hk, rfl⟩ := List.mem_map.mp ht
    have := gq k hk
    have := ((kmem k).mp hk).2
    exact pos_of (show 0 < g * (f2.getD k 0 / g) by omega) g0
  have ll : ts'.length = S'.length := by rw [hts', hS']; simp
  refine ⟨S', ts', u2 / g, ?_, ⟨⟨ll, nd', fun i hi => md3.lt i (sub i hi), md3.ai.less sub, fun t ht => Int.le_of_lt (pos' t ht), u0, sum'⟩, pos', ⟨fun i hi => cf_off hi, sum', u0, fun i hi => ?_⟩, le_u⟩, ?_⟩
  · rw [u_brought_in]
    unfold g_brought_in
    have w := sWhile_of r1
    have fq := fd.eq
    have at_f : ∀ k, k < S2.length → atI (iL f2) (k : Int) = some (.int (f2.getD k 0)) := fun k hk => by
      rw [at_nat (by rw [iL_len, fd3.len]; exact hk), iL_ix, List.getD_eq_getElem?_getD, List.getElem?_eq_getElem (show k < f2.length by rw [fd3.len]; exact hk)]
      rfl
    have at_s : ∀ k, k < S2.length → atI (nL S2) (k : Int) = some (.int (pS S2 k : Nat)) := fun k hk => by
      rw [at_nat (by rw [nL_len]; omega), nL_ix, pS_ix (by omega)]
    have e2 : lcGo (lcK (gName' 12) t2_brought_in e5_brought_in (BS vs S2 ts2 b2 f2 u2 y6 y7 y8 y11)) (rngD 0 (S2.length : Int)) = some (nL K) := by
      rw [rng_map, Int.toNat_natCast, hK]
      unfold nL
      refine lc_filt (φ := fun (i : Nat) => D.int (i : Int)) (fun k => decide (0 < f2.getD k 0)) fun k hk => ?_
      have hk := List.mem_range.mp hk
      have am := at_f k hk
      generalize f2.getD k 0 = z at am
      by_cases hz : 0 < z <;> simp [t2_brought_in, e5_brought_in, am, hz]
    have e3 : lcGo (lcK (gName' 12) bYes e6_brought_in (BS vs S2 ts2 b2 f2 u2 y6 y7 y8 (some (.lst (nL K))))) (nL K) = some (iL (K.map fun k => f2.getD k 0)) := by
      rw [show iL (K.map fun k => f2.getD k 0) = K.map fun k => D.int (f2.getD k 0) by simp [iL]]
      refine lc_mapP (φ := fun (i : Nat) => D.int (i : Int)) fun k hk => ?_
      simp [e6_brought_in, at_f k ((kmem k).mp hk).1, -List.getD_eq_getElem?_getD]
    have e4 : lcGo (lcK (gName' 12) bYes e7_brought_in (BS vs S2 ts' (u2 / g) f2 u2 y6 y7 y8 (some (.lst (nL K))))) (nL K) = some (nL S') := by
      rw [hS', show nL (K.map (pS S2)) = K.map fun k => D.int ((pS S2 k : Nat) : Int) by simp [nL]]
      refine lc_mapP (φ := fun (i : Nat) => D.int (i : Int)) fun k hk => ?_
      simp [e7_brought_in, at_s k ((kmem k).mp hk).1]
    have kl2 : K.length ≤ 1000000 := by omega
    have ib := in_B (a := (S2.length : Int)) (by omega) (by omega)
    have rl : (rngD 0 (S2.length : Int)).length ≤ 1000000 := by rw [rng_len]; omega
    rw [← hts'] at lo
    simp only [BS, op_some] at e2 e3 e4
    apply seq_step
    · simp [fq]
      exact rfl
    apply seq_step
    · exact w
    apply seq_step
    · simp [ib, rl, e2]
      exact rfl
    apply seq_step
    · simp [kl2, e3, lo, -List.getD_eq_getElem?_getD]
      exact rfl
    simp [kl2, e4]
  · have k := fd3.fl.kkt i (sub i hi)
    rw [← gds, ← bfs] at k
    have e : g * g * ((u2 / g) * gd vs.length (gram vs) (cf S' ts') i) = g * g * Bf vs.length (gram vs) (cf S' ts') (cf S' ts') := by
      rw [← k]
      have : g * g * (u2 / g * gd vs.length (gram vs) (cf S' ts') i) = (g * (u2 / g)) * (g * gd vs.length (gram vs) (cf S' ts') i) := by grind
      rw [this, gu]
    exact Int.eq_of_mul_eq_mul_left (Int.ne_of_gt (sq_pos g0)) e
  · unfold Low at low3 ⊢
    rw [← bfs] at low3
    have e1 : g * g * Bf vs.length (gram vs) (cf S' ts') (cf S' ts') * (b * b) = g * g * (Bf vs.length (gram vs) (cf S' ts') (cf S' ts') * (b * b)) := by grind
    have e2 : N0 * (u2 * u2) = g * g * (N0 * ((u2 / g) * (u2 / g))) := by
      have : g * g * (N0 * ((u2 / g) * (u2 / g))) = N0 * ((g * (u2 / g)) * (g * (u2 / g))) := by grind
      rw [this, gu]
    rw [e1, e2] at low3
    exact Int.lt_of_mul_lt_mul_left low3 (Int.le_of_lt (sq_pos g0))
end
end Lw
namespace Lw
open PySem L2 VS
/-! ### nearest_shares -/
/-- a mixture's coordinates -/
def mxL (vs : List (List Int)) (d : Nat) (c : Nat → Int) : List Int := (List.range d).map (mxc vs c)
@[simp] theorem mxL_len (vs : List (List Int)) (d : Nat) (c : Nat → Int) : (mxL vs d c).length = d := by simp [mxL]
theorem mxL_get {vs : List (List Int)} {d : Nat} {c : Nat → Int} {k : Nat} (h : k < d) : (mxL vs d c).getD k 0 = mxc vs c k := by
  unfold mxL
  rw [getD_map (by simpa using h)]
  simp
theorem sN_nat {g : Nat → Int} {M : Nat} : ∀ (m : Nat), (∀ j, j < m → (g j).natAbs ≤ M) → (sN g m).natAbs ≤ m * M
  | 0, _ => by simp [sN]
  | m + 1, h => by
    have a := sN_nat m fun j hj => h j (by omega)
    have b := h m (by omega)
    have e : (m + 1) * M = m * M + M := by grind
    show (sN g m + g m).natAbs ≤ _
    omega
section
variable {vs : List (List Int)} {d Bd mm : Nat}
theorem product_at {a b : D} {p q : List Int} (ha : dSeq a = some (true, iL p) ∨ dSeq a = some (false, iL p)) (hb : dSeq b = some (true, iL q) ∨ dSeq b = some (false, iL q)) (sp : Sm p) (sq : Sm q) (hl : p.length ≤ 1000000) : f_product [a, b] = some (.val (.int (dot p q))) := by
  rw [u_product]
  unfold g_product
  have e : lcGo (lcK (gTupN 2 (gsCons (gName' 2) (gsCons (gName' 3) gsNil))) bYes e1_product ⟨[.fr a, .fr b, .un, .un], [], false⟩) (zipD (iL p) (iL q)) = some (iL ((p.zip q).map fun p => p.1 * p.2)) := by
    rw [zip_iL]
    unfold fL iL
    rw [List.map_map]
    refine lc_mapP fun p hp => ?_
    have h1 := sp _ (List.of_mem_zip hp).1
    have h2 := sq _ (List.of_mem_zip hp).2
    simp (disch := omega) [fr, e1_product, ev_mulM]
  have l : (zipD (iL p) (iL q)).length ≤ 1000000 := by rw [zip_len, iL_len]; omega
  rcases ha with ha | ha <;> rcases hb with hb | hb <;> simp [ha, hb, e, l, sum_iL, dot]
theorem square_at {a : D} {p : List Int} (ha : dSeq a = some (true, iL p) ∨ dSeq a = some (false, iL p)) (sp : Sm p) (hl : p.length ≤ 1000000) : f_square [a] = some (.val (.int (dot p p))) := by
  rw [u_square]
  unfold g_square
  simp [product_at ha ha sp sp hl]
theorem atP (v : Vc vs d Bd) {i : Nat} (hi : i < vs.length) : atI (pL vs) (i : Int) = some (.tup (iL (vs.getD i []))) := by
  rw [at_nat (by rw [pL_len]; exact hi), pL_ix, List.getD_eq_getElem?_getD, List.getElem?_eq_getElem hi]
  rfl
theorem Vc.sml (v : Vc vs d Bd) {i : Nat} (hi : i < vs.length) (k : Nat) : -1073741824 ≤ (vs.getD i []).getD k 0 ∧ (vs.getD i []).getD k 0 ≤ 1073741824 := by
  by_cases h : k < (vs.getD i []).length
  · rw [List.getD_eq_getElem?_getD, List.getElem?_eq_getElem h]
    exact v.sm _ (v.ent hi) _ (List.getElem_mem h)
  · rw [List.getD_eq_getElem?_getD, List.getElem?_eq_none (by omega)]
    simp
theorem summed_is (v : Vc vs d Bd) {S : List Nat} {ts : List Int} (hS : ∀ i ∈ S, i < vs.length) (hl : ts.length = S.length) :
    f_summed [.lst (pL vs), .lst (nL S), .lst (iL ts)] = some (.val (.lst (iL (mxL vs d (cf S ts))))) := by
  rw [u_summed]
  unfold g_summed
  have n0 := v.n0
  have a0 := atP v n0
  have d1 := v.d1
  have l0 := v.ln n0
  obtain ⟨P, hP⟩ : ∃ P : Nat → List Int, ∀ i, P i = (List.range d).map fun k => sN (fun j => ts.getD j 0 * (vs.getD (pS S j) []).getD k 0) i := ⟨_, fun _ => rfl⟩
  have Pl : ∀ i, (P i).length = d := fun i => by rw [hP]; simp
  have e1 : lcGo (lcK (gName' 4) bYes e1_summed ⟨[.fr (.lst (pL vs)), .fr (.lst (nL S)), .fr (.lst (iL ts)), .un, .un, .un, .un, .un], [], false⟩) (iL (vs.getD 0 [])) = some (iL (P 0)) := by
    have : iL (P 0) = (vs.getD 0 []).map fun _ => D.int 0 := by
      rw [hP]
      simp only [iL, List.map_map]
      apply List.ext_getElem
      · rw [List.length_map, List.length_map, List.length_range, l0]
      · intro i h1 h2
        simp [sN]
    rw [this]
    refine lc_mapP (φ := D.int) fun k _ => ?_
    simp [e1_summed]
  obtain ⟨s1, q1, x, y, rfl⟩ := forI (k := forK (gTupN 2 (gsCons (gName' 5) (gsCons (gName' 6) gsNil))) b1_summed) (ds := zipD (nL S) (iL ts)) (s := ⟨[.fr (.lst (pL vs)), .fr (.lst (nL S)), .fr (.lst (iL ts)), .fr (.lst (iL (P 0))), .un, .un, .un, .un], [], false⟩)
    (fun i s => ∃ x y : Option D, s = ⟨[.fr (.lst (pL vs)), .fr (.lst (nL S)), .fr (.lst (iL ts)), .fr (.lst (iL (P i))), .un, op x, op y, .un], [], false⟩)
    ⟨none, none, rfl⟩ (fun i hi s => by
      rintro ⟨x, y, rfl⟩
      rw [zip_len, nL_len, iL_len] at hi
      have hi1 : i < S.length := by omega
      have hi2 : i < ts.length := by omega
      rw [zip_at, nL_ix, iL_ix]
      have si := hS _ (List.getElem_mem hi1)
      have ap := atP v si
      have lp := v.ln si
      have e2 : ∀ (z w : Sl), lcGo (lcK (gTupN 2 (gsCons (gName' 7) (gsCons (gName' 4) gsNil))) bYes e2_summed ⟨[.fr (.lst (pL vs)), .fr (.lst (nL S)), .fr (.lst (iL ts)), .fr (.lst (iL (P i))), z, .fr (.int (S[i] : Nat)), .fr (.int ts[i]), w], [], false⟩) (zipD (iL (P i)) (iL (vs.getD S[i] []))) = some (iL (P (i + 1))) := fun z w => by
        have : iL (P (i + 1)) = ((P i).zip (vs.getD S[i] [])).map fun p => D.int (p.1 + ts[i] * p.2) := by
          apply List.ext_getElem
          · rw [iL_len, Pl, List.length_map, List.length_zip, Pl, lp]; omega
          · intro k h1 h2
            rw [iL_len, Pl] at h1
            rw [iL_ix]
            simp only [hP, List.getElem_map, List.getElem_zip, List.getElem_range]
            congr 1
            show sN _ i + ts.getD i 0 * (vs.getD (pS S i) []).getD k 0 = _
            rw [pS_ix hi1, List.getD_eq_getElem?_getD (l := ts), List.getElem?_eq_getElem hi2]
            rw [List.getD_eq_getElem?_getD (l := vs.getD S[i] []), List.getElem?_eq_getElem (show k < (vs.getD S[i] []).length by omega)]
            rfl
        rw [this, zip_iL]
        unfold fL
        refine lc_mapP (φ := fr) fun p hp => ?_
        have h1 := v.sm _ (v.ent si) _ (List.of_mem_zip hp).2
        simp (disch := omega) [fr, e2_summed, ev_mulR]
      have zl : (zipD (iL (P i)) (iL (vs.getD S[i] []))).length ≤ 1000000 := by rw [zip_len, iL_len, Pl]; omega
      apply step_of
      · simp only [b1_summed, ev_forK, ev_gTupN, ev_dSeqT, ev_gsCons, ev_gName, ev_gsNil, Option.bind_some, ev_put, List.length_cons, List.length_nil, if_pos]
        simp [ap, e2, zl, -zip_iL, -List.getD_eq_getElem?_getD]
        exact rfl
      · exact ⟨some _, some _, rfl⟩)
  have fin : P (zipD (nL S) (iL ts)).length = mxL vs d (cf S ts) := by
    rw [zip_len, nL_len, iL_len, hl, Nat.min_self, hP]
    unfold mxL
    refine List.map_congr_left fun k _ => ?_
    unfold mxc cf
    rw [spr_sum (pS_lt hS)]
  rw [fin] at q1
  have ll : d ≤ 1000000 := by omega
  simp only [Int.natCast_zero] at a0
  simp [a0, e1, l0, ll, q1, -List.getD_eq_getElem?_getD]
/-- a mixture of shares that are small -/
structure Sc (vs : List (List Int)) (c : Nat → Int) (b : Int) : Prop where
  nn : ∀ i, 0 ≤ c i
  sum : sN c vs.length = b
  sm : b.natAbs < 2 ^ 200
theorem mxc_sm (v : Vc vs d Bd) {c : Nat → Int} {b : Int} (sc : Sc vs c b) (k : Nat) : (mxc vs c k).natAbs ≤ 2 ^ 240 := by
  have n1 := v.n1
  have a := sN_nat (g := fun j => c j * (vs.getD j []).getD k 0) (M := 2 ^ 200 * 1073741824) vs.length (fun j hj => by
    have le : c j ≤ b := by rw [← sc.sum]; exact sN_ge vs.length (fun j _ => sc.nn j) hj
    have nn := sc.nn j
    have sm := sc.sm
    have s := v.sml hj k
    rw [Int.natAbs_mul]
    exact Nat.mul_le_mul (by omega) (by omega))
  unfold mxc
  refine Nat.le_trans a ?_
  exact Nat.le_trans (Nat.mul_le_mul_right _ n1) (by decide)
theorem Sm_mx (v : Vc vs d Bd) {c : Nat → Int} {b : Int} (sc : Sc vs c b) : Sm (mxL vs d c) := fun x hx => by
  unfold mxL at hx
  obtain ⟨k, _, rfl⟩ := List.mem_map.mp hx
  have := mxc_sm v sc k
  omega
theorem dot_mx (v : Vc vs d Bd) (c : Nat → Int) {i : Nat} (hi : i < vs.length) : dot (mxL vs d c) (vs.getD i []) = gd vs.length (gram vs) c i := by
  rw [dot_sN d _ _ (mxL_len _ _ _) (v.ln hi), gd_mx v c hi]
  exact sN_ext d fun k hk => by rw [mxL_get hk]
theorem dot_mm (v : Vc vs d Bd) (c : Nat → Int) : dot (mxL vs d c) (mxL vs d c) = Bf vs.length (gram vs) c c := by
  rw [dot_sN d _ _ (mxL_len _ _ _) (mxL_len _ _ _), Bf_mx v c c]
  exact sN_ext d fun k hk => by rw [mxL_get hk]
theorem gd_sm (v : Vc vs d Bd) {c : Nat → Int} {b : Int} (sc : Sc vs c b) {i : Nat} (hi : i < vs.length) : (gd vs.length (gram vs) c i).natAbs < 2 ^ 300 := by
  rw [gd_mx v c hi]
  have d1 := v.d1
  refine Nat.lt_of_le_of_lt (Nat.le_trans (sN_nat (M := 2 ^ 240 * 1073741824) d fun k hk => ?_) (Nat.mul_le_mul_right _ d1)) (by decide)
  have s := v.sml hi k
  rw [Int.natAbs_mul]
  exact Nat.mul_le_mul (mxc_sm v sc k) (by omega)
theorem pr_mx (v : Vc vs d Bd) {c : Nat → Int} {b : Int} (sc : Sc vs c b) {i : Nat} (hi : i < vs.length) : f_product [.lst (iL (mxL vs d c)), .tup (iL (vs.getD i []))] = some (.val (.int (gd vs.length (gram vs) c i))) := by
  have d1 := v.d1
  rw [product_at (.inl rfl) (.inr rfl) (Sm_mx v sc) (fun x hx => by have := v.sm _ (v.ent hi) x hx; omega) (by rw [mxL_len]; omega), dot_mx v c hi]
theorem sq_mx (v : Vc vs d Bd) {c : Nat → Int} {b : Int} (sc : Sc vs c b) : f_square [.lst (iL (mxL vs d c))] = some (.val (.int (Bf vs.length (gram vs) c c))) := by
  have d1 := v.d1
  rw [square_at (.inl rfl) (Sm_mx v sc) (by rw [mxL_len]; omega), dot_mm v c]
/-- the place of the least product -/
structure Lt (vs : List (List Int)) (c : Nat → Int) (a : Nat) : Prop where
  lt : a < vs.length
  le : ∀ i, i < vs.length → gd vs.length (gram vs) c a ≤ gd vs.length (gram vs) c i
theorem least_is (v : Vc vs d Bd) {c : Nat → Int} {b : Int} (sc : Sc vs c b) : ∃ a, f_least_at [.lst (pL vs), .lst (iL (mxL vs d c))] = some (.val (.int (a : Nat))) ∧ Lt vs c a := by
  rw [u_least_at]
  unfold g_least_at
  have n0 := v.n0
  obtain ⟨s1, q1, a, x, y, rfl, h1, h2⟩ := forI (k := forK (gTupN 2 (gsCons (gName' 3) (gsCons (gName' 4) gsNil))) b1_least_at) (ds := enumD (pL vs)) (s := ⟨[.fr (.lst (pL vs)), .fr (.lst (iL (mxL vs d c))), .fr (.int 0), .un, .un], [], false⟩)
    (fun i s => ∃ (a : Nat) (x y : Option D), s = ⟨[.fr (.lst (pL vs)), .fr (.lst (iL (mxL vs d c))), .fr (.int (a : Nat)), op x, op y], [], false⟩ ∧ a < vs.length ∧ ∀ j, j < i → gd vs.length (gram vs) c a ≤ gd vs.length (gram vs) c j)
    ⟨0, none, none, rfl, n0, fun j hj => by omega⟩ (fun i hi s => by
      rintro ⟨a, x, y, rfl, h1, h2⟩
      rw [enum_len, pL_len] at hi
      rw [enum_at, pL_ix]
      have p1 := pr_mx v sc hi
      have p2 := pr_mx v sc h1
      have ap := atP v h1
      have e : vs[i] = vs.getD i [] := by rw [List.getD_eq_getElem?_getD, List.getElem?_eq_getElem hi]; rfl
      rw [e]
      by_cases l : gd vs.length (gram vs) c i < gd vs.length (gram vs) c a
      · apply step_of
        · simp [b1_least_at, p1, p2, ap, l, -List.getD_eq_getElem?_getD]
          exact rfl
        · refine ⟨i, some _, some _, rfl, hi, fun j hj => ?_⟩
          by_cases ej : j = i
          · subst ej; exact Int.le_refl _
          · have := h2 j (by omega); omega
      · apply step_of
        · simp [b1_least_at, p1, p2, ap, l, -List.getD_eq_getElem?_getD]
          exact rfl
        · refine ⟨a, some _, some _, rfl, h1, fun j hj => ?_⟩
          by_cases ej : j = i
          · subst ej; omega
          · exact h2 j (by omega))
  rw [enum_len, pL_len] at h2
  exact ⟨a, by simp [q1], h1, h2⟩
theorem Mj.sc {S : List Nat} {ts : List Int} {b : Int} (h : Mj vs S ts b) : Sc vs (cf S ts) b := ⟨fun i => cf_nn h.md.nd h.md.nn i, h.md.sum, h.sm⟩
abbrev NSt (vs : List (List Int)) (d : Nat) (sq : List Int) (S : List Nat) (ts : List Int) (b : Int) (a : Nat) : VS.S := ⟨[.fr (.lst (pL vs)), .fr (.lst (iL sq)), .un, .fr (.lst (nL S)), .fr (.lst (iL ts)), .fr (.int b), .fr (.lst (iL (mxL vs d (cf S ts)))), .fr (.int (a : Nat)), .un, .un, .un], [], false⟩
theorem w_near (v : Vc vs d Bd) {sq : List Int} {S : List Nat} {ts : List Int} {b : Int} {a : Nat} (mj : Mj vs S ts b) (la : Lt vs (cf S ts) a) :
    w1_nearest_shares (NSt vs d sq S ts b a) = some (decide (b * gd vs.length (gram vs) (cf S ts) a < Bf vs.length (gram vs) (cf S ts) (cf S ts))) := by
  have p1 := pr_mx v mj.sc la.lt
  have p2 := sq_mx v mj.sc
  have ap := atP v la.lt
  have m := mul_nlt mj.sm (gd_sm v mj.sc la.lt) (by omega) (by omega)
  simp [w1_nearest_shares, p1, p2, ap, m, -List.getD_eq_getElem?_getD]
theorem near_step (v : Vc vs d Bd) (hb : 2 * mB Bd (mm + 2) < 2 ^ 200) (h20 : mm ≤ 20) (hAI : ∀ S : List Nat, S.Nodup → (∀ i ∈ S, i < vs.length) → AI vs.length (gram vs) S → S.length ≤ mm) {sq : List Int} {S : List Nat} {ts : List Int} {b : Int} {a : Nat} (mj : Mj vs S ts b) (la : Lt vs (cf S ts) a)
    (hlt : b * gd vs.length (gram vs) (cf S ts) a < Bf vs.length (gram vs) (cf S ts) (cf S ts)) :
    ∃ (S' : List Nat) (ts' : List Int) (b' : Int) (a' : Nat), b1_nearest_shares (NSt vs d sq S ts b a) = some (.nx (NSt vs d sq S' ts' b' a')) ∧ Mj vs S' ts' b' ∧ Lt vs (cf S' ts') a' ∧ Low vs (Bf vs.length (gram vs) (cf S ts) (cf S ts)) b (cf S' ts') b' := by
  obtain ⟨S', ts', b', e, mj', lo⟩ := brt_is v hb h20 hAI mj la.lt hlt
  have su := summed_is v mj'.md.lt mj'.md.len
  obtain ⟨a', le, la'⟩ := least_is v mj'.sc
  refine ⟨S', ts', b', a', ?_, mj', la', lo⟩
  have c1 : nL S ++ [D.int (a : Nat)] = nL (S ++ [a]) := by simp [nL]
  have c2 : iL ts ++ [D.int 0] = iL (ts ++ [0]) := by simp [iL]
  have l1 : S.length ≤ mm := hAI S mj.md.nd mj.md.lt mj.md.ai
  have l2 := mj.md.len
  have l3 : S.length ≤ 16777215 := by omega
  have l4 : ts.length ≤ 16777215 := by omega
  simp [b1_nearest_shares, l3, l4, c1, c2, e, su, le]
theorem low_trans {N0 b0 b1 b2 : Int} {c1 c2 : Nat → Int} (h0 : 0 < b0) (h1 : 0 < b1) (l1 : Low vs N0 b0 c1 b1) (l2 : Low vs (Bf vs.length (gram vs) c1 c1) b1 c2 b2) : Low vs N0 b0 c2 b2 := by
  unfold Low at *
  generalize Bf vs.length (gram vs) c1 c1 = N1 at *
  generalize Bf vs.length (gram vs) c2 c2 = N2 at *
  have k1 : b0 * b0 * (N2 * (b1 * b1)) < b0 * b0 * (N1 * (b2 * b2)) := Int.mul_lt_mul_of_pos_left l2 (sq_pos h0)
  have n2 : 0 ≤ b2 * b2 := by
    rcases Int.le_total 0 b2 with w | w
    · exact Int.mul_nonneg w w
    · exact Int.mul_nonneg_of_nonpos_of_nonpos w w
  have k2 : b2 * b2 * (N1 * (b0 * b0)) ≤ b2 * b2 * (N0 * (b1 * b1)) := Int.mul_le_mul_of_nonneg_left (Int.le_of_lt l1) n2
  have e1 : b0 * b0 * (N2 * (b1 * b1)) = b1 * b1 * (N2 * (b0 * b0)) := by grind
  have e2 : b0 * b0 * (N1 * (b2 * b2)) = b2 * b2 * (N1 * (b0 * b0)) := by grind
  have e3 : b2 * b2 * (N0 * (b1 * b1)) = b1 * b1 * (N0 * (b2 * b2)) := by grind
  exact Int.lt_of_mul_lt_mul_left (by omega) (Int.le_of_lt (sq_pos h1))
/-- which vectors -/
def keyS (n : Nat) (S : List Nat) : List Bool := (List.range n).map fun i => decide (i ∈ S)
def allB : Nat → List (List Bool)
  | 0 => [[]]
  | n + 1 => (allB n).map (false :: ·) ++ (allB n).map (true :: ·)
theorem mem_allB : ∀ (n : Nat) (l : List Bool), l.length = n → l ∈ allB n
  | 0, [], _ => by simp [allB]
  | n + 1, x :: l, h => by
    have := mem_allB n l (by simpa using h)
    unfold allB
    cases x
    · exact List.mem_append_left _ (List.mem_map.mpr ⟨l, this, rfl⟩)
    · exact List.mem_append_right _ (List.mem_map.mpr ⟨l, this, rfl⟩)
theorem key_same {n : Nat} {S T : List Nat} (hS : ∀ i ∈ S, i < n) (hT : ∀ i ∈ T, i < n) (e : keyS n S = keyS n T) : ∀ i, i ∈ S ↔ i ∈ T := fun i => by
  by_cases hi : i < n
  · have := congrArg (fun l => l[i]?) e
    simp only [keyS, List.getElem?_map, List.getElem?_range hi, Option.map_some, Option.some.injEq, decide_eq_decide] at this
    exact this
  · exact ⟨fun w => absurd (hS i w) hi, fun w => absurd (hT i w) hi⟩
theorem near_loop (v : Vc vs d Bd) (hb : 2 * mB Bd (mm + 2) < 2 ^ 200) (h20 : mm ≤ 20) (hAI : ∀ S : List Nat, S.Nodup → (∀ i ∈ S, i < vs.length) → AI vs.length (gram vs) S → S.length ≤ mm) (sq : List Int) : ∀ (l : Nat) (L : List (List Bool)) (S : List Nat) (ts : List Int) (b : Int) (a : Nat), L.length ≤ l → Mj vs S ts b → Lt vs (cf S ts) a →
    (∀ S' ts' b', Mj vs S' ts' b' → Low vs (Bf vs.length (gram vs) (cf S ts) (cf S ts)) b (cf S' ts') b' → keyS vs.length S' ∈ L) →
    ∃ (k : Nat) (S' : List Nat) (ts' : List Int) (b' : Int) (a' : Nat), whGo w1_nearest_shares b1_nearest_shares k (NSt vs d sq S ts b a) = some (.nx (NSt vs d sq S' ts' b' a')) ∧ Mj vs S' ts' b' ∧ Lt vs (cf S' ts') a' ∧ Bf vs.length (gram vs) (cf S' ts') (cf S' ts') ≤ b' * gd vs.length (gram vs) (cf S' ts') a' := fun l => by
  induction l with
  | zero =>
    intro L S ts b a hl mj la hL
    by_cases t : b * gd vs.length (gram vs) (cf S ts) a < Bf vs.length (gram vs) (cf S ts) (cf S ts)
    · obtain ⟨S', ts', b', a', e, mj', la', lo⟩ := near_step (sq := sq) v hb h20 hAI mj la t
      have := hL S' ts' b' mj' lo
      have e0 : L = [] := List.length_eq_zero_iff.mp (by omega)
      rw [e0] at this
      exact absurd this (by simp)
    · refine ⟨1, S, ts, b, a, ?_, mj, la, by omega⟩
      unfold whGo
      rw [w_near v mj la, decide_eq_false t]
  | succ l ih =>
    intro L S ts b a hl mj la hL
    by_cases t : b * gd vs.length (gram vs) (cf S ts) a < Bf vs.length (gram vs) (cf S ts) (cf S ts)
    · obtain ⟨S', ts', b', a', e, mj', la', lo⟩ := near_step (sq := sq) v hb h20 hAI mj la t
      have m := hL S' ts' b' mj' lo
      obtain ⟨k, S2, ts2, b2, a2, r1, r2⟩ := ih (L.erase (keyS vs.length S')) S' ts' b' a' (by rw [List.length_erase_of_mem m]; omega) mj' la' (fun S2 ts2 b2 mj2 lo2 => by
        have m2 := hL S2 ts2 b2 mj2 (low_trans mj.md.bp mj'.md.bp lo lo2)
        refine (List.mem_erase_of_ne fun w => ?_).mpr m2
        have sm := Flat.same v.gm mj2.fl mj'.fl (key_same mj2.md.lt mj'.md.lt w)
        unfold Low at lo2
        have e1 : Bf vs.length (gram vs) (cf S2 ts2) (cf S2 ts2) * (b' * b') = b' * b' * Bf vs.length (gram vs) (cf S2 ts2) (cf S2 ts2) := by grind
        have e2 : Bf vs.length (gram vs) (cf S' ts') (cf S' ts') * (b2 * b2) = b2 * b2 * Bf vs.length (gram vs) (cf S' ts') (cf S' ts') := by grind
        omega)
      refine ⟨k + 1, S2, ts2, b2, a2, ?_, r2⟩
      unfold whGo
      rw [w_near v mj la, decide_eq_true t]
      simp only [e]
      exact r1
    · refine ⟨1, S, ts, b, a, ?_, mj, la, by omega⟩
      unfold whGo
      rw [w_near v mj la, decide_eq_false t]
end
end Lw
namespace Lw
open PySem L2 VS
/-! ### nearest_shares: the start, the end -/
theorem idxI_mem' : ∀ {ns : List Int} {i : Int}, i ∈ ns → ∃ j, idxI ns i = some j ∧ j < ns.length
  | n :: ns, i, h => by
    unfold idxI
    by_cases e : n = i
    · exact ⟨0, by rw [if_pos e], by simp⟩
    · rcases List.mem_cons.mp h with rfl | h
      · exact absurd rfl e
      · obtain ⟨j, h1, h2⟩ := idxI_mem' h
        exact ⟨j + 1, by rw [if_neg e, h1]; rfl, by simpa using h2⟩
/-- the nearest mixture -/
structure Nr (vs : List (List Int)) (c : Nat → Int) (b : Int) : Prop where
  nn : ∀ i, 0 ≤ c i
  bp : 0 < b
  sum : sN c vs.length = b
  sm : b.natAbs < 2 ^ 200
  ge : ∀ i, i < vs.length → Bf vs.length (gram vs) c c ≤ b * gd vs.length (gram vs) c i
  at_ : ∀ i, 0 < c i → b * gd vs.length (gram vs) c i = Bf vs.length (gram vs) c c
theorem Nr.sc {vs : List (List Int)} {c : Nat → Int} {b : Int} (h : Nr vs c b) : Sc vs c b := ⟨h.nn, h.sum, h.sm⟩
section
variable {vs : List (List Int)} {d Bd mm : Nat}
theorem mj_one (v : Vc vs d Bd) {a : Nat} (ha : a < vs.length) : Mj vs [a] [1] 1 := by
  have nd : [a].Nodup := by simp
  have p0 : pS [a] 0 = a := rfl
  have ca : cf [a] [1] a = 1 := by
    have := cf_at (t := [1]) nd (k := 0) (by simp)
    rw [p0] at this
    exact this
  have co : ∀ j, j ≠ a → cf [a] [1] j = 0 := fun j hj => cf_off (by simpa using hj)
  have s1 : sN (cf [a] [1]) vs.length = 1 := by rw [sN_one _ ha (fun j _ hj => co j hj), ca]
  have gdE : ∀ i, gd vs.length (gram vs) (cf [a] [1]) i = gram vs a i := fun i => by
    unfold gd
    rw [sN_one _ ha (fun j _ hj => by rw [co j hj, Int.zero_mul]), ca, Int.one_mul]
  have bfE : Bf vs.length (gram vs) (cf [a] [1]) (cf [a] [1]) = gram vs a a := by
    unfold Bf
    rw [sN_one _ ha (fun j _ hj => by rw [co j hj, Int.mul_zero]), ca, gdE, Int.mul_one]
  refine ⟨⟨rfl, nd, fun i hi => by rw [List.mem_singleton.mp hi]; exact ha, fun z z0 z1 _ i hi => ?_, fun t ht => by rw [List.mem_singleton.mp ht]; decide, by decide, s1⟩, fun t ht => by rw [List.mem_singleton.mp ht]; decide, ⟨fun i hi => cf_off hi, s1, by decide, fun i hi => ?_⟩, by decide⟩
  · rw [sN_one _ ha (fun j _ hj => z0 j (by simpa using hj))] at z1
    by_cases e : i = a
    · rw [e]; exact z1
    · exact z0 i (by simpa using e)
  · rw [List.mem_singleton.mp hi, gdE, bfE, Int.one_mul]
theorem near_is (v : Vc vs d Bd) (hb : 2 * mB Bd (mm + 2) < 2 ^ 200) (h20 : mm ≤ 20) (hAI : ∀ S : List Nat, S.Nodup → (∀ i ∈ S, i < vs.length) → AI vs.length (gram vs) S → S.length ≤ mm) :
    ∃ (c : Nat → Int) (b : Int) (sh : List (Int × Int)), f_nearest_shares [.lst (pL vs)] = some (.own (fL sh)) ∧ sh.length = vs.length ∧ Nr vs c b ∧ ∀ i, i < vs.length → IsF (sh.getD i (0, 1)) (c i) b := by
  rw [u_nearest_shares]
  unfold g_nearest_shares
  have n0 := v.n0
  have n1 := v.n1
  have d1 := v.d1
  obtain ⟨sq, hsq⟩ : ∃ sq : List Int, sq = vs.map fun p => dot p p := ⟨_, rfl⟩
  have sql : sq.length = vs.length := by rw [hsq]; simp
  have e1 : lcGo (lcK (gName' 2) bYes e1_nearest_shares ⟨[.fr (.lst (pL vs)), .un, .un, .un, .un, .un, .un, .un, .un, .un, .un], [], false⟩) (pL vs) = some (iL sq) := by
    rw [hsq, show iL (vs.map fun p => dot p p) = vs.map fun p => D.int (dot p p) by simp [iL]]
    unfold pL
    refine lc_mapP (φ := fun p => D.tup (iL p)) fun p hp => ?_
    have s := square_at (a := .tup (iL p)) (p := p) (.inr rfl) (fun x hx => by have := v.sm _ hp x hx; omega) (by rw [v.len _ hp]; omega)
    simp [e1_nearest_shares, s]
  obtain ⟨mn1, mn2⟩ := minL_is (ns := sq) (by omega)
  have mn := min_iL (ns := sq) (by omega)
  obtain ⟨a0, j1, j2⟩ := idxI_mem' mn1
  have ha0 : a0 < vs.length := by omega
  have mj0 := mj_one v ha0
  have su0 := summed_is v mj0.md.lt mj0.md.len
  obtain ⟨at0, le0, la0⟩ := least_is v mj0.sc
  obtain ⟨k, S, ts, b, a, r1, mj, la, fin⟩ := near_loop (mm := mm) v hb h20 hAI sq (allB vs.length).length (allB vs.length) [a0] [1] 1 at0 (Nat.le_refl _) mj0 la0 (fun S' ts' b' _ _ => mem_allB _ _ (by simp [keyS]))
  have w := sWhile_of r1
  have s1 : nL [a0] = [D.int (a0 : Nat)] := rfl
  have s2 : iL [1] = [D.int 1] := rfl
  have lv : vs.length ≤ 1000000 := by omega
  have e2 : ∀ z : Sl, lcGo (lcK (gName' 2) bYes e2_nearest_shares ⟨[.fr (.lst (pL vs)), .fr (.lst (iL sq)), z, .fr (.lst (nL S)), .fr (.lst (iL ts)), .fr (.int b), .fr (.lst (iL (mxL vs d (cf S ts)))), .fr (.int (a : Nat)), .un, .un, .un], [], false⟩) (pL vs) = some (fL (List.replicate vs.length (0, 1))) := fun z => by
    have : fL (List.replicate vs.length (0, 1)) = vs.map fun p => D.tup [.int 0, .int 1] := by simp [fL, fr, List.map_const']
    rw [this]
    unfold pL
    refine lc_mapP (φ := fun p => D.tup (iL p)) fun p hp => ?_
    simp [e2_nearest_shares]
  have bp := mj.md.bp
  have bs := mj.sm
  obtain ⟨s3, q3, sh, x, y, rfl, shl, shi⟩ := forI (k := forK (gTupN 2 (gsCons (gName' 9) (gsCons (gName' 10) gsNil))) b2_nearest_shares) (ds := zipD (nL S) (iL ts)) (s := ⟨[.fr (.lst (pL vs)), .fr (.lst (iL sq)), .un, .fr (.lst (nL S)), .fr (.lst (iL ts)), .fr (.int b), .fr (.lst (iL (mxL vs d (cf S ts)))), .fr (.int (a : Nat)), .ow (fL (List.replicate vs.length (0, 1))), .un, .un], [], false⟩)
    (fun i s => ∃ (sh : List (Int × Int)) (x y : Option D), s = ⟨[.fr (.lst (pL vs)), .fr (.lst (iL sq)), .un, .fr (.lst (nL S)), .fr (.lst (iL ts)), .fr (.int b), .fr (.lst (iL (mxL vs d (cf S ts)))), .fr (.int (a : Nat)), .ow (fL sh), op x, op y], [], false⟩ ∧ sh.length = vs.length ∧ ∀ j, j < vs.length → IsF (sh.getD j (0, 1)) (if j ∈ S.take i then cf S ts j else 0) b)
    ⟨_, none, none, rfl, by simp, fun j hj => by
      rw [List.getD_eq_getElem?_getD, List.getElem?_eq_getElem (by simpa using hj)]
      simp only [List.getElem_replicate, Option.getD_some, List.take_zero, List.not_mem_nil, if_false]
      exact ⟨by decide, by decide, by simp⟩⟩ (fun i hi s => by
      rintro ⟨sh, x, y, rfl, shl, shi⟩
      rw [zip_len, nL_len, iL_len, mj.md.len, Nat.min_self] at hi
      have hit : i < ts.length := by rw [mj.md.len]; exact hi
      rw [zip_at, nL_ix, iL_ix]
      have si := mj.md.lt _ (List.getElem_mem hi)
      obtain ⟨p, hp, ip⟩ := part_is ts[i] b (by omega) (by omega) (by omega)
      have ix : ixN (fL sh).length ((S[i] : Nat) : Int) = some S[i] := by rw [ixN_at (by omega) (by rw [fL_len]; omega)]; simp
      have st : (fL sh).set S[i] (fr p) = fL (sh.set S[i] p) := by simp [fL, List.map_set]
      have tk : S.take (i + 1) = S.take i ++ [S[i]] := by rw [List.take_succ, List.getElem?_eq_getElem hi]; rfl
      have ca : cf S ts S[i] = ts[i] := by
        have := cf_at (t := ts) mj.md.nd hi
        rw [pS_ix hi] at this
        rw [this, List.getD_eq_getElem?_getD, List.getElem?_eq_getElem hit]; rfl
      rw [fL_len] at ix
      generalize S[i] = o at *
      generalize ts[i] = t at *
      apply step_of
      · simp [b2_nearest_shares, hp, ix, st]
        exact rfl
      · refine ⟨_, some _, some _, rfl, by simpa using shl, fun j hj => ?_⟩
        rw [tk]
        by_cases e : j = o
        · subst e
          rw [if_pos (by simp), List.getD_eq_getElem?_getD, List.getElem?_set_self (by omega), ca]
          exact ip
        · have := shi j hj
          rw [List.getD_eq_getElem?_getD, List.getElem?_set_ne (Ne.symm e), ← List.getD_eq_getElem?_getD]
          have m : (j ∈ S.take i ++ [o]) = (j ∈ S.take i) := by simp [e]
          simp only [m]
          exact this)
  rw [zip_len, nL_len, iL_len, mj.md.len, Nat.min_self, List.take_length] at shi
  refine ⟨cf S ts, b, sh, ?_, shl, ⟨mj.sc.nn, bp, mj.md.sum, bs, fun i hi => Int.le_trans fin (Int.mul_le_mul_of_nonneg_left (la.le i hi) (by omega)), fun i hi => ?_⟩, fun j hj => ?_⟩
  · rw [s1, s2] at su0
    apply seq_step
    · simp [lv, e1]
      exact rfl
    apply seq_step
    · simp [mn, intsOf_iL, j1]
      exact rfl
    apply seq_step
    · simp [su0]
      exact rfl
    apply seq_step
    · simp [← s1, ← s2, le0]
      exact rfl
    apply seq_step
    · exact w
    apply seq_step
    · simp [lv, e2]
      exact rfl
    apply seq_step
    · simp
      exact q3
    simp
  · by_cases h : i ∈ S
    · exact mj.fl.kkt i h
    · rw [cf_off h] at hi; omega
  · have := shi j hj
    by_cases h : j ∈ S
    · rwa [if_pos h] at this
    · rw [if_neg h] at this; rwa [cf_off h]
end
end Lw
namespace Lw
open PySem L2 VS
/-! ### shares, as the laws look at them -/
/-- numbers at places, of a list -/
def tf (ts : List Int) : Nat → Int := fun j => ts.getD j 0
theorem isF_add {p q z : Int × Int} {S c b : Int} (hb : b ≠ 0) (h1 : IsF p S b) (h2 : IsF q c b) (h3 : IsF z (p.1 * q.2 + q.1 * p.2) (p.2 * q.2)) : IsF z (S + c) b := by
  refine ⟨h3.pos, h3.one, ?_⟩
  have e1 := h1.eq
  have e2 := h2.eq
  have e3 := h3.eq
  have n1 := h1.pos
  have n2 := h2.pos
  refine Int.eq_of_mul_eq_mul_right (show p.2 * q.2 ≠ 0 from Int.ne_of_gt (Int.mul_pos n1 n2)) ?_
  grind
theorem sN_getD_sum (ts : List Int) : sN (tf ts) ts.length = ts.sum := by
  induction ts with
  | nil => rfl
  | cons a ts ih =>
    rw [List.length_cons, sN_left, List.sum_cons, ← ih]
    rfl
structure Shs (sh : List (Int × Int)) (n : Nat) (c : Nat → Int) (b : Int) : Prop where
  len : sh.length = n
  nn : ∀ i, 0 ≤ c i
  bp : 0 < b
  sum : sN c n = b
  sm : b.natAbs < 2 ^ 200
  isf : ∀ i, i < n → IsF (sh.getD i (0, 1)) (c i) b
/-- fractions over one bottom, as the laws bring them to one -/
structure ShB (sh : List (Int × Int)) (n : Nat) (c : Nat → Int) (b : Int) : Prop where
  len : sh.length = n
  bp : 0 < b
  sm : b.natAbs < 2 ^ 200
  tb : ∀ i, i < n → 0 ≤ c i ∧ c i ≤ 2 * b
  isf : ∀ i, i < n → IsF (sh.getD i (0, 1)) (c i) b
theorem sN_mono {c : Nat → Int} (nn : ∀ i, 0 ≤ c i) {n : Nat} : ∀ m, m ≤ n → sN c m ≤ sN c n := by
  induction n with
  | zero => intro m hm; rw [Nat.le_zero.mp hm]; exact Int.le_refl _
  | succ n ih =>
    intro m hm
    have := nn n
    rcases Nat.eq_or_lt_of_le hm with e | l
    · rw [e]; exact Int.le_refl _
    · have := ih m (by omega)
      show sN c m ≤ sN c n + c n
      omega
section
variable {sh : List (Int × Int)} {n : Nat} {c : Nat → Int} {b : Int}
theorem Shs.at_ (h : Shs sh n c b) {i : Nat} (hi : i < sh.length) : IsF sh[i] (c i) b ∧ 0 ≤ sh[i].1 ∧ 0 < sh[i].2 ∧ sh[i].2 ≤ b ∧ sh[i].1 ≤ b ∧ sh[i].2 ∣ b := by
  have f := h.isf i (by rw [← h.len]; exact hi)
  rw [List.getD_eq_getElem?_getD, List.getElem?_eq_getElem hi] at f
  simp only [Option.getD_some] at f
  have bp := h.bp
  have le := f.le (by omega)
  have cn := h.nn i
  have cb : c i ≤ b := by rw [← h.sum]; exact sN_ge n (fun j _ => h.nn j) (by rw [← h.len]; exact hi)
  have p := f.pos
  have nn : 0 ≤ sh[i].1 := by
    have e := f.eq
    have : 0 ≤ sh[i].1 * b := by rw [e]; exact Int.mul_nonneg cn (by omega)
    rcases (by omega : 0 ≤ sh[i].1 ∨ sh[i].1 < 0) with w | w
    · exact w
    · have := Int.mul_neg_of_neg_of_pos w bp; omega
  exact ⟨f, nn, p, by omega, by omega, f.dvd⟩
end
theorem Shs.shb {sh : List (Int × Int)} {n : Nat} {c : Nat → Int} {b : Int} (h : Shs sh n c b) : ShB sh n c b := ⟨h.len, h.bp, h.sm, fun i hi => by
  have cn := h.nn i
  have cb : c i ≤ b := by rw [← h.sum]; exact sN_ge n (fun j _ => h.nn j) hi
  have := h.bp
  omega, h.isf⟩
theorem ShB.at_ {sh : List (Int × Int)} {n : Nat} {c : Nat → Int} {b : Int} (h : ShB sh n c b) {i : Nat} (hi : i < sh.length) : IsF sh[i] (c i) b ∧ 0 ≤ sh[i].1 ∧ 0 < sh[i].2 ∧ sh[i].2 ≤ b ∧ sh[i].1 ≤ 2 * b ∧ sh[i].2 ∣ b := by
  have hn : i < n := by rw [← h.len]; exact hi
  have f := h.isf i hn
  rw [List.getD_eq_getElem?_getD, List.getElem?_eq_getElem hi] at f
  simp only [Option.getD_some] at f
  have bp := h.bp
  have le := f.le (by omega)
  obtain ⟨cn, cb⟩ := h.tb i hn
  have p := f.pos
  have nn : 0 ≤ sh[i].1 := by
    have e := f.eq
    have : 0 ≤ sh[i].1 * b := by rw [e]; exact Int.mul_nonneg cn (by omega)
    rcases (by omega : 0 ≤ sh[i].1 ∨ sh[i].1 < 0) with w | w
    · exact w
    · have := Int.mul_neg_of_neg_of_pos w bp; omega
  exact ⟨f, nn, p, by omega, by omega, f.dvd⟩
section
variable {vs : List (List Int)} {d : Nat}
/-- the coordinates of a mixture, small -/
theorem mxc_b {c : Nat → Int} (h1 : ∀ v ∈ vs, ∀ x ∈ v, -1073741824 ≤ x ∧ x ≤ 1073741824) (hn : vs.length ≤ 100) (hc : ∀ i, i < vs.length → (c i).natAbs ≤ 2 ^ 210) (k : Nat) : (mxc vs c k).natAbs ≤ 2 ^ 247 := by
  have a := sN_nat (g := fun j => c j * (vs.getD j []).getD k 0) (M := 2 ^ 210 * 1073741824) vs.length (fun j hj => by
    rw [Int.natAbs_mul]
    refine Nat.mul_le_mul (hc j hj) ?_
    have e : vs.getD j [] = vs[j] := by rw [List.getD_eq_getElem?_getD, List.getElem?_eq_getElem hj]; rfl
    rw [e, List.getD_eq_getElem?_getD]
    by_cases hk : k < vs[j].length
    · rw [List.getElem?_eq_getElem hk]
      have := h1 _ (List.getElem_mem hj) _ (List.getElem_mem hk)
      simp only [Option.getD_some]
      omega
    · rw [List.getElem?_eq_none (by omega)]
      simp)
  unfold mxc
  refine Nat.le_trans a ?_
  exact Nat.le_trans (Nat.mul_le_mul_right _ hn) (by decide)
theorem Sm_mxb {c : Nat → Int} (h1 : ∀ v ∈ vs, ∀ x ∈ v, -1073741824 ≤ x ∧ x ≤ 1073741824) (hn : vs.length ≤ 100) (hc : ∀ i, i < vs.length → (c i).natAbs ≤ 2 ^ 210) : Sm (mxL vs d c) := fun x hx => by
  unfold mxL at hx
  obtain ⟨k, _, rfl⟩ := List.mem_map.mp hx
  have := mxc_b h1 hn hc k
  omega
end
/-! ### scaled -/
section
variable {n : Nat} {G : Nat → Nat → Int} {c t : Nat → Int} {b L : Int}
theorem gd_sc (h : ∀ j, j < n → t j * b = c j * L) (i : Nat) : b * gd n G t i = L * gd n G c i := by
  unfold gd
  rw [← sN_mul, ← sN_mul]
  exact sN_ext n fun j hj => by have := h j hj; grind
theorem Bf_sc (h : ∀ j, j < n → t j * b = c j * L) : b * b * Bf n G t t = L * L * Bf n G c c := by
  have e : b * Bf n G t t = sN (fun i => L * gd n G c i * t i) n := by
    unfold Bf
    rw [← sN_mul]
    exact sN_ext n fun i _ => by rw [← Int.mul_assoc, gd_sc h]
  rw [Int.mul_assoc, e, ← sN_mul]
  unfold Bf
  rw [← sN_mul]
  exact sN_ext n fun i hi => by have := h i hi; grind
theorem Nr.scale {vs : List (List Int)} (hr : Nr vs c b) (L0 : 0 < L) (Lb : L ≤ b) (h : ∀ j, j < vs.length → t j * b = c j * L) (ho : ∀ j, vs.length ≤ j → t j = 0) : Nr vs t L := by
  have bp := hr.bp
  have bs := hr.sm
  have bb : 0 < b * b := sq_pos bp
  have B := Bf_sc (G := gram vs) h
  have tn : ∀ j, j < vs.length → (0 < t j → 0 < c j) := fun j hj ht => by
    have := Int.mul_pos ht bp
    rw [h j hj, Int.mul_comm] at this
    exact pos_of this L0
  refine ⟨fun i => ?_, L0, ?_, by omega, fun i hi => ?_, fun i ti => ?_⟩
  · by_cases hi : i < vs.length
    · have e := h i hi
      have : 0 ≤ t i * b := by rw [e]; exact Int.mul_nonneg (hr.nn i) (by omega)
      rcases (by omega : 0 ≤ t i ∨ t i < 0) with w | w
      · exact w
      · have := Int.mul_neg_of_neg_of_pos w bp; omega
    · rw [ho i (by omega)]; exact Int.le_refl _
  · have e : b * sN t vs.length = L * sN c vs.length := by
      rw [← sN_mul, ← sN_mul]
      exact sN_ext _ fun j hj => by have := h j hj; grind
    rw [hr.sum] at e
    exact Int.eq_of_mul_eq_mul_left (show b ≠ 0 by omega) (by rw [e, Int.mul_comm])
  · have g := gd_sc (G := gram vs) h i
    have k := hr.ge i hi
    have e1 : b * b * (L * gd vs.length (gram vs) t i) = L * L * (b * gd vs.length (gram vs) c i) := by
      have : b * b * (L * gd vs.length (gram vs) t i) = b * L * (b * gd vs.length (gram vs) t i) := by grind
      rw [this, g]; grind
    have := Int.mul_le_mul_of_nonneg_left k (Int.le_of_lt (sq_pos L0))
    exact Int.le_of_mul_le_mul_left (show b * b * Bf vs.length (gram vs) t t ≤ b * b * (L * gd vs.length (gram vs) t i) by rw [B, e1]; exact this) bb
  · by_cases hi : i < vs.length
    · have g := gd_sc (G := gram vs) h i
      have k := hr.at_ i (tn i hi ti)
      have e1 : b * b * (L * gd vs.length (gram vs) t i) = L * L * (b * gd vs.length (gram vs) c i) := by
        have : b * b * (L * gd vs.length (gram vs) t i) = b * L * (b * gd vs.length (gram vs) t i) := by grind
        rw [this, g]; grind
      exact Int.eq_of_mul_eq_mul_left (show b * b ≠ 0 by omega) (by rw [B, e1, k])
    · rw [ho i (by omega)] at ti; omega
end
end Lw
namespace Lw
open PySem L2 VS
section
variable {sh : List (Int × Int)} {n : Nat} {c : Nat → Int} {b : Int}
theorem are_shares_is (h : Shs sh n c b) : f_law_are_shares [.lst (fL sh), .int (n : Nat)] = some (.val (.bl true)) := by
  rw [u_law_are_shares]
  unfold g_law_are_shares
  have bp := h.bp
  have bs := h.sm
  obtain ⟨s1, q1, T, B, x, y, rfl, f⟩ := forI (k := forK (gName' 4) b1_law_are_shares) (ds := fL sh) (s := ⟨[.fr (.lst (fL sh)), .fr (.int (n : Nat)), .fr (.int 0), .fr (.int 1), .un, .un], [], false⟩)
    (fun i s => ∃ (T B : Int) (x y : Option D), s = ⟨[.fr (.lst (fL sh)), .fr (.int (n : Nat)), .fr (.int T), .fr (.int B), op x, op y], [], false⟩ ∧ IsF (T, B) (sN c i) b)
    ⟨0, 1, none, none, rfl, by decide, by decide, by simp [sN]⟩ (fun i hi s => by
      rintro ⟨T, B, x, y, rfl, f⟩
      rw [fL_len] at hi
      rw [fL_ix]
      obtain ⟨q, q1, q2, q3, q4, q5⟩ := h.at_ hi
      generalize sh[i] = p at *
      have le := f.le (by omega)
      have Bp : 0 < B := f.pos
      have s0 : 0 ≤ sN c i := sN_nn i fun j _ => h.nn j
      have s1 : sN c i ≤ b := by rw [← h.sum]; exact sN_mono h.nn i (by have := h.len; omega)
      simp only at le
      have pos2 : 0 < p.2 := q2
      have BB : 0 < B * p.2 := Int.mul_pos Bp q2
      obtain ⟨z, z1, z2, z3⟩ := isF_make (t := T * p.2 + p.1 * B) (b := B * p.2) (f := (Int.gcd (T * p.2 + p.1 * B) (B * p.2) : Int)) (by omega) (by rw [if_neg (by omega)])
      have gp : 0 < Int.gcd (T * p.2 + p.1 * B) (B * p.2) := Int.gcd_pos_of_ne_zero_right _ (by omega)
      have gs : (Int.gcd (T * p.2 + p.1 * B) (B * p.2) : Int).natAbs < 2 ^ 8999 := by
        have l1 : (Int.gcd (T * p.2 + p.1 * B) (B * p.2) : Int) ≤ B * p.2 := Int.le_of_dvd BB (Int.gcd_dvd_right _ _)
        have l2 : (B * p.2).natAbs < 2 ^ 200 * 2 ^ 200 := by
          rw [Int.natAbs_mul]
          exact Nat.mul_lt_mul'' (by omega) (by omega)
        have l3 : (2 : Nat) ^ 200 * 2 ^ 200 ≤ 2 ^ 8999 := by rw [← Nat.pow_add]; exact Nat.pow_le_pow_right (by decide) (by decide)
        omega
      have ad := isF_add (by omega) f q z
      have fac := fac_law (T * p.2 + p.1 * B) (B * p.2)
      have dv := fun t : Int => div_of (a := t) (b := (Int.gcd (T * p.2 + p.1 * B) (B * p.2) : Int)) (by omega) gs
      have ip := is_part_is (p := p) (t := p.1) (b := p.2) ⟨q.pos, q.one, by rw [Int.mul_comm]⟩ (by omega) (by omega) (by omega)
      have a0 : dSeq (fr p) = some (false, [.int p.1, .int p.2]) := rfl
      have nl : ¬ p.1 < 0 := by omega
      generalize hg : (Int.gcd (T * p.2 + p.1 * B) (B * p.2) : Int) = g at *
      apply step_of
      · simp (disch := omega) [b1_law_are_shares, ip, a0, nl, ev_mulM, fac, dv]
        exact rfl
      · exact ⟨_, _, some _, some _, rfl, ad⟩)
  rw [fL_len, h.len, h.sum] at f
  have e := f.eq
  have p := f.pos
  have o := f.one
  simp only at e p o
  have e1 : T = B := Int.eq_of_mul_eq_mul_right (show b ≠ 0 by omega) (by rw [e, Int.mul_comm])
  have e2 : B = 1 := by
    rw [e1, Int.gcd_self] at o
    omega
  rw [e1, e2] at q1
  have hl := h.len
  simp [hl, q1]
end
end Lw
namespace Lw
open PySem L2 VS
section
variable {sh : List (Int × Int)} {n : Nat} {c : Nat → Int} {b : Int}
/-- the shares over their least common bottom -/
theorem common_is (h : ShB sh n c b) (hn : n ≤ 1000000) : ∃ (ts : List Int) (L : Int), f_law_common [.lst (fL sh)] = some (.val (.lst [.lst (iL ts), .int L])) ∧ ts.length = n ∧ 0 < L ∧ L ∣ b ∧ ∀ i, i < n → tf ts i * b = c i * L := by
  rw [u_law_common]
  unfold g_law_common
  have bp := h.bp
  have bs := h.sm
  obtain ⟨s1, q1, L, x, rfl, L0, L1, L2⟩ := forI (k := forK (gName' 2) b1_law_common) (ds := fL sh) (s := ⟨[.fr (.lst (fL sh)), .fr (.int 1), .un], [], false⟩)
    (fun i s => ∃ (L : Int) (x : Option D), s = ⟨[.fr (.lst (fL sh)), .fr (.int L), op x], [], false⟩ ∧ 0 < L ∧ L ∣ b ∧ ∀ j (hj : j < sh.length), j < i → sh[j].2 ∣ L)
    ⟨1, none, rfl, by decide, ⟨b, by omega⟩, fun j _ hj => by omega⟩ (fun i hi s => by
      rintro ⟨L, x, rfl, L0, L1, L2⟩
      rw [fL_len] at hi
      rw [fL_ix]
      obtain ⟨q, q1, q2, q3, q4, q5⟩ := h.at_ hi
      generalize hp : sh[i] = p at *
      have Lb := Int.le_of_dvd bp L1
      have a0 : dSeq (fr p) = some (false, [.int p.1, .int p.2]) := rfl
      have fac := fac_law L p.2
      have gp : 0 < Int.gcd L p.2 := Int.gcd_pos_of_ne_zero_right _ (by omega)
      have gL : (Int.gcd L p.2 : Int) ≤ L := Int.le_of_dvd L0 (Int.gcd_dvd_left _ _)
      obtain ⟨l, hl⟩ := Int.gcd_dvd_left L p.2
      obtain ⟨r, hr⟩ := Int.gcd_dvd_right L p.2
      have lq : L / (Int.gcd L p.2 : Int) = l := by
        have := Int.mul_ediv_cancel_left (a := (Int.gcd L p.2 : Int)) l (by omega)
        rw [← hl] at this
        exact this
      have l0 : 0 < l := pos_of (show 0 < (Int.gcd L p.2 : Int) * l by omega) (by omega)
      have lle : l ≤ L := by
        have : 1 * l ≤ (Int.gcd L p.2 : Int) * l := Int.mul_le_mul_of_nonneg_right (by omega) (by omega)
        omega
      have lcm : l * p.2 = (Int.lcm L p.2 : Int) := by
        have e := Int.gcd_mul_lcm L p.2
        have e' : ((Int.gcd L p.2 * Int.lcm L p.2 : Nat) : Int) = L * p.2 := by
          rw [e, Int.natCast_mul, Int.natAbs_of_nonneg (by omega), Int.natAbs_of_nonneg (by omega)]
        rw [Int.natCast_mul] at e'
        refine Int.eq_of_mul_eq_mul_left (show (Int.gcd L p.2 : Int) ≠ 0 by omega) ?_
        rw [e', ← Int.mul_assoc, ← hl]
      have dvb : l * p.2 ∣ b := by
        rw [lcm]
        exact Int.coe_lcm_dvd L1 q5
      have dv := ev_div (a := L) (b := (Int.gcd L p.2 : Int)) (by omega) (by omega)
      rw [lq] at dv
      apply step_of
      · simp (disch := omega) [b1_law_common, a0, fac, dv, ev_mulM]
        exact rfl
      · refine ⟨l * p.2, some _, rfl, Int.mul_pos l0 q2, dvb, fun j hj hji => ?_⟩
        by_cases e : j = i
        · subst e
          rw [hp]
          exact Int.dvd_mul_left _ _
        · have := L2 j hj (by omega)
          rw [lcm]
          exact Int.dvd_trans this (Int.dvd_lcm_left _ _))
  have Lb := Int.le_of_dvd bp L1
  rw [fL_len] at L2
  have e1 : ∀ z : Sl, lcGo (lcK (gName' 2) bYes e1_law_common ⟨[.fr (.lst (fL sh)), .fr (.int L), z], [], false⟩) (fL sh) = some (iL (sh.map fun p => p.1 * (L / p.2))) := fun z => by
    rw [show iL (sh.map fun p => p.1 * (L / p.2)) = sh.map fun p => D.int (p.1 * (L / p.2)) by simp [iL]]
    unfold fL
    refine lc_mapP fun p hp => ?_
    obtain ⟨i, hi, rfl⟩ := List.getElem_of_mem hp
    obtain ⟨q, q1, q2, q3, q4, q5⟩ := h.at_ hi
    generalize sh[i] = p at *
    have dv := ev_div (a := L) (b := p.2) (by omega) (by omega)
    have a0 : dSeq (fr p) = some (false, [.int p.1, .int p.2]) := rfl
    have k1 : L / p.2 ≤ L := Int.ediv_le_self _ (by omega)
    have k2 : 0 ≤ L / p.2 := Int.ediv_nonneg (by omega) (by omega)
    generalize L / p.2 = k at *
    simp (disch := omega) [e1_law_common, a0, dv, ev_mulM]
  refine ⟨sh.map fun p => p.1 * (L / p.2), L, ?_, by rw [List.length_map, h.len], L0, L1, fun i hi => ?_⟩
  · have hl := h.len
    have hl1 : sh.length ≤ 1000000 := by omega
    simp [q1, hl1, e1]
  · have hi' : i < sh.length := by rw [h.len]; exact hi
    obtain ⟨q, q1, q2, q3, q4, q5⟩ := h.at_ hi'
    unfold tf
    rw [getD_map hi']
    have e := q.eq
    have d := Int.mul_ediv_cancel' (L2 i hi' hi')
    generalize sh[i] = p at *
    generalize L / p.2 = k at *
    rw [← d]
    grind
end
end Lw
namespace Lw
open PySem L2 VS
section
variable {vs : List (List Int)} {d : Nat}
theorem law_summed_is {ts : List Int} (h1 : ∀ v ∈ vs, v.length = d) (h2 : ∀ v ∈ vs, ∀ x ∈ v, -1073741824 ≤ x ∧ x ≤ 1073741824) (n0 : 0 < vs.length) (dl : d ≤ 100) (hl : ts.length = vs.length) :
    f_law_summed [.lst (pL vs), .lst (iL ts)] = some (.val (.lst (iL (mxL vs d (tf ts))))) := by
  rw [u_law_summed]
  unfold g_law_summed
  have a0 : atI (pL vs) 0 = some (.tup (iL (vs.getD 0 []))) := by
    have := at_nat (xs := pL vs) (j := 0) (by rw [pL_len]; exact n0)
    rw [pL_ix] at this
    rw [List.getD_eq_getElem?_getD, List.getElem?_eq_getElem n0]
    exact this
  have l0 : (vs.getD 0 []).length = d := by
    rw [List.getD_eq_getElem?_getD, List.getElem?_eq_getElem n0]
    exact h1 _ (List.getElem_mem n0)
  obtain ⟨P, hP⟩ : ∃ P : Nat → List Int, ∀ i, P i = (List.range d).map fun k => sN (fun j => ts.getD j 0 * (vs.getD j []).getD k 0) i := ⟨_, fun _ => rfl⟩
  have Pl : ∀ i, (P i).length = d := fun i => by rw [hP]; simp
  have e1 : lcGo (lcK (gName' 3) bYes e1_law_summed ⟨[.fr (.lst (pL vs)), .fr (.lst (iL ts)), .un, .un, .un, .un, .un], [], false⟩) (iL (vs.getD 0 [])) = some (iL (P 0)) := by
    have : iL (P 0) = (vs.getD 0 []).map fun _ => D.int 0 := by
      rw [hP]
      simp only [iL, List.map_map]
      apply List.ext_getElem
      · rw [List.length_map, List.length_map, List.length_range, l0]
      · intro i h1 h2
        simp [sN]
    rw [this]
    refine lc_mapP (φ := D.int) fun k _ => ?_
    simp [e1_law_summed]
  obtain ⟨s1, q1, x, y, rfl⟩ := forI (k := forK (gTupN 2 (gsCons (gName' 4) (gsCons (gName' 5) gsNil))) b1_law_summed) (ds := zipD (pL vs) (iL ts)) (s := ⟨[.fr (.lst (pL vs)), .fr (.lst (iL ts)), .fr (.lst (iL (P 0))), .un, .un, .un, .un], [], false⟩)
    (fun i s => ∃ x y : Option D, s = ⟨[.fr (.lst (pL vs)), .fr (.lst (iL ts)), .fr (.lst (iL (P i))), .un, op x, op y, .un], [], false⟩)
    ⟨none, none, rfl⟩ (fun i hi s => by
      rintro ⟨x, y, rfl⟩
      rw [zip_len, pL_len, iL_len] at hi
      have hi1 : i < vs.length := by omega
      have hi2 : i < ts.length := by omega
      rw [zip_at, pL_ix, iL_ix]
      have vl := h1 _ (List.getElem_mem hi1)
      have vb := h2 _ (List.getElem_mem hi1)
      have e2 : ∀ (z w : Sl), lcGo (lcK (gTupN 2 (gsCons (gName' 6) (gsCons (gName' 3) gsNil))) bYes e2_law_summed ⟨[.fr (.lst (pL vs)), .fr (.lst (iL ts)), .fr (.lst (iL (P i))), z, .fr (.tup (iL vs[i])), .fr (.int ts[i]), w], [], false⟩) (zipD (iL (P i)) (iL vs[i])) = some (iL (P (i + 1))) := fun z w => by
        have : iL (P (i + 1)) = ((P i).zip vs[i]).map fun p => D.int (p.1 + ts[i] * p.2) := by
          apply List.ext_getElem
          · rw [iL_len, Pl, List.length_map, List.length_zip, Pl, vl]; omega
          · intro k g1 g2
            rw [iL_len, Pl] at g1
            rw [iL_ix]
            simp only [hP, List.getElem_map, List.getElem_zip, List.getElem_range]
            congr 1
            show sN _ i + ts.getD i 0 * (vs.getD i []).getD k 0 = _
            have q1 : ts.getD i 0 = ts[i] := by rw [List.getD_eq_getElem?_getD, List.getElem?_eq_getElem hi2]; rfl
            have q2 : vs.getD i [] = vs[i] := by rw [List.getD_eq_getElem?_getD, List.getElem?_eq_getElem hi1]; rfl
            have q3 : (vs[i]).getD k 0 = vs[i][k]'(by omega) := by rw [List.getD_eq_getElem?_getD, List.getElem?_eq_getElem (show k < (vs[i]).length by omega)]; rfl
            rw [q1, q2, q3]
        rw [this, zip_iL]
        unfold fL
        refine lc_mapP (φ := fr) fun p hp => ?_
        have g1 := vb _ (List.of_mem_zip hp).2
        simp (disch := omega) [fr, e2_law_summed, ev_mulR]
      have zl : (zipD (iL (P i)) (iL vs[i])).length ≤ 1000000 := by rw [zip_len, iL_len, Pl]; omega
      apply step_of
      · simp [b1_law_summed, e2, zl, -zip_iL]
        exact rfl
      · exact ⟨some _, some _, rfl⟩)
  have fin : P (zipD (pL vs) (iL ts)).length = mxL vs d (tf ts) := by
    rw [zip_len, pL_len, iL_len, hl, Nat.min_self, hP]
    rfl
  rw [fin] at q1
  have ll : d ≤ 1000000 := by omega
  simp [a0, e1, l0, ll, q1, -List.getD_eq_getElem?_getD]
end
end Lw
namespace Lw
open PySem L2 VS
theorem law_product_is {a b : D} {p q : List Int} (ha : dSeq a = some (true, iL p) ∨ dSeq a = some (false, iL p)) (hb : dSeq b = some (true, iL q) ∨ dSeq b = some (false, iL q)) (sp : Sm p) (sq : Sm q) (hl : p.length ≤ 1000000) : f_law_product [a, b] = some (.val (.int (dot p q))) := by
  rw [u_law_product]
  unfold g_law_product
  have e : lcGo (lcK (gTupN 2 (gsCons (gName' 2) (gsCons (gName' 3) gsNil))) bYes e1_law_product ⟨[.fr a, .fr b, .un, .un], [], false⟩) (zipD (iL p) (iL q)) = some (iL ((p.zip q).map fun p => p.1 * p.2)) := by
    rw [zip_iL]
    unfold fL iL
    rw [List.map_map]
    refine lc_mapP fun p hp => ?_
    have h1 := sp _ (List.of_mem_zip hp).1
    have h2 := sq _ (List.of_mem_zip hp).2
    simp (disch := omega) [fr, e1_law_product, ev_mulM]
  have l : (zipD (iL p) (iL q)).length ≤ 1000000 := by rw [zip_len, iL_len]; omega
  rcases ha with ha | ha <;> rcases hb with hb | hb <;> simp [ha, hb, e, l, sum_iL, dot]
end Lw
namespace Lw
open PySem L2 VS
/-! ### more vectors than numbers in each -/
theorem sys_null (n : Nat) : ∀ (m : Nat) (A : Nat → Nat → Int) (cols : List Nat), cols.Nodup → (∀ j ∈ cols, j < n) → m < cols.length →
    ∃ z : Nat → Int, (∀ j, j ∉ cols → z j = 0) ∧ (∃ j, j ∈ cols ∧ z j ≠ 0) ∧ ∀ i, i < m → sN (fun j => A i j * z j) n = 0
  | 0, A, cols, nd, lt, hm => by
    obtain ⟨p, ps, rfl⟩ : ∃ p ps, cols = p :: ps := by
      cases cols with
      | nil => simp at hm
      | cons p ps => exact ⟨p, ps, rfl⟩
    exact ⟨fun j => if j = p then 1 else 0, fun j hj => if_neg fun w => hj (by simp [w]), ⟨p, by simp, by simp⟩, fun i hi => by omega⟩
  | m + 1, A, cols, nd, lt, hm => by
    by_cases hp : ∃ p, p ∈ cols ∧ A m p ≠ 0
    · obtain ⟨p, pc, pn⟩ := hp
      obtain ⟨z, z0, ⟨q, qc, qn⟩, zs⟩ := sys_null n m (fun i j => A i j * A m p - A i p * A m j) (cols.erase p) (nd.erase p) (fun j hj => lt j (List.mem_of_mem_erase hj)) (by rw [List.length_erase_of_mem pc]; omega)
      have zp : z p = 0 := z0 p fun w => ((nd.mem_erase_iff).mp w).1 rfl
      have ev : ∀ i, sN (fun j => A i j * (A m p * z j + if j = p then -sN (fun j => A m j * z j) n else 0)) n = A m p * sN (fun j => A i j * z j) n + A i p * -sN (fun j => A m j * z j) n := fun i => by
        have e1 : sN (fun j => A i j * if j = p then -sN (fun j => A m j * z j) n else 0) n = A i p * -sN (fun j => A m j * z j) n := by
          rw [sN_one (a := p) n (lt p pc) fun j _ hj => by rw [if_neg hj, Int.mul_zero], if_pos rfl]
        rw [← e1, ← sN_mul, ← sN_add]
        exact sN_ext n fun j _ => by grind
      refine ⟨fun j => A m p * z j + if j = p then -sN (fun j => A m j * z j) n else 0, fun j hj => ?_, ⟨q, List.mem_of_mem_erase qc, ?_⟩, fun i hi => ?_⟩
      · have jp : j ≠ p := fun w => hj (w ▸ pc)
        show A m p * z j + (if j = p then _ else 0) = 0
        rw [if_neg jp, z0 j fun w => hj (List.mem_of_mem_erase w)]
        simp
      · have qp : q ≠ p := ((nd.mem_erase_iff).mp qc).1
        show A m p * z q + (if q = p then _ else 0) ≠ 0
        rw [if_neg qp, Int.add_zero]
        exact Int.mul_ne_zero pn qn
      · rw [ev i]
        by_cases e : i = m
        · subst e
          grind
        · have := zs i (by omega)
          have e2 : sN (fun j => (A i j * A m p - A i p * A m j) * z j) n = A m p * sN (fun j => A i j * z j) n + A i p * -sN (fun j => A m j * z j) n := by
            rw [show A i p * -sN (fun j => A m j * z j) n = -A i p * sN (fun j => A m j * z j) n by grind, ← sN_lin]
            exact sN_ext n fun j _ => by grind
          rw [← e2]
          exact this
    · obtain ⟨z, z0, zn, zs⟩ := sys_null n m A cols nd lt (by omega)
      refine ⟨z, z0, zn, fun i hi => ?_⟩
      by_cases e : i = m
      · subst e
        refine sN_zero n fun j _ => ?_
        by_cases hj : j ∈ cols
        · have : A i j = 0 := Classical.byContradiction fun w => hp ⟨j, hj, w⟩
          rw [this, Int.zero_mul]
        · rw [z0 j hj, Int.mul_zero]
      · exact zs i (by omega)
theorem ai_dim {vs : List (List Int)} {d Bd : Nat} (v : Vc vs d Bd) : ∀ S : List Nat, S.Nodup → (∀ i ∈ S, i < vs.length) → AI vs.length (gram vs) S → S.length ≤ d + 1 := fun S nd lt ai => by
  refine Nat.le_of_not_lt fun hm => ?_
  obtain ⟨z, z0, ⟨q, qc, qn⟩, zs⟩ := sys_null vs.length (d + 1) (fun i j => if i < d then (vs.getD j []).getD i 0 else 1) S nd lt hm
  refine qn (ai z z0 ?_ ?_ q (lt q qc))
  · have := zs d (by omega)
    rw [← this]
    exact sN_ext _ fun j _ => by rw [if_neg (by omega), Int.one_mul]
  · rw [Bf_mx v]
    refine sN_zero d fun k hk => ?_
    have : mxc vs z k = 0 := by
      have := zs k (by omega)
      rw [← this]
      unfold mxc
      exact sN_ext _ fun j _ => by rw [if_pos hk, Int.mul_comm]
    rw [this, Int.zero_mul]
theorem nd_le : ∀ (n : Nat) (S : List Nat), S.Nodup → (∀ i ∈ S, i < n) → S.length ≤ n
  | 0, [], _, _ => by simp
  | 0, x :: S, _, lt => absurd (lt x (by simp)) (by omega)
  | n + 1, S, nd, lt => by
    have ih := nd_le n (S.erase n) (nd.erase n) fun i hi => by
      have h := (nd.mem_erase_iff).mp hi
      have := lt i h.2
      omega
    by_cases h : n ∈ S
    · rw [List.length_erase_of_mem h] at ih
      omega
    · rw [List.erase_of_not_mem h] at ih
      omega
theorem ai_n {vs : List (List Int)} : ∀ S : List Nat, S.Nodup → (∀ i ∈ S, i < vs.length) → AI vs.length (gram vs) S → S.length ≤ vs.length := fun S nd lt _ => nd_le _ S nd lt
end Lw
namespace Lw
open PySem L2 VS
/-- what the nearest mixture wants of them -/
theorem dot_le {a b : List Int} {r : Nat} (ha : ∀ x ∈ a, x.natAbs ≤ r) (hb : ∀ x ∈ b, x.natAbs ≤ r) : (dot a b).natAbs ≤ a.length * (r * r) := by
  induction a generalizing b with
  | nil => simp [dot]
  | cons x a ih =>
    cases b with
    | nil => simp [dot]
    | cons y b =>
      rw [dot_cons', List.length_cons]
      have h1 := ih (b := b) (fun z hz => ha z (List.mem_cons_of_mem _ hz)) fun z hz => hb z (List.mem_cons_of_mem _ hz)
      have h2 : (x * y).natAbs ≤ r * r := by
        rw [Int.natAbs_mul]
        exact Nat.mul_le_mul (ha x List.mem_cons_self) (hb y List.mem_cons_self)
      rw [Nat.add_mul, Nat.one_mul]
      omega
theorem vc_make {vs : List (List Int)} {d r : Nat} (h1 : ∀ v ∈ vs, v.length = d) (h2 : ∀ v ∈ vs, ∀ x ∈ v, x.natAbs ≤ r) (n0 : 0 < vs.length) (n1 : vs.length ≤ 100) (d0 : 1 ≤ d) (d1 : d ≤ 100) (r0 : 1 ≤ r) (r1 : r ≤ 1073741824) : Vc vs d (d * (r * r)) where
  len := h1
  sm := fun v hv x hx => by have := h2 v hv x hx; omega
  n0 := n0
  n1 := n1
  d1 := d1
  bd := fun i j => by
    unfold gram
    have e : ∀ i, vs.getD i [] = [] ∨ vs.getD i [] ∈ vs := fun i => by
      rw [List.getD_eq_getElem?_getD]
      by_cases h : i < vs.length
      · rw [List.getElem?_eq_getElem h]; exact .inr (List.getElem_mem h)
      · rw [List.getElem?_eq_none (by omega)]; exact .inl rfl
    rcases e i with a | a <;> rcases e j with b | b
    · rw [a]; simp [dot]
    · rw [a]; simp [dot]
    · rw [b]; simp [dot]
    · have := dot_le (h2 _ a) (h2 _ b)
      rw [h1 _ a] at this
      exact this
  b1 := by
    have : 1 * (1 * 1) ≤ d * (r * r) := Nat.mul_le_mul d0 (Nat.mul_le_mul r0 r0)
    omega
theorem mB_in {a b : Nat} (h : a ≤ b) : ∀ n, mB a n ≤ mB b n
  | 0 => Nat.le_refl _
  | n + 1 => Nat.mul_le_mul_left _ (Nat.mul_le_mul h (mB_in h n))
end Lw
namespace Lw
open PySem L2 VS
/-! ### the nearest mixture against another -/
theorem seq_inv {g k : S → Option Out} {s : S} {r : Option Rs} (I : S → Prop) (h : ∃ s', g s = some (.nx s') ∧ I s') (h2 : ∀ s', I s' → outR (k s') = r) : outR (sSeq g k s) = r := by
  obtain ⟨s', e, i⟩ := h
  exact seq_step e (h2 s' i)
theorem sum_set : ∀ (l : List Int) (i : Nat) (x : Int) (h : i < l.length), (l.set i x).sum = l.sum - l[i] + x
  | [], i, x, h => by simp at h
  | a :: l, 0, x, h => by simp only [List.set_cons_zero, List.sum_cons, List.getElem_cons_zero]; omega
  | a :: l, i + 1, x, h => by
    have := sum_set l i x (by simpa using h)
    simp only [List.set_cons_succ, List.sum_cons, List.getElem_cons_succ, this]
    omega
theorem sN_le {g h : Nat → Int} : ∀ m : Nat, (∀ j, j < m → g j ≤ h j) → sN g m ≤ sN h m
  | 0, _ => by simp [sN]
  | m + 1, w => by
    have a := sN_le m fun j hj => w j (by omega)
    have b := w m (by omega)
    show sN g m + g m ≤ sN h m + h m
    omega
theorem sN_sq0 {g : Nat → Int} (m : Nat) (h : sN (fun k => g k * g k) m = 0) : ∀ k, k < m → g k = 0 := fun k hk => by
  have n0 : ∀ x : Int, 0 ≤ x * x := fun x => by
    rcases Int.le_total 0 x with w | w
    · exact Int.mul_nonneg w w
    · exact Int.mul_nonneg_of_nonpos_of_nonpos w w
  have := sN_ge (g := fun k => g k * g k) (a := k) m (fun j _ => n0 _) hk
  rw [h] at this
  have n1 := n0 (g k)
  have t : g k * g k ≤ 0 := this
  have z : g k * g k = 0 := by omega
  rcases Int.mul_eq_zero.mp z with w | w <;> exact w
section
variable {vs : List (List Int)} {d Bd : Nat} {t p : Nat → Int} {L W : Int}
theorem mxc_lin (a b : Int) (c e : Nat → Int) (k : Nat) : mxc vs (fun j => a * c j + b * e j) k = a * mxc vs c k + b * mxc vs e k := by
  unfold mxc
  rw [← sN_lin]
  exact sN_ext _ fun j _ => by grind
theorem near_ge (nt : Nr vs t L) (pn : ∀ i, 0 ≤ p i) (ps : sN p vs.length = W) : W * Bf vs.length (gram vs) t t ≤ L * Bf vs.length (gram vs) t p := by
  rw [← ps, Int.mul_comm, ← sN_mul]
  unfold Bf
  rw [← sN_mul]
  refine sN_le _ fun j hj => ?_
  have := Int.mul_le_mul_of_nonneg_right (nt.ge j hj) (pn j)
  unfold Bf at this
  rw [← Int.mul_assoc]
  exact this
theorem near_cmp (v : Vc vs d Bd) (nt : Nr vs t L) (pn : ∀ i, 0 ≤ p i) (ps : sN p vs.length = W) (W0 : 0 < W) :
    W * W * Bf vs.length (gram vs) t t ≤ L * L * Bf vs.length (gram vs) p p ∧ (W * W * Bf vs.length (gram vs) t t = L * L * Bf vs.length (gram vs) p p → ∀ k, k < d → W * mxc vs t k = L * mxc vs p k) := by
  have ge := near_ge nt pn ps
  have pw := v.gm.psd (fun j => W * t j + (-L) * p j)
  have e : Bf vs.length (gram vs) (fun j => W * t j + (-L) * p j) (fun j => W * t j + (-L) * p j) = W * W * Bf vs.length (gram vs) t t - 2 * (W * (L * Bf vs.length (gram vs) t p)) + L * L * Bf vs.length (gram vs) p p := by
    rw [Bf_linl, Bf_linr, Bf_linr, Bf_sym v.gm p t]
    grind
  have ge2 := Int.mul_le_mul_of_nonneg_left ge (Int.le_of_lt W0)
  rw [← Int.mul_assoc] at ge2
  refine ⟨by omega, fun q k hk => ?_⟩
  have z : Bf vs.length (gram vs) (fun j => W * t j + (-L) * p j) (fun j => W * t j + (-L) * p j) = 0 := by omega
  rw [Bf_mx v] at z
  have := sN_sq0 d z k hk
  rw [mxc_lin] at this
  have : -L * mxc vs p k = -(L * mxc vs p k) := by grind
  omega
theorem near_alike (v : Vc vs d Bd) (h : ∀ k, k < d → W * mxc vs t k = L * mxc vs p k) : W * W * Bf vs.length (gram vs) t t = L * L * Bf vs.length (gram vs) p p := by
  rw [Bf_mx v, Bf_mx v, ← sN_mul, ← sN_mul]
  refine sN_ext d fun k hk => ?_
  have := h k hk
  have e1 : W * W * (mxc vs t k * mxc vs t k) = (W * mxc vs t k) * (W * mxc vs t k) := by grind
  rw [e1, this]
  grind
theorem dot_nlt {a b : List Int} {q : Nat} (ha : ∀ x ∈ a, x.natAbs ≤ 2 ^ q) (hb : ∀ x ∈ b, x.natAbs ≤ 2 ^ q) (hl : a.length ≤ 100) : (dot a b).natAbs < 2 ^ (7 + (q + q)) := by
  have := dot_le ha hb
  rw [← Nat.pow_add] at this
  rw [Nat.pow_add 2 7]
  exact Nat.lt_of_le_of_lt this (Nat.mul_lt_mul_of_pos_right (by omega) (Nat.pow_pos (by decide)))
theorem mxL_mem {c : Nat → Int} {M : Nat} (h : ∀ k, (mxc vs c k).natAbs ≤ M) : ∀ x ∈ mxL vs d c, x.natAbs ≤ M := fun x hx => by
  unfold mxL at hx
  obtain ⟨k, _, rfl⟩ := List.mem_map.mp hx
  exact h k
end
end Lw
namespace Lw
open PySem L2 VS
/-! ### fractions over one bottom -/
theorem lt8999 {a : Nat} {q : Nat} (h : a < 2 ^ q) (hq : q ≤ 8999) : a < 2 ^ 8999 := Nat.lt_of_lt_of_le h (Nat.pow_le_pow_right (by decide) hq)
theorem div_dvd {a b : Int} {q : Nat} (hd : b ∣ a) (h1 : b ≠ 0) (h2 : b.natAbs < 2 ^ q) (hq : q ≤ 8000) : dDiv (.int a) (.int b) = some (.int (a / b)) := by
  unfold dDiv iB divOk
  have := log2_lt (m := b.natAbs) (e := 8000) (by decide) (Nat.lt_of_lt_of_le h2 (Nat.pow_le_pow_right (by decide) hq))
  simp [h1, Int.fdiv_eq_ediv_of_dvd hd]
  omega
theorem _root_.VS.IsF.lt {p : Int × Int} {t b : Int} {q : Nat} (h : IsF p t b) (b0 : b ≠ 0) (hb : b.natAbs < 2 ^ q) : p.2.natAbs < 2 ^ q := by
  have := (h.le b0).1
  have := h.pos
  omega
theorem _root_.VS.IsF.tlt {p : Int × Int} {t b : Int} {q : Nat} (h : IsF p t b) (b0 : b ≠ 0) (ht : t.natAbs < 2 ^ q) : p.1.natAbs < 2 ^ q := by
  have := (h.le b0).2
  omega
/-- lowest terms are told by the proportion -/
theorem _root_.VS.IsF.of {p : Int × Int} {t b u c : Int} (h : IsF p t b) (b0 : b ≠ 0) (e : t * c = u * b) : IsF p u c := by
  refine ⟨h.pos, h.one, ?_⟩
  have := h.eq
  refine Int.eq_of_mul_eq_mul_right b0 ?_
  have e1 : p.1 * c * b = p.1 * b * c := by grind
  have e2 : u * p.2 * b = u * b * p.2 := by grind
  rw [e1, e2, this, ← e]
  grind
theorem _root_.VS.IsF.uniq {p r : Int × Int} {t b : Int} (b0 : b ≠ 0) (h : IsF p t b) (k : IsF r t b) : p = r := by
  have e1 := h.eq
  have e2 := k.eq
  have p0 := h.pos
  have r0 := k.pos
  have cr : p.1 * r.2 = r.1 * p.2 := by
    refine Int.eq_of_mul_eq_mul_right b0 ?_
    have a1 : p.1 * r.2 * b = p.1 * b * r.2 := by grind
    have a2 : r.1 * p.2 * b = r.1 * b * p.2 := by grind
    rw [a1, a2, e1, e2]
    grind
  have h' : IsF p r.1 r.2 := ⟨h.pos, h.one, cr⟩
  have k' : IsF r p.1 p.2 := ⟨k.pos, k.one, cr.symm⟩
  have d1 := h'.dvd
  have d2 := k'.dvd
  have l1 := Int.le_of_dvd r0 d1
  have l2 := Int.le_of_dvd p0 d2
  have e : p.2 = r.2 := by omega
  have : p.1 = r.1 := by
    rw [e] at cr
    exact Int.eq_of_mul_eq_mul_right (by omega) cr
  exact Prod.ext this e
theorem _root_.VS.IsF.top0 {p : Int × Int} {t b : Int} (b0 : 0 < b) (h : IsF p t b) : (p.1 = 0 ↔ t = 0) ∧ (p.1 < 0 ↔ t < 0) ∧ (0 < p.1 ↔ 0 < t) := by
  have e := h.eq
  have p0 := h.pos
  have s : ∀ x : Int, (x < 0 → x * b < 0) ∧ (0 < x → 0 < x * b) ∧ (x = 0 → x * b = 0) := fun x => ⟨fun w => Int.mul_neg_of_neg_of_pos w b0, fun w => Int.mul_pos w b0, fun w => by rw [w, Int.zero_mul]⟩
  have r : ∀ x : Int, (x < 0 → x * p.2 < 0) ∧ (0 < x → 0 < x * p.2) ∧ (x = 0 → x * p.2 = 0) := fun x => ⟨fun w => Int.mul_neg_of_neg_of_pos w p0, fun w => Int.mul_pos w p0, fun w => by rw [w, Int.zero_mul]⟩
  have a := s p.1
  have c := r t
  rw [e] at a
  refine ⟨⟨fun w => ?_, fun w => ?_⟩, ⟨fun w => ?_, fun w => ?_⟩, ⟨fun w => ?_, fun w => ?_⟩⟩
  all_goals omega
theorem isF_nat (t : Int) : IsF (t, 1) t 1 := ⟨by show (0 : Int) < 1; omega, by simp, rfl⟩
theorem isF_zero (b : Int) : IsF (0, 1) 0 b := ⟨by decide, by decide, by simp⟩
end Lw
namespace Lw
open PySem L2 VS
structure Vs (long many : Nat) (r : Int) (vs : List (List Int)) : Prop where
  len : vs.length = many
  each : ∀ v ∈ vs, v.length = long
  co : ∀ v ∈ vs, ∀ x ∈ v, -r ≤ x ∧ x ≤ r
theorem vectors_is (ns : List Int) (hn : ns.length ≤ 63) : ∃ (long many : Nat) (vs : List (List Int)), f_law_vectors [.lst (iL ns)] = some (.val (.lst (pL vs))) ∧ 1 ≤ long ∧ 1 ≤ many ∧ (long ≤ 4 ∧ many ≤ 4 ∧ Vs long many 10001 vs ∨ long ≤ 4 ∧ many ≤ 10 ∧ Vs long many 10 vs ∨ long = 12 ∧ many = 20 ∧ Vs long many 1 vs) := by
  rw [u_law_vectors]
  unfold g_law_vectors
  have c0 := cell_is ns 0 (by omega)
  have c2 := cell_is ns 2 (by omega)
  generalize ns.getD (Int.toNat 0) 0 = c at c0
  generalize ns.getD (Int.toNat 2) 0 = d at c2
  obtain ⟨long, hlong⟩ : ∃ long : Int, long = 1 + c % 4 := ⟨_, rfl⟩
  obtain ⟨fl, hfl⟩ : ∃ fl : Int, fl = (if c / 80 % 8 = 1 then 1 else 0) := ⟨_, rfl⟩
  obtain ⟨tm, htm⟩ : ∃ tm : Int, tm = (if c / 80 % 8 = 1 then 4 else 10) := ⟨_, rfl⟩
  have htb : tm = 4 ∨ tm = 10 := by split at htm <;> omega
  obtain ⟨many, hmany⟩ : ∃ many : Int, many = 1 + c / 8 % tm := ⟨_, rfl⟩
  have hq : 0 ≤ c / 8 % tm ∧ c / 8 % tm < tm := ⟨Int.emod_nonneg _ (by omega), Int.emod_lt_of_pos _ (by omega)⟩
  have p1 : atI [D.int 10, D.int 4] (if c / 80 % 8 = 1 then 1 else 0) = some (.int tm) := by
    rw [htm]; split <;> simp
  obtain ⟨m0, hm0, hm0b⟩ : ∃ m0 : Int, atI [D.int 7, D.int 11, D.int 5] (c / 640 % 3) = some (.int m0) ∧ (m0 = 7 ∨ m0 = 11 ∨ m0 = 5) := by
    rcases (by omega : c / 640 % 3 = 0 ∨ c / 640 % 3 = 1 ∨ c / 640 % 3 = 2) with e | e | e <;> rw [e]
    · exact ⟨7, by simp, by simp⟩
    · exact ⟨11, by simp, by simp⟩
    · exact ⟨5, by rfl, by simp⟩
  obtain ⟨most, hmost⟩ : ∃ m : Int, m = (if c / 80 % 8 = 1 then 20001 else m0) := ⟨_, rfl⟩
  have hmb : 5 ≤ most ∧ most ≤ 20001 := by rw [hmost]; split <;> omega
  have lb : 1 ≤ long ∧ long ≤ 4 := by omega
  have mb : 1 ≤ many ∧ many ≤ 10 := by omega
  obtain ⟨mn, hmn⟩ : ∃ mn : Int, mn = many * long := ⟨_, rfl⟩
  have mnb : 0 ≤ mn ∧ mn ≤ 40 := by
    rw [hmn]
    refine ⟨Int.mul_nonneg (by omega) (by omega), ?_⟩
    have h1 : many * long ≤ 10 * long := Int.mul_le_mul_of_nonneg_right mb.2 (by omega)
    omega
  have hmix : ∀ (cs : List Int) (k : Nat), k < 1000 → ∃ z : Int, (lcK (gName' 8) bYes e1_law_vectors ⟨[.fr (.lst (iL ns)), .fr (.int c), .fr (.int long), .fr (.int (c / 4 % 2)), .fr (.int many), .fr (.int most), .fr (.lst (iL cs)), .un, .un, .un, .un], [], false⟩) (.int k) = some (some (.int z)) ∧ 0 ≤ z ∧ z < most := fun cs k hk => by
    have ce := cell_is cs k (by omega)
    obtain ⟨q, hq, hq0, hq1⟩ := mixed_is (cs.getD ((k : Int)).toNat 0) k (by omega) (by omega)
    generalize cs.getD ((k : Int)).toNat 0 = z at ce hq
    refine ⟨q / 8 % most, ?_, Int.emod_nonneg _ (by omega), Int.emod_lt_of_pos _ (by omega)⟩
    simp (disch := omega) [e1_law_vectors, ce, hq, ev_div, ev_mod]
  obtain ⟨cs, hcs⟩ : ∃ cs, cs = (ns.take 62).drop 2 := ⟨_, rfl⟩
  have hcut : cutD (iL ns) (some 2) (some 62) = iL cs := by rw [cut_ft (by omega) (by omega), hcs]; simp [iL]
  obtain ⟨ds, hE, dl, db⟩ : ∃ ds : List Int, ((c / 4 % 2 = 0 ∧ (f_law_draws [.int d, .int most, .int mn, .int 0] = some (.own (iL ds)) ∨ f_law_draws [.int d, .int most, .int mn, .int 0] = some (.val (.lst (iL ds))))) ∨ (¬ c / 4 % 2 = 0 ∧ lcGo (lcK (gName' 8) bYes e1_law_vectors ⟨[.fr (.lst (iL ns)), .fr (.int c), .fr (.int long), .fr (.int (c / 4 % 2)), .fr (.int many), .fr (.int most), .fr (.lst (iL cs)), .un, .un, .un, .un], [], false⟩) (rngD 0 mn) = some (iL ds))) ∧ ds.length = mn.toNat ∧ ∀ x ∈ ds, 0 ≤ x ∧ x < most := by
    by_cases w : c / 4 % 2 = 0
    · obtain ⟨ds, h1, h2, h3⟩ := draws_is d most mn 0 (by omega) (by omega) (by omega) (by omega)
      exact ⟨ds, .inl ⟨w, by first | exact .inl h1 | exact .inr h1⟩, h2, h3⟩
    · obtain ⟨ds, h1, h2, h3⟩ := lc_rng mn D.int (fun _ z => 0 ≤ z ∧ z < most) fun i hi => hmix cs i (by omega)
      exact ⟨ds, .inr ⟨w, h1⟩, h2, fun x hx => by
        obtain ⟨j, hj, rfl⟩ := List.getElem_of_mem hx
        exact h3 j hj⟩
  obtain ⟨sh, hsh, hshb⟩ : ∃ sh : Int, atI [D.int (most / 2), D.int 0, D.int (most / 2), D.int (most / 3)] (c / 1920 % 4) = some (.int sh) ∧ 0 ≤ sh ∧ sh ≤ most / 2 := by
    rcases (by omega : c / 1920 % 4 = 0 ∨ c / 1920 % 4 = 1 ∨ c / 1920 % 4 = 2 ∨ c / 1920 % 4 = 3) with e | e | e | e <;> rw [e]
    · exact ⟨most / 2, by simp, by omega, by omega⟩
    · exact ⟨0, by simp, by omega, by omega⟩
    · exact ⟨most / 2, by rfl, by omega, by omega⟩
    · exact ⟨most / 3, by rfl, by omega, by omega⟩
  obtain ⟨shift, hshift⟩ : ∃ s : Int, s = if most = 20001 then 10000 else sh := ⟨_, rfl⟩
  obtain ⟨r, hr⟩ : ∃ r : Int, r = (if c / 80 % 8 = 1 then 10001 else 10) := ⟨_, rfl⟩
  have hall : (most = 20001 ∧ tm = 4 ∧ r = 10001 ∧ shift = 10000) ∨ (5 ≤ most ∧ most ≤ 11 ∧ r = 10 ∧ 0 ≤ shift ∧ shift ≤ 5) := by
    by_cases w : c / 80 % 8 = 1
    · rw [if_pos w] at hmost htm hr
      rw [if_pos hmost] at hshift
      exact .inl ⟨hmost, htm, hr, hshift⟩
    · rw [if_neg w] at hmost htm hr
      rw [if_neg (by omega)] at hshift
      exact .inr ⟨by omega, by omega, hr, by omega, by omega⟩
  have hfin : ∀ k : Nat, k < many.toNat → ∃ v : List Int, (lcK (gName' 8) bYes e6_law_vectors ⟨[.fr (.lst (iL ns)), .fr (.int c), .fr (.int long), .fr (.int (c / 4 % 2)), .fr (.int many), .fr (.int most), .fr (.lst (iL cs)), .fr (.lst (iL ds)), .un, .fr (.int shift), .un], [], false⟩) (.int k) = some (some (.tup (iL v))) ∧ v.length = long.toNat ∧ ∀ x ∈ v, -r ≤ x ∧ x ≤ r := fun k hk => by
    have hq : ((k : Int) + 1) * long ≤ mn := by rw [hmn]; exact Int.mul_le_mul_of_nonneg_right (by omega) (by omega)
    have e1 : ((k : Int) + 1) * long = k * long + long := by rw [Int.add_mul, Int.one_mul]
    have e0 : 0 ≤ (k : Int) * long := Int.mul_nonneg (by omega) (by omega)
    obtain ⟨sm, hsm⟩ : ∃ sm, sm = (ds.take (((k : Int) + 1) * long).toNat).drop ((k : Int) * long).toNat := ⟨_, rfl⟩
    have hc2 : cutD (iL ds) (some ((k : Int) * long)) (some (((k : Int) + 1) * long)) = iL sm := by rw [cut_ft e0 (by omega), hsm]; simp [iL]
    have m1 : mulOk (k : Int) long = true := mulOk_R (by omega) (by omega)
    have m2 : mulOk ((k : Int) + 1) long = true := mulOk_R (by omega) (by omega)
    have sl : sm.length = long.toNat := by rw [hsm, List.length_drop, List.length_take]; omega
    have el : ∀ s : S, s = ⟨[.fr (.lst (iL ns)), .fr (.int c), .fr (.int long), .fr (.int (c / 4 % 2)), .fr (.int many), .fr (.int most), .fr (.lst (iL cs)), .fr (.lst (iL ds)), .fr (.int k), .fr (.int shift), .un], [], false⟩ → lcGo (lcK (gName' 10) bYes e5_law_vectors s) (iL sm) = some (iL (sm.map fun x => x - shift)) := fun s hs => by
      subst hs
      rw [show iL (sm.map fun x => x - shift) = sm.map (fun x => D.int (x - shift)) by simp [iL]]
      unfold iL
      refine lc_mapP fun x _ => ?_
      simp [e5_law_vectors]
    have el := el _ rfl
    have l : sm.length ≤ 1000000 := by omega
    refine ⟨sm.map fun x => x - shift, ?_, by rw [List.length_map]; exact sl, fun x hx => ?_⟩
    · simp [e6_law_vectors, mul_of m1, mul_of m2, hc2, el, l]
    · obtain ⟨y, hy, rfl⟩ := List.mem_map.mp hx
      rw [hsm] at hy
      have := db y (List.mem_of_mem_take (List.mem_of_mem_drop hy))
      omega
  obtain ⟨vs, v1, v2, v3⟩ := lc_rng many (fun v : List Int => D.tup (iL v)) (fun _ v => v.length = long.toNat ∧ ∀ x ∈ v, -r ≤ x ∧ x ≤ r) hfin
  have V : Vs long.toNat many.toNat r vs := ⟨v2, fun v hv => by
    obtain ⟨j, hj, rfl⟩ := List.getElem_of_mem hv
    exact (v3 j hj).1, fun v hv => by
    obtain ⟨j, hj, rfl⟩ := List.getElem_of_mem hv
    exact (v3 j hj).2⟩
  by_cases w7 : c / 7680 % 32 = 5
  · have hmix2 : ∀ (k : Nat), k < 1000 → ∃ z : Int, (lcK (gName' 8) bYes e2_law_vectors ⟨[.fr (.lst (iL ns)), .fr (.int c), .fr (.int long), .fr (.int (c / 4 % 2)), .fr (.int many), .fr (.int most), .fr (.lst (iL cs)), .fr (.lst (iL ds)), .un, .fr (.int shift), .un], [], false⟩) (.int k) = some (some (.int z)) ∧ 0 ≤ z ∧ z < 3 := fun k hk => by
      have ce := cell_is cs ((k : Int) % 60) (by omega)
      obtain ⟨q, hq, hq0, hq1⟩ := mixed_is (cs.getD ((k : Int) % 60).toNat 0) k (by omega) (by omega)
      generalize cs.getD ((k : Int) % 60).toNat 0 = z at ce hq
      refine ⟨q / 8 % 3, ?_, by omega, by omega⟩
      simp (disch := omega) [e2_law_vectors, ce, hq, ev_div, ev_mod]
    obtain ⟨es, f1, f2, f3⟩ := lc_rng 240 D.int (fun _ z => 0 ≤ z ∧ z < 3) fun i hi => hmix2 i (by omega)
    have hfin2 : ∀ k : Nat, k < (20 : Int).toNat → ∃ v : List Int, (lcK (gName' 8) bYes e4_law_vectors ⟨[.fr (.lst (iL ns)), .fr (.int c), .fr (.int long), .fr (.int (c / 4 % 2)), .fr (.int many), .fr (.int most), .fr (.lst (iL cs)), .fr (.lst (iL es)), .un, .fr (.int shift), .un], [], false⟩) (.int k) = some (some (.tup (iL v))) ∧ v.length = 12 ∧ ∀ x ∈ v, -1 ≤ x ∧ x ≤ 1 := fun k hk => by
      have hk : k < 20 := hk
      obtain ⟨sm, hsm⟩ : ∃ sm, sm = (es.take (12 * k + 12)).drop (12 * k) := ⟨_, rfl⟩
      have hc2 : cutD (iL es) (some (12 * (k : Int))) (some (12 * (k : Int) + 12)) = iL sm := by
        rw [cut_ft (by omega) (by omega), hsm, show (12 * (k : Int)).toNat = 12 * k by omega, show (12 * (k : Int) + 12).toNat = 12 * k + 12 by omega]
        simp [iL]
      have f2 : es.length = 240 := f2
      have sl : sm.length = 12 := by rw [hsm, List.length_drop, List.length_take]; omega
      have el : ∀ s : S, s = ⟨[.fr (.lst (iL ns)), .fr (.int c), .fr (.int long), .fr (.int (c / 4 % 2)), .fr (.int many), .fr (.int most), .fr (.lst (iL cs)), .fr (.lst (iL es)), .fr (.int k), .fr (.int shift), .un], [], false⟩ → lcGo (lcK (gName' 10) bYes e3_law_vectors s) (iL sm) = some (iL (sm.map fun x => x - 1)) := fun s hs => by
        subst hs
        rw [show iL (sm.map fun x => x - 1) = sm.map (fun x => D.int (x - 1)) by simp [iL]]
        unfold iL
        refine lc_mapP fun x _ => ?_
        simp [e3_law_vectors]
      have el := el _ rfl
      have l : sm.length ≤ 1000000 := by omega
      refine ⟨sm.map fun x => x - 1, ?_, by rw [List.length_map]; exact sl, fun x hx => ?_⟩
      · simp (disch := omega) [e4_law_vectors, ev_mulL, hc2, el, l]
      · obtain ⟨y, hy, rfl⟩ := List.mem_map.mp hx
        rw [hsm] at hy
        obtain ⟨jj, hj, rfl⟩ := List.getElem_of_mem (List.mem_of_mem_take (List.mem_of_mem_drop hy))
        have := f3 jj hj
        omega
    obtain ⟨us, u1, u2, u3⟩ := lc_rng 20 (fun v : List Int => D.tup (iL v)) (fun _ v => v.length = 12 ∧ ∀ x ∈ v, -1 ≤ x ∧ x ≤ 1) hfin2
    have u2 : us.length = 20 := u2
    refine ⟨12, 20, us, ?_, by omega, by omega, .inr (.inr ⟨rfl, rfl, ⟨u2, fun v hv => ?_, fun v hv => ?_⟩⟩)⟩
    rotate_left
    · obtain ⟨j, hj, rfl⟩ := List.getElem_of_mem hv
      exact (u3 j hj).1
    · obtain ⟨j, hj, rfl⟩ := List.getElem_of_mem hv
      exact (u3 j hj).2
    have hb1 := in_B (a := mn) (by omega) (by omega)
    have hb2 := in_B (a := many) (by omega) (by omega)
    have mm : mulOk many long = true := mulOk_R (by omega) (by omega)
    apply seq_step
    · simp [c0]
      exact rfl
    apply seq_step
    · simp (disch := omega) [ev_mod, ← hlong]
      exact rfl
    apply seq_step
    · simp (disch := omega) [ev_mod, ev_div]
      exact rfl
    apply seq_step
    · simp (disch := omega) [ev_mod, ev_div, p1, ← hmany]
      exact rfl
    apply seq_step
    · simp (disch := omega) [ev_mod, ev_div, hm0]
      exact rfl
    apply seq_step (s' := ⟨[.fr (.lst (iL ns)), .fr (.int c), .fr (.int long), .fr (.int (c / 4 % 2)), .fr (.int many), .fr (.int most), .un, .un, .un, .un, .un], [], false⟩)
    · by_cases w : c / 80 % 8 = 1
      · rw [if_pos w] at hmost
        simp (disch := omega) [ev_mod, ev_div, w, hmost]
      · rw [if_neg w] at hmost
        simp (disch := omega) [ev_mod, ev_div, w, hmost]
    apply seq_step
    · simp [hcut]
      exact rfl
    apply seq_step (s' := ⟨[.fr (.lst (iL ns)), .fr (.int c), .fr (.int long), .fr (.int (c / 4 % 2)), .fr (.int many), .fr (.int most), .fr (.lst (iL cs)), .fr (.lst (iL ds)), .un, .un, .un], [], false⟩)
    · rcases hE with ⟨w, e | e⟩ | ⟨w, e⟩
      · simp [c2, mul_of mm, ← hmn, w, e]
      · simp [c2, mul_of mm, ← hmn, w, e]
      · have l : mn.toNat ≤ 1000000 := by omega
        simp [mul_of mm, ← hmn, w, hb1, e, rng_len, l]
    apply seq_step
    · simp (disch := omega) [ev_mod, ev_div, hsh]
      exact rfl
    apply seq_step (s' := ⟨[.fr (.lst (iL ns)), .fr (.int c), .fr (.int long), .fr (.int (c / 4 % 2)), .fr (.int many), .fr (.int most), .fr (.lst (iL cs)), .fr (.lst (iL ds)), .un, .fr (.int shift), .un], [], false⟩)
    · by_cases w : most = 20001
      · rw [if_pos w] at hshift
        simp [w, hshift]
      · rw [if_neg w] at hshift
        simp [w, hshift]
    have b1 := in_B (a := 240) (by omega) (by omega)
    have b2 := in_B (a := 20) (by omega) (by omega)
    have f1' : lcGo (lcK (gName' 8) bYes e2_law_vectors ⟨[.fr (.lst (iL ns)), .fr (.int c), .fr (.int long), .fr (.int (c / 4 % 2)), .fr (.int many), .fr (.int most), .fr (.lst (iL cs)), .fr (.lst (iL ds)), .un, .fr (.int shift), .un], [], false⟩) (rngD 0 240) = some (iL es) := f1
    have u1' : lcGo (lcK (gName' 8) bYes e4_law_vectors ⟨[.fr (.lst (iL ns)), .fr (.int c), .fr (.int long), .fr (.int (c / 4 % 2)), .fr (.int many), .fr (.int most), .fr (.lst (iL cs)), .fr (.lst (iL es)), .un, .fr (.int shift), .un], [], false⟩) (rngD 0 20) = some (pL us) := u1
    simp (disch := omega) [ev_mod, ev_div, w7, b1, b2, rng_len, f1', u1']
  refine ⟨long.toNat, many.toNat, vs, ?_, by omega, by omega, ?_⟩
  rotate_left
  · rcases hall with ⟨_, h2, h3, _⟩ | ⟨_, _, h3, _⟩
    · rw [h3] at V
      exact .inl ⟨by omega, by omega, V⟩
    · rw [h3] at V
      exact .inr (.inl ⟨by omega, by omega, V⟩)
  have hb1 := in_B (a := mn) (by omega) (by omega)
  have hb2 := in_B (a := many) (by omega) (by omega)
  have mm : mulOk many long = true := mulOk_R (by omega) (by omega)
  apply seq_step
  · simp [c0]
    exact rfl
  apply seq_step
  · simp (disch := omega) [ev_mod, ← hlong]
    exact rfl
  apply seq_step
  · simp (disch := omega) [ev_mod, ev_div]
    exact rfl
  apply seq_step
  · simp (disch := omega) [ev_mod, ev_div, p1, ← hmany]
    exact rfl
  apply seq_step
  · simp (disch := omega) [ev_mod, ev_div, hm0]
    exact rfl
  apply seq_step (s' := ⟨[.fr (.lst (iL ns)), .fr (.int c), .fr (.int long), .fr (.int (c / 4 % 2)), .fr (.int many), .fr (.int most), .un, .un, .un, .un, .un], [], false⟩)
  · by_cases w : c / 80 % 8 = 1
    · rw [if_pos w] at hmost
      simp (disch := omega) [ev_mod, ev_div, w, hmost]
    · rw [if_neg w] at hmost
      simp (disch := omega) [ev_mod, ev_div, w, hmost]
  apply seq_step
  · simp [hcut]
    exact rfl
  apply seq_step (s' := ⟨[.fr (.lst (iL ns)), .fr (.int c), .fr (.int long), .fr (.int (c / 4 % 2)), .fr (.int many), .fr (.int most), .fr (.lst (iL cs)), .fr (.lst (iL ds)), .un, .un, .un], [], false⟩)
  · rcases hE with ⟨w, e | e⟩ | ⟨w, e⟩
    · simp [c2, mul_of mm, ← hmn, w, e]
    · simp [c2, mul_of mm, ← hmn, w, e]
    · have l : mn.toNat ≤ 1000000 := by omega
      simp [mul_of mm, ← hmn, w, hb1, e, rng_len, l]
  apply seq_step
  · simp (disch := omega) [ev_mod, ev_div, hsh]
    exact rfl
  apply seq_step (s' := ⟨[.fr (.lst (iL ns)), .fr (.int c), .fr (.int long), .fr (.int (c / 4 % 2)), .fr (.int many), .fr (.int most), .fr (.lst (iL cs)), .fr (.lst (iL ds)), .un, .fr (.int shift), .un], [], false⟩)
  · by_cases w : most = 20001
    · rw [if_pos w] at hshift
      simp [w, hshift]
    · rw [if_neg w] at hshift
      simp [w, hshift]
  have l : many.toNat ≤ 1000000 := by omega
  have v1' : lcGo (lcK (gName' 8) bYes e6_law_vectors ⟨[.fr (.lst (iL ns)), .fr (.int c), .fr (.int long), .fr (.int (c / 4 % 2)), .fr (.int many), .fr (.int most), .fr (.lst (iL cs)), .fr (.lst (iL ds)), .un, .fr (.int shift), .un], [], false⟩) (rngD 0 many) = some (pL vs) := v1
  simp (disch := omega) [ev_mod, ev_div, w7, hb2, rng_len, l, v1']
theorem vs_near {long many : Nat} {vs : List (List Int)} (l0 : 1 ≤ long) (m0 : 1 ≤ many) (h : long ≤ 4 ∧ many ≤ 4 ∧ Vs long many 10001 vs ∨ long ≤ 4 ∧ many ≤ 10 ∧ Vs long many 10 vs ∨ long = 12 ∧ many = 20 ∧ Vs long many 1 vs) :
    ∃ (Bd : Nat), Vc vs long Bd ∧ ∃ (c : Nat → Int) (b : Int) (sh : List (Int × Int)), f_nearest_shares [.lst (pL vs)] = some (.own (fL sh)) ∧ sh.length = vs.length ∧ Nr vs c b ∧ ∀ i, i < vs.length → IsF (sh.getD i (0, 1)) (c i) b := by
  rcases h with ⟨l1, m1, V⟩ | ⟨l1, m1, V⟩ | ⟨l1, m1, V⟩
  · have v := vc_make (r := 10001) V.each (fun v hv x hx => by have := V.co v hv x hx; omega) (by rw [V.len]; omega) (by rw [V.len]; omega) l0 (by omega) (by omega) (by omega)
    refine ⟨_, v, near_is (mm := 4) v ?_ (by omega) fun S nd lt ai => ?_⟩
    · have e : long * (10001 * 10001) ≤ 400080004 := by omega
      exact Nat.lt_of_le_of_lt (Nat.mul_le_mul_left 2 (mB_in e 6)) (by decide)
    · have := nd_le _ S nd lt
      have := V.len
      omega
  · have v := vc_make (r := 10) V.each (fun v hv x hx => by have := V.co v hv x hx; omega) (by rw [V.len]; omega) (by rw [V.len]; omega) l0 (by omega) (by omega) (by omega)
    refine ⟨_, v, near_is (mm := 10) v ?_ (by omega) fun S nd lt ai => ?_⟩
    · have e : long * (10 * 10) ≤ 400 := by omega
      exact Nat.lt_of_le_of_lt (Nat.mul_le_mul_left 2 (mB_in e 12)) (by decide)
    · have := nd_le _ S nd lt
      have := V.len
      omega
  · have v := vc_make (r := 1) V.each (fun v hv x hx => by have := V.co v hv x hx; omega) (by rw [V.len]; omega) (by rw [V.len]; omega) l0 (by omega) (by omega) (by omega)
    refine ⟨_, v, near_is (mm := 20) v ?_ (by omega) fun S nd lt ai => ?_⟩
    · have e : long * (1 * 1) ≤ 12 := by omega
      exact Nat.lt_of_le_of_lt (Nat.mul_le_mul_left 2 (mB_in e 22)) (by decide)
    · have := nd_le _ S nd lt
      have := V.len
      omega
end Lw
namespace Lw
open PySem L2 VS
theorem tr_pL (vs : List (List Int)) : Tr 2 (.lst (pL vs)) := .lst fun x hx => by
  obtain ⟨v, _, rfl⟩ := List.mem_map.mp hx
  exact .tup (tr_iL _)
/-- (3, 0) and (0, 4) -/
theorem two_known : f_nearest_shares [.lst [.tup [.int 3, .int 0], .tup [.int 0, .int 4]]] = some (.own (fL [(16, 25), (9, 25)])) := by
  obtain ⟨vs, hvs⟩ : ∃ vs : List (List Int), vs = [[3, 0], [0, 4]] := ⟨_, rfl⟩
  have V : Vs 2 2 10 vs := by
    rw [hvs]
    refine ⟨rfl, fun v hv => ?_, fun v hv x hx => ?_⟩
    · simp at hv
      rcases hv with rfl | rfl <;> rfl
    · simp at hv
      rcases hv with rfl | rfl
      · simp at hx; omega
      · simp at hx; omega
  obtain ⟨Bd, v, c, b, sh, n1, n2, nr, isf⟩ := vs_near (by decide) (by decide) (.inr (.inl ⟨by decide, by decide, V⟩))
  have e : pL vs = [.tup [.int 3, .int 0], .tup [.int 0, .int 4]] := by rw [hvs]; rfl
  have l2 : vs.length = 2 := by rw [hvs]; rfl
  rw [e] at n1
  rw [l2] at n2 isf
  have sum := nr.sum
  rw [l2] at sum
  have sum' : c 0 + c 1 = b := by
    have : sN c 2 = 0 + c 0 + c 1 := rfl
    omega
  have g00 : gram vs 0 0 = 9 := by rw [hvs]; rfl
  have g01 : gram vs 0 1 = 0 := by rw [hvs]; rfl
  have g10 : gram vs 1 0 = 0 := by rw [hvs]; rfl
  have g11 : gram vs 1 1 = 16 := by rw [hvs]; rfl
  have gd0 : gd 2 (gram vs) c 0 = 9 * c 0 := by
    have : gd 2 (gram vs) c 0 = 0 + c 0 * gram vs 0 0 + c 1 * gram vs 1 0 := rfl
    rw [this, g00, g10]; omega
  have gd1 : gd 2 (gram vs) c 1 = 16 * c 1 := by
    have : gd 2 (gram vs) c 1 = 0 + c 0 * gram vs 0 1 + c 1 * gram vs 1 1 := rfl
    rw [this, g01, g11]; omega
  have bf : Bf 2 (gram vs) c c = 9 * (c 0 * c 0) + 16 * (c 1 * c 1) := by
    have : Bf 2 (gram vs) c c = 0 + gd 2 (gram vs) c 0 * c 0 + gd 2 (gram vs) c 1 * c 1 := rfl
    rw [this, gd0, gd1]; grind
  have ge0 := nr.ge 0 (by omega)
  have ge1 := nr.ge 1 (by omega)
  have at0 := nr.at_ 0
  have at1 := nr.at_ 1
  rw [l2, gd0, bf] at ge0 at0
  rw [l2, gd1, bf] at ge1 at1
  have c0 := nr.nn 0
  have c1 := nr.nn 1
  have bp := nr.bp
  have p0 : 0 < c 0 := by
    rcases (by omega : 0 < c 0 ∨ c 0 = 0) with w | w
    · exact w
    · have e1 : c 1 = b := by omega
      rw [w, e1] at ge0
      have := sq_pos bp
      have e2 : b * (9 * 0) = 0 := by omega
      omega
  have p1 : 0 < c 1 := by
    rcases (by omega : 0 < c 1 ∨ c 1 = 0) with w | w
    · exact w
    · have e1 : c 0 = b := by omega
      rw [w, e1] at ge1
      have := sq_pos bp
      have e2 : b * (16 * 0) = 0 := by omega
      omega
  have q := (at0 p0).trans (at1 p1).symm
  have q2 : 9 * c 0 = 16 * c 1 := Int.eq_of_mul_eq_mul_left (show b ≠ 0 by omega) q
  have f0 : IsF (16, 25) (c 0) b := ⟨by decide, by decide, by show (16 : Int) * b = c 0 * 25; omega⟩
  have f1 : IsF (9, 25) (c 1) b := ⟨by decide, by decide, by show (9 : Int) * b = c 1 * 25; omega⟩
  have u0 := (isf 0 (by omega)).uniq (by omega) f0
  have u1 := (isf 1 (by omega)).uniq (by omega) f1
  have : sh = [(16, 25), (9, 25)] := by
    match sh, n2 with
    | [x, y], _ =>
      simp only [List.getD_eq_getElem?_getD, List.getElem?_cons_zero, List.getElem?_cons_succ, Option.getD_some] at u0 u1
      rw [u0, u1]
  rw [← this]
  exact n1
theorem law_true (ns : List Int) (hn : ns.length ≤ 63) (hb : ∀ z ∈ ns, Builtin.Int.intBits z ≤ 1048576) : f_law [.lst (ns.map D.int)] = some (.val (.bl true)) := by
  rw [u_law]
  unfold g_law
  rw [show ns.map D.int = iL ns from rfl]
  obtain ⟨long, many, vs, v1, l0, m0, V⟩ := vectors_is ns hn
  have vn : vs.length ≤ 20 ∧ long ≤ 12 := by
    rcases V with ⟨a, b, c⟩ | ⟨a, b, c⟩ | ⟨a, b, c⟩
    · exact ⟨by have := c.len; omega, by omega⟩
    · exact ⟨by have := c.len; omega, by omega⟩
    · exact ⟨by have := c.len; omega, by omega⟩
  obtain ⟨Bd, v, c, b, sh, n1, n2, nr, isf⟩ := vs_near l0 m0 V
  have shs : Shs sh vs.length c b := ⟨n2, nr.nn, nr.bp, nr.sum, nr.sm, isf⟩
  have as := are_shares_is shs
  obtain ⟨ts, L, co, tl, L0, Lb, tfe⟩ := common_is shs.shb (by omega)
  have Lle := Int.le_of_dvd nr.bp Lb
  have nt := nr.scale L0 Lle tfe (fun j hj => by unfold tf; rw [List.getD_eq_getElem?_getD, List.getElem?_eq_none (by omega)]; rfl)
  have Ls := nt.sm
  obtain ⟨e1, e2⟩ := eq_same (tr_pL vs)
  obtain ⟨e3, e4⟩ := eq_same (a := .lst (fL sh)) (.lst (tr_fL sh))
  obtain ⟨e5, e6⟩ := eq_same (a := .lst (fL [(16, 25), (9, 25)])) (.lst (tr_fL _))
  have n0 := v.n0
  have sp : sepD (hdD (fL sh)) (.lst [.lst (iL ts), .int L]) = true := sep_pair (by omega)
  have s1 := law_summed_is (vs := vs) (ts := ts) v.len v.sm v.n0 v.d1 tl
  have h1 := mxc_b (vs := vs) (c := tf ts) v.sm v.n1 (fun i hi => by
    have a := nt.nn i
    have g := sN_ge (g := tf ts) (a := i) vs.length (fun j _ => nt.nn j) hi
    rw [nt.sum] at g
    omega)
  have k1 := mxL_mem (d := long) h1
  have m1 : Sm (mxL vs long (tf ts)) := fun x hx => by have := k1 x hx; omega
  have b1 := dot_nlt k1 k1 (by rw [mxL_len]; omega)
  have d1 := dot_mm v (tf ts)
  have r1 := law_product_is (a := .lst (iL (mxL vs long (tf ts)))) (b := .lst (iL (mxL vs long (tf ts)))) (.inl rfl) (.inl rfl) m1 m1 (by rw [mxL_len]; omega)
  rw [d1] at r1
  have L1 : L.natAbs < 2 ^ 220 := Nat.lt_of_lt_of_le Ls (by decide)
  obtain ⟨s2, q2, x, rfl⟩ := forI (k := forK (gName' 7) b1_law) (ds := pL vs) (s := ⟨[.fr (.lst (iL ns)), .fr (.lst (pL vs)), .fr (.lst (pL vs)), .ow (fL sh), .fr (.lst (iL ts)), .fr (.int L), .fr (.lst (iL (mxL vs long (tf ts)))), .un, .un], [], false⟩)
    (fun i s => ∃ x : Option D, s = ⟨[.fr (.lst (iL ns)), .fr (.lst (pL vs)), .fr (.lst (pL vs)), .ow (fL sh), .fr (.lst (iL ts)), .fr (.int L), .fr (.lst (iL (mxL vs long (tf ts)))), op x, .un], [], false⟩)
    ⟨none, rfl⟩ (fun i hi s => by
      rintro ⟨x, rfl⟩
      rw [pL_len] at hi
      rw [pL_ix]
      have ge := nt.ge i hi
      have e : vs[i] = vs.getD i [] := by rw [List.getD_eq_getElem?_getD, List.getElem?_eq_getElem hi]; rfl
      have pr := law_product_is (a := .lst (iL (mxL vs long (tf ts)))) (b := .tup (iL vs[i])) (.inl rfl) (.inr rfl) m1 (fun y hy => by have := v.sm _ (List.getElem_mem hi) y hy; omega) (by rw [mxL_len]; omega)
      rw [e, dot_mx v _ hi, ← e] at pr
      have gb := gd_sm v (c := tf ts) (b := L) ⟨nt.nn, nt.sum, Ls⟩ hi
      have mm := mul_nlt L1 gb (by decide) (by decide)
      generalize gd vs.length (gram vs) (tf ts) i = g at *
      generalize Bf vs.length (gram vs) (tf ts) (tf ts) = B at *
      generalize vs[i] = w at *
      have nl : ¬ L * g < B := by omega
      apply step_of
      · simp [b1_law, pr, mm, r1, nl]
        exact rfl
      · exact ⟨some _, rfl⟩)
  have tk := two_known
  have ff : D.lst [.tup [.int 16, .int 25], .tup [.int 9, .int 25]] = .lst (fL [(16, 25), (9, 25)]) := rfl
  apply seq_step
  · simp [v1]
    exact rfl
  apply seq_step
  · simp
    exact rfl
  apply seq_step
  · simp [n1]
    exact rfl
  apply seq_step
  · simp [e2, as]
    exact rfl
  apply seq_step
  · simp [co, sp, -sepD_lst]
    exact rfl
  apply seq_step
  · simp [s1]
    exact rfl
  apply seq_step
  · simp
    exact q2
  apply seq_step
  · simp
    exact rfl
  apply seq_step
  · simp [tk, ff, e6, e4]
    exact rfl
  apply seq_step
  · simp
    exact rfl
  simp [n1, e3]
end Lw
namespace Lw
open PySem L2 VS
open PyProof.Rows hiding St
noncomputable abbrev top (n : Nat) : Stmt := (PySem.Challenge.pw_mendweights_k22_nearest_walked.main.body[n]?).getD (.Pass ⟨0, 0, 0, 0⟩)
noncomputable abbrev s_shared_factor : Stmt := top 4
noncomputable abbrev s_part : Stmt := top 5
noncomputable abbrev s_product : Stmt := top 7
noncomputable abbrev s_square : Stmt := top 8
noncomputable abbrev s_eliminated : Stmt := top 10
noncomputable abbrev s_flat_tops : Stmt := top 11
noncomputable abbrev s_lowest_terms : Stmt := top 12
noncomputable abbrev s_first_left : Stmt := top 13
noncomputable abbrev s_brought_in : Stmt := top 14
noncomputable abbrev s_summed : Stmt := top 15
noncomputable abbrev s_least_at : Stmt := top 16
noncomputable abbrev s_nearest_shares : Stmt := top 17
noncomputable abbrev s_law_cell_at : Stmt := top 19
noncomputable abbrev s_law_mixed : Stmt := top 20
noncomputable abbrev s_law_draws : Stmt := top 21
noncomputable abbrev s_law_vectors : Stmt := top 24
noncomputable abbrev s_law_factor : Stmt := top 22
noncomputable abbrev s_law_is_part : Stmt := top 23
noncomputable abbrev s_law_are_shares : Stmt := top 25
noncomputable abbrev s_law_common : Stmt := top 26
noncomputable abbrev s_law_summed : Stmt := top 27
noncomputable abbrev s_law_product : Stmt := top 28
noncomputable abbrev s_law : Stmt := top 29
section
variable {P : Program} {w : World} {K : PySem.W.Frag} {mg : Str → Option Value} {base : Heap} {C : Str → Option Addr}
theorem sc_shared_factor : FnScope (["one", "other"] : List Str) (["one", "other"] : List Str) (defScope s_shared_factor) := ⟨rfl, rfl, rfl, by decide +kernel, rfl, by decide +kernel, by decide +kernel⟩
theorem cn_shared_factor : chkN (["one", "other"] : List Str) [some "one", some "other"] (["abs"] : List Str) (defScope s_shared_factor) = true := by decide +kernel
theorem cs_shared_factor : chkS (["one", "other"] : List Str) [some "one", some "other"] (defScope s_shared_factor) = true := by decide +kernel
theorem fk_shared_factor {f : Addr} {fd : FuncData} (Fn : Fun K "shared_factor" "shared_factor" s_shared_factor f fd) (bn_abs : mg "abs" = none) : FnOk P w K mg base (L2.CX P w) 1 f fd (["one", "other"] : List Str) (spP ⟨K, C⟩ 2 f_shared_factor) := by
  refine fn_pure (N := (["one", "other"] : List Str)) (ps := (["one", "other"] : List Str)) (g := g_shared_factor) Fn sc_shared_factor (fun X W b => ?_)
  obtain ⟨e1, e2, e3, e4, e5, b⟩ : P = X.prog ∧ w = X.w ∧ K = X.K ∧ mg = X.mg ∧ base = X.base ∧ BX X W P w K mg base (["one", "other"] : List Str) (defScope s_shared_factor) 0 := ⟨b.prog, b.w, b.K, b.mg, b.base, b⟩
  subst e1 e2 e3 e4 e5
  have Dx := DX.of b.n sc_shared_factor.nd b.calm b.sc sc_shared_factor.kind b.room.units b.fn cn_shared_factor cs_shared_factor
  exact (s_cons (s_par Dx b.sc 0 1 (x_abs Dx 0 (bn_abs) (a_cons (x_var Dx 0) a_nil)) (x_abs Dx 0 (bn_abs) (a_cons (x_var Dx 1) a_nil)) (by decide) (by decide +kernel)) (s_cons (s_while b.own (xq_ne Dx (x_var Dx 1) v_int) (s_cons (s_par Dx b.sc 0 1 (x_var Dx 1) (v_mod (x_var Dx 0) (x_var Dx 1)) (by decide) (by decide +kernel)) s_nil)) (s_cons (s_ret (x_var Dx 0)) s_nil)))
theorem sc_part : FnScope (["top", "bottom", "factor"] : List Str) (["top", "bottom"] : List Str) (defScope s_part) := ⟨rfl, rfl, rfl, by decide +kernel, rfl, by decide +kernel, by decide +kernel⟩
theorem cn_part : chkN (["top", "bottom", "factor"] : List Str) [some "top", some "bottom", some "factor"] (["NoFraction", "shared_factor"] : List Str) (defScope s_part) = true := by decide +kernel
theorem cs_part : chkS (["top", "bottom", "factor"] : List Str) [some "top", some "bottom", some "factor"] (defScope s_part) = true := by decide +kernel
theorem fk_part {f : Addr} {fd : FuncData} (Fn : Fun K "part" "part" s_part f fd) (H_shared_factor : DefOk P w K mg base C "shared_factor" 1 (["one", "other"] : List Str) f_shared_factor) (E_NoFraction : ExcOk K mg C "NoFraction") : FnOk P w K mg base (L2.CX P w) 2 f fd (["top", "bottom"] : List Str) (spP ⟨K, C⟩ 2 f_part) := by
  refine fn_pure (N := (["top", "bottom", "factor"] : List Str)) (ps := (["top", "bottom"] : List Str)) (g := g_part) Fn sc_part (fun X W b => ?_)
  obtain ⟨e1, e2, e3, e4, e5, b⟩ : P = X.prog ∧ w = X.w ∧ K = X.K ∧ mg = X.mg ∧ base = X.base ∧ BX X W P w K mg base (["top", "bottom", "factor"] : List Str) (defScope s_part) 1 := ⟨b.prog, b.w, b.K, b.mg, b.base, b⟩
  subst e1 e2 e3 e4 e5
  have Dx := DX.of b.n sc_part.nd b.calm b.sc sc_part.kind b.room.units b.fn cn_part cs_part
  exact (s_cons (s_if (xq_eq Dx (x_var Dx 1) v_int) (s_cons (s_raise Dx 0 b.tk E_NoFraction) s_nil) s_nil) (s_cons (s_set Dx 2 (x_def Dx 1 H_shared_factor b.room (by decide) (a_cons (x_var Dx 0) (a_cons (x_var Dx 1) a_nil)) (aCons_len (aCons_len aNil_len)))) (s_cons (s_if (q_lt (x_var Dx 1) v_int) (s_cons (s_set Dx 2 (v_sub v_int (x_var Dx 2))) s_nil) s_nil) (s_cons (s_ret (v_tup (a_cons (v_div (x_var Dx 0) (x_var Dx 2)) (a_cons (v_div (x_var Dx 1) (x_var Dx 2)) a_nil)))) s_nil))))
theorem sc_product : FnScope (["one", "other", "here", "there"] : List Str) (["one", "other"] : List Str) (defScope s_product) := ⟨rfl, rfl, rfl, by decide +kernel, rfl, by decide +kernel, by decide +kernel⟩
theorem cn_product : chkN (["one", "other", "here", "there"] : List Str) [some "one", some "other", none, none] (["sum", "zip"] : List Str) (defScope s_product) = true := by decide +kernel
theorem cs_product : chkS (["one", "other", "here", "there"] : List Str) [some "one", some "other", none, none] (defScope s_product) = true := by decide +kernel
theorem fk_product {f : Addr} {fd : FuncData} (Fn : Fun K "product" "product" s_product f fd) (bn_sum : mg "sum" = none) (bn_zip : mg "zip" = none) : FnOk P w K mg base (L2.CX P w) 1 f fd (["one", "other"] : List Str) (spP ⟨K, C⟩ 2 f_product) := by
  refine fn_pure (N := (["one", "other", "here", "there"] : List Str)) (ps := (["one", "other"] : List Str)) (g := g_product) Fn sc_product (fun X W b => ?_)
  obtain ⟨e1, e2, e3, e4, e5, b⟩ : P = X.prog ∧ w = X.w ∧ K = X.K ∧ mg = X.mg ∧ base = X.base ∧ BX X W P w K mg base (["one", "other", "here", "there"] : List Str) (defScope s_product) 0 := ⟨b.prog, b.w, b.K, b.mg, b.base, b⟩
  subst e1 e2 e3 e4 e5
  have Dx := DX.of b.n sc_product.nd b.calm b.sc sc_product.kind b.room.units b.fn cn_product cs_product
  exact (s_cons (s_ret (x_sum Dx 0 (bn_sum) (s_ofN (x_lc Dx (lcx Dx [("here", 2), ("there", 3)] [none, none, some "here", some "there"] [none, none, some "here", some "there"] ([] : List Str) (xi_zip Dx 1 (bn_zip) (x_var Dx 0) (x_var Dx 1)) (by rfl) (by decide +kernel) (by decide +kernel) (by decide +kernel) (fun s H L cl fp D1 => (g_tup (n := 2) D1.calm (gs_cons (x_gname D1 2) (gs_cons (x_gname D1 3) gs_nil)))) (fun s H L cl fp D1 => t_yes) (fun s H L cl fp D1 => (v_mulI (x_var D1 2) (x_var D1 3)))))))) s_nil)
theorem sc_square : FnScope (["one"] : List Str) (["one"] : List Str) (defScope s_square) := ⟨rfl, rfl, rfl, by decide +kernel, rfl, by decide +kernel, by decide +kernel⟩
theorem cn_square : chkN (["one"] : List Str) [some "one"] (["product"] : List Str) (defScope s_square) = true := by decide +kernel
theorem cs_square : chkS (["one"] : List Str) [some "one"] (defScope s_square) = true := by decide +kernel
theorem fk_square {f : Addr} {fd : FuncData} (Fn : Fun K "square" "square" s_square f fd) (H_product : DefOk P w K mg base C "product" 1 (["one", "other"] : List Str) f_product) : FnOk P w K mg base (L2.CX P w) 2 f fd (["one"] : List Str) (spP ⟨K, C⟩ 1 f_square) := by
  refine fn_pure (N := (["one"] : List Str)) (ps := (["one"] : List Str)) (g := g_square) Fn sc_square (fun X W b => ?_)
  obtain ⟨e1, e2, e3, e4, e5, b⟩ : P = X.prog ∧ w = X.w ∧ K = X.K ∧ mg = X.mg ∧ base = X.base ∧ BX X W P w K mg base (["one"] : List Str) (defScope s_square) 1 := ⟨b.prog, b.w, b.K, b.mg, b.base, b⟩
  subst e1 e2 e3 e4 e5
  have Dx := DX.of b.n sc_square.nd b.calm b.sc sc_square.kind b.room.units b.fn cn_square cs_square
  exact (s_cons (s_ret (x_def Dx 0 H_product b.room (by decide) (a_cons (x_var Dx 0) (a_cons (x_var Dx 0) a_nil)) (aCons_len (aCons_len aNil_len)))) s_nil)
theorem sc_eliminated : FnScope (["table", "before", "k", "at", "middle", "i", "here", "one", "other"] : List Str) (["table"] : List Str) (defScope s_eliminated) := ⟨rfl, rfl, rfl, by decide +kernel, rfl, by decide +kernel, by decide +kernel⟩
theorem cn_eliminated : chkN (["table", "before", "k", "at", "middle", "i", "here", "one", "other"] : List Str) [some "table", some "before", some "k", some "at", some "middle", some "i", some "here", none, none] (["range", "len", "zip"] : List Str) (defScope s_eliminated) = true := by decide +kernel
theorem cs_eliminated : chkS (["table", "before", "k", "at", "middle", "i", "here", "one", "other"] : List Str) [some "table", some "before", some "k", some "at", some "middle", some "i", some "here", none, none] (defScope s_eliminated) = true := by decide +kernel
theorem fk_eliminated {f : Addr} {fd : FuncData} (Fn : Fun K "eliminated" "eliminated" s_eliminated f fd) (bn_len : mg "len" = none) (bn_range : mg "range" = none) (bn_zip : mg "zip" = none) : FnOk P w K mg base (L2.CX P w) 1 f fd (["table"] : List Str) (spW ⟨K, C⟩ f_eliminated) := by
  refine fn_own (N := (["table", "before", "k", "at", "middle", "i", "here", "one", "other"] : List Str)) (ps := (["table"] : List Str)) (g := g_eliminated) Fn sc_eliminated rfl (by decide) (fun X W b => ?_)
  obtain ⟨e1, e2, e3, e4, e5, b⟩ : P = X.prog ∧ w = X.w ∧ K = X.K ∧ mg = X.mg ∧ base = X.base ∧ BX X W P w K mg base (["table", "before", "k", "at", "middle", "i", "here", "one", "other"] : List Str) (defScope s_eliminated) 0 := ⟨b.prog, b.w, b.K, b.mg, b.base, b⟩
  subst e1 e2 e3 e4 e5
  have Dx := DX.of b.n sc_eliminated.nd b.calm b.sc sc_eliminated.kind b.room.units b.fn cn_eliminated cs_eliminated
  exact (s_cons (s_set Dx 1 v_int) (s_cons (s_for (vs := [2]) b.own Dx.calm (xi_rng1 Dx 0 (bn_range) (x_len Dx 1 (bn_len) (x_svar Dx 0))) (x_gname Dx 2) (s_cons (s_set Dx 3 (x_var Dx 2)) (s_cons (s_while b.own (xq_eq Dx (v_ix (s_ofV (v_ix (x_svar Dx 0) (x_var Dx 3))) (x_var Dx 2)) v_int) (s_cons (s_aug Dx 3 v_int) s_nil)) (s_cons (s_swapIx Dx 0 (v_ix (x_svar Dx 0) (x_var Dx 3)) (v_ix (x_svar Dx 0) (x_var Dx 2)) (x_var Dx 2) (x_var Dx 3)) (s_cons (s_set Dx 4 (v_ix (x_svar Dx 0) (x_var Dx 2))) (s_cons (s_for (vs := [5]) b.own Dx.calm (xi_rng1 Dx 0 (bn_range) (x_len Dx 1 (bn_len) (x_svar Dx 0))) (x_gname Dx 5) (s_cons (s_if (xq_ne Dx (x_var Dx 5) (x_var Dx 2)) (s_cons (s_set Dx 6 (v_ix (s_ofV (v_ix (x_svar Dx 0) (x_var Dx 5))) (x_var Dx 2))) (s_cons (s_setix Dx 0 (v_ofN (x_lc Dx (lcx Dx [("one", 7), ("other", 8)] [none, some "before", some "k", none, some "middle", none, some "here", some "one", some "other"] [none, none, none, none, none, none, none, some "one", some "other"] ([] : List Str) (xi_zip Dx 2 (bn_zip) (v_ix (x_svar Dx 0) (x_var Dx 5)) (x_var Dx 4)) (by rfl) (by decide +kernel) (by decide +kernel) (by decide +kernel) (fun s H L cl fp D1 => (g_tup (n := 2) D1.calm (gs_cons (x_gname D1 7) (gs_cons (x_gname D1 8) gs_nil)))) (fun s H L cl fp D1 => t_yes) (fun s H L cl fp D1 => (v_div (v_sub (v_mulI (x_var D1 7) (v_ix (x_svar D1 4) (x_var D1 2))) (v_mulI (x_var D1 6) (x_var D1 8))) (x_var D1 1)))))) (x_var Dx 5)) s_nil)) s_nil) s_nil)) (s_cons (s_set Dx 1 (v_ix (x_svar Dx 4) (x_var Dx 2))) s_nil))))))) (s_cons (s_retOwn Dx 0) s_nil)))
theorem sc_flat_tops : FnScope (["vectors", "some", "table", "one", "other", "bottom", "tops", "row", "top"] : List Str) (["vectors", "some"] : List Str) (defScope s_flat_tops) := ⟨rfl, rfl, rfl, by decide +kernel, rfl, by decide +kernel, by decide +kernel⟩
theorem cn_flat_tops : chkN (["vectors", "some", "table", "one", "other", "bottom", "tops", "row", "top"] : List Str) [some "vectors", some "some", some "table", some "one", none, some "bottom", some "tops", none, none] (["eliminated"] : List Str) (defScope s_flat_tops) = true := by decide +kernel
theorem cs_flat_tops : chkS (["vectors", "some", "table", "one", "other", "bottom", "tops", "row", "top"] : List Str) [some "vectors", some "some", some "table", some "one", none, some "bottom", some "tops", none, none] (defScope s_flat_tops) = true := by decide +kernel
theorem fk_flat_tops {f : Addr} {fd : FuncData} (Fn : Fun K "flat_tops" "flat_tops" s_flat_tops f fd) (H_product : DefOk P w K mg base C "product" 1 (["one", "other"] : List Str) f_product) (H_eliminated : DefW P w K mg base C "eliminated" 1 (["table"] : List Str) f_eliminated) : FnOk P w K mg base (L2.CX P w) 2 f fd (["vectors", "some"] : List Str) (spP ⟨K, C⟩ 2 f_flat_tops) := by
  refine fn_pure (N := (["vectors", "some", "table", "one", "other", "bottom", "tops", "row", "top"] : List Str)) (ps := (["vectors", "some"] : List Str)) (g := g_flat_tops) Fn sc_flat_tops (fun X W b => ?_)
  obtain ⟨e1, e2, e3, e4, e5, b⟩ : P = X.prog ∧ w = X.w ∧ K = X.K ∧ mg = X.mg ∧ base = X.base ∧ BX X W P w K mg base (["vectors", "some", "table", "one", "other", "bottom", "tops", "row", "top"] : List Str) (defScope s_flat_tops) 1 := ⟨b.prog, b.w, b.K, b.mg, b.base, b⟩
  subst e1 e2 e3 e4 e5
  have Dx := DX.of b.n sc_flat_tops.nd b.calm b.sc sc_flat_tops.kind b.room.units b.fn cn_flat_tops cs_flat_tops
  exact (s_cons (s_setO Dx 2 (n_lst (a_cons (v_ofN (n_cat (s_ofN (n_cat (s_ofN (n_lst (a_cons v_int a_nil))) (s_ofN (x_lc Dx (lcx Dx [("one", 3)] [none, none, none, some "one", none, none, none, none, none] [none, none, none, some "one", none, none, none, none, none] ([] : List Str) (i_seq (x_var Dx 1)) (by rfl) (by decide +kernel) (by decide +kernel) (by decide +kernel) (fun s H L cl fp D1 => (x_gname D1 3)) (fun s H L cl fp D1 => t_yes) (fun s H L cl fp D1 => v_int)))))) (s_ofN (n_lst (a_cons v_int a_nil))))) a_nil))) (s_cons (s_for (vs := [3]) b.own Dx.calm (i_seq (x_var Dx 1)) (x_gname Dx 3) (s_cons (s_app Dx 2 (v_ofN (n_cat (s_ofN (n_cat (s_ofN (n_lst (a_cons v_int a_nil))) (s_ofN (x_lc Dx (lcx Dx [("other", 4)] [some "vectors", none, none, some "one", some "other", none, none, none, none] [none, none, none, none, some "other", none, none, none, none] (["product"] : List Str) (i_seq (x_var Dx 1)) (by rfl) (by decide +kernel) (by decide +kernel) (by decide +kernel) (fun s H L cl fp D1 => (x_gname D1 4)) (fun s H L cl fp D1 => t_yes) (fun s H L cl fp D1 => (x_def D1 0 H_product b.room (by decide) (a_cons (v_ix (x_svar D1 0) (x_var D1 3)) (a_cons (v_ix (x_svar D1 0) (x_var D1 4)) a_nil)) (aCons_len (aCons_len aNil_len))))))))) (s_ofN (n_lst (a_cons v_int a_nil)))))) s_nil)) (s_cons (s_setW Dx 2 0 H_eliminated b.room (by decide)) (s_cons (s_set Dx 5 (v_ix (s_ofV (v_ix (x_svar Dx 2) v_int)) v_int)) (s_cons (xs_lc Dx b.sc 6 (lcx Dx [("row", 7)] [none, none, none, none, none, none, none, some "row", none] [none, none, none, none, none, none, none, some "row", none] ([] : List Str) (i_seq (v_slice (x_svar Dx 2) (o_some v_int) o_none)) (by rfl) (by decide +kernel) (by decide +kernel) (by decide +kernel) (fun s H L cl fp D1 => (x_gname D1 7)) (fun s H L cl fp D1 => t_yes) (fun s H L cl fp D1 => (v_ix (x_svar D1 7) (v_neg v_int)))) (by decide +kernel)) (s_cons (s_if (q_lt (x_var Dx 5) v_int) (s_cons (s_ret (v_tup (a_cons (v_ofN (x_lc Dx (lcx Dx [("top", 8)] [none, none, none, none, none, none, none, none, some "top"] [none, none, none, none, none, none, none, none, some "top"] ([] : List Str) (i_seq (x_var Dx 6)) (by rfl) (by decide +kernel) (by decide +kernel) (by decide +kernel) (fun s H L cl fp D1 => (x_gname D1 8)) (fun s H L cl fp D1 => t_yes) (fun s H L cl fp D1 => (v_sub v_int (x_var D1 8)))))) (a_cons (v_sub v_int (x_var Dx 5)) a_nil)))) s_nil) s_nil) (s_cons (s_ret (v_tup (a_cons (x_var Dx 6) (a_cons (x_var Dx 5) a_nil)))) s_nil)))))))
theorem sc_lowest_terms : FnScope (["tops", "bottom", "factor", "top"] : List Str) (["tops", "bottom"] : List Str) (defScope s_lowest_terms) := ⟨rfl, rfl, rfl, by decide +kernel, rfl, by decide +kernel, by decide +kernel⟩
theorem cn_lowest_terms : chkN (["tops", "bottom", "factor", "top"] : List Str) [some "tops", some "bottom", some "factor", some "top"] (["shared_factor"] : List Str) (defScope s_lowest_terms) = true := by decide +kernel
theorem cs_lowest_terms : chkS (["tops", "bottom", "factor", "top"] : List Str) [some "tops", some "bottom", some "factor", some "top"] (defScope s_lowest_terms) = true := by decide +kernel
theorem fk_lowest_terms {f : Addr} {fd : FuncData} (Fn : Fun K "lowest_terms" "lowest_terms" s_lowest_terms f fd) (H_shared_factor : DefOk P w K mg base C "shared_factor" 1 (["one", "other"] : List Str) f_shared_factor) : FnOk P w K mg base (L2.CX P w) 2 f fd (["tops", "bottom"] : List Str) (spP ⟨K, C⟩ 2 f_lowest_terms) := by
  refine fn_pure (N := (["tops", "bottom", "factor", "top"] : List Str)) (ps := (["tops", "bottom"] : List Str)) (g := g_lowest_terms) Fn sc_lowest_terms (fun X W b => ?_)
  obtain ⟨e1, e2, e3, e4, e5, b⟩ : P = X.prog ∧ w = X.w ∧ K = X.K ∧ mg = X.mg ∧ base = X.base ∧ BX X W P w K mg base (["tops", "bottom", "factor", "top"] : List Str) (defScope s_lowest_terms) 1 := ⟨b.prog, b.w, b.K, b.mg, b.base, b⟩
  subst e1 e2 e3 e4 e5
  have Dx := DX.of b.n sc_lowest_terms.nd b.calm b.sc sc_lowest_terms.kind b.room.units b.fn cn_lowest_terms cs_lowest_terms
  exact (s_cons (s_set Dx 2 (x_var Dx 1)) (s_cons (s_for (vs := [3]) b.own Dx.calm (i_seq (x_var Dx 0)) (x_gname Dx 3) (s_cons (s_set Dx 2 (x_def Dx 0 H_shared_factor b.room (by decide) (a_cons (x_var Dx 2) (a_cons (x_var Dx 3) a_nil)) (aCons_len (aCons_len aNil_len)))) s_nil)) (s_cons (s_ret (v_tup (a_cons (v_ofN (x_lc Dx (lcx Dx [("top", 3)] [none, none, some "factor", some "top"] [none, none, none, some "top"] ([] : List Str) (i_seq (x_var Dx 0)) (by rfl) (by decide +kernel) (by decide +kernel) (by decide +kernel) (fun s H L cl fp D1 => (x_gname D1 3)) (fun s H L cl fp D1 => t_yes) (fun s H L cl fp D1 => (v_div (x_var D1 3) (x_var D1 2)))))) (a_cons (v_div (x_var Dx 1) (x_var Dx 2)) a_nil)))) s_nil)))
theorem sc_first_left : FnScope (["tops", "bottom", "flat", "under", "best", "top", "aim", "go", "way"] : List Str) (["tops", "bottom", "flat", "under"] : List Str) (defScope s_first_left) := ⟨rfl, rfl, rfl, by decide +kernel, rfl, by decide +kernel, by decide +kernel⟩
theorem cn_first_left : chkN (["tops", "bottom", "flat", "under", "best", "top", "aim", "go", "way"] : List Str) [some "tops", some "bottom", some "flat", some "under", some "best", some "top", some "aim", some "go", some "way"] (["zip"] : List Str) (defScope s_first_left) = true := by decide +kernel
theorem cs_first_left : chkS (["tops", "bottom", "flat", "under", "best", "top", "aim", "go", "way"] : List Str) [some "tops", some "bottom", some "flat", some "under", some "best", some "top", some "aim", some "go", some "way"] (defScope s_first_left) = true := by decide +kernel
theorem fk_first_left {f : Addr} {fd : FuncData} (Fn : Fun K "first_left" "first_left" s_first_left f fd) (bn_zip : mg "zip" = none) : FnOk P w K mg base (L2.CX P w) 1 f fd (["tops", "bottom", "flat", "under"] : List Str) (spP ⟨K, C⟩ 4 f_first_left) := by
  refine fn_pure (N := (["tops", "bottom", "flat", "under", "best", "top", "aim", "go", "way"] : List Str)) (ps := (["tops", "bottom", "flat", "under"] : List Str)) (g := g_first_left) Fn sc_first_left (fun X W b => ?_)
  obtain ⟨e1, e2, e3, e4, e5, b⟩ : P = X.prog ∧ w = X.w ∧ K = X.K ∧ mg = X.mg ∧ base = X.base ∧ BX X W P w K mg base (["tops", "bottom", "flat", "under", "best", "top", "aim", "go", "way"] : List Str) (defScope s_first_left) 0 := ⟨b.prog, b.w, b.K, b.mg, b.base, b⟩
  subst e1 e2 e3 e4 e5
  have Dx := DX.of b.n sc_first_left.nd b.calm b.sc sc_first_left.kind b.room.units b.fn cn_first_left cs_first_left
  exact (s_cons (s_set Dx 4 (v_tup (a_cons v_int (a_cons v_int a_nil)))) (s_cons (s_for (vs := [5, 6]) b.own Dx.calm (xi_zip Dx 0 (bn_zip) (x_var Dx 0) (x_var Dx 2)) (g_tup (n := 2) Dx.calm (gs_cons (x_gname Dx 5) (gs_cons (x_gname Dx 6) gs_nil))) (s_cons (s_if (q_lt (x_var Dx 6) v_int) (s_cons (s_set Dx 7 (v_mulI (x_var Dx 5) (x_var Dx 3))) (s_cons (s_set Dx 8 (v_sub (x_var Dx 7) (v_mulI (x_var Dx 6) (x_var Dx 1)))) (s_cons (s_if (q_lt (v_mulI (x_var Dx 7) (v_ix (x_svar Dx 4) v_int)) (v_mulI (v_ix (x_svar Dx 4) v_int) (x_var Dx 8))) (s_cons (s_set Dx 4 (v_tup (a_cons (x_var Dx 7) (a_cons (x_var Dx 8) a_nil)))) s_nil) s_nil) s_nil))) s_nil) s_nil)) (s_cons (s_ret (x_var Dx 4)) s_nil)))
theorem sc_brought_in : FnScope (["vectors", "some", "tops", "bottom", "flat", "under", "go", "way", "mixed", "top", "aim", "kept", "k"] : List Str) (["vectors", "some", "tops", "bottom"] : List Str) (defScope s_brought_in) := ⟨rfl, rfl, rfl, by decide +kernel, rfl, by decide +kernel, by decide +kernel⟩
theorem cn_brought_in : chkN (["vectors", "some", "tops", "bottom", "flat", "under", "go", "way", "mixed", "top", "aim", "kept", "k"] : List Str) [some "vectors", some "some", some "tops", some "bottom", some "flat", some "under", some "go", some "way", some "mixed", none, none, some "kept", none] (["flat_tops", "min", "first_left", "zip", "range", "len", "lowest_terms"] : List Str) (defScope s_brought_in) = true := by decide +kernel
theorem cs_brought_in : chkS (["vectors", "some", "tops", "bottom", "flat", "under", "go", "way", "mixed", "top", "aim", "kept", "k"] : List Str) [some "vectors", some "some", some "tops", some "bottom", some "flat", some "under", some "go", some "way", some "mixed", none, none, some "kept", none] (defScope s_brought_in) = true := by decide +kernel
theorem fk_brought_in {f : Addr} {fd : FuncData} (Fn : Fun K "brought_in" "brought_in" s_brought_in f fd) (H_flat_tops : DefOk P w K mg base C "flat_tops" 2 (["vectors", "some"] : List Str) f_flat_tops) (H_lowest_terms : DefOk P w K mg base C "lowest_terms" 2 (["tops", "bottom"] : List Str) f_lowest_terms) (H_first_left : DefOk P w K mg base C "first_left" 1 (["tops", "bottom", "flat", "under"] : List Str) f_first_left) (bn_len : mg "len" = none) (bn_min : mg "min" = none) (bn_range : mg "range" = none) (bn_zip : mg "zip" = none) : FnOk P w K mg base (L2.CX P w) 3 f fd (["vectors", "some", "tops", "bottom"] : List Str) (spP ⟨K, C⟩ 4 f_brought_in) := by
  refine fn_pure (N := (["vectors", "some", "tops", "bottom", "flat", "under", "go", "way", "mixed", "top", "aim", "kept", "k"] : List Str)) (ps := (["vectors", "some", "tops", "bottom"] : List Str)) (g := g_brought_in) Fn sc_brought_in (fun X W b => ?_)
  obtain ⟨e1, e2, e3, e4, e5, b⟩ : P = X.prog ∧ w = X.w ∧ K = X.K ∧ mg = X.mg ∧ base = X.base ∧ BX X W P w K mg base (["vectors", "some", "tops", "bottom", "flat", "under", "go", "way", "mixed", "top", "aim", "kept", "k"] : List Str) (defScope s_brought_in) 2 := ⟨b.prog, b.w, b.K, b.mg, b.base, b⟩
  subst e1 e2 e3 e4 e5
  have Dx := DX.of b.n sc_brought_in.nd b.calm b.sc sc_brought_in.kind b.room.units b.fn cn_brought_in cs_brought_in
  exact (s_cons (s_asg (vs := [4, 5]) (x_def Dx 0 H_flat_tops b.room (by decide) (a_cons (x_var Dx 0) (a_cons (x_var Dx 1) a_nil)) (aCons_len (aCons_len aNil_len))) (g_tup (n := 2) Dx.calm (gs_cons (x_gname Dx 4) (gs_cons (x_gname Dx 5) gs_nil)))) (s_cons (s_while b.own (q_lt (x_min Dx 1 (bn_min) (x_svar Dx 4)) v_int) (s_cons (s_asg (vs := [6, 7]) (x_def Dx 2 H_first_left b.room (by decide) (a_cons (x_var Dx 2) (a_cons (x_var Dx 3) (a_cons (x_var Dx 4) (a_cons (x_var Dx 5) a_nil)))) (aCons_len (aCons_len (aCons_len (aCons_len aNil_len))))) (g_tup (n := 2) Dx.calm (gs_cons (x_gname Dx 6) (gs_cons (x_gname Dx 7) gs_nil)))) (s_cons (xs_lc Dx b.sc 8 (lcx Dx [("top", 9), ("aim", 10)] [none, none, none, some "bottom", none, some "under", some "go", some "way", none, some "top", some "aim", none, none] [none, none, none, none, none, none, none, none, none, some "top", some "aim", none, none] ([] : List Str) (xi_zip Dx 3 (bn_zip) (x_var Dx 2) (x_var Dx 4)) (by rfl) (by decide +kernel) (by decide +kernel) (by decide +kernel) (fun s H L cl fp D1 => (g_tup (n := 2) D1.calm (gs_cons (x_gname D1 9) (gs_cons (x_gname D1 10) gs_nil)))) (fun s H L cl fp D1 => t_yes) (fun s H L cl fp D1 => (v_add (v_mulI (v_mulI (x_var D1 9) (x_var D1 5)) (v_sub (x_var D1 7) (x_var D1 6))) (v_mulI (v_mulI (x_var D1 10) (x_var D1 3)) (x_var D1 6))))) (by decide +kernel)) (s_cons (xs_lc Dx b.sc 11 (lcx Dx [("k", 12)] [none, none, none, none, none, none, none, none, some "mixed", none, none, none, some "k"] [none, none, none, none, none, none, none, none, none, none, none, none, some "k"] ([] : List Str) (xi_rng1 Dx 4 (bn_range) (x_len Dx 5 (bn_len) (x_svar Dx 1))) (by rfl) (by decide +kernel) (by decide +kernel) (by decide +kernel) (fun s H L cl fp D1 => (x_gname D1 12)) (fun s H L cl fp D1 => (t_one (q_gt (v_ix (x_svar D1 8) (x_var D1 12)) v_int))) (fun s H L cl fp D1 => (x_var D1 12))) (by decide +kernel)) (s_cons (xs_lc Dx b.sc 1 (lcx Dx [("k", 12)] [none, some "some", none, none, none, none, none, none, none, none, none, none, some "k"] [none, none, none, none, none, none, none, none, none, none, none, none, some "k"] ([] : List Str) (i_seq (x_var Dx 11)) (by rfl) (by decide +kernel) (by decide +kernel) (by decide +kernel) (fun s H L cl fp D1 => (x_gname D1 12)) (fun s H L cl fp D1 => t_yes) (fun s H L cl fp D1 => (v_ix (x_svar D1 1) (x_var D1 12)))) (by decide +kernel)) (s_cons (s_asg (vs := [2, 3]) (x_def Dx 6 H_lowest_terms b.room (by decide) (a_cons (v_ofN (x_lc Dx (lcx Dx [("k", 12)] [none, none, none, none, none, none, none, none, some "mixed", none, none, none, some "k"] [none, none, none, none, none, none, none, none, none, none, none, none, some "k"] ([] : List Str) (i_seq (x_var Dx 11)) (by rfl) (by decide +kernel) (by decide +kernel) (by decide +kernel) (fun s H L cl fp D1 => (x_gname D1 12)) (fun s H L cl fp D1 => t_yes) (fun s H L cl fp D1 => (v_ix (x_svar D1 8) (x_var D1 12)))))) (a_cons (v_mulI (v_mulI (x_var Dx 3) (x_var Dx 5)) (x_var Dx 7)) a_nil)) (aCons_len (aCons_len aNil_len))) (g_tup (n := 2) Dx.calm (gs_cons (x_gname Dx 2) (gs_cons (x_gname Dx 3) gs_nil)))) (s_cons (s_asg (vs := [4, 5]) (x_def Dx 0 H_flat_tops b.room (by decide) (a_cons (x_var Dx 0) (a_cons (x_var Dx 1) a_nil)) (aCons_len (aCons_len aNil_len))) (g_tup (n := 2) Dx.calm (gs_cons (x_gname Dx 4) (gs_cons (x_gname Dx 5) gs_nil)))) s_nil))))))) (s_cons (xs_lc Dx b.sc 11 (lcx Dx [("k", 12)] [none, none, none, none, some "flat", none, none, none, none, none, none, none, some "k"] [none, none, none, none, none, none, none, none, none, none, none, none, some "k"] ([] : List Str) (xi_rng1 Dx 4 (bn_range) (x_len Dx 5 (bn_len) (x_svar Dx 1))) (by rfl) (by decide +kernel) (by decide +kernel) (by decide +kernel) (fun s H L cl fp D1 => (x_gname D1 12)) (fun s H L cl fp D1 => (t_one (q_gt (v_ix (x_svar D1 4) (x_var D1 12)) v_int))) (fun s H L cl fp D1 => (x_var D1 12))) (by decide +kernel)) (s_cons (s_asg (vs := [2, 3]) (x_def Dx 6 H_lowest_terms b.room (by decide) (a_cons (v_ofN (x_lc Dx (lcx Dx [("k", 12)] [none, none, none, none, some "flat", none, none, none, none, none, none, none, some "k"] [none, none, none, none, none, none, none, none, none, none, none, none, some "k"] ([] : List Str) (i_seq (x_var Dx 11)) (by rfl) (by decide +kernel) (by decide +kernel) (by decide +kernel) (fun s H L cl fp D1 => (x_gname D1 12)) (fun s H L cl fp D1 => t_yes) (fun s H L cl fp D1 => (v_ix (x_svar D1 4) (x_var D1 12)))))) (a_cons (x_var Dx 5) a_nil)) (aCons_len (aCons_len aNil_len))) (g_tup (n := 2) Dx.calm (gs_cons (x_gname Dx 2) (gs_cons (x_gname Dx 3) gs_nil)))) (s_cons (s_ret (v_tup (a_cons (v_ofN (x_lc Dx (lcx Dx [("k", 12)] [none, some "some", none, none, none, none, none, none, none, none, none, none, some "k"] [none, none, none, none, none, none, none, none, none, none, none, none, some "k"] ([] : List Str) (i_seq (x_var Dx 11)) (by rfl) (by decide +kernel) (by decide +kernel) (by decide +kernel) (fun s H L cl fp D1 => (x_gname D1 12)) (fun s H L cl fp D1 => t_yes) (fun s H L cl fp D1 => (v_ix (x_svar D1 1) (x_var D1 12)))))) (a_cons (x_var Dx 2) (a_cons (x_var Dx 3) a_nil))))) s_nil)))))
theorem sc_summed : FnScope (["vectors", "some", "tops", "total", "number", "one", "top", "here"] : List Str) (["vectors", "some", "tops"] : List Str) (defScope s_summed) := ⟨rfl, rfl, rfl, by decide +kernel, rfl, by decide +kernel, by decide +kernel⟩
theorem cn_summed : chkN (["vectors", "some", "tops", "total", "number", "one", "top", "here"] : List Str) [some "vectors", some "some", some "tops", some "total", none, some "one", some "top", none] (["zip"] : List Str) (defScope s_summed) = true := by decide +kernel
theorem cs_summed : chkS (["vectors", "some", "tops", "total", "number", "one", "top", "here"] : List Str) [some "vectors", some "some", some "tops", some "total", none, some "one", some "top", none] (defScope s_summed) = true := by decide +kernel
theorem fk_summed {f : Addr} {fd : FuncData} (Fn : Fun K "summed" "summed" s_summed f fd) (bn_zip : mg "zip" = none) : FnOk P w K mg base (L2.CX P w) 1 f fd (["vectors", "some", "tops"] : List Str) (spP ⟨K, C⟩ 3 f_summed) := by
  refine fn_pure (N := (["vectors", "some", "tops", "total", "number", "one", "top", "here"] : List Str)) (ps := (["vectors", "some", "tops"] : List Str)) (g := g_summed) Fn sc_summed (fun X W b => ?_)
  obtain ⟨e1, e2, e3, e4, e5, b⟩ : P = X.prog ∧ w = X.w ∧ K = X.K ∧ mg = X.mg ∧ base = X.base ∧ BX X W P w K mg base (["vectors", "some", "tops", "total", "number", "one", "top", "here"] : List Str) (defScope s_summed) 0 := ⟨b.prog, b.w, b.K, b.mg, b.base, b⟩
  subst e1 e2 e3 e4 e5
  have Dx := DX.of b.n sc_summed.nd b.calm b.sc sc_summed.kind b.room.units b.fn cn_summed cs_summed
  exact (s_cons (xs_lc Dx b.sc 3 (lcx Dx [("number", 4)] [none, none, none, none, some "number", none, none, none] [none, none, none, none, some "number", none, none, none] ([] : List Str) (i_seq (v_ix (x_svar Dx 0) v_int)) (by rfl) (by decide +kernel) (by decide +kernel) (by decide +kernel) (fun s H L cl fp D1 => (x_gname D1 4)) (fun s H L cl fp D1 => t_yes) (fun s H L cl fp D1 => v_int)) (by decide +kernel)) (s_cons (s_for (vs := [5, 6]) b.own Dx.calm (xi_zip Dx 0 (bn_zip) (x_var Dx 1) (x_var Dx 2)) (g_tup (n := 2) Dx.calm (gs_cons (x_gname Dx 5) (gs_cons (x_gname Dx 6) gs_nil))) (s_cons (xs_lc Dx b.sc 3 (lcx Dx [("here", 7), ("number", 4)] [none, none, none, none, some "number", none, some "top", some "here"] [none, none, none, none, some "number", none, none, some "here"] ([] : List Str) (xi_zip Dx 0 (bn_zip) (x_var Dx 3) (v_ix (x_svar Dx 0) (x_var Dx 5))) (by rfl) (by decide +kernel) (by decide +kernel) (by decide +kernel) (fun s H L cl fp D1 => (g_tup (n := 2) D1.calm (gs_cons (x_gname D1 7) (gs_cons (x_gname D1 4) gs_nil)))) (fun s H L cl fp D1 => t_yes) (fun s H L cl fp D1 => (v_add (x_var D1 7) (v_mulI (x_var D1 6) (x_var D1 4))))) (by decide +kernel)) s_nil)) (s_cons (s_ret (x_var Dx 3)) s_nil)))
theorem sc_least_at : FnScope (["vectors", "mixed", "best", "number", "vector"] : List Str) (["vectors", "mixed"] : List Str) (defScope s_least_at) := ⟨rfl, rfl, rfl, by decide +kernel, rfl, by decide +kernel, by decide +kernel⟩
theorem cn_least_at : chkN (["vectors", "mixed", "best", "number", "vector"] : List Str) [some "vectors", some "mixed", some "best", some "number", some "vector"] (["enumerate", "product"] : List Str) (defScope s_least_at) = true := by decide +kernel
theorem cs_least_at : chkS (["vectors", "mixed", "best", "number", "vector"] : List Str) [some "vectors", some "mixed", some "best", some "number", some "vector"] (defScope s_least_at) = true := by decide +kernel
theorem fk_least_at {f : Addr} {fd : FuncData} (Fn : Fun K "least_at" "least_at" s_least_at f fd) (H_product : DefOk P w K mg base C "product" 1 (["one", "other"] : List Str) f_product) (bn_enumerate : mg "enumerate" = none) : FnOk P w K mg base (L2.CX P w) 2 f fd (["vectors", "mixed"] : List Str) (spP ⟨K, C⟩ 2 f_least_at) := by
  refine fn_pure (N := (["vectors", "mixed", "best", "number", "vector"] : List Str)) (ps := (["vectors", "mixed"] : List Str)) (g := g_least_at) Fn sc_least_at (fun X W b => ?_)
  obtain ⟨e1, e2, e3, e4, e5, b⟩ : P = X.prog ∧ w = X.w ∧ K = X.K ∧ mg = X.mg ∧ base = X.base ∧ BX X W P w K mg base (["vectors", "mixed", "best", "number", "vector"] : List Str) (defScope s_least_at) 1 := ⟨b.prog, b.w, b.K, b.mg, b.base, b⟩
  subst e1 e2 e3 e4 e5
  have Dx := DX.of b.n sc_least_at.nd b.calm b.sc sc_least_at.kind b.room.units b.fn cn_least_at cs_least_at
  exact (s_cons (s_set Dx 2 v_int) (s_cons (s_for (vs := [3, 4]) b.own Dx.calm (xi_enum Dx 0 (bn_enumerate) (x_var Dx 0)) (g_tup (n := 2) Dx.calm (gs_cons (x_gname Dx 3) (gs_cons (x_gname Dx 4) gs_nil))) (s_cons (s_if (q_lt (x_def Dx 1 H_product b.room (by decide) (a_cons (x_var Dx 1) (a_cons (x_var Dx 4) a_nil)) (aCons_len (aCons_len aNil_len))) (x_def Dx 1 H_product b.room (by decide) (a_cons (x_var Dx 1) (a_cons (v_ix (x_svar Dx 0) (x_var Dx 2)) a_nil)) (aCons_len (aCons_len aNil_len)))) (s_cons (s_set Dx 2 (x_var Dx 3)) s_nil) s_nil) s_nil)) (s_cons (s_ret (x_var Dx 2)) s_nil)))
theorem sc_nearest_shares : FnScope (["vectors", "squares", "vector", "some", "tops", "bottom", "mixed", "at", "shares", "one", "top"] : List Str) (["vectors"] : List Str) (defScope s_nearest_shares) := ⟨rfl, rfl, rfl, by decide +kernel, rfl, by decide +kernel, by decide +kernel⟩
theorem cn_nearest_shares : chkN (["vectors", "squares", "vector", "some", "tops", "bottom", "mixed", "at", "shares", "one", "top"] : List Str) [some "vectors", some "squares", none, some "some", some "tops", some "bottom", some "mixed", some "at", some "shares", some "one", some "top"] (["min", "summed", "least_at", "product", "square", "brought_in", "zip", "part"] : List Str) (defScope s_nearest_shares) = true := by decide +kernel
theorem cs_nearest_shares : chkS (["vectors", "squares", "vector", "some", "tops", "bottom", "mixed", "at", "shares", "one", "top"] : List Str) [some "vectors", some "squares", none, some "some", some "tops", some "bottom", some "mixed", some "at", some "shares", some "one", some "top"] (defScope s_nearest_shares) = true := by decide +kernel
theorem fk_nearest_shares {f : Addr} {fd : FuncData} (Fn : Fun K "nearest_shares" "nearest_shares" s_nearest_shares f fd) (H_part : DefOk P w K mg base C "part" 2 (["top", "bottom"] : List Str) f_part) (H_product : DefOk P w K mg base C "product" 1 (["one", "other"] : List Str) f_product) (H_square : DefOk P w K mg base C "square" 2 (["one"] : List Str) f_square) (H_brought_in : DefOk P w K mg base C "brought_in" 3 (["vectors", "some", "tops", "bottom"] : List Str) f_brought_in) (H_summed : DefOk P w K mg base C "summed" 1 (["vectors", "some", "tops"] : List Str) f_summed) (H_least_at : DefOk P w K mg base C "least_at" 2 (["vectors", "mixed"] : List Str) f_least_at) (bn_min : mg "min" = none) (bn_zip : mg "zip" = none) : FnOk P w K mg base (L2.CX P w) 4 f fd (["vectors"] : List Str) (spP ⟨K, C⟩ 1 f_nearest_shares) := by
  refine fn_pure (N := (["vectors", "squares", "vector", "some", "tops", "bottom", "mixed", "at", "shares", "one", "top"] : List Str)) (ps := (["vectors"] : List Str)) (g := g_nearest_shares) Fn sc_nearest_shares (fun X W b => ?_)
  obtain ⟨e1, e2, e3, e4, e5, b⟩ : P = X.prog ∧ w = X.w ∧ K = X.K ∧ mg = X.mg ∧ base = X.base ∧ BX X W P w K mg base (["vectors", "squares", "vector", "some", "tops", "bottom", "mixed", "at", "shares", "one", "top"] : List Str) (defScope s_nearest_shares) 3 := ⟨b.prog, b.w, b.K, b.mg, b.base, b⟩
  subst e1 e2 e3 e4 e5
  have Dx := DX.of b.n sc_nearest_shares.nd b.calm b.sc sc_nearest_shares.kind b.room.units b.fn cn_nearest_shares cs_nearest_shares
  exact (s_cons (xs_lc Dx b.sc 1 (lcx Dx [("vector", 2)] [none, none, some "vector", none, none, none, none, none, none, none, none] [none, none, some "vector", none, none, none, none, none, none, none, none] (["square"] : List Str) (i_seq (x_var Dx 0)) (by rfl) (by decide +kernel) (by decide +kernel) (by decide +kernel) (fun s H L cl fp D1 => (x_gname D1 2)) (fun s H L cl fp D1 => t_yes) (fun s H L cl fp D1 => (x_def D1 0 H_square b.room (by decide) (a_cons (x_var D1 2) a_nil) (aCons_len aNil_len)))) (by decide +kernel)) (s_cons (s_par3 Dx b.sc 3 4 5 (v_ofN (n_lst (a_cons (v_index (x_svar Dx 1) (x_min Dx 0 (bn_min) (x_svar Dx 1))) a_nil))) (v_ofN (n_lst (a_cons v_int a_nil))) v_int (by decide) (by decide) (by decide) (by decide +kernel)) (s_cons (s_set Dx 6 (x_def Dx 1 H_summed b.room (by decide) (a_cons (x_var Dx 0) (a_cons (x_var Dx 3) (a_cons (x_var Dx 4) a_nil))) (aCons_len (aCons_len (aCons_len aNil_len))))) (s_cons (s_set Dx 7 (x_def Dx 2 H_least_at b.room (by decide) (a_cons (x_var Dx 0) (a_cons (x_var Dx 6) a_nil)) (aCons_len (aCons_len aNil_len)))) (s_cons (s_while b.own (q_lt (v_mulI (x_var Dx 5) (x_def Dx 3 H_product b.room (by decide) (a_cons (x_var Dx 6) (a_cons (v_ix (x_svar Dx 0) (x_var Dx 7)) a_nil)) (aCons_len (aCons_len aNil_len)))) (x_def Dx 4 H_square b.room (by decide) (a_cons (x_var Dx 6) a_nil) (aCons_len aNil_len))) (s_cons (s_asg (vs := [3, 4, 5]) (x_def Dx 5 H_brought_in b.room (by decide) (a_cons (x_var Dx 0) (a_cons (v_ofN (n_cat (x_svar Dx 3) (s_ofN (n_lst (a_cons (x_var Dx 7) a_nil))))) (a_cons (v_ofN (n_cat (x_svar Dx 4) (s_ofN (n_lst (a_cons v_int a_nil))))) (a_cons (x_var Dx 5) a_nil)))) (aCons_len (aCons_len (aCons_len (aCons_len aNil_len))))) (g_tup (n := 3) Dx.calm (gs_cons (x_gname Dx 3) (gs_cons (x_gname Dx 4) (gs_cons (x_gname Dx 5) gs_nil))))) (s_cons (s_set Dx 6 (x_def Dx 1 H_summed b.room (by decide) (a_cons (x_var Dx 0) (a_cons (x_var Dx 3) (a_cons (x_var Dx 4) a_nil))) (aCons_len (aCons_len (aCons_len aNil_len))))) (s_cons (s_set Dx 7 (x_def Dx 2 H_least_at b.room (by decide) (a_cons (x_var Dx 0) (a_cons (x_var Dx 6) a_nil)) (aCons_len (aCons_len aNil_len)))) s_nil)))) (s_cons (xs_lcO Dx b.sc 8 (lcx Dx [("vector", 2)] [none, none, some "vector", none, none, none, none, none, none, none, none] [none, none, some "vector", none, none, none, none, none, none, none, none] ([] : List Str) (i_seq (x_var Dx 0)) (by rfl) (by decide +kernel) (by decide +kernel) (by decide +kernel) (fun s H L cl fp D1 => (x_gname D1 2)) (fun s H L cl fp D1 => t_yes) (fun s H L cl fp D1 => (v_tup (a_cons v_int (a_cons v_int a_nil))))) (by decide +kernel)) (s_cons (s_for (vs := [9, 10]) b.own Dx.calm (xi_zip Dx 6 (bn_zip) (x_var Dx 3) (x_var Dx 4)) (g_tup (n := 2) Dx.calm (gs_cons (x_gname Dx 9) (gs_cons (x_gname Dx 10) gs_nil))) (s_cons (s_setix Dx 8 (x_def Dx 7 H_part b.room (by decide) (a_cons (x_var Dx 10) (a_cons (x_var Dx 5) a_nil)) (aCons_len (aCons_len aNil_len))) (x_var Dx 9)) s_nil)) (s_cons (s_retOwn Dx 8) s_nil))))))))
theorem sc_law_cell_at : FnScope (["_law_script", "_law_k"] : List Str) (["_law_script", "_law_k"] : List Str) (defScope s_law_cell_at) := ⟨rfl, rfl, rfl, by decide +kernel, rfl, by decide +kernel, by decide +kernel⟩
theorem cn_law_cell_at : chkN (["_law_script", "_law_k"] : List Str) [some "_law_script", some "_law_k"] (["len"] : List Str) (defScope s_law_cell_at) = true := by decide +kernel
theorem cs_law_cell_at : chkS (["_law_script", "_law_k"] : List Str) [some "_law_script", some "_law_k"] (defScope s_law_cell_at) = true := by decide +kernel
theorem fk_law_cell_at {f : Addr} {fd : FuncData} (Fn : Fun K "_law_cell_at" "_law_cell_at" s_law_cell_at f fd) (bn_len : mg "len" = none) : FnOk P w K mg base (L2.CX P w) 1 f fd (["_law_script", "_law_k"] : List Str) (spP ⟨K, C⟩ 2 f_law_cell_at) := by
  refine fn_pure (N := (["_law_script", "_law_k"] : List Str)) (ps := (["_law_script", "_law_k"] : List Str)) (g := g_law_cell_at) Fn sc_law_cell_at (fun X W b => ?_)
  obtain ⟨e1, e2, e3, e4, e5, b⟩ : P = X.prog ∧ w = X.w ∧ K = X.K ∧ mg = X.mg ∧ base = X.base ∧ BX X W P w K mg base (["_law_script", "_law_k"] : List Str) (defScope s_law_cell_at) 0 := ⟨b.prog, b.w, b.K, b.mg, b.base, b⟩
  subst e1 e2 e3 e4 e5
  have Dx := DX.of b.n sc_law_cell_at.nd b.calm b.sc sc_law_cell_at.kind b.room.units b.fn cn_law_cell_at cs_law_cell_at
  exact (s_cons (s_if (q_lt (x_var Dx 1) (x_len Dx 0 (bn_len) (x_svar Dx 0))) (s_cons (s_ret (v_ix (x_svar Dx 0) (x_var Dx 1))) s_nil) s_nil) (s_cons (s_ret v_int) s_nil))
theorem sc_law_mixed : FnScope (["_law_cell", "_law_k", "_law_number"] : List Str) (["_law_cell", "_law_k"] : List Str) (defScope s_law_mixed) := ⟨rfl, rfl, rfl, by decide +kernel, rfl, by decide +kernel, by decide +kernel⟩
theorem cn_law_mixed : chkN (["_law_cell", "_law_k", "_law_number"] : List Str) [some "_law_cell", some "_law_k", some "_law_number"] ([] : List Str) (defScope s_law_mixed) = true := by decide +kernel
theorem cs_law_mixed : chkS (["_law_cell", "_law_k", "_law_number"] : List Str) [some "_law_cell", some "_law_k", some "_law_number"] (defScope s_law_mixed) = true := by decide +kernel
theorem fk_law_mixed {f : Addr} {fd : FuncData} (Fn : Fun K "_law_mixed" "_law_mixed" s_law_mixed f fd) : FnOk P w K mg base (L2.CX P w) 1 f fd (["_law_cell", "_law_k"] : List Str) (spP ⟨K, C⟩ 2 f_law_mixed) := by
  refine fn_pure (N := (["_law_cell", "_law_k", "_law_number"] : List Str)) (ps := (["_law_cell", "_law_k"] : List Str)) (g := g_law_mixed) Fn sc_law_mixed (fun X W b => ?_)
  obtain ⟨e1, e2, e3, e4, e5, b⟩ : P = X.prog ∧ w = X.w ∧ K = X.K ∧ mg = X.mg ∧ base = X.base ∧ BX X W P w K mg base (["_law_cell", "_law_k", "_law_number"] : List Str) (defScope s_law_mixed) 0 := ⟨b.prog, b.w, b.K, b.mg, b.base, b⟩
  subst e1 e2 e3 e4 e5
  have Dx := DX.of b.n sc_law_mixed.nd b.calm b.sc sc_law_mixed.kind b.room.units b.fn cn_law_mixed cs_law_mixed
  exact (s_cons (s_set Dx 2 (v_mod (v_mulI (v_add (v_add (v_add (v_mod (x_var Dx 0) (v_pow v_int v_int)) (v_mulI (v_mulI v_int (x_var Dx 1)) (x_var Dx 1))) (v_mulI v_int (x_var Dx 1))) v_int) v_int) v_int)) (s_cons (s_ret (v_mod (v_add (v_add (v_mulI (x_var Dx 2) v_int) (v_mulI v_int (x_var Dx 1))) v_int) v_int)) s_nil))
theorem sc_law_draws : FnScope (["_law_cell", "_law_most", "_law_many", "_law_way", "_law_found", "_law_left", "_law_k"] : List Str) (["_law_cell", "_law_most", "_law_many", "_law_way"] : List Str) (defScope s_law_draws) := ⟨rfl, rfl, rfl, by decide +kernel, rfl, by decide +kernel, by decide +kernel⟩
theorem cn_law_draws : chkN (["_law_cell", "_law_most", "_law_many", "_law_way", "_law_found", "_law_left", "_law_k"] : List Str) [some "_law_cell", some "_law_most", some "_law_many", some "_law_way", some "_law_found", some "_law_left", some "_law_k"] (["abs", "range", "_law_mixed"] : List Str) (defScope s_law_draws) = true := by decide +kernel
theorem cs_law_draws : chkS (["_law_cell", "_law_most", "_law_many", "_law_way", "_law_found", "_law_left", "_law_k"] : List Str) [some "_law_cell", some "_law_most", some "_law_many", some "_law_way", some "_law_found", some "_law_left", some "_law_k"] (defScope s_law_draws) = true := by decide +kernel
theorem fk_law_draws {f : Addr} {fd : FuncData} (Fn : Fun K "_law_draws" "_law_draws" s_law_draws f fd) (H_law_mixed : DefOk P w K mg base C "_law_mixed" 1 (["_law_cell", "_law_k"] : List Str) f_law_mixed) (bn_abs : mg "abs" = none) (bn_range : mg "range" = none) : FnOk P w K mg base (L2.CX P w) 2 f fd (["_law_cell", "_law_most", "_law_many", "_law_way"] : List Str) (spP ⟨K, C⟩ 4 f_law_draws) := by
  refine fn_pure (N := (["_law_cell", "_law_most", "_law_many", "_law_way", "_law_found", "_law_left", "_law_k"] : List Str)) (ps := (["_law_cell", "_law_most", "_law_many", "_law_way"] : List Str)) (g := g_law_draws) Fn sc_law_draws (fun X W b => ?_)
  obtain ⟨e1, e2, e3, e4, e5, b⟩ : P = X.prog ∧ w = X.w ∧ K = X.K ∧ mg = X.mg ∧ base = X.base ∧ BX X W P w K mg base (["_law_cell", "_law_most", "_law_many", "_law_way", "_law_found", "_law_left", "_law_k"] : List Str) (defScope s_law_draws) 1 := ⟨b.prog, b.w, b.K, b.mg, b.base, b⟩
  subst e1 e2 e3 e4 e5
  have Dx := DX.of b.n sc_law_draws.nd b.calm b.sc sc_law_draws.kind b.room.units b.fn cn_law_draws cs_law_draws
  exact (s_cons (s_setO Dx 4 (n_lst a_nil)) (s_cons (s_set Dx 5 (x_abs Dx 0 (bn_abs) (a_cons (x_var Dx 0) a_nil))) (s_cons (s_for (vs := [6]) b.own Dx.calm (xi_rng1 Dx 1 (bn_range) (x_var Dx 2)) (x_gname Dx 6) (s_cons (s_if (PW.pt (q_and (xq_eq Dx (x_var Dx 3) v_int) (q_and1 (q_gt (x_var Dx 5) v_int)))) (s_cons (s_app Dx 4 (v_mod (x_var Dx 5) (x_var Dx 1))) (s_cons (s_set Dx 5 (v_div (x_var Dx 5) (x_var Dx 1))) s_nil)) (s_cons (s_app Dx 4 (v_mod (v_div (x_def Dx 2 H_law_mixed b.room (by decide) (a_cons (x_var Dx 0) (a_cons (x_var Dx 6) a_nil)) (aCons_len (aCons_len aNil_len))) v_int) (x_var Dx 1))) s_nil)) s_nil)) (s_cons (s_frz 4 (s_ret (x_var Dx 4))) s_nil))))
theorem sc_law_vectors : FnScope (["_law_script", "_law_first", "_law_long", "_law_way", "_law_many", "_law_most", "_law_cells", "_law_draws_here", "_law_k", "_law_shift", "_law_draw"] : List Str) (["_law_script"] : List Str) (defScope s_law_vectors) := ⟨rfl, rfl, rfl, by decide +kernel, rfl, by decide +kernel, by decide +kernel⟩
theorem cn_law_vectors : chkN (["_law_script", "_law_first", "_law_long", "_law_way", "_law_many", "_law_most", "_law_cells", "_law_draws_here", "_law_k", "_law_shift", "_law_draw"] : List Str) [some "_law_script", some "_law_first", some "_law_long", some "_law_way", some "_law_many", some "_law_most", some "_law_cells", some "_law_draws_here", none, some "_law_shift", none] (["_law_cell_at", "int", "_law_draws", "range"] : List Str) (defScope s_law_vectors) = true := by decide +kernel
theorem cs_law_vectors : chkS (["_law_script", "_law_first", "_law_long", "_law_way", "_law_many", "_law_most", "_law_cells", "_law_draws_here", "_law_k", "_law_shift", "_law_draw"] : List Str) [some "_law_script", some "_law_first", some "_law_long", some "_law_way", some "_law_many", some "_law_most", some "_law_cells", some "_law_draws_here", none, some "_law_shift", none] (defScope s_law_vectors) = true := by decide +kernel
theorem fk_law_vectors {f : Addr} {fd : FuncData} (Fn : Fun K "_law_vectors" "_law_vectors" s_law_vectors f fd) (H_law_cell_at : DefOk P w K mg base C "_law_cell_at" 1 (["_law_script", "_law_k"] : List Str) f_law_cell_at) (H_law_mixed : DefOk P w K mg base C "_law_mixed" 1 (["_law_cell", "_law_k"] : List Str) f_law_mixed) (H_law_draws : DefOk P w K mg base C "_law_draws" 2 (["_law_cell", "_law_most", "_law_many", "_law_way"] : List Str) f_law_draws) (bn_int : mg "int" = none) (bn_range : mg "range" = none) (bn_tuple : mg "tuple" = none) : FnOk P w K mg base (L2.CX P w) 3 f fd (["_law_script"] : List Str) (spP ⟨K, C⟩ 1 f_law_vectors) := by
  refine fn_pure (N := (["_law_script", "_law_first", "_law_long", "_law_way", "_law_many", "_law_most", "_law_cells", "_law_draws_here", "_law_k", "_law_shift", "_law_draw"] : List Str)) (ps := (["_law_script"] : List Str)) (g := g_law_vectors) Fn sc_law_vectors (fun X W b => ?_)
  obtain ⟨e1, e2, e3, e4, e5, b⟩ : P = X.prog ∧ w = X.w ∧ K = X.K ∧ mg = X.mg ∧ base = X.base ∧ BX X W P w K mg base (["_law_script", "_law_first", "_law_long", "_law_way", "_law_many", "_law_most", "_law_cells", "_law_draws_here", "_law_k", "_law_shift", "_law_draw"] : List Str) (defScope s_law_vectors) 2 := ⟨b.prog, b.w, b.K, b.mg, b.base, b⟩
  subst e1 e2 e3 e4 e5
  have Dx := DX.of b.n sc_law_vectors.nd b.calm b.sc sc_law_vectors.kind b.room.units b.fn cn_law_vectors cs_law_vectors
  exact (s_cons (s_set Dx 1 (x_def Dx 0 H_law_cell_at b.room (by decide) (a_cons (x_var Dx 0) (a_cons v_int a_nil)) (aCons_len (aCons_len aNil_len)))) (s_cons (s_set Dx 2 (v_add v_int (v_mod (x_var Dx 1) v_int))) (s_cons (s_set Dx 3 (v_mod (v_div (x_var Dx 1) v_int) v_int)) (s_cons (s_set Dx 4 (v_add v_int (v_mod (v_div (x_var Dx 1) v_int) (v_ix (s_ofN (n_lst (a_cons v_int (a_cons v_int a_nil)))) (x_int Dx 1 (bn_int) (a_cons (x_eq Dx (v_mod (v_div (x_var Dx 1) v_int) v_int) v_int) a_nil)))))) (s_cons (s_set Dx 5 (v_ix (s_ofN (n_lst (a_cons v_int (a_cons v_int (a_cons v_int a_nil))))) (v_mod (v_div (x_var Dx 1) v_int) v_int))) (s_cons (s_if (xq_eq Dx (v_mod (v_div (x_var Dx 1) v_int) v_int) v_int) (s_cons (s_set Dx 5 v_int) s_nil) s_nil) (s_cons (s_set Dx 6 (v_slice (x_svar Dx 0) (o_some v_int) (o_some v_int))) (s_cons (s_if (xq_eq Dx (x_var Dx 3) v_int) (s_cons (s_set Dx 7 (x_def Dx 2 H_law_draws b.room (by decide) (a_cons (x_def Dx 0 H_law_cell_at b.room (by decide) (a_cons (x_var Dx 0) (a_cons v_int a_nil)) (aCons_len (aCons_len aNil_len))) (a_cons (x_var Dx 5) (a_cons (v_mulI (x_var Dx 4) (x_var Dx 2)) (a_cons v_int a_nil)))) (aCons_len (aCons_len (aCons_len (aCons_len aNil_len)))))) s_nil) (s_cons (xs_lc Dx b.sc 7 (lcx Dx [("_law_k", 8)] [none, none, none, none, none, some "_law_most", some "_law_cells", none, some "_law_k", none, none] [none, none, none, none, none, none, none, none, some "_law_k", none, none] (["_law_mixed", "_law_cell_at"] : List Str) (xi_rng1 Dx 3 (bn_range) (v_mulI (x_var Dx 4) (x_var Dx 2))) (by rfl) (by decide +kernel) (by decide +kernel) (by decide +kernel) (fun s H L cl fp D1 => (x_gname D1 8)) (fun s H L cl fp D1 => t_yes) (fun s H L cl fp D1 => (v_mod (v_div (x_def D1 0 H_law_mixed b.room (by decide) (a_cons (x_def D1 1 H_law_cell_at b.room (by decide) (a_cons (x_var D1 6) (a_cons (x_var D1 8) a_nil)) (aCons_len (aCons_len aNil_len))) (a_cons (x_var D1 8) a_nil)) (aCons_len (aCons_len aNil_len))) v_int) (x_var D1 5)))) (by decide +kernel)) s_nil)) (s_cons (s_set Dx 9 (v_ix (s_ofN (n_lst (a_cons (v_div (x_var Dx 5) v_int) (a_cons v_int (a_cons (v_div (x_var Dx 5) v_int) (a_cons (v_div (x_var Dx 5) v_int) a_nil)))))) (v_mod (v_div (x_var Dx 1) v_int) v_int))) (s_cons (s_if (xq_eq Dx (x_var Dx 5) v_int) (s_cons (s_set Dx 9 v_int) s_nil) s_nil) (s_cons (s_if (xq_eq Dx (v_mod (v_div (x_var Dx 1) v_int) v_int) v_int) (s_cons (xs_lc Dx b.sc 7 (lcx Dx [("_law_k", 8)] [none, none, none, none, none, none, some "_law_cells", none, some "_law_k", none, none] [none, none, none, none, none, none, none, none, some "_law_k", none, none] (["_law_mixed", "_law_cell_at"] : List Str) (xi_rng1 Dx 3 (bn_range) v_int) (by rfl) (by decide +kernel) (by decide +kernel) (by decide +kernel) (fun s H L cl fp D1 => (x_gname D1 8)) (fun s H L cl fp D1 => t_yes) (fun s H L cl fp D1 => (v_mod (v_div (x_def D1 0 H_law_mixed b.room (by decide) (a_cons (x_def D1 1 H_law_cell_at b.room (by decide) (a_cons (x_var D1 6) (a_cons (v_mod (x_var D1 8) v_int) a_nil)) (aCons_len (aCons_len aNil_len))) (a_cons (x_var D1 8) a_nil)) (aCons_len (aCons_len aNil_len))) v_int) v_int))) (by decide +kernel)) (s_cons (s_ret (v_ofN (x_lc Dx (lcx Dx [("_law_k", 8)] [none, none, none, none, none, none, none, some "_law_draws_here", some "_law_k", none, none] [none, none, none, none, none, none, none, none, some "_law_k", none, none] (["tuple"] : List Str) (xi_rng1 Dx 3 (bn_range) v_int) (by rfl) (by decide +kernel) (by decide +kernel) (by decide +kernel) (fun s H L cl fp D1 => (x_gname D1 8)) (fun s H L cl fp D1 => t_yes) (fun s H L cl fp D1 => (x_tuple D1 0 (bn_tuple) (s_ofN (x_lc D1 (lcx D1 [("_law_draw", 10)] [none, none, none, none, none, none, none, none, none, none, some "_law_draw"] [none, none, none, none, none, none, none, none, none, none, some "_law_draw"] ([] : List Str) (i_seq (v_slice (x_svar D1 7) (o_some (v_mulI v_int (x_var D1 8))) (o_some (v_add (v_mulI v_int (x_var D1 8)) v_int)))) (by rfl) (by decide +kernel) (by decide +kernel) (by decide +kernel) (fun s H L cl fp D2 => (x_gname D2 10)) (fun s H L cl fp D2 => t_yes) (fun s H L cl fp D2 => (v_sub (x_var D2 10) v_int))))))))))) s_nil)) s_nil) (s_cons (s_ret (v_ofN (x_lc Dx (lcx Dx [("_law_k", 8)] [none, none, some "_law_long", none, none, none, none, some "_law_draws_here", some "_law_k", some "_law_shift", none] [none, none, none, none, none, none, none, none, some "_law_k", none, none] (["tuple"] : List Str) (xi_rng1 Dx 3 (bn_range) (x_var Dx 4)) (by rfl) (by decide +kernel) (by decide +kernel) (by decide +kernel) (fun s H L cl fp D1 => (x_gname D1 8)) (fun s H L cl fp D1 => t_yes) (fun s H L cl fp D1 => (x_tuple D1 0 (bn_tuple) (s_ofN (x_lc D1 (lcx D1 [("_law_draw", 10)] [none, none, none, none, none, none, none, none, none, some "_law_shift", some "_law_draw"] [none, none, none, none, none, none, none, none, none, none, some "_law_draw"] ([] : List Str) (i_seq (v_slice (x_svar D1 7) (o_some (v_mulI (x_var D1 8) (x_var D1 2))) (o_some (v_mulI (v_add (x_var D1 8) v_int) (x_var D1 2))))) (by rfl) (by decide +kernel) (by decide +kernel) (by decide +kernel) (fun s H L cl fp D2 => (x_gname D2 10)) (fun s H L cl fp D2 => t_yes) (fun s H L cl fp D2 => (v_sub (x_var D2 10) (x_var D2 9)))))))))))) s_nil))))))))))))
theorem sc_law_factor : FnScope (["_law_one", "_law_other"] : List Str) (["_law_one", "_law_other"] : List Str) (defScope s_law_factor) := ⟨rfl, rfl, rfl, by decide +kernel, rfl, by decide +kernel, by decide +kernel⟩
theorem cn_law_factor : chkN (["_law_one", "_law_other"] : List Str) [some "_law_one", some "_law_other"] (["abs"] : List Str) (defScope s_law_factor) = true := by decide +kernel
theorem cs_law_factor : chkS (["_law_one", "_law_other"] : List Str) [some "_law_one", some "_law_other"] (defScope s_law_factor) = true := by decide +kernel
theorem fk_law_factor {f : Addr} {fd : FuncData} (Fn : Fun K "_law_factor" "_law_factor" s_law_factor f fd) (bn_abs : mg "abs" = none) : FnOk P w K mg base (L2.CX P w) 1 f fd (["_law_one", "_law_other"] : List Str) (spP ⟨K, C⟩ 2 f_law_factor) := by
  refine fn_pure (N := (["_law_one", "_law_other"] : List Str)) (ps := (["_law_one", "_law_other"] : List Str)) (g := g_law_factor) Fn sc_law_factor (fun X W b => ?_)
  obtain ⟨e1, e2, e3, e4, e5, b⟩ : P = X.prog ∧ w = X.w ∧ K = X.K ∧ mg = X.mg ∧ base = X.base ∧ BX X W P w K mg base (["_law_one", "_law_other"] : List Str) (defScope s_law_factor) 0 := ⟨b.prog, b.w, b.K, b.mg, b.base, b⟩
  subst e1 e2 e3 e4 e5
  have Dx := DX.of b.n sc_law_factor.nd b.calm b.sc sc_law_factor.kind b.room.units b.fn cn_law_factor cs_law_factor
  exact (s_cons (s_set Dx 0 (x_abs Dx 0 (bn_abs) (a_cons (x_var Dx 0) a_nil))) (s_cons (s_set Dx 1 (x_abs Dx 0 (bn_abs) (a_cons (x_var Dx 1) a_nil))) (s_cons (s_while b.own (q_gt (x_var Dx 1) v_int) (s_cons (s_par Dx b.sc 0 1 (x_var Dx 1) (v_mod (x_var Dx 0) (x_var Dx 1)) (by decide) (by decide +kernel)) s_nil)) (s_cons (s_ret (x_var Dx 0)) s_nil))))
theorem sc_law_is_part : FnScope (["_law_found", "_law_top", "_law_bottom", "_law_one"] : List Str) (["_law_found", "_law_top", "_law_bottom"] : List Str) (defScope s_law_is_part) := ⟨rfl, rfl, rfl, by decide +kernel, rfl, by decide +kernel, by decide +kernel⟩
theorem cn_law_is_part : chkN (["_law_found", "_law_top", "_law_bottom", "_law_one"] : List Str) [some "_law_found", some "_law_top", some "_law_bottom", some "_law_one"] (["isinstance", "tuple", "len", "int", "bool", "_law_factor"] : List Str) (defScope s_law_is_part) = true := by decide +kernel
theorem cs_law_is_part : chkS (["_law_found", "_law_top", "_law_bottom", "_law_one"] : List Str) [some "_law_found", some "_law_top", some "_law_bottom", some "_law_one"] (defScope s_law_is_part) = true := by decide +kernel
theorem fk_law_is_part {f : Addr} {fd : FuncData} (Fn : Fun K "_law_is_part" "_law_is_part" s_law_is_part f fd) (H_law_factor : DefOk P w K mg base C "_law_factor" 1 (["_law_one", "_law_other"] : List Str) f_law_factor) (bn_bool : mg "bool" = none) (bn_int : mg "int" = none) (bn_isinstance : mg "isinstance" = none) (bn_len : mg "len" = none) (bn_tuple : mg "tuple" = none) : FnOk P w K mg base (L2.CX P w) 2 f fd (["_law_found", "_law_top", "_law_bottom"] : List Str) (spP ⟨K, C⟩ 3 f_law_is_part) := by
  refine fn_pure (N := (["_law_found", "_law_top", "_law_bottom", "_law_one"] : List Str)) (ps := (["_law_found", "_law_top", "_law_bottom"] : List Str)) (g := g_law_is_part) Fn sc_law_is_part (fun X W b => ?_)
  obtain ⟨e1, e2, e3, e4, e5, b⟩ : P = X.prog ∧ w = X.w ∧ K = X.K ∧ mg = X.mg ∧ base = X.base ∧ BX X W P w K mg base (["_law_found", "_law_top", "_law_bottom", "_law_one"] : List Str) (defScope s_law_is_part) 1 := ⟨b.prog, b.w, b.K, b.mg, b.base, b⟩
  subst e1 e2 e3 e4 e5
  have Dx := DX.of b.n sc_law_is_part.nd b.calm b.sc sc_law_is_part.kind b.room.units b.fn cn_law_is_part cs_law_is_part
  exact (s_cons (s_if (PW.pt (q_or (q_not (q_val (x_isi Dx 0 1 .tup (bn_isinstance) (bn_tuple) b_tuple (x_var Dx 0)))) (q_or1 (xq_ne Dx (x_len Dx 2 (bn_len) (x_svar Dx 0)) v_int)))) (s_cons (s_ret v_bl) s_nil) s_nil) (s_cons (s_for (vs := [3]) b.own Dx.calm (i_seq (x_var Dx 0)) (x_gname Dx 3) (s_cons (s_if (PW.pt (q_or (q_not (q_val (x_isi Dx 0 3 .int (bn_isinstance) (bn_int) b_int (x_var Dx 3)))) (q_or1 (q_val (x_isi Dx 0 4 .bl (bn_isinstance) (bn_bool) b_bool (x_var Dx 3)))))) (s_cons (s_ret v_bl) s_nil) s_nil) s_nil)) (s_cons (s_if (PW.pt (q_or (q_lt (v_ix (x_svar Dx 0) v_int) v_int) (q_or1 (xq_ne Dx (x_def Dx 5 H_law_factor b.room (by decide) (a_cons (v_ix (x_svar Dx 0) v_int) (a_cons (v_ix (x_svar Dx 0) v_int) a_nil)) (aCons_len (aCons_len aNil_len))) v_int)))) (s_cons (s_ret v_bl) s_nil) s_nil) (s_cons (s_ret (x_eq Dx (v_mulI (v_ix (x_svar Dx 0) v_int) (x_var Dx 2)) (v_mulI (x_var Dx 1) (v_ix (x_svar Dx 0) v_int)))) s_nil))))
theorem sc_law_are_shares : FnScope (["_law_found", "_law_many", "_law_top", "_law_bottom", "_law_one", "_law_factor_here"] : List Str) (["_law_found", "_law_many"] : List Str) (defScope s_law_are_shares) := ⟨rfl, rfl, rfl, by decide +kernel, rfl, by decide +kernel, by decide +kernel⟩
theorem cn_law_are_shares : chkN (["_law_found", "_law_many", "_law_top", "_law_bottom", "_law_one", "_law_factor_here"] : List Str) [some "_law_found", some "_law_many", some "_law_top", some "_law_bottom", some "_law_one", some "_law_factor_here"] (["isinstance", "list", "len", "_law_is_part", "_law_factor"] : List Str) (defScope s_law_are_shares) = true := by decide +kernel
theorem cs_law_are_shares : chkS (["_law_found", "_law_many", "_law_top", "_law_bottom", "_law_one", "_law_factor_here"] : List Str) [some "_law_found", some "_law_many", some "_law_top", some "_law_bottom", some "_law_one", some "_law_factor_here"] (defScope s_law_are_shares) = true := by decide +kernel
theorem fk_law_are_shares {f : Addr} {fd : FuncData} (Fn : Fun K "_law_are_shares" "_law_are_shares" s_law_are_shares f fd) (H_law_factor : DefOk P w K mg base C "_law_factor" 1 (["_law_one", "_law_other"] : List Str) f_law_factor) (H_law_is_part : DefOk P w K mg base C "_law_is_part" 2 (["_law_found", "_law_top", "_law_bottom"] : List Str) f_law_is_part) (bn_isinstance : mg "isinstance" = none) (bn_len : mg "len" = none) (bn_list : mg "list" = none) : FnOk P w K mg base (L2.CX P w) 3 f fd (["_law_found", "_law_many"] : List Str) (spP ⟨K, C⟩ 2 f_law_are_shares) := by
  refine fn_pure (N := (["_law_found", "_law_many", "_law_top", "_law_bottom", "_law_one", "_law_factor_here"] : List Str)) (ps := (["_law_found", "_law_many"] : List Str)) (g := g_law_are_shares) Fn sc_law_are_shares (fun X W b => ?_)
  obtain ⟨e1, e2, e3, e4, e5, b⟩ : P = X.prog ∧ w = X.w ∧ K = X.K ∧ mg = X.mg ∧ base = X.base ∧ BX X W P w K mg base (["_law_found", "_law_many", "_law_top", "_law_bottom", "_law_one", "_law_factor_here"] : List Str) (defScope s_law_are_shares) 2 := ⟨b.prog, b.w, b.K, b.mg, b.base, b⟩
  subst e1 e2 e3 e4 e5
  have Dx := DX.of b.n sc_law_are_shares.nd b.calm b.sc sc_law_are_shares.kind b.room.units b.fn cn_law_are_shares cs_law_are_shares
  exact (s_cons (s_if (PW.pt (q_or (q_not (q_val (x_isi Dx 0 1 .lst (bn_isinstance) (bn_list) b_list (x_var Dx 0)))) (q_or1 (xq_ne Dx (x_len Dx 2 (bn_len) (x_svar Dx 0)) (x_var Dx 1))))) (s_cons (s_ret v_bl) s_nil) s_nil) (s_cons (s_set Dx 2 v_int) (s_cons (s_set Dx 3 v_int) (s_cons (s_for (vs := [4]) b.own Dx.calm (i_seq (x_var Dx 0)) (x_gname Dx 4) (s_cons (s_if (PW.pt (q_or (q_not (q_val (x_def Dx 3 H_law_is_part b.room (by decide) (a_cons (x_var Dx 4) (a_cons (v_ix (x_svar Dx 4) v_int) (a_cons (v_ix (x_svar Dx 4) v_int) a_nil))) (aCons_len (aCons_len (aCons_len aNil_len)))))) (q_or1 (q_lt (v_ix (x_svar Dx 4) v_int) v_int)))) (s_cons (s_ret v_bl) s_nil) s_nil) (s_cons (s_set Dx 2 (v_add (v_mulI (x_var Dx 2) (v_ix (x_svar Dx 4) v_int)) (v_mulI (v_ix (x_svar Dx 4) v_int) (x_var Dx 3)))) (s_cons (s_set Dx 3 (v_mulI (x_var Dx 3) (v_ix (x_svar Dx 4) v_int))) (s_cons (s_set Dx 5 (x_def Dx 4 H_law_factor b.room (by decide) (a_cons (x_var Dx 2) (a_cons (x_var Dx 3) a_nil)) (aCons_len (aCons_len aNil_len)))) (s_cons (s_set Dx 2 (v_div (x_var Dx 2) (x_var Dx 5))) (s_cons (s_set Dx 3 (v_div (x_var Dx 3) (x_var Dx 5))) s_nil))))))) (s_cons (s_ret (v_and (x_eq Dx (x_var Dx 2) v_int) (v_one (x_eq Dx (x_var Dx 3) v_int)))) s_nil)))))
theorem sc_law_common : FnScope (["_law_found", "_law_bottom", "_law_one"] : List Str) (["_law_found"] : List Str) (defScope s_law_common) := ⟨rfl, rfl, rfl, by decide +kernel, rfl, by decide +kernel, by decide +kernel⟩
theorem cn_law_common : chkN (["_law_found", "_law_bottom", "_law_one"] : List Str) [some "_law_found", some "_law_bottom", some "_law_one"] (["_law_factor"] : List Str) (defScope s_law_common) = true := by decide +kernel
theorem cs_law_common : chkS (["_law_found", "_law_bottom", "_law_one"] : List Str) [some "_law_found", some "_law_bottom", some "_law_one"] (defScope s_law_common) = true := by decide +kernel
theorem fk_law_common {f : Addr} {fd : FuncData} (Fn : Fun K "_law_common" "_law_common" s_law_common f fd) (H_law_factor : DefOk P w K mg base C "_law_factor" 1 (["_law_one", "_law_other"] : List Str) f_law_factor) : FnOk P w K mg base (L2.CX P w) 2 f fd (["_law_found"] : List Str) (spP ⟨K, C⟩ 1 f_law_common) := by
  refine fn_pure (N := (["_law_found", "_law_bottom", "_law_one"] : List Str)) (ps := (["_law_found"] : List Str)) (g := g_law_common) Fn sc_law_common (fun X W b => ?_)
  obtain ⟨e1, e2, e3, e4, e5, b⟩ : P = X.prog ∧ w = X.w ∧ K = X.K ∧ mg = X.mg ∧ base = X.base ∧ BX X W P w K mg base (["_law_found", "_law_bottom", "_law_one"] : List Str) (defScope s_law_common) 1 := ⟨b.prog, b.w, b.K, b.mg, b.base, b⟩
  subst e1 e2 e3 e4 e5
  have Dx := DX.of b.n sc_law_common.nd b.calm b.sc sc_law_common.kind b.room.units b.fn cn_law_common cs_law_common
  exact (s_cons (s_set Dx 1 v_int) (s_cons (s_for (vs := [2]) b.own Dx.calm (i_seq (x_var Dx 0)) (x_gname Dx 2) (s_cons (s_set Dx 1 (v_mulI (v_div (x_var Dx 1) (x_def Dx 0 H_law_factor b.room (by decide) (a_cons (x_var Dx 1) (a_cons (v_ix (x_svar Dx 2) v_int) a_nil)) (aCons_len (aCons_len aNil_len)))) (v_ix (x_svar Dx 2) v_int))) s_nil)) (s_cons (s_ret (v_ofN (n_lst (a_cons (v_ofN (x_lc Dx (lcx Dx [("_law_one", 2)] [none, some "_law_bottom", some "_law_one"] [none, none, some "_law_one"] ([] : List Str) (i_seq (x_var Dx 0)) (by rfl) (by decide +kernel) (by decide +kernel) (by decide +kernel) (fun s H L cl fp D1 => (x_gname D1 2)) (fun s H L cl fp D1 => t_yes) (fun s H L cl fp D1 => (v_mulI (v_ix (x_svar D1 2) v_int) (v_div (x_var D1 1) (v_ix (x_svar D1 2) v_int))))))) (a_cons (x_var Dx 1) a_nil))))) s_nil)))
theorem sc_law_summed : FnScope (["_law_vectors_here", "_law_tops", "_law_total", "_law_number", "_law_vector", "_law_top", "_law_here"] : List Str) (["_law_vectors_here", "_law_tops"] : List Str) (defScope s_law_summed) := ⟨rfl, rfl, rfl, by decide +kernel, rfl, by decide +kernel, by decide +kernel⟩
theorem cn_law_summed : chkN (["_law_vectors_here", "_law_tops", "_law_total", "_law_number", "_law_vector", "_law_top", "_law_here"] : List Str) [some "_law_vectors_here", some "_law_tops", some "_law_total", none, some "_law_vector", some "_law_top", none] (["zip"] : List Str) (defScope s_law_summed) = true := by decide +kernel
theorem cs_law_summed : chkS (["_law_vectors_here", "_law_tops", "_law_total", "_law_number", "_law_vector", "_law_top", "_law_here"] : List Str) [some "_law_vectors_here", some "_law_tops", some "_law_total", none, some "_law_vector", some "_law_top", none] (defScope s_law_summed) = true := by decide +kernel
theorem fk_law_summed {f : Addr} {fd : FuncData} (Fn : Fun K "_law_summed" "_law_summed" s_law_summed f fd) (bn_zip : mg "zip" = none) : FnOk P w K mg base (L2.CX P w) 1 f fd (["_law_vectors_here", "_law_tops"] : List Str) (spP ⟨K, C⟩ 2 f_law_summed) := by
  refine fn_pure (N := (["_law_vectors_here", "_law_tops", "_law_total", "_law_number", "_law_vector", "_law_top", "_law_here"] : List Str)) (ps := (["_law_vectors_here", "_law_tops"] : List Str)) (g := g_law_summed) Fn sc_law_summed (fun X W b => ?_)
  obtain ⟨e1, e2, e3, e4, e5, b⟩ : P = X.prog ∧ w = X.w ∧ K = X.K ∧ mg = X.mg ∧ base = X.base ∧ BX X W P w K mg base (["_law_vectors_here", "_law_tops", "_law_total", "_law_number", "_law_vector", "_law_top", "_law_here"] : List Str) (defScope s_law_summed) 0 := ⟨b.prog, b.w, b.K, b.mg, b.base, b⟩
  subst e1 e2 e3 e4 e5
  have Dx := DX.of b.n sc_law_summed.nd b.calm b.sc sc_law_summed.kind b.room.units b.fn cn_law_summed cs_law_summed
  exact (s_cons (xs_lc Dx b.sc 2 (lcx Dx [("_law_number", 3)] [none, none, none, some "_law_number", none, none, none] [none, none, none, some "_law_number", none, none, none] ([] : List Str) (i_seq (v_ix (x_svar Dx 0) v_int)) (by rfl) (by decide +kernel) (by decide +kernel) (by decide +kernel) (fun s H L cl fp D1 => (x_gname D1 3)) (fun s H L cl fp D1 => t_yes) (fun s H L cl fp D1 => v_int)) (by decide +kernel)) (s_cons (s_for (vs := [4, 5]) b.own Dx.calm (xi_zip Dx 0 (bn_zip) (x_var Dx 0) (x_var Dx 1)) (g_tup (n := 2) Dx.calm (gs_cons (x_gname Dx 4) (gs_cons (x_gname Dx 5) gs_nil))) (s_cons (xs_lc Dx b.sc 2 (lcx Dx [("_law_here", 6), ("_law_number", 3)] [none, none, none, some "_law_number", none, some "_law_top", some "_law_here"] [none, none, none, some "_law_number", none, none, some "_law_here"] ([] : List Str) (xi_zip Dx 0 (bn_zip) (x_var Dx 2) (x_var Dx 4)) (by rfl) (by decide +kernel) (by decide +kernel) (by decide +kernel) (fun s H L cl fp D1 => (g_tup (n := 2) D1.calm (gs_cons (x_gname D1 6) (gs_cons (x_gname D1 3) gs_nil)))) (fun s H L cl fp D1 => t_yes) (fun s H L cl fp D1 => (v_add (x_var D1 6) (v_mulI (x_var D1 5) (x_var D1 3))))) (by decide +kernel)) s_nil)) (s_cons (s_ret (x_var Dx 2)) s_nil)))
theorem sc_law_product : FnScope (["_law_one", "_law_other", "_law_here", "_law_there"] : List Str) (["_law_one", "_law_other"] : List Str) (defScope s_law_product) := ⟨rfl, rfl, rfl, by decide +kernel, rfl, by decide +kernel, by decide +kernel⟩
theorem cn_law_product : chkN (["_law_one", "_law_other", "_law_here", "_law_there"] : List Str) [some "_law_one", some "_law_other", none, none] (["sum", "zip"] : List Str) (defScope s_law_product) = true := by decide +kernel
theorem cs_law_product : chkS (["_law_one", "_law_other", "_law_here", "_law_there"] : List Str) [some "_law_one", some "_law_other", none, none] (defScope s_law_product) = true := by decide +kernel
theorem fk_law_product {f : Addr} {fd : FuncData} (Fn : Fun K "_law_product" "_law_product" s_law_product f fd) (bn_sum : mg "sum" = none) (bn_zip : mg "zip" = none) : FnOk P w K mg base (L2.CX P w) 1 f fd (["_law_one", "_law_other"] : List Str) (spP ⟨K, C⟩ 2 f_law_product) := by
  refine fn_pure (N := (["_law_one", "_law_other", "_law_here", "_law_there"] : List Str)) (ps := (["_law_one", "_law_other"] : List Str)) (g := g_law_product) Fn sc_law_product (fun X W b => ?_)
  obtain ⟨e1, e2, e3, e4, e5, b⟩ : P = X.prog ∧ w = X.w ∧ K = X.K ∧ mg = X.mg ∧ base = X.base ∧ BX X W P w K mg base (["_law_one", "_law_other", "_law_here", "_law_there"] : List Str) (defScope s_law_product) 0 := ⟨b.prog, b.w, b.K, b.mg, b.base, b⟩
  subst e1 e2 e3 e4 e5
  have Dx := DX.of b.n sc_law_product.nd b.calm b.sc sc_law_product.kind b.room.units b.fn cn_law_product cs_law_product
  exact (s_cons (s_ret (x_sum Dx 0 (bn_sum) (s_ofN (x_lc Dx (lcx Dx [("_law_here", 2), ("_law_there", 3)] [none, none, some "_law_here", some "_law_there"] [none, none, some "_law_here", some "_law_there"] ([] : List Str) (xi_zip Dx 1 (bn_zip) (x_var Dx 0) (x_var Dx 1)) (by rfl) (by decide +kernel) (by decide +kernel) (by decide +kernel) (fun s H L cl fp D1 => (g_tup (n := 2) D1.calm (gs_cons (x_gname D1 2) (gs_cons (x_gname D1 3) gs_nil)))) (fun s H L cl fp D1 => t_yes) (fun s H L cl fp D1 => (v_mulI (x_var D1 2) (x_var D1 3)))))))) s_nil)
theorem sc_law : FnScope (["_law_script", "_law_vectors_here", "_law_handed", "_law_found", "_law_tops", "_law_bottom", "_law_mixed_here", "_law_vector", "_law_kept"] : List Str) (["_law_script"] : List Str) (defScope s_law) := ⟨rfl, rfl, rfl, by decide +kernel, rfl, by decide +kernel, by decide +kernel⟩
theorem cn_law : chkN (["_law_script", "_law_vectors_here", "_law_handed", "_law_found", "_law_tops", "_law_bottom", "_law_mixed_here", "_law_vector", "_law_kept"] : List Str) [some "_law_script", some "_law_vectors_here", some "_law_handed", some "_law_found", some "_law_tops", some "_law_bottom", some "_law_mixed_here", some "_law_vector", some "_law_kept"] (["_law_vectors", "list", "nearest_shares", "_law_are_shares", "len", "_law_common", "_law_summed", "_law_product"] : List Str) (defScope s_law) = true := by decide +kernel
theorem cs_law : chkS (["_law_script", "_law_vectors_here", "_law_handed", "_law_found", "_law_tops", "_law_bottom", "_law_mixed_here", "_law_vector", "_law_kept"] : List Str) [some "_law_script", some "_law_vectors_here", some "_law_handed", some "_law_found", some "_law_tops", some "_law_bottom", some "_law_mixed_here", some "_law_vector", some "_law_kept"] (defScope s_law) = true := by decide +kernel
theorem fk_law {f : Addr} {fd : FuncData} (Fn : Fun K "law" "law" s_law f fd) (H_nearest_shares : DefOk P w K mg base C "nearest_shares" 4 (["vectors"] : List Str) f_nearest_shares) (H_law_vectors : DefOk P w K mg base C "_law_vectors" 3 (["_law_script"] : List Str) f_law_vectors) (H_law_are_shares : DefOk P w K mg base C "_law_are_shares" 3 (["_law_found", "_law_many"] : List Str) f_law_are_shares) (H_law_common : DefOk P w K mg base C "_law_common" 2 (["_law_found"] : List Str) f_law_common) (H_law_summed : DefOk P w K mg base C "_law_summed" 1 (["_law_vectors_here", "_law_tops"] : List Str) f_law_summed) (H_law_product : DefOk P w K mg base C "_law_product" 1 (["_law_one", "_law_other"] : List Str) f_law_product) (bn_len : mg "len" = none) (bn_list : mg "list" = none) : FnOk P w K mg base (L2.CX P w) 5 f fd (["_law_script"] : List Str) (spP ⟨K, C⟩ 1 f_law) := by
  refine fn_pure (N := (["_law_script", "_law_vectors_here", "_law_handed", "_law_found", "_law_tops", "_law_bottom", "_law_mixed_here", "_law_vector", "_law_kept"] : List Str)) (ps := (["_law_script"] : List Str)) (g := g_law) Fn sc_law (fun X W b => ?_)
  obtain ⟨e1, e2, e3, e4, e5, b⟩ : P = X.prog ∧ w = X.w ∧ K = X.K ∧ mg = X.mg ∧ base = X.base ∧ BX X W P w K mg base (["_law_script", "_law_vectors_here", "_law_handed", "_law_found", "_law_tops", "_law_bottom", "_law_mixed_here", "_law_vector", "_law_kept"] : List Str) (defScope s_law) 4 := ⟨b.prog, b.w, b.K, b.mg, b.base, b⟩
  subst e1 e2 e3 e4 e5
  have Dx := DX.of b.n sc_law.nd b.calm b.sc sc_law.kind b.room.units b.fn cn_law cs_law
  exact (s_cons (s_set Dx 1 (x_def Dx 0 H_law_vectors b.room (by decide) (a_cons (x_var Dx 0) a_nil) (aCons_len aNil_len))) (s_cons (s_set Dx 2 (v_ofN (x_list Dx 1 (bn_list) (x_svar Dx 1)))) (s_cons (s_setO Dx 3 (x_defN Dx 2 H_nearest_shares b.room (by decide) (a_cons (x_var Dx 2) a_nil) (aCons_len aNil_len))) (s_cons (s_if (PW.pt (q_or (xq_ne Dx (x_var Dx 2) (x_var Dx 1)) (q_or1 (q_not (q_val (b_val [3] (x_def Dx 3 H_law_are_shares b.room (by decide) (a_cons (x_var Dx 3) (a_cons (x_len Dx 4 (bn_len) (x_svar Dx 1)) a_nil)) (aCons_len (aCons_len aNil_len))))))))) (s_cons (s_ret v_bl) s_nil) s_nil) (s_cons (s_asg (vs := [4, 5]) (b_lend [3] (x_def Dx 5 H_law_common b.room (by decide) (a_cons (x_var Dx 3) a_nil) (aCons_len aNil_len))) (g_tup (n := 2) Dx.calm (gs_cons (x_gname Dx 4) (gs_cons (x_gname Dx 5) gs_nil)))) (s_cons (s_set Dx 6 (x_def Dx 6 H_law_summed b.room (by decide) (a_cons (x_var Dx 1) (a_cons (x_var Dx 4) a_nil)) (aCons_len (aCons_len aNil_len)))) (s_cons (s_for (vs := [7]) b.own Dx.calm (i_seq (x_var Dx 1)) (x_gname Dx 7) (s_cons (s_if (q_lt (v_mulI (x_var Dx 5) (x_def Dx 7 H_law_product b.room (by decide) (a_cons (x_var Dx 6) (a_cons (x_var Dx 7) a_nil)) (aCons_len (aCons_len aNil_len)))) (x_def Dx 7 H_law_product b.room (by decide) (a_cons (x_var Dx 6) (a_cons (x_var Dx 6) a_nil)) (aCons_len (aCons_len aNil_len)))) (s_cons (s_ret v_bl) s_nil) s_nil) s_nil)) (s_cons (s_set Dx 8 (v_ofN (x_list Dx 1 (bn_list) (x_svar Dx 3)))) (s_cons (s_if (q_bor [3] (PW.pt (q_or (xq_ne Dx (x_def Dx 2 H_nearest_shares b.room (by decide) (a_cons (v_ofN (n_lst (a_cons (v_tup (a_cons v_int (a_cons v_int a_nil))) (a_cons (v_tup (a_cons v_int (a_cons v_int a_nil))) a_nil)))) a_nil) (aCons_len aNil_len)) (v_ofN (n_lst (a_cons (v_tup (a_cons v_int (a_cons v_int a_nil))) (a_cons (v_tup (a_cons v_int (a_cons v_int a_nil))) a_nil))))) (q_or1 (xq_ne Dx (x_var Dx 3) (x_var Dx 8)))))) (s_cons (s_ret v_bl) s_nil) s_nil) (s_cons (s_clr Dx 3) (s_cons (s_ret (x_eq Dx (x_def Dx 2 H_nearest_shares b.room (by decide) (a_cons (x_var Dx 2) a_nil) (aCons_len aNil_len)) (x_var Dx 8))) s_nil)))))))))))
end
end Lw
namespace Lw
open PySem L2 VS
open PyProof.Rows hiding St
theorem all_mk {P : Program} {w : World} {K : PySem.W.Frag} {h : Heap} {mg : Str → Option Value} {fa f1 f2 f3 f4 f5 f6 f7 f8 f9 f10 f11 f12 f13 f14 f15 f16 f17 f18 f19 f20 f21 f22 f23 e_NoFraction : Addr} (X : K.In h) (G : h.Ns mainGlobals mg) (hfa : mg "law" = some (.ref fa))
    {od1 an1 od2 an2 od3 an3 od4 an4 od5 an5 od6 an6 od7 an7 od8 an8 od9 an9 od10 an10 od11 an11 od12 an12 od13 an13 od14 an14 od15 an15 od16 an16 od17 an17 od18 an18 od19 an19 od20 an20 od21 an21 od22 an22 od23 an23 : Option Addr} {sl1 sl2 sl3 sl4 sl5 sl6 sl7 sl8 sl9 sl10 sl11 sl12 sl13 sl14 sl15 sl16 sl17 sl18 sl19 sl20 sl21 sl22 sl23 : Array (Option Value)} {oc1 kV1 dc1 pm1 cd1 ct1 oc2 kV2 dc2 pm2 cd2 ct2 oc3 kV3 dc3 pm3 cd3 ct3 oc4 kV4 dc4 pm4 cd4 ct4 oc5 kV5 dc5 pm5 cd5 ct5 oc6 kV6 dc6 pm6 cd6 ct6 oc7 kV7 dc7 pm7 cd7 ct7 oc8 kV8 dc8 pm8 cd8 ct8 oc9 kV9 dc9 pm9 cd9 ct9 oc10 kV10 dc10 pm10 cd10 ct10 oc11 kV11 dc11 pm11 cd11 ct11 oc12 kV12 dc12 pm12 cd12 ct12 oc13 kV13 dc13 pm13 cd13 ct13 oc14 kV14 dc14 pm14 cd14 ct14 oc15 kV15 dc15 pm15 cd15 ct15 oc16 kV16 dc16 pm16 cd16 ct16 oc17 kV17 dc17 pm17 cd17 ct17 oc18 kV18 dc18 pm18 cd18 ct18 oc19 kV19 dc19 pm19 cd19 ct19 oc20 kV20 dc20 pm20 cd20 ct20 oc21 kV21 dc21 pm21 cd21 ct21 oc22 kV22 dc22 pm22 cd22 ct22 oc23 kV23 dc23 pm23 cd23 ct23 : Value}
    (a1 : PySem.W.nsIn K mainGlobals "shared_factor" = some (some (.ref f1))) (l1 : K.lookup f1 = some ⟨oc1, od1, .func (PySem.W.fnOf "shared_factor" "shared_factor" (defArgs s_shared_factor) (defBody s_shared_factor) (defScope s_shared_factor) .none kV1 dc1 pm1 an1 cd1 ct1), sl1⟩) (c1 : PySem.W.codeIn K cd1 "shared_factor" = true) (k1 : PySem.W.keepIn K (.ref f1) = true)
    (a2 : PySem.W.nsIn K mainGlobals "part" = some (some (.ref f2))) (l2 : K.lookup f2 = some ⟨oc2, od2, .func (PySem.W.fnOf "part" "part" (defArgs s_part) (defBody s_part) (defScope s_part) .none kV2 dc2 pm2 an2 cd2 ct2), sl2⟩) (c2 : PySem.W.codeIn K cd2 "part" = true) (k2 : PySem.W.keepIn K (.ref f2) = true)
    (a3 : PySem.W.nsIn K mainGlobals "product" = some (some (.ref f3))) (l3 : K.lookup f3 = some ⟨oc3, od3, .func (PySem.W.fnOf "product" "product" (defArgs s_product) (defBody s_product) (defScope s_product) .none kV3 dc3 pm3 an3 cd3 ct3), sl3⟩) (c3 : PySem.W.codeIn K cd3 "product" = true) (k3 : PySem.W.keepIn K (.ref f3) = true)
    (a4 : PySem.W.nsIn K mainGlobals "square" = some (some (.ref f4))) (l4 : K.lookup f4 = some ⟨oc4, od4, .func (PySem.W.fnOf "square" "square" (defArgs s_square) (defBody s_square) (defScope s_square) .none kV4 dc4 pm4 an4 cd4 ct4), sl4⟩) (c4 : PySem.W.codeIn K cd4 "square" = true) (k4 : PySem.W.keepIn K (.ref f4) = true)
    (a5 : PySem.W.nsIn K mainGlobals "eliminated" = some (some (.ref f5))) (l5 : K.lookup f5 = some ⟨oc5, od5, .func (PySem.W.fnOf "eliminated" "eliminated" (defArgs s_eliminated) (defBody s_eliminated) (defScope s_eliminated) .none kV5 dc5 pm5 an5 cd5 ct5), sl5⟩) (c5 : PySem.W.codeIn K cd5 "eliminated" = true) (k5 : PySem.W.keepIn K (.ref f5) = true)
    (a6 : PySem.W.nsIn K mainGlobals "flat_tops" = some (some (.ref f6))) (l6 : K.lookup f6 = some ⟨oc6, od6, .func (PySem.W.fnOf "flat_tops" "flat_tops" (defArgs s_flat_tops) (defBody s_flat_tops) (defScope s_flat_tops) .none kV6 dc6 pm6 an6 cd6 ct6), sl6⟩) (c6 : PySem.W.codeIn K cd6 "flat_tops" = true) (k6 : PySem.W.keepIn K (.ref f6) = true)
    (a7 : PySem.W.nsIn K mainGlobals "lowest_terms" = some (some (.ref f7))) (l7 : K.lookup f7 = some ⟨oc7, od7, .func (PySem.W.fnOf "lowest_terms" "lowest_terms" (defArgs s_lowest_terms) (defBody s_lowest_terms) (defScope s_lowest_terms) .none kV7 dc7 pm7 an7 cd7 ct7), sl7⟩) (c7 : PySem.W.codeIn K cd7 "lowest_terms" = true) (k7 : PySem.W.keepIn K (.ref f7) = true)
    (a8 : PySem.W.nsIn K mainGlobals "first_left" = some (some (.ref f8))) (l8 : K.lookup f8 = some ⟨oc8, od8, .func (PySem.W.fnOf "first_left" "first_left" (defArgs s_first_left) (defBody s_first_left) (defScope s_first_left) .none kV8 dc8 pm8 an8 cd8 ct8), sl8⟩) (c8 : PySem.W.codeIn K cd8 "first_left" = true) (k8 : PySem.W.keepIn K (.ref f8) = true)
    (a9 : PySem.W.nsIn K mainGlobals "brought_in" = some (some (.ref f9))) (l9 : K.lookup f9 = some ⟨oc9, od9, .func (PySem.W.fnOf "brought_in" "brought_in" (defArgs s_brought_in) (defBody s_brought_in) (defScope s_brought_in) .none kV9 dc9 pm9 an9 cd9 ct9), sl9⟩) (c9 : PySem.W.codeIn K cd9 "brought_in" = true) (k9 : PySem.W.keepIn K (.ref f9) = true)
    (a10 : PySem.W.nsIn K mainGlobals "summed" = some (some (.ref f10))) (l10 : K.lookup f10 = some ⟨oc10, od10, .func (PySem.W.fnOf "summed" "summed" (defArgs s_summed) (defBody s_summed) (defScope s_summed) .none kV10 dc10 pm10 an10 cd10 ct10), sl10⟩) (c10 : PySem.W.codeIn K cd10 "summed" = true) (k10 : PySem.W.keepIn K (.ref f10) = true)
    (a11 : PySem.W.nsIn K mainGlobals "least_at" = some (some (.ref f11))) (l11 : K.lookup f11 = some ⟨oc11, od11, .func (PySem.W.fnOf "least_at" "least_at" (defArgs s_least_at) (defBody s_least_at) (defScope s_least_at) .none kV11 dc11 pm11 an11 cd11 ct11), sl11⟩) (c11 : PySem.W.codeIn K cd11 "least_at" = true) (k11 : PySem.W.keepIn K (.ref f11) = true)
    (a12 : PySem.W.nsIn K mainGlobals "nearest_shares" = some (some (.ref f12))) (l12 : K.lookup f12 = some ⟨oc12, od12, .func (PySem.W.fnOf "nearest_shares" "nearest_shares" (defArgs s_nearest_shares) (defBody s_nearest_shares) (defScope s_nearest_shares) .none kV12 dc12 pm12 an12 cd12 ct12), sl12⟩) (c12 : PySem.W.codeIn K cd12 "nearest_shares" = true) (k12 : PySem.W.keepIn K (.ref f12) = true)
    (a13 : PySem.W.nsIn K mainGlobals "_law_cell_at" = some (some (.ref f13))) (l13 : K.lookup f13 = some ⟨oc13, od13, .func (PySem.W.fnOf "_law_cell_at" "_law_cell_at" (defArgs s_law_cell_at) (defBody s_law_cell_at) (defScope s_law_cell_at) .none kV13 dc13 pm13 an13 cd13 ct13), sl13⟩) (c13 : PySem.W.codeIn K cd13 "_law_cell_at" = true) (k13 : PySem.W.keepIn K (.ref f13) = true)
    (a14 : PySem.W.nsIn K mainGlobals "_law_mixed" = some (some (.ref f14))) (l14 : K.lookup f14 = some ⟨oc14, od14, .func (PySem.W.fnOf "_law_mixed" "_law_mixed" (defArgs s_law_mixed) (defBody s_law_mixed) (defScope s_law_mixed) .none kV14 dc14 pm14 an14 cd14 ct14), sl14⟩) (c14 : PySem.W.codeIn K cd14 "_law_mixed" = true) (k14 : PySem.W.keepIn K (.ref f14) = true)
    (a15 : PySem.W.nsIn K mainGlobals "_law_draws" = some (some (.ref f15))) (l15 : K.lookup f15 = some ⟨oc15, od15, .func (PySem.W.fnOf "_law_draws" "_law_draws" (defArgs s_law_draws) (defBody s_law_draws) (defScope s_law_draws) .none kV15 dc15 pm15 an15 cd15 ct15), sl15⟩) (c15 : PySem.W.codeIn K cd15 "_law_draws" = true) (k15 : PySem.W.keepIn K (.ref f15) = true)
    (a16 : PySem.W.nsIn K mainGlobals "_law_vectors" = some (some (.ref f16))) (l16 : K.lookup f16 = some ⟨oc16, od16, .func (PySem.W.fnOf "_law_vectors" "_law_vectors" (defArgs s_law_vectors) (defBody s_law_vectors) (defScope s_law_vectors) .none kV16 dc16 pm16 an16 cd16 ct16), sl16⟩) (c16 : PySem.W.codeIn K cd16 "_law_vectors" = true) (k16 : PySem.W.keepIn K (.ref f16) = true)
    (a17 : PySem.W.nsIn K mainGlobals "_law_factor" = some (some (.ref f17))) (l17 : K.lookup f17 = some ⟨oc17, od17, .func (PySem.W.fnOf "_law_factor" "_law_factor" (defArgs s_law_factor) (defBody s_law_factor) (defScope s_law_factor) .none kV17 dc17 pm17 an17 cd17 ct17), sl17⟩) (c17 : PySem.W.codeIn K cd17 "_law_factor" = true) (k17 : PySem.W.keepIn K (.ref f17) = true)
    (a18 : PySem.W.nsIn K mainGlobals "_law_is_part" = some (some (.ref f18))) (l18 : K.lookup f18 = some ⟨oc18, od18, .func (PySem.W.fnOf "_law_is_part" "_law_is_part" (defArgs s_law_is_part) (defBody s_law_is_part) (defScope s_law_is_part) .none kV18 dc18 pm18 an18 cd18 ct18), sl18⟩) (c18 : PySem.W.codeIn K cd18 "_law_is_part" = true) (k18 : PySem.W.keepIn K (.ref f18) = true)
    (a19 : PySem.W.nsIn K mainGlobals "_law_are_shares" = some (some (.ref f19))) (l19 : K.lookup f19 = some ⟨oc19, od19, .func (PySem.W.fnOf "_law_are_shares" "_law_are_shares" (defArgs s_law_are_shares) (defBody s_law_are_shares) (defScope s_law_are_shares) .none kV19 dc19 pm19 an19 cd19 ct19), sl19⟩) (c19 : PySem.W.codeIn K cd19 "_law_are_shares" = true) (k19 : PySem.W.keepIn K (.ref f19) = true)
    (a20 : PySem.W.nsIn K mainGlobals "_law_common" = some (some (.ref f20))) (l20 : K.lookup f20 = some ⟨oc20, od20, .func (PySem.W.fnOf "_law_common" "_law_common" (defArgs s_law_common) (defBody s_law_common) (defScope s_law_common) .none kV20 dc20 pm20 an20 cd20 ct20), sl20⟩) (c20 : PySem.W.codeIn K cd20 "_law_common" = true) (k20 : PySem.W.keepIn K (.ref f20) = true)
    (a21 : PySem.W.nsIn K mainGlobals "_law_summed" = some (some (.ref f21))) (l21 : K.lookup f21 = some ⟨oc21, od21, .func (PySem.W.fnOf "_law_summed" "_law_summed" (defArgs s_law_summed) (defBody s_law_summed) (defScope s_law_summed) .none kV21 dc21 pm21 an21 cd21 ct21), sl21⟩) (c21 : PySem.W.codeIn K cd21 "_law_summed" = true) (k21 : PySem.W.keepIn K (.ref f21) = true)
    (a22 : PySem.W.nsIn K mainGlobals "_law_product" = some (some (.ref f22))) (l22 : K.lookup f22 = some ⟨oc22, od22, .func (PySem.W.fnOf "_law_product" "_law_product" (defArgs s_law_product) (defBody s_law_product) (defScope s_law_product) .none kV22 dc22 pm22 an22 cd22 ct22), sl22⟩) (c22 : PySem.W.codeIn K cd22 "_law_product" = true) (k22 : PySem.W.keepIn K (.ref f22) = true)
    (a23 : PySem.W.nsIn K mainGlobals "law" = some (some (.ref f23))) (l23 : K.lookup f23 = some ⟨oc23, od23, .func (PySem.W.fnOf "law" "law" (defArgs s_law) (defBody s_law) (defScope s_law) .none kV23 dc23 pm23 an23 cd23 ct23), sl23⟩) (c23 : PySem.W.codeIn K cd23 "law" = true) (k23 : PySem.W.keepIn K (.ref f23) = true)
    (z_abs : PySem.W.nsIn K mainGlobals "abs" = some none)
    (z_bool : PySem.W.nsIn K mainGlobals "bool" = some none)
    (z_enumerate : PySem.W.nsIn K mainGlobals "enumerate" = some none)
    (z_int : PySem.W.nsIn K mainGlobals "int" = some none)
    (z_isinstance : PySem.W.nsIn K mainGlobals "isinstance" = some none)
    (z_len : PySem.W.nsIn K mainGlobals "len" = some none)
    (z_list : PySem.W.nsIn K mainGlobals "list" = some none)
    (z_min : PySem.W.nsIn K mainGlobals "min" = some none)
    (z_range : PySem.W.nsIn K mainGlobals "range" = some none)
    (z_sum : PySem.W.nsIn K mainGlobals "sum" = some none)
    (z_tuple : PySem.W.nsIn K mainGlobals "tuple" = some none)
    (z_zip : PySem.W.nsIn K mainGlobals "zip" = some none)
    (aE_NoFraction : PySem.W.nsIn K mainGlobals "NoFraction" = some (some (.ref e_NoFraction)))
    (tE_NoFraction : PySem.W.typeIn K (.ref e_NoFraction) = some (.type "type"))
    (bE_NoFraction : PySem.W.subIn K (.ref e_NoFraction) (.type "BaseException") = some true)
    (xE_NoFraction : PySem.W.excIn K e_NoFraction bmVE "ValueError.__new__" = true)
    (kE_NoFraction : PySem.W.keepIn K (.ref e_NoFraction) = true)
    (hall : ∀ ns : List Int, ns.length ≤ 63 → (∀ z ∈ ns, Builtin.Int.intBits z ≤ 1048576) → f_law [.lst (ns.map D.int)] = some (.val (.bl true))) :
    ∃ fd : FuncData, (∀ (s : Shared) (v : Value), BindsTo s fd ⟨[v], []⟩ [("_law_script", v)]) ∧ ∀ base : Heap, K.In base → base.Ns mainGlobals mg → FnOk P w K mg base (L2.CX P w) 5 fa fd (["_law_script"] : List Str) (spLaw K) := by
  have e := hfa.symm.trans (PySem.W.mg_of X G a23)
  cases e
  have F1 := fun_mk (st := s_shared_factor) l1 c1 k1
  have F2 := fun_mk (st := s_part) l2 c2 k2
  have F3 := fun_mk (st := s_product) l3 c3 k3
  have F4 := fun_mk (st := s_square) l4 c4 k4
  have F5 := fun_mk (st := s_eliminated) l5 c5 k5
  have F6 := fun_mk (st := s_flat_tops) l6 c6 k6
  have F7 := fun_mk (st := s_lowest_terms) l7 c7 k7
  have F8 := fun_mk (st := s_first_left) l8 c8 k8
  have F9 := fun_mk (st := s_brought_in) l9 c9 k9
  have F10 := fun_mk (st := s_summed) l10 c10 k10
  have F11 := fun_mk (st := s_least_at) l11 c11 k11
  have F12 := fun_mk (st := s_nearest_shares) l12 c12 k12
  have F13 := fun_mk (st := s_law_cell_at) l13 c13 k13
  have F14 := fun_mk (st := s_law_mixed) l14 c14 k14
  have F15 := fun_mk (st := s_law_draws) l15 c15 k15
  have F16 := fun_mk (st := s_law_vectors) l16 c16 k16
  have F17 := fun_mk (st := s_law_factor) l17 c17 k17
  have F18 := fun_mk (st := s_law_is_part) l18 c18 k18
  have F19 := fun_mk (st := s_law_are_shares) l19 c19 k19
  have F20 := fun_mk (st := s_law_common) l20 c20 k20
  have F21 := fun_mk (st := s_law_summed) l21 c21 k21
  have F22 := fun_mk (st := s_law_product) l22 c22 k22
  have F23 := fun_mk (st := s_law) l23 c23 k23
  have b1 := F1.binds (ps := (["one", "other"] : List Str)) fun _ _ _ _ _ _ us hl => match us, hl with | [_, _], _ => rfl
  have b2 := F2.binds (ps := (["top", "bottom"] : List Str)) fun _ _ _ _ _ _ us hl => match us, hl with | [_, _], _ => rfl
  have b3 := F3.binds (ps := (["one", "other"] : List Str)) fun _ _ _ _ _ _ us hl => match us, hl with | [_, _], _ => rfl
  have b4 := F4.binds (ps := (["one"] : List Str)) fun _ _ _ _ _ _ us hl => match us, hl with | [_], _ => rfl
  have b5 := F5.binds (ps := (["table"] : List Str)) fun _ _ _ _ _ _ us hl => match us, hl with | [_], _ => rfl
  have b6 := F6.binds (ps := (["vectors", "some"] : List Str)) fun _ _ _ _ _ _ us hl => match us, hl with | [_, _], _ => rfl
  have b7 := F7.binds (ps := (["tops", "bottom"] : List Str)) fun _ _ _ _ _ _ us hl => match us, hl with | [_, _], _ => rfl
  have b8 := F8.binds (ps := (["tops", "bottom", "flat", "under"] : List Str)) fun _ _ _ _ _ _ us hl => match us, hl with | [_, _, _, _], _ => rfl
  have b9 := F9.binds (ps := (["vectors", "some", "tops", "bottom"] : List Str)) fun _ _ _ _ _ _ us hl => match us, hl with | [_, _, _, _], _ => rfl
  have b10 := F10.binds (ps := (["vectors", "some", "tops"] : List Str)) fun _ _ _ _ _ _ us hl => match us, hl with | [_, _, _], _ => rfl
  have b11 := F11.binds (ps := (["vectors", "mixed"] : List Str)) fun _ _ _ _ _ _ us hl => match us, hl with | [_, _], _ => rfl
  have b12 := F12.binds (ps := (["vectors"] : List Str)) fun _ _ _ _ _ _ us hl => match us, hl with | [_], _ => rfl
  have b13 := F13.binds (ps := (["_law_script", "_law_k"] : List Str)) fun _ _ _ _ _ _ us hl => match us, hl with | [_, _], _ => rfl
  have b14 := F14.binds (ps := (["_law_cell", "_law_k"] : List Str)) fun _ _ _ _ _ _ us hl => match us, hl with | [_, _], _ => rfl
  have b15 := F15.binds (ps := (["_law_cell", "_law_most", "_law_many", "_law_way"] : List Str)) fun _ _ _ _ _ _ us hl => match us, hl with | [_, _, _, _], _ => rfl
  have b16 := F16.binds (ps := (["_law_script"] : List Str)) fun _ _ _ _ _ _ us hl => match us, hl with | [_], _ => rfl
  have b17 := F17.binds (ps := (["_law_one", "_law_other"] : List Str)) fun _ _ _ _ _ _ us hl => match us, hl with | [_, _], _ => rfl
  have b18 := F18.binds (ps := (["_law_found", "_law_top", "_law_bottom"] : List Str)) fun _ _ _ _ _ _ us hl => match us, hl with | [_, _, _], _ => rfl
  have b19 := F19.binds (ps := (["_law_found", "_law_many"] : List Str)) fun _ _ _ _ _ _ us hl => match us, hl with | [_, _], _ => rfl
  have b20 := F20.binds (ps := (["_law_found"] : List Str)) fun _ _ _ _ _ _ us hl => match us, hl with | [_], _ => rfl
  have b21 := F21.binds (ps := (["_law_vectors_here", "_law_tops"] : List Str)) fun _ _ _ _ _ _ us hl => match us, hl with | [_, _], _ => rfl
  have b22 := F22.binds (ps := (["_law_one", "_law_other"] : List Str)) fun _ _ _ _ _ _ us hl => match us, hl with | [_, _], _ => rfl
  have bn_abs := PySem.W.mg_none_of X G z_abs
  have bn_bool := PySem.W.mg_none_of X G z_bool
  have bn_enumerate := PySem.W.mg_none_of X G z_enumerate
  have bn_int := PySem.W.mg_none_of X G z_int
  have bn_isinstance := PySem.W.mg_none_of X G z_isinstance
  have bn_len := PySem.W.mg_none_of X G z_len
  have bn_list := PySem.W.mg_none_of X G z_list
  have bn_min := PySem.W.mg_none_of X G z_min
  have bn_range := PySem.W.mg_none_of X G z_range
  have bn_sum := PySem.W.mg_none_of X G z_sum
  have bn_tuple := PySem.W.mg_none_of X G z_tuple
  have bn_zip := PySem.W.mg_none_of X G z_zip
  have E_NoFraction : ExcOk K mg (fun x => ([("NoFraction", e_NoFraction)] : List (Str × Addr)).lookup x) "NoFraction" := ⟨e_NoFraction, rfl, PySem.W.mg_of X G aE_NoFraction, xE_NoFraction, kE_NoFraction, bE_NoFraction, tE_NoFraction⟩
  refine ⟨PySem.W.fnOf "law" "law" (defArgs s_law) (defBody s_law) (defScope s_law) .none kV23 dc23 pm23 an23 cd23 ct23, fun s v => .of_eq rfl, fun base _ _ => ?_⟩
  have H_shared_factor : DefOk P w K mg base (fun x => ([("NoFraction", e_NoFraction)] : List (Str × Addr)).lookup x) "shared_factor" 1 (["one", "other"] : List Str) f_shared_factor := ⟨f1, _, fk_shared_factor F1 bn_abs, PySem.W.mg_of X G a1, k1, b1⟩
  have H_part : DefOk P w K mg base (fun x => ([("NoFraction", e_NoFraction)] : List (Str × Addr)).lookup x) "part" 2 (["top", "bottom"] : List Str) f_part := ⟨f2, _, fk_part F2 H_shared_factor E_NoFraction, PySem.W.mg_of X G a2, k2, b2⟩
  have H_product : DefOk P w K mg base (fun x => ([("NoFraction", e_NoFraction)] : List (Str × Addr)).lookup x) "product" 1 (["one", "other"] : List Str) f_product := ⟨f3, _, fk_product F3 bn_sum bn_zip, PySem.W.mg_of X G a3, k3, b3⟩
  have H_square : DefOk P w K mg base (fun x => ([("NoFraction", e_NoFraction)] : List (Str × Addr)).lookup x) "square" 2 (["one"] : List Str) f_square := ⟨f4, _, fk_square F4 H_product, PySem.W.mg_of X G a4, k4, b4⟩
  have H_eliminated : DefW P w K mg base (fun x => ([("NoFraction", e_NoFraction)] : List (Str × Addr)).lookup x) "eliminated" 1 (["table"] : List Str) f_eliminated := ⟨f5, _, fk_eliminated F5 bn_len bn_range bn_zip, PySem.W.mg_of X G a5, k5, b5⟩
  have H_flat_tops : DefOk P w K mg base (fun x => ([("NoFraction", e_NoFraction)] : List (Str × Addr)).lookup x) "flat_tops" 2 (["vectors", "some"] : List Str) f_flat_tops := ⟨f6, _, fk_flat_tops F6 H_product H_eliminated, PySem.W.mg_of X G a6, k6, b6⟩
  have H_lowest_terms : DefOk P w K mg base (fun x => ([("NoFraction", e_NoFraction)] : List (Str × Addr)).lookup x) "lowest_terms" 2 (["tops", "bottom"] : List Str) f_lowest_terms := ⟨f7, _, fk_lowest_terms F7 H_shared_factor, PySem.W.mg_of X G a7, k7, b7⟩
  have H_first_left : DefOk P w K mg base (fun x => ([("NoFraction", e_NoFraction)] : List (Str × Addr)).lookup x) "first_left" 1 (["tops", "bottom", "flat", "under"] : List Str) f_first_left := ⟨f8, _, fk_first_left F8 bn_zip, PySem.W.mg_of X G a8, k8, b8⟩
  have H_brought_in : DefOk P w K mg base (fun x => ([("NoFraction", e_NoFraction)] : List (Str × Addr)).lookup x) "brought_in" 3 (["vectors", "some", "tops", "bottom"] : List Str) f_brought_in := ⟨f9, _, fk_brought_in F9 H_flat_tops H_lowest_terms H_first_left bn_len bn_min bn_range bn_zip, PySem.W.mg_of X G a9, k9, b9⟩
  have H_summed : DefOk P w K mg base (fun x => ([("NoFraction", e_NoFraction)] : List (Str × Addr)).lookup x) "summed" 1 (["vectors", "some", "tops"] : List Str) f_summed := ⟨f10, _, fk_summed F10 bn_zip, PySem.W.mg_of X G a10, k10, b10⟩
  have H_least_at : DefOk P w K mg base (fun x => ([("NoFraction", e_NoFraction)] : List (Str × Addr)).lookup x) "least_at" 2 (["vectors", "mixed"] : List Str) f_least_at := ⟨f11, _, fk_least_at F11 H_product bn_enumerate, PySem.W.mg_of X G a11, k11, b11⟩
  have H_nearest_shares : DefOk P w K mg base (fun x => ([("NoFraction", e_NoFraction)] : List (Str × Addr)).lookup x) "nearest_shares" 4 (["vectors"] : List Str) f_nearest_shares := ⟨f12, _, fk_nearest_shares F12 H_part H_product H_square H_brought_in H_summed H_least_at bn_min bn_zip, PySem.W.mg_of X G a12, k12, b12⟩
  have H_law_cell_at : DefOk P w K mg base (fun x => ([("NoFraction", e_NoFraction)] : List (Str × Addr)).lookup x) "_law_cell_at" 1 (["_law_script", "_law_k"] : List Str) f_law_cell_at := ⟨f13, _, fk_law_cell_at F13 bn_len, PySem.W.mg_of X G a13, k13, b13⟩
  have H_law_mixed : DefOk P w K mg base (fun x => ([("NoFraction", e_NoFraction)] : List (Str × Addr)).lookup x) "_law_mixed" 1 (["_law_cell", "_law_k"] : List Str) f_law_mixed := ⟨f14, _, fk_law_mixed F14, PySem.W.mg_of X G a14, k14, b14⟩
  have H_law_draws : DefOk P w K mg base (fun x => ([("NoFraction", e_NoFraction)] : List (Str × Addr)).lookup x) "_law_draws" 2 (["_law_cell", "_law_most", "_law_many", "_law_way"] : List Str) f_law_draws := ⟨f15, _, fk_law_draws F15 H_law_mixed bn_abs bn_range, PySem.W.mg_of X G a15, k15, b15⟩
  have H_law_vectors : DefOk P w K mg base (fun x => ([("NoFraction", e_NoFraction)] : List (Str × Addr)).lookup x) "_law_vectors" 3 (["_law_script"] : List Str) f_law_vectors := ⟨f16, _, fk_law_vectors F16 H_law_cell_at H_law_mixed H_law_draws bn_int bn_range bn_tuple, PySem.W.mg_of X G a16, k16, b16⟩
  have H_law_factor : DefOk P w K mg base (fun x => ([("NoFraction", e_NoFraction)] : List (Str × Addr)).lookup x) "_law_factor" 1 (["_law_one", "_law_other"] : List Str) f_law_factor := ⟨f17, _, fk_law_factor F17 bn_abs, PySem.W.mg_of X G a17, k17, b17⟩
  have H_law_is_part : DefOk P w K mg base (fun x => ([("NoFraction", e_NoFraction)] : List (Str × Addr)).lookup x) "_law_is_part" 2 (["_law_found", "_law_top", "_law_bottom"] : List Str) f_law_is_part := ⟨f18, _, fk_law_is_part F18 H_law_factor bn_bool bn_int bn_isinstance bn_len bn_tuple, PySem.W.mg_of X G a18, k18, b18⟩
  have H_law_are_shares : DefOk P w K mg base (fun x => ([("NoFraction", e_NoFraction)] : List (Str × Addr)).lookup x) "_law_are_shares" 3 (["_law_found", "_law_many"] : List Str) f_law_are_shares := ⟨f19, _, fk_law_are_shares F19 H_law_factor H_law_is_part bn_isinstance bn_len bn_list, PySem.W.mg_of X G a19, k19, b19⟩
  have H_law_common : DefOk P w K mg base (fun x => ([("NoFraction", e_NoFraction)] : List (Str × Addr)).lookup x) "_law_common" 2 (["_law_found"] : List Str) f_law_common := ⟨f20, _, fk_law_common F20 H_law_factor, PySem.W.mg_of X G a20, k20, b20⟩
  have H_law_summed : DefOk P w K mg base (fun x => ([("NoFraction", e_NoFraction)] : List (Str × Addr)).lookup x) "_law_summed" 1 (["_law_vectors_here", "_law_tops"] : List Str) f_law_summed := ⟨f21, _, fk_law_summed F21 bn_zip, PySem.W.mg_of X G a21, k21, b21⟩
  have H_law_product : DefOk P w K mg base (fun x => ([("NoFraction", e_NoFraction)] : List (Str × Addr)).lookup x) "_law_product" 1 (["_law_one", "_law_other"] : List Str) f_law_product := ⟨f22, _, fk_law_product F22 bn_sum bn_zip, PySem.W.mg_of X G a22, k22, b22⟩
  exact law_imp (C := (fun x => ([("NoFraction", e_NoFraction)] : List (Str × Addr)).lookup x)) (fk_law F23 H_nearest_shares H_law_vectors H_law_are_shares H_law_common H_law_summed H_law_product bn_len bn_list) hall
end Lw
open PySem PySem.W PyProof.Rows
set_option maxRecDepth 100000 in
set_option maxHeartbeats 0 in
theorem PySem.Challenge.cw_mendweights_k22_nearest_walked_holds : PySem.Challenge.rw_mendweights_k22_nearest_walked.Holds := by
  w_on; o_law; k_head; (case hw => w_witness2)
  k_fill
  refine VS.law_walk (l := PySem.Challenge.rw_mendweights_k22_nearest_walked) (k := 5) (x := "_law_script") rfl rfl ⟨rfl, by decide, by decide⟩ (fun w h Y => PySem.W.kIn_of Y) ?F
  case F =>
    intro w mg fa h KX G hmg
    refine' Lw.all_mk KX G hmg ?a1 ?l1 ?c1 ?k1 ?a2 ?l2 ?c2 ?k2 ?a3 ?l3 ?c3 ?k3 ?a4 ?l4 ?c4 ?k4 ?a5 ?l5 ?c5 ?k5 ?a6 ?l6 ?c6 ?k6 ?a7 ?l7 ?c7 ?k7 ?a8 ?l8 ?c8 ?k8 ?a9 ?l9 ?c9 ?k9 ?a10 ?l10 ?c10 ?k10 ?a11 ?l11 ?c11 ?k11 ?a12 ?l12 ?c12 ?k12 ?a13 ?l13 ?c13 ?k13 ?a14 ?l14 ?c14 ?k14 ?a15 ?l15 ?c15 ?k15 ?a16 ?l16 ?c16 ?k16 ?a17 ?l17 ?c17 ?k17 ?a18 ?l18 ?c18 ?k18 ?a19 ?l19 ?c19 ?k19 ?a20 ?l20 ?c20 ?k20 ?a21 ?l21 ?c21 ?k21 ?a22 ?l22 ?c22 ?k22 ?a23 ?l23 ?c23 ?k23 ?z_abs ?z_bool ?z_enumerate ?z_int ?z_isinstance ?z_len ?z_list ?z_min ?z_range ?z_sum ?z_tuple ?z_zip ?aE_NoFraction ?tE_NoFraction ?bE_NoFraction ?xE_NoFraction ?kE_NoFraction Lw.law_true
    (case a1 => k_is)
    (case l1 => k_is)
    (case c1 => k_is)
    (case k1 => k_is)
    (case a2 => k_is)
    (case l2 => k_is)
    (case c2 => k_is)
    (case k2 => k_is)
    (case a3 => k_is)
    (case l3 => k_is)
    (case c3 => k_is)
    (case k3 => k_is)
    (case a4 => k_is)
    (case l4 => k_is)
    (case c4 => k_is)
    (case k4 => k_is)
    (case a5 => k_is)
    (case l5 => k_is)
    (case c5 => k_is)
    (case k5 => k_is)
    (case a6 => k_is)
    (case l6 => k_is)
    (case c6 => k_is)
    (case k6 => k_is)
    (case a7 => k_is)
    (case l7 => k_is)
    (case c7 => k_is)
    (case k7 => k_is)
    (case a8 => k_is)
    (case l8 => k_is)
    (case c8 => k_is)
    (case k8 => k_is)
    (case a9 => k_is)
    (case l9 => k_is)
    (case c9 => k_is)
    (case k9 => k_is)
    (case a10 => k_is)
    (case l10 => k_is)
    (case c10 => k_is)
    (case k10 => k_is)
    (case a11 => k_is)
    (case l11 => k_is)
    (case c11 => k_is)
    (case k11 => k_is)
    (case a12 => k_is)
    (case l12 => k_is)
    (case c12 => k_is)
    (case k12 => k_is)
    (case a13 => k_is)
    (case l13 => k_is)
    (case c13 => k_is)
    (case k13 => k_is)
    (case a14 => k_is)
    (case l14 => k_is)
    (case c14 => k_is)
    (case k14 => k_is)
    (case a15 => k_is)
    (case l15 => k_is)
    (case c15 => k_is)
    (case k15 => k_is)
    (case a16 => k_is)
    (case l16 => k_is)
    (case c16 => k_is)
    (case k16 => k_is)
    (case a17 => k_is)
    (case l17 => k_is)
    (case c17 => k_is)
    (case k17 => k_is)
    (case a18 => k_is)
    (case l18 => k_is)
    (case c18 => k_is)
    (case k18 => k_is)
    (case a19 => k_is)
    (case l19 => k_is)
    (case c19 => k_is)
    (case k19 => k_is)
    (case a20 => k_is)
    (case l20 => k_is)
    (case c20 => k_is)
    (case k20 => k_is)
    (case a21 => k_is)
    (case l21 => k_is)
    (case c21 => k_is)
    (case k21 => k_is)
    (case a22 => k_is)
    (case l22 => k_is)
    (case c22 => k_is)
    (case k22 => k_is)
    (case a23 => k_is)
    (case l23 => k_is)
    (case c23 => k_is)
    (case k23 => k_is)
    (case z_abs => k_is)
    (case z_bool => k_is)
    (case z_enumerate => k_is)
    (case z_int => k_is)
    (case z_isinstance => k_is)
    (case z_len => k_is)
    (case z_list => k_is)
    (case z_min => k_is)
    (case z_range => k_is)
    (case z_sum => k_is)
    (case z_tuple => k_is)
    (case z_zip => k_is)
    (case aE_NoFraction => k_is)
    (case tE_NoFraction => k_is)
    (case bE_NoFraction => k_is)
    (case xE_NoFraction => k_exc)
    (case kE_NoFraction => k_is)
#print axioms PySem.Challenge.cw_mendweights_k22_nearest_walked_holds
