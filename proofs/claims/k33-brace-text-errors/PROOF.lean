import PyProof.Rows.All
import Wide.All
import OpenK.AllK
import Wide.FinOn
import HandS.ForMost
import HandS.Exc
import HandS.Flow
import HandS.Wide
import HandS.TupAny
import HandS.TupMul
import HandS.Deep
import PyProof.Rows.RuleB_pow
import PyProof.StrBlock2
import PyProof.ReprRoads
import HandS.CallSlots
import HandS.WordsExc
import HandS.EndBits
import HandS.ExcCtx
import HandS.IsInst
import PyProof.ReprLen
import PyProof.StrLawsRepr
import PyProof.Rows.FactsN_abs
import PyProof.Rows.FactsN_isinstance
import PyProof.Rows.SeqGen
import PyProof.Rows.FactsT3
import HandS.NoneIn
import HandS.Style
import HandS.Zip
import KE.KRevSl
import HandS.Text
import HandS.More
import HandS.Iter
import HandS.Conv
import HandS.ExcOwn
import HandS.Set
import HandS.Strs
import HandS.SetFor
import PyProof.Rows.SortShellAny
import KE.KDictZip
import KE.GoesEnum
import HandS.StrMore
import HandS.Property
import HandS.Star
import HandS.CallRecv
import HandS.Defaults
import HandS.MakeKw
import KE.KExcIs
import KE.KTryMore
import KE.KSuper
import HandS.Nested
import HandS.ExcIs
import KE.RegKSuper
import KE.KIndexOf
import KE.GoesZip
import KE.GoesMore
import HandS.HotCalls
import PySem.Challenge.RW_braceloops_k33_brace_text_errors
set_option Elab.async false
set_option linter.all false
set_option maxRecDepth 100000
/-! PL1: pure data D, the own store, how both lie in the abstract heap; growth of worlds. -/
namespace PL
open PySem PySem.Spec PyProof.Rows L2

/-- data: immutable trees; ref n: the n-th object of the own store -/
inductive D where
  | non | bl (b : Bool) | int (i : Int) | str (s : List Nat) | tup (xs : List D) | lst (xs : List D)
  | scr (ns : List Int) | ref (n : Nat) | vv (v : V) | emp | exn (C n : String) (x : D)
/-- an object of the store -/
inductive Ob where
  | lst (xs : List D) | dct (kvs : List (Key × D)) | dcT (kvs : List (List Key × D)) | ins (C : String) (fs : List (Str × D))
abbrev Store := List (Option Ob)
abbrev Env := List (Option D)
structure Wd where
  bet : Nat → Addr
  st : Store
  hid : List Addr
  H : Hp
/-- what may be written: the store's objects, and lists that are being made -/
def Lv (w : Wd) (a : Addr) : Prop := (∃ n ob, w.st[n]? = some (some ob) ∧ w.bet n = a) ∨ a ∈ w.hid
abbrev toS (s : List Nat) : Str := ⟨s.toArray⟩

/-- a list that nobody writes: known to the object, or of the module -/
def SqK (K : PySem.W.Frag) (H : Hp) (a : Addr) (xs : List V) : Prop := (∃ o, H a = some (.frz o (.lst xs))) ∨
  ∃ (o : Obj) (its : Array Value) (n : Nat), K.lookup a = some o ∧ o.cls = .type "list" ∧ o.dict = none ∧ o.data = .seq its n ∧ its.size ≤ sizeLine ∧ Vals xs its.toList
theorem SqK.sql {K : PySem.W.Frag} {H : Hp} {a : Addr} {xs : List V} (h : SqK K H a xs) : SqL K H a xs := by
  rcases h with h | h
  · exact .inl (.inr h)
  · exact .inr h
/-- an exception that is a value: its one object -/
def exH (a : Addr) (oe : Obj) : HO := .ext fun h => h.get? a = some oe
mutual
def Rep (K : PySem.W.Frag) (w : Wd) : D → V → Prop
  | .non, v => v = .non
  | .bl b, v => v = .bl b
  | .int i, v => v = .int i
  | .str s, v => v = .str (toS s)
  | .tup xs, v => ∃ a vs, v = .ref a ∧ SqT K w.H a vs ∧ Reps K w xs vs
  | .lst xs, v => ∃ a vs, v = .ref a ∧ w.H a = some (.lst vs) ∧ ¬ Lv w a ∧ Reps K w xs vs
  | .scr ns, v => ∃ a, v = .ref a ∧ SqK K w.H a (ns.map V.int)
  | .ref n, v => n < w.st.length ∧ v = .ref (w.bet n)
  | .vv u, v => v = u
  | .emp, v => ∃ a, v = .ref a ∧ w.H a = some (.dK []) ∧ ¬ Lv w a
  | .exn C n x, v => ∃ (a ca : Addr) (oe : Obj), v = .ref a ∧ PySem.W.nsIn K mainGlobals (Str.ofString C) = some (some (.ref ca)) ∧ w.H a = some (.frz oe (exH a oe)) ∧ oe.cls = .ref ca ∧ (∃ vs, oe.data = .fields vs) ∧
    ((n = "" ∧ oe.dict = none) ∨ ∃ (p : Addr) (u : V), oe.dict = some p ∧ w.H p = some (.xd [(Str.ofString n, u)]) ∧ ¬ Lv w p ∧ Rep K w x u)
def Reps (K : PySem.W.Frag) (w : Wd) : List D → List V → Prop
  | [], vs => vs = []
  | x :: xs, vs => ∃ v r, vs = v :: r ∧ Rep K w x v ∧ Reps K w xs r
end

def ObR (K : PySem.W.Frag) (w : Wd) : Ob → Addr → Prop
  | .lst xs, a => ∃ vs, w.H a = some (.lst vs) ∧ Reps K w xs vs
  | .dct kvs, a => ∃ us, w.H a = some (.dK us) ∧ us.map (·.1) = kvs.map (·.1) ∧ Reps K w (kvs.map (·.2)) (us.map (·.2))
  | .dcT kvs, a => ∃ us, w.H a = some (.dT us) ∧ us.map (·.1) = kvs.map (·.1) ∧ Reps K w (kvs.map (·.2)) (us.map (·.2))
  | .ins C fs, a => ∃ ca dx us, PySem.W.nsIn K mainGlobals (Str.ofString C) = some (some (.ref ca)) ∧ w.H a = some (.ins ca dx us) ∧ us.map (·.1) = fs.map (·.1) ∧ Reps K w (fs.map (·.2)) (us.map (·.2))
structure WOk (K : PySem.W.Frag) (w : Wd) : Prop where
  ob : ∀ n ob, w.st[n]? = some (some ob) → ObR K w ob (w.bet n)
  inj : ∀ m n o p, w.st[m]? = some (some o) → w.st[n]? = some (some p) → w.bet m = w.bet n → m = n
  hidL : ∀ a, a ∈ w.hid → ∃ vs, w.H a = some (.lst vs)
  hidN : ∀ a, a ∈ w.hid → ∀ n ob, w.st[n]? = some (some ob) → w.bet n ≠ a
/-- what data asks of a change of worlds -/
structure Ext (w w' : Wd) : Prop where
  len : w.st.length ≤ w'.st.length
  bet : ∀ n, n < w.st.length → w'.bet n = w.bet n
  keep : ∀ a o, w.H a = some o → ¬ Lv w a → w'.H a = some o ∧ ¬ Lv w' a
  tups : ∀ a xs, w.H a = some (.tup xs) → w'.H a = some (.tup xs)
  frzs : ∀ a o u, w.H a = some (.frz o u) → w'.H a = some (.frz o u)
/-- the world grows -/
structure Grow (w w' : Wd) : Prop extends Ext w w' where
  hid : w'.hid = w.hid
  hids : ∀ a, a ∈ w.hid → w'.H a = w.H a
theorem Ext.refl (w : Wd) : Ext w w := ⟨Nat.le_refl _, fun _ _ => rfl, fun _ _ h n => ⟨h, n⟩, fun _ _ h => h, fun _ _ _ h => h⟩
theorem Ext.trans {w w1 w2 : Wd} (a : Ext w w1) (b : Ext w1 w2) : Ext w w2 where
  len := Nat.le_trans a.len b.len
  bet := fun n h => (b.bet n (Nat.lt_of_lt_of_le h a.len)).trans (a.bet n h)
  keep := fun c o h n => let ⟨h1, n1⟩ := a.keep c o h n; b.keep c o h1 n1
  tups := fun c xs h => b.tups c xs (a.tups c xs h)
  frzs := fun c o u h => b.frzs c o u (a.frzs c o u h)
theorem Grow.ext {w w' : Wd} (a : Grow w w') : Ext w w' := a.toExt
theorem Grow.refl (w : Wd) : Grow w w := ⟨Ext.refl w, rfl, fun _ _ => rfl⟩
theorem Grow.trans {w w1 w2 : Wd} (a : Grow w w1) (b : Grow w1 w2) : Grow w w2 where
  toExt := a.ext.trans b.ext
  hid := b.hid.trans a.hid
  hids := fun c h => (b.hids c (by rw [a.hid]; exact h)).trans (a.hids c h)
theorem Ext.sqT {K : PySem.W.Frag} {w w' : Wd} (g : Ext w w') {a : Addr} {vs : List V} (h : SqT K w.H a vs) : SqT K w'.H a vs := by
  rcases h with (h | ⟨o, h⟩) | h
  · exact .inl (.inl (g.tups _ _ h))
  · exact .inl (.inr ⟨o, g.frzs _ _ _ h⟩)
  · exact .inr h
mutual
theorem Rep.ext {K : PySem.W.Frag} {w w' : Wd} (g : Ext w w') : ∀ (d : D) (v : V), Rep K w d v → Rep K w' d v
  | .non, v, h => h
  | .bl b, v, h => h
  | .int i, v, h => h
  | .str s, v, h => h
  | .tup xs, v, h => by
    obtain ⟨a, vs, e, h1, h2⟩ := h
    exact ⟨a, vs, e, g.sqT h1, Reps.ext g xs vs h2⟩
  | .lst xs, v, h => by
    obtain ⟨a, vs, e, h1, h2, h3⟩ := h
    obtain ⟨k1, k2⟩ := g.keep a _ h1 h2
    exact ⟨a, vs, e, k1, k2, Reps.ext g xs vs h3⟩
  | .scr ns, v, h => by
    obtain ⟨a, e, h1⟩ := h
    refine ⟨a, e, ?_⟩
    rcases h1 with ⟨o, h1⟩ | h1
    · exact .inl ⟨o, g.frzs _ _ _ h1⟩
    · exact .inr h1
  | .ref n, v, h => ⟨Nat.lt_of_lt_of_le h.1 g.len, by rw [g.bet n h.1]; exact h.2⟩
  | .vv u, v, h => h
  | .emp, v, h => by
    obtain ⟨a, e, h1, h2⟩ := h
    obtain ⟨k1, k2⟩ := g.keep a _ h1 h2
    exact ⟨a, e, k1, k2⟩
  | .exn C n x, v, h => by
    obtain ⟨a, ca, oe, e, h1, h2, h3, h4, h5⟩ := h
    refine ⟨a, ca, oe, e, h1, g.frzs _ _ _ h2, h3, h4, ?_⟩
    rcases h5 with h5 | ⟨p, u, h5, h6, h7, h8⟩
    · exact .inl h5
    · obtain ⟨k1, k2⟩ := g.keep p _ h6 h7
      exact .inr ⟨p, u, h5, k1, k2, Rep.ext g x u h8⟩
theorem Reps.ext {K : PySem.W.Frag} {w w' : Wd} (g : Ext w w') : ∀ (ds : List D) (vs : List V), Reps K w ds vs → Reps K w' ds vs
  | [], vs, h => h
  | x :: xs, vs, h => by
    obtain ⟨v, r, e, h1, h2⟩ := h
    exact ⟨v, r, e, Rep.ext g x v h1, Reps.ext g xs r h2⟩
end
theorem Rep.grow {K : PySem.W.Frag} {w w' : Wd} (g : Grow w w') (d : D) (v : V) (h : Rep K w d v) : Rep K w' d v := Rep.ext g.ext d v h
theorem Reps.grow {K : PySem.W.Frag} {w w' : Wd} (g : Grow w w') (d : List D) (v : List V) (h : Reps K w d v) : Reps K w' d v := Reps.ext g.ext d v h
section
variable {K : PySem.W.Frag} {w w' : Wd}
theorem reps_nil : Reps K w [] [] := by show ([] : List V) = []; rfl
theorem reps_cons {d : D} {ds : List D} {v : V} {vs : List V} (h : Rep K w d v) (t : Reps K w ds vs) : Reps K w (d :: ds) (v :: vs) := ⟨v, vs, rfl, h, t⟩
theorem Reps.length : ∀ {ds : List D} {vs : List V}, Reps K w ds vs → ds.length = vs.length
  | [], vs, h => by
    have h : vs = [] := h
    rw [h]
    rfl
  | x :: xs, vs, h => by
    obtain ⟨v, r, e, _, h2⟩ := h
    rw [e, List.length_cons, List.length_cons, Reps.length h2]
theorem Reps.get : ∀ {ds : List D} {vs : List V} {i : Nat} {d : D}, Reps K w ds vs → ds[i]? = some d → ∃ v, vs[i]? = some v ∧ Rep K w d v
  | [], vs, i, d, _, e => by simp at e
  | x :: xs, vs, 0, d, h, e => by
    obtain ⟨v, r, e1, h1, h2⟩ := h
    have : x = d := by simpa using e
    subst this
    exact ⟨v, by rw [e1]; rfl, h1⟩
  | x :: xs, vs, i + 1, d, h, e => by
    obtain ⟨v, r, e1, h1, h2⟩ := h
    obtain ⟨u, h3, h4⟩ := Reps.get (i := i) (d := d) h2 (by simpa using e)
    exact ⟨u, by rw [e1]; simpa using h3, h4⟩
theorem Reps.app : ∀ {ds es : List D} {vs us : List V}, Reps K w ds vs → Reps K w es us → Reps K w (ds ++ es) (vs ++ us)
  | [], es, vs, us, h, t => by
    have h : vs = [] := h
    subst h
    exact t
  | x :: xs, es, vs, us, h, t => by
    obtain ⟨v, r, e1, h1, h2⟩ := h
    subst e1
    exact ⟨v, r ++ us, rfl, h1, Reps.app h2 t⟩
theorem Reps.take : ∀ {ds : List D} {vs : List V} (n : Nat), Reps K w ds vs → Reps K w (ds.take n) (vs.take n)
  | _, _, 0, _ => by rw [List.take_zero, List.take_zero]; exact reps_nil
  | [], vs, n + 1, h => by
    have h : vs = [] := h
    subst h
    exact reps_nil
  | x :: xs, vs, n + 1, h => by
    obtain ⟨v, r, e1, h1, h2⟩ := h
    subst e1
    exact ⟨v, r.take n, rfl, h1, Reps.take n h2⟩
theorem Reps.drop : ∀ {ds : List D} {vs : List V} (n : Nat), Reps K w ds vs → Reps K w (ds.drop n) (vs.drop n)
  | _, _, 0, h => h
  | [], vs, n + 1, h => by
    have h : vs = [] := h
    subst h
    exact reps_nil
  | x :: xs, vs, n + 1, h => by
    obtain ⟨v, r, e1, h1, h2⟩ := h
    subst e1
    exact Reps.drop n h2
theorem Reps.set : ∀ {ds : List D} {vs : List V} {d : D} {v : V} (i : Nat), Reps K w ds vs → Rep K w d v → Reps K w (ds.set i d) (vs.set i v)
  | [], vs, d, v, i, h, t => by
    have h : vs = [] := h
    subst h
    exact reps_nil
  | x :: xs, vs, d, v, 0, h, t => by
    obtain ⟨u, r, e1, h1, h2⟩ := h
    subst e1
    exact ⟨v, r, rfl, t, h2⟩
  | x :: xs, vs, d, v, i + 1, h, t => by
    obtain ⟨u, r, e1, h1, h2⟩ := h
    subst e1
    exact ⟨u, r.set i v, rfl, h1, Reps.set i h2 t⟩
theorem Reps.reverse {ds : List D} {vs : List V} (h : Reps K w ds vs) : Reps K w ds.reverse vs.reverse := by
  induction ds generalizing vs with
  | nil =>
    have h : vs = [] := h
    subst h
    exact reps_nil
  | cons x xs ih =>
    obtain ⟨v, r, e1, h1, h2⟩ := h
    subst e1
    rw [List.reverse_cons, List.reverse_cons]
    exact (ih h2).app (reps_cons h1 reps_nil)
theorem Reps.ints : ∀ {ns : List Int} {vs : List V}, Reps K w (ns.map D.int) vs → vs = ns.map V.int
  | [], vs, h => h
  | n :: ns, vs, h => by
    obtain ⟨v, r, e1, h1, h2⟩ := h
    rw [e1, Reps.ints h2, show v = V.int n from h1]
    rfl
theorem Reps.strs : ∀ {ns : List (List Nat)} {vs : List V}, Reps K w (ns.map D.str) vs → vs = (ns.map toS).map V.str
  | [], vs, h => h
  | n :: ns, vs, h => by
    obtain ⟨v, r, e1, h1, h2⟩ := h
    rw [e1, Reps.strs h2, show v = V.str (toS n) from h1]
    rfl
theorem Reps.bls : ∀ {ns : List Bool} {vs : List V}, Reps K w (ns.map D.bl) vs → vs = ns.map V.bl
  | [], vs, h => h
  | n :: ns, vs, h => by
    obtain ⟨v, r, e1, h1, h2⟩ := h
    rw [e1, Reps.bls h2, show v = V.bl n from h1]
    rfl
theorem reps_of_ints (ns : List Int) : Reps K w (ns.map D.int) (ns.map V.int) := by
  induction ns with
  | nil => exact reps_nil
  | cons n ns ih => exact reps_cons (show V.int n = V.int n from rfl) ih
/-- a live address is no free one; it bears no tuple, nothing locked -/
theorem WOk.live {a : Addr} (ok : WOk K w) (l : Lv w a) : ∃ o, w.H a = some o ∧ (∀ xs, o ≠ .tup xs) ∧ ∀ ob u, o ≠ .frz ob u := by
  rcases l with ⟨n, ob, h, e⟩ | h
  · have q := ok.ob n ob h
    cases ob with
    | lst xs =>
      obtain ⟨vs, h1, _⟩ := q
      rw [e] at h1
      exact ⟨_, h1, (fun xs z => by cases z), fun ob u z => by cases z⟩
    | dct xs =>
      obtain ⟨vs, h1, _⟩ := q
      rw [e] at h1
      exact ⟨_, h1, (fun xs z => by cases z), fun ob u z => by cases z⟩
    | dcT xs =>
      obtain ⟨vs, h1, _⟩ := q
      rw [e] at h1
      exact ⟨_, h1, (fun xs z => by cases z), fun ob u z => by cases z⟩
    | ins C fs =>
      obtain ⟨_, _, _, _, h1, _⟩ := q
      rw [e] at h1
      exact ⟨_, h1, (fun xs z => by cases z), fun ob u z => by cases z⟩
  · obtain ⟨vs, h1⟩ := ok.hidL a h
    exact ⟨_, h1, (fun xs z => by cases z), fun ob u z => by cases z⟩
theorem WOk.free {a : Addr} (ok : WOk K w) (h : w.H a = none) : ¬ Lv w a := fun l => by
  obtain ⟨o, e, _⟩ := ok.live l
  rw [h] at e
  cases e
theorem WOk.noT {a : Addr} {xs : List V} (ok : WOk K w) (h : w.H a = some (.tup xs)) : ¬ Lv w a := fun l => by
  obtain ⟨o, e, h1, _⟩ := ok.live l
  rw [h] at e
  exact h1 xs (Option.some.inj e).symm
theorem WOk.noF {a : Addr} {ob : Obj} {u : HO} (ok : WOk K w) (h : w.H a = some (.frz ob u)) : ¬ Lv w a := fun l => by
  obtain ⟨o, e, _, h1⟩ := ok.live l
  rw [h] at e
  exact h1 ob u (Option.some.inj e).symm
/-- a new object, no part of the store -/
abbrev Wd.put (w : Wd) (p : Addr) (o : HO) : Wd := { w with H := upd w.H p o }
theorem lv_put {p a : Addr} {o : HO} : Lv (w.put p o) a ↔ Lv w a := Iff.rfl
theorem Grow.new {p : Addr} {o : HO} (ok : WOk K w) (h : w.H p = none) : Grow w (w.put p o) where
  hid := rfl
  hids := fun a m => by
    obtain ⟨vs, e⟩ := ok.hidL a m
    show upd w.H p o a = _; rw [upd_ne (ne_of_none e h)]
  len := Nat.le_refl _
  bet := fun _ _ => rfl
  keep := fun a u e n => ⟨by show upd w.H p o a = _; rw [upd_ne (ne_of_none e h)]; exact e, n⟩
  tups := fun a u e => by show upd w.H p o a = _; rw [upd_ne (ne_of_none e h)]; exact e
  frzs := fun a u v e => by show upd w.H p o a = _; rw [upd_ne (ne_of_none e h)]; exact e
theorem ObR.ext {ob : Ob} {a : Addr} (g : Ext w w') (k : ∀ o, w.H a = some o → w'.H a = some o) (h : ObR K w ob a) : ObR K w' ob a := by
  cases ob with
  | lst xs =>
    obtain ⟨vs, h1, h2⟩ := h
    exact ⟨vs, k _ h1, Reps.ext g _ _ h2⟩
  | dct xs =>
    obtain ⟨vs, h1, h2, h3⟩ := h
    exact ⟨vs, k _ h1, h2, Reps.ext g _ _ h3⟩
  | dcT xs =>
    obtain ⟨vs, h1, h2, h3⟩ := h
    exact ⟨vs, k _ h1, h2, Reps.ext g _ _ h3⟩
  | ins C fs =>
    obtain ⟨ca, dx, us, h0, h1, h2, h3⟩ := h
    exact ⟨ca, dx, us, h0, k _ h1, h2, Reps.ext g _ _ h3⟩
theorem ObR.grow {ob : Ob} {a : Addr} (g : Grow w w') (k : ∀ o, w.H a = some o → w'.H a = some o) (h : ObR K w ob a) : ObR K w' ob a := h.ext g.ext k
theorem WOk.new {p : Addr} {o : HO} (ok : WOk K w) (h : w.H p = none) : WOk K (w.put p o) where
  ob := fun n ob e => (ok.ob n ob e).grow (Grow.new ok h) fun u q => by show upd w.H p o _ = _; rw [upd_ne (ne_of_none q h)]; exact q
  inj := ok.inj
  hidL := fun a m => let ⟨vs, e⟩ := ok.hidL a m; ⟨vs, by show upd w.H p o a = _; rw [upd_ne (ne_of_none e h)]; exact e⟩
  hidN := ok.hidN
theorem rep_newL {p : Addr} {ds : List D} {vs : List V} (ok : WOk K w) (h : w.H p = none) (r : Reps K w ds vs) : Rep K (w.put p (.lst vs)) (.lst ds) (.ref p) :=
  ⟨p, vs, rfl, upd_same, fun l => ok.free h (lv_put.mp l), Reps.grow (Grow.new ok h) _ _ r⟩
theorem rep_newT {p : Addr} {ds : List D} {vs : List V} (ok : WOk K w) (h : w.H p = none) (r : Reps K w ds vs) : Rep K (w.put p (.tup vs)) (.tup ds) (.ref p) :=
  ⟨p, vs, rfl, SqT.of upd_same, Reps.grow (Grow.new ok h) _ _ r⟩
/-- a new object of the store -/
def Wd.alloc (w : Wd) (p : Addr) (o : HO) (ob : Ob) : Wd := ⟨fun n => if n = w.st.length then p else w.bet n, w.st ++ [some ob], w.hid, upd w.H p o⟩
theorem st_app {st : Store} {ob : Ob} {n : Nat} {b : Ob} (h : (st ++ [some ob])[n]? = some (some b)) : (n < st.length ∧ st[n]? = some (some b)) ∨ (n = st.length ∧ b = ob) := by
  by_cases hn : n < st.length
  · rw [List.getElem?_append_left hn] at h
    exact .inl ⟨hn, h⟩
  · rw [List.getElem?_append_right (Nat.le_of_not_lt hn)] at h
    by_cases e : n - st.length = 0
    · rw [e] at h
      have h : some (some ob) = some (some b) := h
      cases h
      exact .inr ⟨by omega, rfl⟩
    · obtain ⟨k, hk⟩ : ∃ k, n - st.length = k + 1 := ⟨n - st.length - 1, by omega⟩
      rw [hk] at h
      simp at h
theorem lv_alloc {p a : Addr} {o : HO} {ob : Ob} (h : Lv (w.alloc p o ob) a) : a = p ∨ Lv w a := by
  rcases h with ⟨m, b, hm, hb⟩ | h
  · have hm : (w.st ++ [some ob])[m]? = some (some b) := hm
    have hb : (if m = w.st.length then p else w.bet m) = a := hb
    rcases st_app hm with ⟨h1, h2⟩ | ⟨h1, h2⟩
    · rw [if_neg (Nat.ne_of_lt h1)] at hb
      exact .inr (.inl ⟨m, b, h2, hb⟩)
    · rw [if_pos h1] at hb
      exact .inl hb.symm
  · exact .inr (.inr h)
theorem Grow.alloc {p : Addr} {o : HO} {ob : Ob} (ok : WOk K w) (h : w.H p = none) : Grow w (w.alloc p o ob) where
  hid := rfl
  hids := fun a m => by
    obtain ⟨vs, e⟩ := ok.hidL a m
    show upd w.H p o a = _; rw [upd_ne (ne_of_none e h)]
  len := by show w.st.length ≤ (w.st ++ [some ob]).length; rw [List.length_append]; exact Nat.le_add_right _ _
  bet := fun n hn => by show (if n = w.st.length then p else w.bet n) = _; rw [if_neg (Nat.ne_of_lt hn)]
  keep := fun a u e n => by
    refine ⟨by show upd w.H p o a = _; rw [upd_ne (ne_of_none e h)]; exact e, fun l => ?_⟩
    rcases lv_alloc l with z | z
    · exact ne_of_none e h z
    · exact n z
  tups := fun a u e => by show upd w.H p o a = _; rw [upd_ne (ne_of_none e h)]; exact e
  frzs := fun a u v e => by show upd w.H p o a = _; rw [upd_ne (ne_of_none e h)]; exact e
theorem WOk.alloc {p : Addr} {o : HO} {ob : Ob} (ok : WOk K w) (h : w.H p = none) (r : ObR K (w.alloc p o ob) ob p) : WOk K (w.alloc p o ob) where
  ob := fun n b e => by
    have e : (w.st ++ [some ob])[n]? = some (some b) := e
    show ObR K _ b (if n = w.st.length then p else w.bet n)
    rcases st_app e with ⟨h1, h2⟩ | ⟨h1, h2⟩
    · rw [if_neg (Nat.ne_of_lt h1)]
      exact (ok.ob n b h2).grow (Grow.alloc ok h) fun u q => by show upd w.H p o _ = _; rw [upd_ne (ne_of_none q h)]; exact q
    · rw [if_pos h1, h2]
      exact r
  inj := fun m n b c e1 e2 e => by
    have e1 : (w.st ++ [some ob])[m]? = some (some b) := e1
    have e2 : (w.st ++ [some ob])[n]? = some (some c) := e2
    have e : (if m = w.st.length then p else w.bet m) = (if n = w.st.length then p else w.bet n) := e
    rcases st_app e1 with ⟨h1, h2⟩ | ⟨h1, h2⟩ <;> rcases st_app e2 with ⟨k1, k2⟩ | ⟨k1, k2⟩
    · rw [if_neg (Nat.ne_of_lt h1), if_neg (Nat.ne_of_lt k1)] at e
      exact ok.inj m n b c h2 k2 e
    · rw [if_neg (Nat.ne_of_lt h1), if_pos k1] at e
      exact absurd (.inl ⟨m, b, h2, e⟩) (ok.free h)
    · rw [if_pos h1, if_neg (Nat.ne_of_lt k1)] at e
      exact absurd (.inl ⟨n, c, k2, e.symm⟩) (ok.free h)
    · omega
  hidL := fun a m => let ⟨vs, e⟩ := ok.hidL a m; ⟨vs, by show upd w.H p o a = _; rw [upd_ne (ne_of_none e h)]; exact e⟩
  hidN := fun a m n b e z => by
    have e : (w.st ++ [some ob])[n]? = some (some b) := e
    have z : (if n = w.st.length then p else w.bet n) = a := z
    rcases st_app e with ⟨h1, h2⟩ | ⟨h1, h2⟩
    · rw [if_neg (Nat.ne_of_lt h1)] at z
      exact ok.hidN a m n b h2 z
    · rw [if_pos h1] at z
      obtain ⟨vs, e2⟩ := ok.hidL a m
      exact ne_of_none e2 h z.symm
theorem rep_alloc {p : Addr} {o : HO} {ob : Ob} : Rep K (w.alloc p o ob) (.ref w.st.length) (.ref p) :=
  ⟨by show w.st.length < (w.st ++ [some ob]).length; rw [List.length_append]; exact Nat.lt_succ_self _, by show _ = V.ref (if w.st.length = w.st.length then p else _); rw [if_pos rfl]⟩
theorem obr_allocL {p : Addr} {ds : List D} {vs : List V} (ok : WOk K w) (h : w.H p = none) (r : Reps K w ds vs) : ObR K (w.alloc p (.lst vs) (.lst ds)) (.lst ds) p := ⟨vs, upd_same, Reps.grow (Grow.alloc ok h) _ _ r⟩
/-- an object of the store is written -/
def Wd.wr (w : Wd) (n : Nat) (o : HO) (ob : Ob) : Wd := ⟨w.bet, w.st.set n (some ob), w.hid, upd w.H (w.bet n) o⟩
theorem set_some {st : Store} {n m : Nat} {ob b : Ob} (h : (st.set n (some ob))[m]? = some (some b)) : (m = n ∧ b = ob ∧ n < st.length) ∨ (m ≠ n ∧ st[m]? = some (some b)) := by
  by_cases e : m = n
  · subst e
    by_cases hl : m < st.length
    · rw [List.getElem?_set_self hl] at h
      cases h
      exact .inl ⟨rfl, rfl, hl⟩
    · rw [List.getElem?_eq_none (by simpa using hl)] at h
      cases h
  · rw [List.getElem?_set_ne (Ne.symm e)] at h
    exact .inr ⟨e, h⟩
theorem lv_wr {n : Nat} {ob ob' : Ob} {o : HO} {a : Addr} (hn : w.st[n]? = some (some ob)) (h : Lv (w.wr n o ob') a) : Lv w a := by
  rcases h with ⟨m, b, hm, hb⟩ | h
  · have hm : (w.st.set n (some ob'))[m]? = some (some b) := hm
    rcases set_some hm with ⟨h1, h2, _⟩ | ⟨h1, h2⟩
    · subst h1
      exact .inl ⟨m, ob, hn, hb⟩
    · exact .inl ⟨m, b, h2, hb⟩
  · exact .inr h
theorem Grow.wr {n : Nat} {ob ob' : Ob} {o : HO} (ok : WOk K w) (hn : w.st[n]? = some (some ob)) : Grow w (w.wr n o ob') where
  hid := rfl
  hids := fun a m => by show upd w.H _ o a = _; rw [upd_ne (ok.hidN a m n ob hn).symm]
  len := by show _ ≤ (w.st.set n _).length; rw [List.length_set]; exact Nat.le_refl _
  bet := fun _ _ => rfl
  keep := fun a u e nl => by
    have ne : a ≠ w.bet n := fun z => nl (.inl ⟨n, ob, hn, z.symm⟩)
    exact ⟨by show upd w.H _ o a = _; rw [upd_ne ne]; exact e, fun l => nl (lv_wr hn l)⟩
  tups := fun a u e => by
    have ne : a ≠ w.bet n := fun z => ok.noT e (.inl ⟨n, ob, hn, z.symm⟩)
    show upd w.H _ o a = _; rw [upd_ne ne]; exact e
  frzs := fun a u v e => by
    have ne : a ≠ w.bet n := fun z => ok.noF e (.inl ⟨n, ob, hn, z.symm⟩)
    show upd w.H _ o a = _; rw [upd_ne ne]; exact e
theorem WOk.wr {n : Nat} {ob ob' : Ob} {o : HO} (ok : WOk K w) (hn : w.st[n]? = some (some ob)) (r : ObR K (w.wr n o ob') ob' (w.bet n)) : WOk K (w.wr n o ob') where
  ob := fun m b e => by
    have e : (w.st.set n (some ob'))[m]? = some (some b) := e
    show ObR K _ b (w.bet m)
    rcases set_some e with ⟨h1, h2, _⟩ | ⟨h1, h2⟩
    · rw [h1, h2]
      exact r
    · have ne : w.bet m ≠ w.bet n := fun z => h1 (ok.inj m n b ob h2 hn z)
      exact (ok.ob m b h2).grow (Grow.wr ok hn) fun u q => by show upd w.H _ o _ = _; rw [upd_ne ne]; exact q
  inj := fun m k b c e1 e2 e => by
    have e1 : (w.st.set n (some ob'))[m]? = some (some b) := e1
    have e2 : (w.st.set n (some ob'))[k]? = some (some c) := e2
    have e : w.bet m = w.bet k := e
    rcases set_some e1 with ⟨h1, h2, _⟩ | ⟨h1, h2⟩ <;> rcases set_some e2 with ⟨k1, k2, _⟩ | ⟨k1, k2⟩
    · omega
    · exact ok.inj m k ob c (by rw [h1]; exact hn) k2 e
    · exact ok.inj m k b ob h2 (by rw [k1]; exact hn) e
    · exact ok.inj m k b c h2 k2 e
  hidL := fun a m => let ⟨vs, e⟩ := ok.hidL a m; ⟨vs, by show upd w.H _ o a = _; rw [upd_ne (ok.hidN a m n ob hn).symm]; exact e⟩
  hidN := fun a m k b e => by
    have e : (w.st.set n (some ob'))[k]? = some (some b) := e
    rcases set_some e with ⟨h1, h2, _⟩ | ⟨h1, h2⟩
    · subst h1
      exact ok.hidN a m k ob hn
    · exact ok.hidN a m k b h2
theorem obr_wrL {n : Nat} {ob : Ob} {ds : List D} {vs : List V} (ok : WOk K w) (hn : w.st[n]? = some (some ob)) (r : Reps K w ds vs) : ObR K (w.wr n (.lst vs) (.lst ds)) (.lst ds) (w.bet n) :=
  ⟨vs, upd_same, Reps.grow (Grow.wr ok hn) _ _ r⟩
/-- an object of the store becomes frozen data -/
def Wd.kill (w : Wd) (n : Nat) : Wd := { w with st := w.st.set n none }
theorem kill_some {st : Store} {n m : Nat} {b : Ob} (h : (st.set n none)[m]? = some (some b)) : m ≠ n ∧ st[m]? = some (some b) := by
  by_cases e : m = n
  · subst e
    by_cases hl : m < st.length
    · rw [List.getElem?_set_self hl] at h; cases h
    · rw [List.getElem?_eq_none (by simpa using hl)] at h; cases h
  · rw [List.getElem?_set_ne (Ne.symm e)] at h
    exact ⟨e, h⟩
theorem lv_kill {n : Nat} {a : Addr} (h : Lv (w.kill n) a) : Lv w a := by
  rcases h with ⟨m, b, hm, hb⟩ | h
  · have hm : (w.st.set n none)[m]? = some (some b) := hm
    exact .inl ⟨m, b, (kill_some hm).2, hb⟩
  · exact .inr h
theorem Grow.kill (n : Nat) : Grow w (w.kill n) where
  hid := rfl
  hids := fun _ _ => rfl
  len := by show _ ≤ (w.st.set n none).length; rw [List.length_set]; exact Nat.le_refl _
  bet := fun _ _ => rfl
  keep := fun a u e nl => ⟨e, fun l => nl (lv_kill l)⟩
  tups := fun a u e => e
  frzs := fun a u v e => e
theorem WOk.kill (n : Nat) (ok : WOk K w) : WOk K (w.kill n) where
  ob := fun m b e => by
    have e : (w.st.set n none)[m]? = some (some b) := e
    exact (ok.ob m b (kill_some e).2).grow (Grow.kill n) fun _ q => q
  inj := fun m k b c e1 e2 e => by
    have e1 : (w.st.set n none)[m]? = some (some b) := e1
    have e2 : (w.st.set n none)[k]? = some (some c) := e2
    exact ok.inj m k b c (kill_some e1).2 (kill_some e2).2 e
  hidL := ok.hidL
  hidN := fun a m k b e => by
    have e : (w.st.set n none)[k]? = some (some b) := e
    exact ok.hidN a m k b (kill_some e).2
theorem rep_kill {n : Nat} {ds : List D} (ok : WOk K w) (hn : w.st[n]? = some (some (.lst ds))) : Rep K (w.kill n) (.lst ds) (.ref (w.bet n)) := by
  obtain ⟨vs, h1, h2⟩ := ok.ob n _ hn
  refine ⟨_, vs, rfl, h1, fun l => ?_, Reps.grow (Grow.kill n) _ _ h2⟩
  rcases l with ⟨m, b, hm, hb⟩ | l
  · have hm : (w.st.set n none)[m]? = some (some b) := hm
    obtain ⟨h3, h4⟩ := kill_some hm
    exact h3 (ok.inj m n b _ h4 hn hb)
  · exact ok.hidN _ l n _ hn rfl
/-- slots -/
structure RepE (K : PySem.W.Frag) (w : Wd) (σ : L2.St) (ρ : Env) : Prop where
  len : σ.length = ρ.length
  at_ : ∀ (i : Nat) (d : D), ρ[i]? = some (some d) → ∃ v, σ[i]? = some (some v) ∧ Rep K w d v
theorem RepE.ext {σ : L2.St} {ρ : Env} (g : Ext w w') (h : RepE K w σ ρ) : RepE K w' σ ρ :=
  ⟨h.len, fun i d q => let ⟨v, h1, h2⟩ := h.at_ i d q; ⟨v, h1, Rep.ext g _ _ h2⟩⟩
theorem RepE.grow {σ : L2.St} {ρ : Env} (g : Grow w w') (h : RepE K w σ ρ) : RepE K w' σ ρ := h.ext g.ext
theorem RepE.set {σ : L2.St} {ρ : Env} {d : D} {v : V} (i : Nat) (h : RepE K w σ ρ) (r : Rep K w d v) : RepE K w (σ.set i (some v)) (ρ.set i (some d)) := by
  refine ⟨by rw [List.length_set, List.length_set]; exact h.len, fun j e hj => ?_⟩
  by_cases hij : i = j
  · subst hij
    by_cases hl : i < ρ.length
    · rw [List.getElem?_set_self hl] at hj
      cases hj
      exact ⟨v, List.getElem?_set_self (by rw [h.len]; exact hl), r⟩
    · rw [List.getElem?_eq_none (by simpa using hl)] at hj; cases hj
  · rw [List.getElem?_set_ne hij] at hj
    obtain ⟨u, h1, h2⟩ := h.at_ j e hj
    exact ⟨u, by rw [List.getElem?_set_ne hij]; exact h1, h2⟩
theorem RepE.forget {σ : L2.St} {ρ : Env} (i : Nat) (h : RepE K w σ ρ) : RepE K w σ (ρ.set i none) := by
  refine ⟨by rw [List.length_set]; exact h.len, fun j e hj => ?_⟩
  by_cases hij : i = j
  · subst hij
    by_cases hl : i < ρ.length
    · rw [List.getElem?_set_self hl] at hj; cases hj
    · rw [List.getElem?_eq_none (by simpa using hl)] at hj; cases hj
  · rw [List.getElem?_set_ne hij] at hj
    exact h.at_ j e hj
def wipeE (ρ : Env) : List Nat → Env
  | [] => ρ
  | v :: vs => (wipeE ρ vs).set v none
theorem RepE.wipe {σ : L2.St} {ρ : Env} (h : RepE K w σ ρ) : ∀ vs : List Nat, RepE K w (wipe σ vs) (wipeE ρ vs)
  | [] => h
  | v :: vs => by
    have ih := RepE.wipe h vs
    refine ⟨by show ((L2.wipe σ vs).set v none).length = ((wipeE ρ vs).set v none).length; rw [List.length_set, List.length_set]; exact ih.len, fun j e hj => ?_⟩
    have hj : ((wipeE ρ vs).set v none)[j]? = some (some e) := hj
    show ∃ u, ((L2.wipe σ vs).set v none)[j]? = _ ∧ _
    by_cases hij : v = j
    · subst hij
      by_cases hl : v < (wipeE ρ vs).length
      · rw [List.getElem?_set_self hl] at hj; cases hj
      · rw [List.getElem?_eq_none (by simpa using hl)] at hj; cases hj
    · rw [List.getElem?_set_ne hij] at hj ⊢
      exact ih.at_ j e hj
end
end PL
/-! PL2: results, the posts, sequencing of readings; operators by values. -/
namespace PL
open PySem PySem.Spec PyProof.Rows L2

/-- an exception: its class by name; its one field, if its class writes one -/
structure Exc where
  cls : String
  arg : Option (String × D)
inductive Res (α : Type) where
  | ok (a : α) (st : Store)
  | exc (e : Exc) (st : Store)
  | bad
abbrev M (α : Type) := Store → Res α
def ret {α : Type} (a : α) : M α := fun st => .ok a st
def Res.bnd {α β : Type} (r : Res α) (f : α → M β) : Res β := match r with
  | .ok a st => f a st
  | .exc e st => .exc e st
  | .bad => .bad
def bnd {α β : Type} (m : M α) (f : α → M β) : M β := fun st => (m st).bnd f
def ofO {α : Type} (o : Option α) : M α := fun st => match o with
  | some a => .ok a st
  | none => .bad
@[simp] theorem ret_ok {α : Type} (a : α) (st : Store) : ret a st = .ok a st := rfl
@[simp] theorem bnd_ok {α β : Type} (a : α) (st : Store) (f : α → M β) : (Res.ok a st).bnd f = f a st := rfl
@[simp] theorem bnd_exc {α β : Type} (e : Exc) (st : Store) (f : α → M β) : (Res.exc e st).bnd f = .exc e st := rfl
@[simp] theorem bnd_bad {α β : Type} (f : α → M β) : (Res.bad : Res α).bnd f = .bad := rfl
@[simp] theorem ofO_some {α : Type} (a : α) (st : Store) : ofO (some a) st = .ok a st := rfl
@[simp] theorem ofO_none {α : Type} (st : Store) : (ofO none : M α) st = .bad := rfl

/-- what is fixed: the written part, how an exception lies, what is wanted of one -/
structure Ctx where
  K : PySem.W.Frag
  XR : Exc → Value → Option Addr → Wd → Prop
  W : WX
def Ctx.we (C : Ctx) (σ : L2.St) (e : Exc) (w : Wd) : Prop := ∀ c d, C.XR e c d w → C.W c d σ w.H
section
variable {α β γ δ : Type}
/-- behind a result r from the world w -/
def Post (C : Ctx) (R : Wd → α → β → Prop) (w : Wd) (r : Res α) (Q : β → Hp → Prop) (E : Exc → Wd → Prop) : Prop := match r with
  | .ok a st => ∀ w', Grow w w' → WOk C.K w' → w'.st = st → ∀ x, R w' a x → Q x w'.H
  | .exc e st => ∀ w', Grow w w' → WOk C.K w' → w'.st = st → E e w'
  | .bad => False
theorem Post.grow {C : Ctx} {R : Wd → α → β → Prop} {w w1 : Wd} {r : Res α} {Q : β → Hp → Prop} {E : Exc → Wd → Prop} (g : Grow w w1) (h : Post C R w r Q E) : Post C R w1 r Q E := by
  cases r with
  | ok a st => exact fun w' g' ok e x hx => h w' (g.trans g') ok e x hx
  | exc e st => exact fun w' g' ok e => h w' (g.trans g') ok e
  | bad => exact h
theorem Post.imp {C : Ctx} {R : Wd → α → β → Prop} {w : Wd} {r : Res α} {Q Q' : β → Hp → Prop} {E : Exc → Wd → Prop} (h : Post C R w r Q E) (k : ∀ x H, Q x H → Q' x H) : Post C R w r Q' E := by
  cases r with
  | ok a st => exact fun w' g' ok e x hx => k _ _ (h w' g' ok e x hx)
  | exc e st => exact h
  | bad => exact h
/-- THE READING of a semantic function f; P: what is known of the world besides -/
def tX (C : Ctx) (R : Wd → α → β → Prop) (P : Wd → Prop) (f : Env → M α) : L2.St → Hp → (β → Hp → Prop) → Prop := fun σ H Q =>
  ∃ w ρ, w.H = H ∧ WOk C.K w ∧ RepE C.K w σ ρ ∧ P w ∧ Post C R w (f ρ w.st) Q (C.we σ)
theorem tX.imp {C : Ctx} {R : Wd → α → β → Prop} {P : Wd → Prop} {f : Env → M α} {σ : L2.St} {H : Hp} {Q Q' : β → Hp → Prop} (h : tX C R P f σ H Q) (k : ∀ x H, Q x H → Q' x H) : tX C R P f σ H Q' := by
  obtain ⟨w, ρ, e, ok, re, p, q⟩ := h
  exact ⟨w, ρ, e, ok, re, p, q.imp k⟩
def Mono (P : Wd → Prop) : Prop := ∀ w w', Grow w w' → P w → P w'
def MonoR (R : Wd → α → β → Prop) : Prop := ∀ w w' a x, Grow w w' → R w a x → R w' a x
abbrev T0 : Wd → Prop := fun _ => True
theorem mono0 : Mono T0 := fun _ _ _ h => h
theorem mono_and {P : Wd → Prop} {R : Wd → α → β → Prop} {a : α} {x : β} (h : Mono P) (r : MonoR R) : Mono (fun w => P w ∧ R w a x) := fun w w' g q => ⟨h w w' g q.1, r w w' a x g q.2⟩
theorem monoRep {K : PySem.W.Frag} : MonoR (Rep K) := fun w w' a x g h => Rep.grow g a x h
theorem monoReps {K : PySem.W.Frag} : MonoR (Reps K) := fun w w' a x g h => Reps.grow g a x h
theorem monoB : MonoR (fun (_ : Wd) (a b : Bool) => a = b) := fun _ _ _ _ _ h => h
/-- first f, then k of its value -/
theorem tX.seq {C : Ctx} {R : Wd → γ → δ → Prop} {R1 : Wd → α → β → Prop} {P : Wd → Prop} {f : Env → M α} {k : α → Env → M γ} {σ : L2.St} {H : Hp} {Q : δ → Hp → Prop} (hP : Mono P)
    (h : tX C R P (fun ρ => bnd (f ρ) fun a => k a ρ) σ H Q) : tX C R1 T0 f σ H (fun x H1 => ∃ a, tX C R (fun w => P w ∧ R1 w a x) (k a) σ H1 Q) := by
  obtain ⟨w, ρ, e, ok, re, p, q⟩ := h
  refine ⟨w, ρ, e, ok, re, trivial, ?_⟩
  have q : Post C R w ((f ρ w.st).bnd fun a => k a ρ) Q (C.we σ) := q
  cases hr : f ρ w.st with
  | ok a st =>
    rw [hr] at q
    have q : Post C R w (k a ρ st) Q (C.we σ) := q
    intro w' g ok' es x hx
    refine ⟨a, w', ρ, rfl, ok', re.grow g, ⟨hP _ _ g p, hx⟩, ?_⟩
    rw [es]
    exact q.grow g
  | exc e' st =>
    rw [hr] at q
    exact q
  | bad =>
    rw [hr] at q
    exact q
/-- .. where nothing else is known -/
theorem tX.seq0 {C : Ctx} {R : Wd → γ → δ → Prop} {R1 : Wd → α → β → Prop} {f : Env → M α} {k : α → Env → M γ} {σ : L2.St} {H : Hp} {Q : δ → Hp → Prop}
    (h : tX C R T0 (fun ρ => bnd (f ρ) fun a => k a ρ) σ H Q) : tX C R1 T0 f σ H (fun x H1 => ∃ a, tX C R (fun w => True ∧ R1 w a x) (k a) σ H1 Q) := h.seq mono0
theorem tX.weak {C : Ctx} {R : Wd → α → β → Prop} {P : Wd → Prop} {f : Env → M α} {σ : L2.St} {H : Hp} {Q : β → Hp → Prop} (h : tX C R P f σ H Q) : tX C R T0 f σ H Q := by
  obtain ⟨w, ρ, e, ok, re, p, q⟩ := h
  exact ⟨w, ρ, e, ok, re, trivial, q⟩
/-- a value at hand: f is a pure function of the store -/
def At (K : PySem.W.Frag) (w : Wd) (d : D) (Q : VK) : Prop := ∀ w', Grow w w' → WOk K w' → w'.st = w.st → ∀ v, Rep K w' d v → Q v w'.H
theorem At.now {K : PySem.W.Frag} {w : Wd} {d : D} {Q : VK} (h : At K w d Q) (ok : WOk K w) {v : V} (r : Rep K w d v) : Q v w.H := h w (Grow.refl w) ok rfl v r
theorem At.lst {K : PySem.W.Frag} {w : Wd} {ds : List D} {vs : List V} {Q : VK} (h : At K w (.lst ds) Q) (ok : WOk K w) (r : Reps K w ds vs) : ∀ p, w.H p = none → Q (.ref p) (upd w.H p (.lst vs)) :=
  fun p np => h (w.put p (.lst vs)) (Grow.new ok np) (ok.new np) rfl _ (rep_newL ok np r)
theorem At.tup {K : PySem.W.Frag} {w : Wd} {ds : List D} {vs : List V} {Q : VK} (h : At K w (.tup ds) Q) (ok : WOk K w) (r : Reps K w ds vs) : ∀ p, w.H p = none → Q (.ref p) (upd w.H p (.tup vs)) :=
  fun p np => h (w.put p (.tup vs)) (Grow.new ok np) (ok.new np) rfl _ (rep_newT ok np r)
end

/-! ### operators by values -/
/-- the reading of a binary operation that is f on data -/
def rB (K : PySem.W.Frag) (f : D → D → Store → Option D) : R2 := fun x y H Q => ∃ w dx dy d, w.H = H ∧ WOk K w ∧ Rep K w dx x ∧ Rep K w dy y ∧ f dx dy w.st = some d ∧ At K w d Q
/-- the items of a list, frozen or in the store -/
def viewL (st : Store) : D → Option (List D)
  | .lst xs => some xs
  | .ref n => match st[n]? with
    | some (some (.lst xs)) => some xs
    | _ => none
  | _ => none
section
variable {K : PySem.W.Frag} {w : Wd}
theorem view_rep {d : D} {v : V} {xs : List D} (ok : WOk K w) (h : viewL w.st d = some xs) (r : Rep K w d v) : ∃ a vs, v = .ref a ∧ w.H a = some (.lst vs) ∧ Reps K w xs vs := by
  cases d with
  | lst ys =>
    have h : some ys = some xs := h
    cases h
    obtain ⟨a, vs, e, h1, _, h3⟩ := r
    exact ⟨a, vs, e, h1, h3⟩
  | ref n =>
    have h : (match w.st[n]? with | some (some (.lst xs)) => some xs | _ => none) = some xs := h
    have e : v = V.ref (w.bet n) := r.2
    cases hn : w.st[n]? with
    | none => rw [hn] at h; cases h
    | some o =>
      rw [hn] at h
      cases o with
      | none => cases h
      | some ob =>
        cases ob with
        | lst ys =>
          cases h
          obtain ⟨vs, h1, h2⟩ := ok.ob n _ hn
          exact ⟨_, vs, e, h1, h2⟩
        | dct _ => cases h
        | dcT _ => cases h
        | ins _ _ => cases h
  | emp => cases h
  | exn _ _ _ => cases h
  | non => cases h
  | bl b => cases h
  | int i => cases h
  | str s => cases h
  | tup ys => cases h
  | scr ns => cases h
  | vv u => cases h
end
/-- bits of an int, as the model counts them -/
abbrev bitsOf (i : Int) : Nat := Builtin.Int.intBits i
def addD : D → D → Store → Option D
  | .int i, .int j, _ => some (.int (i + j))
  | .str s, .str t, _ => if s.length + t.length ≤ sizeLine then some (.str (s ++ t)) else none
  | .tup xs, .tup ys, _ => if xs.length + ys.length ≤ sizeLine then some (.tup (xs ++ ys)) else none
  | x, y, st => match viewL st x, viewL st y with
    | some xs, some ys => if xs.length + ys.length ≤ sizeLine then some (.lst (xs ++ ys)) else none
    | _, _ => none
def subD : D → D → Store → Option D
  | .int i, .int j, _ => some (.int (i - j))
  | _, _, _ => none
def repN {α : Type} (xs : List α) (k : Int) : List α := (List.replicate k.toNat xs).flatten
def mulD : D → D → Store → Option D
  | .int i, .int j, _ => if i.natAbs < 2 ^ 64 ∨ j.natAbs < 2 ^ 64 ∨ i.natAbs.log2 + j.natAbs.log2 < 1000000 then some (.int (i * j)) else none
  | .str s, .int k, _ => if -1000000 < k ∧ k < 1000000000 ∧ s.length * k.toNat ≤ sizeLine then some (.str (repN s k)) else none
  | .tup xs, .int k, _ => if 0 < xs.length ∧ xs.length ≤ 1000 ∧ 2 ≤ k ∧ k ≤ 1000 then some (.tup (repN xs k)) else none
  | x, .int k, st => match viewL st x with
    | some xs => if -1000000 < k ∧ k < 1000000000 ∧ xs.length * k.toNat ≤ sizeLine then some (.lst (repN xs k)) else none
    | none => none
  | _, _, _ => none
def fdivD : D → D → Store → Option D
  | .int i, .int j, _ => if 0 < j ∧ j.natAbs.log2 < 9000 then some (.int (i / j)) else none
  | _, _, _ => none
def modD : D → D → Store → Option D
  | .int i, .int j, _ => if 0 < j then some (.int (i % j)) else none
  | _, _, _ => none
def powD : D → D → Store → Option D
  | .int i, .int j, _ => if 0 ≤ j ∧ (bitsOf i : Int) * j ≤ 2 ^ 27 then some (.int (i ^ j.toNat)) else none
  | _, _, _ => none
inductive BOp where
  | add | sub | mul | fdiv | mod | pow
def BOp.ast : BOp → Operator
  | .add => .Add | .sub => .Sub | .mul => .Mult | .fdiv => .FloorDiv | .mod => .Mod | .pow => .Pow
def BOp.sem : BOp → D → D → Store → Option D
  | .add => addD | .sub => subD | .mul => mulD | .fdiv => fdivD | .mod => modD | .pow => powD
section
variable {X : Cx}
theorem toS_app (s t : List Nat) : toS s ++ toS t = toS (s ++ t) := by
  show Str.append _ _ = _
  unfold Str.append
  show (⟨s.toArray ++ t.toArray⟩ : Str) = ⟨(s ++ t).toArray⟩
  rw [List.append_toArray]
theorem toS_len (s : List Nat) : (toS s).length = s.length := rfl
theorem toS_inj {s t : List Nat} (h : toS s = toS t) : s = t := by
  have e : s.toArray = t.toArray := congrArg Str.cps h
  simpa using congrArg Array.toList e
theorem ord_add : OpR X (binaryOp .Add) (rB X.K addD) := by
  intro pins s σ H x y v u Q I rx ry h
  obtain ⟨w, dx, dy, d, rfl, ok, hx, hy, hf, q⟩ := h
  have lists : ∀ xs ys, viewL w.st dx = some xs → viewL w.st dy = some ys → xs.length + ys.length ≤ sizeLine → d = .lst (xs ++ ys) → wpAny (model X.prog X.w) X.A (binaryOp .Add v u) (EP X pins σ Q) X.xe s := by
    intro xs ys e1 e2 hz ed
    obtain ⟨a, vs, ea, h1, r1⟩ := view_rep ok e1 hx
    obtain ⟨b, us, eb, h2, r2⟩ := view_rep ok e2 hy
    subst ed
    exact op_cat pins s σ _ x y v u Q I rx ry ⟨a, b, vs, us, ea, eb, h1, h2, by rw [← r1.length, ← r2.length]; exact hz, q.lst ok (r1.app r2)⟩
  unfold addD at hf
  split at hf
  · cases hf
    exact op_add pins s σ _ x y v u Q I rx ry ⟨_, _, hx, hy, q.now ok rfl⟩
  · split at hf
    · rename_i hz
      cases hf
      refine op_add_str pins s σ _ x y v u Q I rx ry ⟨_, _, hx, hy, hz, ?_⟩
      rw [toS_app]
      exact q.now ok rfl
    · cases hf
  · split at hf
    · rename_i xs ys st hz
      cases hf
      obtain ⟨a, vs, ea, h1, r1⟩ := hx
      obtain ⟨b, us, eb, h2, r2⟩ := hy
      refine op_catA pins s σ _ x y v u Q I rx ry ⟨a, b, vs, us, ea, eb, h1, h2, by rw [← r1.length, ← r2.length]; exact hz, fun e => ?_, fun _ e => ?_, fun _ _ => q.tup ok (r1.app r2)⟩
      · refine q.now ok ?_
        have : vs ++ us = us := by rw [e]; rfl
        exact ⟨b, vs ++ us, rfl, by rw [this]; exact h2, r1.app r2⟩
      · refine q.now ok ?_
        have : vs ++ us = vs := by rw [e, List.append_nil]
        exact ⟨a, vs ++ us, rfl, by rw [this]; exact h1, r1.app r2⟩
    · cases hf
  · split at hf
    · rename_i e1 e2
      split at hf
      · rename_i hz
        cases hf
        exact lists _ _ e1 e2 hz rfl
      · cases hf
    · cases hf
theorem ord_sub : OpR X (binaryOp .Sub) (rB X.K subD) := by
  intro pins s σ H x y v u Q I rx ry h
  obtain ⟨w, dx, dy, d, rfl, ok, hx, hy, hf, q⟩ := h
  unfold subD at hf
  split at hf
  · cases hf
    exact op_sub pins s σ _ x y v u Q I rx ry ⟨_, _, hx, hy, q.now ok rfl⟩
  · cases hf
theorem mul_text (s : List Nat) (k : Int) : Txt.mul (toS s) k = toS (repN s k) := by
  unfold Txt.mul repN
  by_cases h1 : k < 1
  · rw [if_pos h1]
    have e : k.toNat = 0 := by omega
    rw [e]
    rfl
  · rw [if_neg h1]
    have key : ∀ (n : Nat) (acc : List Nat), (List.replicate n (toS s).cps).foldl (· ++ ·) acc.toArray = (acc ++ (List.replicate n s).flatten).toArray := by
      intro n
      induction n with
      | zero => intro acc; simp
      | succ n ih =>
        intro acc
        rw [List.replicate_succ, List.foldl_cons, List.replicate_succ, List.flatten_cons]
        rw [show acc.toArray ++ (toS s).cps = (acc ++ s).toArray from List.append_toArray ..]
        rw [ih, List.append_assoc]
    by_cases h2 : (k == 1 || (toS s).length == 0) = true
    · rw [if_pos h2]
      simp only [Bool.or_eq_true, beq_iff_eq] at h2
      rcases h2 with h2 | h2
      · subst h2
        show toS s = toS ([s].flatten)
        rw [List.flatten_cons, List.flatten_nil, List.append_nil]
      · have e : s = [] := List.eq_nil_of_length_eq_zero h2
        subst e
        have : (List.replicate k.toNat ([] : List Nat)).flatten = [] := by simp
        rw [this]
    · rw [if_neg h2]
      show (⟨_⟩ : Str) = ⟨_⟩
      congr 1
      have := key k.toNat []
      rw [List.nil_append] at this
      exact this
theorem op_mul_str : OpR X (binaryOp .Mult) (fun x y H Q => ∃ s k, x = .str (toS s) ∧ y = .int k ∧ -1000000 < k ∧ k < 1000000000 ∧ s.length * k.toNat ≤ sizeLine ∧ Q (.str (toS (repN s k))) H) := by
  intro pins s σ H x y v u Q I rx ry h
  obtain ⟨z, k, rfl, rfl, h1, h2, h3, q⟩ := h
  obtain ⟨t, rfl⟩ := rx
  obtain ⟨t', rfl⟩ := ry
  have hz : sizeLine = 16777216 := sizeLine_eq
  rw [hz] at h3
  refine SB.mul ⟨?_, fun h4 h5 => ?_, fun h4 h5 => ?_⟩ fun t2 k2 => ⟨.str (toS (repN z k)), H, I.tok _, ⟨t2, by rw [mul_text]⟩, q⟩
  · rw [decide_eq_false (by omega), decide_eq_false (by omega)]
    rfl
  · rw [toS_len]
    have e : ((z.length * k.toNat : Nat) : Int) = (z.length : Int) * k := by
      rw [Int.natCast_mul, Int.toNat_of_nonneg (by omega)]
    have h6 : (z.length : Int) * k ≤ 2 ^ 63 - 1 := by omega
    have := Int.le_ediv_of_mul_le (a := (z.length : Int)) (b := 2 ^ 63 - 1) (c := k) (by omega) h6
    omega
  · rw [toS_len]
    unfold Builtin.Str.tooLong
    first
      | exact decide_eq_false (by omega)
      | (simp; omega)
theorem ord_mul : OpR X (binaryOp .Mult) (rB X.K mulD) := by
  intro pins s σ H x y v u Q I rx ry h
  obtain ⟨w, dx, dy, d, rfl, ok, hx, hy, hf, q⟩ := h
  have rr : ∀ {xs : List D} {vs : List V} {k : Int}, Reps X.K w xs vs → Reps X.K w (repN xs k) (repN vs k) := fun {xs vs k} r => by
    unfold repN
    induction k.toNat with
    | zero => exact reps_nil
    | succ n ih => rw [List.replicate_succ, List.flatten_cons, List.replicate_succ, List.flatten_cons]; exact r.app ih
  unfold mulD at hf
  split at hf
  · split at hf
    · rename_i hz
      cases hf
      rcases hz with hz | hz | hz
      · exact op_mul pins s σ _ x y v u Q I rx ry ⟨_, _, hx, hy, .inl (by omega), q.now ok rfl⟩
      · exact op_mul pins s σ _ x y v u Q I rx ry ⟨_, _, hx, hy, .inr (by omega), q.now ok rfl⟩
      · exact op_mulW pins s σ _ x y v u Q I rx ry ⟨_, _, hx, hy, hz, q.now ok rfl⟩
    · cases hf
  · split at hf
    · rename_i hz
      cases hf
      exact op_mul_str pins s σ _ x y v u Q I rx ry ⟨_, _, hx, hy, hz.1, hz.2.1, hz.2.2, q.now ok rfl⟩
    · cases hf
  · split at hf
    · rename_i hz
      cases hf
      obtain ⟨a, vs, ea, h1, r1⟩ := hx
      obtain ⟨z1, z2, z3, z4⟩ := hz
      have el := r1.length
      exact op_repT pins s σ _ x y v u Q I rx ry ⟨a, _, vs, ea, hy, h1, (fun e => by rw [e] at el; simp only [List.length_nil] at el; omega), z3, z4, by omega, q.tup ok (rr r1)⟩
    · cases hf
  · split at hf
    · rename_i e1
      split at hf
      · rename_i hz
        cases hf
        obtain ⟨a, vs, ea, h1, r1⟩ := view_rep ok e1 hx
        obtain ⟨z1, z2, z3⟩ := hz
        refine op_rep pins s σ _ x y v u Q I rx ry ⟨a, _, vs, ea, hy, h1, by omega, by omega, by rw [← r1.length]; exact z3, ?_⟩
        exact q.lst ok (rr r1)
      · cases hf
    · cases hf
  · cases hf
theorem ord_fdiv : OpR X (binaryOp .FloorDiv) (rB X.K fdivD) := by
  intro pins s σ H x y v u Q I rx ry h
  obtain ⟨w, dx, dy, d, rfl, ok, hx, hy, hf, q⟩ := h
  unfold fdivD at hf
  split at hf
  · split at hf
    · rename_i hz
      cases hf
      exact op_fdivW pins s σ _ x y v u Q I rx ry ⟨_, _, hx, hy, hz, q.now ok rfl⟩
    · cases hf
  · cases hf
theorem ord_mod : OpR X (binaryOp .Mod) (rB X.K modD) := by
  intro pins s σ H x y v u Q I rx ry h
  obtain ⟨w, dx, dy, d, rfl, ok, hx, hy, hf, q⟩ := h
  unfold modD at hf
  split at hf
  · split at hf
    · rename_i hz
      cases hf
      exact op_mod pins s σ _ x y v u Q I rx ry ⟨_, _, hx, hy, hz, q.now ok rfl⟩
    · cases hf
  · cases hf
theorem op_powW : OpR X (binaryOp .Pow) (rI (fun i j => 0 ≤ j ∧ (bitsOf i : Int) * j ≤ 2 ^ 27) fun i j => .int (i ^ j.toNat)) := opI fun _ _ _ _ _ _ _ hc q => pow_int hc.1 hc.2 q
theorem ord_pow : OpR X (binaryOp .Pow) (rB X.K powD) := by
  intro pins s σ H x y v u Q I rx ry h
  obtain ⟨w, dx, dy, d, rfl, ok, hx, hy, hf, q⟩ := h
  unfold powD at hf
  split at hf
  · split at hf
    · rename_i hz
      cases hf
      exact op_powW pins s σ _ x y v u Q I rx ry ⟨_, _, hx, hy, hz, q.now ok rfl⟩
    · cases hf
  · cases hf
theorem ord_bin (op : BOp) : OpR X (binaryOp op.ast) (rB X.K op.sem) := by
  cases op with
  | add => exact ord_add
  | sub => exact ord_sub
  | mul => exact ord_mul
  | fdiv => exact ord_fdiv
  | mod => exact ord_mod
  | pow => exact ord_pow
end
end PL
/-! PL3: rules for expressions. -/
namespace L2
open PySem PySem.Spec PyProof.Rows
section
variable {X : Cx}
theorem PE.imp {e : Expr} {t t' : TE} (h : PE X e t) (k : ∀ σ H Q, t' σ H Q → t σ H Q) : PE X e t' := ⟨fun pins s σ H Q I q => h.run pins s σ H Q I (k σ H Q q)⟩
theorem PT.imp {e : Expr} {t t' : TT} (h : PT X e t) (k : ∀ σ H Q, t' σ H Q → t σ H Q) : PT X e t' := ⟨fun pins s σ H Q I q => h.run pins s σ H Q I (k σ H Q q)⟩
theorem PW.imp {e : Expr} {t t' : TT} (h : PW X e t) (k : ∀ σ H Q, t' σ H Q → t σ H Q) : PW X e t' := ⟨fun wh pins s σ H Q I q => h.run wh pins s σ H Q I (k σ H Q q)⟩
theorem PA.imp {e : List Expr} {t t' : TA} (h : PA X e t) (k : ∀ σ H Q, t' σ H Q → t σ H Q) : PA X e t' := ⟨fun pos pins s σ H Q I q => h.run pos pins s σ H Q I (k σ H Q q)⟩
end
end L2
namespace PL
open PySem PySem.Spec PyProof.Rows L2

/-- how an exception lies: its class by the module's name (or a built-in's), its fields in its own dict -/
def xr (K : PySem.W.Frag) (mg : Str → Option Value) : Exc → Value → Option Addr → Wd → Prop := fun e c d w =>
  ((∃ u, mg (Str.ofString e.cls) = some u ∧ c = u) ∨ (mg (Str.ofString e.cls) = none ∧ c = Value.type e.cls)) ∧ (e.arg = none → d = none) ∧
    (∀ n a, e.arg = some (n, a) → ∃ v p, d = some p ∧ w.H p = some (.xd [(Str.ofString n, v)]) ∧ Rep K w a v)
abbrev cx (X : Cx) (W : WX) : Ctx := ⟨X.K, xr X.K X.mg, W⟩
/-- e gives what f says -/
abbrev DE (X : Cx) (W : WX) (e : Expr) (f : Env → M D) : Prop := PE X e (tX (cx X W) (Rep X.K) T0 f)
abbrev DT (X : Cx) (W : WX) (e : Expr) (f : Env → M Bool) : Prop := PT X e (tX (cx X W) (fun _ (a b : Bool) => a = b) T0 f)
abbrev DA (X : Cx) (W : WX) (es : List Expr) (f : Env → M (List D)) : Prop := PA X es (tX (cx X W) (Reps X.K) T0 f)

section
variable {X : Cx} {W : WX}
/-! ### names, constants -/
def sVar (i : Nat) : Env → M D := fun ρ st => match ρ[i]? with
  | some (some d) => .ok d st
  | _ => .bad
def sCon (d : D) : Env → M D := fun _ => ret d
theorem de_var (i : Nat) {x : Str} {pos : Pos} (hN : X.N[i]? = some x) (hv : Vis X.env.scope x) (hd : (x == ("__debug__" : Str)) = false := by decide) (hcd : (x == ("__classdict__" : Str)) = false := by decide) : DE X W (.Name x pos) (sVar i) := by
  refine (pe_var hN hv hd hcd).imp fun σ H Q h => ?_
  obtain ⟨w, ρ, rfl, ok, re, _, q⟩ := h
  unfold sVar at q
  cases e : ρ[i]? with
  | none => rw [e] at q; exact q.elim
  | some o =>
    rw [e] at q
    cases o with
    | none => exact q.elim
    | some d =>
      obtain ⟨v, h1, h2⟩ := re.at_ i d e
      exact ⟨v, h1, q w (Grow.refl w) ok rfl v h2⟩
theorem con_imp {d : D} {v : V} (r : ∀ w, Rep X.K w d v) : ∀ σ H Q, tX (cx X W) (Rep X.K) T0 (sCon d) σ H Q → tC v σ H Q := fun σ H Q h => by
  obtain ⟨w, ρ, rfl, ok, re, _, q⟩ := h
  exact q w (Grow.refl w) ok rfl v (r w)
theorem de_int {i : Int} {j pos} : DE X W (.Constant (.int i) j pos) (sCon (.int i)) := pe_int.imp (con_imp fun _ => rfl)
theorem de_bl {b : Bool} {j pos} : DE X W (.Constant (.bool b) j pos) (sCon (.bl b)) := pe_bl.imp (con_imp fun _ => rfl)
theorem de_non {j pos} : DE X W (.Constant .none j pos) (sCon .non) := pe_non.imp (con_imp fun _ => rfl)
theorem de_str {x : Str} {j pos} (l : List Nat) (h : x.cps.toList = l := by first | rfl | decide +kernel) : DE X W (.Constant (.str x) j pos) (sCon (.str l)) := by
  have e : x = toS l := by
    rw [← h]
  subst e
  exact pe_str.imp (con_imp fun _ => rfl)
/-- a constant of the module -/
theorem de_glo {x : Str} {d : D} {v : V} {u : Value} {pos : Pos} (hg : Gl X x) (hm : X.mg x = some u) (r : RelV v u) (hr : ∀ w, Rep X.K w d v) (hd : (x == ("__debug__" : Str)) = false := by decide) : DE X W (.Name x pos) (sCon d) :=
  (pe_glob hg hm r hd).imp (con_imp hr)

/-! ### operators -/
def sBin (op : BOp) (f g : Env → M D) : Env → M D := fun ρ => bnd (f ρ) fun a => bnd (g ρ) fun b => fun st => ofO (op.sem a b st) st
theorem at_of {K : PySem.W.Frag} {C : Ctx} {w : Wd} {o : Option D} {Q : VK} {E : Exc → Wd → Prop} (hK : C.K = K) (h : Post C (Rep K) w (ofO o w.st) Q E) : ∃ d, o = some d ∧ At K w d Q := by
  cases o with
  | none => exact h.elim
  | some d => exact ⟨d, rfl, fun w' g ok e v r => h w' g (by rw [hK]; exact ok) e v r⟩
theorem de_bin {a b : Expr} {f g : Env → M D} {o : Operator} {pos : Pos} (op : BOp) (ha : DE X W a f) (hb : DE X W b g) (ho : op.ast = o := by rfl) : DE X W (.BinOp a o b pos) (sBin op f g) := by
  subst ho
  refine (pe_op (ord_bin op) ha hb).imp fun σ H Q h => ?_
  refine (tX.seq0 (R1 := Rep X.K) h).imp fun x H1 ⟨da, h1⟩ => ?_
  refine ((tX.seq (R1 := Rep X.K) (mono_and mono0 monoRep) h1).weak).imp fun y H2 ⟨db, h2⟩ => ?_
  obtain ⟨w, ρ, e, ok, re, ⟨⟨_, r1⟩, r2⟩, q⟩ := h2
  obtain ⟨d, e1, q⟩ := at_of rfl q
  exact ⟨w, da, db, d, e, ok, r1, r2, e1, q⟩
def negD : D → Option D
  | .int i => some (.int (-i))
  | _ => none
def sNeg (f : Env → M D) : Env → M D := fun ρ => bnd (f ρ) fun a => ofO (negD a)
theorem de_neg {a : Expr} {f : Env → M D} {pos : Pos} (ha : DE X W a f) : DE X W (.UnaryOp .USub a pos) (sNeg f) := by
  refine (pe_un un_neg ha).imp fun σ H Q h => ?_
  refine (tX.seq0 (R1 := Rep X.K) h).imp fun x H1 ⟨da, h1⟩ => ?_
  obtain ⟨w, ρ, rfl, ok, re, ⟨_, r1⟩, q⟩ := h1
  obtain ⟨d, e1, q⟩ := at_of (K := X.K) rfl q
  cases da with
  | int i =>
    cases e1
    exact ⟨i, r1, q.now ok rfl⟩
  | _ => cases e1

/-! ### truth -/
def truD (st : Store) : D → Option Bool
  | .non => some false
  | .bl b => some b
  | .int i => some (i != 0)
  | .str s => if s.length ≤ sizeLine then some (!s.isEmpty) else none
  | .tup xs => some (!xs.isEmpty)
  | d => match viewL st d with
    | some xs => some (!xs.isEmpty)
    | none => none
theorem reps_empty {K : PySem.W.Frag} {w : Wd} {xs : List D} {vs : List V} (r : Reps K w xs vs) : xs.isEmpty = vs.isEmpty := by
  have := r.length
  cases xs <;> cases vs <;> simp_all
theorem tru_rep {K : PySem.W.Frag} {w : Wd} {d : D} {v : V} {b : Bool} (ok : WOk K w) (r : Rep K w d v) (h : truD w.st d = some b) : TruV K v w.H b := by
  have lists : ∀ xs, viewL w.st d = some xs → b = !xs.isEmpty → TruV K v w.H b := fun xs e1 e2 => by
    obtain ⟨a, vs, ea, h1, r1⟩ := view_rep ok e1 r
    subst ea
    exact .inl ⟨vs, SqL.of h1, by rw [e2, reps_empty r1]⟩
  cases d with
  | non => cases h; rw [show v = V.non from r]; rfl
  | bl c =>
    cases h
    rw [show v = V.bl b from r]
    rfl
  | int i => cases h; rw [show v = V.int i from r]; rfl
  | str s =>
    rw [show v = V.str (toS s) from r]
    have h : (if s.length ≤ sizeLine then some (!s.isEmpty) else none) = some b := h
    by_cases hz : s.length ≤ sizeLine
    · rw [if_pos hz] at h
      cases h
      refine ⟨hz, ?_⟩
      rw [toS_len]
      cases s with
      | nil => rfl
      | cons c t =>
        have : ((((c :: t).length : Nat) : Int) != 0) = true := by
          rw [bne_iff_ne, List.length_cons]
          omega
        rw [this]
        rfl
    · rw [if_neg hz] at h
      cases h
  | tup xs =>
    obtain ⟨a, vs, ea, h1, r1⟩ := r
    subst ea
    cases h
    exact .inr (.inl ⟨vs, h1, by rw [reps_empty r1]⟩)
  | lst xs => cases h; exact lists xs rfl rfl
  | ref n =>
    have h : (match viewL w.st (.ref n) with | some xs => some (!xs.isEmpty) | none => none) = some b := h
    cases e : viewL w.st (.ref n) with
    | none => rw [e] at h; cases h
    | some xs => rw [e] at h; cases h; exact lists xs e rfl
  | scr ns => cases h
  | vv u => cases h
  | emp => cases h
  | exn _ _ _ => cases h
def sTru (f : Env → M D) : Env → M Bool := fun ρ => bnd (f ρ) fun a st => ofO (truD st a) st
theorem seq_tru {f : Env → M D} {σ : L2.St} {H : Hp} {Q : Bool → Hp → Prop} (h : tX (cx X W) (fun _ (a b : Bool) => a = b) T0 (sTru f) σ H Q) :
    tX (cx X W) (Rep X.K) T0 f σ H fun x H1 => ∃ k, TruV X.K x H1 k ∧ Q k H1 := by
  refine (tX.seq0 (R1 := Rep X.K) h).imp fun x H1 ⟨da, h1⟩ => ?_
  obtain ⟨w, ρ, rfl, ok, re, ⟨_, r1⟩, q⟩ := h1
  have q : Post (cx X W) (fun _ (a b : Bool) => a = b) w (ofO (truD w.st da) w.st) Q _ := q
  cases e : truD w.st da with
  | none => rw [e] at q; exact q.elim
  | some b =>
    rw [e] at q
    exact ⟨b, tru_rep ok r1 e, q w (Grow.refl w) ok rfl b rfl⟩
/-- any expression but a comparison, and, or, not, if-else -/
theorem dt_tru {e : Expr} {f : Env → M D} (h : DE X W e f) (he : ∀ whole, isTrue e X.env whole = (do let v ← whole; standAt e.pos; holding [v] (truthy v)) := by intro _; rfl) : DT X W e (sTru f) :=
  (pt_truth h he).imp fun σ H Q q => seq_tru q
def tNotB (f : Env → M Bool) : Env → M Bool := fun ρ => bnd (f ρ) fun a => ret (!a)
def sOfB (f : Env → M Bool) : Env → M D := fun ρ => bnd (f ρ) fun a => ret (.bl a)
theorem dt_not {e : Expr} {f : Env → M Bool} {pos : Pos} (h : DT X W e f) : DT X W (.UnaryOp .Not e pos) (tNotB f) := by
  refine (pt_not h).imp fun σ H Q q => ?_
  refine (tX.seq0 (R1 := fun _ (a b : Bool) => a = b) q).imp fun x H1 ⟨a, h1⟩ => ?_
  obtain ⟨w, ρ, rfl, ok, re, ⟨_, r1⟩, q⟩ := h1
  exact q w (Grow.refl w) ok rfl _ (by rw [r1])
theorem de_not {e : Expr} {f : Env → M D} {pos : Pos} (h : DE X W e f) : DE X W (.UnaryOp .Not e pos) (sOfB (tNotB (sTru f))) := by
  refine (pe_notT h).imp fun σ H Q q => ?_
  obtain ⟨w, ρ, rfl, ok, re, _, q⟩ := q
  refine ⟨w, ρ, rfl, ok, re, trivial, ?_⟩
  unfold sOfB tNotB sTru bnd at q
  cases hf : f ρ w.st with
  | bad => rw [hf] at q; exact q
  | exc e st => rw [hf] at q; exact q
  | ok d st =>
    rw [hf] at q
    intro w' g ok' es x hx
    have q : Post (cx X W) (Rep X.K) w (((ofO (truD st d) st : Res Bool).bnd fun a => ret (!a)).bnd fun a => ret (D.bl a)) Q _ := q
    cases e : truD st d with
    | none => rw [e] at q; exact q.elim
    | some b =>
      rw [e] at q
      refine ⟨b, tru_rep ok' hx (by rw [es]; exact e), ?_⟩
      exact q w' g ok' es _ rfl
def tAndB (f g : Env → M Bool) : Env → M Bool := fun ρ => bnd (f ρ) fun a => if a then g ρ else ret false
def tOrB (f g : Env → M Bool) : Env → M Bool := fun ρ => bnd (f ρ) fun a => if a then ret true else g ρ
abbrev DW (X : Cx) (W : WX) (e : Expr) (f : Env → M Bool) : Prop := PW X e (tX (cx X W) (fun _ (a b : Bool) => a = b) T0 f)
theorem dw_one_and {a : Expr} {f : Env → M Bool} {pos : Pos} (h : DT X W a f) : DW X W (.BoolOp .And [a] pos) f := pw_and1 h
theorem dw_one_or {a : Expr} {f : Env → M Bool} {pos : Pos} (h : DT X W a f) : DW X W (.BoolOp .Or [a] pos) f := pw_or1 h
theorem dw_and {a b : Expr} {rest : List Expr} {f g : Env → M Bool} {pos : Pos} (ha : DT X W a f) (hb : DW X W (.BoolOp .And (b :: rest) pos) g) : DW X W (.BoolOp .And (a :: b :: rest) pos) (tAndB f g) := by
  refine PW.imp (pw_and ha hb) fun σ H Q q => ?_
  refine (tX.seq0 (R1 := fun _ (a b : Bool) => a = b) q).imp fun x H1 ⟨c, h1⟩ => ?_
  obtain ⟨w, ρ, rfl, ok, re, ⟨_, r1⟩, q⟩ := h1
  subst r1
  cases c with
  | true => rw [if_pos rfl]; exact ⟨w, ρ, rfl, ok, re, trivial, q⟩
  | false => rw [if_neg Bool.false_ne_true]; exact q w (Grow.refl w) ok rfl false rfl
theorem dw_or {a b : Expr} {rest : List Expr} {f g : Env → M Bool} {pos : Pos} (ha : DT X W a f) (hb : DW X W (.BoolOp .Or (b :: rest) pos) g) : DW X W (.BoolOp .Or (a :: b :: rest) pos) (tOrB f g) := by
  refine PW.imp (pw_or ha hb) fun σ H Q q => ?_
  refine (tX.seq0 (R1 := fun _ (a b : Bool) => a = b) q).imp fun x H1 ⟨c, h1⟩ => ?_
  obtain ⟨w, ρ, rfl, ok, re, ⟨_, r1⟩, q⟩ := h1
  subst r1
  cases c with
  | false => rw [if_neg Bool.false_ne_true]; exact ⟨w, ρ, rfl, ok, re, trivial, q⟩
  | true => rw [if_pos rfl]; exact q w (Grow.refl w) ok rfl true rfl
theorem dt_w {e : Expr} {f : Env → M Bool} (h : DW X W e f) : DT X W e f := PW.pt h
/-- a and b, a or b as values -/
def sAnd (f g : Env → M D) : Env → M D := fun ρ => bnd (f ρ) fun a => bnd (fun st => ofO (truD st a) st) fun k => if k then g ρ else ret a
def sOr (f g : Env → M D) : Env → M D := fun ρ => bnd (f ρ) fun a => bnd (fun st => ofO (truD st a) st) fun k => if k then ret a else g ρ
theorem de_one {a : Expr} {op : BoolOp} {f : Env → M D} {pos : Pos} (h : DE X W a f) : DE X W (.BoolOp op [a] pos) f := pe_one h
theorem de_and {a b : Expr} {rest : List Expr} {f g : Env → M D} {pos : Pos} (ha : DE X W a f) (hb : DE X W (.BoolOp .And (b :: rest) pos) g) : DE X W (.BoolOp .And (a :: b :: rest) pos) (sAnd f g) := by
  refine (pe_andT ha hb).imp fun σ H Q q => ?_
  refine (tX.seq0 (R1 := Rep X.K) q).imp fun x H1 ⟨da, h1⟩ => ?_
  obtain ⟨w, ρ, rfl, ok, re, ⟨_, r1⟩, q⟩ := h1
  have q : Post (cx X W) (Rep X.K) w ((ofO (truD w.st da) w.st : Res Bool).bnd fun k => if k then g ρ else ret da) Q _ := q
  cases e : truD w.st da with
  | none => rw [e] at q; exact q.elim
  | some b =>
    rw [e] at q
    refine ⟨b, tru_rep ok r1 e, ?_⟩
    cases b with
    | true => rw [if_pos rfl]; exact ⟨w, ρ, rfl, ok, re, trivial, q⟩
    | false => rw [if_neg Bool.false_ne_true]; exact q w (Grow.refl w) ok rfl _ r1
theorem de_or {a b : Expr} {rest : List Expr} {f g : Env → M D} {pos : Pos} (ha : DE X W a f) (hb : DE X W (.BoolOp .Or (b :: rest) pos) g) : DE X W (.BoolOp .Or (a :: b :: rest) pos) (sOr f g) := by
  refine (pe_orT ha hb).imp fun σ H Q q => ?_
  refine (tX.seq0 (R1 := Rep X.K) q).imp fun x H1 ⟨da, h1⟩ => ?_
  obtain ⟨w, ρ, rfl, ok, re, ⟨_, r1⟩, q⟩ := h1
  have q : Post (cx X W) (Rep X.K) w ((ofO (truD w.st da) w.st : Res Bool).bnd fun k => if k then ret da else g ρ) Q _ := q
  cases e : truD w.st da with
  | none => rw [e] at q; exact q.elim
  | some b =>
    rw [e] at q
    refine ⟨b, tru_rep ok r1 e, ?_⟩
    cases b with
    | false => rw [if_neg Bool.false_ne_true]; exact ⟨w, ρ, rfl, ok, re, trivial, q⟩
    | true => rw [if_pos rfl]; exact q w (Grow.refl w) ok rfl _ r1
def sIf (c : Env → M Bool) (f g : Env → M D) : Env → M D := fun ρ => bnd (c ρ) fun k => if k then f ρ else g ρ
theorem de_if {c a b : Expr} {fc : Env → M Bool} {f g : Env → M D} {pos : Pos} (hc : DT X W c fc) (ha : DE X W a f) (hb : DE X W b g) : DE X W (.IfExp c a b pos) (sIf fc f g) := by
  refine (pe_ifExp hc ha hb).imp fun σ H Q q => ?_
  refine (tX.seq0 (R1 := fun _ (a b : Bool) => a = b) q).imp fun x H1 ⟨k, h1⟩ => ?_
  obtain ⟨w, ρ, rfl, ok, re, ⟨_, r1⟩, q⟩ := h1
  subst r1
  cases k with
  | true => rw [if_pos rfl]; exact ⟨w, ρ, rfl, ok, re, trivial, q⟩
  | false => rw [if_neg Bool.false_ne_true]; exact ⟨w, ρ, rfl, ok, re, trivial, q⟩

/-! ### argument lists, displays -/
def sNil : Env → M (List D) := fun _ => ret []
def sCons (f : Env → M D) (g : Env → M (List D)) : Env → M (List D) := fun ρ => bnd (f ρ) fun a => bnd (g ρ) fun as => ret (a :: as)
theorem da_nil : DA X W [] sNil := pa_nil.imp fun σ H Q h => by
  obtain ⟨w, ρ, rfl, ok, re, _, q⟩ := h
  exact q w (Grow.refl w) ok rfl [] reps_nil
theorem da_cons {e : Expr} {es : List Expr} {f : Env → M D} {g : Env → M (List D)} (ha : DE X W e f) (hr : DA X W es g) (hs : starEach (e :: es) X.env = (false, eval e X.env) :: starEach es X.env := by rfl) : DA X W (e :: es) (sCons f g) := by
  refine (pa_cons ha hr hs).imp fun σ H Q h => ?_
  refine (tX.seq0 (R1 := Rep X.K) h).imp fun x H1 ⟨da, h1⟩ => ?_
  refine ((tX.seq (R1 := Reps X.K) (mono_and mono0 monoRep) h1).weak).imp fun y H2 ⟨db, h2⟩ => ?_
  obtain ⟨w, ρ, rfl, ok, re, ⟨⟨_, r1⟩, r2⟩, q⟩ := h2
  exact q w (Grow.refl w) ok rfl (x :: y) (reps_cons r1 r2)
/-- a fresh list: frozen, or an object of the store -/
def mkL (m : Bool) (xs : List D) : M D := fun st => if m then .ok (.ref st.length) (st ++ [some (.lst xs)]) else .ok (.lst xs) st
theorem mk_list {m : Bool} {w : Wd} {xs : List D} {vs : List V} {Q : VK} {E : Exc → Wd → Prop} (ok : WOk X.K w) (r : Reps X.K w xs vs) (q : Post (cx X W) (Rep X.K) w (mkL m xs w.st) Q E) : ∀ p, w.H p = none → Q (.ref p) (upd w.H p (.lst vs)) := fun p np => by
  unfold mkL at q
  cases m with
  | false => exact q (w.put p (.lst vs)) (Grow.new ok np) (ok.new np) rfl _ (rep_newL ok np r)
  | true => exact q (w.alloc p (.lst vs) (.lst xs)) (Grow.alloc ok np) (ok.alloc np (obr_allocL ok np r)) rfl _ rep_alloc
def sTup (f : Env → M (List D)) : Env → M D := fun ρ => bnd (f ρ) fun xs => ofO (if xs.length ≤ sizeLine then some (.tup xs) else none)
def sLst (m : Bool) (f : Env → M (List D)) : Env → M D := fun ρ => bnd (f ρ) fun xs st => if xs.length ≤ sizeLine then mkL m xs st else .bad
theorem de_tup {es : List Expr} {k : Nat} {f : Env → M (List D)} {pos : Pos} (h : DA X W es f) : DE X W (.Tuple es k pos) (sTup f) := by
  refine (pe_tup h).imp fun σ H Q h => ?_
  refine (tX.seq0 (R1 := Reps X.K) h).imp fun x H1 ⟨ds, h1⟩ => ?_
  obtain ⟨w, ρ, rfl, ok, re, ⟨_, r1⟩, q⟩ := h1
  obtain ⟨d, e1, q⟩ := at_of (K := X.K) rfl q
  split at e1
  · rename_i hz
    cases e1
    exact ⟨by rw [← r1.length]; exact hz, q.tup ok r1⟩
  · cases e1
theorem de_lst (m : Bool) {es : List Expr} {f : Env → M (List D)} {pos : Pos} (h : DA X W es f) : DE X W (.List es pos) (sLst m f) := by
  refine (pe_lst h).imp fun σ H Q h => ?_
  refine (tX.seq0 (R1 := Reps X.K) h).imp fun x H1 ⟨ds, h1⟩ => ?_
  obtain ⟨w, ρ, rfl, ok, re, ⟨_, r1⟩, q⟩ := h1
  have q : Post (cx X W) (Rep X.K) w (if ds.length ≤ sizeLine then mkL m ds w.st else .bad) Q _ := q
  by_cases hz : ds.length ≤ sizeLine
  · rw [if_pos hz] at q
    exact ⟨by rw [← r1.length]; exact hz, mk_list ok r1 q⟩
  · rw [if_neg hz] at q
    exact q.elim

/-! ### calls of built-ins -/
/-- the reading of an operation on values that is f on data and the store -/
def AtS (K : PySem.W.Frag) (w : Wd) (d : D) (st : Store) (Q : VK) : Prop := ∀ w', Grow w w' → WOk K w' → w'.st = st → ∀ v, Rep K w' d v → Q v w'.H
def rC (K : PySem.W.Frag) (f : List D → Store → Option D) : List V → Hp → VK → Prop := fun xs H Q => ∃ w ds d, w.H = H ∧ WOk K w ∧ Reps K w ds xs ∧ f ds w.st = some d ∧ At K w d Q
def rMt (K : PySem.W.Frag) (f : D → List D → Store → Option (D × Store)) : V → List V → Hp → VK → Prop := fun x xs H Q => ∃ w d0 ds d st, w.H = H ∧ WOk K w ∧ Rep K w d0 x ∧ Reps K w ds xs ∧ f d0 ds w.st = some (d, st) ∧ AtS K w d st Q
def sBlt (f : List D → Store → Option D) (g : Env → M (List D)) : Env → M D := fun ρ => bnd (g ρ) fun ds st => ofO (f ds st) st
theorem blt_imp {f : List D → Store → Option D} {g : Env → M (List D)} : ∀ σ H Q, tX (cx X W) (Rep X.K) T0 (sBlt f g) σ H Q → tCB (rC X.K f) (tX (cx X W) (Reps X.K) T0 g) σ H Q := fun σ H Q h => by
  refine (tX.seq0 (R1 := Reps X.K) h).imp fun x H1 ⟨ds, h1⟩ => ?_
  obtain ⟨w, ρ, rfl, ok, re, ⟨_, r1⟩, q⟩ := h1
  obtain ⟨d, e1, q⟩ := at_of (K := X.K) rfl q
  exact ⟨w, ds, d, rfl, ok, r1, e1, q⟩
theorem de_blt {f : List D → Store → Option D} {g : Env → M (List D)} {id : String} {x : Str} {e : Expr} {es : List Expr} {p pos : Pos} (hc : CallR X (.builtin id) (rC X.K f)) (hg : Gl X x) (hm : X.mg x = none) (hv : bootBuiltins x = some (.builtin id)) (ha : DA X W (e :: es) g)
    (hn : x ≠ "__name__" := by decide) (hdb : (x == ("__debug__" : Str)) = false := by decide)
    (he : starEach (e :: es) X.env = (false, eval e X.env) :: starEach es X.env := by rfl) (hpl : (backTo pos (starEach es X.env)).any (·.1) = false := by rfl) : DE X W (.Call (.Name x p) (e :: es) [] pos) (sBlt f g) :=
  (pe_callB hc hg hm hv ha hn hdb he hpl).imp blt_imp
theorem de_bty {f : List D → Store → Option D} {g : Env → M (List D)} {T : String} {x : Str} {e : Expr} {es : List Expr} {p pos : Pos} (hc : CallR X (.type T) (rC X.K f)) (hg : Gl X x) (hm : X.mg x = none) (hv : bootBuiltins x = some (.type T)) (ha : DA X W (e :: es) g)
    (hn : x ≠ "__name__" := by decide) (hdb : (x == ("__debug__" : Str)) = false := by decide)
    (he : starEach (e :: es) X.env = (false, eval e X.env) :: starEach es X.env := by rfl) (hpl : (backTo pos (starEach es X.env)).any (·.1) = false := by rfl) : DE X W (.Call (.Name x p) (e :: es) [] pos) (sBlt f g) :=
  (pe_callTy hc hg hm hv ha hn hdb he hpl).imp blt_imp
/-- a method of a built-in type: T's receivers are told by isT -/
def ofP : Option (D × Store) → Res D
  | some (d, st) => .ok d st
  | none => .bad
@[simp] theorem ofP_some (d : D) (st : Store) : ofP (some (d, st)) = .ok d st := rfl
def sMth (isT : D → Store → Bool) (f : D → List D → Store → Option (D × Store)) (fo : Env → M D) (g : Env → M (List D)) : Env → M D := fun ρ => bnd (fo ρ) fun o st => if isT o st then bnd (g ρ) (fun ds st1 => ofP (f o ds st1)) st else .bad
def isStr : D → Store → Bool
  | .str _, _ => true
  | _, _ => false
def isLst : D → Store → Bool := fun d st => (viewL st d).isSome
theorem ty_str {K : PySem.W.Frag} {w : Wd} {d : D} {v : V} (ok : WOk K w) (r : Rep K w d v) (h : isStr d w.st = true) : tyV K "str" v w.H := by
  cases d with
  | str s => rw [show v = V.str (toS s) from r]; exact rfl
  | _ => cases h
theorem ty_lst {K : PySem.W.Frag} {w : Wd} {d : D} {v : V} (ok : WOk K w) (r : Rep K w d v) (h : isLst d w.st = true) : tyV K "list" v w.H := by
  obtain ⟨xs, e⟩ := Option.isSome_iff_exists.mp h
  obtain ⟨a, vs, ea, h1, r1⟩ := view_rep ok e r
  subst ea
  exact .inl ⟨rfl, vs, SqL.of h1⟩
theorem mth_imp {isT : D → Store → Bool} {T : String} (hT : ∀ {w : Wd} {d : D} {v : V}, WOk X.K w → Rep X.K w d v → isT d w.st = true → tyV X.K T v w.H) {f : D → List D → Store → Option (D × Store)} {fo : Env → M D} {g : Env → M (List D)} {σ : L2.St} {H : Hp} {Q : VK}
    (h : tX (cx X W) (Rep X.K) T0 (sMth isT f fo g) σ H Q) : tX (cx X W) (Rep X.K) T0 fo σ H fun x H1 => tyV X.K T x H1 ∧ tX (cx X W) (Reps X.K) T0 g σ H1 fun xs H2 => rMt X.K f x xs H2 Q := by
  refine (tX.seq0 (R1 := Rep X.K) h).imp fun x H1 ⟨d0, h1⟩ => ?_
  obtain ⟨w, ρ, rfl, ok, re, ⟨_, r1⟩, q⟩ := h1
  have q : Post (cx X W) (Rep X.K) w (if isT d0 w.st = true then bnd (g ρ) (fun ds st1 => ofP (f d0 ds st1)) w.st else .bad) Q ((cx X W).we σ) := q
  by_cases hi : isT d0 w.st = true
  · rw [if_pos hi] at q
    refine ⟨hT ok r1 hi, ?_⟩
    have h2 : tX (cx X W) (Rep X.K) (fun w => Rep X.K w d0 x) (fun ρ => bnd (g ρ) (fun ds st1 => ofP (f d0 ds st1))) σ w.H Q := ⟨w, ρ, rfl, ok, re, r1, q⟩
    refine ((tX.seq (R1 := Reps X.K) (fun w w' g q => Rep.grow g _ _ q) h2).weak).imp fun xs H2 ⟨ds, h3⟩ => ?_
    obtain ⟨w2, ρ2, rfl, ok2, re2, ⟨r2, r3⟩, q2⟩ := h3
    have q2 : Post (cx X W) (Rep X.K) w2 (ofP (f d0 ds w2.st)) Q _ := q2
    cases e : f d0 ds w2.st with
    | none => rw [e] at q2; exact q2.elim
    | some z =>
      obtain ⟨d, st⟩ := z
      rw [e] at q2
      exact ⟨w2, d0, ds, d, st, rfl, ok2, r2, r3, e, q2⟩
  · rw [if_neg hi] at q
    exact q.elim
theorem de_mth {isT : D → Store → Bool} {T id : String} {name : Str} {o e : Expr} {es : List Expr} {apos cpos : Pos} {f : D → List D → Store → Option (D × Store)} {fo : Env → M D} {g : Env → M (List D)}
    (hT : ∀ {w : Wd} {d : D} {v : V}, WOk X.K w → Rep X.K w d v → isT d w.st = true → tyV X.K T v w.H) (pa : PlainAttrs T) (slot : Slot T name id) (hty : typeOf (.builtin id) = pure (.type "method_descriptor")) (hm : MtR X id (rMt X.K f)) (ho : DE X W o fo) (ha : DA X W (e :: es) g)
    (hbase : attributeBase o name X.env (eval o X.env) = eval o X.env := by rfl)
    (hfew : ((backTo cpos (starEach (e :: es) X.env)).all (fun x => !x.1) && (backToKw cpos (keywordEach [] X.env)).all (fun x => x.1.isSome)
      && decide ((e :: es).length + ([] : List Keyword).length + (if ([] : List Keyword).isEmpty then 0 else 1) < 30)) = true := by rfl)
    (hline : (apos.endLine == cpos.line) = true := by rfl) (hs : starEach (e :: es) X.env = (false, eval e X.env) :: starEach es X.env := by rfl) (hplain : (backTo cpos (starEach es X.env)).any (·.1) = false := by rfl) :
    DE X W (.Call (.Attribute o name apos) (e :: es) [] cpos) (sMth isT f fo g) :=
  (pe_bm pa slot hty hm ho ha hbase hfew hline hs hplain).imp fun σ H Q h => mth_imp hT h
def sMth0 (isT : D → Store → Bool) (f : D → List D → Store → Option (D × Store)) (fo : Env → M D) : Env → M D := sMth isT f fo sNil
theorem de_mth0 {isT : D → Store → Bool} {T id : String} {name : Str} {o : Expr} {apos cpos : Pos} {f : D → List D → Store → Option (D × Store)} {fo : Env → M D}
    (hT : ∀ {w : Wd} {d : D} {v : V}, WOk X.K w → Rep X.K w d v → isT d w.st = true → tyV X.K T v w.H) (pa : PlainAttrs T) (slot : Slot T name id) (hty : typeOf (.builtin id) = pure (.type "method_descriptor")) (hm : MtR X id (rMt X.K f)) (ho : DE X W o fo)
    (hbase : attributeBase o name X.env (eval o X.env) = eval o X.env := by rfl) (hline : (apos.endLine == cpos.line) = true := by rfl) :
    DE X W (.Call (.Attribute o name apos) [] [] cpos) (sMth0 isT f fo) :=
  (pe_bm0 pa slot hty hm ho hbase hline).imp fun σ H Q h => (mth_imp hT h).imp fun x H1 ⟨h1, h2⟩ => ⟨h1, by
    obtain ⟨w, ρ, rfl, ok, re, _, q⟩ := h2
    exact q w (Grow.refl w) ok rfl [] reps_nil⟩

/-! ### subscripts -/
def ixD : D → D → Store → Option D
  | .str s, .int i, _ => if s.length ≤ sizeLine then (atI s i).map fun c => .str [c] else none
  | .tup xs, .int i, _ => atI xs i
  | .scr ns, .int i, _ => (atI ns i).map D.int
  | d, .int i, st => match viewL st d with
    | some xs => atI xs i
    | none => none
  | _, _, _ => none
def sIx (f g : Env → M D) : Env → M D := fun ρ => bnd (f ρ) fun a => bnd (g ρ) fun b => fun st => ofO (ixD a b st) st
theorem reps_atI {K : PySem.W.Frag} {w : Wd} {xs : List D} {vs : List V} {i : Int} {d : D} (r : Reps K w xs vs) (h : atI xs i = some d) : ∃ v, atI vs i = some v ∧ Rep K w d v := by
  unfold atI at h ⊢
  rw [← r.length]
  cases e : ixN xs.length i with
  | none => rw [e] at h; cases h
  | some j =>
    rw [e] at h
    exact r.get h
theorem ixr_D : IxR X (rB X.K ixD) := by
  intro value slice pins s σ H x y v u Q I rx ry h hs
  obtain ⟨w, dx, dy, d, rfl, ok, hx, hy, hf, q⟩ := h
  have lists : ∀ xs i, viewL w.st dx = some xs → dy = .int i → atI xs i = some d → wpAny (model X.prog X.w) X.A (subscriptTail value slice v u) (EP X pins σ Q) X.xe s := by
    intro xs i e1 e2 e3
    subst e2
    obtain ⟨a, vs, ea, h1, r1⟩ := view_rep ok e1 hx
    obtain ⟨z, h2, h3⟩ := reps_atI r1 e3
    exact ix_list value slice pins s σ _ x y v u Q I rx ry ⟨a, vs, i, z, ea, hy, SqL.of h1, h2, q.now ok h3⟩ hs
  unfold ixD at hf
  split at hf
  · split at hf
    · rename_i t i hz
      cases e : atI t i with
      | none => rw [e] at hf; cases hf
      | some c =>
        rw [e] at hf
        cases hf
        exact ix_str value slice pins s σ _ x y v u Q I rx ry ⟨toS t, i, c, hx, hy, hz, e, q.now ok rfl⟩ hs
    · cases hf
  · obtain ⟨a, vs, ea, h1, r1⟩ := hx
    obtain ⟨z, h2, h3⟩ := reps_atI r1 hf
    exact ix_tup value slice pins s σ _ x y v u Q I rx ry ⟨a, vs, _, z, ea, hy, h1, h2, q.now ok h3⟩ hs
  · rename_i ns i
    obtain ⟨a, ea, h1⟩ := hx
    cases e : atI ns i with
    | none => rw [e] at hf; cases hf
    | some c =>
      rw [e] at hf
      cases hf
      have e2 : atI (ns.map V.int) i = some (V.int c) := by
        unfold atI at e ⊢
        rw [List.length_map]
        cases e3 : ixN ns.length i with
        | none => rw [e3] at e; cases e
        | some j =>
          rw [e3] at e
          have e : ns[j]? = some c := e
          show (ns.map V.int)[j]? = _
          rw [List.getElem?_map, e]
          rfl
      exact ix_list value slice pins s σ _ x y v u Q I rx ry ⟨a, _, i, .int c, ea, hy, h1.sql, e2, q.now ok rfl⟩ hs
  · split at hf
    · rename_i e1
      exact lists _ _ e1 rfl hf
    · cases hf
  · cases hf
theorem de_ix {a b : Expr} {f g : Env → M D} {pos : Pos} (ha : DE X W a f) (hb : DE X W b g) (hs : PlainIx b := by exact fun _ _ => rfl) : DE X W (.Subscript a b pos) (sIx f g) := by
  refine (pe_ix ixr_D ha hb hs).imp fun σ H Q h => ?_
  refine (tX.seq0 (R1 := Rep X.K) h).imp fun x H1 ⟨da, h1⟩ => ?_
  refine ((tX.seq (R1 := Rep X.K) (mono_and mono0 monoRep) h1).weak).imp fun y H2 ⟨db, h2⟩ => ?_
  obtain ⟨w, ρ, e, ok, re, ⟨⟨_, r1⟩, r2⟩, q⟩ := h2
  obtain ⟨d, e1, q⟩ := at_of (K := X.K) rfl q
  exact ⟨w, da, db, d, e, ok, r1, r2, e1, q⟩
end
end PL
/-! PL4: a def's promise where no repr is under way (FG), calls of own defs. -/
namespace PL
open PySem PySem.Spec PyProof.Rows L2

structure FG (P : Program) (wo : World) (K : PySem.W.Frag) (mg : Str → Option Value) (base : Heap) (k : Nat) (f : Addr) (fd : FuncData) (ps : List Str) (sp : Sp) : Prop where
  len : ∀ vs H Q E, sp vs H Q E → vs.length = ps.length
  run : ∀ (A : Around) (out : List PySem.Env) (s : Shared) (H : Hp) (args : Args) (us : List Value) (vs : List V) (Q : VK) (E : XK),
    Room k A → A.guards = some [] → Env0 P wo K mg base A out s H → BindsTo s fd args (ps.zip us) → Vals vs us → sp vs H Q E →
      codeAny (model P wo) A (.call (.ref f) args) (CR (L2N.CX P wo) out P wo H s Q E) s
section
variable {P : Program} {wo : World} {K : PySem.W.Frag} {mg : Str → Option Value} {base : Heap} {k : Nat} {f : Addr} {fd : FuncData} {ps : List Str} {sp : Sp}
theorem FG.mono {j : Nat} (F : FG P wo K mg base j f fd ps sp) (h : j ≤ k) : FG P wo K mg base k f fd ps sp where
  len := F.len
  run := fun A out s H args us vs Q E hr => F.run A out s H args us vs Q E (hr.mono h)
theorem FG.imp {sp' : Sp} (F : FG P wo K mg base k f fd ps sp) (h : ∀ vs H Q E, sp' vs H Q E → sp vs H Q E) : FG P wo K mg base k f fd ps sp' where
  len := fun vs H Q E q => F.len vs H Q E (h _ _ _ _ q)
  run := fun A out s H args us vs Q E hr hg e0 hb hv hs => F.run A out s H args us vs Q E hr hg e0 hb hv (h _ _ _ _ hs)
theorem FG.of (F : FnOk P wo K mg base (L2N.CX P wo) k f fd ps sp) : FG P wo K mg base k f fd ps sp where
  len := F.len
  run := fun A out s H args us vs Q E hr _ => F.run A out s H args us vs Q E hr

/-- THE RULE for a def, by its body -/
theorem fg_body {x qual : Str} {st : Stmt} {N : List Str} (F : Fun K x qual st f fd) (S : FnScope N ps (defScope st)) (hlen : ∀ vs H Q E, sp vs H Q E → vs.length = ps.length)
    (hb : ∀ (cdv : Value) (A : Around) (out : List PySem.Env) (s : Shared) (H : Hp) (vs : List V) (Q : VK) (E : XK), Room k (A.deeper (envOfC qual (defScope st) s.heap.objs.size f cdv)) → A.guards = some [] → sp vs H Q E →
      ∃ t, PSs (cxOf (L2N.CX P wo) P wo K mg base N qual (defScope st) f cdv A out s H E) (defBody st) t ∧ t { nx := fun _ H' => Q .non H', rt := Q } (start N vs) H) :
    FG P wo K mg base (k + 1) f fd ps sp := by
  obtain ⟨oc, od, kV, doc, pm, an, cdv, ct, osl, efd, lk, hcd⟩ := F.ex
  subst efd
  refine ⟨hlen, ?_⟩
  intro A out s H args us vs Q E hr hg e0 bind rv hs
  have same : ∀ b o, base.get? b = some o → s.heap.get? b = some o := fun b o e => (e0.bs b o e).1
  have kin := e0.mod.kin.keeps same
  have nolim := e0.mod.nolimit.keeps same
  have nv : vs.length = ps.length := hlen _ _ _ _ hs
  have parK : ∀ y ∈ ps.zip us, (defScope st).names.lookup y.1 = some .local ∨
      ((defScope st).names.lookup y.1 = some .cell ∧ ((cellsFrom (s.heap.objs.size + 1) (defScope st).names []).lookup y.1).isSome = true) := by
    rintro ⟨z, u⟩ hz
    have hm : z ∈ ps := (List.of_mem_zip hz).1
    cases S.par z hm with
    | inl h => exact Or.inl h
    | inr h => exact Or.inr ⟨h, PySem.W.cellsFrom_some _ _ _ (Or.inl h)⟩
  refine codeAny_call_function hr.depth (kin _ _ lk) rfl S.co S.gen rfl (PySem.W.codeRec_of kin hcd) (bind _ _ _ _ ?_)
  refine wpAny_newFunctionEnv_cells S.kind parK ?_
  intro env he s1 inC
  subst he
  have room := hr.deeper (envOfC qual (defScope st) s.heap.objs.size f cdv)
  obtain ⟨t, body, reading⟩ := hb cdv A out s H vs Q E room hg hs
  have inv := inv_start (CX := L2N.CX P wo) (mg := mg) (E := E) S hr.hd e0 nv rv inC
  refine ⟨nolim.keeps inC.toInCall.keep, codeAny_func (wpAny_mono (body.run [] s1 _ H _ inv reading) ?_ fun _ _ h => h)⟩
  intro fl s' h
  cases fl with
  | ret u => obtain ⟨v, _, H', J, r, q⟩ := h; exact ⟨v, H', J.os, J.bare, J.base, J.hok, r, q⟩
  | next => obtain ⟨_, H', J, q⟩ := h; exact ⟨.non, H', J.os, J.bare, J.base, J.hok, rfl, q⟩
  | brk => obtain ⟨_, _, _, q⟩ := h; exact q.elim
  | cont => obtain ⟨_, _, _, q⟩ := h; exact q.elim
end

/-- an own def, as its callers know it: its address, its promise -/
structure Knows (X : Cx) (x : Str) (k : Nat) (f : Addr) (fd : FuncData) (ps : List Str) (sp : Sp) : Prop where
  mgf : X.mg x = some (.ref f)
  kp : PySem.W.keepIn X.K (.ref f) = true
  ok : FG X.prog X.w X.K X.mg X.base k f fd ps sp
section
variable {X : Cx} {W : WX} {k : Nat} {f : Addr} {fd : FuncData} {ps : List Str} {sp : Sp} {x : Str}
/-- the callee runs -/
theorem run_fg {pins : List (Addr × Obj)} {σ : L2.St} {H : Hp} {s : Shared} {Q : VK} {args : Args} {us : List Value} {vs : List V} (F : FG X.prog X.w X.K X.mg X.base k f fd ps sp) (hr : Room k X.A) (hg : X.A.guards = some []) (tk : L2N.Takes X W)
    (hb : us.length = ps.length → BindsTo s fd args (ps.zip us)) (I : Inv X pins σ H s) (r : Vals vs us) (h : sp vs H Q (WE W σ)) :
    wpAny (model X.prog X.w) X.A (call (.ref f) args.pos args.kw) (EP X pins σ Q) X.xe s := by
  have nl : us.length = ps.length := r.length.symm.trans (F.len _ _ _ _ h)
  have go := F.run X.A X.stack s H args us vs Q (WE W σ) hr hg I.env0 (hb nl) r h
  refine wpAny_call (codeAny_mono (show codeAny (model X.prog X.w) X.A (.call (.ref f) args) _ s from go) ?_)
  intro rs s' hq
  cases rs with
  | error e => exact L2N.passAt tk σ pins H s e s' I hq
  | ok fl =>
    cases fl with
    | ret u => exact I.after hq
    | next => exact hq.elim
    | brk => exact hq.elim
    | cont => exact hq.elim
/-- f(e, ..), every parameter given by place -/
theorem pe_callF {e : Expr} {es : List Expr} {t : TA} {p pos : Pos} (G : Knows X x k f fd ps sp) (hr : Room k X.A) (hg : X.A.guards = some []) (tk : L2N.Takes X W) (hgl : Gl X x) (hb : Binds X.K fd ps []) (ha : PA X (e :: es) t)
    (hdb : (x == ("__debug__" : Str)) = false := by decide) (he : starEach (e :: es) X.env = (false, eval e X.env) :: starEach es X.env := by rfl) (hpl : (backTo pos (starEach es X.env)).any (·.1) = false := by rfl) :
    PE X (.Call (.Name x p) (e :: es) [] pos) (fun σ H Q => t σ H fun vs H1 => sp vs H1 Q (WE W σ)) := by
  refine ⟨fun pins s σ H Q I h => wpAny_Call_Name_kw (ld_glob I hgl G.mgf ?_ hdb)⟩
  refine PySem.W.callWith_K (h₀ := X.base) I.ok.mod.kin G.kp (thn (ha.run pos pins s σ H _ I h) ?_) he hpl
  intro us s1 hq
  obtain ⟨vs, H1, I1, r, q⟩ := hq
  refine ⟨I1.kIn, run_fg (args := ⟨us, []⟩) G.ok hr hg tk (fun nl => ?_) I1 r q⟩
  have := hb s1 us I1.kIn (by rw [List.append_nil]; exact nl)
  rw [List.append_nil] at this
  exact this
/-- f() -/
theorem pe_callF0 {p pos : Pos} (G : Knows X x k f fd ps sp) (hr : Room k X.A) (hg : X.A.guards = some []) (tk : L2N.Takes X W) (hgl : Gl X x) (hb : Binds X.K fd ps []) (hdb : (x == ("__debug__" : Str)) = false := by decide) :
    PE X (.Call (.Name x p) [] [] pos) (fun σ H Q => sp [] H Q (WE W σ)) := by
  refine ⟨fun pins s σ H Q I h => wpAny_Call_Name_kw (ld_glob I hgl G.mgf ?_ hdb)⟩
  refine PySem.W.callWith_K0 I.kIn G.kp (run_fg (args := ⟨[], []⟩) (us := []) (vs := []) G.ok hr hg tk (fun nl => ?_) I .nil h)
  exact hb s [] I.kIn (by simpa using nl)
/-- f(e, .., k = v, ..) -/
theorem pe_callFK {e : Expr} {es : List Expr} {kws : List Keyword} {ks : List Str} {g : List Value → List Value → List Value} {gV : List V → List V → List V} {t tk' : TA} {p pos : Pos} (G : Knows X x k f fd ps sp) (hr : Room k X.A) (hg : X.A.guards = some []) (tk : L2N.Takes X W)
    (hgl : Gl X x) (hb : KBinds X.K fd ps ks g gV) (ha : PA X (e :: es) t) (hkw : PK X kws tk')
    (hall : (backToKw pos (keywordEach kws X.env)).all (·.1.isSome) = true := by rfl) (hks : (backToKw pos (keywordEach kws X.env)).filterMap (·.1) = ks := by rfl)
    (hdb : (x == ("__debug__" : Str)) = false := by decide) (he : starEach (e :: es) X.env = (false, eval e X.env) :: starEach es X.env := by rfl)
    (hpl : ((backTo pos (starEach (e :: es) X.env)).any (·.1) || (backToKw pos (keywordEach kws X.env)).any (·.1.isNone)) = false := by rfl) :
    PE X (.Call (.Name x p) (e :: es) kws pos) (fun σ H Q => t σ H fun vs H1 => tk' σ H1 fun zs H2 => sp (gV vs zs) H2 Q (WE W σ)) := by
  refine ⟨fun pins s σ H Q I h => wpAny_Call_Name_kw (ld_glob I hgl G.mgf ?_ hdb)⟩
  refine PySem.W.callWith_KW (h₀ := X.base) I.ok.mod.kin G.kp hall (thn (ha.run pos pins s σ H _ I h) ?_) hpl he
  intro us s1 hq
  obtain ⟨vs, H1, I1, r, q⟩ := hq
  refine thn (hkw.run pos pins s1 σ H1 _ I1 q) ?_
  intro ws s2 hq2
  obtain ⟨zs, H2, I2, rz, q2⟩ := hq2
  rw [hks]
  exact ⟨I2.kIn, run_fg (args := ⟨us, ks.zip ws⟩) G.ok hr hg tk (hb.to s2 us ws I2.kIn) I2 (hb.rel r rz) q2⟩

/-- the promise of a def that is F on data -/
def spF (K : PySem.W.Frag) (mg : Str → Option Value) (n : Nat) (F : List D → M D) : Sp := fun vs H Q E => vs.length = n ∧ ∃ w ds, w.H = H ∧ WOk K w ∧ Reps K w ds vs ∧
  Post ⟨K, xr K mg, fun _ _ _ _ => False⟩ (Rep K) w (F ds w.st) Q (fun e w' => ∀ c d, xr K mg e c d w' → E c d w'.H)
theorem post_ctx {C C' : Ctx} {α β : Type} {R : Wd → α → β → Prop} {w : Wd} {r : Res α} {Q : β → Hp → Prop} {E : Exc → Wd → Prop} (e : C.K = C'.K) (h : Post C R w r Q E) : Post C' R w r Q E := by
  cases r with
  | ok a st => exact fun w' g ok => h w' g (by rw [e]; exact ok)
  | exc x st => exact fun w' g ok => h w' g (by rw [e]; exact ok)
  | bad => exact h
def sCall (F : List D → M D) (g : Env → M (List D)) : Env → M D := fun ρ => bnd (g ρ) F
theorem call_imp {n : Nat} {F : List D → M D} {g : Env → M (List D)} {σ : L2.St} {H : Hp} {Q : VK} (hn : ∀ ds st, ds.length ≠ n → F ds st = .bad) (h : tX (cx X W) (Rep X.K) T0 (sCall F g) σ H Q) :
    tX (cx X W) (Reps X.K) T0 g σ H fun vs H1 => spF X.K X.mg n F vs H1 Q (WE W σ) := by
  refine (tX.seq0 (R1 := Reps X.K) h).imp fun x H1 ⟨ds, h1⟩ => ?_
  obtain ⟨w, ρ, rfl, ok, re, ⟨_, r1⟩, q⟩ := h1
  refine ⟨?_, w, ds, rfl, ok, r1, post_ctx (C := cx X W) rfl q⟩
  by_cases e : ds.length = n
  · rw [← r1.length]; exact e
  · have q : Post (cx X W) (Rep X.K) w (F ds w.st) Q _ := q
    rw [hn ds w.st e] at q
    exact q.elim
/-- F for n arguments, anything else is not said -/
def arity (n : Nat) (F : List D → M D) : List D → M D := fun ds st => if ds.length = n then F ds st else .bad
theorem arity_bad {n : Nat} {F : List D → M D} : ∀ ds st, ds.length ≠ n → arity n F ds st = .bad := fun ds st h => if_neg h
theorem arity_ok {n : Nat} {F : List D → M D} {ds : List D} {st : Store} (h : ds.length = n) : arity n F ds st = F ds st := if_pos h
theorem de_call {n : Nat} {F : List D → M D} {g : Env → M (List D)} {e : Expr} {es : List Expr} {p pos : Pos} (G : Knows X x k f fd ps (spF X.K X.mg n (arity n F))) (hr : Room k X.A) (hg : X.A.guards = some []) (tk : L2N.Takes X W) (hb : Binds X.K fd ps []) (ha : DA X W (e :: es) g) (hgl : Gl X x := by rfl)
    (hdb : (x == ("__debug__" : Str)) = false := by decide) (he : starEach (e :: es) X.env = (false, eval e X.env) :: starEach es X.env := by rfl) (hpl : (backTo pos (starEach es X.env)).any (·.1) = false := by rfl) :
    DE X W (.Call (.Name x p) (e :: es) [] pos) (sCall (arity n F) g) :=
  (pe_callF G hr hg tk hgl hb ha hdb he hpl).imp fun σ H Q h => call_imp arity_bad h
end
end PL
/-! PL5: data as the library's PyData; comparisons; built-in functions. -/
namespace PL
open PySem PySem.Spec PyProof.Rows L2

mutual
def pyT : D → PyData
  | .non => .none
  | .bl b => .bool b
  | .int i => .int i
  | .str s => .str (toS s)
  | .tup xs => .tuple (pyTs xs)
  | .lst xs => .list (pyTs xs)
  | .scr _ => .none
  | .ref _ => .none
  | .vv _ => .none
  | .emp => .dict []
  | .exn _ _ _ => .none
def pyTs : List D → List PyData
  | [] => []
  | x :: xs => pyT x :: pyTs xs
end
mutual
/-- plain data of at most that depth -/
def flat : Nat → D → Bool
  | _, .non => true
  | _, .bl _ => true
  | _, .int _ => true
  | _, .str s => s.all fun c => decide (c < 1114112)
  | k + 1, .tup xs => flats k xs
  | k + 1, .lst xs => flats k xs
  | 0, .tup _ => false
  | 0, .lst _ => false
  | _, .scr _ => false
  | _, .ref _ => false
  | _, .vv _ => false
  | _, .emp => false
  | _, .exn _ _ _ => false
def flats : Nat → List D → Bool
  | _, [] => true
  | k, x :: xs => flat k x && flats k xs
end
mutual
/-- the store's lists written out -/
def rsv (st : Store) : D → D
  | .tup xs => .tup (rsvs st xs)
  | .lst xs => .lst (rsvs st xs)
  | .ref n => match st[n]? with
    | some (some (.lst xs)) => .lst xs
    | _ => .ref n
  | d => d
def rsvs (st : Store) : List D → List D
  | [] => []
  | x :: xs => rsv st x :: rsvs st xs
end
mutual
theorem rsv_flat (st : Store) : ∀ (k : Nat) (d : D), flat k d = true → rsv st d = d
  | _, .non, _ => rfl
  | _, .bl _, _ => rfl
  | _, .int _, _ => rfl
  | _, .str _, _ => rfl
  | k + 1, .tup xs, h => by show D.tup (rsvs st xs) = _; rw [rsvs_flat st k xs h]
  | k + 1, .lst xs, h => by show D.lst (rsvs st xs) = _; rw [rsvs_flat st k xs h]
  | 0, .tup _, h => by cases h
  | 0, .lst _, h => by cases h
  | _, .scr _, _ => rfl
  | k, .ref _, h => by cases k <;> cases h
  | _, .vv _, _ => rfl
  | _, .emp, _ => rfl
  | _, .exn _ _ _, _ => rfl
theorem rsvs_flat (st : Store) : ∀ (k : Nat) (ds : List D), flats k ds = true → rsvs st ds = ds
  | _, [], _ => rfl
  | k, x :: xs, h => by
    have h : (flat k x && flats k xs) = true := h
    rw [Bool.and_eq_true] at h
    show rsv st x :: rsvs st xs = _
    rw [rsv_flat st k x h.1, rsvs_flat st k xs h.2]
end
theorem str_lay {s : List Nat} (h : (s.all fun c => decide (c < 1114112)) = true) : PyData.strOk (toS s) = true := by
  show (s.toArray.all fun c => decide (c < 1114112)) = true
  rw [List.all_toArray]
  exact h
mutual
theorem pyT_lay : ∀ (k : Nat) (d : D), flat k d = true → (pyT d).canLay0 = true ∧ (pyT d).depth ≤ k
  | _, .non, _ => ⟨rfl, Nat.zero_le _⟩
  | _, .bl _, _ => ⟨rfl, Nat.zero_le _⟩
  | _, .int _, _ => ⟨rfl, Nat.zero_le _⟩
  | k, .str s, h => ⟨by
      show (PyData.str (toS s)).canLay0 = true
      unfold PyData.canLay0
      exact str_lay (by cases k <;> exact h), Nat.zero_le _⟩
  | k + 1, .tup xs, h => by
    obtain ⟨h1, h2⟩ := pyTs_lay k xs h
    refine ⟨?_, ?_⟩
    · show (PyData.tuple (pyTs xs)).canLay0 = true
      unfold PyData.canLay0; exact h1
    · show (PyData.tuple (pyTs xs)).depth ≤ k + 1
      unfold PyData.depth; omega
  | k + 1, .lst xs, h => by
    obtain ⟨h1, h2⟩ := pyTs_lay k xs h
    refine ⟨?_, ?_⟩
    · show (PyData.list (pyTs xs)).canLay0 = true
      unfold PyData.canLay0; exact h1
    · show (PyData.list (pyTs xs)).depth ≤ k + 1
      unfold PyData.depth; omega
  | 0, .tup _, h => by cases h
  | 0, .lst _, h => by cases h
  | _, .scr _, _ => ⟨rfl, Nat.zero_le _⟩
  | _, .ref _, _ => ⟨rfl, Nat.zero_le _⟩
  | _, .vv _, _ => ⟨rfl, Nat.zero_le _⟩
  | k, .emp, h => by cases k <;> cases h
  | k, .exn _ _ _, h => by cases k <;> cases h
theorem pyTs_lay : ∀ (k : Nat) (ds : List D), flats k ds = true → PyData.canLayAll0 (pyTs ds) = true ∧ PyData.depthAll (pyTs ds) ≤ k
  | _, [], _ => ⟨rfl, Nat.zero_le _⟩
  | k, x :: xs, h => by
    have h : (flat k x && flats k xs) = true := h
    rw [Bool.and_eq_true] at h
    obtain ⟨h1, h2⟩ := pyT_lay k x h.1
    obtain ⟨h3, h4⟩ := pyTs_lay k xs h.2
    refine ⟨?_, ?_⟩
    · show PyData.canLayAll0 (pyT x :: pyTs xs) = true
      unfold PyData.canLayAll0
      rw [h1, h3]
      rfl
    · show PyData.depthAll (pyT x :: pyTs xs) ≤ k
      unfold PyData.depthAll
      exact Nat.max_le.mpr ⟨h2, h4⟩
end
theorem flat_shaped {k : Nat} {d : D} (h : flat k d = true) (hk : k ≤ 64) : SeqAt.shaped (pyT d) = true := by
  obtain ⟨h1, h2⟩ := pyT_lay k d h
  unfold SeqAt.shaped
  rw [h1, decide_eq_true (Nat.le_trans h2 hk)]
  rfl
mutual
theorem dp_flat {K : PySem.W.Frag} {w : Wd} : ∀ (k : Nat) (d : D) (v : V), flat k d = true → Rep K w d v → Dp K w.H v (pyT d)
  | _, .non, v, _, r => by rw [show v = V.non from r]; exact .non
  | _, .bl b, v, _, r => by rw [show v = V.bl b from r]; exact .bl b
  | _, .int i, v, _, r => by rw [show v = V.int i from r]; exact .int i
  | _, .str s, v, _, r => by rw [show v = V.str (toS s) from r]; exact .str _
  | k + 1, .tup xs, v, h, r => by
    obtain ⟨a, vs, e, h1, h2⟩ := r
    subst e
    exact .tup h1 (dps_flat k xs vs h h2)
  | k + 1, .lst xs, v, h, r => by
    obtain ⟨a, vs, e, h1, _, h2⟩ := r
    subst e
    exact .lst (SqL.of h1) (dps_flat k xs vs h h2)
  | 0, .tup _, _, h, _ => by cases h
  | 0, .lst _, _, h, _ => by cases h
  | k, .scr _, _, h, _ => by cases k <;> cases h
  | k, .ref _, _, h, _ => by cases k <;> cases h
  | k, .vv _, _, h, _ => by cases k <;> cases h
  | k, .emp, _, h, _ => by cases k <;> cases h
  | k, .exn _ _ _, _, h, _ => by cases k <;> cases h
theorem dps_flat {K : PySem.W.Frag} {w : Wd} : ∀ (k : Nat) (ds : List D) (vs : List V), flats k ds = true → Reps K w ds vs → DpAll K w.H vs (pyTs ds)
  | _, [], vs, _, r => by
    have r : vs = [] := r
    subst r
    exact .nil
  | k, x :: xs, vs, h, r => by
    have h : (flat k x && flats k xs) = true := h
    rw [Bool.and_eq_true] at h
    obtain ⟨v, t, e, h1, h2⟩ := r
    subst e
    exact .cons (dp_flat k x v h.1 h1) (dps_flat k xs t h.2 h2)
end
mutual
theorem dp_rsv {K : PySem.W.Frag} {w : Wd} (ok : WOk K w) : ∀ (k : Nat) (d : D) (v : V), flat k (rsv w.st d) = true → Rep K w d v → Dp K w.H v (pyT (rsv w.st d))
  | _, .non, v, _, r => by rw [show v = V.non from r]; exact .non
  | _, .bl b, v, _, r => by rw [show v = V.bl b from r]; exact .bl b
  | _, .int i, v, _, r => by rw [show v = V.int i from r]; exact .int i
  | _, .str s, v, _, r => by rw [show v = V.str (toS s) from r]; exact .str _
  | k + 1, .tup xs, v, h, r => by
    obtain ⟨a, vs, e, h1, h2⟩ := r
    subst e
    exact .tup h1 (dps_rsv ok k xs vs h h2)
  | k + 1, .lst xs, v, h, r => by
    obtain ⟨a, vs, e, h1, _, h2⟩ := r
    subst e
    exact .lst (SqL.of h1) (dps_rsv ok k xs vs h h2)
  | 0, .tup _, _, h, _ => by cases h
  | 0, .lst _, _, h, _ => by cases h
  | k, .scr _, _, h, _ => by cases k <;> cases h
  | k, .ref n, v, h, r => by
    have e2 : rsv w.st (.ref n) = (match w.st[n]? with | some (some (.lst xs)) => D.lst xs | _ => D.ref n) := by unfold rsv; rfl
    rw [e2] at h ⊢
    cases e : w.st[n]? with
    | none => rw [e] at h; cases k <;> cases h
    | some o =>
      rw [e] at h
      cases o with
      | none => cases k <;> cases h
      | some ob =>
        cases ob with
        | lst xs =>
          obtain ⟨vs, h1, h2⟩ := ok.ob n _ e
          rw [show v = V.ref (w.bet n) from r.2]
          cases k with
          | zero => cases h
          | succ k => exact .lst (SqL.of h1) (dps_flat k xs vs h h2)
        | dct _ => cases k <;> cases h
        | dcT _ => cases k <;> cases h
        | ins _ _ => cases k <;> cases h
  | k, .vv _, _, h, _ => by cases k <;> cases h
  | k, .emp, _, h, _ => by cases k <;> cases h
  | k, .exn _ _ _, _, h, _ => by cases k <;> cases h
theorem dps_rsv {K : PySem.W.Frag} {w : Wd} (ok : WOk K w) : ∀ (k : Nat) (ds : List D) (vs : List V), flats k (rsvs w.st ds) = true → Reps K w ds vs → DpAll K w.H vs (pyTs (rsvs w.st ds))
  | _, [], vs, _, r => by
    have r : vs = [] := r
    subst r
    exact .nil
  | k, x :: xs, vs, h, r => by
    have h : (flat k (rsv w.st x) && flats k (rsvs w.st xs)) = true := h
    rw [Bool.and_eq_true] at h
    obtain ⟨v, t, e, h1, h2⟩ := r
    subst e
    exact .cons (dp_rsv ok k x v h.1 h1) (dps_rsv ok k xs t h.2 h2)
end
/-- Python's == on plain data -/
def deq (a b : D) : Bool := PyData.eqv (pyT a) (pyT b)
def eqD (a b : D) (st : Store) : Option Bool := match a, b with
  | .str s, .str t => some (decide (s = t))
  | .int i, .int j => some (decide (i = j))
  | .bl i, .bl j => some (decide (i = j))
  | a, b => if flat 60 (rsv st a) && flat 60 (rsv st b) then some (deq (rsv st a) (rsv st b)) else none
theorem deq_refl {k : Nat} {a : D} (h : flat k a = true) : deq a a = true := SeqAt.eqv_refl _ (pyT_lay k a h).1
theorem eqD_str (s t : List Nat) (st : Store) : eqD (.str s) (.str t) st = some (decide (s = t)) := rfl
theorem eqD_int (i j : Int) (st : Store) : eqD (.int i) (.int j) st = some (decide (i = j)) := rfl
theorem eqD_bl (i j : Bool) (st : Store) : eqD (.bl i) (.bl j) st = some (decide (i = j)) := rfl
theorem eqD_cases {a b : D} {st : Store} {c : Bool} (h : eqD a b st = some c) : (∃ s t, a = .str s ∧ b = .str t ∧ c = decide (s = t)) ∨ (∃ i j, a = .int i ∧ b = .int j ∧ c = decide (i = j)) ∨
    (∃ i j, a = .bl i ∧ b = .bl j ∧ c = decide (i = j)) ∨ (flat 60 (rsv st a) = true ∧ flat 60 (rsv st b) = true ∧ c = deq (rsv st a) (rsv st b)) := by
  unfold eqD at h
  split at h
  · cases h; exact .inl ⟨_, _, rfl, rfl, rfl⟩
  · cases h; exact .inr (.inl ⟨_, _, rfl, rfl, rfl⟩)
  · cases h; exact .inr (.inr (.inl ⟨_, _, rfl, rfl, rfl⟩))
  · split at h
    · rename_i hz
      rw [Bool.and_eq_true] at hz
      cases h
      exact .inr (.inr (.inr ⟨hz.1, hz.2, rfl⟩))
    · cases h
theorem eqD_refl {a : D} {st : Store} (h : flat 60 a = true) : eqD a a st = some true := by
  unfold eqD
  split
  · rw [decide_eq_true rfl]
  · rw [decide_eq_true rfl]
  · rw [decide_eq_true rfl]
  · rw [rsv_flat st 60 a h, h, deq_refl h]
    rfl

inductive COp where
  | eq | ne | lt | le | gt | ge | isn | ison | isin | notin
def COp.ast : COp → CmpOp
  | .eq => .Eq | .ne => .NotEq | .lt => .Lt | .le => .LtE | .gt => .Gt | .ge => .GtE | .isn => .Is | .ison => .IsNot | .isin => .In | .notin => .NotIn
def ltD : D → D → Option Bool
  | .int i, .int j => some (decide (i < j))
  | .str s, .str t => some (decide (s < t))
  | _, _ => none
def isNone : D → Bool
  | .non => true
  | _ => false
def isI : D → Bool
  | .int _ => true
  | _ => false
def eqI (i : Int) : D → Bool
  | .int j => j == i
  | _ => false
/-- x in y -/
def inD (a b : D) (st : Store) : Option Bool := match a, b with
  | .str [c], .str t => some (decide (c ∈ t))
  | .int i, .tup xs => if xs.all isI then some (xs.any (eqI i)) else none
  | a, b => match rsv st b with
    | .lst xs => if flat 60 (rsv st a) && flat 60 (.lst xs) then some (xs.any fun z => deq z (rsv st a)) else none
    | _ => none
def COp.sem : COp → D → D → Store → Option Bool
  | .eq, a, b, st => eqD a b st
  | .ne, a, b, st => (eqD a b st).map (!·)
  | .lt, a, b, _ => ltD a b
  | .ge, a, b, _ => (ltD a b).map (!·)
  | .gt, a, b, _ => ltD b a
  | .le, a, b, _ => (ltD b a).map (!·)
  | .isn, a, .non, _ => some (isNone a)
  | .ison, a, .non, _ => some (!isNone a)
  | .isn, _, _, _ => none
  | .ison, _, _, _ => none
  | .isin, a, b, st => inD a b st
  | .notin, a, b, st => (inD a b st).map (!·)
/-- the reading of a comparison -/
def rCmp (K : PySem.W.Frag) (f : D → D → Store → Option Bool) : R2 := fun x y H Q => ∃ w dx dy b, w.H = H ∧ WOk K w ∧ Rep K w dx x ∧ Rep K w dy y ∧ f dx dy w.st = some b ∧ Q (.bl b) H
section
variable {X : Cx}
theorem toS_list (s : List Nat) : (toS s).cps.toList = s := by
  show s.toArray.toList = s
  rfl
theorem isNone_rep {K : PySem.W.Frag} {w : Wd} {d : D} {v : V} {b : Bool} (hv : ∀ u, d ≠ .vv u) (r : Rep K w d v) : isNone d = decide (v = .non) := by
  cases d with
  | non => rw [show v = V.non from r]; rfl
  | bl c => rw [show v = V.bl c from r]; rfl
  | int i => rw [show v = V.int i from r]; rfl
  | str s => rw [show v = V.str (toS s) from r]; rfl
  | tup xs => obtain ⟨a, vs, e, _⟩ := r; rw [e]; rfl
  | lst xs => obtain ⟨a, vs, e, _⟩ := r; rw [e]; rfl
  | scr ns => obtain ⟨a, e, _⟩ := r; rw [e]; rfl
  | ref n => rw [r.2]; rfl
  | vv u => exact absurd rfl (hv u)
  | emp => obtain ⟨a, e, _⟩ := r; rw [e]; rfl
  | exn _ _ _ => obtain ⟨a, _, _, e, _⟩ := r; rw [e]; rfl
theorem dec_v {s t : List Nat} : decide (V.str (toS s) = V.str (toS t)) = decide (s = t) := by
  by_cases h : s = t
  · subst h; rw [decide_eq_true rfl, decide_eq_true rfl]
  · rw [decide_eq_false h, decide_eq_false fun e => h (toS_inj (V.str.inj e))]
theorem dec_vi {i j : Int} : decide (V.int i = V.int j) = decide (i = j) := by
  by_cases h : i = j
  · subst h; rw [decide_eq_true rfl, decide_eq_true rfl]
  · rw [decide_eq_false h, decide_eq_false fun e => h (V.int.inj e)]
theorem dec_vb {i j : Bool} : decide (V.bl i = V.bl j) = decide (i = j) := by cases i <;> cases j <;> rfl
theorem cmp_eq (hu : X.A.units + 65 < cLine) : OpR X (compareOp .Eq) (rCmp X.K eqD) := by
  intro pins s σ H x y v u Q I rx ry h
  obtain ⟨w, dx, dy, b, rfl, ok, hx, hy, hf, q⟩ := h
  rcases eqD_cases hf with ⟨z, t, rfl, rfl, rfl⟩ | ⟨i, j, rfl, rfl, rfl⟩ | ⟨i, j, rfl, rfl, rfl⟩ | ⟨z1, z2, rfl⟩
  · have hx : x = V.str (toS z) := hx
    have hy : y = V.str (toS t) := hy
    subst hx hy
    exact op_eq pins s σ _ _ _ v u Q I rx ry ⟨rfl, by rw [dec_v]; exact q⟩
  · have hx : x = V.int i := hx
    have hy : y = V.int j := hy
    subst hx hy
    exact op_eq pins s σ _ _ _ v u Q I rx ry ⟨rfl, by rw [dec_vi]; exact q⟩
  · have hx : x = V.bl i := hx
    have hy : y = V.bl j := hy
    subst hx hy
    exact op_eq pins s σ _ _ _ v u Q I rx ry ⟨rfl, by rw [dec_vb]; exact q⟩
  · exact op_eqD (by omega) pins s σ _ x y v u Q I rx ry ⟨_, _, dp_rsv ok 60 dx x z1 hx, dp_rsv ok 60 dy y z2 hy, flat_shaped z1 (by decide), flat_shaped z2 (by decide), q⟩
theorem cmp_ne (hu : X.A.units + 65 < cLine) : OpR X (compareOp .NotEq) (rCmp X.K fun a b st => (eqD a b st).map (!·)) := by
  intro pins s σ H x y v u Q I rx ry h
  obtain ⟨w, dx, dy, b, rfl, ok, hx, hy, hf, q⟩ := h
  have hf : (eqD dx dy w.st).map (!·) = some b := hf
  cases e : eqD dx dy w.st with
  | none => rw [e] at hf; cases hf
  | some c =>
    rw [e] at hf
    cases hf
    rcases eqD_cases e with ⟨z, t, rfl, rfl, rfl⟩ | ⟨i, j, rfl, rfl, rfl⟩ | ⟨i, j, rfl, rfl, rfl⟩ | ⟨z1, z2, rfl⟩
    · have hx : x = V.str (toS z) := hx
      have hy : y = V.str (toS t) := hy
      subst hx hy
      exact op_ne pins s σ _ _ _ v u Q I rx ry ⟨rfl, by rw [dec_v]; exact q⟩
    · have hx : x = V.int i := hx
      have hy : y = V.int j := hy
      subst hx hy
      exact op_ne pins s σ _ _ _ v u Q I rx ry ⟨rfl, by rw [dec_vi]; exact q⟩
    · have hx : x = V.bl i := hx
      have hy : y = V.bl j := hy
      subst hx hy
      exact op_ne pins s σ _ _ _ v u Q I rx ry ⟨rfl, by rw [dec_vb]; exact q⟩
    · exact op_neD (by omega) pins s σ _ x y v u Q I rx ry ⟨_, _, dp_rsv ok 60 dx x z1 hx, dp_rsv ok 60 dy y z2 hy, flat_shaped z1 (by decide), flat_shaped z2 (by decide), q⟩
theorem ltD_cases {a b : D} {c : Bool} (h : ltD a b = some c) : (∃ i j, a = .int i ∧ b = .int j ∧ c = decide (i < j)) ∨ (∃ s t, a = .str s ∧ b = .str t ∧ c = decide (s < t)) := by
  unfold ltD at h
  split at h
  · cases h; exact .inl ⟨_, _, rfl, rfl, rfl⟩
  · cases h; exact .inr ⟨_, _, rfl, rfl, rfl⟩
  · cases h
theorem cmp_lt : OpR X (compareOp .Lt) (rCmp X.K fun a b _ => ltD a b) := by
  intro pins s σ H x y v u Q I rx ry h
  obtain ⟨w, dx, dy, b, rfl, ok, hx, hy, hf, q⟩ := h
  rcases ltD_cases hf with ⟨i, j, rfl, rfl, rfl⟩ | ⟨z, t, rfl, rfl, rfl⟩
  · exact op_lt pins s σ _ x y v u Q I rx ry ⟨i, j, hx, hy, q⟩
  · exact op_lt_str pins s σ _ x y v u Q I rx ry ⟨_, _, hx, hy, by rw [toS_list, toS_list]; exact q⟩
theorem cmp_gt : OpR X (compareOp .Gt) (rCmp X.K fun a b _ => ltD b a) := by
  intro pins s σ H x y v u Q I rx ry h
  obtain ⟨w, dx, dy, b, rfl, ok, hx, hy, hf, q⟩ := h
  rcases ltD_cases hf with ⟨i, j, rfl, rfl, rfl⟩ | ⟨z, t, rfl, rfl, rfl⟩
  · exact op_gt pins s σ _ x y v u Q I rx ry ⟨j, i, hx, hy, q⟩
  · exact op_gt_str pins s σ _ x y v u Q I rx ry ⟨_, _, hx, hy, by rw [toS_list, toS_list]; exact q⟩
theorem not_lt_dec (i j : Int) : (!decide (i < j)) = decide (j ≤ i) := by
  by_cases h : i < j
  · rw [decide_eq_true h, decide_eq_false (by omega)]; rfl
  · rw [decide_eq_false h, decide_eq_true (by omega)]; rfl
theorem cmp_ge : OpR X (compareOp .GtE) (rCmp X.K fun a b _ => (ltD a b).map (!·)) := by
  intro pins s σ H x y v u Q I rx ry h
  obtain ⟨w, dx, dy, b, rfl, ok, hx, hy, hf, q⟩ := h
  have hf : (ltD dx dy).map (!·) = some b := hf
  cases e : ltD dx dy with
  | none => rw [e] at hf; cases hf
  | some c =>
    rw [e] at hf
    cases hf
    rcases ltD_cases e with ⟨i, j, rfl, rfl, rfl⟩ | ⟨z, t, rfl, rfl, rfl⟩
    · refine op_ge pins s σ _ x y v u Q I rx ry ⟨i, j, hx, hy, ?_⟩
      show Q (.bl (decide (j ≤ i))) _
      rw [← not_lt_dec]
      exact q
    · exact op_ge_str pins s σ _ x y v u Q I rx ry ⟨_, _, hx, hy, by rw [toS_list, toS_list]; exact q⟩
theorem cmp_le : OpR X (compareOp .LtE) (rCmp X.K fun a b _ => (ltD b a).map (!·)) := by
  intro pins s σ H x y v u Q I rx ry h
  obtain ⟨w, dx, dy, b, rfl, ok, hx, hy, hf, q⟩ := h
  have hf : (ltD dy dx).map (!·) = some b := hf
  cases e : ltD dy dx with
  | none => rw [e] at hf; cases hf
  | some c =>
    rw [e] at hf
    cases hf
    rcases ltD_cases e with ⟨i, j, rfl, rfl, rfl⟩ | ⟨z, t, rfl, rfl, rfl⟩
    · refine op_le pins s σ _ x y v u Q I rx ry ⟨j, i, hx, hy, ?_⟩
      show Q (.bl (decide (j ≤ i))) _
      rw [← not_lt_dec]
      exact q
    · exact op_le_str pins s σ _ x y v u Q I rx ry ⟨_, _, hx, hy, by rw [toS_list, toS_list]; exact q⟩
theorem any_pyT (z : PyData) : ∀ xs : List D, ((pyTs xs).any fun y => PyData.eqv y z) = xs.any fun y => PyData.eqv (pyT y) z
  | [] => rfl
  | x :: xs => by
    show ((pyT x :: pyTs xs).any _) = _
    rw [List.any_cons, List.any_cons, any_pyT z xs]
theorem ints_in {K : PySem.W.Frag} {w : Wd} (i : Int) : ∀ {xs : List D} {vs : List V}, Reps K w xs vs → xs.all isI = true → vs.all flatV = true ∧ inV (.int i) vs = xs.any (eqI i)
  | [], vs, r, _ => by
    obtain rfl : vs = [] := r
    exact ⟨rfl, rfl⟩
  | x :: xs, vs, r, h => by
    obtain ⟨v, r, rfl, h1, h2⟩ := r
    rw [List.all_cons, Bool.and_eq_true] at h
    obtain ⟨k1, k2⟩ := ints_in i h2 h.2
    cases x with
    | int j =>
      obtain rfl : v = V.int j := h1
      refine ⟨by rw [List.all_cons, k1]; rfl, ?_⟩
      show ((V.int j :: r).any fun y => eqV y (.int i)) = _
      rw [List.any_cons, List.any_cons]
      rw [show (r.any fun y => eqV y (.int i)) = xs.any (eqI i) from k2]
      rfl
    | _ => exact absurd h.1 Bool.false_ne_true
theorem inD_cases {a b : D} {st : Store} {c : Bool} (h : inD a b st = some c) : (∃ k t, a = .str [k] ∧ b = .str t ∧ c = decide (k ∈ t)) ∨ (∃ i xs, a = .int i ∧ b = .tup xs ∧ xs.all isI = true ∧ c = xs.any (eqI i)) ∨
    (∃ xs, rsv st b = .lst xs ∧ flat 60 (rsv st a) = true ∧ flat 60 (.lst xs) = true ∧ c = xs.any fun z => deq z (rsv st a)) := by
  unfold inD at h
  split at h
  · cases h; exact .inl ⟨_, _, rfl, rfl, rfl⟩
  · split at h
    · rename_i hz
      cases h
      exact .inr (.inl ⟨_, _, rfl, rfl, hz, rfl⟩)
    · cases h
  · split at h
    · rename_i xs e
      split at h
      · rename_i hz
        rw [Bool.and_eq_true] at hz
        cases h
        exact .inr (.inr ⟨xs, e, hz.1, hz.2, rfl⟩)
      · cases h
    · cases h
theorem cmp_in (hu : X.A.units + 65 < cLine) : OpR X (compareOp .In) (rCmp X.K inD) := by
  intro pins s σ H x y v u Q I rx ry h
  obtain ⟨w, dx, dy, b, rfl, ok, hx, hy, hf, q⟩ := h
  rcases inD_cases hf with ⟨k, t, rfl, rfl, rfl⟩ | ⟨i, xs, rfl, rfl, h1, rfl⟩ | ⟨xs, e, h1, h2, rfl⟩
  · exact op_in_sign pins s σ _ x y v u Q I rx ry ⟨k, _, hx, hy, by rw [toS_list]; exact q⟩
  · obtain rfl : x = V.int i := hx
    obtain ⟨a, vs, ea, k1, k2⟩ := hy
    obtain ⟨z1, z2⟩ := ints_in i k2 h1
    exact op_in_seq pins s σ _ _ y v u Q I rx ry ⟨a, vs, ea, .inr k1, rfl, z1, by rw [if_neg Bool.false_ne_true, z2]; exact q⟩
  · refine op_inD hu pins s σ _ x y v u Q I rx ry ⟨_, pyTs xs, dp_rsv ok 60 dx x h1 hx, ?_, flat_shaped h1 (by decide), flat_shaped (d := .lst xs) h2 (by decide), ?_⟩
    · have := dp_rsv ok 60 dy y (by rw [e]; exact h2) hy
      rw [e] at this
      exact this
    · rw [any_pyT]; exact q
theorem cmp_notin (hu : X.A.units + 65 < cLine) : OpR X (compareOp .NotIn) (rCmp X.K fun a b st => (inD a b st).map (!·)) := by
  intro pins s σ H x y v u Q I rx ry h
  obtain ⟨w, dx, dy, b, rfl, ok, hx, hy, hf, q⟩ := h
  have hf : (inD dx dy w.st).map (!·) = some b := hf
  cases e0 : inD dx dy w.st with
  | none => rw [e0] at hf; cases hf
  | some c =>
    rw [e0] at hf
    cases hf
    rcases inD_cases e0 with ⟨k, t, rfl, rfl, rfl⟩ | ⟨i, xs, rfl, rfl, h1, rfl⟩ | ⟨xs, e, h1, h2, rfl⟩
    · exact op_notIn_sign pins s σ _ x y v u Q I rx ry ⟨k, _, hx, hy, by rw [toS_list]; exact q⟩
    · obtain rfl : x = V.int i := hx
      obtain ⟨a, vs, ea, k1, k2⟩ := hy
      obtain ⟨z1, z2⟩ := ints_in i k2 h1
      exact op_notIn_seq pins s σ _ _ y v u Q I rx ry ⟨a, vs, ea, .inr k1, rfl, z1, by rw [if_pos rfl, z2]; exact q⟩
    · refine op_notInD hu pins s σ _ x y v u Q I rx ry ⟨_, pyTs xs, dp_rsv ok 60 dx x h1 hx, ?_, flat_shaped h1 (by decide), flat_shaped (d := .lst xs) h2 (by decide), ?_⟩
      · have := dp_rsv ok 60 dy y (by rw [e]; exact h2) hy
        rw [e] at this
        exact this
      · rw [any_pyT]; exact q
theorem is_cases {a b : D} {st : Store} {c : Bool} {f : Bool → Bool} (h : (match b with | .non => some (f (isNone a)) | _ => none) = some c) : b = .non ∧ c = f (isNone a) := by
  split at h
  · cases h; exact ⟨rfl, rfl⟩
  · cases h
theorem cmp_any (op : COp) (hu : X.A.units + 65 < cLine) : OpR X (compareOp op.ast) (rCmp X.K fun a b st => match a with | .vv _ => none | a => op.sem a b st) := by
  intro pins s σ H x y v u Q I rx ry h
  obtain ⟨w, dx, dy, b, rfl, ok, hx, hy, hf, q⟩ := h
  have hv : ∀ z, dx ≠ .vv z := fun z e => by
    subst e
    cases hf
  have hf : op.sem dx dy w.st = some b := by
    cases dx <;> first | exact hf | exact absurd rfl (hv _)
  cases op with
  | eq => exact cmp_eq hu pins s σ _ x y v u Q I rx ry ⟨w, dx, dy, b, rfl, ok, hx, hy, hf, q⟩
  | ne => exact cmp_ne hu pins s σ _ x y v u Q I rx ry ⟨w, dx, dy, b, rfl, ok, hx, hy, hf, q⟩
  | lt => exact cmp_lt pins s σ _ x y v u Q I rx ry ⟨w, dx, dy, b, rfl, ok, hx, hy, hf, q⟩
  | le => exact cmp_le pins s σ _ x y v u Q I rx ry ⟨w, dx, dy, b, rfl, ok, hx, hy, hf, q⟩
  | gt => exact cmp_gt pins s σ _ x y v u Q I rx ry ⟨w, dx, dy, b, rfl, ok, hx, hy, hf, q⟩
  | ge => exact cmp_ge pins s σ _ x y v u Q I rx ry ⟨w, dx, dy, b, rfl, ok, hx, hy, hf, q⟩
  | isin => exact cmp_in hu pins s σ _ x y v u Q I rx ry ⟨w, dx, dy, b, rfl, ok, hx, hy, hf, q⟩
  | notin => exact cmp_notin hu pins s σ _ x y v u Q I rx ry ⟨w, dx, dy, b, rfl, ok, hx, hy, hf, q⟩
  | isn =>
    obtain ⟨e1, e2⟩ : dy = .non ∧ b = isNone dx := by
      unfold COp.sem at hf
      cases dy <;> first | (cases hf; exact ⟨rfl, rfl⟩) | cases hf
    subst e1
    rw [e2, isNone_rep (b := true) hv hx] at q
    exact op_isN pins s σ _ x y v u Q I rx ry ⟨hy, q⟩
  | ison =>
    obtain ⟨e1, e2⟩ : dy = .non ∧ b = !isNone dx := by
      unfold COp.sem at hf
      cases dy <;> first | (cases hf; exact ⟨rfl, rfl⟩) | cases hf
    subst e1
    rw [e2, isNone_rep (b := true) hv hx] at q
    exact op_notN pins s σ _ x y v u Q I rx ry ⟨hy, q⟩
def cmpS (op : COp) (a b : D) (st : Store) : Option Bool := match a with
  | .vv _ => none
  | a => op.sem a b st
def tCmpS (op : COp) (f g : Env → M D) : Env → M Bool := fun ρ => bnd (f ρ) fun a => bnd (g ρ) fun b => fun st => ofO (cmpS op a b st) st
variable {W : WX}
theorem seq_cmp {op : COp} {f g : Env → M D} {σ : L2.St} {H : Hp} {Q : VK} (h : tX (cx X W) (Rep X.K) T0 (sOfB (tCmpS op f g)) σ H Q) :
    tX (cx X W) (Rep X.K) T0 f σ H fun x H1 => tX (cx X W) (Rep X.K) T0 g σ H1 fun y H2 => rCmp X.K (cmpS op) x y H2 Q := by
  have h' : tX (cx X W) (Rep X.K) T0 (fun ρ => bnd (f ρ) fun a => bnd (g ρ) fun b => bnd (fun st => ofO (cmpS op a b st) st) fun c => ret (D.bl c)) σ H Q := by
    obtain ⟨w, ρ, e, ok, re, p, q⟩ := h
    refine ⟨w, ρ, e, ok, re, p, ?_⟩
    unfold sOfB tCmpS bnd at q
    show Post (cx X W) (Rep X.K) w ((f ρ w.st).bnd fun a => bnd (g ρ) fun b => bnd (fun st => ofO (cmpS op a b st) st) fun c => ret (D.bl c)) Q _
    cases hf : f ρ w.st with
    | bad => rw [hf] at q; exact q
    | exc _ _ => rw [hf] at q; exact q
    | ok a st =>
      rw [hf] at q
      show Post (cx X W) (Rep X.K) w ((g ρ st).bnd fun b => bnd (fun st => ofO (cmpS op a b st) st) fun c => ret (D.bl c)) Q _
      have q : Post (cx X W) (Rep X.K) w (((g ρ st).bnd fun b st => ofO (cmpS op a b st) st).bnd fun a => ret (D.bl a)) Q _ := q
      cases hg : g ρ st with
      | bad => rw [hg] at q; exact q
      | exc _ _ => rw [hg] at q; exact q
      | ok b st2 => rw [hg] at q; exact q
  refine (tX.seq0 (R1 := Rep X.K) h').imp fun x H1 ⟨da, h1⟩ => ?_
  refine ((tX.seq (R1 := Rep X.K) (mono_and mono0 monoRep) h1).weak).imp fun y H2 ⟨db, h2⟩ => ?_
  obtain ⟨w, ρ, rfl, ok, re, ⟨⟨_, r1⟩, r2⟩, q⟩ := h2
  have q : Post (cx X W) (Rep X.K) w ((ofO (cmpS op da db w.st) w.st : Res Bool).bnd fun c => ret (D.bl c)) Q _ := q
  cases e : cmpS op da db w.st with
  | none => rw [e] at q; exact q.elim
  | some b =>
    rw [e] at q
    exact ⟨w, da, db, b, rfl, ok, r1, r2, e, q w (Grow.refl w) ok rfl _ rfl⟩
theorem de_cmp (op : COp) {a b : Expr} {f g : Env → M D} {o : CmpOp} {pos : Pos} (hu : X.A.units + 65 < cLine) (ha : DE X W a f) (hb : DE X W b g) (ho : op.ast = o := by rfl) (hm : behindInMarks o b = false := by first | rfl | exact nomark _) :
    DE X W (.Compare a [o] [b] pos) (sOfB (tCmpS op f g)) := by
  subst ho
  exact (pe_cmpR (cmp_any op hu) ha hb hm).imp fun σ H Q h => seq_cmp h
theorem dt_cmp (op : COp) {a b : Expr} {f g : Env → M D} {o : CmpOp} {pos : Pos} (hu : X.A.units + 65 < cLine) (ha : DE X W a f) (hb : DE X W b g) (ho : op.ast = o := by rfl) (hm : behindInMarks o b = false := by first | rfl | exact nomark _) :
    DT X W (.Compare a [o] [b] pos) (tCmpS op f g) := by
  subst ho
  refine (pt_cmpR (cmp_any op hu) ha hb hm).imp fun σ H Q h => ?_
  have h2 : tX (cx X W) (Rep X.K) T0 (sOfB (tCmpS op f g)) σ H fun x H1 => ∃ k, x = V.bl k ∧ Q k H1 := by
    obtain ⟨w, ρ, e, ok, re, p, q⟩ := h
    refine ⟨w, ρ, e, ok, re, p, ?_⟩
    unfold sOfB bnd
    cases hr : tCmpS op f g ρ w.st with
    | bad => rw [hr] at q; exact q
    | exc _ _ => rw [hr] at q; exact q
    | ok c st =>
      rw [hr] at q
      exact fun w' g' ok' es x hx => ⟨c, hx, q w' g' ok' es c rfl⟩
  exact seq_cmp h2
end
end PL
/-! PL6: built-in functions and methods on data. -/
namespace PL
open PySem PySem.Spec PyProof.Rows L2

/-! ### items of one kind -/
def asInts : List D → Option (List Int)
  | [] => some []
  | .int i :: r => (asInts r).map (i :: ·)
  | _ => none
def asStrs : List D → Option (List (List Nat))
  | [] => some []
  | .str i :: r => (asStrs r).map (i :: ·)
  | _ => none
def asBls : List D → Option (List Bool)
  | [] => some []
  | .bl i :: r => (asBls r).map (i :: ·)
  | _ => none
theorem asInts_eq : ∀ {xs : List D} {ns : List Int}, asInts xs = some ns → xs = ns.map D.int
  | [], ns, h => by cases h; rfl
  | .int i :: r, ns, h => by
    have h : (asInts r).map (i :: ·) = some ns := h
    cases e : asInts r with
    | none => rw [e] at h; cases h
    | some ms => rw [e] at h; cases h; rw [asInts_eq e]; rfl
  | .non :: _, _, h => by cases h
  | .bl _ :: _, _, h => by cases h
  | .str _ :: _, _, h => by cases h
  | .tup _ :: _, _, h => by cases h
  | .lst _ :: _, _, h => by cases h
  | .scr _ :: _, _, h => by cases h
  | .ref _ :: _, _, h => by cases h
  | .vv _ :: _, _, h => by cases h
  | .emp :: _, _, h => by cases h
  | .exn _ _ _ :: _, _, h => by cases h
theorem asStrs_eq : ∀ {xs : List D} {ns : List (List Nat)}, asStrs xs = some ns → xs = ns.map D.str
  | [], ns, h => by cases h; rfl
  | .str i :: r, ns, h => by
    have h : (asStrs r).map (i :: ·) = some ns := h
    cases e : asStrs r with
    | none => rw [e] at h; cases h
    | some ms => rw [e] at h; cases h; rw [asStrs_eq e]; rfl
  | .non :: _, _, h => by cases h
  | .bl _ :: _, _, h => by cases h
  | .int _ :: _, _, h => by cases h
  | .tup _ :: _, _, h => by cases h
  | .lst _ :: _, _, h => by cases h
  | .scr _ :: _, _, h => by cases h
  | .ref _ :: _, _, h => by cases h
  | .vv _ :: _, _, h => by cases h
  | .emp :: _, _, h => by cases h
  | .exn _ _ _ :: _, _, h => by cases h
theorem asBls_eq : ∀ {xs : List D} {ns : List Bool}, asBls xs = some ns → xs = ns.map D.bl
  | [], ns, h => by cases h; rfl
  | .bl i :: r, ns, h => by
    have h : (asBls r).map (i :: ·) = some ns := h
    cases e : asBls r with
    | none => rw [e] at h; cases h
    | some ms => rw [e] at h; cases h; rw [asBls_eq e]; rfl
  | .non :: _, _, h => by cases h
  | .str _ :: _, _, h => by cases h
  | .int _ :: _, _, h => by cases h
  | .tup _ :: _, _, h => by cases h
  | .lst _ :: _, _, h => by cases h
  | .scr _ :: _, _, h => by cases h
  | .ref _ :: _, _, h => by cases h
  | .vv _ :: _, _, h => by cases h
  | .emp :: _, _, h => by cases h
  | .exn _ _ _ :: _, _, h => by cases h
theorem asInts_map : ∀ ns : List Int, asInts (ns.map D.int) = some ns
  | [] => rfl
  | n :: ns => by show (asInts (ns.map D.int)).map (n :: ·) = _; rw [asInts_map ns]; rfl
theorem asStrs_map : ∀ ns : List (List Nat), asStrs (ns.map D.str) = some ns
  | [] => rfl
  | n :: ns => by show (asStrs (ns.map D.str)).map (n :: ·) = _; rw [asStrs_map ns]; rfl
theorem asBls_map : ∀ ns : List Bool, asBls (ns.map D.bl) = some ns
  | [] => rfl
  | n :: ns => by show (asBls (ns.map D.bl)).map (n :: ·) = _; rw [asBls_map ns]; rfl

section
variable {K : PySem.W.Frag} {w : Wd}
theorem reps1 {d : D} {vs : List V} (h : Reps K w [d] vs) : ∃ v, vs = [v] ∧ Rep K w d v := by
  obtain ⟨v, r, e, h1, h2⟩ := h
  have h2 : r = [] := h2
  subst h2
  exact ⟨v, e, h1⟩
theorem reps2 {d e : D} {vs : List V} (h : Reps K w [d, e] vs) : ∃ v u, vs = [v, u] ∧ Rep K w d v ∧ Rep K w e u := by
  obtain ⟨v, r, e1, h1, h2⟩ := h
  obtain ⟨u, rfl, h3⟩ := reps1 h2
  exact ⟨v, u, e1, h1, h3⟩
theorem reps3 {d e g : D} {vs : List V} (h : Reps K w [d, e, g] vs) : ∃ v u z, vs = [v, u, z] ∧ Rep K w d v ∧ Rep K w e u ∧ Rep K w g z := by
  obtain ⟨v, r, e1, h1, h2⟩ := h
  obtain ⟨u, z, rfl, h3, h4⟩ := reps2 h2
  exact ⟨v, u, z, e1, h1, h3, h4⟩
/-- a list or a tuple, as the library's rules want it -/
def viewS (st : Store) : D → Option (List D)
  | .tup xs => some xs
  | d => viewL st d
theorem viewS_rep {d : D} {v : V} {xs : List D} (ok : WOk K w) (h : viewS w.st d = some xs) (r : Rep K w d v) : ∃ a vs, v = .ref a ∧ (SqL K w.H a vs ∨ SqT K w.H a vs) ∧ Reps K w xs vs := by
  have lists : viewL w.st d = some xs → ∃ a vs, v = .ref a ∧ (SqL K w.H a vs ∨ SqT K w.H a vs) ∧ Reps K w xs vs := fun h => by
    obtain ⟨a, vs, e, h1, h2⟩ := view_rep ok h r
    exact ⟨a, vs, e, .inl (SqL.of h1), h2⟩
  cases d with
  | tup ys =>
    cases h
    obtain ⟨a, vs, e, h1, h2⟩ := r
    exact ⟨a, vs, e, .inr h1, h2⟩
  | lst ys => exact lists h
  | ref n => exact lists h
  | non => cases h
  | bl b => cases h
  | int i => cases h
  | str s => cases h
  | scr ns => cases h
  | vv u => cases h
  | emp => cases h
  | exn _ _ _ => cases h
end

/-! ### len, abs, max, min, sum, all, any -/
def lenD : List D → Store → Option D
  | [.str s], _ => if s.length ≤ sizeLine then some (.int s.length) else none
  | [.scr ns], _ => some (.int ns.length)
  | [d], st => (viewS st d).map fun xs => .int xs.length
  | _, _ => none
def absD : List D → Store → Option D
  | [.int i], _ => some (.int (if i < 0 then -i else i))
  | _, _ => none
def maxL : List Int → Option Int
  | [] => none
  | x :: r => some (r.foldl (fun a b => if a < b then b else a) x)
def minL : List Int → Option Int
  | [] => none
  | x :: r => some (r.foldl (fun a b => if b < a then b else a) x)
def maxD : List D → Store → Option D
  | [.int i, .int j], _ => some (.int (if j > i then j else i))
  | [d], st => (viewL st d).bind fun xs => (asInts xs).bind fun ns => (maxL ns).map D.int
  | _, _ => none
def minD : List D → Store → Option D
  | [.int i, .int j], _ => some (.int (if j < i then j else i))
  | [d], st => (viewL st d).bind fun xs => (asInts xs).bind fun ns => (minL ns).map D.int
  | _, _ => none
def sumD : List D → Store → Option D
  | [d], st => (viewL st d).bind fun xs => (asInts xs).map fun ns => .int ns.sum
  | _, _ => none
def allD : List D → Store → Option D
  | [d], st => (viewL st d).bind fun xs => (asBls xs).map fun ns => .bl (ns.all id)
  | _, _ => none
def anyD : List D → Store → Option D
  | [d], st => (viewL st d).bind fun xs => (asBls xs).map fun ns => .bl (ns.any id)
  | _, _ => none
theorem max_fold : ∀ (r : List Int) (x : Int), (r.foldl (fun a b => if a < b then b else a) x) ∈ x :: r ∧ ∀ y ∈ x :: r, y ≤ r.foldl (fun a b => if a < b then b else a) x
  | [], x => ⟨List.mem_cons_self, fun y hy => by
    rcases List.mem_cons.mp hy with h | h
    · rw [h]; exact Int.le_refl _
    · cases h⟩
  | b :: r, x => by
    rw [List.foldl_cons]
    obtain ⟨h1, h2⟩ := max_fold r (if x < b then b else x)
    have hx : x ≤ (if x < b then b else x) := by split <;> omega
    have hb : b ≤ (if x < b then b else x) := by split <;> omega
    refine ⟨?_, fun y hy => ?_⟩
    · rcases List.mem_cons.mp h1 with h | h
      · rw [h]
        split
        · exact List.mem_cons_of_mem _ List.mem_cons_self
        · exact List.mem_cons_self
      · exact List.mem_cons_of_mem _ (List.mem_cons_of_mem _ h)
    · have h3 := h2 _ List.mem_cons_self
      rcases List.mem_cons.mp hy with h | h
      · rw [h]; exact Int.le_trans hx h3
      · rcases List.mem_cons.mp h with h | h
        · rw [h]; exact Int.le_trans hb h3
        · exact h2 y (List.mem_cons_of_mem _ h)
theorem min_fold : ∀ (r : List Int) (x : Int), (r.foldl (fun a b => if b < a then b else a) x) ∈ x :: r ∧ ∀ y ∈ x :: r, r.foldl (fun a b => if b < a then b else a) x ≤ y
  | [], x => ⟨List.mem_cons_self, fun y hy => by
    rcases List.mem_cons.mp hy with h | h
    · rw [h]; exact Int.le_refl _
    · cases h⟩
  | b :: r, x => by
    rw [List.foldl_cons]
    obtain ⟨h1, h2⟩ := min_fold r (if b < x then b else x)
    have hx : (if b < x then b else x) ≤ x := by split <;> omega
    have hb : (if b < x then b else x) ≤ b := by split <;> omega
    refine ⟨?_, fun y hy => ?_⟩
    · rcases List.mem_cons.mp h1 with h | h
      · rw [h]
        split
        · exact List.mem_cons_of_mem _ List.mem_cons_self
        · exact List.mem_cons_self
      · exact List.mem_cons_of_mem _ (List.mem_cons_of_mem _ h)
    · have h3 := h2 _ List.mem_cons_self
      rcases List.mem_cons.mp hy with h | h
      · rw [h]; exact Int.le_trans h3 hx
      · rcases List.mem_cons.mp h with h | h
        · rw [h]; exact Int.le_trans h3 hb
        · exact h2 y (List.mem_cons_of_mem _ h)
section
variable {X : Cx}
theorem cr_len : CallR X (.builtin "len") (rC X.K lenD) := by
  intro pins s σ H xs us Q I r h
  obtain ⟨w, ds, d, rfl, ok, rd, hf, q⟩ := h
  unfold lenD at hf
  split at hf
  · split at hf
    · rename_i z hz
      cases hf
      obtain ⟨v, rfl, h1⟩ := reps1 rd
      have h1 : v = V.str (toS z) := h1
      subst h1
      exact call_len_str pins s σ _ _ us Q I r ⟨toS z, rfl, hz, q.now ok rfl⟩
    · cases hf
  · cases hf
    obtain ⟨v, rfl, a, rfl, h1⟩ := reps1 rd
    exact call_len_seq pins s σ _ _ us Q I r ⟨a, _, rfl, .inl h1.sql, by rw [List.length_map]; exact q.now ok rfl⟩
  · rename_i e _ _
    cases hv : viewS w.st e with
    | none => rw [hv] at hf; cases hf
    | some ys =>
      rw [hv] at hf
      cases hf
      obtain ⟨v, rfl, h1⟩ := reps1 rd
      obtain ⟨a, vs, rfl, h2, h3⟩ := viewS_rep ok hv h1
      exact call_len_seq pins s σ _ _ us Q I r ⟨a, vs, rfl, h2, by rw [← h3.length]; exact q.now ok rfl⟩
  · cases hf
theorem cr_abs : CallR X (.builtin "abs") (rC X.K absD) := by
  intro pins s σ H xs us Q I r h
  obtain ⟨w, ds, d, rfl, ok, rd, hf, q⟩ := h
  unfold absD at hf
  split at hf
  · cases hf
    obtain ⟨v, rfl, h1⟩ := reps1 rd
    have h1 : v = V.int _ := h1
    subst h1
    exact call_abs pins s σ _ _ us Q I r ⟨_, rfl, q.now ok rfl⟩
  · cases hf
theorem cr_maxD (hc : X.calm = true) : CallR X (.builtin "max") (rC X.K maxD) := by
  intro pins s σ H xs us Q I r h
  obtain ⟨w, ds, d, rfl, ok, rd, hf, q⟩ := h
  unfold maxD at hf
  split at hf
  · cases hf
    obtain ⟨v, u, rfl, h1, h2⟩ := reps2 rd
    have h1 : v = V.int _ := h1
    have h2 : u = V.int _ := h2
    subst h1 h2
    exact call_max2 hc pins s σ _ _ us Q I r ⟨_, _, rfl, q.now ok rfl⟩
  · rename_i e
    cases hv : viewL w.st e with
    | none => rw [hv] at hf; cases hf
    | some ys =>
      rw [hv] at hf
      have hf : (asInts ys).bind (fun ns => (maxL ns).map D.int) = some d := hf
      cases hi : asInts ys with
      | none => rw [hi] at hf; cases hf
      | some ns =>
        rw [hi] at hf
        have hf : (maxL ns).map D.int = some d := hf
        obtain ⟨v, rfl, h1⟩ := reps1 rd
        obtain ⟨a, vs, rfl, h2, h3⟩ := view_rep ok hv h1
        rw [asInts_eq hi] at h3
        have h3 := h3.ints
        subst h3
        cases ns with
        | nil => cases hf
        | cons n ns =>
          cases hf
          refine cr_max hc pins s σ _ _ us Q I r ⟨a, n :: ns, rfl, SqL.of h2, Nat.succ_pos _, fun m hm hmax => ?_⟩
          obtain ⟨k1, k2⟩ := max_fold ns n
          have e : m = ns.foldl (fun a b => if a < b then b else a) n := Int.le_antisymm (k2 m hm) (hmax _ k1)
          rw [e]
          exact q.now ok rfl
  · cases hf
theorem cr_minD (hc : X.calm = true) : CallR X (.builtin "min") (rC X.K minD) := by
  intro pins s σ H xs us Q I r h
  obtain ⟨w, ds, d, rfl, ok, rd, hf, q⟩ := h
  unfold minD at hf
  split at hf
  · cases hf
    obtain ⟨v, u, rfl, h1, h2⟩ := reps2 rd
    have h1 : v = V.int _ := h1
    have h2 : u = V.int _ := h2
    subst h1 h2
    exact call_min2 hc pins s σ _ _ us Q I r ⟨_, _, rfl, q.now ok rfl⟩
  · rename_i e
    cases hv : viewL w.st e with
    | none => rw [hv] at hf; cases hf
    | some ys =>
      rw [hv] at hf
      have hf : (asInts ys).bind (fun ns => (minL ns).map D.int) = some d := hf
      cases hi : asInts ys with
      | none => rw [hi] at hf; cases hf
      | some ns =>
        rw [hi] at hf
        have hf : (minL ns).map D.int = some d := hf
        obtain ⟨v, rfl, h1⟩ := reps1 rd
        obtain ⟨a, vs, rfl, h2, h3⟩ := view_rep ok hv h1
        rw [asInts_eq hi] at h3
        have h3 := h3.ints
        subst h3
        cases ns with
        | nil => cases hf
        | cons n ns =>
          cases hf
          refine cr_min hc pins s σ _ _ us Q I r ⟨a, n :: ns, rfl, SqL.of h2, Nat.succ_pos _, fun m hm hmin => ?_⟩
          obtain ⟨k1, k2⟩ := min_fold ns n
          have e : m = ns.foldl (fun a b => if b < a then b else a) n := Int.le_antisymm (hmin _ k1) (k2 m hm)
          rw [e]
          exact q.now ok rfl
  · cases hf
theorem cr_sumD (hc : X.calm = true) : CallR X (.builtin "sum") (rC X.K sumD) := by
  intro pins s σ H xs us Q I r h
  obtain ⟨w, ds, d, rfl, ok, rd, hf, q⟩ := h
  unfold sumD at hf
  split at hf
  · rename_i e
    cases hv : viewL w.st e with
    | none => rw [hv] at hf; cases hf
    | some ys =>
      rw [hv] at hf
      have hf : (asInts ys).map (fun ns => D.int ns.sum) = some d := hf
      cases hi : asInts ys with
      | none => rw [hi] at hf; cases hf
      | some ns =>
        rw [hi] at hf
        cases hf
        obtain ⟨v, rfl, h1⟩ := reps1 rd
        obtain ⟨a, vs, rfl, h2, h3⟩ := view_rep ok hv h1
        rw [asInts_eq hi] at h3
        have h3 := h3.ints
        subst h3
        exact cr_sum hc pins s σ _ _ us Q I r ⟨a, ns, rfl, SqL.of h2, q.now ok rfl⟩
  · cases hf
theorem cr_allD (hc : X.calm = true) : CallR X (.builtin "all") (rC X.K allD) := by
  intro pins s σ H xs us Q I r h
  obtain ⟨w, ds, d, rfl, ok, rd, hf, q⟩ := h
  unfold allD at hf
  split at hf
  · rename_i e
    cases hv : viewL w.st e with
    | none => rw [hv] at hf; cases hf
    | some ys =>
      rw [hv] at hf
      have hf : (asBls ys).map (fun ns => D.bl (ns.all id)) = some d := hf
      cases hi : asBls ys with
      | none => rw [hi] at hf; cases hf
      | some ns =>
        rw [hi] at hf
        cases hf
        obtain ⟨v, rfl, h1⟩ := reps1 rd
        obtain ⟨a, vs, rfl, h2, h3⟩ := view_rep ok hv h1
        rw [asBls_eq hi] at h3
        have h3 := h3.bls
        subst h3
        exact cr_all hc pins s σ _ _ us Q I r ⟨a, ns, rfl, SqL.of h2, q.now ok rfl⟩
  · cases hf
theorem cr_anyD (hc : X.calm = true) : CallR X (.builtin "any") (rC X.K anyD) := by
  intro pins s σ H xs us Q I r h
  obtain ⟨w, ds, d, rfl, ok, rd, hf, q⟩ := h
  unfold anyD at hf
  split at hf
  · rename_i e
    cases hv : viewL w.st e with
    | none => rw [hv] at hf; cases hf
    | some ys =>
      rw [hv] at hf
      have hf : (asBls ys).map (fun ns => D.bl (ns.any id)) = some d := hf
      cases hi : asBls ys with
      | none => rw [hi] at hf; cases hf
      | some ns =>
        rw [hi] at hf
        cases hf
        obtain ⟨v, rfl, h1⟩ := reps1 rd
        obtain ⟨a, vs, rfl, h2, h3⟩ := view_rep ok hv h1
        rw [asBls_eq hi] at h3
        have h3 := h3.bls
        subst h3
        exact cr_any hc pins s σ _ _ us Q I r ⟨a, ns, rfl, SqL.of h2, q.now ok rfl⟩
  · cases hf
end

/-! ### list, tuple, int, str of -/
def listD : List D → Store → Option D
  | [d], st => (viewS st d).map fun xs => .lst xs
  | _, _ => none
def tupleD : List D → Store → Option D
  | [d], st => (viewS st d).map fun xs => .tup xs
  | _, _ => none
def intD : List D → Store → Option D
  | [.int i], _ => some (.int i)
  | [.bl b], _ => some (.int (if b then 1 else 0))
  | _, _ => none
/-- the text of an int -/
def numT (i : Int) : List Nat := (Str.ofString (toString i)).cps.toList
def strD : List D → Store → Option D
  | [.int i], _ => if i.natAbs.log2 < 1920 then some (.str (numT i)) else none
  | _, _ => none
section
variable {X : Cx}
theorem cr_listD : CallR X (.type "list") (rC X.K listD) := by
  intro pins s σ H xs us Q I r h
  obtain ⟨w, ds, d, rfl, ok, rd, hf, q⟩ := h
  unfold listD at hf
  split at hf
  · rename_i e
    cases hv : viewS w.st e with
    | none => rw [hv] at hf; cases hf
    | some ys =>
      rw [hv] at hf
      cases hf
      obtain ⟨v, rfl, h1⟩ := reps1 rd
      obtain ⟨a, vs, rfl, h2, h3⟩ := viewS_rep ok hv h1
      exact call_list_of pins s σ _ _ us Q I r ⟨a, vs, rfl, h2, q.lst ok h3⟩
  · cases hf
theorem cr_tupleD : CallR X (.type "tuple") (rC X.K tupleD) := by
  intro pins s σ H xs us Q I r h
  obtain ⟨w, ds, d, rfl, ok, rd, hf, q⟩ := h
  unfold tupleD at hf
  split at hf
  · rename_i e
    cases hv : viewS w.st e with
    | none => rw [hv] at hf; cases hf
    | some ys =>
      rw [hv] at hf
      cases hf
      obtain ⟨v, rfl, h1⟩ := reps1 rd
      obtain ⟨a, vs, rfl, h2, h3⟩ := viewS_rep ok hv h1
      refine call_tuple_of pins s σ _ _ us Q I r ⟨a, vs, rfl, ?_⟩
      rcases h2 with h2 | h2
      · exact .inl ⟨h2, q.tup ok h3⟩
      · exact .inr ⟨h2, q.now ok ⟨a, vs, rfl, h2, h3⟩⟩
  · cases hf
theorem cr_intD : CallR X (.type "int") (rC X.K intD) := by
  intro pins s σ H xs us Q I r h
  obtain ⟨w, ds, d, rfl, ok, rd, hf, q⟩ := h
  unfold intD at hf
  split at hf
  · cases hf
    obtain ⟨v, rfl, h1⟩ := reps1 rd
    have h1 : v = V.int _ := h1
    subst h1
    exact call_int1 pins s σ _ _ us Q I r (.inl ⟨_, rfl, q.now ok rfl⟩)
  · cases hf
    obtain ⟨v, rfl, h1⟩ := reps1 rd
    have h1 : v = V.bl _ := h1
    subst h1
    exact call_int1 pins s σ _ _ us Q I r (.inr ⟨_, rfl, q.now ok rfl⟩)
  · cases hf
theorem toS_of (x : Str) : toS x.cps.toList = x := rfl
theorem cr_strD : CallR X (.type "str") (rC X.K strD) := by
  intro pins s σ H xs us Q I r h
  obtain ⟨w, ds, d, rfl, ok, rd, hf, q⟩ := h
  unfold strD at hf
  split at hf
  · split at hf
    · rename_i hz
      cases hf
      obtain ⟨v, rfl, h1⟩ := reps1 rd
      have h1 : v = V.int _ := h1
      subst h1
      exact call_str_int pins s σ _ _ us Q I r ⟨_, rfl, hz, q.now ok (show V.str _ = V.str (toS (numT _)) from rfl)⟩
    · cases hf
  · cases hf
end

/-! ### isinstance -/
def tyD (st : Store) : D → Option String
  | .non => some "NoneType"
  | .bl _ => some "bool"
  | .int _ => some "int"
  | .str _ => some "str"
  | .tup _ => some "tuple"
  | .scr _ => some "list"
  | .emp => some "dict"
  | d => (viewL st d).map fun _ => "list"
def isTy (a b : String) : Option Bool :=
  if b = "int" ∨ b = "bool" ∨ b = "str" ∨ b = "tuple" ∨ b = "list" then some (a == b || (a == "bool" && b == "int")) else none
def isiD : List D → Store → Option D
  | [d, .vv (.ty b)], st => (tyD st d).bind fun a => (isTy a b).map D.bl
  | _, _ => none
theorem ty_rep {K : PySem.W.Frag} {w : Wd} {d : D} {v : V} {a : String} (ok : WOk K w) (h : tyD w.st d = some a) (r : Rep K w d v) : TyX K w.H v (.type a) ∧ (a = "NoneType" ∨ a = "bool" ∨ a = "int" ∨ a = "str" ∨ a = "tuple" ∨ a = "list" ∨ a = "dict") := by
  have lists : (viewL w.st d).map (fun _ => "list") = some a → TyX K w.H v (.type a) ∧ (a = "NoneType" ∨ a = "bool" ∨ a = "int" ∨ a = "str" ∨ a = "tuple" ∨ a = "list" ∨ a = "dict") := fun h => by
    cases e : viewL w.st d with
    | none => rw [e] at h; cases h
    | some xs =>
      rw [e] at h
      cases h
      obtain ⟨p, vs, rfl, h1, _⟩ := view_rep ok e r
      exact ⟨.base (.lst h1), by simp⟩
  cases d with
  | non => cases h; rw [show v = V.non from r]; exact ⟨.base .non, by simp⟩
  | bl b => cases h; rw [show v = V.bl b from r]; exact ⟨.base (.bl b), by simp⟩
  | int i => cases h; rw [show v = V.int i from r]; exact ⟨.base (.int i), by simp⟩
  | str s => cases h; rw [show v = V.str (toS s) from r]; exact ⟨.base (.str _), by simp⟩
  | tup xs =>
    cases h
    obtain ⟨p, vs, rfl, h1, _⟩ := r
    refine ⟨?_, by simp⟩
    rcases h1 with (h1 | ⟨o, h1⟩) | ⟨o, its, n, h1, h2, _⟩
    · exact .base (.tup h1)
    · exact .fTuple h1
    · exact .kTuple h1 h2
  | lst xs => exact lists h
  | ref n => exact lists h
  | scr ns =>
    cases h
    obtain ⟨p, rfl, h1⟩ := r
    refine ⟨?_, by simp⟩
    rcases h1 with ⟨o, h1⟩ | ⟨o, its, n, h1, h2, _⟩
    · exact .base (.frz h1)
    · exact .kList h1 h2
  | vv u => cases h
  | exn _ _ _ => cases h
  | emp =>
    cases h
    obtain ⟨p, rfl, h1, _⟩ := r
    exact ⟨.base (.dK h1), by simp⟩
theorem kit_all {a b : String} {r : Bool} (ha : a = "NoneType" ∨ a = "bool" ∨ a = "int" ∨ a = "str" ∨ a = "tuple" ∨ a = "list" ∨ a = "dict") (h : isTy a b = some r) : kitB a b = some r := by
  unfold isTy at h
  split at h
  · rename_i hb
    cases h
    rcases ha with rfl | rfl | rfl | rfl | rfl | rfl | rfl <;> rcases hb with rfl | rfl | rfl | rfl | rfl <;> decide +kernel
  · cases h
section
variable {X : Cx}
theorem cr_isiD : CallR X (.builtin "isinstance") (rC X.K isiD) := by
  intro pins s σ H xs us Q I r h
  obtain ⟨w, ds, d, rfl, ok, rd, hf, q⟩ := h
  unfold isiD at hf
  split at hf
  · rename_i e b
    cases ht : tyD w.st e with
    | none => rw [ht] at hf; cases hf
    | some a =>
      rw [ht] at hf
      have hf : (isTy a b).map D.bl = some d := hf
      cases hi : isTy a b with
      | none => rw [hi] at hf; cases hf
      | some c =>
        rw [hi] at hf
        cases hf
        obtain ⟨v, u, rfl, h1, h2⟩ := reps2 rd
        have h2 : u = V.ty b := h2
        subst h2
        obtain ⟨k1, k2⟩ := ty_rep ok ht h1
        exact call_isi pins s σ _ _ us Q I r ⟨v, _, _, _, c, rfl, .ty b, k1, kit_ty (kit_all k2 hi), q.now ok rfl⟩
  · cases hf
end

/-! ### repr -/
mutual
/-- a bound for the text of repr -/
def rsz : D → Nat
  | .non => 4
  | .bl _ => 5
  | .int _ => 1902
  | .str s => 10 * s.length + 2
  | .tup xs => rszs xs + 3
  | .lst xs => rszs xs + 3
  | _ => 0
def rszs : List D → Nat
  | [] => 0
  | x :: xs => rsz x + 2 + rszs xs
end
mutual
def intsOk : D → Bool
  | .int i => decide (i.natAbs.log2 < 1900)
  | .tup xs => intsOks xs
  | .lst xs => intsOks xs
  | _ => true
def intsOks : List D → Bool
  | [] => true
  | x :: xs => intsOk x && intsOks xs
end
mutual
theorem show_ok : ∀ (k : Nat) (d : D), flat k d = true → intsOk d = true → (pyT d).showable = true ∧ (pyT d).shown.length ≤ rsz d
  | _, .non, _, _ => ⟨rfl, by show (PyData.shown .none).length ≤ 4; unfold PyData.shown; decide +kernel⟩
  | _, .bl b, _, _ => ⟨rfl, by show (PyData.shown (.bool b)).length ≤ 5; unfold PyData.shown; cases b <;> decide +kernel⟩
  | _, .int i, _, h => by
    have h : decide (i.natAbs.log2 < 1900) = true := h
    have h := of_decide_eq_true h
    refine ⟨?_, ?_⟩
    · show PyData.showable (.int i) = true
      unfold PyData.showable
      exact decide_eq_true (by omega)
    · show (PyData.shown (.int i)).length ≤ 1902
      unfold PyData.shown
      have h2 := int_text_length_le (a := i) (k := 1900) (by decide) h
      have e : (Str.ofString (toString i)).length = (toString i).length := by
        unfold Str.length
        rw [← Array.length_toList]
        have := signs_ofString (toString i)
        rw [show (Str.ofString (toString i)).cps.toList = _ from this, List.length_map]
        exact String.length_toList
      show (Str.ofString (toString i)).length ≤ 1902
      rw [e]
      omega
  | k, .str s, hf, _ => by
    refine ⟨rfl, ?_⟩
    have hf : (s.all fun c => decide (c < 1114112)) = true := by cases k <;> exact hf
    show (PyData.shown (.str (toS s))).length ≤ 10 * s.length + 2
    unfold PyData.shown
    refine StrLaws.reprText_len (toS s) fun c hc => ?_
    rw [toS_list] at hc
    have := of_decide_eq_true (List.all_eq_true.mp hf c hc)
    omega
  | k + 1, .tup xs, hf, hi => by
    obtain ⟨h1, h2⟩ := shows_ok k xs hf hi
    refine ⟨?_, ?_⟩
    · show (PyData.tuple (pyTs xs)).showable = true
      unfold PyData.showable; exact h1
    · show (PyData.shown (.tuple (pyTs xs))).length ≤ rszs xs + 3
      unfold PyData.shown
      exact Nat.le_trans (tupleText_len_le _) (by omega)
  | k + 1, .lst xs, hf, hi => by
    obtain ⟨h1, h2⟩ := shows_ok k xs hf hi
    refine ⟨?_, ?_⟩
    · show (PyData.list (pyTs xs)).showable = true
      unfold PyData.showable; exact h1
    · show (PyData.shown (.list (pyTs xs))).length ≤ rszs xs + 3
      unfold PyData.shown
      exact Nat.le_trans (listText_len_le _) (by omega)
  | 0, .tup _, h, _ => by cases h
  | 0, .lst _, h, _ => by cases h
  | k, .scr _, h, _ => by cases k <;> cases h
  | k, .ref _, h, _ => by cases k <;> cases h
  | k, .vv _, h, _ => by cases k <;> cases h
  | k, .emp, h, _ => by cases k <;> cases h
  | k, .exn _ _ _, h, _ => by cases k <;> cases h
theorem shows_ok : ∀ (k : Nat) (ds : List D), flats k ds = true → intsOks ds = true → PyData.showableAll (pyTs ds) = true ∧ ((PyData.shownAll (pyTs ds)).map (·.length)).sum + 2 * (PyData.shownAll (pyTs ds)).length ≤ rszs ds
  | _, [], _, _ => ⟨rfl, Nat.zero_le _⟩
  | k, x :: xs, hf, hi => by
    have hf : (flat k x && flats k xs) = true := hf
    have hi : (intsOk x && intsOks xs) = true := hi
    rw [Bool.and_eq_true] at hf hi
    obtain ⟨h1, h2⟩ := show_ok k x hf.1 hi.1
    obtain ⟨h3, h4⟩ := shows_ok k xs hf.2 hi.2
    refine ⟨?_, ?_⟩
    · show PyData.showableAll (pyT x :: pyTs xs) = true
      unfold PyData.showableAll
      rw [h1, h3]
      rfl
    · show ((PyData.shownAll (pyT x :: pyTs xs)).map (·.length)).sum + 2 * (PyData.shownAll (pyT x :: pyTs xs)).length ≤ rsz x + 2 + rszs xs
      unfold PyData.shownAll
      rw [List.map_cons, List.sum_cons, List.length_cons]
      omega
end
def reprOk (d : D) : Bool := flat 40 d && intsOk d && decide (rsz d ≤ 16000000)
def reprD : List D → Store → Option D
  | [d], st => if reprOk (rsv st d) then some (.str ((pyT (rsv st d)).shown).cps.toList) else none
  | _, _ => none
section
variable {X : Cx}
theorem cr_reprD (hr : ∃ k, Room k X.A) (hg : X.A.guards = some []) : CallR X (.builtin "repr") (rC X.K reprD) := by
  intro pins s σ H xs us Q I r h
  obtain ⟨w, ds, d, rfl, ok, rd, hf, q⟩ := h
  unfold reprD at hf
  split at hf
  · rename_i e
    split at hf
    · rename_i hz
      unfold reprOk at hz
      rw [Bool.and_eq_true, Bool.and_eq_true] at hz
      obtain ⟨⟨z1, z2⟩, z3⟩ := hz
      have z3 := of_decide_eq_true z3
      cases hf
      obtain ⟨v, rfl, h1⟩ := reps1 rd
      obtain ⟨u, rfl, rx⟩ := vals1 r
      obtain ⟨h3, h4⟩ := show_ok 40 _ z1 z2
      obtain ⟨h5, h6⟩ := pyT_lay 40 _ z1
      have dp := dp_rsv ok 40 e v z1 h1
      obtain ⟨as, rd2⟩ := Dp.reads I _ v u dp rx
      have q : At X.K w (D.str ((pyT (rsv w.st e)).shown).cps.toList) Q := q
      obtain ⟨k, hr⟩ := hr
      have hu := hr.units
      have sz : sizeLine = 16777216 := sizeLine_eq
      have fin : ∀ h' uu tk, (∀ b o, s.heap.get? b = some o → h'.get? b = some o) → EP X pins σ Q (.str (pyT (rsv w.st e)).shown uu) { s with heap := h', toks := tk } := fun h' uu tk hk =>
        ⟨.str (pyT (rsv w.st e)).shown, _, I.kept hk, ⟨uu, rfl⟩, q.now ok (show V.str _ = V.str (toS _) from rfl)⟩
      generalize pyT (rsv w.st e) = p at h3 h4 h5 h6 dp rd2 fin
      cases dp with
      | non =>
        have rx : u = Value.none := rx
        subst rx
        refine PySem.P.repr_of_none ?_
        have := fin s.heap s.toks (s.toks + 1) fun _ _ e => e
        unfold PyData.shown at this
        exact this
      | bl b =>
        have rx : u = Value.bool b := rx
        subst rx
        refine PySem.P.repr_of_bool ?_
        have := fin s.heap s.toks (s.toks + 1) fun _ _ e => e
        unfold PyData.shown at this
        exact this
      | int i =>
        obtain ⟨t, rfl⟩ := rx
        have h7 : i.natAbs.log2 < 1920 := by
          unfold PyData.showable at h3
          exact of_decide_eq_true h3
        refine PySem.P.repr_of_int h7 ?_
        have := fin s.heap s.toks (s.toks + 1) fun _ _ e => e
        unfold PyData.shown at this
        exact this
      | str x =>
        obtain ⟨t, rfl⟩ := rx
        have h4' : (reprText x).length ≤ rsz (rsv w.st e) := by unfold PyData.shown at h4; exact h4
        refine PySem.P.repr_of_str ?_ (by omega)
        have := fin s.heap s.toks (s.toks + 1) fun _ _ e => e
        unfold PyData.shown at this
        exact this
      | lst q1 q2 =>
        cases rx
        exact repr_of_reads' rd2 h3 (fun hd => by rw [PyData.hasDict_of_canLay _ h5] at hd; cases hd) hg (by omega) (fun _ _ e => e) fin (by omega)
      | tup q1 q2 =>
        cases rx
        exact repr_of_reads' rd2 h3 (fun hd => by rw [PyData.hasDict_of_canLay _ h5] at hd; cases hd) hg (by omega) (fun _ _ e => e) fin (by omega)
    · cases hf
  · cases hf
end
end PL
/-! PL7: slices, methods of texts and lists, what is walked, comprehensions. -/
namespace PL
open PySem PySem.Spec PyProof.Rows L2

/-! ### slices -/
def cutG {α : Type} (xs : List α) (lo hi : Option Int) : List α := (xs.drop (HT.sIx xs.length 0 lo)).take (HT.sIx xs.length xs.length hi - HT.sIx xs.length 0 lo)
def sliD (d : D) (lo hi : Option Int) (st : Store) : Option D := match d with
  | .str s => if s.length ≤ sizeLine then some (.str (cutG s lo hi)) else none
  | .tup xs => some (.tup (cutG xs lo hi))
  | d => (viewL st d).map fun xs => .lst (cutG xs lo hi)
def rSl (K : PySem.W.Frag) (f : D → Option Int → Option Int → Store → Option D) : V → Option Int → Option Int → Hp → VK → Prop := fun x lo hi H Q => ∃ w dx d, w.H = H ∧ WOk K w ∧ Rep K w dx x ∧ f dx lo hi w.st = some d ∧ At K w d Q
def optI : Wd → Option D → Option Int → Prop := fun _ a o => match a with
  | none => o = none
  | some (.int i) => o = some i
  | _ => False
abbrev DO (X : Cx) (W : WX) (e : Option Expr) (f : Env → M (Option D)) : Prop := PO X e (tX (cx X W) optI T0 f)
def sNo : Env → M (Option D) := fun _ => ret none
def sSo (f : Env → M D) : Env → M (Option D) := fun ρ => bnd (f ρ) fun a => match a with
  | .int i => ret (some (.int i))
  | _ => fun _ => .bad
def oInt : Option D → Option Int
  | some (.int i) => some i
  | _ => none
def sSli (f : Env → M D) (l h : Env → M (Option D)) : Env → M D := fun ρ => bnd (f ρ) fun a => bnd (l ρ) fun lo => bnd (h ρ) fun hi => fun st => ofO (sliD a (oInt lo) (oInt hi) st) st
section
variable {X : Cx} {W : WX}
theorem reps_cut {K : PySem.W.Frag} {w : Wd} {xs : List D} {vs : List V} (r : Reps K w xs vs) (lo hi : Option Int) : Reps K w (cutG xs lo hi) (cutV vs lo hi) := by
  unfold cutG cutV
  rw [← r.length]
  exact (r.drop _).take _
theorem slr_L : SlR X (rSl X.K fun d lo hi st => (viewL st d).map fun xs => .lst (cutG xs lo hi)) := by
  intro pins s σ H x v vl vu lo hi sl Q I rx hs pl pu h
  obtain ⟨w, dx, d, rfl, ok, hx, hf, q⟩ := h
  have hf : (viewL w.st dx).map (fun xs => D.lst (cutG xs lo hi)) = some d := hf
  cases e : viewL w.st dx with
  | none => rw [e] at hf; cases hf
  | some xs =>
    rw [e] at hf
    cases hf
    obtain ⟨a, vs, ea, h1, r1⟩ := view_rep ok e hx
    exact sl_list pins s σ _ x v vl vu lo hi sl Q I rx hs pl pu ⟨a, vs, ea, SqL.of h1, q.lst ok (reps_cut r1 lo hi)⟩
theorem slr_D : SlR X (rSl X.K sliD) := by
  intro pins s σ H x v vl vu lo hi sl Q I rx hs pl pu h
  obtain ⟨w, dx, d, rfl, ok, hx, hf, q⟩ := h
  cases dx with
  | str z =>
    have hf : (if z.length ≤ sizeLine then some (D.str (cutG z lo hi)) else none) = some d := hf
    by_cases hz : z.length ≤ sizeLine
    · rw [if_pos hz] at hf
      cases hf
      refine sl_str pins s σ _ x v vl vu lo hi sl Q I rx hs pl pu ⟨toS z, hx, hz, ?_⟩
      exact q.now ok (show V.str _ = V.str (toS (cutG z lo hi)) from rfl)
    · rw [if_neg hz] at hf
      cases hf
  | tup xs =>
    have hf : some (D.tup (cutG xs lo hi)) = some d := hf
    cases hf
    obtain ⟨a, vs, ea, h1, r1⟩ := hx
    refine sl_tupA pins s σ _ x v vl vu lo hi sl Q I rx hs pl pu ⟨a, vs, ea, h1, fun hw => ?_, fun _ => q.tup ok (reps_cut r1 lo hi)⟩
    refine q.now ok ⟨a, vs, rfl, h1, ?_⟩
    have e : cutV vs lo hi = vs := by
      unfold cutV
      rw [hw.1, hw.2, List.drop_zero, Nat.sub_zero, List.take_length]
    have := reps_cut r1 lo hi
    rw [e] at this
    exact this
  | lst xs => exact slr_L pins s σ _ x v vl vu lo hi sl Q I rx hs pl pu ⟨w, _, d, rfl, ok, hx, hf, q⟩
  | ref n => exact slr_L pins s σ _ x v vl vu lo hi sl Q I rx hs pl pu ⟨w, _, d, rfl, ok, hx, hf, q⟩
  | non => cases hf
  | bl b => cases hf
  | int i => cases hf
  | scr ns => cases hf
  | vv u => cases hf
  | emp => cases hf
  | exn _ _ _ => cases hf
theorem do_none : DO X W none sNo := by
  refine ⟨fun pins s σ H Q I h => ?_⟩
  obtain ⟨w, ρ, rfl, ok, re, _, q⟩ := h
  exact po_none.run pins s σ _ Q I (q w (Grow.refl w) ok rfl none rfl)
theorem do_some {e : Expr} {f : Env → M D} (h : DE X W e f) : DO X W (some e) (sSo f) := by
  refine ⟨fun pins s σ H Q I q => (po_some h).run pins s σ H Q I ?_⟩
  refine (tX.seq0 (R1 := Rep X.K) q).imp fun x H1 ⟨da, h1⟩ => ?_
  obtain ⟨w, ρ, rfl, ok, re, ⟨_, r1⟩, q⟩ := h1
  cases da with
  | int i =>
    have r1 : x = V.int i := r1
    exact ⟨i, r1, q w (Grow.refl w) ok rfl (some i) rfl⟩
  | _ => exact q.elim
theorem de_sli {e : Expr} {lo hi : Option Expr} {p2 pos : Pos} {f : Env → M D} {l h : Env → M (Option D)} (he : DE X W e f) (hl : DO X W lo l) (hh : DO X W hi h) : DE X W (.Subscript e (.Slice lo hi none p2) pos) (sSli f l h) := by
  refine (pe_slice slr_D he hl hh).imp fun σ H Q q => ?_
  refine (tX.seq0 (R1 := Rep X.K) q).imp fun x H1 ⟨da, h1⟩ => ?_
  have mo : MonoR optI := fun _ _ _ _ _ h => h
  refine ((tX.seq (R1 := optI) (mono_and mono0 monoRep) h1).weak).imp fun o H2 ⟨lo, h2⟩ => ?_
  refine ((tX.seq (R1 := optI) (mono_and (mono_and mono0 monoRep) mo) h2).weak).imp fun o2 H3 ⟨hi, h3⟩ => ?_
  obtain ⟨w, ρ, rfl, ok, re, ⟨⟨⟨_, r1⟩, r2⟩, r3⟩, q⟩ := h3
  have oi : ∀ {a : Option D} {b : Option Int}, optI w a b → oInt a = b := fun {a b} z => by
    cases a with
    | none => exact (show b = none from z).symm
    | some d => cases d <;> first | exact (show b = some _ from z).symm | exact z.elim
  rw [oi r2, oi r3] at q
  obtain ⟨d, e1, q⟩ := at_of (K := X.K) rfl q
  exact ⟨w, da, d, rfl, ok, r1, e1, q⟩
end

/-! ### methods -/
def joinG (S : List Nat) : List (List Nat) → List Nat
  | [] => []
  | [p] => p
  | p :: q :: r => p ++ (S ++ joinG S (q :: r))
def joinD : D → List D → Store → Option (D × Store)
  | .str s, [d], st => (viewS st d).bind fun xs => (asStrs xs).bind fun ys =>
      if (ys.map (·.length)).sum + ys.length * s.length ≤ 16777216 then some (.str (joinG s ys), st) else none
  | _, _, _ => none
def startsD : D → List D → Store → Option (D × Store)
  | .str s, [.str t], st => some (.bl (t.isPrefixOf s), st)
  | _, _, _ => none
/-- a list of the store becomes another one -/
def appendD : D → List D → Store → Option (D × Store)
  | .ref n, [d], st => match st[n]? with
    | some (some (.lst xs)) => if xs.length < sizeLine then some (.non, st.set n (some (.lst (xs ++ [d])))) else none
    | _ => none
  | _, _, _ => none
def extendD : D → List D → Store → Option (D × Store)
  | .ref n, [d], st => match st[n]? with
    | some (some (.lst xs)) => (viewL st d).bind fun ys => if xs.length + ys.length ≤ sizeLine then some (.non, st.set n (some (.lst (xs ++ ys)))) else none
    | _ => none
  | _, _, _ => none
def popD : D → List D → Store → Option (D × Store)
  | .ref n, [], st => match st[n]? with
    | some (some (.lst xs)) => (xs[xs.length - 1]?).map fun d => (d, st.set n (some (.lst xs.dropLast)))
    | _ => none
  | _, _, _ => none
theorem joinG_eq (s : List Nat) : ∀ ys : List (List Nat), (Str.join (toS s) (ys.map toS)).cps.toList = joinG s ys
  | [] => rfl
  | [y] => rfl
  | x :: y :: r => by
    show TL.tl ((toS x ++ toS s) ++ Str.join (toS s) (toS y :: r.map toS)) = x ++ (s ++ joinG s (y :: r))
    have ih : TL.tl (Str.join (toS s) (toS y :: r.map toS)) = joinG s (y :: r) := joinG_eq s (y :: r)
    rw [TL.tl_append (toS x ++ toS s) _, ih, TL.tl_append, List.append_assoc]
section
variable {X : Cx}
theorem AtS.now {K : PySem.W.Frag} {w : Wd} {d : D} {Q : VK} (h : AtS K w d w.st Q) (ok : WOk K w) {v : V} (r : Rep K w d v) : Q v w.H := h w (Grow.refl w) ok rfl v r
theorem mr_join : MtR X "str.join" (rMt X.K joinD) := by
  intro pins s σ H x xs v us Q I rx rs h
  obtain ⟨w, d0, ds, d, st, rfl, ok, h0, rd, hf, q⟩ := h
  unfold joinD at hf
  split at hf
  · rename_i z e
    cases hv : viewS w.st e with
    | none => rw [hv] at hf; cases hf
    | some ys =>
      rw [hv] at hf
      have hf : (asStrs ys).bind (fun ys => if (ys.map (·.length)).sum + ys.length * z.length ≤ 16777216 then some (D.str (joinG z ys), w.st) else none) = some (d, st) := hf
      cases hi : asStrs ys with
      | none => rw [hi] at hf; cases hf
      | some ts =>
        rw [hi] at hf
        have hf : (if (ts.map (·.length)).sum + ts.length * z.length ≤ 16777216 then some (D.str (joinG z ts), w.st) else none) = some (d, st) := hf
        by_cases hz : (ts.map (·.length)).sum + ts.length * z.length ≤ 16777216
        · rw [if_pos hz] at hf
          cases hf
          obtain ⟨u, rfl, h1⟩ := reps1 rd
          obtain ⟨a, vs, rfl, h2, h3⟩ := viewS_rep ok hv h1
          rw [asStrs_eq hi] at h3
          have h3 := h3.strs
          subst h3
          have e0 : (List.map (fun x : Str => x.length) (ts.map toS)) = ts.map (·.length) := by rw [List.map_map]; rfl
          refine mt_join pins s σ _ x _ v us Q I rx rs ⟨toS z, a, ts.map toS, h0, rfl, h2, by rw [e0, List.length_map]; exact hz, ?_⟩
          refine q.now ok ?_
          show V.str _ = V.str (toS _)
          rw [TL.join_eq, ← joinG_eq, toS_of]
        · rw [if_neg hz] at hf
          cases hf
  · cases hf
theorem lref {K : PySem.W.Frag} {w : Wd} {n : Nat} {v : V} {xs : List D} (ok : WOk K w) (h : w.st[n]? = some (some (.lst xs))) (r : Rep K w (.ref n) v) : ∃ vs, v = .ref (w.bet n) ∧ w.H (w.bet n) = some (.lst vs) ∧ Reps K w xs vs := by
  obtain ⟨vs, h1, h2⟩ := ok.ob n _ h
  exact ⟨vs, r.2, h1, h2⟩
theorem mr_append : MtR X "list.append" (rMt X.K appendD) := by
  intro pins s σ H x xs v us Q I rx rs h
  obtain ⟨w, d0, ds, d, st, rfl, ok, h0, rd, hf, q⟩ := h
  unfold appendD at hf
  split at hf
  · rename_i n e
    split at hf
    · rename_i ys hn
      split at hf
      · rename_i hz
        cases hf
        obtain ⟨u, rfl, h1⟩ := reps1 rd
        obtain ⟨vs, rfl, h2, h3⟩ := lref ok hn h0
        refine mt_append pins s σ _ _ _ v us Q I rx rs ⟨_, vs, u, rfl, rfl, h2, by rw [← h3.length]; exact hz, ?_⟩
        have g := Grow.wr (o := .lst (vs ++ [u])) (ob' := .lst (ys ++ [e])) ok hn
        exact q _ g (ok.wr hn (obr_wrL ok hn (h3.app (reps_cons h1 reps_nil)))) rfl V.non rfl
      · cases hf
    · cases hf
  · cases hf
theorem mr_extend : MtR X "list.extend" (rMt X.K extendD) := by
  intro pins s σ H x xs v us Q I rx rs h
  obtain ⟨w, d0, ds, d, st, rfl, ok, h0, rd, hf, q⟩ := h
  unfold extendD at hf
  split at hf
  · rename_i n e
    split at hf
    · rename_i ys hn
      cases hv : viewL w.st e with
      | none => rw [hv] at hf; cases hf
      | some zs =>
        rw [hv] at hf
        have hf : (if ys.length + zs.length ≤ sizeLine then some (D.non, w.st.set n (some (Ob.lst (ys ++ zs)))) else none) = some (d, st) := hf
        by_cases hz : ys.length + zs.length ≤ sizeLine
        · rw [if_pos hz] at hf
          cases hf
          obtain ⟨u, rfl, h1⟩ := reps1 rd
          obtain ⟨vs, rfl, h2, h3⟩ := lref ok hn h0
          obtain ⟨b, ws, rfl, h4, h5⟩ := view_rep ok hv h1
          refine mt_extend pins s σ _ _ _ v us Q I rx rs ⟨_, b, vs, ws, rfl, rfl, h2, h4, by rw [← h3.length, ← h5.length]; exact hz, ?_⟩
          have g := Grow.wr (o := .lst (vs ++ ws)) (ob' := .lst (ys ++ zs)) ok hn
          exact q _ g (ok.wr hn (obr_wrL ok hn (h3.app h5))) rfl V.non rfl
        · rw [if_neg hz] at hf
          cases hf
    · cases hf
  · cases hf
theorem Reps.dropLast {K : PySem.W.Frag} {w : Wd} {xs : List D} {vs : List V} (r : Reps K w xs vs) : Reps K w xs.dropLast vs.dropLast := by
  rw [List.dropLast_eq_take, List.dropLast_eq_take, r.length]
  exact r.take _
theorem mr_pop : MtR X "list.pop" (rMt X.K popD) := by
  intro pins s σ H x xs v us Q I rx rs h
  obtain ⟨w, d0, ds, d, st, rfl, ok, h0, rd, hf, q⟩ := h
  unfold popD at hf
  split at hf
  · rename_i n
    split at hf
    · rename_i ys hn
      cases hl : ys[ys.length - 1]? with
      | none => rw [hl] at hf; cases hf
      | some e =>
        rw [hl] at hf
        cases hf
        have rd : xs = [] := rd
        subst rd
        obtain ⟨vs, rfl, h2, h3⟩ := lref ok hn h0
        obtain ⟨u, hu, ru⟩ := h3.get hl
        have g := Grow.wr (o := .lst vs.dropLast) (ob' := .lst ys.dropLast) ok hn
        refine mt_pop pins s σ _ _ _ v us Q I rx rs ⟨_, vs, u, rfl, rfl, h2, by rw [← h3.length]; exact hu, ?_⟩
        exact q _ g (ok.wr hn (obr_wrL ok hn h3.dropLast)) rfl u (Rep.grow g _ _ ru)
    · cases hf
  · cases hf
end

/-! ### what is walked -/
/-- the iterator J gives the items from the world w on -/
def ItOk (K : PySem.W.Frag) (w : Wd) (items : List D) (J : It) : Prop := ∀ w1, Ext w w1 → WOk K w1 →
  (∀ (i : Nat) (d : D), items[i]? = some d → J.go i w1.H ∧ ∀ x H', J.yld i w1.H x H' → ∃ w2, w2.H = H' ∧ Grow w1 w2 ∧ WOk K w2 ∧ w2.st = w1.st ∧ Rep K w2 d x) ∧ J.stop items.length w1.H
def PostI (C : Ctx) (w : Wd) (r : Res (List D)) (R : It → Hp → Prop) (E : Exc → Wd → Prop) : Prop := match r with
  | .ok items st => ∀ w', Grow w w' → WOk C.K w' → w'.st = st → ∀ J, ItOk C.K w' items J → R J w'.H
  | .exc e st => ∀ w', Grow w w' → WOk C.K w' → w'.st = st → E e w'
  | .bad => False
def tIx (C : Ctx) (f : Env → M (List D)) : TI := fun σ H R => ∃ w ρ, w.H = H ∧ WOk C.K w ∧ RepE C.K w σ ρ ∧ PostI C w (f ρ w.st) R (C.we σ)
abbrev DI (X : Cx) (W : WX) (tg iter : Expr) (f : Env → M (List D)) : Prop := PI X tg iter (tIx (cx X W) f)
theorem pi_imp {X : Cx} {tg iter : Expr} {t t' : TI} (h : PI X tg iter t) (k : ∀ σ H R, t' σ H R → t σ H R) : PI X tg iter t' := ⟨fun pins s σ H R I q => h.run pins s σ H R I (k σ H R q)⟩
theorem tIx.seq {C : Ctx} {α β : Type} {R1 : Wd → α → β → Prop} {f : Env → M α} {k : α → Store → Option (List D)} {σ : L2.St} {H : Hp} {R : It → Hp → Prop}
    (h : tIx C (fun ρ => bnd (f ρ) fun a st => ofO (k a st) st) σ H R) : tX C R1 T0 f σ H (fun x H1 => ∃ a w items, w.H = H1 ∧ WOk C.K w ∧ R1 w a x ∧ k a w.st = some items ∧ ∀ w', Grow w w' → WOk C.K w' → w'.st = w.st → ∀ J, ItOk C.K w' items J → R J w'.H) := by
  obtain ⟨w, ρ, e, ok, re, q⟩ := h
  refine ⟨w, ρ, e, ok, re, trivial, ?_⟩
  have q : PostI C w ((f ρ w.st).bnd fun a st => ofO (k a st) st) R (C.we σ) := q
  cases hr : f ρ w.st with
  | bad => rw [hr] at q; exact q
  | exc e st => rw [hr] at q; exact q
  | ok a st =>
    rw [hr] at q
    intro w' g ok' es x hx
    have q : PostI C w (ofO (k a st) st) R (C.we σ) := q
    cases hk : k a st with
    | none => rw [hk] at q; exact q.elim
    | some items =>
      rw [hk] at q
      exact ⟨a, w', items, rfl, ok', hx, by rw [es]; exact hk, fun w2 g2 ok2 e2 => q w2 (g.trans g2) ok2 (e2.trans es)⟩
/-- what a for walks, by its kind: lists and tuples as they are, a text by its signs -/
def walkD (d : D) (st : Store) : Option (List D) := match d with
  | .tup xs => some xs
  | .lst xs => some xs
  | _ => none
def chars (s : List Nat) : List D := s.map fun c => .str [c]
def sWalk (f : Env → M D) : Env → M (List D) := fun ρ => bnd (f ρ) fun a st => ofO (walkD a st) st
def sWalkT (f : Env → M D) : Env → M (List D) := fun ρ => bnd (f ρ) fun a st => ofO (match a with | .tup xs => some xs | _ => none) st
def sWalkL (f : Env → M D) : Env → M (List D) := fun ρ => bnd (f ρ) fun a st => ofO (match a with | .lst xs => some xs | _ => none) st
def sWalkS (f : Env → M D) : Env → M (List D) := fun ρ => bnd (f ρ) fun a st => ofO (match a with | .str s => some (chars s) | _ => none) st
def rng (lo : Int) (n : Nat) : List D := (List.range n).map fun (i : Nat) => D.int (lo + (i : Int))
theorem rng_get {lo : Int} {n i : Nat} : (rng lo n)[i]? = if i < n then some (.int (lo + i)) else none := by
  unfold rng
  rw [List.getElem?_map]
  by_cases h : i < n
  · rw [if_pos h, List.getElem?_range h]; rfl
  · rw [if_neg h, List.getElem?_eq_none (by simpa using h)]; rfl
theorem rng_len {lo : Int} {n : Nat} : (rng lo n).length = n := by unfold rng; rw [List.length_map, List.length_range]
section
variable {X : Cx} {W : WX}
theorem itok_list {K : PySem.W.Frag} {w : Wd} {xs : List D} {a : Addr} (r : Rep K w (.lst xs) (.ref a)) : ItOk K w xs (Itl K a) := by
  intro w1 g ok1
  obtain ⟨b, vs, eb, h1, h2, h3⟩ := Rep.ext g _ _ r
  have : a = b := V.ref.inj eb
  subst this
  have hq : SqL K w1.H a vs := SqL.of h1
  refine ⟨fun i d hd => ?_, ⟨vs, hq, Nat.le_of_eq h3.length.symm⟩⟩
  obtain ⟨v, hv, rv⟩ := h3.get hd
  exact ⟨⟨vs, v, hq, hv⟩, fun x H' ⟨e1, e2⟩ => ⟨w1, e1.symm, Grow.refl w1, ok1, rfl, by
    have := e2 vs hq
    rw [hv] at this
    cases this
    exact rv⟩⟩
theorem itok_tup {K : PySem.W.Frag} {w : Wd} {xs : List D} {a : Addr} (r : Rep K w (.tup xs) (.ref a)) : ItOk K w xs (Itt K a) := by
  intro w1 g ok1
  obtain ⟨b, vs, eb, h1, h3⟩ := Rep.ext g _ _ r
  have : a = b := V.ref.inj eb
  subst this
  refine ⟨fun i d hd => ?_, ⟨vs, h1, Nat.le_of_eq h3.length.symm⟩⟩
  obtain ⟨v, hv, rv⟩ := h3.get hd
  exact ⟨⟨vs, v, h1, hv⟩, fun x H' ⟨e1, e2⟩ => ⟨w1, e1.symm, Grow.refl w1, ok1, rfl, by
    have := e2 vs h1
    rw [hv] at this
    cases this
    exact rv⟩⟩
theorem itok_rng {K : PySem.W.Frag} {w : Wd} (lo : Int) (n : Nat) : ItOk K w (rng lo n) (Itr lo n) := by
  intro w1 g ok1
  refine ⟨fun i d hd => ?_, by rw [rng_len]; exact Nat.le_refl _⟩
  rw [rng_get] at hd
  by_cases h : i < n
  · rw [if_pos h] at hd
    cases hd
    exact ⟨h, fun x H' ⟨e1, e2⟩ => ⟨w1, e1.symm, Grow.refl w1, ok1, rfl, e2⟩⟩
  · rw [if_neg h] at hd
    cases hd
theorem itok_str {K : PySem.W.Frag} {w : Wd} (s : List Nat) : ItOk K w (chars s) (Its (toS s)) := by
  intro w1 g ok1
  have hs : (toS s).cps.size = s.length := rfl
  refine ⟨fun i d hd => ?_, by show (toS s).cps.size ≤ _; unfold chars; rw [hs, List.length_map]; exact Nat.le_refl _⟩
  unfold chars at hd
  rw [List.getElem?_map] at hd
  cases hc : s[i]? with
  | none => rw [hc] at hd; cases hd
  | some c =>
    rw [hc] at hd
    cases hd
    have hi : i < s.length := by
      obtain ⟨h, _⟩ := List.getElem?_eq_some_iff.mp hc
      exact h
    refine ⟨hi, fun x H' ⟨e1, c', e2, e3⟩ => ⟨w1, e1.symm, Grow.refl w1, ok1, rfl, ?_⟩⟩
    have e2 : s.toArray[i]? = some c' := e2
    rw [List.getElem?_toArray, hc] at e2
    cases e2
    exact e3
theorem di_list {tg e : Expr} {f : Env → M D} (he : DE X W e f) : DI X W tg e (sWalkL f) := by
  refine pi_imp (pi_list he) fun σ H R q => ?_
  refine (tIx.seq (R1 := Rep X.K) q).imp fun x H1 ⟨a, w, items, e1, ok, r, hk, q⟩ => ?_
  subst e1
  cases a with
  | lst xs =>
    cases hk
    obtain ⟨b, vs, eb, h1, h2, h3⟩ := id r
    subst eb
    exact ⟨b, rfl, ⟨vs, SqL.of h1⟩, q w (Grow.refl w) ok rfl _ (itok_list r)⟩
  | _ => cases hk
theorem di_tup {tg e : Expr} {f : Env → M D} (he : DE X W e f) : DI X W tg e (sWalkT f) := by
  refine pi_imp (pi_tup he) fun σ H R q => ?_
  refine (tIx.seq (R1 := Rep X.K) q).imp fun x H1 ⟨a, w, items, e1, ok, r, hk, q⟩ => ?_
  subst e1
  cases a with
  | tup xs =>
    cases hk
    obtain ⟨b, vs, eb, h1, h3⟩ := id r
    subst eb
    exact ⟨b, rfl, ⟨vs, h1⟩, q w (Grow.refl w) ok rfl _ (itok_tup r)⟩
  | _ => cases hk
theorem di_str {tg e : Expr} {f : Env → M D} (he : DE X W e f) : DI X W tg e (sWalkS f) := by
  refine pi_imp (pi_str he) fun σ H R q => ?_
  refine (tIx.seq (R1 := Rep X.K) q).imp fun x H1 ⟨a, w, items, e1, ok, r, hk, q⟩ => ?_
  subst e1
  cases a with
  | str s =>
    cases hk
    exact ⟨toS s, r, q w (Grow.refl w) ok rfl _ (itok_str s)⟩
  | _ => cases hk
noncomputable def rng1 : List D → Option (List D)
  | [.int j] => @ite _ (-(2 ^ 62) ≤ j ∧ j < 2 ^ 62) (Classical.propDecidable _) (some (rng 0 j.toNat)) none
  | _ => none
noncomputable def rng2 : List D → Option (List D)
  | [.int i, .int j] => @ite _ (-(2 ^ 62) ≤ i ∧ i < 2 ^ 62 ∧ -(2 ^ 62) ≤ j ∧ j < 2 ^ 62) (Classical.propDecidable _) (some (rng i (j - i).toNat)) none
  | _ => none
noncomputable def sRng1 (g : Env → M (List D)) : Env → M (List D) := fun ρ => bnd (g ρ) fun ds st => ofO (rng1 ds) st
noncomputable def sRng2 (g : Env → M (List D)) : Env → M (List D) := fun ρ => bnd (g ρ) fun ds st => ofO (rng2 ds) st
theorem di_rng1 {tg e : Expr} {p pos : Pos} {f : Env → M (List D)} (hm : X.mg "range" = none) (ha : DA X W [e] f) (hg : Gl X "range" := by rfl) (hs : starEach [e] X.env = [(false, eval e X.env)] := by rfl) :
    DI X W tg (.Call (.Name "range" p) [e] [] pos) (sRng1 f) := by
  refine pi_imp (pi_range1 hg hm ha hs) fun σ H R q => ?_
  refine (tIx.seq (R1 := Reps X.K) q).imp fun x H1 ⟨a, w, items, e1, ok, r, hk, q⟩ => ?_
  subst e1
  unfold rng1 at hk
  split at hk
  · split at hk
    · rename_i j hz
      cases hk
      obtain ⟨v, rfl, h1⟩ := reps1 r
      have h1 : v = V.int j := h1
      subst h1
      exact ⟨j, rfl, hz.1, hz.2, q w (Grow.refl w) ok rfl _ (itok_rng 0 _)⟩
    · cases hk
  · cases hk
theorem di_rng2 {tg e e2 : Expr} {p pos : Pos} {f : Env → M (List D)} (hm : X.mg "range" = none) (ha : DA X W [e, e2] f) (hg : Gl X "range" := by rfl) (hs : starEach [e, e2] X.env = [(false, eval e X.env), (false, eval e2 X.env)] := by rfl) (hs2 : starEach [e2] X.env = [(false, eval e2 X.env)] := by rfl) :
    DI X W tg (.Call (.Name "range" p) [e, e2] [] pos) (sRng2 f) := by
  refine pi_imp (pi_range2 hg hm ha hs hs2) fun σ H R q => ?_
  refine (tIx.seq (R1 := Reps X.K) q).imp fun x H1 ⟨a, w, items, e1, ok, r, hk, q⟩ => ?_
  subst e1
  unfold rng2 at hk
  split at hk
  · split at hk
    · rename_i i j hz
      cases hk
      obtain ⟨v, u, rfl, h1, h2⟩ := reps2 r
      have h1 : v = V.int i := h1
      have h2 : u = V.int j := h2
      subst h1 h2
      exact ⟨i, j, rfl, hz, q w (Grow.refl w) ok rfl _ (itok_rng i _)⟩
    · cases hk
  · cases hk
end
end PL
/-! PL8: targets, comprehensions. -/
namespace PL
open PySem PySem.Spec PyProof.Rows L2

theorem wipe_get (σ : L2.St) (j : Nat) : ∀ vs : List Nat, (wipe σ vs)[j]? = if j ∈ vs ∧ j < σ.length then some none else σ[j]?
  | [] => by rw [if_neg (fun h => by cases h.1)]; rfl
  | v :: vs => by
    show ((wipe σ vs).set v none)[j]? = _
    have ih := wipe_get σ j vs
    by_cases hv : v = j
    · subst hv
      by_cases hl : v < σ.length
      · rw [List.getElem?_set_self (by rw [wipe_length]; exact hl), if_pos ⟨List.mem_cons_self, hl⟩]
      · rw [List.getElem?_eq_none (by rw [List.length_set, wipe_length]; omega), if_neg (fun h => hl h.2), List.getElem?_eq_none (by omega)]
    · rw [List.getElem?_set_ne hv, ih]
      by_cases h : j ∈ vs ∧ j < σ.length
      · rw [if_pos h, if_pos ⟨List.mem_cons_of_mem _ h.1, h.2⟩]
      · rw [if_neg h, if_neg]
        intro z
        rcases List.mem_cons.mp z.1 with q | q
        · exact hv q.symm
        · exact h ⟨q, z.2⟩
theorem wipe_set {σ : L2.St} {i : Nat} {x : Option V} {vs : List Nat} (hi : i ∈ vs) : wipe (σ.set i x) vs = wipe σ vs := by
  apply List.ext_getElem?
  intro j
  rw [wipe_get, wipe_get, List.length_set]
  by_cases h : j ∈ vs ∧ j < σ.length
  · rw [if_pos h, if_pos h]
  · rw [if_neg h, if_neg h]
    by_cases hj : i = j
    · subst hj
      have hl : ¬ i < σ.length := fun z => h ⟨hi, z⟩
      rw [List.getElem?_eq_none (by rw [List.length_set]; omega), List.getElem?_eq_none (by omega)]
    · rw [List.getElem?_set_ne hj]
theorem wipe_wipe (σ : L2.St) (vs : List Nat) : wipe (wipe σ vs) vs = wipe σ vs := by
  apply List.ext_getElem?
  intro j
  rw [wipe_get, wipe_length]
  by_cases h : j ∈ vs ∧ j < σ.length
  · rw [if_pos h, wipe_get, if_pos h]
  · rw [if_neg h]

/-! ### targets -/
/-- g binds; sl: the slots that it stores -/
def tGD (K : PySem.W.Frag) (sl : List Nat) (g : D → Env → Option Env) : TG := fun v σ H Q => ∃ w ρ d ρ', w.H = H ∧ WOk K w ∧ RepE K w σ ρ ∧ Rep K w d v ∧ g d ρ = some ρ' ∧
  ∀ σ', RepE K w σ' ρ' → (∀ vs, (∀ i, i ∈ sl → i ∈ vs) → wipe σ' vs = wipe σ vs) → Q σ' H
def tGsD (K : PySem.W.Frag) (sl : List Nat) (g : List D → Env → Option Env) : TGs := fun v σ H Q => ∃ w ρ d ρ', w.H = H ∧ WOk K w ∧ RepE K w σ ρ ∧ Reps K w d v ∧ g d ρ = some ρ' ∧
  ∀ σ', RepE K w σ' ρ' → (∀ vs, (∀ i, i ∈ sl → i ∈ vs) → wipe σ' vs = wipe σ vs) → Q σ' H
abbrev DG (X : Cx) (tg : Expr) (sl : List Nat) (g : D → Env → Option Env) : Prop := PG X tg (tGD X.K sl g)
abbrev DGs (X : Cx) (ts : List Expr) (sl : List Nat) (g : List D → Env → Option Env) : Prop := PGs X ts (tGsD X.K sl g)
theorem pg_imp {X : Cx} {tg : Expr} {t t' : TG} (h : PG X tg t) (k : ∀ v σ H Q, t' v σ H Q → t v σ H Q) : PG X tg t' := ⟨fun pins s σ H v u Q I r q => h.run pins s σ H v u Q I r (k v σ H Q q)⟩
theorem pgs_imp {X : Cx} {tg : List Expr} {t t' : TGs} (h : PGs X tg t) (k : ∀ v σ H Q, t' v σ H Q → t v σ H Q) : PGs X tg t' := ⟨fun pins s σ H v u Q I r q => h.run pins s σ H v u Q I r (k v σ H Q q)⟩
def gNm (i : Nat) : D → Env → Option Env := fun d ρ => some (ρ.set i (some d))
def gNi : List D → Env → Option Env := fun ds ρ => match ds with
  | [] => some ρ
  | _ => none
def gCo (g : D → Env → Option Env) (h : List D → Env → Option Env) : List D → Env → Option Env := fun ds ρ => match ds with
  | d :: r => (g d ρ).bind (h r)
  | [] => none
def gTu (n : Nat) (g : List D → Env → Option Env) : D → Env → Option Env := fun d ρ => match d with
  | .tup xs => if xs.length = n then g xs ρ else none
  | _ => none
def gLi (n : Nat) (g : List D → Env → Option Env) : D → Env → Option Env := fun d ρ => match d with
  | .lst xs => if xs.length = n then g xs ρ else none
  | _ => none
section
variable {X : Cx}
theorem dg_name (i : Nat) {x : Str} {pos : Pos} (hN : X.N.Nodup) (hi : X.N[i]? = some x) (hx : Loc X.env.scope x) (hf : X.fn x = true ∨ X.env.scope.names.lookup x = some .local := by first | exact .inl rfl | exact .inr rfl | assumption) : DG X (.Name x pos) [i] (gNm i) := by
  refine pg_imp (pg_name hN hi hx hf) fun v σ H Q h => ?_
  obtain ⟨w, ρ, d, ρ', rfl, ok, re, r, e, q⟩ := h
  cases e
  exact q _ (re.set i r) fun vs hv => wipe_set (hv i List.mem_cons_self)
theorem dgs_nil : DGs X [] [] gNi := by
  refine pgs_imp pgs_nil fun v σ H Q h => ?_
  obtain ⟨w, ρ, d, ρ', rfl, ok, re, r, e, q⟩ := h
  cases d with
  | nil =>
    cases e
    exact ⟨r, q σ re fun _ _ => rfl⟩
  | cons x xs => cases e
theorem dgs_cons {e : Expr} {es : List Expr} {sl sl' : List Nat} {g : D → Env → Option Env} {h : List D → Env → Option Env} (h1 : DG X e sl g) (h2 : DGs X es sl' h)
    (hs : (assignEach (e :: es) X.env).map (·.2) = assign e X.env :: (assignEach es X.env).map (·.2) := by rfl) : DGs X (e :: es) (sl ++ sl') (gCo g h) := by
  refine pgs_imp (pgs_cons h1 h2 hs) fun v σ H Q q => ?_
  obtain ⟨w, ρ, d, ρ', rfl, ok, re, r, e1, q⟩ := q
  cases d with
  | nil => cases e1
  | cons x xs =>
    obtain ⟨v1, vr, e2, r1, r2⟩ := r
    subst e2
    have e1 : (g x ρ).bind (h xs) = some ρ' := e1
    cases e3 : g x ρ with
    | none => rw [e3] at e1; cases e1
    | some ρ1 =>
      rw [e3] at e1
      refine ⟨v1, vr, rfl, w, ρ, x, ρ1, rfl, ok, re, r1, e3, fun σ' re' w1 => ⟨w, ρ1, xs, ρ', rfl, ok, re', r2, e1, fun σ2 re2 w2 => q σ2 re2 fun vs hv => ?_⟩⟩
      rw [w2 vs fun i hi => hv i (List.mem_append_right _ hi), w1 vs fun i hi => hv i (List.mem_append_left _ hi)]
theorem dg_tup {es : List Expr} {k n : Nat} {sl : List Nat} {g : List D → Env → Option Env} {pos : Pos} (hc : X.calm = true) (h : DGs X es sl g) (hn : (assignEach es X.env).length = n := by rfl) (hst : (assignEach es X.env).findIdx? (·.1) = none := by rfl) :
    DG X (.Tuple es k pos) sl (gTu n g) := by
  refine pg_imp (pg_tup hc h hn hst) fun v σ H Q q => ?_
  obtain ⟨w, ρ, d, ρ', rfl, ok, re, r, e1, q⟩ := q
  cases d with
  | tup xs =>
    have e1 : (if xs.length = n then g xs ρ else none) = some ρ' := e1
    by_cases hl : xs.length = n
    · rw [if_pos hl] at e1
      obtain ⟨a, vs, e2, h1, h2⟩ := r
      exact ⟨a, vs, e2, h1, by rw [← h2.length]; exact hl, w, ρ, xs, ρ', rfl, ok, re, h2, e1, q⟩
    · rw [if_neg hl] at e1
      cases e1
  | _ => cases e1
theorem dg_unl {es : List Expr} {k n : Nat} {sl : List Nat} {g : List D → Env → Option Env} {pos : Pos} (hc : X.calm = true) (h : DGs X es sl g) (hn : (assignEach es X.env).length = n := by rfl) (hst : (assignEach es X.env).findIdx? (·.1) = none := by rfl) :
    DG X (.Tuple es k pos) sl (gLi n g) := by
  refine pg_imp (pg_unl hc h hn hst) fun v σ H Q q => ?_
  obtain ⟨w, ρ, d, ρ', rfl, ok, re, r, e1, q⟩ := q
  cases d with
  | lst xs =>
    have e1 : (if xs.length = n then g xs ρ else none) = some ρ' := e1
    by_cases hl : xs.length = n
    · rw [if_pos hl] at e1
      obtain ⟨a, vs, e2, h1, _, h2⟩ := r
      exact ⟨a, vs, e2, SqL.of h1, by rw [← h2.length]; exact hl, w, ρ, xs, ρ', rfl, ok, re, h2, e1, q⟩
    · rw [if_neg hl] at e1
      cases e1
  | _ => cases e1
end

/-! ### comprehensions -/
def noX {α : Type} : Res α → Res α
  | .exc _ _ => .bad
  | r => r
def mN {α : Type} (m : M α) : M α := fun st => noX (m st)
@[simp] theorem noX_ok {α : Type} (a : α) (st : Store) : noX (.ok a st) = .ok a st := rfl
def badM {α : Type} : M α := fun _ => .bad
def compGo (g : D → Env → Option Env) (c : Env → M Bool) (f : Env → M D) (ρ₀ : Env) : List D → List D → M (List D)
  | [], acc => ret acc
  | d :: r, acc => match g d ρ₀ with
    | none => badM
    | some ρ₁ => bnd (mN (c ρ₁)) fun b => if b then bnd (mN (f ρ₁)) fun v => if acc.length < sizeLine then compGo g c f ρ₀ r (acc ++ [v]) else badM
      else compGo g c f ρ₀ r acc
def sComp (m : Bool) (vs : List Nat) (g : D → Env → Option Env) (c : Env → M Bool) (f : Env → M D) (it : Env → M (List D)) : Env → M D := fun ρ => bnd (it ρ) fun items => bnd (compGo g c f (wipeE ρ vs) items []) (mkL m)
def sYes : Env → M Bool := fun _ => ret true
abbrev W0 : WX := fun _ _ _ _ => False
abbrev DQ (X : Cx) (ifs : List Expr) (f : Env → M Bool) : Prop := PTs X ifs (tX (cx X W0) (fun _ (a b : Bool) => a = b) T0 f)
/-- a list in the making -/
def Wd.hide (w : Wd) (p : Addr) : Wd := { w with hid := p :: w.hid, H := upd w.H p (.lst []) }
section
variable {K : PySem.W.Frag} {w w' : Wd}
theorem lv_hide {p a : Addr} (h : Lv (w.hide p) a) : a = p ∨ Lv w a := by
  rcases h with h | h
  · exact .inr (.inl h)
  · rcases List.mem_cons.mp h with z | z
    · exact .inl z
    · exact .inr (.inr z)
theorem ext_hide {p : Addr} (h : w.H p = none) : Ext w (w.hide p) where
  len := Nat.le_refl _
  bet := fun _ _ => rfl
  keep := fun a o e n => by
    refine ⟨by show upd w.H p _ a = _; rw [upd_ne (ne_of_none e h)]; exact e, fun l => ?_⟩
    rcases lv_hide l with z | z
    · exact ne_of_none e h z
    · exact n z
  tups := fun a u e => by show upd w.H p _ a = _; rw [upd_ne (ne_of_none e h)]; exact e
  frzs := fun a u v e => by show upd w.H p _ a = _; rw [upd_ne (ne_of_none e h)]; exact e
theorem wok_hide {p : Addr} (ok : WOk K w) (h : w.H p = none) : WOk K (w.hide p) where
  ob := fun n ob e => (ok.ob n ob e).ext (ext_hide h) fun u q => by show upd w.H p _ _ = _; rw [upd_ne (ne_of_none q h)]; exact q
  inj := ok.inj
  hidL := fun a m => by
    rcases List.mem_cons.mp m with z | z
    · subst z; exact ⟨[], upd_same⟩
    · obtain ⟨vs, e⟩ := ok.hidL a z
      exact ⟨vs, by show upd w.H p _ a = _; rw [upd_ne (ne_of_none e h)]; exact e⟩
  hidN := fun a m n ob e => by
    rcases List.mem_cons.mp m with z | z
    · subst z
      exact fun z => ok.free h (.inl ⟨n, ob, e, z⟩)
    · exact ok.hidN a z n ob e
/-- an item more for the list in the making -/
theorem ext_more {p : Addr} {vs us : List V} (ok : WOk K w) (hp : p ∈ w.hid) (h : w.H p = some (.lst vs)) : Ext w (w.put p (.lst us)) where
  len := Nat.le_refl _
  bet := fun _ _ => rfl
  keep := fun a o e n => ⟨by show upd w.H p _ a = _; rw [upd_ne (fun z => n (.inr (by rw [z]; exact hp)))]; exact e, n⟩
  tups := fun a u e => by show upd w.H p _ a = _; rw [upd_ne (fun z => ok.noT e (.inr (by rw [z]; exact hp)))]; exact e
  frzs := fun a u v e => by show upd w.H p _ a = _; rw [upd_ne (fun z => ok.noF e (.inr (by rw [z]; exact hp)))]; exact e
theorem wok_more {p : Addr} {vs us : List V} (ok : WOk K w) (hp : p ∈ w.hid) (h : w.H p = some (.lst vs)) : WOk K (w.put p (.lst us)) where
  ob := fun n ob e => (ok.ob n ob e).ext (ext_more ok hp h) fun u q => by show upd w.H p _ _ = _; rw [upd_ne (ok.hidN p hp n ob e)]; exact q
  inj := ok.inj
  hidL := fun a m => by
    by_cases z : a = p
    · subst z; exact ⟨us, upd_same⟩
    · obtain ⟨ws, e⟩ := ok.hidL a m
      exact ⟨ws, by show upd w.H p _ a = _; rw [upd_ne z]; exact e⟩
  hidN := ok.hidN
/-- what stands behind a comprehension's loop -/
structure Made (K : PySem.W.Frag) (w w' : Wd) (p : Addr) (xs : List D) : Prop where
  fr : w.H p = none
  ok0 : WOk K w
  ok : WOk K w'
  ext : Ext w w'
  hid : w'.hid = p :: w.hid
  old : ∀ a, a ∈ w.hid → w'.H a = w.H a
  at_ : ∃ vs, w'.H p = some (.lst vs) ∧ Reps K w' xs vs
theorem Made.end_ {p : Addr} {xs : List D} (h : Made K w w' p xs) : Grow w { w' with hid := w.hid } ∧ WOk K { w' with hid := w.hid } ∧ Rep K { w' with hid := w.hid } (.lst xs) (.ref p) := by
  have np : p ∉ w.hid := fun z => by
    obtain ⟨vs, e⟩ := h.ok0.hidL p z
    rw [h.fr] at e
    cases e
  have sub : ∀ a, Lv { w' with hid := w.hid } a → Lv w' a := fun a l => by
    rcases l with l | l
    · exact .inl l
    · exact .inr (by rw [h.hid]; exact List.mem_cons_of_mem _ l)
  have ex : Ext w' { w' with hid := w.hid } := ⟨Nat.le_refl _, fun _ _ => rfl, fun a o e n => ⟨e, fun l => n (sub a l)⟩, fun _ _ e => e, fun _ _ _ e => e⟩
  have pm : p ∈ w'.hid := by rw [h.hid]; exact List.mem_cons_self
  refine ⟨⟨h.ext.trans ex, rfl, h.old⟩, ⟨fun n ob e => (h.ok.ob n ob e).ext ex fun _ q => q, h.ok.inj, fun a m => h.ok.hidL a (by rw [h.hid]; exact List.mem_cons_of_mem _ m), fun a m => h.ok.hidN a (by rw [h.hid]; exact List.mem_cons_of_mem _ m)⟩, ?_⟩
  obtain ⟨vs, e, r⟩ := h.at_
  refine ⟨p, vs, rfl, e, fun l => ?_, Reps.ext ex _ _ r⟩
  rcases l with ⟨n, ob, e1, e2⟩ | l
  · exact h.ok.hidN p pm n ob e1 e2
  · exact np l
theorem Made.endS {p : Addr} {xs : List D} (h : Made K w w' p xs) : ∃ w2, w2.H = w'.H ∧ w2.st = w'.st ++ [some (.lst xs)] ∧ Grow w w2 ∧ WOk K w2 ∧ Rep K w2 (.ref w'.st.length) (.ref p) := by
  have pm : p ∈ w'.hid := by rw [h.hid]; exact List.mem_cons_self
  have np : p ∉ w.hid := fun z => by
    obtain ⟨vs, e⟩ := h.ok0.hidL p z
    rw [h.fr] at e
    cases e
  obtain ⟨w2, hw2⟩ : ∃ w2 : Wd, w2 = ⟨fun n => if n = w'.st.length then p else w'.bet n, w'.st ++ [some (.lst xs)], w.hid, w'.H⟩ := ⟨_, rfl⟩
  have sub : ∀ a, Lv w2 a → Lv w' a := fun a l => by
    subst hw2
    rcases l with ⟨n, ob, e1, e2⟩ | l
    · have e1 : (w'.st ++ [some (Ob.lst xs)])[n]? = some (some ob) := e1
      have e2 : (if n = w'.st.length then p else w'.bet n) = a := e2
      rcases st_app e1 with ⟨h1, h2⟩ | ⟨h1, h2⟩
      · rw [if_neg (Nat.ne_of_lt h1)] at e2
        exact .inl ⟨n, ob, h2, e2⟩
      · rw [if_pos h1] at e2
        rw [← e2]
        exact .inr pm
    · exact .inr (by rw [h.hid]; exact List.mem_cons_of_mem _ l)
  have ex : Ext w' w2 := by
    refine ⟨?_, ?_, fun a o e n => ⟨?_, fun l => n (sub a l)⟩, ?_, ?_⟩
    · subst hw2; show _ ≤ (w'.st ++ [_]).length; rw [List.length_append]; exact Nat.le_add_right _ _
    · intro n hn; subst hw2; show (if n = w'.st.length then p else w'.bet n) = _; rw [if_neg (Nat.ne_of_lt hn)]
    · subst hw2; exact e
    · intro a u e; subst hw2; exact e
    · intro a u v e; subst hw2; exact e
  obtain ⟨vs, e, r⟩ := h.at_
  refine ⟨w2, by subst hw2; rfl, by subst hw2; rfl, ⟨h.ext.trans ex, by subst hw2; rfl, by subst hw2; exact h.old⟩, ⟨fun n ob e1 => ?_, fun m n b c e1 e2 ee => ?_, ?_, fun a m n b e1 z => ?_⟩, ?_⟩
  · have e1 : (w'.st ++ [some (Ob.lst xs)])[n]? = some (some ob) := by subst hw2; exact e1
    have hb : w2.bet n = if n = w'.st.length then p else w'.bet n := by subst hw2; rfl
    have hH : w2.H = w'.H := by subst hw2; rfl
    rw [hb]
    rcases st_app e1 with ⟨h1, h2⟩ | ⟨h1, h2⟩
    · rw [if_neg (Nat.ne_of_lt h1)]
      exact (h.ok.ob n ob h2).ext ex fun _ q => by rw [hH]; exact q
    · rw [if_pos h1, h2]
      exact ⟨vs, by rw [hH]; exact e, Reps.ext ex _ _ r⟩
  · have e1 : (w'.st ++ [some (Ob.lst xs)])[m]? = some (some b) := by subst hw2; exact e1
    have e2 : (w'.st ++ [some (Ob.lst xs)])[n]? = some (some c) := by subst hw2; exact e2
    have ee : (if m = w'.st.length then p else w'.bet m) = (if n = w'.st.length then p else w'.bet n) := by subst hw2; exact ee
    rcases st_app e1 with ⟨h1, h2⟩ | ⟨h1, h2⟩ <;> rcases st_app e2 with ⟨k1, k2⟩ | ⟨k1, k2⟩
    · rw [if_neg (Nat.ne_of_lt h1), if_neg (Nat.ne_of_lt k1)] at ee
      exact h.ok.inj m n b c h2 k2 ee
    · rw [if_neg (Nat.ne_of_lt h1), if_pos k1] at ee
      exact absurd ee (h.ok.hidN p pm m b h2)
    · rw [if_pos h1, if_neg (Nat.ne_of_lt k1)] at ee
      exact absurd ee.symm (h.ok.hidN p pm n c k2)
    · omega
  · intro a m
    have m : a ∈ w.hid := by subst hw2; exact m
    have hH : w2.H = w'.H := by subst hw2; rfl
    rw [hH]
    exact h.ok.hidL a (by rw [h.hid]; exact List.mem_cons_of_mem _ m)
  · have m : a ∈ w.hid := by subst hw2; exact m
    have e1 : (w'.st ++ [some (Ob.lst xs)])[n]? = some (some b) := by subst hw2; exact e1
    have z : (if n = w'.st.length then p else w'.bet n) = a := by subst hw2; exact z
    rcases st_app e1 with ⟨h1, h2⟩ | ⟨h1, h2⟩
    · rw [if_neg (Nat.ne_of_lt h1)] at z
      exact h.ok.hidN a (by rw [h.hid]; exact List.mem_cons_of_mem _ m) n b h2 z
    · rw [if_pos h1] at z
      exact np (by rw [z]; exact m)
  · subst hw2
    exact ⟨by show _ < (w'.st ++ [_]).length; rw [List.length_append]; exact Nat.lt_succ_self _, by show _ = V.ref (if w'.st.length = w'.st.length then p else _); rw [if_pos rfl]⟩
end
section
variable {X : Cx} {W : WX}
/-- the loop's reading -/
theorem comp_loop {C : Ctx} (hC : C.K = X.K) {m : Bool} {items : List D} {g : D → Env → Option Env} {sl vs : List Nat} {c : Env → M Bool} {f : Env → M D} {w : Wd} {ρ : Env} {σ : L2.St} {Q : VK} {E : Exc → Wd → Prop} {J : It} {p : Addr} {gT : TG} {tt : TT} {te : TE}
    (hgT : ∀ v σ H Q, tGD X.K sl g v σ H Q → gT v σ H Q) (htt : ∀ σ H Q, tX (cx X W0) (fun _ (a b : Bool) => a = b) T0 c σ H Q → tt σ H Q) (hte : ∀ σ H Q, tX (cx X W0) (Rep X.K) T0 f σ H Q → te σ H Q)
    (hsl : ∀ i, i ∈ sl → i ∈ vs) (ok : WOk X.K w) (re : RepE X.K w σ ρ) (jok : ItOk X.K w items J) (np : w.H p = none)
    (q : Post C (Rep X.K) w ((compGo g c f (wipeE ρ vs) items [] w.st).bnd (mkL m)) Q E) :
    ∃ Wv : Nat → Nat → Hp → Prop, (∃ m, Wv 0 m (upd w.H p (.lst []))) ∧ ∀ i m H, Wv i m H →
      (J.stop i H ∧ Q (.ref p) H) ∨ (J.go i H ∧ ∃ Nx : Hp → Prop, (∀ H', Nx H' → ∃ m', m' < m ∧ Wv (i + 1) m' H') ∧ ∀ x H', J.yld i H x H' → gT x (wipe σ vs) H' fun σ2 H2 => wipe σ2 vs = wipe σ vs ∧ tt σ2 H2 fun b H3 =>
        if b = true then te σ2 H3 fun y H4 => ∃ acc, H4 p = some (.lst acc) ∧ acc.length < sizeLine ∧ Nx (upd H4 p (.lst (acc ++ [y]))) else Nx H3) := by
  refine ⟨fun i m' H => ∃ w2 acc, w2.H = H ∧ Made X.K w w2 p acc ∧ i ≤ items.length ∧ m' = items.length - i ∧ Post C (Rep X.K) w ((compGo g c f (wipeE ρ vs) (items.drop i) acc w2.st).bnd (mkL m)) Q E,
    ⟨items.length, w.hide p, [], rfl, ⟨np, ok, wok_hide ok np, ext_hide np, rfl, fun a hm => ?_, [], upd_same, reps_nil⟩, Nat.zero_le _, by omega, by rw [List.drop_zero]; exact q⟩, ?_⟩
  · show upd w.H p _ a = _
    obtain ⟨us, e⟩ := ok.hidL a hm
    rw [upd_ne (ne_of_none e np)]
  rintro i m' H ⟨w2, acc, rfl, md, hi, rfl, q2⟩
  obtain ⟨jit, jst⟩ := jok w2 md.ext md.ok
  have pm : p ∈ w2.hid := by rw [md.hid]; exact List.mem_cons_self
  by_cases hlt : i < items.length
  · obtain ⟨jgo, jy⟩ := jit i items[i] (List.getElem?_eq_getElem hlt)
    refine .inr ⟨jgo, fun H' => ∃ w2 acc, w2.H = H' ∧ Made X.K w w2 p acc ∧ Post C (Rep X.K) w ((compGo g c f (wipeE ρ vs) (items.drop (i + 1)) acc w2.st).bnd (mkL m)) Q E, fun H' ⟨w5, acc5, e5, md5, q5⟩ => ⟨items.length - (i + 1), by omega, w5, acc5, e5, md5, hlt, rfl, q5⟩, fun x H' hy => ?_⟩
    obtain ⟨w3, rfl, g3, ok3, st3, rx⟩ := jy x H' hy
    rw [List.drop_eq_getElem_cons hlt] at q2
    have q2 : Post C (Rep X.K) w (((match g items[i] (wipeE ρ vs) with
      | none => badM
      | some ρ₁ => bnd (mN (c ρ₁)) fun b => if b then bnd (mN (f ρ₁)) fun v => if acc.length < sizeLine then compGo g c f (wipeE ρ vs) (items.drop (i + 1)) (acc ++ [v]) else badM
        else compGo g c f (wipeE ρ vs) (items.drop (i + 1)) acc) w2.st).bnd (mkL m)) Q E := q2
    cases eg : g items[i] (wipeE ρ vs) with
    | none => rw [eg] at q2; exact q2.elim
    | some ρ1 =>
      rw [eg] at q2
      have q2 : Post C (Rep X.K) w (((noX (c ρ1 w2.st)).bnd fun b => if b then bnd (mN (f ρ1)) fun v => if acc.length < sizeLine then compGo g c f (wipeE ρ vs) (items.drop (i + 1)) (acc ++ [v]) else badM
        else compGo g c f (wipeE ρ vs) (items.drop (i + 1)) acc).bnd (mkL m)) Q E := q2
      have md3 : ∀ {w4 : Wd}, Grow w3 w4 → WOk X.K w4 → Made X.K w w4 p acc := fun {w4} g4 ok4 => by
        have gg := g3.trans g4
        obtain ⟨us, e1, r1⟩ := md.at_
        refine ⟨np, ok, ok4, md.ext.trans gg.ext, gg.hid.trans md.hid, fun a ha => (gg.hids a (by rw [md.hid]; exact List.mem_cons_of_mem _ ha)).trans (md.old a ha), us, ?_, Reps.grow gg _ _ r1⟩
        rw [gg.hids p pm]
        exact e1
      refine hgT _ _ _ _ ⟨w3, wipeE ρ vs, items[i], ρ1, rfl, ok3, ((re.ext md.ext).ext g3.ext).wipe vs, rx, eg, fun σ2 re2 wi => ⟨(wi vs hsl).trans (wipe_wipe σ vs), htt _ _ _ ⟨w3, ρ1, rfl, ok3, re2, trivial, ?_⟩⟩⟩
      rw [st3]
      cases ec : c ρ1 w2.st with
      | bad => rw [ec] at q2; exact q2.elim
      | exc _ _ => rw [ec] at q2; exact q2.elim
      | ok b st1 =>
        rw [ec] at q2
        intro w4 g4 ok4 es4 b' eb
        subst eb
        cases b with
        | false =>
          rw [if_neg Bool.false_ne_true]
          exact ⟨w4, acc, rfl, md3 g4 ok4, by rw [es4]; exact q2⟩
        | true =>
          rw [if_pos rfl]
          have q2 : Post C (Rep X.K) w (((noX (f ρ1 st1)).bnd fun v => if acc.length < sizeLine then compGo g c f (wipeE ρ vs) (items.drop (i + 1)) (acc ++ [v]) else badM).bnd (mkL m)) Q E := q2
          refine hte _ _ _ ⟨w4, ρ1, rfl, ok4, re2.grow g4, trivial, ?_⟩
          rw [es4]
          cases ef : f ρ1 st1 with
          | bad => rw [ef] at q2; exact q2.elim
          | exc _ _ => rw [ef] at q2; exact q2.elim
          | ok d st2 =>
            rw [ef] at q2
            intro w5 g5 ok5 es5 y ry
            have q2 : Post C (Rep X.K) w (((if acc.length < sizeLine then compGo g c f (wipeE ρ vs) (items.drop (i + 1)) (acc ++ [d]) else badM) st2).bnd (mkL m)) Q E := q2
            by_cases hz : acc.length < sizeLine
            · rw [if_pos hz] at q2
              have md5 := md3 (g4.trans g5) ok5
              obtain ⟨us, e1, r1⟩ := md5.at_
              have pm5 : p ∈ w5.hid := by rw [md5.hid]; exact List.mem_cons_self
              have ex := ext_more (us := us ++ [y]) ok5 pm5 e1
              refine ⟨us, e1, by rw [← r1.length]; exact hz, w5.put p (.lst (us ++ [y])), acc ++ [d], rfl, ⟨np, ok, wok_more ok5 pm5 e1, md5.ext.trans ex, md5.hid, fun a ha => ?_, us ++ [y], upd_same, Reps.ext ex _ _ (r1.app (reps_cons ry reps_nil))⟩, ?_⟩
              · show upd w5.H p _ a = _
                have na : a ≠ p := fun z => by
                  obtain ⟨us2, e2⟩ := ok.hidL a ha
                  rw [z, np] at e2
                  cases e2
                rw [upd_ne na]
                exact md5.old a ha
              · show Post C (Rep X.K) w ((compGo g c f (wipeE ρ vs) (items.drop (i + 1)) (acc ++ [d]) w5.st).bnd (mkL m)) Q E
                rw [es5]
                exact q2
            · rw [if_neg hz] at q2
              exact q2.elim
  · have e : i = items.length := by omega
    subst e
    rw [List.drop_length] at q2
    refine .inl ⟨jst, ?_⟩
    have q2 : Post C (Rep X.K) w (mkL m acc w2.st) Q E := q2
    unfold mkL at q2
    cases m with
    | false =>
      obtain ⟨g1, ok1, r1⟩ := md.end_
      exact q2 _ g1 (by rw [hC]; exact ok1) rfl _ r1
    | true =>
      obtain ⟨w3, e1, e2, g1, ok1, r1⟩ := md.endS
      have := q2 w3 g1 (by rw [hC]; exact ok1) e2 _ r1
      rw [e1] at this
      exact this
theorem comp_imp {m : Bool} {own : List (Str × Nat)} {sl : List Nat} {g : D → Env → Option Env} {c : Env → M Bool} {f : Env → M D} {it : Env → M (List D)} {σ : L2.St} {H : Hp} {Q : VK} (hsl : ∀ i, i ∈ sl → i ∈ own.map (·.2))
    (h : tX (cx X W) (Rep X.K) T0 (sComp m (own.map (·.2)) g c f it) σ H Q) :
    tLc (tIx (cx X W) it) (tGD X.K sl g) (tX (cx X W0) (fun _ (a b : Bool) => a = b) T0 c) (tX (cx X W0) (Rep X.K) T0 f) (own.map (·.2)) σ H Q := by
  obtain ⟨w, ρ, rfl, ok, re, _, q⟩ := h
  refine ⟨w, ρ, rfl, ok, re, ?_⟩
  have q : Post (cx X W) (Rep X.K) w ((it ρ w.st).bnd fun items => bnd (compGo g c f (wipeE ρ (own.map (·.2))) items []) (mkL m)) Q _ := q
  cases e : it ρ w.st with
  | bad => rw [e] at q; exact q
  | exc _ _ => rw [e] at q; exact q
  | ok items st =>
    rw [e] at q
    intro w1 g1 ok1 es J jok p np
    have q : Post (cx X W) (Rep X.K) w ((compGo g c f (wipeE ρ (own.map (·.2))) items [] st).bnd (mkL m)) Q _ := q
    exact comp_loop (C := cx X W) rfl (fun _ _ _ _ h => h) (fun _ _ _ h => h) (fun _ _ _ h => h) hsl ok1 (re.grow g1) jok np (by rw [es]; exact q.grow g1)
theorem de_comp (m : Bool) {elt tg iter : Expr} {ifs : List Expr} {scope : Scope} {own : List (Str × Nat)} {sl : List Nat} {pos : Pos} {g : D → Env → Option Env} {c : Env → M Bool} {f : Env → M D} {it : Env → M (List D)} (hc : X.calm = true) (hN : X.N.Nodup) (hi : DI X W tg iter it) (ok : BlkOk X.N X.env.scope scope own)
    (hg : ∀ (s : Shared) (H : Hp) (Ca : Addr) (cl : List (Str × Addr)) (fp : List Addr), DG (X.blk s H scope (compEnvC scope cl Ca X.env) fp) tg sl g) (ht : ∀ (s : Shared) (H : Hp) (Ca : Addr) (cl : List (Str × Addr)) (fp : List Addr), DQ (X.blk s H scope (compEnvC scope cl Ca X.env) fp) ifs c)
    (he : ∀ (s : Shared) (H : Hp) (Ca : Addr) (cl : List (Str × Addr)) (fp : List Addr), DE (X.blk s H scope (compEnvC scope cl Ca X.env) fp) W0 elt f) (hsl : ∀ i, i ∈ sl → i ∈ own.map (·.2) := by decide) (hs : ∀ x, foldedSetIterable iter X.env x = pure x := by intro _; rfl) :
    DE X W (.ListComp elt [⟨tg, iter, ifs, 0⟩] scope pos) (sComp m (own.map (·.2)) g c f it) :=
  (pe_lc hc hN hi ok hg ht he hs).imp fun σ H Q h => comp_imp hsl h
theorem dq_nil : DQ X [] sYes := ⟨fun pins s σ H Q I h => by
  obtain ⟨w, ρ, rfl, ok, re, _, q⟩ := h
  exact pts_nil.run pins s σ _ Q I (q w (Grow.refl w) ok rfl true rfl)⟩
theorem dq_one {e : Expr} {f : Env → M Bool} (h : DT X W0 e f) : DQ X [e] f := pts_one h
end
end PL
/-! PL9: statements. -/
namespace L2
open PySem PySem.Spec PyProof.Rows
section
variable {X : Cx}
theorem PS.imp {e : Stmt} {t t' : TS} (h : PS X e t) (k : ∀ D σ H, t' D σ H → t D σ H) : PS X e t' := ⟨fun pins s σ H D I q => h.run pins s σ H D I (k D σ H q)⟩
theorem PSs.imp {e : List Stmt} {t t' : TS} (h : PSs X e t) (k : ∀ D σ H, t' D σ H → t D σ H) : PSs X e t' := ⟨fun pins s σ H D I q => h.run pins s σ H D I (k D σ H q)⟩
end
end L2
namespace PL
open PySem PySem.Spec PyProof.Rows L2

inductive SRes where
  | nx (ρ : Env) (st : Store)
  | rt (d : D) (st : Store)
  | bk (ρ : Env) (st : Store)
  | ct (ρ : Env) (st : Store)
  | ex (e : Exc) (ρ : Env) (st : Store)
  | bad
abbrev SM := Env → Store → SRes
def SPost (C : Ctx) (w : Wd) (r : SRes) (D : Ends) : Prop := match r with
  | .nx ρ' st => ∀ w', Grow w w' → WOk C.K w' → w'.st = st → ∀ σ', RepE C.K w' σ' ρ' → D.nx σ' w'.H
  | .rt d st => ∀ w', Grow w w' → WOk C.K w' → w'.st = st → ∀ v, Rep C.K w' d v → D.rt v w'.H
  | .bk ρ' st => ∀ w', Grow w w' → WOk C.K w' → w'.st = st → ∀ σ', RepE C.K w' σ' ρ' → D.bk σ' w'.H
  | .ct ρ' st => ∀ w', Grow w w' → WOk C.K w' → w'.st = st → ∀ σ', RepE C.K w' σ' ρ' → D.ct σ' w'.H
  | .ex e ρ' st => ∀ w', Grow w w' → WOk C.K w' → w'.st = st → ∀ σ', RepE C.K w' σ' ρ' → C.we σ' e w'
  | .bad => False
theorem SPost.grow {C : Ctx} {w w1 : Wd} {r : SRes} {D : Ends} (g : Grow w w1) (h : SPost C w r D) : SPost C w1 r D := by
  cases r with
  | bad => exact h
  | nx ρ st => exact fun w' g' => h w' (g.trans g')
  | rt ρ st => exact fun w' g' => h w' (g.trans g')
  | bk ρ st => exact fun w' g' => h w' (g.trans g')
  | ct ρ st => exact fun w' g' => h w' (g.trans g')
  | ex e ρ st => exact fun w' g' => h w' (g.trans g')
def tS (C : Ctx) (f : SM) : TS := fun D σ H => ∃ w ρ, w.H = H ∧ WOk C.K w ∧ RepE C.K w σ ρ ∧ SPost C w (f ρ w.st) D
abbrev DS (X : Cx) (W : WX) (st : Stmt) (f : SM) : Prop := PS X st (tS (cx X W) f)
abbrev DSs (X : Cx) (W : WX) (st : List Stmt) (f : SM) : Prop := PSs X st (tS (cx X W) f)

def sSkip : SM := fun ρ st => .nx ρ st
def sSeq (f g : SM) : SM := fun ρ st => match f ρ st with
  | .nx ρ' st' => g ρ' st'
  | r => r
/-- an expression, then a statement's rest -/
def sThen {α : Type} (f : Env → M α) (k : α → SM) : SM := fun ρ st => match f ρ st with
  | .ok a st' => k a ρ st'
  | .exc e st' => .ex e ρ st'
  | .bad => .bad
def sSet (i : Nat) (f : Env → M D) : SM := sThen f fun d ρ st => .nx (ρ.set i (some d)) st
def sAsg (g : D → Env → Option Env) (f : Env → M D) : SM := sThen f fun d ρ st => match g d ρ with
  | some ρ' => .nx ρ' st
  | none => .bad
def sExpr (f : Env → M D) : SM := sThen f fun _ ρ st => .nx ρ st
def sRet (f : Env → M D) : SM := sThen f fun d _ st => .rt d st
def sRetN : SM := fun _ st => .rt .non st
def sIfS (c : Env → M Bool) (f g : SM) : SM := sThen c fun b => if b then f else g
def sBrk : SM := fun ρ st => .bk ρ st
def sCnt : SM := fun ρ st => .ct ρ st
def sPar (i j : Nat) (f : Env → M (List D)) : SM := sThen f fun ds ρ st => match ds with
  | [a, b] => .nx ((ρ.set i (some a)).set j (some b)) st
  | _ => .bad
def sPar3 (i j l : Nat) (f : Env → M (List D)) : SM := sThen f fun ds ρ st => match ds with
  | [a, b, c] => .nx (((ρ.set i (some a)).set j (some b)).set l (some c)) st
  | _ => .bad
def forGo (g : D → Env → Option Env) (body : SM) : List D → SM
  | [], ρ, st => .nx ρ st
  | d :: r, ρ, st => match g d ρ with
    | none => .bad
    | some ρ1 => match body ρ1 st with
      | .nx ρ2 st2 => forGo g body r ρ2 st2
      | .ct ρ2 st2 => forGo g body r ρ2 st2
      | .bk ρ2 st2 => .nx ρ2 st2
      | x => x
def sFor (g : D → Env → Option Env) (it : Env → M (List D)) (body : SM) : SM := sThen it fun items => forGo g body items
def whileGo (c : Env → M Bool) (body : SM) : Nat → SM
  | 0, _, _ => .bad
  | n + 1, ρ, st => match c ρ st with
    | .bad => .bad
    | .exc e st1 => .ex e ρ st1
    | .ok false st1 => .nx ρ st1
    | .ok true st1 => match body ρ st1 with
      | .nx ρ2 st2 => whileGo c body n ρ2 st2
      | .ct ρ2 st2 => whileGo c body n ρ2 st2
      | .bk ρ2 st2 => .nx ρ2 st2
      | x => x
def sWhile (n : Nat) (c : Env → M Bool) (body : SM) : SM := whileGo c body n
/-- xs[i] = v -/
def setD (o i v : D) (st : Store) : Option Store := match o, i with
  | .ref n, .int k => match st[n]? with
    | some (some (.lst xs)) => (ixN xs.length k).map fun j => st.set n (some (.lst (xs.set j v)))
    | _ => none
  | _, _ => none
theorem setD_cases {o i v : D} {st st' : Store} (h : setD o i v st = some st') : ∃ n k xs j, o = .ref n ∧ i = .int k ∧ st[n]? = some (some (.lst xs)) ∧ ixN xs.length k = some j ∧ st' = st.set n (some (.lst (xs.set j v))) := by
  unfold setD at h
  split at h
  · split at h
    · rename_i n k _ xs hn
      cases ej : ixN xs.length k with
      | none => rw [ej] at h; cases h
      | some j =>
        rw [ej] at h
        cases h
        exact ⟨n, k, xs, j, rfl, rfl, hn, ej, rfl⟩
    · cases h
  · cases h
def sSetIx (fv fo fi : Env → M D) : SM := sThen (fun ρ => bnd (fv ρ) fun v => bnd (fo ρ) fun o => bnd (fi ρ) fun i st => match setD o i v st with
  | some st' => .ok () st'
  | none => .bad) fun _ ρ st => .nx ρ st
def augOp : BOp → D → D → Store → Option D
  | .add, .int i, .int j, _ => some (.int (i + j))
  | .add, .str s, .str t, _ => if s.length + t.length ≤ sizeLine then some (.str (s ++ t)) else none
  | .sub, .int i, .int j, _ => some (.int (i - j))
  | .mul, .int i, .int j, _ => if i.natAbs < 2 ^ 64 then some (.int (i * j)) else none
  | .fdiv, .int i, .int j, _ => if 0 < j ∧ j < 1073741824 then some (.int (i / j)) else none
  | _, _, _, _ => none
def sAug (i : Nat) (op : BOp) (f : Env → M D) : SM := sThen (fun ρ => bnd (sVar i ρ) fun x => bnd (f ρ) fun y => fun st => ofO (augOp op x y st) st) fun d ρ st => .nx (ρ.set i (some d)) st
section
variable {X : Cx} {W : WX}
/-- how a reading of an expression serves a statement -/
theorem then_imp {α β : Type} {R : Wd → α → β → Prop} {f : Env → M α} {k : α → SM} {D : Ends} {σ : L2.St} {H : Hp} (h : tS (cx X W) (sThen f k) D σ H) :
    tX (cx X W) R T0 f σ H fun x H1 => ∃ w ρ a, w.H = H1 ∧ WOk X.K w ∧ RepE X.K w σ ρ ∧ R w a x ∧ SPost (cx X W) w (k a ρ w.st) D := by
  obtain ⟨w, ρ, rfl, ok, re, q⟩ := h
  refine ⟨w, ρ, rfl, ok, re, trivial, ?_⟩
  unfold sThen at q
  cases e : f ρ w.st with
  | bad => rw [e] at q; exact q
  | exc x st =>
    rw [e] at q
    exact fun w' g ok' es => q w' g ok' es σ (re.grow g)
  | ok a st =>
    rw [e] at q
    exact fun w' g ok' es x hx => ⟨w', ρ, a, rfl, ok', re.grow g, hx, by rw [es]; exact q.grow g⟩
theorem dss_nil : DSs X W [] sSkip := PSs.imp pss_nil fun D σ H h => by
  obtain ⟨w, ρ, rfl, ok, re, q⟩ := h
  exact q w (Grow.refl w) ok rfl σ re
theorem seq_imp {f g : SM} {D : Ends} {σ : L2.St} {H : Hp} (h : tS (cx X W) (sSeq f g) D σ H) : tS (cx X W) f { D with nx := tS (cx X W) g D } σ H := by
  obtain ⟨w, ρ, rfl, ok, re, q⟩ := h
  refine ⟨w, ρ, rfl, ok, re, ?_⟩
  unfold sSeq at q
  cases e : f ρ w.st with
  | bad => rw [e] at q; exact q
  | nx ρ' st =>
    rw [e] at q
    exact fun w' g' ok' es σ' re' => ⟨w', ρ', rfl, ok', re', by rw [es]; exact q.grow g'⟩
  | rt d st => rw [e] at q; exact q
  | bk d st => rw [e] at q; exact q
  | ct d st => rw [e] at q; exact q
  | ex x ρ' st => rw [e] at q; exact q
theorem dss_cons {s : Stmt} {r : List Stmt} {f g : SM} (h1 : DS X W s f) (h2 : DSs X W r g) : DSs X W (s :: r) (sSeq f g) := PSs.imp (pss_cons h1 h2) fun D σ H h => seq_imp h
theorem dss_one {s : Stmt} {f : SM} (h : DS X W s f) : DSs X W [s] f := pss_one h
theorem ds_set (i : Nat) {x : Str} {e : Expr} {f : Env → M D} {pos' pos : Pos} (hN : X.N.Nodup) (hi : X.N[i]? = some x) (hx : Loc X.env.scope x) (he : DE X W e f) (hs : swapsWith e (some (.Name x pos')) pos.line X.env = pure false := by rfl)
    (hf : X.fn x = true ∨ X.env.scope.names.lookup x = some .local := by first | exact .inl rfl | exact .inr rfl | assumption) : DS X W (.Assign [.Name x pos'] e pos) (sSet i f) :=
  PS.imp (ps_set hN hi hx he hs hf) fun D σ H h => (then_imp (R := Rep X.K) h).imp fun x H1 ⟨w, ρ, a, e1, ok, re, r, q⟩ => by
    subst e1
    exact q w (Grow.refl w) ok rfl _ (re.set i r)
theorem asg_imp {g : D → Env → Option Env} {sl : List Nat} {f : Env → M D} {D : Ends} {σ : L2.St} {H : Hp} (h : tS (cx X W) (sAsg g f) D σ H) : tX (cx X W) (Rep X.K) T0 f σ H fun x H1 => tGD X.K sl g x σ H1 D.nx :=
  (then_imp (R := Rep X.K) h).imp fun x H1 ⟨w, ρ, a, e1, ok, re, r, q⟩ => by
    subst e1
    cases eg : g a ρ with
    | none => rw [eg] at q; exact q.elim
    | some ρ' =>
      rw [eg] at q
      exact ⟨w, ρ, a, ρ', rfl, ok, re, r, eg, fun σ' re' _ => q w (Grow.refl w) ok rfl σ' re'⟩
theorem ds_asg {tg e : Expr} {sl : List Nat} {g : D → Env → Option Env} {f : Env → M D} {pos : Pos} (he : DE X W e f) (hg : DG X tg sl g) (hs : swapsWithSole [tg] e pos.line X.env = pure false := by rfl) (hw : swappedStores [tg] e X.env = pure none := by rfl)
    (h1 : (assignEach [tg] X.env).map (·.2) = [assign tg X.env] := by rfl) : DS X W (.Assign [tg] e pos) (sAsg g f) :=
  PS.imp (ps_asg he hg hs hw h1) fun D σ H h => asg_imp h
/-- y = [..] on one line -/
theorem ds_setLc (i : Nat) (m : Bool) {y : Str} {py : Pos} {elt tg iter : Expr} {ifs : List Expr} {scope : Scope} {own : List (Str × Nat)} {sl : List Nat} {pos spos : Pos} {g : D → Env → Option Env} {c : Env → M Bool} {f : Env → M D} {it : Env → M (List D)} (hc : X.calm = true) (hN : X.N.Nodup)
    (hy : X.N[i]? = some y) (hyl : X.env.scope.names.lookup y = some .local) (hsw : swapsWith (.ListComp elt [⟨tg, iter, ifs, 0⟩] scope pos) (some (.Name y py)) spos.line X.env = pure true) (hi : DI X W tg iter it) (ok : BlkOk X.N X.env.scope scope own)
    (hg : ∀ (s : Shared) (H : Hp) (Ca : Addr) (cl : List (Str × Addr)) (fp : List Addr), DG (X.blk s H scope (compEnvC scope cl Ca X.env) fp) tg sl g) (ht : ∀ (s : Shared) (H : Hp) (Ca : Addr) (cl : List (Str × Addr)) (fp : List Addr), DQ (X.blk s H scope (compEnvC scope cl Ca X.env) fp) ifs c)
    (he : ∀ (s : Shared) (H : Hp) (Ca : Addr) (cl : List (Str × Addr)) (fp : List Addr), DE (X.blk s H scope (compEnvC scope cl Ca X.env) fp) W0 elt f) (hsl : ∀ i, i ∈ sl → i ∈ own.map (·.2) := by decide) (hs : ∀ x, foldedSetIterable iter X.env x = pure x := by intro _; rfl) :
    DS X W (.Assign [.Name y py] (.ListComp elt [⟨tg, iter, ifs, 0⟩] scope pos) spos) (sSet i (sComp m (own.map (·.2)) g c f it)) :=
  PS.imp (ps_setLc hc hN hy hyl hsw hi ok hg ht he hs) fun D σ H h => comp_imp hsl ((then_imp (R := Rep X.K) h).imp fun x H1 ⟨w, ρ, a, e1, ok, re, r, q⟩ => by
    subst e1
    exact q w (Grow.refl w) ok rfl _ (re.set i r))
theorem ds_expr {e : Expr} {f : Env → M D} {pos : Pos} (he : DE X W e f) (hs : swapsWith e none pos.line X.env = pure false := by rfl) : DS X W (.Expr e pos) (sExpr f) :=
  PS.imp (ps_expr he hs) fun D σ H h => (then_imp (R := Rep X.K) h).imp fun x H1 ⟨w, ρ, a, e1, ok, re, r, q⟩ => by
    subst e1
    exact q w (Grow.refl w) ok rfl _ re
theorem ds_ret {e : Expr} {f : Env → M D} {pos : Pos} (he : DE X W e f) : DS X W (.Return (some e) pos) (sRet f) :=
  PS.imp (ps_ret he) fun D σ H h => (then_imp (R := Rep X.K) h).imp fun x H1 ⟨w, ρ, a, e1, ok, re, r, q⟩ => by
    subst e1
    exact q w (Grow.refl w) ok rfl _ r
theorem ds_retN {pos : Pos} : DS X W (.Return none pos) sRetN := PS.imp ps_retN fun D σ H h => by
  obtain ⟨w, ρ, rfl, ok, re, q⟩ := h
  exact q w (Grow.refl w) ok rfl V.non rfl
theorem ds_pass {pos : Pos} : DS X W (.Pass pos) sSkip := PS.imp ps_pass fun D σ H h => by
  obtain ⟨w, ρ, rfl, ok, re, q⟩ := h
  exact q w (Grow.refl w) ok rfl σ re
theorem ds_brk {pos : Pos} : DS X W (.Break pos) sBrk := PS.imp ps_break fun D σ H h => by
  obtain ⟨w, ρ, rfl, ok, re, q⟩ := h
  exact q w (Grow.refl w) ok rfl σ re
theorem ds_cnt {pos : Pos} : DS X W (.Continue pos) sCnt := PS.imp ps_continue fun D σ H h => by
  obtain ⟨w, ρ, rfl, ok, re, q⟩ := h
  exact q w (Grow.refl w) ok rfl σ re
theorem ds_if {c : Expr} {a b : List Stmt} {fc : Env → M Bool} {f g : SM} {pos : Pos} (hc : DT X W c fc) (ha : DSs X W a f) (hb : DSs X W b g) : DS X W (.If c a b pos) (sIfS fc f g) :=
  PS.imp (ps_if hc ha hb) fun D σ H h => (then_imp (R := fun _ (a b : Bool) => a = b) h).imp fun x H1 ⟨w, ρ, k, e1, ok, re, r, q⟩ => by
    subst e1 r
    cases k with
    | true => rw [if_pos rfl]; exact ⟨w, ρ, rfl, ok, re, q⟩
    | false => rw [if_neg Bool.false_ne_true]; exact ⟨w, ρ, rfl, ok, re, q⟩
theorem ds_par (i j : Nat) {x y : Str} {a b : Expr} {f : Env → M (List D)} {px py pt pos : Pos} {kt k2 pt2} (hc : X.calm = true) (hN : X.N.Nodup) (hi : X.N[i]? = some x) (hj : X.N[j]? = some y) (hij : i ≠ j)
    (hx : X.env.scope.names.lookup x = some .local) (hy : X.env.scope.names.lookup y = some .local) (ha : DA X W [a, b] f)
    (hw : swappedStores [.Tuple [.Name x px, .Name y py] kt pt] (.Tuple [a, b] k2 pt2) X.env = pure (some [x, y]))
    (hs : swapsWithSole [.Tuple [.Name x px, .Name y py] kt pt] (.Tuple [a, b] k2 pt2) pos.line X.env = pure false := by rfl) :
    DS X W (.Assign [.Tuple [.Name x px, .Name y py] kt pt] (.Tuple [a, b] k2 pt2) pos) (sPar i j f) :=
  PS.imp (ps_par hc hN hi hj hij hx hy ha hw hs) fun D σ H h => (then_imp (R := Reps X.K) h).imp fun z H1 ⟨w, ρ, ds, e1, ok, re, r, q⟩ => by
    subst e1
    cases ds with
    | nil => exact q.elim
    | cons d1 ds => cases ds with
      | nil => exact q.elim
      | cons d2 ds => cases ds with
        | cons _ _ => exact q.elim
        | nil =>
          obtain ⟨u, v, rfl, r1, r2⟩ := reps2 r
          exact ⟨u, v, rfl, q w (Grow.refl w) ok rfl _ ((re.set i r1).set j r2)⟩
theorem for_imp {g : D → Env → Option Env} {sl : List Nat} {it : Env → M (List D)} {body : SM} {D : Ends} {σ : L2.St} {H : Hp} (h : tS (cx X W) (sFor g it body) D σ H) :
    tFor (tIx (cx X W) it) (tGD X.K sl g) (tS (cx X W) body) D σ H := by
  obtain ⟨w, ρ, rfl, ok, re, q⟩ := h
  refine ⟨w, ρ, rfl, ok, re, ?_⟩
  unfold sFor sThen at q
  cases e : it ρ w.st with
  | bad => rw [e] at q; exact q
  | exc x st => rw [e] at q; exact fun w' g' ok' es => q w' g' ok' es σ (re.grow g')
  | ok items st =>
    rw [e] at q
    intro w0 g0 ok0 es J jok
    refine ⟨fun i m σ H => ∃ w ρ, w.H = H ∧ WOk X.K w ∧ RepE X.K w σ ρ ∧ Ext w0 w ∧ i ≤ items.length ∧ m = items.length - i ∧ SPost (cx X W) w (forGo g body (items.drop i) ρ w.st) D,
      ⟨items.length, w0, ρ, rfl, ok0, re.grow g0, Ext.refl w0, Nat.zero_le _, by omega, by rw [List.drop_zero, es]; exact SPost.grow g0 q⟩, ?_⟩
    rintro i m σ2 H2 ⟨w2, ρ2, rfl, ok2, re2, ex2, hi, rfl, q2⟩
    obtain ⟨jit, jst⟩ := jok w2 ex2 ok2
    by_cases hlt : i < items.length
    · obtain ⟨jgo, jy⟩ := jit i items[i] (List.getElem?_eq_getElem hlt)
      refine .inr ⟨jgo, fun σ' H' => ∃ w ρ, w.H = H' ∧ WOk X.K w ∧ RepE X.K w σ' ρ ∧ Ext w0 w ∧ SPost (cx X W) w (forGo g body (items.drop (i + 1)) ρ w.st) D,
        fun σ' H' ⟨w5, ρ5, e5, ok5, re5, ex5, q5⟩ => ⟨items.length - (i + 1), by omega, w5, ρ5, e5, ok5, re5, ex5, hlt, rfl, q5⟩, fun x H' hy => ?_⟩
      obtain ⟨w3, rfl, g3, ok3, st3, rx⟩ := jy x H' hy
      rw [List.drop_eq_getElem_cons hlt] at q2
      unfold forGo at q2
      cases eg : g items[i] ρ2 with
      | none => rw [eg] at q2; exact q2.elim
      | some ρ3 =>
        rw [eg] at q2
        refine ⟨w3, ρ2, items[i], ρ3, rfl, ok3, re2.grow g3, rx, eg, fun σ3 re3 _ => ⟨w3, ρ3, rfl, ok3, re3, ?_⟩⟩
        rw [st3]
        have q2 := SPost.grow g3 q2
        have go : ∀ {ρ4 : Env} {st4 : Store}, SPost (cx X W) w3 (forGo g body (items.drop (i + 1)) ρ4 st4) D → ∀ w', Grow w3 w' → WOk X.K w' → w'.st = st4 → ∀ σ', RepE X.K w' σ' ρ4 →
            ∃ w ρ, w.H = w'.H ∧ WOk X.K w ∧ RepE X.K w σ' ρ ∧ Ext w0 w ∧ SPost (cx X W) w (forGo g body (items.drop (i + 1)) ρ w.st) D := fun {ρ4 st4} q4 w' g' ok' es' σ' re' =>
          ⟨w', ρ4, rfl, ok', re', (ex2.trans g3.ext).trans g'.ext, by rw [es']; exact q4.grow g'⟩
        cases eb : body ρ3 w2.st with
        | bad => simp only [eb] at q2; exact q2.elim
        | nx ρ4 st4 => simp only [eb] at q2; exact go q2
        | ct ρ4 st4 => simp only [eb] at q2; exact go q2
        | bk ρ4 st4 => simp only [eb] at q2; exact q2
        | rt d st4 => simp only [eb] at q2; exact q2
        | ex x ρ4 st4 => simp only [eb] at q2; exact q2
    · have e : i = items.length := by omega
      subst e
      rw [List.drop_length] at q2
      exact .inl ⟨jst, q2 w2 (Grow.refl w2) ok2 rfl σ2 re2⟩
theorem ds_for {tg iter : Expr} {bd : List Stmt} {sl : List Nat} {g : D → Env → Option Env} {it : Env → M (List D)} {body : SM} {pos : Pos} (hp : PassesOwn (model X.prog X.w) X.A X.env X.xe) (hc : X.calm = true) (hi : DI X W tg iter it) (hg : DG X tg sl g) (hb : DSs X W bd body)
    (hs : ∀ x, foldedSetIterable iter X.env x = pure x := by intro _; rfl) : DS X W (.For tg iter bd [] pos) (sFor g it body) :=
  PS.imp (ps_for hp hc hi hg hb hs) fun D σ H h => for_imp h
theorem ds_while (n : Nat) {c : Expr} {bd : List Stmt} {fc : Env → M Bool} {body : SM} {pos : Pos} (hp : PassesOwn (model X.prog X.w) X.A X.env X.xe) (hc : DT X W c fc) (hb : DSs X W bd body) : DS X W (.While c bd [] pos) (sWhile n fc body) := by
  refine PS.imp (ps_while hp hc hb) fun D σ H h => ?_
  refine ⟨fun m σ H => tS (cx X W) (whileGo fc body m) D σ H, ⟨n, h⟩, fun m σ1 H1 q => ?_⟩
  cases m with
  | zero =>
    obtain ⟨w, ρ, rfl, ok, re, q⟩ := q
    exact q.elim
  | succ m =>
    obtain ⟨w, ρ, rfl, ok, re, q⟩ := q
    refine ⟨w, ρ, rfl, ok, re, trivial, ?_⟩
    unfold whileGo at q
    cases e : fc ρ w.st with
    | bad => simp only [e] at q; exact q
    | exc x st => simp only [e] at q; exact fun w' g' ok' es => q w' g' ok' es σ1 (re.grow g')
    | ok k st =>
      intro w' g' ok' es b eb
      subst eb
      cases k with
      | false =>
        simp only [e] at q
        rw [if_neg Bool.false_ne_true]
        exact q w' g' ok' es σ1 (re.grow g')
      | true =>
        simp only [e] at q
        rw [if_pos rfl]
        refine ⟨fun σ' H' => tS (cx X W) (whileGo fc body m) D σ' H', fun σ' H' h => ⟨m, Nat.lt_succ_self m, h⟩, w', ρ, rfl, ok', re.grow g', ?_⟩
        rw [es]
        have q := SPost.grow g' q
        have go : ∀ {ρ4 : Env} {st4 : Store}, SPost (cx X W) w' (whileGo fc body m ρ4 st4) D → ∀ w2, Grow w' w2 → WOk X.K w2 → w2.st = st4 → ∀ σ', RepE X.K w2 σ' ρ4 → tS (cx X W) (whileGo fc body m) D σ' w2.H := fun {ρ4 st4} q4 w2 g2 ok2 es2 σ' re' =>
          ⟨w2, ρ4, rfl, ok2, re', by rw [es2]; exact q4.grow g2⟩
        cases eb : body ρ st with
        | bad => simp only [eb] at q; exact q.elim
        | nx ρ4 st4 => simp only [eb] at q; exact go q
        | ct ρ4 st4 => simp only [eb] at q; exact go q
        | bk ρ4 st4 => simp only [eb] at q; exact q
        | rt d st4 => simp only [eb] at q; exact q
        | ex x ρ4 st4 => simp only [eb] at q; exact q
theorem ds_setIx {o i e : Expr} {fv fo fi : Env → M D} {pos' pos : Pos} (he : DE X W e fv) (ho : DE X W o fo) (hi : DE X W i fi)
    (ha : ∀ v, assign (.Subscript o i pos') X.env v = (do
      let ov ← holding [v] (eval o X.env)
      let iv ← holding [v, ov] (eval i X.env)
      standAt pos'
      holding [v, ov, iv] (setItem ov iv v)
      release [v, ov, iv] []) := by intro _; rfl)
    (hs : swapsWithSole [.Subscript o i pos'] e pos.line X.env = pure false := by rfl) (hw : swappedStores [.Subscript o i pos'] e X.env = pure none := by rfl)
    (h1 : (assignEach [.Subscript o i pos'] X.env).map (·.2) = [assign (.Subscript o i pos') X.env] := by rfl) : DS X W (.Assign [.Subscript o i pos'] e pos) (sSetIx fv fo fi) := by
  refine PS.imp (ps_asg he (pg_sub ho hi set_list ha) hs hw h1) fun D σ H h => ?_
  have h2 := then_imp (R := fun _ (_ : Unit) (_ : Unit) => True) h
  refine (tX.seq0 (R1 := Rep X.K) h2).imp fun x H1 ⟨dv, h3⟩ => ?_
  refine ((tX.seq (R1 := Rep X.K) (mono_and mono0 monoRep) h3).weak).imp fun y H2 ⟨dob, h4⟩ => ?_
  refine ((tX.seq (R1 := Rep X.K) (mono_and (mono_and mono0 monoRep) monoRep) h4).weak).imp fun z H3 ⟨di, h5⟩ => ?_
  obtain ⟨w, ρ, rfl, ok, re, ⟨⟨⟨_, r1⟩, r2⟩, r3⟩, q⟩ := h5
  cases es : setD dob di dv w.st with
  | none => simp only [es] at q; exact q.elim
  | some st' =>
    simp only [es] at q
    obtain ⟨n, k, xs, j, rfl, rfl, hn, ej, rfl⟩ := setD_cases es
    obtain ⟨vs, rfl, h2, h3⟩ := lref ok hn r2
    refine ⟨_, vs, k, j, rfl, r3, h2, by rw [← h3.length]; exact ej, ?_⟩
    have g := Grow.wr (o := .lst (vs.set j x)) (ob' := .lst (xs.set j dv)) ok hn
    have ok2 := ok.wr hn (obr_wrL ok hn (h3.set j r1))
    obtain ⟨w5, ρ5, _, e5, ok5, re5, _, q5⟩ := q _ g ok2 rfl () trivial
    have e5 : w5.H = upd w.H (w.bet n) (.lst (vs.set j x)) := e5
    have := q5 w5 (Grow.refl w5) ok5 rfl σ re5
    rw [e5] at this
    exact this
theorem ip_str : PIp X .Add (fun x y H Q => ∃ i j, x = .str i ∧ y = .str j ∧ i.length + j.length ≤ sizeLine ∧ Q (.str (i ++ j)) H) := fun pins s σ H x y v u Q I r1 r2 h => iop_add_str pins s σ H x y v u Q I r1 r2 h
def rAg (K : PySem.W.Frag) (f : D → D → Store → Option D) : TIp := fun x y H Q => ∃ w dx dy d, w.H = H ∧ WOk K w ∧ Rep K w dx x ∧ Rep K w dy y ∧ f dx dy w.st = some d ∧ At K w d Q
theorem ip_any (op : BOp) : PIp X op.ast (rAg X.K (augOp op)) := by
  intro pins s σ H x y v u Q I r1 r2 h
  obtain ⟨w, dx, dy, d, rfl, ok, hx, hy, hf, q⟩ := h
  unfold augOp at hf
  split at hf
  · cases hf
    exact ip_add pins s σ _ x y v u Q I r1 r2 ⟨_, _, hx, hy, q.now ok rfl⟩
  · split at hf
    · rename_i hz
      cases hf
      refine iop_add_str pins s σ _ x y v u Q I r1 r2 ⟨_, _, hx, hy, hz, ?_⟩
      rw [toS_app]
      exact q.now ok rfl
    · cases hf
  · cases hf
    exact ip_sub pins s σ _ x y v u Q I r1 r2 ⟨_, _, hx, hy, q.now ok rfl⟩
  · split at hf
    · rename_i hz
      cases hf
      exact iop_mul pins s σ _ x y v u Q I r1 r2 ⟨_, _, hx, hy, .inl (by omega), q.now ok rfl⟩
    · cases hf
  · split at hf
    · rename_i hz
      cases hf
      exact iop_fdiv pins s σ _ x y v u Q I r1 r2 ⟨_, _, hx, hy, hz, q.now ok rfl⟩
    · cases hf
  · cases hf
theorem ds_aug (i : Nat) (op : BOp) {x : Str} {e : Expr} {f : Env → M D} {o : Operator} {pos' pos : Pos} (hN : X.N.Nodup) (hi : X.N[i]? = some x) (hx : Loc X.env.scope x) (he : DE X W e f) (ho : op.ast = o := by rfl)
    (hf : X.fn x = true ∨ X.env.scope.names.lookup x = some .local := by first | exact .inl rfl | exact .inr rfl | assumption) : DS X W (.AugAssign (.Name x pos') o e pos) (sAug i op f) := by
  subst ho
  refine PS.imp (ps_aug hN hi hx he (ip_any op) hf) fun D σ H h => ?_
  have h2 := then_imp (R := Rep X.K) h
  obtain ⟨w, ρ, rfl, ok, re, _, q⟩ := h2
  have q : Post (cx X W) (Rep X.K) w ((sVar i ρ w.st).bnd fun x => bnd (f ρ) fun y => fun st => ofO (augOp op x y st) st) _ _ := q
  unfold sVar at q
  cases e1 : ρ[i]? with
  | none => rw [e1] at q; exact q.elim
  | some o1 =>
    rw [e1] at q
    cases o1 with
    | none => exact q.elim
    | some d =>
      obtain ⟨v, h1, r1⟩ := re.at_ i d e1
      refine ⟨v, h1, ?_⟩
      have h3 : tX (cx X W) (Rep X.K) (fun w => Rep X.K w d v) (fun ρ => bnd (f ρ) fun y => fun st => ofO (augOp op d y st) st) σ w.H (fun x H1 => ∃ w ρ a, w.H = H1 ∧ WOk X.K w ∧ RepE X.K w σ ρ ∧ Rep X.K w a x ∧ SPost (cx X W) w (.nx (ρ.set i (some a)) w.st) D) := ⟨w, ρ, rfl, ok, re, r1, q⟩
      refine ((tX.seq (R1 := Rep X.K) (fun w w' g q => Rep.grow g _ _ q) h3).weak).imp fun y H2 ⟨dy, h4⟩ => ?_
      obtain ⟨w2, ρ2, rfl, ok2, re2, ⟨r2, r3⟩, q2⟩ := h4
      obtain ⟨dd, e2, q2⟩ := at_of (K := X.K) rfl q2
      refine ⟨w2, d, dy, dd, rfl, ok2, r2, r3, e2, fun w3 g3 ok3 es3 z rz => ?_⟩
      obtain ⟨w4, ρ4, a4, e4, ok4, re4, r4, q4⟩ := q2 w3 g3 ok3 es3 z rz
      rw [← e4]
      exact q4 w4 (Grow.refl w4) ok4 rfl _ (re4.set i r4)
end
end PL
/-! PL10: defs as functions on data, calls by keywords, the law's end. -/
namespace PL
open PySem PySem.Spec PyProof.Rows L2

/-! ### a def -/
def endOf : SRes → Res D
  | .nx _ st => .ok .non st
  | .rt d st => .ok d st
  | .ex e _ st => .exc e st
  | _ => .bad
/-- n: how many local names -/
def runDef (n : Nat) (body : SM) (ds : List D) : M D := fun st => endOf (body (ds.map some ++ List.replicate (n - ds.length) none) st)
section
variable {P : Program} {wo : World} {K : PySem.W.Frag} {mg : Str → Option Value} {base : Heap} {k : Nat} {f : Addr} {fd : FuncData} {ps : List Str}
theorem repE_start {w : Wd} {N : List Str} {ds : List D} {vs : List V} (r : Reps K w ds vs) : RepE K w (L2.start N vs) (ds.map some ++ List.replicate (N.length - ds.length) none) := by
  have hl := r.length
  unfold L2.start
  refine ⟨by rw [List.length_append, List.length_append, List.length_map, List.length_map, List.length_replicate, List.length_replicate, hl], fun i d e => ?_⟩
  by_cases hi : i < ds.length
  · rw [List.getElem?_append_left (by rw [List.length_map]; exact hi), List.getElem?_map] at e
    cases ed : ds[i]? with
    | none => rw [ed] at e; cases e
    | some d' =>
      rw [ed] at e
      cases e
      obtain ⟨v, hv, rv⟩ := r.get ed
      refine ⟨v, ?_, rv⟩
      rw [List.getElem?_append_left (by rw [List.length_map, ← hl]; exact hi), List.getElem?_map, hv]
      rfl
  · rw [List.getElem?_append_right (by rw [List.length_map]; omega), List.getElem?_replicate] at e
    split at e <;> cases e
/-- THE RULE for a def as a function on data -/
theorem fg_def {x qual : Str} {st : Stmt} {N : List Str} {body : SM} (n : Nat) (m : Nat) (F : Fun K x qual st f fd) (S : FnScope N ps (defScope st))
    (hb : ∀ (cdv : Value) (A : Around) (out : List PySem.Env) (s : Shared) (H : Hp) (E : XK), Room k (A.deeper (envOfC qual (defScope st) s.heap.objs.size f cdv)) → A.guards = some [] →
      DSs (cxOf (L2N.CX P wo) P wo K mg base N qual (defScope st) f cdv A out s H E) (fun c d _ H => E c d H) (defBody st) body) (hn : ps.length = n := by rfl) (hm : N.length = m := by rfl) :
    FG P wo K mg base (k + 1) f fd ps (spF K mg n (arity n (runDef m body))) := by
  refine fg_body F S (fun vs H Q E h => by rw [h.1, hn]) fun cdv A out s H vs Q E hr hg hsp => ?_
  refine ⟨_, hb cdv A out s H E hr hg, ?_⟩
  obtain ⟨hl, w, ds, rfl, ok, r, q⟩ := hsp
  refine ⟨w, ds.map some ++ List.replicate (N.length - ds.length) none, rfl, ok, repE_start r, ?_⟩
  have hd : ds.length = n := r.length.trans hl
  rw [arity_ok hd] at q
  unfold runDef at q
  rw [← hm] at q
  cases e : body (ds.map some ++ List.replicate (N.length - ds.length) none) w.st with
  | bad => rw [e] at q; exact q.elim
  | nx ρ st => rw [e] at q; exact fun w' g ok' es σ' _ => q w' g ok' es V.non rfl
  | rt d st => rw [e] at q; exact q
  | bk ρ st => rw [e] at q; exact q.elim
  | ct ρ st => rw [e] at q; exact q.elim
  | ex x ρ st => rw [e] at q; exact fun w' g ok' es σ' _ => q w' g ok' es
end
/-! ### what the text's own defs are, in a body -/
/-- a def of the text: known, its arguments bind by place -/
structure Own (P : Program) (wo : World) (K : PySem.W.Frag) (mg : Str → Option Value) (base : Heap) (x : Str) (k : Nat) (fd : FuncData) (f : Addr) (ps : List Str) (n : Nat) (F : List D → M D) : Prop where
  mgf : mg x = some (.ref f)
  kp : PySem.W.keepIn K (.ref f) = true
  ok : FG P wo K mg base k f fd ps (spF K mg n (arity n F))
  bi : Binds K fd ps []
section
variable {X : Cx} {W : WX} {x : Str} {k j : Nat} {f : Addr} {fd : FuncData} {ps : List Str} {n : Nat} {F : List D → M D}
theorem de_own {g : Env → M (List D)} {e : Expr} {es : List Expr} {p pos : Pos} (O : Own X.prog X.w X.K X.mg X.base x k fd f ps n F) (hr : Room j X.A) (hj : k ≤ j) (hg : X.A.guards = some []) (tk : L2N.Takes X W) (ha : DA X W (e :: es) g) (hgl : Gl X x := by rfl)
    (hdb : (x == ("__debug__" : Str)) = false := by decide) (he : starEach (e :: es) X.env = (false, eval e X.env) :: starEach es X.env := by rfl) (hpl : (backTo pos (starEach es X.env)).any (·.1) = false := by rfl) :
    DE X W (.Call (.Name x p) (e :: es) [] pos) (sCall (arity n F) g) :=
  de_call ⟨O.mgf, O.kp, O.ok⟩ (hr.mono hj) hg tk O.bi ha hgl hdb he hpl
theorem de_own0 {p pos : Pos} (O : Own X.prog X.w X.K X.mg X.base x k fd f [] 0 F) (hr : Room j X.A) (hj : k ≤ j) (hg : X.A.guards = some []) (tk : L2N.Takes X W) (hgl : Gl X x := by rfl) (hdb : (x == ("__debug__" : Str)) = false := by decide) :
    DE X W (.Call (.Name x p) [] [] pos) (sCall (arity 0 F) sNil) :=
  (pe_callF0 ⟨O.mgf, O.kp, O.ok⟩ (hr.mono hj) hg tk hgl O.bi hdb).imp fun σ H Q h => by
    have h2 := call_imp (W := W) arity_bad h
    obtain ⟨w, ρ, rfl, ok, re, _, q⟩ := h2
    exact q w (Grow.refl w) ok rfl [] reps_nil

/-! ### calls with keywords -/
def permL {α : Type} (idx : List Nat) (l : List α) : List α := idx.filterMap fun i => l[i]?
theorem permL_vals {idx : List Nat} {vs : List V} {us : List Value} (r : Vals vs us) : Vals (permL idx vs) (permL idx us) := by
  unfold permL
  induction idx with
  | nil => exact .nil
  | cons i idx ih =>
    cases e : vs[i]? with
    | none => rw [List.filterMap_cons_none e, List.filterMap_cons_none (r.none_of e)]; exact ih
    | some v =>
      obtain ⟨u, h1, h2⟩ := r.get e
      rw [List.filterMap_cons_some e, List.filterMap_cons_some h1]
      exact .cons h2 ih
theorem permL_reps {K : PySem.W.Frag} {w : Wd} {idx : List Nat} {ds : List D} {vs : List V} (r : Reps K w ds vs) : Reps K w (permL idx ds) (permL idx vs) := by
  unfold permL
  induction idx with
  | nil => exact reps_nil
  | cons i idx ih =>
    cases e : ds[i]? with
    | none =>
      have e2 : vs[i]? = none := by
        rw [List.getElem?_eq_none_iff] at e ⊢
        rw [← r.length]; exact e
      rw [List.filterMap_cons_none e, List.filterMap_cons_none e2]; exact ih
    | some d =>
      obtain ⟨v, h1, h2⟩ := r.get e
      rw [List.filterMap_cons_some e, List.filterMap_cons_some h1]
      exact reps_cons h2 ih
/-- how a call with a positional values and the keywords ks binds -/
def KB (fd : FuncData) (ps ks : List Str) (a : Nat) (idx : List Nat) : Prop := ∀ (s : Shared) (us ws : List Value), us.length = a → ws.length = ks.length → BindsTo s fd ⟨us, ks.zip ws⟩ (ps.zip (permL idx (us ++ ws)))
abbrev DK (X : Cx) (W : WX) (kws : List Keyword) (f : Env → M (List D)) : Prop := PK X kws (tX (cx X W) (Reps X.K) T0 f)
theorem pk_imp {kws : List Keyword} {t t' : TA} (h : PK X kws t) (k : ∀ σ H Q, t' σ H Q → t σ H Q) : PK X kws t' := ⟨fun pos pins s σ H Q I q => h.run pos pins s σ H Q I (k σ H Q q)⟩
theorem dk_nil : DK X W [] sNil := pk_imp pk_nil fun σ H Q h => by
  obtain ⟨w, ρ, rfl, ok, re, _, q⟩ := h
  exact q w (Grow.refl w) ok rfl [] reps_nil
theorem dk_cons {e : Expr} {kws : List Keyword} {nm : Option Str} {kpos : Pos} {f : Env → M D} {g : Env → M (List D)} (ha : DE X W e f) (hr : DK X W kws g) : DK X W (⟨nm, e, kpos⟩ :: kws) (sCons f g) := by
  refine pk_imp (pk_cons ha hr) fun σ H Q h => ?_
  refine (tX.seq0 (R1 := Rep X.K) h).imp fun x H1 ⟨da, h1⟩ => ?_
  refine ((tX.seq (R1 := Reps X.K) (mono_and mono0 monoRep) h1).weak).imp fun y H2 ⟨db, h2⟩ => ?_
  obtain ⟨w, ρ, rfl, ok, re, ⟨⟨_, r1⟩, r2⟩, q⟩ := h2
  exact q w (Grow.refl w) ok rfl (x :: y) (reps_cons r1 r2)
def sCallK (a b : Nat) (idx : List Nat) (F : List D → M D) (g h : Env → M (List D)) : Env → M D := fun ρ => bnd (g ρ) fun ds => bnd (h ρ) fun es => if ds.length = a ∧ es.length = b then F (permL idx (ds ++ es)) else badM
theorem callK_end {a b : Nat} {idx : List Nat} {σ : L2.St} {H2 : Hp} {Q : VK} {w : Wd} {ds es : List D} {vs zs : List V} (e : w.H = H2) (ok : WOk X.K w) (r1 : Reps X.K w ds vs) (r2 : Reps X.K w es zs)
    (q : Post (cx X W) (Rep X.K) w ((if ds.length = a ∧ es.length = b then arity n F (permL idx (ds ++ es)) else badM) w.st) Q ((cx X W).we σ)) :
    vs.length = a ∧ zs.length = b ∧ spF X.K X.mg n (arity n F) (permL idx (vs ++ zs)) H2 Q (WE W σ) := by
  by_cases hl : ds.length = a ∧ es.length = b
  · rw [if_pos hl] at q
    refine ⟨r1.length.symm.trans hl.1, r2.length.symm.trans hl.2, ?_, w, _, e, ok, permL_reps (r1.app r2), post_ctx (C := cx X W) rfl q⟩
    by_cases hn : (permL idx (ds ++ es)).length = n
    · rw [← (permL_reps (idx := idx) (r1.app r2)).length]; exact hn
    · rw [arity_bad _ _ hn] at q; exact q.elim
  · rw [if_neg hl] at q
    exact q.elim
/-- f(e, .., k = v, ..) -/
theorem de_ownK {g h : Env → M (List D)} {e : Expr} {es : List Expr} {kws : List Keyword} {ks : List Str} {p pos : Pos} (a b : Nat) (idx : List Nat) (O : Own X.prog X.w X.K X.mg X.base x k fd f ps n F) (hkb : KB fd ps ks a idx) (hr : Room j X.A) (hj : k ≤ j) (hg : X.A.guards = some []) (tk : L2N.Takes X W)
    (ha : DA X W (e :: es) g) (hk : DK X W kws h) (hb : ks.length = b := by rfl) (hgl : Gl X x := by rfl)
    (hall : (backToKw pos (keywordEach kws X.env)).all (·.1.isSome) = true := by rfl) (hks : (backToKw pos (keywordEach kws X.env)).filterMap (·.1) = ks := by rfl)
    (hdb : (x == ("__debug__" : Str)) = false := by decide) (he : starEach (e :: es) X.env = (false, eval e X.env) :: starEach es X.env := by rfl)
    (hpl : ((backTo pos (starEach (e :: es) X.env)).any (·.1) || (backToKw pos (keywordEach kws X.env)).any (·.1.isNone)) = false := by rfl) :
    DE X W (.Call (.Name x p) (e :: es) kws pos) (sCallK a b idx (arity n F) g h) := by
  refine ⟨fun pins s σ H Q I hq => wpAny_Call_Name_kw (ld_glob I hgl O.mgf ?_ hdb)⟩
  have h1 : tX (cx X W) (Reps X.K) T0 g σ H fun vs H1 => tX (cx X W) (Reps X.K) T0 h σ H1 fun zs H2 => vs.length = a ∧ zs.length = b ∧ spF X.K X.mg n (arity n F) (permL idx (vs ++ zs)) H2 Q (WE W σ) := by
    refine (tX.seq0 (R1 := Reps X.K) hq).imp fun x H1 ⟨ds, h1⟩ => ?_
    refine ((tX.seq (R1 := Reps X.K) (mono_and mono0 monoReps) h1).weak).imp fun y H2 ⟨es, h2⟩ => ?_
    obtain ⟨w, ρ, e1, ok, re, ⟨⟨_, r1⟩, r2⟩, q⟩ := h2
    exact callK_end e1 ok r1 r2 q
  refine PySem.W.callWith_KW (h₀ := X.base) I.ok.mod.kin O.kp hall (thn (ha.run pos pins s σ H _ I h1) ?_) hpl he
  intro us s1 hq
  obtain ⟨vs, H1, I1, r, q⟩ := hq
  refine thn (hk.run pos pins s1 σ H1 _ I1 q) ?_
  intro ws s2 hq2
  obtain ⟨zs, H2, I2, rz, q1, q2, q3⟩ := hq2
  rw [hks]
  exact ⟨I2.kIn, run_fg (args := ⟨us, ks.zip ws⟩) O.ok (hr.mono hj) hg tk (fun _ => hkb s2 us ws (r.length.symm.trans q1) ((rz.length.symm.trans q2).trans hb.symm)) I2 (permL_vals (r.append rz)) q3⟩
/-- f(k = v, ..) -/
theorem de_ownK0 {h : Env → M (List D)} {kws : List Keyword} {ks : List Str} {p pos : Pos} (b : Nat) (idx : List Nat) (O : Own X.prog X.w X.K X.mg X.base x k fd f ps n F) (hkb : KB fd ps ks 0 idx) (hr : Room j X.A) (hj : k ≤ j) (hg : X.A.guards = some []) (tk : L2N.Takes X W)
    (hk : DK X W kws h) (hb : ks.length = b := by rfl) (hgl : Gl X x := by rfl)
    (hall : (backToKw pos (keywordEach kws X.env)).all (·.1.isSome) = true := by rfl) (hks : (backToKw pos (keywordEach kws X.env)).filterMap (·.1) = ks := by rfl)
    (hdb : (x == ("__debug__" : Str)) = false := by decide)
    (hpl : ((backTo pos (starEach [] X.env)).any (·.1) || (backToKw pos (keywordEach kws X.env)).any (·.1.isNone)) = false := by rfl) :
    DE X W (.Call (.Name x p) [] kws pos) (sCallK 0 b idx (arity n F) sNil h) := by
  refine ⟨fun pins s σ H Q I hq => wpAny_Call_Name_kw (ld_glob I hgl O.mgf ?_ hdb)⟩
  have h1 : tX (cx X W) (Reps X.K) T0 h σ H fun zs H2 => zs.length = b ∧ spF X.K X.mg n (arity n F) (permL idx zs) H2 Q (WE W σ) := by
    have hq' : tX (cx X W) (Rep X.K) T0 (fun ρ => bnd (h ρ) fun es => if ([] : List D).length = 0 ∧ es.length = b then arity n F (permL idx ([] ++ es)) else badM) σ H Q := hq
    refine (tX.seq0 (R1 := Reps X.K) hq').imp fun y H2 ⟨es, h2⟩ => ?_
    obtain ⟨w, ρ, e1, ok, re, ⟨_, r2⟩, q⟩ := h2
    have := callK_end (a := 0) (vs := []) e1 ok reps_nil r2 q
    exact this.2
  refine PySem.W.callWith_KW0 (h₀ := X.base) I.ok.mod.kin O.kp hall (thn (hk.run pos pins s σ H _ I h1) ?_) hpl
  intro ws s2 hq2
  obtain ⟨zs, H2, I2, rz, q2, q3⟩ := hq2
  rw [hks]
  exact ⟨I2.kIn, run_fg (args := ⟨[], ks.zip ws⟩) O.ok (hr.mono hj) hg tk (fun _ => hkb s2 [] ws rfl ((rz.length.symm.trans q2).trans hb.symm)) I2 (permL_vals rz) q3⟩

/-! ### ghosts: a list of the store is frozen; code that is never reached -/
def frz : D → M D := fun d st => match d with
  | .ref n => match st[n]? with
    | some (some (.lst xs)) => .ok (.lst xs) (st.set n none)
    | _ => .bad
  | d => .ok d st
def sFrz (f : Env → M D) : Env → M D := fun ρ => bnd (f ρ) frz
theorem frz_imp {C : Ctx} {w : Wd} {d : D} {v : V} {Q : VK} {E : Exc → Wd → Prop} (ok : WOk C.K w) (r : Rep C.K w d v) (q : Post C (Rep C.K) w (frz d w.st) Q E) : Q v w.H := by
  unfold frz at q
  cases d with
  | ref n =>
    cases e : w.st[n]? with
    | none => simp only [e] at q; exact q.elim
    | some o =>
      cases o with
      | none => simp only [e] at q; exact q.elim
      | some ob =>
        cases ob with
        | lst xs =>
          simp only [e] at q
          have h := q (w.kill n) (Grow.kill n) (ok.kill n) rfl v
          have h2 := rep_kill ok e
          rw [← (show v = V.ref (w.bet n) from r.2)] at h2
          exact h h2
        | dct _ => simp only [e] at q; exact q.elim
        | dcT _ => simp only [e] at q; exact q.elim
        | ins _ _ => simp only [e] at q; exact q.elim
  | _ => exact q w (Grow.refl w) ok rfl v r
theorem de_frz {e : Expr} {f : Env → M D} (h : DE X W e f) : DE X W e (sFrz f) := PE.imp h fun σ H Q q => by
  refine (tX.seq0 (R1 := Rep X.K) q).imp fun x H1 ⟨d, h1⟩ => ?_
  obtain ⟨w, ρ, rfl, ok, re, ⟨_, r⟩, q⟩ := h1
  exact frz_imp (C := cx X W) ok r q
/-- the list in a slot is frozen from here on -/
def sFrzS (i : Nat) : SM := fun ρ st => match ρ[i]? with
  | some (some (.ref n)) => match st[n]? with
    | some (some (.lst xs)) => .nx (ρ.set i (some (.lst xs))) (st.set n none)
    | _ => .bad
  | _ => .bad
theorem frzS_imp {i : Nat} {g : SM} {D' : Ends} {σ : L2.St} {H : Hp} (h : tS (cx X W) (sSeq (sFrzS i) g) D' σ H) : tS (cx X W) g D' σ H := by
  obtain ⟨w, ρ, rfl, ok, re, q⟩ := h
  unfold sSeq sFrzS at q
  cases e : ρ[i]? with
  | none => simp only [e] at q; exact q.elim
  | some o =>
    cases o with
    | none => simp only [e] at q; exact q.elim
    | some d =>
      cases d with
      | ref n =>
        cases e2 : w.st[n]? with
        | none => simp only [e, e2] at q; exact q.elim
        | some o2 =>
          cases o2 with
          | none => simp only [e, e2] at q; exact q.elim
          | some ob =>
            cases ob with
            | lst xs =>
              simp only [e, e2] at q
              refine ⟨w.kill n, ρ.set i (some (.lst xs)), rfl, ok.kill n, ?_, SPost.grow (Grow.kill n) q⟩
              have re2 := re.grow (Grow.kill n)
              refine ⟨by rw [List.length_set]; exact re2.len, fun j d hj => ?_⟩
              by_cases hij : i = j
              · subst hij
                by_cases hl : i < ρ.length
                · rw [List.getElem?_set_self hl] at hj
                  cases hj
                  obtain ⟨v, h1, h2⟩ := re.at_ i _ e
                  refine ⟨v, h1, ?_⟩
                  have h3 := rep_kill ok e2
                  rw [← (show v = V.ref (w.bet n) from h2.2)] at h3
                  exact h3
                · rw [List.getElem?_eq_none (by simpa using hl)] at hj; cases hj
              · rw [List.getElem?_set_ne hij] at hj
                exact re2.at_ j d hj
            | dct _ => simp only [e, e2] at q; exact q.elim
            | dcT _ => simp only [e, e2] at q; exact q.elim
            | ins _ _ => simp only [e, e2] at q; exact q.elim
      | non => simp only [e] at q; exact q.elim
      | bl b => simp only [e] at q; exact q.elim
      | int b => simp only [e] at q; exact q.elim
      | str b => simp only [e] at q; exact q.elim
      | tup b => simp only [e] at q; exact q.elim
      | lst b => simp only [e] at q; exact q.elim
      | scr b => simp only [e] at q; exact q.elim
      | vv b => simp only [e] at q; exact q.elim
      | emp => simp only [e] at q; exact q.elim
      | exn _ _ _ => simp only [e] at q; exact q.elim
theorem dss_frz (i : Nat) {s : List Stmt} {g : SM} (h : DSs X W s g) : DSs X W s (sSeq (sFrzS i) g) := PSs.imp h fun D σ H q => frzS_imp q
def sBad : SM := fun _ _ => .bad
theorem ds_never {s : Stmt} : DS X W s sBad := PS.imp ps_never fun D σ H h => by
  obtain ⟨w, ρ, _, _, _, q⟩ := h
  exact q
theorem dss_never {s : List Stmt} : DSs X W s sBad := PSs.imp pss_never fun D σ H h => by
  obtain ⟨w, ρ, _, _, _, q⟩ := h
  exact q
end

/-! ### the law's end -/
section
variable {P : Program} {wo : World} {K : PySem.W.Frag} {mg mb : Str → Option Value} {k : Nat} {fa a : Addr} {fd : FuncData} {x : Str} {F : List D → M D} {s₁ : Shared} {vs : List Value} {ns : List Int}
/-- the script alone is tracked, and that only if the module has it not -/
def scrH (K : PySem.W.Frag) (a : Addr) (o : Obj) (ns : List Int) : Hp := fun b => if b = a ∧ K.lookup a = none then some (.frz o (.lst (ns.map V.int))) else none
theorem law_fg (kin : K.In s₁.heap) (gl : s₁.heap.Ns mainGlobals mg) (bl : s₁.heap.Ns builtinsNs mb) (bb : ∀ x : Str, x ≠ "__name__" → mb x = bootBuiltins x) (nolim : s₁.heap.NoLimit) (gens : s₁.gens = #[])
    (scr : s₁.heap.get? a = some { cls := .type "list", data := .seq vs.toArray }) (hints : IntsAre vs ns) (sz : ns.length ≤ sizeLine) (room : Room k callerA)
    (ok : ∀ base : Heap, K.In base → base.Ns mainGlobals mg → FG P wo K mg base k fa fd [x] (spF K mg 1 (arity 1 F))) (bind : ∀ (s : Shared) (u : Value), BindsTo s fd ⟨[u], []⟩ [(x, u)])
    (yes : ∃ st, F [.scr ns] [] = .ok (.bl true) st) :
    codeAny (model P wo) callerA (.call (.ref fa) ⟨[.ref a], []⟩) (fun r s' => r = .ok (.ret (.bool true)) ∧ OldK s₁.heap s'.heap ∧ s'.os = s₁.os ∧ AllBare s'.gens) s₁ := by
  have rv := vals_ints hints
  have nl := hints.length
  obtain ⟨o, ho⟩ : ∃ o : Obj, o = { cls := .type "list", data := .seq vs.toArray } := ⟨_, rfl⟩
  rw [← ho] at scr
  obtain ⟨H, hH⟩ : ∃ H, H = scrH K a o ns := ⟨_, rfl⟩
  have at1 : ∀ b, H b ≠ none → b = a ∧ K.lookup a = none := fun b h => by
    rw [hH] at h
    unfold scrH at h
    by_cases z : b = a ∧ K.lookup a = none
    · exact z
    · rw [if_neg z] at h; exact absurd rfl h
  have at2 : ∀ b u, H b = some u → b = a ∧ K.lookup a = none ∧ u = .frz o (.lst (ns.map V.int)) := fun b u h => by
    obtain ⟨z1, z2⟩ := at1 b (by rw [h]; exact nofun)
    refine ⟨z1, z2, ?_⟩
    rw [hH] at h
    unfold scrH at h
    rw [if_pos ⟨z1, z2⟩] at h
    exact (Option.some.inj h).symm
  have sq : SqK K H a (ns.map V.int) := by
    cases e : K.lookup a with
    | none =>
      refine .inl ⟨o, ?_⟩
      rw [hH]
      exact if_pos ⟨rfl, e⟩
    | some oo =>
      have e2 := kin a oo e
      rw [scr] at e2
      cases e2
      subst ho
      exact .inr ⟨_, vs.toArray, _, e, rfl, rfl, rfl, by rw [List.size_toArray, nl]; exact sz, by simpa using rv⟩
  have hok : HOk P wo H s₁.heap := fun b u h => by
    obtain ⟨rfl, _, rfl⟩ := at2 b u h
    refine ⟨scr, by rw [List.length_map]; exact sz, vs, 0, rv, ?_⟩
    rw [scr, ho]
  have free : ∀ {b : Addr} {ob : Obj}, s₁.heap.get? b = some ob → (∀ items n, ob.data ≠ .seq items n) → H b = none := fun {b ob} e d => by
    cases q : H b with
    | none => rfl
    | some u =>
      obtain ⟨rfl, _, _⟩ := at2 b u q
      rw [scr] at e
      cases e
      rw [ho] at d
      exact absurd rfl (d _ _)
  have nsT : ∀ {b : Addr} {m : Str → Option Value}, s₁.heap.Ns b m → (hidT s₁.heap H).Ns b m := fun {b m} h => by
    obtain ⟨ob, es, ep, e, d, r⟩ := h
    exact ⟨ob, es, ep, hidT_get e (free e fun items n z => by rw [d] at z; cases z), d, r⟩
  have kinT : K.In (hidT s₁.heap H) := fun b ob e => hidT_get (kin b ob e) (by
    cases q : H b with
    | none => rfl
    | some u =>
      obtain ⟨rfl, z, _⟩ := at2 b u q
      rw [z] at e
      cases e)
  have md : Mod K mg (hidT s₁.heap H) := ⟨kinT, nsT gl, ⟨mb, nsT bl, bb⟩, by
    obtain ⟨mc, h1, h2⟩ := nolim
    exact ⟨mc, nsT h1, h2⟩⟩
  have e0 : Env0 P wo K mg (hidT s₁.heap H) callerA [] s₁ H := ⟨rfl, md, fun b ob e => of_hidT e, Nat.le_of_eq (hidT_size _ _), trivial, (fun b hb => by cases hb), hok, .of_eq gens⟩
  obtain ⟨st, hF⟩ := yes
  have sp : spF K mg 1 (arity 1 F) [.ref a] H (fun v _ => v = .bl true) (fun _ _ _ => False) := by
    refine ⟨rfl, ⟨fun _ => 0, [], [], H⟩, [.scr ns], rfl, ⟨(fun n ob e => by cases e), (fun m n o p e => by cases e), (fun a m => by cases m), fun a m => by cases m⟩, reps_cons ⟨a, rfl, sq⟩ reps_nil, ?_⟩
    have e1 : arity 1 F [.scr ns] [] = .ok (.bl true) st := hF
    have q : ∀ (C : Ctx) (w : Wd) (Q : VK) (E : Exc → Wd → Prop), (∀ v H, v = V.bl true → Q v H) → C.K = K → Post C (Rep C.K) w (Res.ok (.bl true) st) Q E := fun C w Q E hq _ w' g ok' es v r => hq v _ r
    show Post _ _ _ (arity 1 F [.scr ns] []) _ _
    rw [e1]
    exact fun w' g ok' es v r => r
  refine codeAny_mono ((ok _ kinT (nsT gl)).run callerA [] s₁ H ⟨[.ref a], []⟩ [.ref a] [.ref a] _ _ room rfl e0 (bind s₁ (.ref a)) (.cons rfl .nil) sp) ?_
  intro r s' h
  cases r with
  | error e => obtain ⟨_, _, _, _, _, _, _, _, _, _, _, _, z⟩ := h; exact z.elim
  | ok fl =>
    cases fl with
    | next => exact h.elim
    | brk => exact h.elim
    | cont => exact h.elim
    | ret u =>
      obtain ⟨v, H', os, bare, un, hok', rv', q⟩ := h
      have q : v = .bl true := q
      subst q
      have rv' : u = Value.bool true := rv'
      subst rv'
      refine ⟨rfl, OldK.of_keep fun b ob e => ?_, os, bare⟩
      cases q : H b with
      | none => exact un.keep b ob e q (fun z => by cases z) (fun z => by cases z)
      | some u =>
        obtain ⟨rfl, _, rfl⟩ := at2 b u q
        obtain ⟨e1, _⟩ := hok' _ _ (un.frzs _ _ _ q)
        rw [scr] at e
        cases e
        exact e1
/-- the end of a law row -/
theorem walk_fg {l : PySem.W.OpenLaw} {n k : Nat} {q : Program} {loose : List Str} {XP : (Str → Option Value) → Heap → Prop} {YP : World → Heap → Prop} {d : DefRec} {K : Params → PySem.W.Frag} {x : Str} {F : List D → M D}
    (hn : l.most = some n) (hn2 : n ≤ sizeLine) (hdf : d.params.defaults = []) (hr : Room k callerA) (hY : ∀ (w : World) (h : Heap), YP w h → (K w.params).In h)
    (ok : ∀ (w : World) (mg : Str → Option Value) (fa : Addr) (h : Heap), (K w.params).In h → h.Ns mainGlobals mg → mg d.name = some (.ref fa) →
      ∃ fd : FuncData, (∀ (s : Shared) (u : Value), BindsTo s fd ⟨[u], []⟩ [(x, u)]) ∧
        ∀ base : Heap, (K w.params).In base → base.Ns mainGlobals mg → FG l.prog w (K w.params) mg base k fa fd [x] (spF (K w.params) mg 1 (arity 1 F)))
    (yes : ∀ ns : List Int, ns.length ≤ n → ∃ st, F [.scr ns] [] = .ok (.bl true) st) :
    PySem.W.WalkO q loose XP YP l.row.toRowW d [] (fun f vs => PySem.call f vs) := by
  refine Att.attach_call hn hdf ?_
  intro w s₀ s₁ mg mb fa o pm cd doc a vs ns G Y ho hd hcd hmg hobj hints hlen hg
  obtain ⟨fd, hb, hF⟩ := ok w mg fa _ (hY w _ Y) G.T.g hmg
  exact law_fg (hY w _ Y) G.T.g G.T.b G.T.builtins G.T.nolimit hg hobj hints (Nat.le_trans hlen hn2) hr hF hb (yes ns hlen)
end
end PL
/-! PL11: the context of a def's body; a type as a value; walks over any sequence. -/
namespace PL
open PySem PySem.Spec PyProof.Rows L2
abbrev XOf (P : Program) (wo : World) (K : PySem.W.Frag) (mg : Str → Option Value) (base : Heap) (N : List Str) (qual : Str) (sc : Scope) (f : Addr) (cdv : Value) (A : Around) (out : List PySem.Env) (s : Shared) (H : Hp) (E : XK) : Cx := cxOf (L2N.CX P wo) P wo K mg base N qual sc f cdv A out s H E
theorem tkOf {P : Program} {wo : World} {K : PySem.W.Frag} {mg : Str → Option Value} {base : Heap} {N : List Str} {qual : Str} {sc : Scope} {f : Addr} {cdv : Value} {A : Around} {out : List PySem.Env} {s : Shared} {H : Hp} {E : XK} : L2N.Takes (XOf P wo K mg base N qual sc f cdv A out s H E) (fun c d _ H => E c d H) := L2N.takes_of rfl rfl rfl rfl
theorem paOf {P : Program} {wo : World} {K : PySem.W.Frag} {mg : Str → Option Value} {base : Heap} {N : List Str} {qual : Str} {sc : Scope} {f : Addr} {cdv : Value} {A : Around} {out : List PySem.Env} {s : Shared} {H : Hp} {E : XK} : PassesOwn (model (XOf P wo K mg base N qual sc f cdv A out s H E).prog (XOf P wo K mg base N qual sc f cdv A out s H E).w) (XOf P wo K mg base N qual sc f cdv A out s H E).A (XOf P wo K mg base N qual sc f cdv A out s H E).env (XOf P wo K mg base N qual sc f cdv A out s H E).xe := passes_of rfl
theorem huOf {k : Nat} {A : Around} (hr : Room k A) : A.units + 65 < cLine := by have := hr.un; omega
section
variable {X : Cx} {W : WX}
theorem tk0 : L2N.Takes X W0 := fun u s' h => by
  obtain ⟨_, _, _, _, _, _, _, _, _, _, _, _, _, _, _, _, z⟩ := h
  exact z.elim
theorem de_gloS {x : Str} {pos : Pos} (l : List Nat) (hg : Gl X x) (hm : ∃ t, X.mg x = some (.str (toS l) t)) (hd : (x == ("__debug__" : Str)) = false := by decide) : DE X W (.Name x pos) (sCon (.str l)) := by
  obtain ⟨t, hm⟩ := hm
  exact de_glo (v := .str (toS l)) hg hm ⟨t, rfl⟩ (fun _ => rfl) hd
theorem de_gloI {x : Str} {pos : Pos} (i : Int) (hg : Gl X x) (hm : ∃ t, X.mg x = some (.int i t)) (hd : (x == ("__debug__" : Str)) = false := by decide) : DE X W (.Name x pos) (sCon (.int i)) := by
  obtain ⟨t, hm⟩ := hm
  exact de_glo (v := .int i) hg hm ⟨t, rfl⟩ (fun _ => rfl) hd
theorem de_tyv {T : String} {x : Str} {pos : Pos} (hg : Gl X x) (hm : X.mg x = none) (hv : bootBuiltins x = some (.type T)) (hn : x ≠ "__name__" := by decide) (hd : (x == ("__debug__" : Str)) = false := by decide) : DE X W (.Name x pos) (sCon (.vv (.ty T))) :=
  (pe_bltn (v := .ty T) hg hm hv rfl hn hd).imp (con_imp fun _ => rfl)
/-- what a for walks: lists and tuples as they are, a text by its signs -/
def walkA (d : D) (_ : Store) : Option (List D) := match d with
  | .tup xs => some xs
  | .lst xs => some xs
  | .str s => some (chars s)
  | _ => none
def sWalkA (f : Env → M D) : Env → M (List D) := fun ρ => bnd (f ρ) fun a st => ofO (walkA a st) st
theorem di_any {tg e : Expr} {f : Env → M D} (he : DE X W e f) : DI X W tg e (sWalkA f) := by
  refine ⟨fun pins s σ H R I h => ?_⟩
  obtain ⟨w, ρ, e1, ok, re, q⟩ := h
  have go : ∀ {g : Env → M (List D)}, DI X W tg e g → g ρ w.st = sWalkA f ρ w.st → _ := fun {g} d eg => d.run pins s σ H R I ⟨w, ρ, e1, ok, re, by rw [eg]; exact q⟩
  cases ef : f ρ w.st with
  | bad =>
    refine go (di_list he) ?_
    show (f ρ w.st).bnd _ = (f ρ w.st).bnd _
    rw [ef]; rfl
  | exc x st =>
    refine go (di_list he) ?_
    show (f ρ w.st).bnd _ = (f ρ w.st).bnd _
    rw [ef]; rfl
  | ok d st =>
    cases d with
    | tup xs =>
      refine go (di_tup he) ?_
      show (f ρ w.st).bnd _ = (f ρ w.st).bnd _
      rw [ef]; rfl
    | str xs =>
      refine go (di_str he) ?_
      show (f ρ w.st).bnd _ = (f ρ w.st).bnd _
      rw [ef]; rfl
    | _ =>
      refine go (di_list he) ?_
      show (f ρ w.st).bnd _ = (f ρ w.st).bnd _
      rw [ef]; rfl
end
end PL
/-! PL12: what a def on data answers, by weakest conditions. -/
namespace PL
open PySem PySem.Spec PyProof.Rows L2
def wp {α : Type} (r : Res α) (X : Exc → Store → Prop) (Q : α → Store → Prop) : Prop := match r with
  | .ok a st => Q a st
  | .exc e st => X e st
  | .bad => False
def wo {α : Type} (o : Option α) (Q : α → Prop) : Prop := match o with
  | some a => Q a
  | none => False
def wv (o : Option (Option D)) (Q : D → Prop) : Prop := match o with
  | some (some a) => Q a
  | _ => False
structure SK where
  nx : Env → Store → Prop
  rt : D → Store → Prop
  bk : Env → Store → Prop
  ct : Env → Store → Prop
  ex : Exc → Env → Store → Prop
def ws (r : SRes) (k : SK) : Prop := match r with
  | .nx ρ st => k.nx ρ st
  | .rt d st => k.rt d st
  | .bk ρ st => k.bk ρ st
  | .ct ρ st => k.ct ρ st
  | .ex e ρ st => k.ex e ρ st
  | .bad => False
section
variable {α β : Type} {X : Exc → Store → Prop}
theorem wp_imp {r : Res α} {Q Q' : α → Store → Prop} (h : wp r X Q) (k : ∀ a st, Q a st → Q' a st) : wp r X Q' := by
  cases r with
  | ok a st => exact k a st h
  | exc e st => exact h
  | bad => exact h
theorem wp_ok {r : Res α} {a : α} {st : Store} {Q : α → Store → Prop} (h : r = .ok a st) (q : Q a st) : wp r X Q := by rw [h]; exact q
theorem ok_of_wp {r : Res α} {Q : α → Store → Prop} (h : wp r (fun _ _ => False) Q) : ∃ a st, r = .ok a st ∧ Q a st := by
  cases r with
  | ok a st => exact ⟨a, st, rfl, h⟩
  | exc e st => exact h.elim
  | bad => exact h.elim
theorem wo_imp {o : Option α} {Q Q' : α → Prop} (h : wo o Q) (k : ∀ a, Q a → Q' a) : wo o Q' := by
  cases o with
  | some a => exact k a h
  | none => exact h
theorem wo_of {o : Option α} {a : α} {Q : α → Prop} (h : o = some a) (q : Q a) : wo o Q := by rw [h]; exact q
theorem ws_imp {r : SRes} {k k' : SK} (h : ws r k) (h1 : ∀ ρ st, k.nx ρ st → k'.nx ρ st) (h2 : ∀ d st, k.rt d st → k'.rt d st) (h3 : ∀ ρ st, k.bk ρ st → k'.bk ρ st) (h4 : ∀ ρ st, k.ct ρ st → k'.ct ρ st) (h5 : ∀ e ρ st, k.ex e ρ st → k'.ex e ρ st) : ws r k' := by
  cases r with
  | nx ρ st => exact h1 ρ st h
  | rt ρ st => exact h2 ρ st h
  | bk ρ st => exact h3 ρ st h
  | ct ρ st => exact h4 ρ st h
  | ex e ρ st => exact h5 e ρ st h
  | bad => exact h
@[simp] theorem wp_ok_ (a : α) (st : Store) (Q : α → Store → Prop) : wp (.ok a st) X Q = Q a st := rfl
@[simp] theorem wp_exc_ (e : Exc) (st : Store) (Q : α → Store → Prop) : wp (.exc e st) X Q = X e st := rfl
@[simp] theorem wp_bad_ (Q : α → Store → Prop) : wp .bad X Q = False := rfl
@[simp] theorem wo_some_ (a : α) (Q : α → Prop) : wo (some a) Q = Q a := rfl
@[simp] theorem wo_none_ (Q : α → Prop) : wo none Q = False := rfl
@[simp] theorem wv_some_ (a : D) (Q : D → Prop) : wv (some (some a)) Q = Q a := rfl
theorem wp_bnd (r : Res α) (f : α → M β) (Q : β → Store → Prop) : wp (r.bnd f) X Q = wp r X fun a st => wp (f a st) X Q := by cases r <;> rfl
theorem wp_ofO (o : Option α) (st : Store) (Q : α → Store → Prop) : wp (ofO o st) X Q = wo o fun a => Q a st := by cases o <;> rfl
theorem wo_map (o : Option α) (f : α → β) (Q : β → Prop) : wo (o.map f) Q = wo o fun a => Q (f a) := by cases o <;> rfl
theorem wo_bind (o : Option α) (f : α → Option β) (Q : β → Prop) : wo (o.bind f) Q = wo o fun a => wo (f a) Q := by cases o <;> rfl
theorem wo_ite (c : Prop) [Decidable c] (a : α) (Q : α → Prop) : wo (if c then some a else none) Q = (c ∧ Q a) := by
  by_cases h : c
  · rw [if_pos h]; exact propext ⟨fun q => ⟨h, q⟩, fun q => q.2⟩
  · rw [if_neg h]; exact propext ⟨fun q => q.elim, fun q => absurd q.1 h⟩
theorem wp_ite (c : Prop) [Decidable c] (r : Res α) (Q : α → Store → Prop) : wp (if c then r else .bad) X Q = (c ∧ wp r X Q) := by
  by_cases h : c
  · rw [if_pos h]; exact propext ⟨fun q => ⟨h, q⟩, fun q => q.2⟩
  · rw [if_neg h]; exact propext ⟨fun q => q.elim, fun q => absurd q.1 h⟩

/-! ### expressions -/
variable {ρ : Env} {st : Store} {Q : D → Store → Prop} {QL : List D → Store → Prop} {QB : Bool → Store → Prop}
@[simp] theorem wp_ret (a : α) (Q : α → Store → Prop) : wp (ret a st) X Q = Q a st := rfl
@[simp] theorem wp_var (i : Nat) : wp (sVar i ρ st) X Q = wv ρ[i]? fun d => Q d st := by
  unfold sVar wv
  split <;> simp_all
@[simp] theorem wp_con (d : D) : wp (sCon d ρ st) X Q = Q d st := rfl
@[simp] theorem wp_bin (op : BOp) (f g : Env → M D) : wp (sBin op f g ρ st) X Q = wp (f ρ st) X fun a st1 => wp (g ρ st1) X fun b st2 => wo (op.sem a b st2) fun d => Q d st2 := by simp only [sBin, bnd, wp_bnd, wp_ofO]
@[simp] theorem wp_neg (f : Env → M D) : wp (sNeg f ρ st) X Q = wp (f ρ st) X fun a st1 => wo (negD a) fun d => Q d st1 := by simp only [sNeg, bnd, wp_bnd, wp_ofO]
@[simp] theorem wp_nil : wp (sNil ρ st) X QL = QL [] st := rfl
@[simp] theorem wp_cons (f : Env → M D) (g : Env → M (List D)) : wp (sCons f g ρ st) X QL = wp (f ρ st) X fun a st1 => wp (g ρ st1) X fun as st2 => QL (a :: as) st2 := by simp only [sCons, bnd, wp_bnd, wp_ret]
@[simp] theorem wp_tup (f : Env → M (List D)) : wp (sTup f ρ st) X Q = wp (f ρ st) X fun xs st1 => xs.length ≤ sizeLine ∧ Q (.tup xs) st1 := by simp only [sTup, bnd, wp_bnd, wp_ofO, wo_ite]
@[simp] theorem wp_lstF (f : Env → M (List D)) : wp (sLst false f ρ st) X Q = wp (f ρ st) X fun xs st1 => xs.length ≤ sizeLine ∧ Q (.lst xs) st1 := by simp [sLst, bnd, wp_bnd, wp_ite, mkL]
@[simp] theorem wp_lstT (f : Env → M (List D)) : wp (sLst true f ρ st) X Q = wp (f ρ st) X fun xs st1 => xs.length ≤ sizeLine ∧ Q (.ref st1.length) (st1 ++ [some (.lst xs)]) := by simp [sLst, bnd, wp_bnd, wp_ite, mkL]
@[simp] theorem wp_blt (F : List D → Store → Option D) (g : Env → M (List D)) : wp (sBlt F g ρ st) X Q = wp (g ρ st) X fun ds st1 => wo (F ds st1) fun d => Q d st1 := by simp only [sBlt, bnd, wp_bnd, wp_ofO]
@[simp] theorem wp_ix (f g : Env → M D) : wp (sIx f g ρ st) X Q = wp (f ρ st) X fun a st1 => wp (g ρ st1) X fun b st2 => wo (ixD a b st2) fun d => Q d st2 := by simp only [sIx, bnd, wp_bnd, wp_ofO]
@[simp] theorem wp_no (QO : Option D → Store → Prop) : wp (sNo ρ st) X QO = QO none st := rfl
theorem so_aux (a : D) (QO : Option D → Store → Prop) : wp ((match a with | .int i => ret (some (.int i)) | _ => fun _ => .bad : M (Option D)) st) X QO = wo (match a with | .int i => some (D.int i) | _ => none) fun d => QO (some d) st := by cases a <;> rfl
def isInt : D → Option D
  | .int i => some (.int i)
  | _ => none
@[simp] theorem isInt_int (i : Int) : isInt (.int i) = some (.int i) := rfl
@[simp] theorem wp_so (f : Env → M D) (QO : Option D → Store → Prop) : wp (sSo f ρ st) X QO = wp (f ρ st) X fun a st1 => wo (isInt a) fun d => QO (some d) st1 := by
  simp only [sSo, bnd, wp_bnd]
  congr; funext a st1
  cases a <;> rfl
@[simp] theorem wp_sli (f : Env → M D) (l h : Env → M (Option D)) : wp (sSli f l h ρ st) X Q = wp (f ρ st) X fun a st1 => wp (l ρ st1) X fun lo st2 => wp (h ρ st2) X fun hi st3 => wo (sliD a (oInt lo) (oInt hi) st3) fun d => Q d st3 := by simp only [sSli, bnd, wp_bnd, wp_ofO]
@[simp] theorem oInt_none : oInt none = none := rfl
@[simp] theorem oInt_int (i : Int) : oInt (some (.int i)) = some i := rfl
@[simp] theorem wp_tru (f : Env → M D) : wp (sTru f ρ st) X QB = wp (f ρ st) X fun a st1 => wo (truD st1 a) fun b => QB b st1 := by simp only [sTru, bnd, wp_bnd, wp_ofO]
@[simp] theorem wp_notB (f : Env → M Bool) : wp (tNotB f ρ st) X QB = wp (f ρ st) X fun a st1 => QB (!a) st1 := by simp only [tNotB, bnd, wp_bnd, wp_ret]
@[simp] theorem wp_ofB (f : Env → M Bool) : wp (sOfB f ρ st) X Q = wp (f ρ st) X fun a st1 => Q (.bl a) st1 := by simp only [sOfB, bnd, wp_bnd, wp_ret]
theorem wp_if2 (b : Bool) (m m' : M α) (Q : α → Store → Prop) : wp ((if b = true then m else m') st) X Q = if b = true then wp (m st) X Q else wp (m' st) X Q := by cases b <;> rfl
@[simp] theorem wp_andB (f g : Env → M Bool) : wp (tAndB f g ρ st) X QB = wp (f ρ st) X fun a st1 => if a = true then wp (g ρ st1) X QB else QB false st1 := by simp only [tAndB, bnd, wp_bnd, wp_ret, wp_if2]
@[simp] theorem wp_orB (f g : Env → M Bool) : wp (tOrB f g ρ st) X QB = wp (f ρ st) X fun a st1 => if a = true then QB true st1 else wp (g ρ st1) X QB := by simp only [tOrB, bnd, wp_bnd, wp_ret, wp_if2]
@[simp] theorem wp_and (f g : Env → M D) : wp (sAnd f g ρ st) X Q = wp (f ρ st) X fun a st1 => wo (truD st1 a) fun b => if b = true then wp (g ρ st1) X Q else Q a st1 := by simp only [sAnd, bnd, wp_bnd, wp_ret, wp_if2, wp_ofO]
@[simp] theorem wp_or (f g : Env → M D) : wp (sOr f g ρ st) X Q = wp (f ρ st) X fun a st1 => wo (truD st1 a) fun b => if b = true then Q a st1 else wp (g ρ st1) X Q := by simp only [sOr, bnd, wp_bnd, wp_ret, wp_if2, wp_ofO]
@[simp] theorem wp_ifE (c : Env → M Bool) (f g : Env → M D) : wp (sIf c f g ρ st) X Q = wp (c ρ st) X fun b st1 => if b = true then wp (f ρ st1) X Q else wp (g ρ st1) X Q := by simp only [sIf, bnd, wp_bnd, wp_if2]
@[simp] theorem wp_cmpB (op : COp) (f g : Env → M D) : wp (tCmpS op f g ρ st) X QB = wp (f ρ st) X fun a st1 => wp (g ρ st1) X fun b st2 => wo (cmpS op a b st2) fun d => QB d st2 := by simp only [tCmpS, bnd, wp_bnd, wp_ofO]
@[simp] theorem wp_call (F : List D → M D) (g : Env → M (List D)) : wp (sCall F g ρ st) X Q = wp (g ρ st) X fun ds st1 => wp (F ds st1) X Q := by simp only [sCall, bnd, wp_bnd]
@[simp] theorem wp_arity (n : Nat) (F : List D → M D) (ds : List D) : wp (arity n F ds st) X Q = (ds.length = n ∧ wp (F ds st) X Q) := by simp only [arity, wp_ite]
@[simp] theorem wp_callK (a b : Nat) (idx : List Nat) (F : List D → M D) (g h : Env → M (List D)) : wp (sCallK a b idx F g h ρ st) X Q = wp (g ρ st) X fun ds st1 => wp (h ρ st1) X fun es st2 => (ds.length = a ∧ es.length = b) ∧ wp (F (permL idx (ds ++ es)) st2) X Q := by
  simp only [sCallK, bnd, wp_bnd]
  congr; funext ds st1; congr; funext es st2
  rw [← wp_ite]
  split <;> rfl
@[simp] theorem wp_mth (isT : D → Store → Bool) (f : D → List D → Store → Option (D × Store)) (fo : Env → M D) (g : Env → M (List D)) : wp (sMth isT f fo g ρ st) X Q = wp (fo ρ st) X fun o st1 => isT o st1 = true ∧ wp (g ρ st1) X fun ds st2 => wo (f o ds st2) fun p => Q p.1 p.2 := by
  simp only [sMth, bnd, wp_bnd, wp_ite]
  congr; funext o st1; congr; funext ds st2
  cases f o ds st2 <;> rfl
@[simp] theorem wp_mth0 (isT : D → Store → Bool) (f : D → List D → Store → Option (D × Store)) (fo : Env → M D) : wp (sMth0 isT f fo ρ st) X Q = wp (fo ρ st) X fun o st1 => isT o st1 = true ∧ wo (f o [] st1) fun p => Q p.1 p.2 := by simp only [sMth0, wp_mth, wp_nil]
@[simp] theorem wp_frz (f : Env → M D) : wp (sFrz f ρ st) X Q = wp (f ρ st) X fun a st1 => wp (frz a st1) X Q := by simp only [sFrz, bnd, wp_bnd]
@[simp] theorem wp_compF (vs : List Nat) (g : D → Env → Option Env) (c : Env → M Bool) (f : Env → M D) (it : Env → M (List D)) : wp (sComp false vs g c f it ρ st) X Q = wp (it ρ st) X fun items st1 => wp (compGo g c f (wipeE ρ vs) items [] st1) X fun xs st2 => Q (.lst xs) st2 := by
  simp only [sComp, bnd, wp_bnd]; rfl
@[simp] theorem wp_compT (vs : List Nat) (g : D → Env → Option Env) (c : Env → M Bool) (f : Env → M D) (it : Env → M (List D)) : wp (sComp true vs g c f it ρ st) X Q = wp (it ρ st) X fun items st1 => wp (compGo g c f (wipeE ρ vs) items [] st1) X fun xs st2 => Q (.ref st2.length) (st2 ++ [some (.lst xs)]) := by
  simp only [sComp, bnd, wp_bnd]; rfl
@[simp] theorem wp_yes : wp (sYes ρ st) X QB = QB true st := rfl
@[simp] theorem wp_walkA (f : Env → M D) : wp (sWalkA f ρ st) X QL = wp (f ρ st) X fun a st1 => wo (walkA a st1) fun xs => QL xs st1 := by simp only [sWalkA, bnd, wp_bnd, wp_ofO]
@[simp] theorem wp_rng1 (g : Env → M (List D)) : wp (sRng1 g ρ st) X QL = wp (g ρ st) X fun ds st1 => wo (rng1 ds) fun xs => QL xs st1 := by simp only [sRng1, bnd, wp_bnd, wp_ofO]
@[simp] theorem wp_rng2 (g : Env → M (List D)) : wp (sRng2 g ρ st) X QL = wp (g ρ st) X fun ds st1 => wo (rng2 ds) fun xs => QL xs st1 := by simp only [sRng2, bnd, wp_bnd, wp_ofO]
@[simp] theorem walk_tup (xs : List D) : walkA (.tup xs) st = some xs := rfl
@[simp] theorem walk_lst (xs : List D) : walkA (.lst xs) st = some xs := rfl
@[simp] theorem walk_str (s : List Nat) : walkA (.str s) st = some (chars s) := rfl
@[simp] theorem g_nm (i : Nat) (d : D) : gNm i d ρ = some (ρ.set i (some d)) := rfl
@[simp] theorem g_ni : gNi [] ρ = some ρ := rfl
@[simp] theorem g_co (g : D → Env → Option Env) (h : List D → Env → Option Env) (d : D) (r : List D) : gCo g h (d :: r) ρ = (g d ρ).bind (h r) := rfl
@[simp] theorem g_tu (n : Nat) (g : List D → Env → Option Env) (xs : List D) : gTu n g (.tup xs) ρ = if xs.length = n then g xs ρ else none := rfl
@[simp] theorem g_li (n : Nat) (g : List D → Env → Option Env) (xs : List D) : gLi n g (.lst xs) ρ = if xs.length = n then g xs ρ else none := rfl

/-! ### operators -/
section
variable {QO : D → Prop}
@[simp] theorem add_int (i j : Int) : BOp.sem .add (.int i) (.int j) st = some (.int (i + j)) := rfl
@[simp] theorem sub_int (i j : Int) : BOp.sem .sub (.int i) (.int j) st = some (.int (i - j)) := rfl
@[simp] theorem add_str (s t : List Nat) : wo (BOp.sem .add (.str s) (.str t) st) QO = (s.length + t.length ≤ sizeLine ∧ QO (.str (s ++ t))) := wo_ite _ _ _
@[simp] theorem add_tup (s t : List D) : wo (BOp.sem .add (.tup s) (.tup t) st) QO = (s.length + t.length ≤ sizeLine ∧ QO (.tup (s ++ t))) := wo_ite _ _ _
@[simp] theorem add_lst (s t : List D) : wo (BOp.sem .add (.lst s) (.lst t) st) QO = (s.length + t.length ≤ sizeLine ∧ QO (.lst (s ++ t))) := wo_ite _ _ _
@[simp] theorem mul_int (i j : Int) : wo (BOp.sem .mul (.int i) (.int j) st) QO = ((i.natAbs < 2 ^ 64 ∨ j.natAbs < 2 ^ 64 ∨ i.natAbs.log2 + j.natAbs.log2 < 1000000) ∧ QO (.int (i * j))) := wo_ite _ _ _
@[simp] theorem mul_str (s : List Nat) (k : Int) : wo (BOp.sem .mul (.str s) (.int k) st) QO = ((-1000000 < k ∧ k < 1000000000 ∧ s.length * k.toNat ≤ sizeLine) ∧ QO (.str (repN s k))) := wo_ite _ _ _
@[simp] theorem mul_lst (s : List D) (k : Int) : wo (BOp.sem .mul (.lst s) (.int k) st) QO = ((-1000000 < k ∧ k < 1000000000 ∧ s.length * k.toNat ≤ sizeLine) ∧ QO (.lst (repN s k))) := wo_ite _ _ _
@[simp] theorem fdiv_int (i j : Int) : wo (BOp.sem .fdiv (.int i) (.int j) st) QO = ((0 < j ∧ j.natAbs.log2 < 9000) ∧ QO (.int (i / j))) := wo_ite _ _ _
@[simp] theorem mod_int (i j : Int) : wo (BOp.sem .mod (.int i) (.int j) st) QO = (0 < j ∧ QO (.int (i % j))) := wo_ite _ _ _
@[simp] theorem pow_int (i j : Int) : wo (BOp.sem .pow (.int i) (.int j) st) QO = ((0 ≤ j ∧ (bitsOf i : Int) * j ≤ 2 ^ 27) ∧ QO (.int (i ^ j.toNat))) := wo_ite _ _ _
@[simp] theorem neg_int (i : Int) : negD (.int i) = some (.int (-i)) := rfl
@[simp] theorem len_str (s : List Nat) : wo (lenD [.str s] st) QO = (s.length ≤ sizeLine ∧ QO (.int s.length)) := wo_ite _ _ _
@[simp] theorem len_scr (s : List Int) : lenD [.scr s] st = some (.int s.length) := rfl
@[simp] theorem len_lst (s : List D) : lenD [.lst s] st = some (.int s.length) := rfl
@[simp] theorem len_tup (s : List D) : lenD [.tup s] st = some (.int s.length) := rfl
@[simp] theorem abs_int (i : Int) : absD [.int i] st = some (.int (if i < 0 then -i else i)) := rfl
@[simp] theorem max_int (i j : Int) : maxD [.int i, .int j] st = some (.int (max i j)) := by
  show some (D.int (if j > i then j else i)) = _
  congr 2; split <;> omega
@[simp] theorem min_int (i j : Int) : minD [.int i, .int j] st = some (.int (min i j)) := by
  show some (D.int (if j < i then j else i)) = _
  congr 2; split <;> omega
@[simp high] theorem min_nat (i j : Nat) : minD [.int i, .int j] st = some (.int ((min i j : Nat) : Int)) := by
  rw [min_int]; congr 2; omega
@[simp high] theorem max_nat (i j : Nat) : maxD [.int i, .int j] st = some (.int ((max i j : Nat) : Int)) := by
  rw [max_int]; congr 2; omega
@[simp] theorem ix_str (s : List Nat) (i : Int) : wo (ixD (.str s) (.int i) st) QO = (s.length ≤ sizeLine ∧ wo (L2.atI s i) fun c => QO (.str [c])) := by
  show wo (if _ then _ else _) QO = _
  split
  · rename_i h; rw [wo_map]; exact propext ⟨fun q => ⟨h, q⟩, fun q => q.2⟩
  · rename_i h; exact propext ⟨fun q => q.elim, fun q => absurd q.1 h⟩
@[simp] theorem ix_lst (s : List D) (i : Int) : ixD (.lst s) (.int i) st = L2.atI s i := rfl
@[simp] theorem ix_tup (s : List D) (i : Int) : ixD (.tup s) (.int i) st = L2.atI s i := rfl
@[simp] theorem ix_scr (s : List Int) (i : Int) : ixD (.scr s) (.int i) st = (L2.atI s i).map D.int := rfl
theorem ix_ref {n : Nat} {xs : List D} (h : st[n]? = some (some (.lst xs))) (i : Int) : ixD (.ref n) (.int i) st = L2.atI xs i := by
  show (match viewL st (.ref n) with | some xs => L2.atI xs i | none => none) = _
  rw [show viewL st (.ref n) = some xs by simp only [viewL, h]]
@[simp] theorem sli_str (s : List Nat) (lo hi : Option Int) : wo (sliD (.str s) lo hi st) QO = (s.length ≤ sizeLine ∧ QO (.str (cutG s lo hi))) := wo_ite _ _ _
@[simp] theorem sli_tup (s : List D) (lo hi : Option Int) : sliD (.tup s) lo hi st = some (.tup (cutG s lo hi)) := rfl
@[simp] theorem sli_lst (s : List D) (lo hi : Option Int) : sliD (.lst s) lo hi st = some (.lst (cutG s lo hi)) := rfl
@[simp] theorem tru_bl (b : Bool) : truD st (.bl b) = some b := rfl
@[simp] theorem tru_non : truD st .non = some false := rfl
@[simp] theorem tru_int (i : Int) : truD st (.int i) = some (i != 0) := rfl
@[simp] theorem tru_tup (xs : List D) : truD st (.tup xs) = some (!xs.isEmpty) := rfl
@[simp] theorem eq_str (s t : List Nat) : cmpS .eq (.str s) (.str t) st = some (decide (s = t)) := rfl
@[simp] theorem ne_str (s t : List Nat) : cmpS .ne (.str s) (.str t) st = some (!decide (s = t)) := rfl
@[simp] theorem eq_int (s t : Int) : cmpS .eq (.int s) (.int t) st = some (decide (s = t)) := rfl
@[simp] theorem ne_int (s t : Int) : cmpS .ne (.int s) (.int t) st = some (!decide (s = t)) := rfl
@[simp] theorem lt_int (s t : Int) : cmpS .lt (.int s) (.int t) st = some (decide (s < t)) := rfl
@[simp] theorem le_int (s t : Int) : cmpS .le (.int s) (.int t) st = some (decide (s ≤ t)) := by
  show some (!(decide (t < s))) = _
  by_cases h : t < s <;> simp [h] <;> omega
@[simp] theorem gt_int (s t : Int) : cmpS .gt (.int s) (.int t) st = some (decide (s > t)) := rfl
@[simp] theorem ge_int (s t : Int) : cmpS .ge (.int s) (.int t) st = some (decide (s ≥ t)) := by
  show some (!(decide (s < t))) = _
  by_cases h : s < t <;> simp [h] <;> omega
@[simp] theorem isStr_str (s : List Nat) : isStr (.str s) st = true := rfl
end

/-! ### statements -/
variable {k : SK}
@[simp] theorem ws_nx : ws (.nx ρ st) k = k.nx ρ st := rfl
@[simp] theorem ws_bad : ws .bad k = False := rfl
@[simp] theorem ws_skip : ws (sSkip ρ st) k = k.nx ρ st := rfl
@[simp] theorem ws_sBad : ws (sBad ρ st) k = False := rfl
@[simp] theorem ws_seq (f g : SM) : ws (sSeq f g ρ st) k = ws (f ρ st) { k with nx := fun ρ1 st1 => ws (g ρ1 st1) k } := by
  unfold sSeq
  cases f ρ st <;> rfl
theorem ws_then (f : Env → M α) (g : α → SM) : ws (sThen f g ρ st) k = wp (f ρ st) (fun e st1 => k.ex e ρ st1) fun a st1 => ws (g a ρ st1) k := by
  unfold sThen
  cases f ρ st <;> rfl
@[simp] theorem ws_set (i : Nat) (f : Env → M D) : ws (sSet i f ρ st) k = wp (f ρ st) (fun e st1 => k.ex e ρ st1) fun d st1 => k.nx (ρ.set i (some d)) st1 := by unfold sSet; rw [ws_then]; rfl
@[simp] theorem ws_asg (g : D → Env → Option Env) (f : Env → M D) : ws (sAsg g f ρ st) k = wp (f ρ st) (fun e st1 => k.ex e ρ st1) fun d st1 => wo (g d ρ) fun ρ1 => k.nx ρ1 st1 := by
  unfold sAsg; rw [ws_then]
  congr; funext d st1
  cases g d ρ <;> rfl
@[simp] theorem ws_expr (f : Env → M D) : ws (sExpr f ρ st) k = wp (f ρ st) (fun e st1 => k.ex e ρ st1) fun d st1 => k.nx ρ st1 := by unfold sExpr; rw [ws_then]; rfl
@[simp] theorem ws_ret (f : Env → M D) : ws (sRet f ρ st) k = wp (f ρ st) (fun e st1 => k.ex e ρ st1) fun d st1 => k.rt d st1 := by unfold sRet; rw [ws_then]; rfl
@[simp] theorem ws_retN : ws (sRetN ρ st) k = k.rt .non st := rfl
@[simp] theorem ws_brk : ws (sBrk ρ st) k = k.bk ρ st := rfl
@[simp] theorem ws_cnt : ws (sCnt ρ st) k = k.ct ρ st := rfl
@[simp] theorem ws_if (c : Env → M Bool) (f g : SM) : ws (sIfS c f g ρ st) k = wp (c ρ st) (fun e st1 => k.ex e ρ st1) fun b st1 => if b = true then ws (f ρ st1) k else ws (g ρ st1) k := by
  unfold sIfS; rw [ws_then]
  congr; funext b st1
  cases b <;> rfl
@[simp] theorem ws_par (i j : Nat) (f : Env → M (List D)) : ws (sPar i j f ρ st) k = wp (f ρ st) (fun e st1 => k.ex e ρ st1) fun ds st1 => wo (match ds with | [a, b] => some ((ρ.set i (some a)).set j (some b)) | _ => none) fun ρ1 => k.nx ρ1 st1 := by
  unfold sPar; rw [ws_then]
  congr; funext ds st1
  match ds with
  | [] => rfl
  | [a] => rfl
  | [a, b] => rfl
  | a :: b :: c :: r => rfl
@[simp] theorem ws_aug (i : Nat) (op : BOp) (f : Env → M D) : ws (sAug i op f ρ st) k = wv ρ[i]? fun x => wp (f ρ st) (fun e st1 => k.ex e ρ st1) fun y st1 => wo (augOp op x y st1) fun d => k.nx (ρ.set i (some d)) st1 := by
  unfold sAug; rw [ws_then]
  simp only [bnd, wp_bnd, wp_ofO, wp_var]; rfl
@[simp] theorem ws_setIx (fv fo fi : Env → M D) : ws (sSetIx fv fo fi ρ st) k = wp (fv ρ st) (fun e st1 => k.ex e ρ st1) fun v st1 => wp (fo ρ st1) (fun e st1 => k.ex e ρ st1) fun o st2 => wp (fi ρ st2) (fun e st1 => k.ex e ρ st1) fun i st3 => wo (setD o i v st3) fun st4 => k.nx ρ st4 := by
  unfold sSetIx; rw [ws_then]
  simp only [bnd, wp_bnd]
  congr; funext v st1; congr; funext o st2; congr; funext i st3
  cases setD o i v st3 <;> rfl
@[simp] theorem ws_for (g : D → Env → Option Env) (it : Env → M (List D)) (body : SM) : ws (sFor g it body ρ st) k = wp (it ρ st) (fun e st1 => k.ex e ρ st1) fun items st1 => ws (forGo g body items ρ st1) k := by unfold sFor; rw [ws_then]
theorem ws_while (n : Nat) (c : Env → M Bool) (body : SM) : sWhile n c body = whileGo c body n := rfl
theorem wp_run (n : Nat) (body : SM) (ds : List D) : wp (runDef n body ds st) X Q = ws (body (ds.map some ++ List.replicate (n - ds.length) none) st) ⟨fun _ st => Q .non st, Q, fun _ _ => False, fun _ _ => False, fun e _ st => X e st⟩ := by
  unfold runDef
  cases body _ st <;> rfl
/-- a for loop by an invariant: behind i items -/
theorem ws_forGo (g : D → Env → Option Env) (body : SM) (I : Nat → Env → Store → Prop) : ∀ (items : List D) (ρ : Env) (st : Store), I 0 ρ st →
    (∀ i d ρ st, items[i]? = some d → I i ρ st → wo (g d ρ) fun ρ1 => ws (body ρ1 st) ⟨I (i + 1), k.rt, k.nx, I (i + 1), k.ex⟩) → (∀ ρ st, I items.length ρ st → k.nx ρ st) → ws (forGo g body items ρ st) k := by
  intro items
  induction items generalizing I with
  | nil => exact fun ρ st h _ he => he ρ st h
  | cons d r ih =>
    intro ρ st h hs he
    have h1 := hs 0 d ρ st rfl h
    cases eg : g d ρ with
    | none => rw [eg] at h1; exact h1.elim
    | some ρ1 =>
      rw [eg] at h1
      have h1 : ws (body ρ1 st) _ := h1
      have nx : ∀ ρ2 st2, I 1 ρ2 st2 → ws (forGo g body r ρ2 st2) k := fun ρ2 st2 q => ih (fun i => I (i + 1)) ρ2 st2 q (fun i d ρ st e => hs (i + 1) d ρ st e) he
      cases eb : body ρ1 st with
      | bad => rw [eb] at h1; exact h1.elim
      | nx ρ2 st2 => simp only [forGo, eg, eb] at h1 ⊢; exact nx ρ2 st2 h1
      | ct ρ2 st2 => simp only [forGo, eg, eb] at h1 ⊢; exact nx ρ2 st2 h1
      | bk ρ2 st2 => simp only [forGo, eg, eb] at h1 ⊢; exact h1
      | rt d st2 => simp only [forGo, eg, eb] at h1 ⊢; exact h1
      | ex e ρ2 st2 => simp only [forGo, eg, eb] at h1 ⊢; exact h1
/-- a while loop by an invariant and a measure -/
theorem ws_whileGo (c : Env → M Bool) (body : SM) (I : Nat → Env → Store → Prop)
    (hs : ∀ m ρ st, I m ρ st → wp (c ρ st) (fun e st1 => k.ex e ρ st1) fun b st1 => if b = true then ws (body ρ st1) ⟨fun ρ2 st2 => ∃ m2, m2 < m ∧ I m2 ρ2 st2, k.rt, k.nx, fun ρ2 st2 => ∃ m2, m2 < m ∧ I m2 ρ2 st2, k.ex⟩ else k.nx ρ st1) :
    ∀ (n m : Nat) (ρ : Env) (st : Store), m < n → I m ρ st → ws (whileGo c body n ρ st) k := by
  intro n
  induction n with
  | zero => exact fun m ρ st h => absurd h (Nat.not_lt_zero _)
  | succ n ih =>
    intro m ρ st hm hI
    have h1 := hs m ρ st hI
    cases ec : c ρ st with
    | bad => rw [ec] at h1; exact h1.elim
    | exc e st1 => simp only [whileGo, ec] at h1 ⊢; exact h1
    | ok b st1 =>
      rw [ec] at h1
      cases b with
      | false => simp only [whileGo, ec] at h1 ⊢; exact h1
      | true =>
        have h1 : ws (body ρ st1) _ := h1
        have nx : ∀ ρ2 st2, (∃ m2, m2 < m ∧ I m2 ρ2 st2) → ws (whileGo c body n ρ2 st2) k := fun ρ2 st2 ⟨m2, q1, q2⟩ => ih m2 ρ2 st2 (by omega) q2
        cases eb : body ρ st1 with
        | bad => rw [eb] at h1; exact h1.elim
        | nx ρ2 st2 => simp only [whileGo, ec, eb] at h1 ⊢; exact nx ρ2 st2 h1
        | ct ρ2 st2 => simp only [whileGo, ec, eb] at h1 ⊢; exact nx ρ2 st2 h1
        | bk ρ2 st2 => simp only [whileGo, ec, eb] at h1 ⊢; exact h1
        | rt d st2 => simp only [whileGo, ec, eb] at h1 ⊢; exact h1
        | ex e ρ2 st2 => simp only [whileGo, ec, eb] at h1 ⊢; exact h1
/-- a comprehension without ifs by an invariant: R i x is what is known of the i-th item -/
theorem wp_compGo (g : D → Env → Option Env) (f : Env → M D) (ρ₀ : Env) (I : Nat → Store → Prop) (R : Nat → D → Prop) : ∀ (items acc : List D) (st : Store) (Q : List D → Store → Prop), I 0 st → acc.length + items.length ≤ sizeLine →
    (∀ i d st, items[i]? = some d → I i st → wo (g d ρ₀) fun ρ1 => wp (f ρ1 st) (fun _ _ => False) fun x st1 => R i x ∧ I (i + 1) st1) → (∀ xs st, xs.length = items.length → (∀ i x, xs[i]? = some x → R i x) → I items.length st → Q (acc ++ xs) st) →
    wp (compGo g sYes f ρ₀ items acc st) X Q := by
  intro items
  induction items generalizing I R with
  | nil =>
    intro acc st Q h _ _ he
    have := he [] st rfl (fun i x e => by simp at e) h
    rw [List.append_nil] at this
    exact this
  | cons d r ih =>
    intro acc st Q h hz hs he
    have h1 := hs 0 d st rfl h
    cases eg : g d ρ₀ with
    | none => rw [eg] at h1; exact h1.elim
    | some ρ1 =>
      simp only [compGo, eg]
      rw [eg] at h1
      have h1 : wp (f ρ1 st) _ _ := h1
      show wp ((noX (sYes ρ1 st)).bnd _) X Q
      rw [wp_bnd]
      show wp ((noX (f ρ1 st)).bnd _) X Q
      rw [wp_bnd]
      cases ef : f ρ1 st with
      | bad => rw [ef] at h1; exact h1.elim
      | exc e st1 => rw [ef] at h1; exact h1.elim
      | ok x st1 =>
        rw [ef] at h1
        have hl : acc.length < sizeLine := by simp at hz; omega
        show wp ((if acc.length < sizeLine then compGo g sYes f ρ₀ r (acc ++ [x]) else badM) st1) X Q
        rw [if_pos hl]
        refine ih (fun i => I (i + 1)) (fun i => R (i + 1)) (acc ++ [x]) st1 Q h1.2 (by simp at hz ⊢; omega) (fun i d st e => hs (i + 1) d st e) ?_
        intro xs st2 hx hR hI
        have := he (x :: xs) st2 (by simp [hx]) (fun i y e => by
          cases i with
          | zero => cases e; exact h1.1
          | succ i => exact hR i y e) hI
        rw [List.append_assoc]
        exact this
/-- a pure comprehension, perhaps with an if -/
theorem comp_pure (g : D → Env → Option Env) (c : Env → M Bool) (f : Env → M D) (ρ₀ : Env) (p : D → Bool) (h : D → D) : ∀ (items acc : List D), (∀ d ∈ items, ∃ ρ1, g d ρ₀ = some ρ1 ∧ c ρ1 st = .ok (p d) st ∧ (p d = true → f ρ1 st = .ok (h d) st)) → acc.length + items.length ≤ sizeLine →
    compGo g c f ρ₀ items acc st = .ok (acc ++ (items.filter p).map h) st := by
  intro items
  induction items with
  | nil => intro acc _ _; unfold compGo; simp
  | cons d r ih =>
    intro acc hd hz
    obtain ⟨ρ1, e1, e2, e3⟩ := hd d List.mem_cons_self
    simp only [List.length_cons] at hz
    have hl : acc.length < sizeLine := by omega
    simp only [compGo, e1]
    show (noX (c ρ1 st)).bnd _ = _
    rw [e2]
    show (if p d = true then _ else _ : M (List D)) st = _
    cases hp : p d with
    | false =>
      rw [if_neg Bool.false_ne_true, List.filter_cons_of_neg (by rw [hp]; exact Bool.false_ne_true)]
      exact ih acc (fun d hd' => hd d (List.mem_cons_of_mem _ hd')) (by omega)
    | true =>
      rw [if_pos rfl, List.filter_cons_of_pos hp]
      show (noX (f ρ1 st)).bnd _ = _
      rw [e3 hp]
      show (if acc.length < sizeLine then compGo g c f ρ₀ r (acc ++ [h d]) else badM) st = _
      rw [if_pos hl, ih (acc ++ [h d]) (fun d hd' => hd d (List.mem_cons_of_mem _ hd')) (by simp; omega), List.append_assoc]
      rfl
end
end PL
/-! PL13: what many laws need of lists, texts, draws. -/
namespace PL
open PySem PySem.Spec PyProof.Rows L2
section
variable {X : Exc → Store → Prop} {st : Store} {k : SK} {ρ : Env}
@[simp] theorem sizeLine_num : sizeLine = 16777216 := rfl
theorem ws_seq_of {f g : SM} (I : Env → Store → Prop) (h1 : ws (f ρ st) { k with nx := I }) (h2 : ∀ ρ1 st1, I ρ1 st1 → ws (g ρ1 st1) k) : ws (sSeq f g ρ st) k := by
  rw [ws_seq]
  exact ws_imp h1 h2 (fun _ _ h => h) (fun _ _ h => h) (fun _ _ h => h) (fun _ _ _ h => h)
theorem setD_at {n : Nat} {xs : List D} {k : Int} {v : D} {j : Nat} (h : st[n]? = some (some (.lst xs))) (e : ixN xs.length k = some j) : setD (.ref n) (.int k) v st = some (st.set n (some (.lst (xs.set j v)))) := by
  simp only [setD, h, e, Option.map]
theorem set_get {n : Nat} {o : Option Ob} (h : st[n]? ≠ none) (ob : Option Ob) : (st.set n ob)[n]? = some ob := by
  have : n < st.length := by
    rcases Nat.lt_or_ge n st.length with q | q
    · exact q
    · exact absurd (List.getElem?_eq_none q) h
  exact List.getElem?_set_self this
theorem set_lst {n : Nat} {xs ys : List D} (h : st[n]? = some (some (.lst xs))) : (st.set n (some (.lst ys)))[n]? = some (some (.lst ys)) := set_get (o := none) (by rw [h]; exact nofun) _
theorem at0 {α : Type} (x : α) (l : List α) : atI (x :: l) 0 = some x := atI_nat (j := 0) rfl
theorem at1 {α : Type} (x y : α) (l : List α) : atI (x :: y :: l) 1 = some y := atI_nat (j := 1) rfl
theorem at2 {α : Type} (x y z : α) (l : List α) : atI (x :: y :: z :: l) 2 = some z := atI_nat (j := 2) rfl
theorem at3 {α : Type} (x y z a : α) (l : List α) : atI (x :: y :: z :: a :: l) 3 = some a := atI_nat (j := 3) rfl
theorem at_any {α : Type} {xs : List α} {r : Int} {Q : α → Prop} (h0 : 0 ≤ r) (h1 : r < xs.length) (q : ∀ x ∈ xs, Q x) : wo (atI xs r) Q := by
  obtain ⟨j, rfl⟩ : ∃ j : Nat, r = j := ⟨r.toNat, by omega⟩
  have hj : j < xs.length := by omega
  exact wo_of (atI_nat (List.getElem?_eq_getElem hj)) (q _ (List.getElem_mem hj))
theorem bits_le {i : Int} (h0 : 0 ≤ i) (h : i < 2 ^ 250) : (bitsOf i : Int) * 3 ≤ 134217728 := by
  have : bitsOf i ≤ 251 := by
    show Builtin.Int.intBits i ≤ 251
    unfold Builtin.Int.intBits
    split
    · omega
    · have hi : i.natAbs < 2 ^ 250 := by omega
      have h2 : i.natAbs ≠ 0 := by
        rename_i h3
        intro z
        exact h3 (by simp; omega)
      have := (Nat.log2_lt h2).2 hi
      omega
  omega
theorem log_lt {m : Int} (h : 0 < m) (h2 : m < 2 ^ 256) : m.natAbs.log2 < 9000 := by
  have h3 : m.natAbs ≠ 0 := by omega
  have := (Nat.log2_lt (k := 256) h3).2 (by omega)
  omega
/-- the tray of draws: a rest, a seed, a count of at most c -/
def Tr (n c : Nat) (st : Store) : Prop := ∃ a b k : Int, st[n]? = some (some (.lst [.int a, .int b, .int k])) ∧ 0 ≤ a ∧ 0 ≤ b ∧ b < 10 ^ 45 ∧ 0 ≤ k ∧ k ≤ c
theorem Tr.mono {n c c' : Nat} (h : Tr n c st) (hc : c ≤ c') : Tr n c' st := by
  obtain ⟨a, b, k, e, h1, h2, h3, h4, h5⟩ := h
  exact ⟨a, b, k, e, h1, h2, h3, h4, by omega⟩

/-! ### slices -/
theorem cut_to {α : Type} (xs : List α) (k : Nat) : cutG xs none (some (k : Int)) = xs.take k := by
  unfold cutG
  rw [HT.sIx_nat, HT.sIx_none, List.drop_zero, Nat.sub_zero]
  rcases Nat.le_total k xs.length with h | h
  · rw [Nat.min_eq_left h]
  · rw [Nat.min_eq_right h, List.take_length, List.take_of_length_le h]
theorem cut_from {α : Type} (xs : List α) (k : Nat) : cutG xs (some (k : Int)) none = xs.drop k := by
  unfold cutG
  rw [HT.sIx_nat, HT.sIx_none]
  rcases Nat.le_total k xs.length with h | h
  · rw [Nat.min_eq_left h, List.take_of_length_le (by simp)]
  · rw [Nat.min_eq_right h, List.drop_length, List.drop_of_length_le h]; simp

/-! ### texts of small letters -/
def Low (s : List Nat) : Prop := ∀ c ∈ s, 97 ≤ c ∧ c ≤ 122
theorem Low.app {s t : List Nat} (h : Low s) (h2 : Low t) : Low (s ++ t) := fun c hc => (List.mem_append.1 hc).elim (h c) (h2 c)
theorem Low.drop {s : List Nat} (h : Low s) (k : Nat) : Low (s.drop k) := fun c hc => h c (List.mem_of_mem_drop hc)
theorem Low.take {s : List Nat} (h : Low s) (k : Nat) : Low (s.take k) := fun c hc => h c (List.mem_of_mem_take hc)
theorem repN_len {α : Type} (s : List α) (k : Int) : (repN s k).length = k.toNat * s.length := by
  unfold repN
  simp
theorem Low.rep {s : List Nat} (h : Low s) (k : Int) : Low (repN s k) := fun c hc => by
  unfold repN at hc
  obtain ⟨l, h1, h2⟩ := List.mem_flatten.1 hc
  rw [List.eq_of_mem_replicate h1] at h2
  exact h c h2

/-! ### repr and == of plain data -/
def rp (d : D) : List Nat := ((pyT d).shown).cps.toList
def Plain (d : D) : Prop := flat 40 d = true ∧ intsOk d = true ∧ rsz d ≤ 16000000
theorem repr_plain {d : D} (h : Plain d) : reprD [d] st = some (.str (rp d)) := by
  show (if reprOk (rsv st d) then some (D.str ((pyT (rsv st d)).shown).cps.toList) else none) = _
  rw [rsv_flat st 40 d h.1]
  have : reprOk d = true := by
    unfold reprOk
    rw [h.1, h.2.1, decide_eq_true h.2.2]
    rfl
  simp only [this, if_true]
  rfl
theorem flat_low {s : List Nat} (h : Low s) (k : Nat) : flat k (.str s) = true := by
  have : (s.all fun c => decide (c < 1114112)) = true := by
    rw [List.all_eq_true]
    intro c hc
    have := h c hc
    exact decide_eq_true (by omega)
  cases k <;> exact this
theorem eq_refl_plain {a : D} (h : flat 60 a = true) (hv : ∀ v, a ≠ .vv v) : cmpS .eq a a st = some true := by
  have : COp.sem .eq a a st = some true := eqD_refl h
  cases a <;> first | exact this | exact absurd rfl (hv _)
theorem ne_refl_plain {a : D} (h : flat 60 a = true) (hv : ∀ v, a ≠ .vv v) : cmpS .ne a a st = some false := by
  have : COp.sem .ne a a st = some false := by
    show (eqD a a st).map (!·) = _
    rw [eqD_refl h]
    rfl
  cases a <;> first | exact this | exact absurd rfl (hv _)

/-! ### the common start of two texts -/
def cp : List Nat → List Nat → Nat
  | x :: a, y :: b => if x = y then cp a b + 1 else 0
  | _, _ => 0
theorem cp_le : ∀ a b : List Nat, cp a b ≤ a.length ∧ cp a b ≤ b.length
  | [], _ => by simp [cp]
  | _ :: _, [] => by simp [cp]
  | x :: a, y :: b => by
    have := cp_le a b
    unfold cp
    split <;> simp <;> omega
theorem cp_get : ∀ (a b : List Nat) (j : Nat), j < cp a b → ∃ c, a[j]? = some c ∧ b[j]? = some c
  | [], _, _, h => by simp [cp] at h
  | _ :: _, [], _, h => by simp [cp] at h
  | x :: a, y :: b, j, h => by
    unfold cp at h
    split at h
    · rename_i e
      cases j with
      | zero => exact ⟨x, rfl, by rw [e]; rfl⟩
      | succ j => exact cp_get a b j (by omega)
    · omega
theorem cp_at : ∀ (a b : List Nat), cp a b < a.length → cp a b < b.length → ∃ c d, a[cp a b]? = some c ∧ b[cp a b]? = some d ∧ c ≠ d
  | [], _, h, _ => by simp at h
  | _ :: _, [], _, h => by simp at h
  | x :: a, y :: b, h1, h2 => by
    unfold cp at h1 h2 ⊢
    by_cases e : x = y
    · rw [if_pos e] at h1 h2 ⊢
      simp at h1 h2
      obtain ⟨c, d, q1, q2, q3⟩ := cp_at a b h1 h2
      exact ⟨c, d, by simpa using q1, by simpa using q2, q3⟩
    · rw [if_neg e]
      exact ⟨x, y, rfl, rfl, e⟩
theorem cp_take : ∀ (a b : List Nat) (m : Nat), m ≤ a.length → m ≤ b.length → (a.take m = b.take m ↔ m ≤ cp a b)
  | _, _, 0, _, _ => by simp
  | [], _, m + 1, h, _ => by simp at h
  | _ :: _, [], m + 1, _, h => by simp at h
  | x :: a, y :: b, m + 1, h1, h2 => by
    simp at h1 h2
    have ih := cp_take a b m h1 h2
    unfold cp
    by_cases e : x = y
    · rw [if_pos e]
      simp [e, ih]
    · rw [if_neg e]
      simp [e]
theorem cp_swap : ∀ a b : List Nat, cp a b = cp b a
  | [], [] => rfl
  | [], _ :: _ => rfl
  | _ :: _, [] => rfl
  | x :: a, y :: b => by
    unfold cp
    by_cases e : x = y
    · rw [if_pos e, if_pos e.symm, cp_swap a b]
    · rw [if_neg e, if_neg (fun z => e z.symm)]
theorem cp_app : ∀ c a b : List Nat, cp (c ++ a) (c ++ b) = c.length + cp a b
  | [], a, b => by simp
  | x :: c, a, b => by
    show cp (x :: (c ++ a)) (x :: (c ++ b)) = _
    have e : cp (x :: (c ++ a)) (x :: (c ++ b)) = cp (c ++ a) (c ++ b) + 1 := by conv => lhs; unfold cp; rw [if_pos rfl]
    rw [e, cp_app c a b, List.length_cons]
    omega
theorem cp_rest : ∀ a b : List Nat, cp (a.drop (cp a b)) (b.drop (cp a b)) = 0
  | [], [] => rfl
  | [], _ :: _ => rfl
  | _ :: _, [] => rfl
  | x :: a, y :: b => by
    by_cases e : x = y
    · have : cp (x :: a) (y :: b) = cp a b + 1 := by conv => lhs; unfold cp; rw [if_pos e]
      rw [this]
      exact cp_rest a b
    · have : cp (x :: a) (y :: b) = 0 := by unfold cp; rw [if_neg e]
      rw [this]
      exact this
theorem cp_pre (a b : List Nat) : cp a (a ++ b) = a.length := by
  have := cp_app a [] b
  rw [List.append_nil] at this
  rw [this]
  cases b <;> rfl
theorem comp_map (g : D → Env → Option Env) (f : Env → M D) (ρ₀ : Env) (h : D → D) (items acc : List D) (hd : ∀ d ∈ items, ∃ ρ1, g d ρ₀ = some ρ1 ∧ f ρ1 st = .ok (h d) st) (hz : acc.length + items.length ≤ sizeLine) :
    compGo g sYes f ρ₀ items acc st = .ok (acc ++ items.map h) st := by
  have := comp_pure (st := st) g sYes f ρ₀ (fun _ => true) h items acc (fun d hh => by
    obtain ⟨ρ1, e1, e2⟩ := hd d hh
    exact ⟨ρ1, e1, rfl, fun _ => e2⟩) hz
  rw [this, List.filter_eq_self.2 (fun _ _ => rfl)]
/-- the two rests behind the common start -/
def stp (a b : List Nat) : D := .tup [.str (a.drop (cp a b)), .str (b.drop (cp a b))]
theorem asBls_m {α : Type} (l : List α) (p : α → Bool) : asBls (l.map fun x => .bl (p x)) = some (l.map p) := by
  induction l with
  | nil => rfl
  | cons x l ih => simp [asBls, ih]
theorem asStrs_m {α : Type} (l : List α) (p : α → List Nat) : asStrs (l.map fun x => .str (p x)) = some (l.map p) := by
  induction l with
  | nil => rfl
  | cons x l ih => simp [asStrs, ih]
theorem asInts_m {α : Type} (l : List α) (p : α → Int) : asInts (l.map fun x => .int (p x)) = some (l.map p) := by
  induction l with
  | nil => rfl
  | cons x l ih => simp [asInts, ih]
theorem joinG_nil (ys : List (List Nat)) : joinG [] ys = ys.flatten := by
  induction ys with
  | nil => rfl
  | cons x r ih =>
    cases r with
    | nil => simp [joinG]
    | cons y r => simp [joinG] at ih ⊢; rw [ih]
theorem chars_of {P : Nat → Prop} : ∀ xs : List D, (∀ (i : Nat) x, xs[i]? = some x → ∃ c, x = .str [c] ∧ P c) → ∃ t, xs = chars t ∧ (∀ c ∈ t, P c) ∧ t.length = xs.length
  | [], _ => ⟨[], rfl, (fun c hc => by cases hc), rfl⟩
  | x :: r, h => by
    obtain ⟨c, rfl, hc⟩ := h 0 x rfl
    obtain ⟨t, rfl, ht, hl⟩ := chars_of r fun i y e => h (i + 1) y e
    exact ⟨c :: t, rfl, fun d hd => (List.mem_cons.1 hd).elim (fun e => e ▸ hc) (ht d), by simp [hl]⟩
theorem join_chars {t : List Nat} (h : t.length ≤ 1000000) : joinD (.str []) [.lst (chars t)] st = some (.str t, st) := by
  have e1 : asStrs (chars t) = some (t.map fun c => [c]) := asStrs_m t fun c => [c]
  have e2 : ((t.map fun c => [c]).map (·.length)).sum = t.length := by
    clear e1 h
    induction t with
    | nil => rfl
    | cons c t ih => simp at ih ⊢; omega
  have e3 : joinG [] (t.map fun c => [c]) = t := by
    rw [joinG_nil]
    clear e1 e2 h
    induction t with
    | nil => rfl
    | cons c t ih => simp at ih ⊢; exact ih
  show ((viewS st (.lst (chars t))).bind fun xs => (asStrs xs).bind fun ys => if (ys.map (·.length)).sum + ys.length * ([] : List Nat).length ≤ 16777216 then some (D.str (joinG [] ys), st) else none) = _
  rw [show viewS st (.lst (chars t)) = some (chars t) from rfl]
  simp only [Option.bind, e1, e2, e3]
  rw [if_pos (by simp; omega)]
theorem rng1_nat {r : Int} (h0 : 0 ≤ r) (h : r ≤ 1000000) : rng1 [.int r] = some (rng 0 r.toNat) := by
  exact if_pos (by omega)
theorem rng_ln (lo : Int) (n : Nat) : (rng lo n).length = n := by simp [rng]
theorem rng_gt {lo : Int} {n i : Nat} {d : D} (h : (rng lo n)[i]? = some d) : d = .int (lo + i) ∧ i < n := by
  unfold rng at h
  rw [List.getElem?_map] at h
  cases e : (List.range n)[i]? with
  | none => rw [e] at h; cases h
  | some j =>
    rw [e] at h
    cases h
    obtain ⟨h1, h2⟩ := List.getElem?_eq_some_iff.1 e
    simp at h1 h2
    exact ⟨by rw [h2], h1⟩
end
end PL
/-! PL14: xs[::-1], zip, chains of comparisons. -/
namespace HT
open PySem PySem.Spec PyProof.Rows
section
variable {prog : Program} {w : World} {A : Around} {E : Value → Shared → Prop} {s : Shared}
theorem places_rev (n : Nat) : Builtin.Slice.slicePlaces ((n : Int) - 1) (-1) (-1) = n := by
  unfold Builtin.Slice.slicePlaces
  have h1 : ¬ ((-1 : Int) > 0) := by omega
  simp only [h1, if_false]
  split
  · rw [show (- -1 : Int) = 1 by decide, Int.ediv_one]; omega
  · omega
theorem fm_congr {α β : Type} {f g : α → Option β} : ∀ {l : List α}, (∀ a ∈ l, f a = g a) → l.filterMap f = l.filterMap g
  | [], _ => rfl
  | a :: l, h => by
    rw [List.filterMap_cons, List.filterMap_cons, h a List.mem_cons_self, fm_congr fun b hb => h b (List.mem_cons_of_mem _ hb)]
theorem pick_rev (xs : Array Value) : ((List.range xs.size).filterMap fun (m : Nat) => xs[((xs.size : Int) - 1 + (m : Int) * -1).toNat]?).toArray = xs.toList.reverse.toArray := by
  have := PySem.W.krv_pick xs
  unfold slicePick at this
  rw [PySem.W.krv_bounds] at this
  have this : ((sliceRange ((xs.size : Int) - 1) (-1) (-1)).filterMap (xs[·]?)).toArray = _ := this
  rw [PySem.W.krv_sliceRange, List.filterMap_map] at this
  rw [← this]
  congr 1
  refine fm_congr ?_
  intro m hm
  have hm := List.mem_range.1 hm
  show xs[((xs.size : Int) - 1 + (m : Int) * -1).toNat]? = xs[xs.size - 1 - m]?
  rw [show ((xs.size : Int) - 1 + (m : Int) * -1).toNat = xs.size - 1 - m by omega]
theorem sliceApplied_rev {sl : Addr} {vs : Value} {n : Nat} {Q : Int × Int × Nat → Shared → Prop} (hs : s.heap.IsSliceOf sl .none .none vs) (ps : IsPart vs (some (-1)))
    (h : Q ((n : Int) - 1, -1, n) s) : wpAny (model prog w) A (Builtin.Slice.sliceApplied (.ref sl) (pure (n : Int))) Q E s := by
  obtain ⟨os, hos, hcs, hds⟩ := id hs
  unfold Builtin.Slice.sliceApplied Builtin.Slice.sliceFields
  refine wpAny_bind (wpAny_bind (wpAny_field hos hds (x := .none) rfl (wpAny_bind (wpAny_field hos hds (x := .none) rfl (wpAny_bind (wpAny_field hos hds (x := vs) rfl (wpAny_pure ?_)))))))
  refine wpAny_bind (slicePart_ ps ?_)
  show wpAny _ _ (if ((-1 : Int) == 0) = true then _ else _) _ _ s
  rw [if_neg (by decide)]
  refine wpAny_bind (slicePart_none (wpAny_bind (slicePart_none (wpAny_bind (wpAny_pure ?_)))))
  show wpAny _ _ (pure ((n : Int) - 1, (-1 : Int), Builtin.Slice.slicePlaces ((n : Int) - 1) (-1) (-1))) _ _ s
  rw [places_rev]
  exact wpAny_pure h
theorem getItem_tuple_rev {t sl : Addr} {items : Array Value} {vs : Value} {Q : Value → Shared → Prop} (ht : IsTup s.heap t items) (hs : s.heap.IsSliceOf sl .none .none vs) (ps : IsPart vs (some (-1)))
    (h : Q (.ref s.heap.objs.size) { s with heap := s.heap.push { cls := .type "tuple", data := .seq items.toList.reverse.toArray } })
    (hsz : items.size ≤ sizeLine) : wpAny (model prog w) A (getItem (.ref t) (.ref sl)) Q E s := by
  have htake : sizeOk (.seq items.toList.reverse.toArray) := by
    show items.toList.reverse.toArray.size ≤ sizeLine
    simpa using hsz
  obtain ⟨os, hos, hcs, hds⟩ := id hs
  have hTs : s.TypeIs (.ref sl) "slice" := ⟨os, hos, hcs⟩
  unfold getItem
  try with_reducible refine wpAny_holding ?_
  first | refine wpAny_bind (wpAny_pure ?_) | skip
  refine wpAny_bind (wpAny_sequenceKey ht.typeIs (by decide) ?_)
  refine wpAny_bind (wpAny_callSpecial?_slot (name := Str.ofString "__getitem__") ht.typeIs PyProof.Rows.slot_tuple_getitem
    (wpAny_call_entry PyProof.Rows.slot_tuple_getitem ht.typeIs entry_tuple_getitem ?_ (args_tuple_getitem _ _)))
  show wpAny _ _ (Builtin.Tuple.tupleItemsOf (.ref t) >>= _) _ _ s
  refine wpAny_bind (tupleItemsOf_ ht ?_)
  refine wpAny_bind (wpAny_typeOf hTs ?_)
  rw [if_pos (by decide)]
  refine wpAny_bind (sliceApplied_rev hs ps ?_)
  have hno : ¬ ((((items.size : Int) - 1) == 0 && (-1 : Int) == 1 && items.size == items.size) = true) := by
    intro q
    rw [Bool.and_eq_true, Bool.and_eq_true] at q
    exact absurd q.1.2 (by decide)
  show wpAny _ _ (if (((items.size : Int) - 1) == 0 && (-1 : Int) == 1 && items.size == items.size) = true then _ else _) _ _ s
  rw [if_neg hno, pick_rev]
  first
    | exact wpAny_bind (m := Builtin.Tuple.tupleExact _) (wpAny_newObj_type (wpAny_pure ⟨_, rfl, wpAny_pure h⟩) htake)
    | exact wpAny_bind (m := Builtin.Tuple.tupleExact _) (wpAny_newObj_type (wpAny_bind (wpAny_pure (wpAny_pure ⟨_, rfl, wpAny_pure h⟩))) htake)
    | exact wpAny_bind (wpAny_bind (m := Builtin.Tuple.tupleExact _) (wpAny_newObj_type (wpAny_pure (wpAny_pure ⟨_, rfl, wpAny_pure h⟩)) htake))
    | exact wpAny_bind (wpAny_bind (m := Builtin.Tuple.tupleExact _) (wpAny_newObj_type (wpAny_pure ⟨_, rfl, wpAny_pure h⟩) htake))
end
end HT
namespace L2
open PySem PySem.Spec PyProof.Rows
section
variable {X : Cx}
/-- lists and tuples -/
def tRevA (K : PySem.W.Frag) (te : TE) : TE := fun σ H Q => te σ H fun x H1 => (∃ a xs, x = .ref a ∧ SqL K H1 a xs ∧ ∀ p, H1 p = none → Q (.ref p) (upd H1 p (.lst xs.reverse))) ∨ (∃ a xs, x = .ref a ∧ SqT K H1 a xs ∧ ∀ p, H1 p = none → Q (.ref p) (upd H1 p (.tup xs.reverse)))
theorem pe_revA {e : Expr} {te : TE} {k : Nat} {p1 p2 p3 pos : Pos} (he : PE X e te) : PE X (.Subscript e (.Slice none none (some (.UnaryOp .USub (.Constant (.int 1) k p1) p2)) p3) pos) (tRevA X.K te) := by
  refine ⟨fun pins s σ H Q I h => ?_⟩
  refine Subscript_ (thn (he.run pins s σ H _ I h) fun v s1 ⟨x, H1, I1, r1, q1⟩ => ?_)
  have hst : PO X (some (.UnaryOp .USub (.Constant (.int 1) k p1) p2)) (tPart (tUn (rU fun i => .int (-i)) (tC (.int 1)))) := po_some (pe_un un_neg pe_int)
  refine wpAny_Slice (thn (po_none.run pins s1 σ H1 (fun o H2 => o = none ∧ H2 = H1) I1 ⟨rfl, rfl⟩) fun vl s2 ⟨l, H2, I2, pl, el, e2⟩ => ?_)
  subst el e2
  refine thn (po_none.run pins s2 σ H2 (fun o H3 => o = none ∧ H3 = H2) I2 ⟨rfl, rfl⟩) fun vu s3 ⟨u, H3, I3, pu, eu, e3⟩ => ?_
  subst eu e3
  refine thn (hst.run pins s3 σ H3 (fun o H4 => o = some (-1) ∧ H4 = H3) I3 ⟨1, rfl, -1, rfl, rfl, rfl⟩) fun vs s4 ⟨o, H4, I4, ps, eo, e4⟩ => ?_
  subst eo e4
  have I5 : Inv X pins σ H4 { s4 with heap := s4.heap.push { cls := .type "slice", data := .fields #[vl, vu, vs] } } := I4.kept (t' := s4.toks) fun b ob q => Heap.get?_push_of_some _ q
  rcases q1 with ⟨a, xs, ex, hx, q⟩ | ⟨a, xs, ex, hx, q⟩
  · subst ex
    cases r1
    obtain ⟨its, r, ht, hz⟩ := I5.list hx
    have hlen := r.length
    show wpAny (model X.prog X.w) X.A (subscriptTail e (.Slice none none (some (.UnaryOp .USub (.Constant (.int 1) k p1) p2)) p3) (.ref a) (.ref s4.heap.objs.size)) (EP X pins σ Q) X.xe { s4 with heap := s4.heap.push { cls := .type "slice", data := .fields #[vl, vu, vs] } }
    refine tail_any (ops := [.ref a, .ref s4.heap.objs.size]) ht.isList.typeIs (PySem.slot_list_getitem.lookup) ?_ (by with_unfolding_all rfl)
    refine wpAny_getItem_list_slice ht.isList (Heap.IsSliceOf.new _ vl vu vs) pl pu ps (by decide) ?_ (by rw [List.size_toArray]; omega)
    rw [PySem.W.krv_pick]
    refine ⟨.ref _, _, I5.laid (t' := s4.toks) (o := .lst xs.reverse) (fun b ob q => Heap.get?_push_of_some _ q) (Nat.le_refl _) ?_, rfl, q _ (I5.hok.fresh (Nat.le_refl _))⟩
    exact ⟨by rw [List.length_reverse]; exact hz, _, 0, r.reverse, Heap.get?_push_size _ rfl⟩
  · subst ex
    cases r1
    obtain ⟨its, r, ht, hz⟩ := I5.tuple hx
    have hlen := r.length
    cases pl
    cases pu
    show wpAny (model X.prog X.w) X.A (subscriptTail e (.Slice none none (some (.UnaryOp .USub (.Constant (.int 1) k p1) p2)) p3) (.ref a) (.ref s4.heap.objs.size)) (EP X pins σ Q) X.xe { s4 with heap := s4.heap.push { cls := .type "slice", data := .fields #[.none, .none, vs] } }
    refine tail_any (ops := [.ref a, .ref s4.heap.objs.size]) ht.typeIs (PyProof.Rows.slot_tuple_getitem.lookup) ?_ (by with_unfolding_all rfl)
    refine HT.getItem_tuple_rev ht (Heap.IsSliceOf.new _ .none .none vs) ps ?_ (by rw [List.size_toArray]; omega)
    refine ⟨.ref _, _, I5.laid (t' := s4.toks) (o := .tup xs.reverse) (fun b ob q => Heap.get?_push_of_some _ q) (Nat.le_refl _) ?_, rfl, q _ (I5.hok.fresh (Nat.le_refl _))⟩
    exact ⟨by rw [List.length_reverse]; exact hz, _, r.reverse, IsTup.new _ _⟩
end
end L2
namespace PL
open PySem PySem.Spec PyProof.Rows L2
section
variable {X : Cx} {W : WX}
def revD (d : D) (st : Store) : Option D := match d with
  | .tup xs => some (.tup xs.reverse)
  | d => (viewL st d).map fun xs => .lst xs.reverse
def sRev (f : Env → M D) : Env → M D := fun ρ => bnd (f ρ) fun a st => ofO (revD a st) st
theorem reps_rev {K : PySem.W.Frag} {w : Wd} {xs : List D} {vs : List V} (r : Reps K w xs vs) : Reps K w xs.reverse vs.reverse := by
  induction xs generalizing vs with
  | nil =>
    obtain rfl : vs = [] := r
    exact reps_nil
  | cons x xs ih =>
    obtain ⟨v, r, rfl, h1, h2⟩ := r
    rw [List.reverse_cons, List.reverse_cons]
    exact (ih h2).app (reps_cons h1 reps_nil)
theorem de_rev {e : Expr} {f : Env → M D} {k : Nat} {p1 p2 p3 pos : Pos} (he : DE X W e f) : DE X W (.Subscript e (.Slice none none (some (.UnaryOp .USub (.Constant (.int 1) k p1) p2)) p3) pos) (sRev f) := by
  refine (pe_revA he).imp fun σ H Q q => ?_
  refine (tX.seq0 (R1 := Rep X.K) q).imp fun x H1 ⟨da, h1⟩ => ?_
  obtain ⟨w, ρ, rfl, ok, re, ⟨_, r1⟩, q⟩ := h1
  obtain ⟨d, e1, q⟩ := at_of (K := X.K) rfl q
  have lists : ((viewL w.st da).map fun xs => D.lst xs.reverse) = some d → ∃ a xs, x = .ref a ∧ SqL X.K w.H a xs ∧ ∀ p, w.H p = none → Q (.ref p) (upd w.H p (.lst xs.reverse)) := fun h => by
    cases e : viewL w.st da with
    | none => rw [e] at h; cases h
    | some xs =>
      rw [e] at h
      cases h
      obtain ⟨a, vs, ea, h1, r1⟩ := view_rep ok e r1
      exact ⟨a, vs, ea, SqL.of h1, q.lst ok (reps_rev r1)⟩
  cases da with
  | tup xs =>
    cases e1
    obtain ⟨a, vs, ea, h1, r1⟩ := r1
    exact .inr ⟨a, vs, ea, h1, q.tup ok (reps_rev r1)⟩
  | lst xs => exact .inl (lists e1)
  | ref n => exact .inl (lists e1)
  | non => cases e1
  | bl b => cases e1
  | int i => cases e1
  | str i => cases e1
  | scr ns => cases e1
  | vv u => cases e1
  | emp => cases e1
  | exn _ _ _ => cases e1

/-! ### zip -/
def zipD : List D → Option (List D)
  | [.tup xs, .tup ys] => some (xs.zipWith (fun x y => .tup [x, y]) ys)
  | [.lst xs, .lst ys] => some (xs.zipWith (fun x y => .tup [x, y]) ys)
  | _ => none
def sZip (g : Env → M (List D)) : Env → M (List D) := fun ρ => bnd (g ρ) fun ds st => ofO (zipD ds) st
theorem zip_get {xs ys : List D} {i : Nat} {d : D} (h : (xs.zipWith (fun x y => D.tup [x, y]) ys)[i]? = some d) : ∃ x y, xs[i]? = some x ∧ ys[i]? = some y ∧ d = .tup [x, y] := by
  rw [List.getElem?_zipWith] at h
  cases e1 : xs[i]? with
  | none => rw [e1] at h; cases h
  | some x =>
    cases e2 : ys[i]? with
    | none => rw [e1, e2] at h; cases h
    | some y => rw [e1, e2] at h; cases h; exact ⟨x, y, rfl, rfl, rfl⟩
theorem zip_end (xs ys : List D) : xs.length ≤ (xs.zipWith (fun x y => D.tup [x, y]) ys).length ∨ ys.length ≤ (xs.zipWith (fun x y => D.tup [x, y]) ys).length := by
  rw [List.length_zipWith]; omega
theorem itok_zipL {K : PySem.W.Frag} {w : Wd} {xs ys : List D} {a b : Addr} (r : Rep K w (.lst xs) (.ref a)) (r2 : Rep K w (.lst ys) (.ref b)) : ItOk K w (xs.zipWith (fun x y => .tup [x, y]) ys) (Itz K a b) := by
  intro w1 g ok1
  obtain ⟨a', vs, ea, h1, _, h3⟩ := Rep.ext g _ _ r
  obtain ⟨b', us, eb, k1, _, k3⟩ := Rep.ext g _ _ r2
  obtain rfl : a = a' := V.ref.inj ea
  obtain rfl : b = b' := V.ref.inj eb
  have hq : SqL K w1.H a vs := SqL.of h1
  have kq : SqL K w1.H b us := SqL.of k1
  refine ⟨fun i d hd => ?_, ⟨vs, us, hq, kq, ?_⟩⟩
  · obtain ⟨x, y, e1, e2, rfl⟩ := zip_get hd
    obtain ⟨v, hv, rv⟩ := h3.get e1
    obtain ⟨u, hu, ru⟩ := k3.get e2
    refine ⟨⟨vs, us, v, u, hq, kq, hv, hu⟩, fun z H' ⟨T, v', u', ez, hT, eH, f1, f2⟩ => ?_⟩
    have e3 := f1 vs hq
    have e4 := f2 us kq
    rw [hv] at e3
    rw [hu] at e4
    cases e3
    cases e4
    subst ez eH
    exact ⟨w1.put T (.tup [v, u]), rfl, Grow.new ok1 hT, ok1.new hT, rfl, rep_newT ok1 hT (reps_cons rv (reps_cons ru reps_nil))⟩
  · rw [← h3.length, ← k3.length]
    exact zip_end xs ys
theorem itok_zipT {K : PySem.W.Frag} {w : Wd} {xs ys : List D} {a b : Addr} (r : Rep K w (.tup xs) (.ref a)) (r2 : Rep K w (.tup ys) (.ref b)) : ItOk K w (xs.zipWith (fun x y => .tup [x, y]) ys) (RZ.ItzT K a b) := by
  intro w1 g ok1
  obtain ⟨a', vs, ea, hq, h3⟩ := Rep.ext g _ _ r
  obtain ⟨b', us, eb, kq, k3⟩ := Rep.ext g _ _ r2
  obtain rfl : a = a' := V.ref.inj ea
  obtain rfl : b = b' := V.ref.inj eb
  refine ⟨fun i d hd => ?_, ⟨vs, us, hq, kq, ?_⟩⟩
  · obtain ⟨x, y, e1, e2, rfl⟩ := zip_get hd
    obtain ⟨v, hv, rv⟩ := h3.get e1
    obtain ⟨u, hu, ru⟩ := k3.get e2
    refine ⟨⟨vs, us, v, u, hq, kq, hv, hu⟩, fun z H' ⟨T, v', u', ez, hT, eH, f1, f2⟩ => ?_⟩
    have e3 := f1 vs hq
    have e4 := f2 us kq
    rw [hv] at e3
    rw [hu] at e4
    cases e3
    cases e4
    subst ez eH
    exact ⟨w1.put T (.tup [v, u]), rfl, Grow.new ok1 hT, ok1.new hT, rfl, rep_newT ok1 hT (reps_cons rv (reps_cons ru reps_nil))⟩
  · rw [← h3.length, ← k3.length]
    exact zip_end xs ys
theorem di_zip {elts : List Expr} {kk : Nat} {tpos : Pos} {e e2 : Expr} {p pos : Pos} {f : Env → M (List D)} (hm : X.mg "zip" = none) (ha : DA X W [e, e2] f) (hg : Gl X "zip" := by rfl) (hs : starEach [e, e2] X.env = (false, eval e X.env) :: starEach [e2] X.env := by rfl) (hpl : (backTo pos (starEach [e2] X.env)).any (·.1) = false := by rfl) :
    DI X W (.Tuple elts kk tpos) (.Call (.Name "zip" p) [e, e2] [] pos) (sZip f) := by
  refine pi_imp (RZ.pi_zipA hg hm ha hs hpl) fun σ H R h => ?_
  refine (tIx.seq (R1 := Reps X.K) h).imp fun vs H1 ⟨ds, w, items, e1, ok, r, hk, q⟩ => ?_
  subst e1
  unfold zipD at hk
  split at hk
  · rename_i xs ys
    cases hk
    obtain ⟨v, _, rfl, rv, u, _, rfl, ru, rfl⟩ := r
    · skip
      obtain ⟨a, z1, ea, h1, k1⟩ := id rv
      obtain ⟨b, z2, eb, h2, k2⟩ := id ru
      subst ea eb
      exact ⟨a, b, z1, z2, rfl, .inr ⟨h1, h2, q w (Grow.refl w) ok rfl _ (itok_zipT rv ru)⟩⟩
  · rename_i xs ys
    cases hk
    obtain ⟨v, _, rfl, rv, u, _, rfl, ru, rfl⟩ := r
    · skip
      obtain ⟨a, z1, ea, h1, l1, k1⟩ := id rv
      obtain ⟨b, z2, eb, h2, l2, k2⟩ := id ru
      subst ea eb
      exact ⟨a, b, z1, z2, rfl, .inl ⟨SqL.of h1, SqL.of h2, q w (Grow.refl w) ok rfl _ (itok_zipL rv ru)⟩⟩
  · cases hk

/-! ### a < b < c -/
def tChn (op op' : COp) (f g h : Env → M D) : Env → M Bool := fun ρ => bnd (f ρ) fun a => bnd (g ρ) fun b => bnd (fun st => ofO (cmpS op a b st) st) fun k => if k then bnd (h ρ) fun c => fun st => ofO (cmpS op' b c st) st else ret false
def sChn (op op' : COp) (f g h : Env → M D) : Env → M D := fun ρ => bnd (f ρ) fun a => bnd (g ρ) fun b => bnd (fun st => ofO (cmpS op a b st) st) fun k => if k then bnd (h ρ) fun c => fun st => ofO ((cmpS op' b c st).map D.bl) st else ret (.bl false)
theorem chn_eq (op op' : COp) (f g h : Env → M D) : sOfB (tChn op op' f g h) = sChn op op' f g h := by
  funext ρ st
  show ((f ρ st).bnd _).bnd _ = (f ρ st).bnd _
  cases f ρ st with
  | bad => rfl
  | exc e st1 => rfl
  | ok a st1 =>
    show ((g ρ st1).bnd _).bnd _ = (g ρ st1).bnd _
    cases g ρ st1 with
    | bad => rfl
    | exc e st2 => rfl
    | ok b st2 =>
      show ((ofO (cmpS op a b st2) st2).bnd _).bnd _ = (ofO (cmpS op a b st2) st2).bnd _
      cases cmpS op a b st2 with
      | none => rfl
      | some k =>
        cases k with
        | false => rfl
        | true =>
          show ((h ρ st2).bnd _).bnd _ = (h ρ st2).bnd _
          cases h ρ st2 with
          | bad => rfl
          | exc e st3 => rfl
          | ok c st3 =>
            show ((ofO (cmpS op' b c st3) st3).bnd _) = ofO ((cmpS op' b c st3).map D.bl) st3
            cases cmpS op' b c st3 <;> rfl
theorem chn_imp {op op' : COp} {f g h : Env → M D} {σ : L2.St} {H : Hp} {Q : VK} (q : tX (cx X W) (Rep X.K) T0 (sOfB (tChn op op' f g h)) σ H Q) :
    tChain (rCmp X.K (cmpS op)) (rCmp X.K (cmpS op')) (tX (cx X W) (Rep X.K) T0 f) (tX (cx X W) (Rep X.K) T0 g) (tX (cx X W) (Rep X.K) T0 h) σ H Q := by
  rw [chn_eq] at q
  refine (tX.seq0 (R1 := Rep X.K) q).imp fun x H1 ⟨da, h1⟩ => ?_
  refine ((tX.seq (R1 := Rep X.K) (mono_and mono0 monoRep) h1).weak).imp fun y H2 ⟨db, h2⟩ => ?_
  obtain ⟨w, ρ, rfl, ok, re, ⟨⟨t0, r1⟩, r2⟩, q⟩ := h2
  have q : Post (cx X W) (Rep X.K) w ((ofO (cmpS op da db w.st) w.st : Res Bool).bnd fun k => if k then bnd (h ρ) fun c => fun st => ofO ((cmpS op' db c st).map D.bl) st else ret (.bl false)) Q _ := q
  cases e : cmpS op da db w.st with
  | none => rw [e] at q; exact q.elim
  | some b =>
    rw [e] at q
    refine ⟨w, da, db, b, rfl, ok, r1, r2, e, b, rfl, ?_⟩
    cases b with
    | false =>
      rw [if_neg Bool.false_ne_true]
      exact q w (Grow.refl w) ok rfl _ rfl
    | true =>
      rw [if_pos rfl]
      have h3 : tX (cx X W) (Rep X.K) (fun w => T0 w ∧ Rep X.K w db y) (fun ρ => bnd (h ρ) fun c => fun st => ofO ((cmpS op' db c st).map D.bl) st) σ w.H Q := ⟨w, ρ, rfl, ok, re, ⟨t0, r2⟩, q⟩
      refine ((tX.seq (R1 := Rep X.K) (mono_and mono0 monoRep) h3).weak).imp fun z H4 ⟨dc, h4⟩ => ?_
      obtain ⟨w2, ρ2, rfl, ok2, re2, ⟨⟨_, r4⟩, r5⟩, q⟩ := h4
      have q : Post (cx X W) (Rep X.K) w2 (ofO ((cmpS op' db dc w2.st).map D.bl) w2.st) Q _ := q
      cases e2 : cmpS op' db dc w2.st with
      | none => rw [e2] at q; exact q.elim
      | some b2 =>
        rw [e2] at q
        exact ⟨w2, db, dc, b2, rfl, ok2, r4, r5, e2, q w2 (Grow.refl w2) ok2 rfl _ rfl⟩
theorem de_chn (op op' : COp) {a b c : Expr} {f g h : Env → M D} {o o' : CmpOp} {pos : Pos} (hu : X.A.units + 65 < cLine) (ha : DE X W a f) (hb : DE X W b g) (hc : DE X W c h) (ho : op.ast = o := by rfl) (ho' : op'.ast = o' := by rfl) (hm : lastMarks [o, o'] [b, c] = false := by with_unfolding_all rfl) :
    DE X W (.Compare a [o, o'] [b, c] pos) (sOfB (tChn op op' f g h)) := by
  subst ho ho'
  exact (pe_chain (cmp_any op hu) (cmp_any op' hu) ha hb hc hm).imp fun σ H Q q => chn_imp q
theorem dt_chn (op op' : COp) {a b c : Expr} {f g h : Env → M D} {o o' : CmpOp} {pos : Pos} (hu : X.A.units + 65 < cLine) (ha : DE X W a f) (hb : DE X W b g) (hc : DE X W c h) (ho : op.ast = o := by rfl) (ho' : op'.ast = o' := by rfl) (hm : lastMarks [o, o'] [b, c] = false := by with_unfolding_all rfl) :
    DT X W (.Compare a [o, o'] [b, c] pos) (tChn op op' f g h) := by
  subst ho ho'
  refine (pt_chain (cmp_any op hu) (cmp_any op' hu) ha hb hc hm).imp fun σ H Q q => ?_
  have h2 : tX (cx X W) (Rep X.K) T0 (sOfB (tChn op op' f g h)) σ H fun x H1 => ∃ k, x = V.bl k ∧ Q k H1 := by
    obtain ⟨w, ρ, e, ok, re, p, q⟩ := q
    refine ⟨w, ρ, e, ok, re, p, ?_⟩
    show Post (cx X W) (Rep X.K) w ((tChn op op' f g h ρ w.st).bnd fun k => ret (.bl k)) _ _
    cases e3 : tChn op op' f g h ρ w.st with
    | bad => rw [e3] at q; exact q
    | exc x st => rw [e3] at q; exact q
    | ok k st =>
      rw [e3] at q
      exact fun w' g' ok' es v hv => ⟨k, hv, q w' g' ok' es k rfl⟩
  exact chn_imp h2
@[simp] theorem wp_rev {X : Exc → Store → Prop} {ρ : Env} {st : Store} {Q : D → Store → Prop} (f : Env → M D) : wp (sRev f ρ st) X Q = wp (f ρ st) X fun a st1 => wo (revD a st1) fun d => Q d st1 := by simp only [sRev, bnd, wp_bnd, wp_ofO]
@[simp] theorem wp_zip {X : Exc → Store → Prop} {ρ : Env} {st : Store} {Q : List D → Store → Prop} (f : Env → M (List D)) : wp (sZip f ρ st) X Q = wp (f ρ st) X fun a st1 => wo (zipD a) fun d => Q d st1 := by simp only [sZip, bnd, wp_bnd, wp_ofO]
@[simp] theorem wp_chn {X : Exc → Store → Prop} {ρ : Env} {st : Store} {Q : Bool → Store → Prop} (op op' : COp) (f g h : Env → M D) : wp (tChn op op' f g h ρ st) X Q = wp (f ρ st) X fun a st1 => wp (g ρ st1) X fun b st2 => wo (cmpS op a b st2) fun k => if k = true then wp (h ρ st2) X fun c st3 => wo (cmpS op' b c st3) fun k2 => Q k2 st3 else Q false st2 := by
  simp only [tChn, bnd, wp_bnd, wp_ofO, wp_if2, wp_ret]
theorem ds_par3 (i j l : Nat) {x y z : Str} {a b c : Expr} {f : Env → M (List D)} {px py pz pt pos : Pos} {kt k2 pt2} (hc : X.calm = true) (hN : X.N.Nodup) (hi : X.N[i]? = some x) (hj : X.N[j]? = some y) (hl : X.N[l]? = some z) (hij : i ≠ j) (hil : i ≠ l) (hjl : j ≠ l)
    (hx : X.env.scope.names.lookup x = some .local) (hy : X.env.scope.names.lookup y = some .local) (hz : X.env.scope.names.lookup z = some .local) (ha : DA X W [a, b, c] f)
    (hw : swappedStores [.Tuple [.Name x px, .Name y py, .Name z pz] kt pt] (.Tuple [a, b, c] k2 pt2) X.env = pure (some [x, y, z]))
    (hs : swapsWithSole [.Tuple [.Name x px, .Name y py, .Name z pz] kt pt] (.Tuple [a, b, c] k2 pt2) pos.line X.env = pure false := by rfl) :
    DS X W (.Assign [.Tuple [.Name x px, .Name y py, .Name z pz] kt pt] (.Tuple [a, b, c] k2 pt2) pos) (sPar3 i j l f) :=
  PS.imp (ps_par3 hc hN hi hj hl hij hil hjl hx hy hz ha hw hs) fun D σ H h => (then_imp (R := Reps X.K) h).imp fun z H1 ⟨w, ρ, ds, e1, ok, re, r, q⟩ => by
    subst e1
    match ds, r, q with
    | [], _, q => exact q.elim
    | [_], _, q => exact q.elim
    | [_, _], _, q => exact q.elim
    | _ :: _ :: _ :: _ :: _, _, q => exact q.elim
    | [d1, d2, d3], r, q =>
      obtain ⟨u, v, t, rfl, r1, r2, r3⟩ := reps3 r
      exact ⟨u, v, t, rfl, q w (Grow.refl w) ok rfl _ (((re.set i r1).set j r2).set l r3)⟩
@[simp] theorem ws_par3 {ρ : Env} {st : Store} {k : SK} (i j l : Nat) (f : Env → M (List D)) : ws (sPar3 i j l f ρ st) k = wp (f ρ st) (fun e st1 => k.ex e ρ st1) fun ds st1 => wo (match ds with | [a, b, c] => some (((ρ.set i (some a)).set j (some b)).set l (some c)) | _ => none) fun ρ1 => k.nx ρ1 st1 := by
  unfold sPar3; rw [ws_then]
  congr; funext ds st1
  match ds with
  | [] => rfl
  | [a] => rfl
  | [a, b] => rfl
  | [a, b, c] => rfl
  | a :: b :: c :: d :: r => rfl
end
end PL
/-! PL15: rows, products, their words. -/
namespace PL
open PySem PySem.Spec PyProof.Rows L2
abbrev Wo := List Nat
def rowD (ws : List Wo) : D := .tup (ws.map .str)
def prodD (ps : List (List Wo)) : D := .tup (ps.map rowD)
/-- a row of at most m words of at most l small letters -/
def Rw (m l : Nat) (ws : List Wo) : Prop := ws ≠ [] ∧ ws.length ≤ m ∧ ∀ w ∈ ws, Low w ∧ w.length ≤ l
def Pr (r m l : Nat) (ps : List (List Wo)) : Prop := ps ≠ [] ∧ ps.length ≤ r ∧ ∀ ws ∈ ps, Rw m l ws
theorem Rw.mono {m m' l l' : Nat} {ws : List Wo} (h : Rw m l ws) (h1 : m ≤ m') (h2 : l ≤ l') : Rw m' l' ws := ⟨h.1, Nat.le_trans h.2.1 h1, fun w hw => ⟨(h.2.2 w hw).1, Nat.le_trans (h.2.2 w hw).2 h2⟩⟩
section
variable {X : Exc → Store → Prop} {st : Store}
theorem flats_map {α : Type} {k : Nat} {f : α → D} {l : List α} (h : ∀ x ∈ l, flat k (f x) = true) : flats k (l.map f) = true := by
  induction l with
  | nil => cases k <;> rfl
  | cons x l ih =>
    have h1 := h x List.mem_cons_self
    have h2 := ih fun y hy => h y (List.mem_cons_of_mem _ hy)
    rw [List.map_cons]
    show flats k (f x :: l.map f) = true
    unfold flats
    rw [h1, h2]; rfl
theorem intsOks_map {α : Type} {f : α → D} {l : List α} (h : ∀ x ∈ l, intsOk (f x) = true) : intsOks (l.map f) = true := by
  induction l with
  | nil => rfl
  | cons x l ih =>
    rw [List.map_cons]
    unfold intsOks
    rw [h x List.mem_cons_self, ih fun y hy => h y (List.mem_cons_of_mem _ hy)]; rfl
theorem rszs_map {α : Type} {f : α → D} {l : List α} {B : Nat} (h : ∀ x ∈ l, rsz (f x) ≤ B) : rszs (l.map f) ≤ l.length * (B + 2) := by
  induction l with
  | nil => simp [rszs]
  | cons x l ih =>
    rw [List.map_cons]
    unfold rszs
    have h1 := h x List.mem_cons_self
    have h2 := ih fun y hy => h y (List.mem_cons_of_mem _ hy)
    rw [List.length_cons, Nat.succ_mul]
    omega
theorem flat_tup {k : Nat} {xs : List D} (h : flats k xs = true) : flat (k + 1) (.tup xs) = true := h
theorem flat_lst {k : Nat} {xs : List D} (h : flats k xs = true) : flat (k + 1) (.lst xs) = true := h
theorem flat_row {m l : Nat} {ws : List Wo} (h : Rw m l ws) (k : Nat) : flat (k + 1) (rowD ws) = true := flat_tup (flats_map fun w hw => flat_low (h.2.2 w hw).1 k)
theorem flat_prod {r m l : Nat} {ps : List (List Wo)} (h : Pr r m l ps) (k : Nat) : flat (k + 2) (prodD ps) = true := flat_tup (flats_map fun w hw => flat_row (h.2.2 w hw) k)
theorem rsz_row {m l : Nat} {ws : List Wo} (h : Rw m l ws) : rsz (rowD ws) ≤ m * (10 * l + 4) + 3 := by
  have : rszs (ws.map D.str) ≤ ws.length * (10 * l + 2 + 2) := rszs_map fun w hw => by
    show 10 * w.length + 2 ≤ _
    have := (h.2.2 w hw).2
    omega
  rw [show 10 * l + 2 + 2 = 10 * l + 4 by omega] at this
  show rszs (ws.map D.str) + 3 ≤ _
  have h2 := Nat.mul_le_mul_right (10 * l + 4) h.2.1
  omega
theorem plain_prod {r m l : Nat} {ps : List (List Wo)} (h : Pr r m l ps) (hz : r * (m * (10 * l + 4) + 5) + 3 ≤ 16000000) : Plain (prodD ps) := by
  refine ⟨flat_prod h 38, intsOks_map fun ws hw => intsOks_map fun w hw => rfl, ?_⟩
  have : rszs (ps.map rowD) ≤ ps.length * (m * (10 * l + 4) + 3 + 2) := rszs_map fun w hw => rsz_row (h.2.2 w hw)
  rw [show m * (10 * l + 4) + 3 + 2 = m * (10 * l + 4) + 5 by omega] at this
  show rszs (ps.map rowD) + 3 ≤ _
  have h2 := Nat.mul_le_mul_right (m * (10 * l + 4) + 5) h.2.1
  omega
theorem ne_nil_tup {xs : List D} (h : flat 60 (.tup xs) = true) (h0 : xs ≠ []) : cmpS .ne (.tup xs) (.tup []) st = some true := by
  show (eqD (.tup xs) (.tup []) st).map (!·) = _
  cases xs with
  | nil => exact absurd rfl h0
  | cons x xs =>
    unfold eqD
    simp only
    rw [rsv_flat st 60 _ h, rsv_flat st 60 (.tup []) rfl, h]
    rfl
theorem eq_some {a b : D} (ha : flat 60 a = true) (hb : flat 60 b = true) (hv : ∀ v, a ≠ .vv v) : ∃ c, cmpS .eq a b st = some c := by
  have h : ∃ c, COp.sem .eq a b st = some c := by
    show ∃ c, eqD a b st = some c
    unfold eqD
    split
    · exact ⟨_, rfl⟩
    · exact ⟨_, rfl⟩
    · exact ⟨_, rfl⟩
    · rw [rsv_flat st 60 _ ha, rsv_flat st 60 _ hb, ha, hb]
      exact ⟨_, rfl⟩
  cases a <;> first | exact h | exact absurd rfl (hv _)
theorem asBls_of : ∀ xs : List D, (∀ (i : Nat) x, xs[i]? = some x → ∃ b, x = .bl b) → ∃ bs, asBls xs = some bs
  | [], _ => ⟨[], rfl⟩
  | x :: xs, h => by
    obtain ⟨b, rfl⟩ := h 0 x rfl
    obtain ⟨bs, e⟩ := asBls_of xs fun i y hy => h (i + 1) y hy
    exact ⟨b :: bs, by simp [asBls, e]⟩
/-- an inner text -/
theorem all_map {α : Type} (l : List α) (f : α → D) (h : ∀ x ∈ l, f x = .bl true) : allD [.lst (l.map f)] st = some (.bl true) := by
  have e : l.map f = l.map fun _ => D.bl true := List.map_congr_left h
  have := asBls_m l (fun _ => true)
  show (viewL st (.lst (l.map f))).bind (fun xs => (asBls xs).map fun ns => D.bl (ns.all id)) = _
  rw [e]
  simp only [viewL, Option.bind, this, Option.map]
  simp

/-! ### the store grows -/
def Sx (st st' : Store) : Prop := ∃ t, st' = st ++ t
theorem Sx.refl (st : Store) : Sx st st := ⟨[], (List.append_nil st).symm⟩
theorem Sx.trans {a b c : Store} (h : Sx a b) (h2 : Sx b c) : Sx a c := by
  obtain ⟨t, rfl⟩ := h
  obtain ⟨u, rfl⟩ := h2
  exact ⟨t ++ u, List.append_assoc _ _ _⟩
theorem Tr.sx {n c : Nat} {a b : Store} (h : Tr n c a) (s : Sx a b) : Tr n c b := by
  obtain ⟨t, rfl⟩ := s
  obtain ⟨x, y, z, e, r⟩ := h
  refine ⟨x, y, z, ?_, r⟩
  rw [List.getElem?_append_left]
  · exact e
  · rcases Nat.lt_or_ge n a.length with q | q
    · exact q
    · rw [List.getElem?_eq_none q] at e; cases e
theorem get_new (st : Store) (o : Option Ob) : (st ++ [o])[st.length]? = some o := List.getElem?_concat_length
theorem set_new (st : Store) (o o' : Option Ob) : (st ++ [o]).set st.length o' = st ++ [o'] := by
  rw [List.set_append_right _ _ (Nat.le_refl _)]
  simp
theorem app_new (st : Store) (xs : List D) (d : D) (h : xs.length < 16777216) : appendD (.ref st.length) [d] (st ++ [some (.lst xs)]) = some (.non, st ++ [some (.lst (xs ++ [d]))]) := by
  simp only [appendD, get_new, set_new]
  exact if_pos h
theorem ext_new (st : Store) (xs ys : List D) (h : xs.length + ys.length ≤ 16777216) : extendD (.ref st.length) [.lst ys] (st ++ [some (.lst xs)]) = some (.non, st ++ [some (.lst (xs ++ ys))]) := by
  simp only [extendD, get_new, set_new, viewL, Option.bind]
  exact if_pos h
theorem isL_new (st : Store) (xs : List D) : isLst (.ref st.length) (st ++ [some (.lst xs)]) = true := by
  simp only [isLst, viewL, get_new]; rfl
theorem frz_new (st : Store) (xs : List D) : frz (.ref st.length) (st ++ [some (.lst xs)]) = .ok (.lst xs) (st ++ [none]) := by
  simp only [frz, get_new, set_new]
theorem tup_new (st : Store) (xs : List D) : tupleD [.ref st.length] (st ++ [some (.lst xs)]) = some (.tup xs) := by
  simp only [tupleD, viewS, viewL, get_new, Option.map]
theorem ix_new (st : Store) (xs : List D) (i : Int) : ixD (.ref st.length) (.int i) (st ++ [some (.lst xs)]) = atI xs i := ix_ref (get_new st _) i

/-! ### numbers of words, words by number -/
def tot : List (List Wo) → Nat
  | [] => 1
  | r :: ps => r.length * tot ps
theorem tot_app : ∀ a b : List (List Wo), tot (a ++ b) = tot a * tot b
  | [], b => by simp [tot]
  | r :: a, b => by simp [tot, tot_app a b, Nat.mul_assoc]
theorem tot_rev (a : List (List Wo)) : tot a.reverse = tot a := by
  induction a with
  | nil => rfl
  | cons r a ih => simp [tot_app, tot, ih, Nat.mul_comm]
theorem tot_pos : ∀ {a : List (List Wo)}, (∀ r ∈ a, r ≠ []) → 0 < tot a
  | [], _ => Nat.one_pos
  | r :: a, h => Nat.mul_pos (List.length_pos_iff.2 (h r List.mem_cons_self)) (tot_pos fun x hx => h x (List.mem_cons_of_mem _ hx))
theorem tot_le {m : Nat} (h1 : 1 ≤ m) : ∀ {a : List (List Wo)} {k : Nat}, a.length ≤ k → (∀ r ∈ a, r.length ≤ m) → tot a ≤ m ^ k
  | [], k, _, _ => Nat.pow_pos h1
  | r :: a, 0, h, _ => by simp at h
  | r :: a, k + 1, h, h2 => by
    have ih := tot_le h1 (a := a) (k := k) (by simp at h; omega) fun x hx => h2 x (List.mem_cons_of_mem _ hx)
    have := h2 r List.mem_cons_self
    show r.length * tot a ≤ m ^ (k + 1)
    rw [Nat.pow_succ, Nat.mul_comm]
    exact Nat.mul_le_mul ih this
/-- the i-th word of the rows, the last row first; acc behind -/
def nthR : List (List Wo) → Nat → Wo → Wo
  | [], _, acc => acc
  | r :: rs, i, acc => nthR rs (i / r.length) ((r[i % r.length]?).getD [] ++ acc)
theorem nthR_acc : ∀ (rs : List (List Wo)) (i : Nat) (acc : Wo), nthR rs i acc = nthR rs i [] ++ acc
  | [], _, _ => rfl
  | r :: rs, i, acc => by
    show nthR rs _ (_ ++ acc) = nthR rs _ (_ ++ []) ++ acc
    rw [nthR_acc rs _ (_ ++ acc), nthR_acc rs _ (_ ++ []), List.append_nil, List.append_assoc]
/-- all words -/
def wds : List (List Wo) → List Wo
  | [] => [[]]
  | r :: rs => (wds rs).flatMap fun o => r.map fun l => o ++ l
theorem flatMap_get {α β : Type} {s : Nat} (hs : 0 < s) (f : α → List β) : ∀ (l : List α) (i : Nat), (∀ x ∈ l, (f x).length = s) → (l.flatMap f)[i]? = (l[i / s]?).bind fun x => (f x)[i % s]?
  | [], i, _ => by simp
  | x :: l, i, h => by
    have hx := h x List.mem_cons_self
    rw [List.flatMap_cons]
    by_cases hi : i < s
    · rw [List.getElem?_append_left (by omega), Nat.div_eq_of_lt hi, Nat.mod_eq_of_lt hi]
      rfl
    · have e1 : i / s = (i - s) / s + 1 := by
        rw [Nat.div_eq_sub_div hs (by omega)]
      have e2 : i % s = (i - s) % s := Nat.mod_eq_sub_mod (by omega)
      rw [List.getElem?_append_right (by omega), hx, flatMap_get hs f l (i - s) (fun y hy => h y (List.mem_cons_of_mem _ hy)), e1, e2]
      rfl
theorem wds_len : ∀ rs : List (List Wo), (wds rs).length = tot rs
  | [] => rfl
  | r :: rs => by
    have : ∀ l : List Wo, (l.flatMap fun o => r.map fun t => o ++ t).length = l.length * r.length := fun l => by
      induction l with
      | nil => simp
      | cons x l ih => rw [List.flatMap_cons, List.length_append, ih, List.length_map, List.length_cons, Nat.succ_mul, Nat.add_comm]
    show ((wds rs).flatMap _).length = _
    rw [this, wds_len rs, Nat.mul_comm]
    rfl
theorem wds_get : ∀ (rs : List (List Wo)) (i : Nat), (∀ r ∈ rs, r ≠ []) → i < tot rs → (wds rs)[i]? = some (nthR rs i [])
  | [], i, _, h => by
    have : i = 0 := by simp [tot] at h; omega
    subst this
    rfl
  | r :: rs, i, hne, h => by
    have hr : 0 < r.length := List.length_pos_iff.2 (hne r List.mem_cons_self)
    have h2 : i / r.length < tot rs := Nat.div_lt_of_lt_mul h
    show ((wds rs).flatMap _)[i]? = _
    rw [flatMap_get hr _ _ _ (fun x _ => by rw [List.length_map]), wds_get rs _ (fun x hx => hne x (List.mem_cons_of_mem _ hx)) h2]
    have h3 : i % r.length < r.length := Nat.mod_lt _ hr
    show (r.map fun t => nthR rs (i / r.length) [] ++ t)[i % r.length]? = _
    rw [List.getElem?_map, List.getElem?_eq_getElem h3]
    show some _ = some (nthR rs (i / r.length) ((r[i % r.length]?).getD [] ++ []))
    rw [List.getElem?_eq_getElem h3, List.append_nil]
    show some (nthR rs (i / r.length) [] ++ r[i % r.length]) = some (nthR rs (i / r.length) r[i % r.length])
    rw [← nthR_acc]
theorem nthR_low {m l : Nat} : ∀ (rs : List (List Wo)) (i : Nat) (acc : Wo), (∀ r ∈ rs, Rw m l r) → Low acc → Low (nthR rs i acc) ∧ (nthR rs i acc).length ≤ acc.length + rs.length * l
  | [], _, _, _, h => ⟨h, by simp [nthR]⟩
  | r :: rs, i, acc, hr, h => by
    have h1 := hr r List.mem_cons_self
    have hp : 0 < r.length := List.length_pos_iff.2 h1.1
    have h3 : i % r.length < r.length := Nat.mod_lt _ hp
    have hw := h1.2.2 _ (List.getElem_mem h3)
    show Low (nthR rs _ ((r[i % r.length]?).getD [] ++ acc)) ∧ _
    rw [show nthR (r :: rs) i acc = nthR rs (i / r.length) ((r[i % r.length]?).getD [] ++ acc) from rfl]
    rw [List.getElem?_eq_getElem h3]
    have ih := nthR_low rs (i / r.length) (r[i % r.length] ++ acc) (fun x hx => hr x (List.mem_cons_of_mem _ hx)) (hw.1.app h)
    refine ⟨ih.1, ?_⟩
    have := ih.2
    show (nthR rs (i / r.length) (r[i % r.length] ++ acc)).length ≤ _
    rw [List.length_append] at this
    rw [List.length_cons, Nat.succ_mul]
    have := hw.2
    omega
theorem stp_app (p a b : Wo) : stp (p ++ a) (p ++ b) = stp a b := by
  unfold stp
  rw [cp_app, List.drop_append, List.drop_append]
  simp
/-! ### the step at a number, from the levels -/
def stepsD (r : List Wo) (fe le : Wo) : List D := r.zipWith (fun o t => stp (o ++ le) (t ++ fe)) (r.drop 1)
/-- the levels' list is right for the rows rs -/
def Lev : List (List Wo) → Nat → Wo → Wo → List D → Prop
  | [], _, _, _, ls => ls = []
  | r :: rs, b, fe, le, ls => ∃ x ls', ls = .tup [.int b, .int r.length, .lst (stepsD r fe le), x] :: ls' ∧ Lev rs (b * r.length) ((r[0]?).getD [] ++ fe) ((r[r.length - 1]?).getD [] ++ le) ls'
def stepIn : List (List Wo) → Nat → Wo → Wo → Nat → D
  | [], _, _, _, _ => .non
  | r :: rs, b, fe, le, i => if 0 < i / b % r.length then ((stepsD r fe le)[i / b % r.length - 1]?).getD .non else stepIn rs (b * r.length) ((r[0]?).getD [] ++ fe) ((r[r.length - 1]?).getD [] ++ le) i
theorem stepIn_eq : ∀ (rs : List (List Wo)) (b : Nat) (fe le : Wo) (i : Nat), (∀ r ∈ rs, r ≠ []) → 0 < b → 0 < i → i < tot rs → stepIn rs b fe le (i * b) = stp (nthR rs (i - 1) le) (nthR rs i fe)
  | [], _, _, _, i, _, _, h, h2 => by simp [tot] at h2; omega
  | r :: rs, b, fe, le, i, hne, hb, h, h2 => by
    have hr : 0 < r.length := List.length_pos_iff.2 (hne r List.mem_cons_self)
    have ei : i * b / b = i := Nat.mul_div_cancel i hb
    have hm : i % r.length < r.length := Nat.mod_lt _ hr
    unfold stepIn
    rw [ei]
    by_cases hd : 0 < i % r.length
    · rw [if_pos hd]
      have e1 : (i - 1) % r.length = i % r.length - 1 := by
        have := Nat.div_add_mod i r.length
        have e : i - 1 = r.length * (i / r.length) + (i % r.length - 1) := by omega
        rw [e, Nat.mul_add_mod, Nat.mod_eq_of_lt (by omega)]
      have e2 : (i - 1) / r.length = i / r.length := by
        have := Nat.div_add_mod i r.length
        have e : i - 1 = r.length * (i / r.length) + (i % r.length - 1) := by omega
        rw [e, Nat.mul_add_div hr, Nat.div_eq_of_lt (a := i % r.length - 1) (b := r.length) (by omega), Nat.add_zero]
      have g1 : i % r.length - 1 < r.length := by omega
      show _ = stp (nthR rs ((i - 1) / r.length) ((r[(i - 1) % r.length]?).getD [] ++ le)) (nthR rs (i / r.length) ((r[i % r.length]?).getD [] ++ fe))
      rw [e1, e2, nthR_acc rs _ (_ ++ le), nthR_acc rs _ (_ ++ fe), stp_app]
      unfold stepsD
      rw [List.getElem?_zipWith, List.getElem?_drop, List.getElem?_eq_getElem g1, show 1 + (i % r.length - 1) = i % r.length by omega, List.getElem?_eq_getElem hm]
      rfl
    · rw [if_neg hd]
      have hd : i % r.length = 0 := by omega
      have e0 : i = r.length * (i / r.length) := by
        have := Nat.div_add_mod i r.length
        omega
      have hp : 0 < i / r.length := by
        rcases Nat.eq_zero_or_pos (i / r.length) with q | q
        · rw [q] at e0; omega
        · exact q
      have e1 : (i - 1) % r.length = r.length - 1 := by
        have e : i - 1 = r.length * (i / r.length - 1) + (r.length - 1) := by
          rw [Nat.mul_sub, ← e0, Nat.mul_one]
          have : r.length ≤ i := by
            rw [e0]
            exact Nat.le_mul_of_pos_right _ hp
          omega
        rw [e, Nat.mul_add_mod, Nat.mod_eq_of_lt (by omega)]
      have e2 : (i - 1) / r.length = i / r.length - 1 := by
        have e : i - 1 = r.length * (i / r.length - 1) + (r.length - 1) := by
          rw [Nat.mul_sub, ← e0, Nat.mul_one]
          have : r.length ≤ i := by
            rw [e0]
            exact Nat.le_mul_of_pos_right _ hp
          omega
        rw [e, Nat.mul_add_div hr, Nat.div_eq_of_lt (a := r.length - 1) (b := r.length) (by omega), Nat.add_zero]
      show _ = stp (nthR rs ((i - 1) / r.length) ((r[(i - 1) % r.length]?).getD [] ++ le)) (nthR rs (i / r.length) ((r[i % r.length]?).getD [] ++ fe))
      rw [e1, e2, hd]
      have ih := stepIn_eq rs (b * r.length) ((r[0]?).getD [] ++ fe) ((r[r.length - 1]?).getD [] ++ le) (i / r.length) (fun x hx => hne x (List.mem_cons_of_mem _ hx)) (Nat.mul_pos hb hr) hp (Nat.div_lt_of_lt_mul h2)
      rw [← ih]
      congr 1
      rw [Nat.mul_comm b, ← Nat.mul_assoc, Nat.mul_comm (i / r.length), ← e0]
theorem strs_of {P : Wo → Prop} : ∀ xs : List D, (∀ (i : Nat) x, xs[i]? = some x → ∃ w, x = .str w ∧ P w) → ∃ ws : List Wo, xs = ws.map D.str ∧ (∀ w ∈ ws, P w) ∧ ws.length = xs.length
  | [], _ => ⟨[], rfl, (fun c hc => by cases hc), rfl⟩
  | x :: r, h => by
    obtain ⟨c, rfl, hc⟩ := h 0 x rfl
    obtain ⟨t, rfl, ht, hl⟩ := strs_of r fun i y e => h (i + 1) y e
    exact ⟨c :: t, rfl, fun d hd => (List.mem_cons.1 hd).elim (fun e => e ▸ hc) (ht d), congrArg (· + 1) hl⟩
theorem rows_of {P : List Wo → Prop} : ∀ xs : List D, (∀ (i : Nat) x, xs[i]? = some x → ∃ w, x = rowD w ∧ P w) → ∃ ws : List (List Wo), xs = ws.map rowD ∧ (∀ w ∈ ws, P w) ∧ ws.length = xs.length
  | [], _ => ⟨[], rfl, (fun c hc => by cases hc), rfl⟩
  | x :: r, h => by
    obtain ⟨c, rfl, hc⟩ := h 0 x rfl
    obtain ⟨t, rfl, ht, hl⟩ := rows_of r fun i y e => h (i + 1) y e
    exact ⟨c :: t, rfl, fun d hd => (List.mem_cons.1 hd).elim (fun e => e ▸ hc) (ht d), congrArg (· + 1) hl⟩
@[simp] theorem tuple_lst (xs : List D) : tupleD [.lst xs] st = some (.tup xs) := rfl
@[simp] theorem tuple_tup (xs : List D) : tupleD [.tup xs] st = some (.tup xs) := rfl
theorem rng_gi {lo : Int} {n i : Nat} {d : D} (h : (rng lo n)[i]? = some d) : ∃ k : Int, d = .int k ∧ k = lo + i ∧ i < n := ⟨_, (rng_gt h).1, rfl, (rng_gt h).2⟩
theorem rev_prod (ps : List (List Wo)) : revD (prodD ps) st = some (.tup (ps.reverse.map rowD)) := by
  show some (D.tup (ps.map rowD).reverse) = _
  rw [List.map_reverse]
theorem zipW {α β γ : Type} (f : α → β → γ) : ∀ (l : List α) (m : List β), l.zipWith f m = (l.zip m).map fun p => f p.1 p.2
  | [], _ => by simp
  | _ :: _, [] => by simp
  | x :: l, y :: m => by simp [zipW f l m]
theorem comp_mapA {α : Type} (g : D → Env → Option Env) (f : Env → M D) (ρ₀ : Env) (F h : α → D) : ∀ (l : List α) (acc : List D), (∀ a ∈ l, ∃ ρ1, g (F a) ρ₀ = some ρ1 ∧ f ρ1 st = .ok (h a) st) → acc.length + l.length ≤ 16777216 →
    compGo g sYes f ρ₀ (l.map F) acc st = .ok (acc ++ l.map h) st
  | [], acc, _, _ => by simp [compGo]
  | a :: l, acc, hd, hz => by
    obtain ⟨ρ1, e1, e2⟩ := hd a List.mem_cons_self
    simp only [List.length_cons] at hz
    have hl : acc.length < sizeLine := by show acc.length < 16777216; omega
    simp only [List.map_cons, compGo, e1]
    show (noX (sYes ρ1 st)).bnd _ = _
    show (noX (f ρ1 st)).bnd _ = _
    rw [e2]
    show (if acc.length < sizeLine then compGo g sYes f ρ₀ (l.map F) (acc ++ [h a]) else badM) st = _
    rw [if_pos hl, comp_mapA g f ρ₀ F h l (acc ++ [h a]) (fun d hd' => hd d (List.mem_cons_of_mem _ hd')) (by simp; omega), List.append_assoc]
    rfl
theorem at_last {α : Type} (xs : List α) (h : 0 < xs.length) : atI xs (-1) = xs[xs.length - 1]? := by
  unfold atI ixN
  rw [if_neg (by omega), if_pos (by omega)]
  show xs[(-1 + (xs.length : Int)).toNat]? = _
  rw [show (-1 + (xs.length : Int)).toNat = xs.length - 1 by omega]
theorem ne_nil_lst {xs : List D} (h : flat 60 (.lst xs) = true) : cmpS .ne (.lst xs) (.lst []) st = some (!xs.isEmpty) := by
  show (eqD (.lst xs) (.lst []) st).map (!·) = _
  unfold eqD
  simp only
  rw [rsv_flat st 60 _ h, rsv_flat st 60 (.lst []) rfl, h]
  cases xs <;> rfl
theorem flat_stp {a b : Wo} (ha : Low a) (hb : Low b) (k : Nat) : flat (k + 1) (stp a b) = true := by
  unfold stp
  refine flat_tup ?_
  unfold flats
  rw [flat_low (ha.drop _)]
  unfold flats
  rw [flat_low (hb.drop _)]
  unfold flats
  rfl
theorem stepsD_zip (w : List Wo) (fe le : Wo) : stepsD w fe le = (w.zip (w.drop 1)).map fun p => stp (p.1 ++ le) (p.2 ++ fe) := zipW _ _ _
theorem zip_str (w v : List Wo) : zipD [.tup (w.map D.str), .tup (v.map D.str)] = some ((w.zip v).map fun p => .tup [.str p.1, .str p.2]) := by
  show some ((w.map D.str).zipWith _ (v.map D.str)) = _
  rw [List.zipWith_map, zipW]
theorem cut_map {α : Type} (w : List α) (f : α → D) (lo hi : Option Int) : cutG (w.map f) lo hi = (cutG w lo hi).map f := by
  unfold cutG
  rw [List.length_map, List.map_take, List.map_drop]
mutual
theorem flat_up : ∀ (k : Nat) (d : D), flat k d = true → flat (k + 1) d = true
  | _, .non, _ => rfl
  | _, .bl _, _ => rfl
  | _, .int _, _ => rfl
  | k, .str s, h => by cases k <;> exact h
  | k + 1, .tup xs, h => flats_up k xs h
  | k + 1, .lst xs, h => flats_up k xs h
  | 0, .tup _, h => by cases h
  | 0, .lst _, h => by cases h
  | k, .scr _, h => by cases k <;> cases h
  | k, .ref _, h => by cases k <;> cases h
  | k, .vv _, h => by cases k <;> cases h
  | k, .emp, h => by cases k <;> cases h
  | k, .exn _ _ _, h => by cases k <;> cases h
theorem flats_up : ∀ (k : Nat) (ds : List D), flats k ds = true → flats (k + 1) ds = true
  | _, [], _ => by unfold flats; rfl
  | k, x :: xs, h => by
    unfold flats at h ⊢
    rw [Bool.and_eq_true] at h
    rw [flat_up k x h.1, flats_up k xs h.2]; rfl
end
theorem flat_mono_ {d : D} (h : flat 59 d = true) : flat 60 d = true := flat_up 59 d h
theorem ok_is {r : Res D} {d : D} (h : wp r (fun _ _ => False) fun x st' => x = d ∧ st' = st) : r = .ok d st := by
  obtain ⟨a, s, e, rfl, rfl⟩ := ok_of_wp h
  exact e
/-- the tray, and what lies at fk -/
def Tk (fk : Nat) (fo : Option (Option Ob)) (n c : Nat) (st : Store) : Prop := Tr n c st ∧ fk ≠ n ∧ st[fk]? = fo
theorem Tk.mono {fk : Nat} {fo : Option (Option Ob)} {n c c' : Nat} (h : Tk fk fo n c st) (hc : c ≤ c') : Tk fk fo n c' st := ⟨h.1.mono hc, h.2⟩
theorem Tr.tk {n c : Nat} (h : Tr n c st) : Tk (n + 1) st[n + 1]? n c st := ⟨h, by omega, rfl⟩
theorem stp_plain {a b : List Nat} (h1 : Low a) (h2 : Low b) (ha : a.length ≤ 100000) (hb : b.length ≤ 100000) : Plain (stp a b) := by
  refine ⟨flat_stp h1 h2 39, rfl, ?_⟩
  simp [stp, rsz, rszs]; omega
theorem app_at {k : Nat} {xs : List D} (h : st[k]? = some (some (.lst xs))) (d : D) (hz : xs.length < 16777216) : appendD (.ref k) [d] st = some (.non, st.set k (some (.lst (xs ++ [d])))) := by
  simp only [appendD, h]
  exact if_pos hz
theorem tup_at {k : Nat} {xs : List D} (h : st[k]? = some (some (.lst xs))) : tupleD [.ref k] st = some (.tup xs) := by
  simp only [tupleD, viewS, viewL, h, Option.map]
theorem Tk.isL {k : Nat} {xs : List D} {n c : Nat} (h : Tk k (some (some (.lst xs))) n c st) : isLst (.ref k) st = true := by
  simp only [isLst, viewL, h.2.2]; rfl
theorem Tk.upd {k : Nat} {o : Option Ob} {n c : Nat} (h : Tk k (some o) n c st) (o' : Option Ob) : Tk k (some o') n c (st.set k o') := by
  obtain ⟨⟨a, b, q, e, r⟩, h2, h3⟩ := h
  exact ⟨⟨a, b, q, by rw [List.getElem?_set_ne h2]; exact e, r⟩, h2, set_get (o := none) (by rw [h3]; exact nofun) _⟩
theorem rng2_ok {g : Env → M (List D)} {ρ : Env} {a b : Int} (hg : g ρ st = .ok [.int a, .int b] st) (h : -(2 ^ 62) ≤ a ∧ a < 2 ^ 62 ∧ -(2 ^ 62) ≤ b ∧ b < 2 ^ 62) : sRng2 g ρ st = .ok (rng a (b - a).toNat) st := by
  show (g ρ st).bnd _ = _
  rw [hg]
  show ofO (rng2 [.int a, .int b]) st = _
  rw [show rng2 [.int a, .int b] = some (rng a (b - a).toNat) from if_pos h]
  rfl
theorem ws_for_of {k : SK} {ρ : Env} {g : D → Env → Option Env} {it : Env → M (List D)} {body : SM} {items : List D} {st1 : Store} (h : it ρ st = .ok items st1) (h2 : ws (forGo g body items ρ st1) k) : ws (sFor g it body ρ st) k := by
  rw [ws_for, h]
  exact h2
theorem ints_of : ∀ xs : List D, (∀ (i : Nat) x, xs[i]? = some x → ∃ k : Int, x = .int k) → ∃ ks : List Int, xs = ks.map D.int ∧ ks.length = xs.length
  | [], _ => ⟨[], rfl, rfl⟩
  | x :: r, h => by
    obtain ⟨c, rfl⟩ := h 0 x rfl
    obtain ⟨t, rfl, hl⟩ := ints_of r fun i y e => h (i + 1) y e
    exact ⟨c :: t, rfl, congrArg (· + 1) hl⟩
theorem cut_len {α : Type} (xs : List α) (lo hi : Option Int) : (cutG xs lo hi).length ≤ xs.length := by
  unfold cutG
  rw [List.length_take, List.length_drop]
  omega
end
end PL
/-! PL16: startswith, endswith, reverse, insert. -/
namespace PL
open PySem PySem.Spec PyProof.Rows L2
section
variable {X : Cx} {W : WX}
def startsW : D → List D → Store → Option (D × Store)
  | .str s, [.str t], st => some (.bl (Txt.startswith (toS s) (toS t)), st)
  | _, _, _ => none
def endsW : D → List D → Store → Option (D × Store)
  | .str s, [.str t], st => some (.bl (Txt.endswith (toS s) (toS t)), st)
  | _, _, _ => none
def reverseD : D → List D → Store → Option (D × Store)
  | .ref n, [], st => match st[n]? with
    | some (some (.lst xs)) => some (.non, st.set n (some (.lst xs.reverse)))
    | _ => none
  | _, _, _ => none
def insertD : D → List D → Store → Option (D × Store)
  | .ref n, [.int i, d], st => match st[n]? with
    | some (some (.lst xs)) => if xs.length < sizeLine ∧ 0 ≤ i ∧ i < 2 ^ 63 then some (.non, st.set n (some (.lst (xs.take i.toNat ++ [d] ++ xs.drop i.toNat)))) else none
    | _ => none
  | _, _, _ => none
theorem mr_startswith : MtR X "str.startswith" (rMt X.K startsW) := by
  intro pins s σ H x xs v us Q I rx rs h
  obtain ⟨w, d0, ds, d, st, rfl, ok, h0, rd, hf, q⟩ := h
  unfold startsW at hf
  split at hf
  · rename_i z t
    cases hf
    obtain ⟨u, rfl, h1⟩ := reps1 rd
    exact mt_startswith pins s σ _ _ _ v us Q I rx rs ⟨toS z, toS t, h0, by rw [show u = V.str (toS t) from h1], q w (Grow.refl w) ok rfl _ rfl⟩
  · cases hf
theorem mr_endswith : MtR X "str.endswith" (rMt X.K endsW) := by
  intro pins s σ H x xs v us Q I rx rs h
  obtain ⟨w, d0, ds, d, st, rfl, ok, h0, rd, hf, q⟩ := h
  unfold endsW at hf
  split at hf
  · rename_i z t
    cases hf
    obtain ⟨u, rfl, h1⟩ := reps1 rd
    exact mt_endswith pins s σ _ _ _ v us Q I rx rs ⟨toS z, toS t, h0, by rw [show u = V.str (toS t) from h1], q w (Grow.refl w) ok rfl _ rfl⟩
  · cases hf
theorem mr_reverse : MtR X "list.reverse" (rMt X.K reverseD) := by
  intro pins s σ H x xs v us Q I rx rs h
  obtain ⟨w, d0, ds, d, st, rfl, ok, h0, rd, hf, q⟩ := h
  unfold reverseD at hf
  split at hf
  · rename_i n
    split at hf
    · rename_i ys hn
      cases hf
      obtain rfl : xs = [] := rd
      obtain ⟨vs, rfl, h2, h3⟩ := lref ok hn h0
      refine mt_reverse pins s σ _ _ _ v us Q I rx rs ⟨_, vs, rfl, rfl, h2, ?_⟩
      have g := Grow.wr (o := .lst vs.reverse) (ob' := .lst ys.reverse) ok hn
      exact q _ g (ok.wr hn (obr_wrL ok hn (reps_rev h3))) rfl V.non rfl
    · cases hf
  · cases hf
theorem mr_insert : MtR X "list.insert" (rMt X.K insertD) := by
  intro pins s σ H x xs v us Q I rx rs h
  obtain ⟨w, d0, ds, d, st, rfl, ok, h0, rd, hf, q⟩ := h
  unfold insertD at hf
  split at hf
  · rename_i n i e
    split at hf
    · rename_i ys hn
      by_cases hz : ys.length < sizeLine ∧ 0 ≤ i ∧ i < 2 ^ 63
      · rw [if_pos hz] at hf
        cases hf
        obtain ⟨u, z, rfl, h1, h1'⟩ := reps2 rd
        obtain rfl : u = V.int i := h1
        obtain ⟨vs, rfl, h2, h3⟩ := lref ok hn h0
        refine mt_insert pins s σ _ _ _ v us Q I rx rs ⟨_, vs, i, z, rfl, rfl, h2, by rw [← h3.length]; exact hz.1, hz.2.1, hz.2.2, ?_⟩
        have g := Grow.wr (o := .lst (vs.take i.toNat ++ [z] ++ vs.drop i.toNat)) (ob' := .lst (ys.take i.toNat ++ [e] ++ ys.drop i.toNat)) ok hn
        exact q _ g (ok.wr hn (obr_wrL ok hn (((h3.take _).app (reps_cons h1' reps_nil)).app (h3.drop _)))) rfl V.non rfl
      · rw [if_neg hz] at hf
        cases hf
    · cases hf
  · cases hf
end
end PL
/-! PL17: enumerate of lists, range with a step. -/
namespace RZ2
open PySem
open AutoSeq1 (wpAny_loadPart')
/-! enumerate of a tuple, at the library's level -/
theorem draws_tuple {prog : Program} {w : World} {A : Around} (hh : A.handled = none) (it l : Addr) (hne : l ≠ it) (items : Array Value) :
    Draws prog w A it [it, l] items.size (fun i v => items[i]? = some v) (fun i h => h.IsTupleIter it l i ∧ h.IsTuple l items) where
  live := fun _ _ st => let ⟨o, ho, _⟩ := st.1; ⟨o, ho⟩
  frame := fun _ _ _ st hk => ⟨let ⟨o, ho, r⟩ := st.1; ⟨o, hk it (by simp) o ho, r⟩, let ⟨o, ho, r⟩ := st.2; ⟨o, hk l (by simp) o ho, r⟩⟩
  item := fun i s Q E hi st hQ => by
    refine RZ.nextOf_tuple_item st.1 st.2 (x := items[i]) (by simp [hi]) fun h' hit' hs' => ?_
    exact hQ _ h' s.toks (by simp [hi]) ⟨hit', st.2.extBut hs'.extBut hne⟩ hs'
  done := fun s Q E st hE => RZ.nextOf_tuple_end hh st.1 st.2 (by simp) hE
theorem meets_enumerate_newT (l : Addr) (items : Array Value) (n : Nat) (dct : Option Addr) (sl : Array (Option Value)) :
    Meets (Builtin.«enumerate.__new__» ⟨[.type "enumerate", .ref l], []⟩) (fun _ R s => s.heap.get? l = some { cls := .type "tuple", dict := dct, data := .seq items n, slots := sl } ∧
      R (.ok (.ret (.ref (s.heap.push { cls := .type "tuple_iterator", data := .fields #[.ref l, .int 0 0] }).objs.size)))
        { s with heap := (s.heap.push { cls := .type "tuple_iterator", data := .fields #[.ref l, .int 0 0] }).push { cls := .type "enumerate", data := .fields #[.none, .bool false, .ref s.heap.objs.size, rawInt 0, .none, .none] } }) :=
  .of_wp fun prog w A R s h => by
    obtain ⟨hp, g, d, tk, os⟩ := s; obtain ⟨hl, h⟩ := h
    have hsub := sub_enumerate
    have hL : Heap.IsTuple (Shared.heap ⟨hp, g, d, tk, os⟩) l items := ⟨_, hl, rfl, n, rfl⟩
    wp_walk using wpAny_loadPart' hl
    refine wpAny_stack_any fun st => wpAny_pure ?_
    split
    · rename_i c _ _ _ _ _
      cases (c == Value.type "enumerate")
      · wp_walk using wpAny_loadPart' hl, wpAny_pyIter_tuple hL
        exact ⟨_, rfl, h⟩
      · wp_walk using wpAny_loadPart' hl, wpAny_pyIter_tuple hL
        exact ⟨_, rfl, h⟩
    · wp_walk using wpAny_loadPart' hl, wpAny_pyIter_tuple hL
      exact ⟨_, rfl, h⟩
theorem call_enumerate_tuple {prog : Program} {w : World} {A : Around} {E : Value → Shared → Prop} {s : Shared} {l : Addr} {items : Array Value} {Q : Value → Shared → Prop} (hL : s.heap.IsTuple l items)
    (h : ∀ h', IsEnum h' (s.heap.objs.size + 1) s.heap.objs.size 0 .none → h'.IsTupleIter s.heap.objs.size l 0 → h'.objs.size = s.heap.objs.size + 2 →
      (∀ b o, s.heap.get? b = some o → h'.get? b = some o) → Q (.ref (s.heap.objs.size + 1)) { s with heap := h' }) :
    wpAny (model prog w) A (call (.type "enumerate") [.ref l]) Q E s := by
  obtain ⟨⟨c, dct, dt, sl⟩, hl, hc, n, hd⟩ := hL
  replace hc : c = .type "tuple" := hc
  replace hd : dt = .seq items n := hd
  subst hc hd
  refine callType_new F.called_enumerate (by decide) (F.typeCall_enumerate_1 _) (F.newCall_enumerate_1 _) (fun obj => F.args_object_init_2 obj _) F.entry_enumerate_new
    (meets_enumerate_newT l items n dct sl) ⟨hl, ?_⟩
  have hz : (s.heap.push { cls := .type "tuple_iterator", data := .fields #[.ref l, .int 0 0] }).objs.size = s.heap.objs.size + 1 := Heap.size_push ..
  show _ ∧ _
  rw [hz]
  have he : IsEnum ((s.heap.push { cls := .type "tuple_iterator", data := .fields #[.ref l, .int 0 0] }).push
      { cls := .type "enumerate", data := .fields #[.none, .bool false, .ref s.heap.objs.size, rawInt 0, .none, .none] }) (s.heap.objs.size + 1) s.heap.objs.size 0 .none := by
    have := Heap.get?_push_size (s.heap.push { cls := .type "tuple_iterator", data := .fields #[.ref l, .int 0 0] })
      (o := { cls := .type "enumerate", data := .fields #[.none, .bool false, .ref s.heap.objs.size, rawInt 0, .none, .none] }) rfl
    rw [hz] at this; exact this
  refine ⟨⟨_, he, rfl⟩, h _ he ⟨_, Heap.get?_push_of_some _ (Heap.get?_push_size _ rfl), rfl, rfl⟩ (by rw [Heap.size_push, hz]) fun b o x => Heap.get?_push_of_some _ (Heap.get?_push_of_some _ x)⟩
end RZ2
namespace L2
open PySem PySem.Spec PyProof.Rows
def IteT (K : PySem.W.Frag) (a : Addr) : It :=
  ⟨fun i H => ∃ (xs : List V) (x : V), SqT K H a xs ∧ xs[i]? = some x, fun i H v H' => ∃ T x, v = .ref T ∧ H T = none ∧ H' = upd H T (.tup [.int (i : Nat), x]) ∧ ∀ xs, SqT K H a xs → xs[i]? = some x, fun i H => ∃ xs : List V, SqT K H a xs ∧ xs.length ≤ i⟩
theorem tup_iter_ne {h : Heap} {a it : Addr} {items : Array Value} {i : Nat} (h1 : h.IsTuple a items) (h2 : h.IsTupleIter it a i) : a ≠ it := fun z => by
  subst z
  obtain ⟨o, e1, c1, _⟩ := h1
  obtain ⟨o2, e2, c2, _⟩ := h2
  rw [e1] at e2
  cases e2
  rw [c1] at c2
  exact absurd c2 (by simp)
theorem turn_enumT {P : Program} {w : World} {K : PySem.W.Frag} {elts : List Expr} {kk : Nat} {tpos : Pos} (a e it : Addr) :
    Turn P w K (.Tuple elts kk tpos) (IteT K a) [e, it] e (fun i h => (∃ old, IsEnum h e it ((i : Nat) : Int) old) ∧ h.IsTupleIter it a i ∧ e ≠ it) where
  mem := by simp
  obj := fun i h st b hb => by
    obtain ⟨⟨old, he⟩, ⟨o, ho, hc, hd⟩, _⟩ := st
    have e' : b = e ∨ b = it := by simpa using hb
    rcases e' with z | z
    · rw [z]; exact ⟨_, he, fun v q => nomatch q⟩
    · rw [z]; exact ⟨o, ho, fun v q => by rw [hd] at q; cases q⟩
  keep := fun i h h' st k => let ⟨⟨old, he⟩, hi, hne⟩ := st; ⟨⟨old, k e (by simp) _ he⟩, (let ⟨o, ho, r⟩ := hi; ⟨o, k it (by simp) o ho, r⟩), hne⟩
  item := by
    intro X hP hw hK hc i pins s σ H E I hf st hg
    subst hP hw hK
    obtain ⟨⟨old, he⟩, hit, hne⟩ := st
    obtain ⟨xs, x, hq, hx⟩ := hg
    obtain ⟨its, rv, p, hz⟩ := I.tuple hq
    obtain ⟨u, hu, ru⟩ := rv.get hx
    have hel : e < s.heap.objs.size := Heap.lt_size he
    have hil : it < s.heap.objs.size := by obtain ⟨_, q, _⟩ := hit; exact Heap.lt_size q
    have hat : a ≠ it := tup_iter_ne p hit
    have hae : a ≠ e := fun z => by
      obtain ⟨o, e1, c1, _⟩ := p
      rw [z, he] at e1
      cases e1
      exact absurd c1 (by simp)
    have hii : i < its.toArray.size := by
      have := (List.getElem?_eq_some_iff.1 hu).1
      simpa using this
    refine wpAny_pyNext_enum_itemD (RZ2.draws_tuple (A := X.A.in1) (I.ok.hd hc) it a hat its.toArray) he ⟨hit, p⟩ hii hne (by simp [hne, Ne.symm hae]) fun x' h' tk hPx ho hit' hT hsz hk => ?_
    have hxu : x' = u := by
      have : its.toArray[i]? = some u := by simpa using hu
      rw [this] at hPx
      exact (Option.some.inj hPx).symm
    subst hxu
    refine ⟨_, rfl, wpAny_letOwnedTupleGo_enum (s := { s with heap := h', toks := tk + 1 }) ho fun h'' he' sb => ?_⟩
    have hT2 : h''.get? s.heap.objs.size = some { cls := .type "tuple", data := .seq #[.int i tk, x'] } := (sb.2 _ (Nat.ne_of_gt hel)).trans hT
    have new : ObjOk X.prog X.w (upd H s.heap.objs.size (.tup [.int (i : Nat), x])) h'' s.heap.objs.size (.tup [.int (i : Nat), x]) :=
      ⟨by show 2 ≤ sizeLine; decide, [.int i tk, x'], .cons ⟨_, rfl⟩ (.cons ru .nil), ⟨_, hT2, rfl, _, rfl⟩⟩
    have I1 : Inv X pins σ (upd H s.heap.objs.size (.tup [.int (i : Nat), x])) { s with heap := h'', toks := tk + 1 } :=
      I.turnedNew (t' := tk + 1) (ch := [e, it]) (fun b ob hb q => (sb.2 b (fun z => hb (by simp [z]))).trans (hk b ob (fun z => hb (by simp [z])) (fun z => hb (by simp [z])) q)) hf (Nat.le_refl _) new
    refine ⟨.ref s.heap.objs.size, _, I1, rfl, ⟨_, x, rfl, I.hok.fresh (Nat.le_refl _), rfl, fun ys hy => by rw [I.tuple_inj hy hq]; exact hx⟩, ⟨⟨x', ?_⟩, (let ⟨o, ho, r⟩ := hit'.1; ⟨o, (sb.2 it (Ne.symm hne)).trans ho, r⟩), hne⟩, fun b hb => ?_⟩
    · have e1 : ((i + 1 : Nat) : Int) = (i : Int) + 1 := by omega
      rw [e1]; exact he'
    · have hb' : b < s.heap.objs.size := by
        have e' : b = e ∨ b = it := by simpa using hb
        rcases e' with z | z
        · rw [z]; exact hel
        · rw [z]; exact hil
      rw [upd_ne (Nat.ne_of_lt hb')]
      exact (hf b hb).1
  done := by
    intro X hP hw hK hc i pins s σ H E I hf st hg
    subst hP hw hK
    obtain ⟨⟨old, he⟩, hit, hne⟩ := st
    obtain ⟨xs, hq, hx⟩ := hg
    obtain ⟨its, rv, p, hz⟩ := I.tuple hq
    obtain ⟨f0, f1, f2, f3, f4, f5⟩ := hf it (by simp)
    have hl := rv.length
    have hT : s.TypeIs (.ref e) "enumerate" := ⟨_, he, rfl⟩
    unfold pyNext
    refine wpAny_bind (wpAny_attempt (wpAny_callSpecial?_slot (name := Str.ofString "__next__") hT F.slot_enumerate_next
      (wpAny_call_entry F.slot_enumerate_next hT F.entry_enumerate_next ?_ (F.args_enumerate_next_1 _))))
    show wpAny _ _ (field (.ref e) 2 >>= _) _ _ _
    refine wpAny_bind (wpAny_field he rfl (x := .ref it) rfl ?_)
    refine wpAny_bind (RZ.nextOf_tuple_end (I.ok.hd hc) hit p (by simp; omega) fun h' x he' hx' => ?_)
    obtain ⟨o, ho, hcc⟩ := hx'
    refine wpAny_bind (wpAny_isInstance (T := "StopIteration") (b := true) ⟨o, ho, hcc⟩ isSubtype_stop ?_)
    refine wpAny_pure ?_
    exact ⟨rfl, I.turned (t' := s.toks) (fun b o hb q => he' b o hb q) f0 f1 f3 f4 f5⟩
  self := fun A i s Q E st h => let ⟨⟨_, he⟩, _⟩ := st; wpAny_pyIter_enum he h
def iEnumA (K : PySem.W.Frag) (ta : TA) : TI := fun σ H R => ta σ H fun vs H1 => ∃ a xs, vs = [.ref a] ∧ ((SqL K H1 a xs ∧ R (Ite K a) H1) ∨ (SqT K H1 a xs ∧ R (IteT K a) H1))
theorem pi_enumA {X : Cx} {e : Expr} {ta : TA} {p pos tpos : Pos} {elts : List Expr} {kk : Nat} (hg : Gl X "enumerate") (hm : X.mg "enumerate" = none) (ha : PA X [e] ta) (hs : starEach [e] X.env = [(false, eval e X.env)] := by rfl) :
    PI X (.Tuple elts kk tpos) (.Call (.Name "enumerate" p) [e] [] pos) (iEnumA X.K ta) := by
  refine ⟨fun pins s σ H R I h => ?_⟩
  refine Call_ (ld_blt I hg hm boot_enumerate (PyProof.Rows.callWith_type1 (thn (ha.run pos pins s σ H _ I h) fun us s1 ⟨vs, H1, I1, r1, q1⟩ => ?_) hs rfl))
  obtain ⟨a, xs, ex, q⟩ := q1
  subst ex
  cases r1 with
  | cons r rr =>
    cases rr
    cases r
    rcases q with ⟨hq, q⟩ | ⟨hq, q⟩
    · obtain ⟨its, rv, p', hz⟩ := I1.list hq
      refine call_enumerate_list p'.isList fun h' he hit hsz hk => wpAny_pyIter_enum he ?_
      have I2 : Inv X pins σ H1 { s1 with heap := h' } := I1.kept (t' := s1.toks) hk
      refine ⟨s1.heap.objs.size + 1, [s1.heap.objs.size + 1, s1.heap.objs.size], _, _, H1, rfl, I2, turn_enum a (s1.heap.objs.size + 1) s1.heap.objs.size, ⟨⟨.none, he⟩, hit, Nat.succ_ne_self _⟩, fun b hb => ?_, q⟩
      have e' : b = s1.heap.objs.size + 1 ∨ b = s1.heap.objs.size := by simpa using hb
      have hle : s1.heap.objs.size ≤ b := by
        rcases e' with z | z
        · rw [z]; exact Nat.le_add_right _ _
        · rw [z]; exact Nat.le_refl _
      exact I1.fpOk hle (I1.hok.fresh hle)
    · obtain ⟨its, rv, p', hz⟩ := I1.tuple hq
      refine RZ2.call_enumerate_tuple p' fun h' he hit hsz hk => wpAny_pyIter_enum he ?_
      have I2 : Inv X pins σ H1 { s1 with heap := h' } := I1.kept (t' := s1.toks) hk
      refine ⟨s1.heap.objs.size + 1, [s1.heap.objs.size + 1, s1.heap.objs.size], _, _, H1, rfl, I2, turn_enumT a (s1.heap.objs.size + 1) s1.heap.objs.size, ⟨⟨.none, he⟩, hit, Nat.succ_ne_self _⟩, fun b hb => ?_, q⟩
      have e' : b = s1.heap.objs.size + 1 ∨ b = s1.heap.objs.size := by simpa using hb
      have hle : s1.heap.objs.size ≤ b := by
        rcases e' with z | z
        · rw [z]; exact Nat.le_add_right _ _
        · rw [z]; exact Nat.le_refl _
      exact I1.fpOk hle (I1.hok.fresh hle)
end L2
namespace PL
open PySem PySem.Spec PyProof.Rows L2
section
variable {X : Cx} {W : WX}
def enumL (xs : List D) : List D := xs.zipIdx.map fun p => .tup [.int (p.2 : Nat), p.1]
def enumD : List D → Option (List D)
  | [.lst xs] => some (enumL xs)
  | [.tup xs] => some (enumL xs)
  | _ => none
def sEnum (g : Env → M (List D)) : Env → M (List D) := fun ρ => bnd (g ρ) fun ds st => ofO (enumD ds) st
theorem enum_get {xs : List D} {i : Nat} {d : D} (h : (enumL xs)[i]? = some d) : ∃ x, xs[i]? = some x ∧ d = .tup [.int (i : Nat), x] := by
  unfold enumL at h
  rw [List.getElem?_map, List.getElem?_zipIdx] at h
  cases e : xs[i]? with
  | none => rw [e] at h; cases h
  | some x => rw [e] at h; cases h; exact ⟨x, rfl, by simp⟩
theorem enum_len (xs : List D) : (enumL xs).length = xs.length := by simp [enumL]
theorem itok_enum {K : PySem.W.Frag} {w : Wd} {xs : List D} {a : Addr} (r : Rep K w (.lst xs) (.ref a)) : ItOk K w (enumL xs) (Ite K a) := by
  intro w1 g ok1
  obtain ⟨a', vs, ea, h1, _, h3⟩ := Rep.ext g _ _ r
  obtain rfl : a = a' := V.ref.inj ea
  have hq : SqL K w1.H a vs := SqL.of h1
  refine ⟨fun i d hd => ?_, ⟨vs, hq, by rw [enum_len]; exact Nat.le_of_eq h3.length.symm⟩⟩
  obtain ⟨x, e1, rfl⟩ := enum_get hd
  obtain ⟨v, hv, rv⟩ := h3.get e1
  refine ⟨⟨vs, v, hq, hv⟩, fun z H' ⟨T, v', ez, hT, eH, f1⟩ => ?_⟩
  have e3 := f1 vs hq
  rw [hv] at e3
  cases e3
  subst ez eH
  exact ⟨w1.put T (.tup [.int (i : Nat), v]), rfl, Grow.new ok1 hT, ok1.new hT, rfl, rep_newT ok1 hT (reps_cons rfl (reps_cons rv reps_nil))⟩
theorem itok_enumT {K : PySem.W.Frag} {w : Wd} {xs : List D} {a : Addr} (r : Rep K w (.tup xs) (.ref a)) : ItOk K w (enumL xs) (IteT K a) := by
  intro w1 g ok1
  obtain ⟨a', vs, ea, hq, h3⟩ := Rep.ext g _ _ r
  obtain rfl : a = a' := V.ref.inj ea
  refine ⟨fun i d hd => ?_, ⟨vs, hq, by rw [enum_len]; exact Nat.le_of_eq h3.length.symm⟩⟩
  obtain ⟨x, e1, rfl⟩ := enum_get hd
  obtain ⟨v, hv, rv⟩ := h3.get e1
  refine ⟨⟨vs, v, hq, hv⟩, fun z H' ⟨T, v', ez, hT, eH, f1⟩ => ?_⟩
  have e3 := f1 vs hq
  rw [hv] at e3
  cases e3
  subst ez eH
  exact ⟨w1.put T (.tup [.int (i : Nat), v]), rfl, Grow.new ok1 hT, ok1.new hT, rfl, rep_newT ok1 hT (reps_cons rfl (reps_cons rv reps_nil))⟩
theorem di_enum {elts : List Expr} {kk : Nat} {tpos : Pos} {e : Expr} {p pos : Pos} {f : Env → M (List D)} (hm : X.mg "enumerate" = none) (ha : DA X W [e] f) (hg : Gl X "enumerate" := by rfl) (hs : starEach [e] X.env = [(false, eval e X.env)] := by rfl) :
    DI X W (.Tuple elts kk tpos) (.Call (.Name "enumerate" p) [e] [] pos) (sEnum f) := by
  refine pi_imp (pi_enumA hg hm ha hs) fun σ H R h => ?_
  refine (tIx.seq (R1 := Reps X.K) h).imp fun vs H1 ⟨ds, w, items, e1, ok, r, hk, q⟩ => ?_
  subst e1
  unfold enumD at hk
  split at hk
  · rename_i xs
    cases hk
    obtain ⟨v, rfl, rv⟩ := reps1 r
    obtain ⟨a, z1, ea, h1, l1, k1⟩ := id rv
    subst ea
    exact ⟨a, z1, rfl, .inl ⟨SqL.of h1, q w (Grow.refl w) ok rfl _ (itok_enum rv)⟩⟩
  · rename_i xs
    cases hk
    obtain ⟨v, rfl, rv⟩ := reps1 r
    obtain ⟨a, z1, ea, h1, k1⟩ := id rv
    subst ea
    exact ⟨a, z1, rfl, .inr ⟨h1, q w (Grow.refl w) ok rfl _ (itok_enumT rv)⟩⟩
  · cases hk

/-! ### range(i, j, c) -/
def rngC (lo c : Int) (n : Nat) : List D := (List.range n).map fun (i : Nat) => D.int (lo + (i : Int) * c)
theorem rngC_get {lo c : Int} {n i : Nat} {d : D} (h : (rngC lo c n)[i]? = some d) : d = .int (lo + i * c) ∧ i < n := by
  unfold rngC at h
  rw [List.getElem?_map] at h
  cases e : (List.range n)[i]? with
  | none => rw [e] at h; cases h
  | some j =>
    rw [e] at h
    cases h
    obtain ⟨h1, h2⟩ := List.getElem?_eq_some_iff.1 e
    simp at h1 h2
    exact ⟨by rw [h2], h1⟩
theorem rngC_len (lo c : Int) (n : Nat) : (rngC lo c n).length = n := by simp [rngC]
noncomputable def rng3 : List D → Option (List D)
  | [.int i, .int j, .int c] => @ite _ (c ≠ 0 ∧ c.natAbs < 1073741824 ∧ Builtin.Range.small i j c = true) (Classical.propDecidable _) (some (rngC i c (Builtin.Range.rangeSize i j c).toNat)) none
  | _ => none
noncomputable def sRng3 (g : Env → M (List D)) : Env → M (List D) := fun ρ => bnd (g ρ) fun ds st => ofO (rng3 ds) st
theorem itok_rngC {K : PySem.W.Frag} {w : Wd} (lo c : Int) (n : Nat) : ItOk K w (rngC lo c n) (Itc lo c n) := by
  intro w1 g ok1
  refine ⟨fun i d hd => ?_, by rw [rngC_len]; exact Nat.le_refl _⟩
  obtain ⟨rfl, h⟩ := rngC_get hd
  exact ⟨h, fun x H' ⟨e1, e2⟩ => ⟨w1, e1.symm, Grow.refl w1, ok1, rfl, e2⟩⟩
theorem size_nonneg (i j c : Int) : 0 ≤ Builtin.Range.rangeSize i j c := by
  unfold Builtin.Range.rangeSize
  split
  · split
    · have := Int.ediv_nonneg (a := j - i - 1) (b := c) (by omega) (by omega)
      omega
    · omega
  · split
    · have := Int.ediv_nonneg (a := i - j - 1) (b := -c) (by omega) (by omega)
      omega
    · omega
theorem di_rng3 {tg e e2 e3 : Expr} {p pos : Pos} {f : Env → M (List D)} (hm : X.mg "range" = none) (ha : DA X W [e, e2, e3] f) (hg : Gl X "range" := by rfl)
    (hs : starEach [e, e2, e3] X.env = (false, eval e X.env) :: starEach [e2, e3] X.env := by rfl) (hpl : (backTo pos (starEach [e2, e3] X.env)).any (·.1) = false := by rfl) :
    DI X W tg (.Call (.Name "range" p) [e, e2, e3] [] pos) (sRng3 f) := by
  refine pi_imp (pi_range3 hg hm ha hs hpl) fun σ H R h => ?_
  refine (tIx.seq (R1 := Reps X.K) h).imp fun vs H1 ⟨ds, w, items, e1, ok, r, hk, q⟩ => ?_
  subst e1
  unfold rng3 at hk
  split at hk
  · rename_i i j c
    split at hk
    · rename_i hz
      cases hk
      obtain ⟨u, v, z, rfl, h1, h2, h3⟩ := reps3 r
      obtain rfl : u = V.int i := h1
      obtain rfl : v = V.int j := h2
      obtain rfl : z = V.int c := h3
      exact ⟨i, j, c, _, rfl, ⟨hz.1, hz.2.1, hz.2.2, (Int.toNat_of_nonneg (size_nonneg i j c)).symm⟩, q w (Grow.refl w) ok rfl _ (itok_rngC i c _)⟩
    · cases hk
  · cases hk
@[simp] theorem wp_enum {X : Exc → Store → Prop} {ρ : Env} {st : Store} {Q : List D → Store → Prop} (f : Env → M (List D)) : wp (sEnum f ρ st) X Q = wp (f ρ st) X fun a st1 => wo (enumD a) fun d => Q d st1 := by simp only [sEnum, bnd, wp_bnd, wp_ofO]
@[simp] theorem wp_rng3 {X : Exc → Store → Prop} {ρ : Env} {st : Store} {Q : List D → Store → Prop} (f : Env → M (List D)) : wp (sRng3 f ρ st) X Q = wp (f ρ st) X fun a st1 => wo (rng3 a) fun d => Q d st1 := by simp only [sRng3, bnd, wp_bnd, wp_ofO]
end
end PL
/-! PL18: comprehensions with two fors. -/
namespace PL
open PySem PySem.Spec PyProof.Rows L2
def DoneR {α : Type} (r : Res α) (Dn : α → Store → Prop) : Prop := match r with
  | .ok a st => Dn a st
  | _ => False
theorem DoneR.imp {α : Type} {r : Res α} {Dn Dn' : α → Store → Prop} (h : DoneR r Dn) (k : ∀ a st, Dn a st → Dn' a st) : DoneR r Dn' := by
  cases r with
  | ok a st => exact k a st h
  | exc e st => exact h
  | bad => exact h
theorem noX_exc {α β : Type} {r : Res α} {f : α → M β} (hf : ∀ a st e st', f a st ≠ .exc e st') : ∀ e st', (noX r).bnd f ≠ .exc e st' := by
  intro e st'
  cases r with
  | ok a st => exact hf a st e st'
  | exc e st => exact nofun
  | bad => exact nofun
theorem compGo_noexc (g : D → Env → Option Env) (c : Env → M Bool) (f : Env → M D) (ρ₀ : Env) : ∀ (items acc : List D) (st : Store) (e : Exc) (st' : Store), compGo g c f ρ₀ items acc st ≠ .exc e st'
  | [], acc, st, e, st' => nofun
  | d :: r, acc, st, e, st' => by
    unfold compGo
    cases eg : g d ρ₀ with
    | none => exact nofun
    | some ρ1 =>
      refine noX_exc (r := c ρ1 st) (fun b st1 e st' => ?_) e st'
      cases b with
      | false => rw [if_neg Bool.false_ne_true]; exact compGo_noexc g c f ρ₀ r acc st1 e st'
      | true =>
        rw [if_pos rfl]
        refine noX_exc (r := f ρ1 st1) (fun v st2 e st' => ?_) e st'
        by_cases hz : acc.length < sizeLine
        · rw [if_pos hz]; exact compGo_noexc g c f ρ₀ r (acc ++ [v]) st2 e st'
        · rw [if_neg hz]; exact nofun
def compGo2 (g : D → Env → Option Env) (c : Env → M Bool) (it1 : Env → M (List D)) (vs1 : List Nat) (g1 : D → Env → Option Env) (c1 : Env → M Bool) (f : Env → M D) (ρ₀ : Env) : List D → List D → M (List D)
  | [], acc => ret acc
  | d :: r, acc => match g d ρ₀ with
    | none => badM
    | some ρ₁ => bnd (mN (c ρ₁)) fun b => if b then bnd (mN (it1 ρ₁)) fun items => bnd (compGo g1 c1 f (wipeE ρ₁ vs1) items acc) fun acc' => compGo2 g c it1 vs1 g1 c1 f ρ₀ r acc'
      else compGo2 g c it1 vs1 g1 c1 f ρ₀ r acc
def sComp2 (m : Bool) (vs : List Nat) (g : D → Env → Option Env) (c : Env → M Bool) (it1 : Env → M (List D)) (vs1 : List Nat) (g1 : D → Env → Option Env) (c1 : Env → M Bool) (f : Env → M D) (it : Env → M (List D)) : Env → M D :=
  fun ρ => bnd (it ρ) fun items => bnd (compGo2 g c it1 vs1 g1 c1 f (wipeE ρ vs) items []) (mkL m)
section
variable {K : PySem.W.Frag} {w w2 w3 w' : Wd}
theorem Made.grow {p : Addr} {acc : List D} (md : Made K w w2 p acc) (g : Grow w2 w3) (ok3 : WOk K w3) : Made K w w3 p acc := by
  have pm : p ∈ w2.hid := by rw [md.hid]; exact List.mem_cons_self
  obtain ⟨us, e1, r1⟩ := md.at_
  refine ⟨md.fr, md.ok0, ok3, md.ext.trans g.ext, g.hid.trans md.hid, fun a ha => (g.hids a (by rw [md.hid]; exact List.mem_cons_of_mem _ ha)).trans (md.old a ha), us, ?_, Reps.grow g _ _ r1⟩
  rw [g.hids p pm]
  exact e1
theorem Made.start {p : Addr} (ok : WOk K w) (np : w.H p = none) : Made K w (w.hide p) p [] := by
  refine ⟨np, ok, wok_hide ok np, ext_hide np, rfl, fun a hm => ?_, [], upd_same, reps_nil⟩
  show upd w.H p _ a = _
  obtain ⟨us, e⟩ := ok.hidL a hm
  rw [upd_ne (ne_of_none e np)]
theorem Made.more {p : Addr} {acc : List D} {d : D} {y : V} (md : Made K w w2 p acc) (ry : Rep K w2 d y) : ∃ us, w2.H p = some (.lst us) ∧ us.length = acc.length ∧ Made K w (w2.put p (.lst (us ++ [y]))) p (acc ++ [d]) ∧ Ext w2 (w2.put p (.lst (us ++ [y]))) := by
  obtain ⟨us, e1, r1⟩ := md.at_
  have pm5 : p ∈ w2.hid := by rw [md.hid]; exact List.mem_cons_self
  have ex := ext_more (us := us ++ [y]) md.ok pm5 e1
  refine ⟨us, e1, r1.length.symm, ⟨md.fr, md.ok0, wok_more md.ok pm5 e1, md.ext.trans ex, md.hid, fun a ha => ?_, us ++ [y], upd_same, Reps.ext ex _ _ (r1.app (reps_cons ry reps_nil))⟩, ex⟩
  show upd w2.H p _ a = _
  have na : a ≠ p := fun z => by
    obtain ⟨us2, e2⟩ := md.ok0.hidL a ha
    rw [z, md.fr] at e2
    cases e2
  rw [upd_ne na]
  exact md.old a ha
end
section
variable {X : Cx} {W : WX}
/-- a loop that adds to a list in the making -/
theorem comp_in {items : List D} {g : D → Env → Option Env} {sl vs : List Nat} {c : Env → M Bool} {f : Env → M D} {w0 w2 : Wd} {ρ : Env} {σ : L2.St} {J : It} {p : Addr} {gT : TG} {tt : TT} {te : TE} {acc0 : List D} {Dn : List D → Store → Prop}
    (hgT : ∀ v σ H Q, tGD X.K sl g v σ H Q → gT v σ H Q) (htt : ∀ σ H Q, tX (cx X W0) (fun _ (a b : Bool) => a = b) T0 c σ H Q → tt σ H Q) (hte : ∀ σ H Q, tX (cx X W0) (Rep X.K) T0 f σ H Q → te σ H Q)
    (hsl : ∀ i, i ∈ sl → i ∈ vs) (md0 : Made X.K w0 w2 p acc0) (re : RepE X.K w2 σ ρ) (jok : ItOk X.K w2 items J)
    (q : DoneR (compGo g c f (wipeE ρ vs) items acc0 w2.st) Dn) :
    ∃ Wv : Nat → Nat → Hp → Prop, (∃ m, Wv 0 m w2.H) ∧ ∀ i m H, Wv i m H →
      (J.stop i H ∧ ∃ w3 acc, w3.H = H ∧ Made X.K w0 w3 p acc ∧ Dn acc w3.st) ∨ (J.go i H ∧ ∃ Nx : Hp → Prop, (∀ H', Nx H' → ∃ m', m' < m ∧ Wv (i + 1) m' H') ∧ ∀ x H', J.yld i H x H' → gT x (wipe σ vs) H' fun σ2 H2 => wipe σ2 vs = wipe σ vs ∧ tt σ2 H2 fun b H3 =>
        if b = true then te σ2 H3 fun y H4 => ∃ acc, H4 p = some (.lst acc) ∧ acc.length < sizeLine ∧ Nx (upd H4 p (.lst (acc ++ [y]))) else Nx H3) := by
  refine ⟨fun i m' H => ∃ w3 acc, w3.H = H ∧ Made X.K w0 w3 p acc ∧ Ext w2 w3 ∧ i ≤ items.length ∧ m' = items.length - i ∧ DoneR (compGo g c f (wipeE ρ vs) (items.drop i) acc w3.st) Dn,
    ⟨items.length, w2, acc0, rfl, md0, Ext.refl _, Nat.zero_le _, by omega, by rw [List.drop_zero]; exact q⟩, ?_⟩
  rintro i m' H ⟨w3, acc, rfl, md, ex3, hi, rfl, q2⟩
  obtain ⟨jit, jst⟩ := jok w3 ex3 md.ok
  by_cases hlt : i < items.length
  · obtain ⟨jgo, jy⟩ := jit i items[i] (List.getElem?_eq_getElem hlt)
    refine .inr ⟨jgo, fun H' => ∃ w3 acc, w3.H = H' ∧ Made X.K w0 w3 p acc ∧ Ext w2 w3 ∧ DoneR (compGo g c f (wipeE ρ vs) (items.drop (i + 1)) acc w3.st) Dn, fun H' ⟨w5, acc5, e5, md5, ex5, q5⟩ => ⟨items.length - (i + 1), by omega, w5, acc5, e5, md5, ex5, hlt, rfl, q5⟩, fun x H' hy => ?_⟩
    obtain ⟨w4, rfl, g4, ok4, st4, rx⟩ := jy x H' hy
    rw [List.drop_eq_getElem_cons hlt] at q2
    have q2 : DoneR ((match g items[i] (wipeE ρ vs) with
      | none => badM
      | some ρ₁ => bnd (mN (c ρ₁)) fun b => if b then bnd (mN (f ρ₁)) fun v => if acc.length < sizeLine then compGo g c f (wipeE ρ vs) (items.drop (i + 1)) (acc ++ [v]) else badM
        else compGo g c f (wipeE ρ vs) (items.drop (i + 1)) acc) w3.st) Dn := q2
    cases eg : g items[i] (wipeE ρ vs) with
    | none => rw [eg] at q2; exact q2.elim
    | some ρ1 =>
      rw [eg] at q2
      have q2 : DoneR ((noX (c ρ1 w3.st)).bnd fun b => if b then bnd (mN (f ρ1)) fun v => if acc.length < sizeLine then compGo g c f (wipeE ρ vs) (items.drop (i + 1)) (acc ++ [v]) else badM
        else compGo g c f (wipeE ρ vs) (items.drop (i + 1)) acc) Dn := q2
      refine hgT _ _ _ _ ⟨w4, wipeE ρ vs, items[i], ρ1, rfl, ok4, ((re.ext ex3).ext g4.ext).wipe vs, rx, eg, fun σ2 re2 wi => ⟨(wi vs hsl).trans (wipe_wipe σ vs), htt _ _ _ ⟨w4, ρ1, rfl, ok4, re2, trivial, ?_⟩⟩⟩
      rw [st4]
      cases ec : c ρ1 w3.st with
      | bad => rw [ec] at q2; exact q2.elim
      | exc _ _ => rw [ec] at q2; exact q2.elim
      | ok b st1 =>
        rw [ec] at q2
        intro w5 g5 ok5 es5 b' eb
        subst eb
        cases b with
        | false =>
          rw [if_neg Bool.false_ne_true]
          exact ⟨w5, acc, rfl, (md.grow (g4.trans g5) ok5), ex3.trans (g4.trans g5).ext, by rw [es5]; exact q2⟩
        | true =>
          rw [if_pos rfl]
          have q2 : DoneR ((noX (f ρ1 st1)).bnd fun v => if acc.length < sizeLine then compGo g c f (wipeE ρ vs) (items.drop (i + 1)) (acc ++ [v]) else badM) Dn := q2
          refine hte _ _ _ ⟨w5, ρ1, rfl, ok5, re2.grow g5, trivial, ?_⟩
          rw [es5]
          cases ef : f ρ1 st1 with
          | bad => rw [ef] at q2; exact q2.elim
          | exc _ _ => rw [ef] at q2; exact q2.elim
          | ok d st2 =>
            rw [ef] at q2
            intro w6 g6 ok6 es6 y ry
            have q2 : DoneR ((if acc.length < sizeLine then compGo g c f (wipeE ρ vs) (items.drop (i + 1)) (acc ++ [d]) else badM) st2) Dn := q2
            by_cases hz : acc.length < sizeLine
            · rw [if_pos hz] at q2
              obtain ⟨us, e1, l1, md6, ex6⟩ := (md.grow ((g4.trans g5).trans g6) ok6).more ry
              refine ⟨us, e1, by rw [l1]; exact hz, _, acc ++ [d], rfl, md6, (ex3.trans ((g4.trans g5).trans g6).ext).trans ex6, ?_⟩
              show DoneR (compGo g c f (wipeE ρ vs) (items.drop (i + 1)) (acc ++ [d]) w6.st) Dn
              rw [es6]
              exact q2
            · rw [if_neg hz] at q2
              exact q2.elim
  · have e : i = items.length := by omega
    subst e
    rw [List.drop_length] at q2
    exact .inl ⟨jst, w3, acc, rfl, md, q2⟩
theorem comp2_imp {m : Bool} {own : List (Str × Nat)} {sl sl1 vs1 : List Nat} {g g1 : D → Env → Option Env} {c c1 : Env → M Bool} {f : Env → M D} {it it1 : Env → M (List D)} {σ : L2.St} {H : Hp} {Q : VK} (hsl : ∀ i, i ∈ sl → i ∈ own.map (·.2)) (hsl1 : ∀ i, i ∈ sl1 → i ∈ vs1)
    (h : tX (cx X W) (Rep X.K) T0 (sComp2 m (own.map (·.2)) g c it1 vs1 g1 c1 f it) σ H Q) :
    tLc2 (tIx (cx X W) it) (tGD X.K sl g) (tX (cx X W0) (fun _ (a b : Bool) => a = b) T0 c) (tIx (cx X W0) it1) (tGD X.K sl1 g1) (tX (cx X W0) (fun _ (a b : Bool) => a = b) T0 c1) (tX (cx X W0) (Rep X.K) T0 f) (own.map (·.2)) vs1 σ H Q := by
  obtain ⟨w, ρ, rfl, ok, re, _, q⟩ := h
  refine ⟨w, ρ, rfl, ok, re, ?_⟩
  generalize hvs : own.map (·.2) = vs at hsl q ⊢
  have q : Post (cx X W) (Rep X.K) w ((it ρ w.st).bnd fun items => bnd (compGo2 g c it1 vs1 g1 c1 f (wipeE ρ vs) items []) (mkL m)) Q _ := q
  cases e : it ρ w.st with
  | bad => rw [e] at q; exact q
  | exc _ _ => rw [e] at q; exact q
  | ok items st =>
    rw [e] at q
    intro w1 g1' ok1 es J jok p np
    have q : Post (cx X W) (Rep X.K) w ((compGo2 g c it1 vs1 g1 c1 f (wipeE ρ vs) items [] st).bnd (mkL m)) Q ((cx X W).we σ) := q
    have q : Post (cx X W) (Rep X.K) w1 ((compGo2 g c it1 vs1 g1 c1 f (wipeE ρ vs) items [] w1.st).bnd (mkL m)) Q ((cx X W).we σ) := by rw [es]; exact q.grow g1'
    generalize (cx X W).we σ = EE at q
    have re := re.grow g1'
    clear es g1'
    refine ⟨fun i m' H => ∃ w2 acc, w2.H = H ∧ Made X.K w1 w2 p acc ∧ i ≤ items.length ∧ m' = items.length - i ∧ Post (cx X W) (Rep X.K) w1 ((compGo2 g c it1 vs1 g1 c1 f (wipeE ρ vs) (items.drop i) acc w2.st).bnd (mkL m)) Q EE,
      ⟨items.length, w1.hide p, [], rfl, Made.start ok1 np, Nat.zero_le _, by omega, by rw [List.drop_zero]; exact q⟩, ?_⟩
    rintro i m' H ⟨w2, acc, rfl, md, hi, rfl, q2⟩
    obtain ⟨jit, jst⟩ := jok w2 md.ext md.ok
    by_cases hlt : i < items.length
    · obtain ⟨jgo, jy⟩ := jit i items[i] (List.getElem?_eq_getElem hlt)
      refine .inr ⟨jgo, fun H' => ∃ w2 acc, w2.H = H' ∧ Made X.K w1 w2 p acc ∧ Post (cx X W) (Rep X.K) w1 ((compGo2 g c it1 vs1 g1 c1 f (wipeE ρ vs) (items.drop (i + 1)) acc w2.st).bnd (mkL m)) Q EE, fun H' ⟨w5, acc5, e5, md5, q5⟩ => ⟨items.length - (i + 1), by omega, w5, acc5, e5, md5, hlt, rfl, q5⟩, fun x H' hy => ?_⟩
      obtain ⟨w3, rfl, g3, ok3, st3, rx⟩ := jy x H' hy
      rw [List.drop_eq_getElem_cons hlt] at q2
      have q2 : Post (cx X W) (Rep X.K) w1 (((match g items[i] (wipeE ρ vs) with
        | none => badM
        | some ρ₁ => bnd (mN (c ρ₁)) fun b => if b then bnd (mN (it1 ρ₁)) fun items1 => bnd (compGo g1 c1 f (wipeE ρ₁ vs1) items1 acc) fun acc' => compGo2 g c it1 vs1 g1 c1 f (wipeE ρ vs) (items.drop (i + 1)) acc'
          else compGo2 g c it1 vs1 g1 c1 f (wipeE ρ vs) (items.drop (i + 1)) acc) w2.st).bnd (mkL m)) Q EE := q2
      cases eg : g items[i] (wipeE ρ vs) with
      | none => rw [eg] at q2; exact q2.elim
      | some ρ1 =>
        rw [eg] at q2
        have q2 : Post (cx X W) (Rep X.K) w1 (((noX (c ρ1 w2.st)).bnd fun b => if b then bnd (mN (it1 ρ1)) fun items1 => bnd (compGo g1 c1 f (wipeE ρ1 vs1) items1 acc) fun acc' => compGo2 g c it1 vs1 g1 c1 f (wipeE ρ vs) (items.drop (i + 1)) acc'
          else compGo2 g c it1 vs1 g1 c1 f (wipeE ρ vs) (items.drop (i + 1)) acc).bnd (mkL m)) Q EE := q2
        refine ⟨w3, wipeE ρ vs, items[i], ρ1, rfl, ok3, ((re.ext md.ext).ext g3.ext).wipe vs, rx, eg, fun σ2 re2 wi => ⟨(wi vs hsl).trans (wipe_wipe σ vs), ⟨w3, ρ1, rfl, ok3, re2, trivial, ?_⟩⟩⟩
        rw [st3]
        cases ec : c ρ1 w2.st with
        | bad => rw [ec] at q2; exact q2.elim
        | exc _ _ => rw [ec] at q2; exact q2.elim
        | ok b st1 =>
          rw [ec] at q2
          intro w4 g4 ok4 es4 b' eb
          subst eb
          cases b with
          | false =>
            rw [if_neg Bool.false_ne_true]
            exact ⟨w4, acc, rfl, md.grow (g3.trans g4) ok4, by rw [es4]; exact q2⟩
          | true =>
            rw [if_pos rfl]
            have q2 : Post (cx X W) (Rep X.K) w1 (((noX (it1 ρ1 st1)).bnd fun items1 => bnd (compGo g1 c1 f (wipeE ρ1 vs1) items1 acc) fun acc' => compGo2 g c it1 vs1 g1 c1 f (wipeE ρ vs) (items.drop (i + 1)) acc').bnd (mkL m)) Q EE := q2
            refine ⟨w4, ρ1, rfl, ok4, re2.grow g4, ?_⟩
            rw [es4]
            cases ei : it1 ρ1 st1 with
            | bad => rw [ei] at q2; exact q2.elim
            | exc _ _ => rw [ei] at q2; exact q2.elim
            | ok items1 st2 =>
              rw [ei] at q2
              intro w5 g5 ok5 es5 J1 jok1
              have q2 : Post (cx X W) (Rep X.K) w1 (((compGo g1 c1 f (wipeE ρ1 vs1) items1 acc st2).bnd fun acc' => compGo2 g c it1 vs1 g1 c1 f (wipeE ρ vs) (items.drop (i + 1)) acc').bnd (mkL m)) Q EE := q2
              have hd : DoneR (compGo g1 c1 f (wipeE ρ1 vs1) items1 acc w5.st) fun acc' st' => Post (cx X W) (Rep X.K) w1 ((compGo2 g c it1 vs1 g1 c1 f (wipeE ρ vs) (items.drop (i + 1)) acc' st').bnd (mkL m)) Q EE := by
                rw [es5]
                cases ek : compGo g1 c1 f (wipeE ρ1 vs1) items1 acc st2 with
                | bad => rw [ek] at q2; exact q2.elim
                | exc e' s' => exact absurd ek (compGo_noexc _ _ _ _ _ _ _ _ _)
                | ok acc' st' => rw [ek] at q2; exact q2
              obtain ⟨Wv, h0, turn⟩ := comp_in (X := X) (gT := tGD X.K sl1 g1) (tt := tX (cx X W0) (fun _ (a b : Bool) => a = b) T0 c1) (te := tX (cx X W0) (Rep X.K) T0 f) (fun _ _ _ _ h => h) (fun _ _ _ h => h) (fun _ _ _ h => h) hsl1
                (md.grow ((g3.trans g4).trans g5) ok5) ((re2.grow g4).grow g5) jok1 hd
              refine ⟨Wv, h0, fun j k H hW => ?_⟩
              rcases turn j k H hW with ⟨h1, h2⟩ | h1
              · exact .inl ⟨h1, h2⟩
              · exact .inr h1
    · have e : i = items.length := by omega
      subst e
      rw [List.drop_length] at q2
      refine .inl ⟨jst, ?_⟩
      have q2 : Post (cx X W) (Rep X.K) w1 (mkL m acc w2.st) Q EE := q2
      unfold mkL at q2
      cases m with
      | false =>
        obtain ⟨g1, ok1, r1⟩ := md.end_
        exact q2 _ g1 ok1 rfl _ r1
      | true =>
        obtain ⟨w3, e1, e2, g1, ok1, r1⟩ := md.endS
        have := q2 w3 g1 ok1 e2 _ r1
        rw [e1] at this
        exact this
theorem de_comp2 (m : Bool) {elt tg iter tg1 iter1 : Expr} {ifs ifs1 : List Expr} {scope : Scope} {own : List (Str × Nat)} {sl sl1 : List Nat} (vs1 : List Nat) {pos : Pos} {g g1 : D → Env → Option Env} {c c1 : Env → M Bool} {f : Env → M D} {it it1 : Env → M (List D)} (hc : X.calm = true) (hN : X.N.Nodup) (hi : DI X W tg iter it) (ok : BlkOk X.N X.env.scope scope own)
    (hg : ∀ (s : Shared) (H : Hp) (Ca : Addr) (cl : List (Str × Addr)) (fp : List Addr), DG (X.blk s H scope (compEnvC scope cl Ca X.env) fp) tg sl g) (ht : ∀ (s : Shared) (H : Hp) (Ca : Addr) (cl : List (Str × Addr)) (fp : List Addr), DQ (X.blk s H scope (compEnvC scope cl Ca X.env) fp) ifs c)
    (hi1 : ∀ (s : Shared) (H : Hp) (Ca : Addr) (cl : List (Str × Addr)) (fp : List Addr), DI (X.blk s H scope (compEnvC scope cl Ca X.env) fp) W0 tg1 iter1 it1)
    (hg1 : ∀ (s : Shared) (H : Hp) (Ca : Addr) (cl : List (Str × Addr)) (fp : List Addr), DG (X.blk s H scope (compEnvC scope cl Ca X.env) fp) tg1 sl1 g1) (ht1 : ∀ (s : Shared) (H : Hp) (Ca : Addr) (cl : List (Str × Addr)) (fp : List Addr), DQ (X.blk s H scope (compEnvC scope cl Ca X.env) fp) ifs1 c1)
    (he : ∀ (s : Shared) (H : Hp) (Ca : Addr) (cl : List (Str × Addr)) (fp : List Addr), DE (X.blk s H scope (compEnvC scope cl Ca X.env) fp) W0 elt f) (hsl : ∀ i, i ∈ sl → i ∈ own.map (·.2) := by decide) (hsl1 : ∀ i, i ∈ sl1 → i ∈ vs1 := by decide) (hv : ∀ i ∈ vs1, i ∈ own.map (·.2) := by decide)
    (hs : ∀ x, foldedSetIterable iter X.env x = pure x := by intro _; rfl) (hs1 : ∀ env x, foldedSetIterable iter1 env x = pure x := by intro _ _; rfl) :
    DE X W (.ListComp elt [⟨tg, iter, ifs, 0⟩, ⟨tg1, iter1, ifs1, 0⟩] scope pos) (sComp2 m (own.map (·.2)) g c it1 vs1 g1 c1 f it) :=
  (pe_lc2 hc hN hi ok hv hg ht hi1 hg1 ht1 he hs hs1).imp fun σ H Q h => comp2_imp hsl hsl1 h
end
end PL
namespace PL
open PySem PySem.Spec PyProof.Rows L2
section
variable {X : Cx} {W : WX}
/-- y = [.. for .. for ..] on one line -/
theorem ds_setLc2 (i : Nat) (m : Bool) {y : Str} {py : Pos} {elt tg iter tg1 iter1 : Expr} {ifs ifs1 : List Expr} {scope : Scope} {own : List (Str × Nat)} {sl sl1 : List Nat} (vs1 : List Nat) {pos spos : Pos} {g g1 : D → Env → Option Env} {c c1 : Env → M Bool} {f : Env → M D} {it it1 : Env → M (List D)} (hc : X.calm = true) (hN : X.N.Nodup)
    (hy : X.N[i]? = some y) (hyl : X.env.scope.names.lookup y = some .local) (hsw : swapsWith (.ListComp elt [⟨tg, iter, ifs, 0⟩, ⟨tg1, iter1, ifs1, 0⟩] scope pos) (some (.Name y py)) spos.line X.env = pure true) (hi : DI X W tg iter it) (ok : BlkOk X.N X.env.scope scope own)
    (hg : ∀ (s : Shared) (H : Hp) (Ca : Addr) (cl : List (Str × Addr)) (fp : List Addr), DG (X.blk s H scope (compEnvC scope cl Ca X.env) fp) tg sl g) (ht : ∀ (s : Shared) (H : Hp) (Ca : Addr) (cl : List (Str × Addr)) (fp : List Addr), DQ (X.blk s H scope (compEnvC scope cl Ca X.env) fp) ifs c)
    (hi1 : ∀ (s : Shared) (H : Hp) (Ca : Addr) (cl : List (Str × Addr)) (fp : List Addr), DI (X.blk s H scope (compEnvC scope cl Ca X.env) fp) W0 tg1 iter1 it1)
    (hg1 : ∀ (s : Shared) (H : Hp) (Ca : Addr) (cl : List (Str × Addr)) (fp : List Addr), DG (X.blk s H scope (compEnvC scope cl Ca X.env) fp) tg1 sl1 g1) (ht1 : ∀ (s : Shared) (H : Hp) (Ca : Addr) (cl : List (Str × Addr)) (fp : List Addr), DQ (X.blk s H scope (compEnvC scope cl Ca X.env) fp) ifs1 c1)
    (he : ∀ (s : Shared) (H : Hp) (Ca : Addr) (cl : List (Str × Addr)) (fp : List Addr), DE (X.blk s H scope (compEnvC scope cl Ca X.env) fp) W0 elt f) (hsl : ∀ i, i ∈ sl → i ∈ own.map (·.2) := by decide) (hsl1 : ∀ i, i ∈ sl1 → i ∈ vs1 := by decide) (hv : ∀ i ∈ vs1, i ∈ own.map (·.2) := by decide)
    (hs : ∀ x, foldedSetIterable iter X.env x = pure x := by intro _; rfl) (hs1 : ∀ env x, foldedSetIterable iter1 env x = pure x := by intro _ _; rfl) :
    DS X W (.Assign [.Name y py] (.ListComp elt [⟨tg, iter, ifs, 0⟩, ⟨tg1, iter1, ifs1, 0⟩] scope pos) spos) (sSet i (sComp2 m (own.map (·.2)) g c it1 vs1 g1 c1 f it)) :=
  PS.imp (ps_setLc2 hc hN hy hyl hsw hi ok hv hg ht hi1 hg1 ht1 he hs hs1) fun D σ H h => comp2_imp hsl hsl1 ((then_imp (R := Rep X.K) h).imp fun x H1 ⟨w, ρ, a, e1, ok, re, r, q⟩ => by
    subst e1
    exact q w (Grow.refl w) ok rfl _ (re.set i r))
end
end PL
/-! PL19: isinstance(x, (T1, T2)); x == () and x == [] for any x. -/
namespace PL
open PySem PySem.Spec PyProof.Rows L2
def isTys (a : String) : List D → Option Bool
  | [] => some false
  | .vv (.ty b) :: r => (isTy a b).bind fun x => (isTys a r).map fun y => x || y
  | _ => none
def isiTD : List D → Store → Option D
  | [d, .tup cs], st => (tyD st d).bind fun a => (isTys a cs).map D.bl
  | _, _ => none
section
variable {K : PySem.W.Frag} {w : Wd}
theorem tys_rep {a : String} (ha : a = "NoneType" ∨ a = "bool" ∨ a = "int" ∨ a = "str" ∨ a = "tuple" ∨ a = "list" ∨ a = "dict") : ∀ (cs : List D) (vs : List V) (c : Bool), isTys a cs = some c → Reps K w cs vs → ∃ us : List Value, Paired ClsV vs us ∧ PySem.W.kitAny K (.type a) us = some c
  | [], vs, c, h, r => by
    obtain rfl : vs = [] := r
    cases h
    exact ⟨[], .nil, kitAny_nil⟩
  | x :: r, vs, c, h, rr => by
    obtain ⟨v, t, rfl, h1, h2⟩ := rr
    unfold isTys at h
    split at h
    · rename_i e; cases e
    · rename_i b r' e
      cases e
      obtain rfl : v = V.ty b := h1
      cases e2 : isTy a b with
      | none => rw [e2] at h; cases h
      | some k =>
        rw [e2] at h
        cases e3 : isTys a r with
        | none => rw [e3] at h; cases h
        | some y =>
          rw [e3] at h
          cases h
          obtain ⟨us, pu, hk⟩ := tys_rep ha r t y e3 h2
          refine ⟨.type b :: us, .cons (.ty b) pu, kitAny_cons (kit_ty (kit_all ha e2)) (fun e => ?_) fun e => ?_⟩
          · rw [e]; exact hk
          · rw [e]; rfl
    · cases h
end
section
variable {X : Cx} {W : WX}
theorem cr_isiTD : CallR X (.builtin "isinstance") (rC X.K isiTD) := by
  intro pins s σ H xs us Q I r h
  obtain ⟨w, ds, d, rfl, ok, rd, hf, q⟩ := h
  unfold isiTD at hf
  split at hf
  · rename_i e cs
    cases ht : tyD w.st e with
    | none => rw [ht] at hf; cases hf
    | some a =>
      rw [ht] at hf
      have hf : (isTys a cs).map D.bl = some d := hf
      cases hi : isTys a cs with
      | none => rw [hi] at hf; cases hf
      | some c =>
        rw [hi] at hf
        cases hf
        obtain ⟨v, u, rfl, h1, h2⟩ := reps2 rd
        obtain ⟨tp, vs, rfl, hT, hr⟩ := h2
        obtain ⟨k1, k2⟩ := ty_rep ok ht h1
        obtain ⟨ws, pu, hk⟩ := tys_rep k2 cs vs c hi hr
        obtain ⟨u1, u2, rfl, r1, r2⟩ := vals2 r
        cases (show u2 = Value.ref tp from r2)
        obtain ⟨P, Z, p, hx⟩ := kit_of I r1 k1
        obtain ⟨its, rv, ⟨o, g1, g2, n, g3⟩, _⟩ := I.tuple hT
        have e3 := ClsV.all pu rv
        subst e3
        obtain ⟨oc, od, dt, sl⟩ := o
        simp only at g2 g3
        subst g2 g3
        exact PySem.W.kia_tup Z I.kIn p g1 hk hx fun tk => ⟨.bl c, _, I.tok tk, rfl, q.now ok rfl⟩
  · cases hf

/-! x == (), x == [] -/
def empD (a b : D) (st : Store) : Option Bool := match b with
  | .tup [] => match a with
    | .tup xs => some xs.isEmpty
    | _ => none
  | .lst [] => (viewL st a).map fun xs => xs.isEmpty
  | _ => none
theorem empD_cases {a b : D} {st : Store} {c : Bool} (h : empD a b st = some c) : (∃ xs, a = .tup xs ∧ b = .tup [] ∧ c = xs.isEmpty) ∨ (∃ xs, viewL st a = some xs ∧ b = .lst [] ∧ c = xs.isEmpty) := by
  unfold empD at h
  split at h
  · split at h
    · cases h; exact .inl ⟨_, rfl, rfl, rfl⟩
    · cases h
  · cases e : viewL st a with
    | none => rw [e] at h; cases h
    | some xs => rw [e] at h; cases h; exact .inr ⟨xs, rfl, rfl, rfl⟩
  · cases h
theorem size_nil {us : List Value} (r : Vals [] us) : us.toArray.size = 0 := by
  have := r.length
  simp at this
  simp [this.symm]
theorem range_all0 {n : Nat} (e : Nat → Bool) (h : n = 0) : ((List.range n).all e) = true := by subst h; rfl
theorem cmp_eqE (hu : X.A.units + 65 < cLine) : OpR X (compareOp .Eq) (rCmp X.K empD) := by
  intro pins s σ H x y v u Q I rx ry h
  obtain ⟨w, dx, dy, b, rfl, ok, hx, hy, hf, q⟩ := h
  rcases empD_cases hf with ⟨xs, rfl, rfl, rfl⟩ | ⟨xs, ev, rfl, rfl⟩
  · obtain ⟨a, vs, rfl, h1, h2⟩ := hx
    obtain ⟨a', vs', rfl, h3, h4⟩ := hy
    obtain rfl : vs' = [] := h4
    cases (show v = Value.ref a from rx)
    cases (show u = Value.ref a' from ry)
    obtain ⟨its, rv, t1, _⟩ := I.tuple h1
    obtain ⟨its', rv', t2, _⟩ := I.tuple h3
    have e0 := size_nil rv'
    have h := SeqAt.RcAt.tuples (A := X.A) (s := s) (e := fun _ => true) t1 t2 (by omega) (fun j j1 j2 => absurd j2 (by omega))
    refine h X.prog X.w X.xe _ ⟨.bl xs.isEmpty, w.H, I, ?_, q⟩
    show Value.bool _ = Value.bool _
    rw [range_all0 _ (by rw [e0]; exact Nat.min_zero _), e0, Bool.true_and]
    congr 1
    have l1 := rv.length
    have l2 := h2.length
    rw [List.size_toArray, ← l1, ← l2]
    cases xs <;> rfl
  · obtain ⟨a, vs, rfl, h1, h2⟩ := view_rep ok ev hx
    obtain ⟨a', vs', rfl, h3, _, h4⟩ := hy
    obtain rfl : vs' = [] := h4
    cases (show v = Value.ref a from rx)
    cases (show u = Value.ref a' from ry)
    obtain ⟨its, rv, t1, _⟩ := I.list (SqL.of h1)
    obtain ⟨its', rv', t2, _⟩ := I.list (SqL.of h3)
    have e0 := size_nil rv'
    have l1 := rv.length
    have l2 := h2.length
    cases xs with
    | nil =>
      have e1 : its.toArray.size = 0 := by rw [List.size_toArray, ← l1, ← l2]; rfl
      have h := SeqAt.RcAt.lists (A := X.A) (s := s) (e := fun _ => true) t1.isList t2.isList (by rw [e0, e1]) (by omega) (fun j j1 j2 => absurd j2 (by omega))
      refine h X.prog X.w X.xe _ ⟨.bl true, w.H, I, ?_, q⟩
      show Value.bool _ = Value.bool _
      rw [range_all0 _ e1]
    | cons z t =>
      have e1 : its.toArray.size ≠ 0 := by rw [List.size_toArray, ← l1, ← l2]; simp
      have h := SeqAt.RcAt.lists_lengths (A := X.A) (s := s) t1.isList t2.isList (by rw [e0]; simpa using e1) (by omega)
      exact h X.prog X.w X.xe _ ⟨.bl false, w.H, I, rfl, q⟩
theorem cmp_neE (hu : X.A.units + 65 < cLine) : OpR X (compareOp .NotEq) (rCmp X.K fun a b st => (empD a b st).map (!·)) := by
  intro pins s σ H x y v u Q I rx ry h
  obtain ⟨w, dx, dy, b, rfl, ok, hx, hy, hf, q⟩ := h
  have hf : (empD dx dy w.st).map (!·) = some b := hf
  cases hf2 : empD dx dy w.st with
  | none => rw [hf2] at hf; cases hf
  | some c =>
    rw [hf2] at hf
    cases hf
    rcases empD_cases hf2 with ⟨xs, rfl, rfl, rfl⟩ | ⟨xs, ev, rfl, rfl⟩
    · obtain ⟨a, vs, rfl, h1, h2⟩ := hx
      obtain ⟨a', vs', rfl, h3, h4⟩ := hy
      obtain rfl : vs' = [] := h4
      cases (show v = Value.ref a from rx)
      cases (show u = Value.ref a' from ry)
      obtain ⟨its, rv, t1, _⟩ := I.tuple h1
      obtain ⟨its', rv', t2, _⟩ := I.tuple h3
      have e0 := size_nil rv'
      have h := SeqAt.RcNeAt.tuples (A := X.A) (s := s) (e := fun _ => true) t1 t2 (by omega) (fun j j1 j2 => absurd j2 (by omega))
      refine h X.prog X.w X.xe _ ⟨.bl (!xs.isEmpty), w.H, I, ?_, q⟩
      show Value.bool _ = Value.bool _
      rw [range_all0 _ (by rw [e0]; exact Nat.min_zero _), e0, Bool.true_and]
      congr 2
      have l1 := rv.length
      have l2 := h2.length
      rw [List.size_toArray, ← l1, ← l2]
      cases xs <;> rfl
    · obtain ⟨a, vs, rfl, h1, h2⟩ := view_rep ok ev hx
      obtain ⟨a', vs', rfl, h3, _, h4⟩ := hy
      obtain rfl : vs' = [] := h4
      cases (show v = Value.ref a from rx)
      cases (show u = Value.ref a' from ry)
      obtain ⟨its, rv, t1, _⟩ := I.list (SqL.of h1)
      obtain ⟨its', rv', t2, _⟩ := I.list (SqL.of h3)
      have e0 := size_nil rv'
      have l1 := rv.length
      have l2 := h2.length
      cases xs with
      | nil =>
        have e1 : its.toArray.size = 0 := by rw [List.size_toArray, ← l1, ← l2]; rfl
        have h := SeqAt.RcNeAt.lists (A := X.A) (s := s) (e := fun _ => true) t1.isList t2.isList (by rw [e0, e1]) (by omega) (fun j j1 j2 => absurd j2 (by omega))
        refine h X.prog X.w X.xe _ ⟨.bl false, w.H, I, ?_, q⟩
        show Value.bool _ = Value.bool _
        rw [range_all0 _ e1]
        rfl
      | cons z t =>
        have e1 : its.toArray.size ≠ 0 := by rw [List.size_toArray, ← l1, ← l2]; simp
        have h := SeqAt.RcNeAt.lists_lengths (A := X.A) (s := s) t1.isList t2.isList (by rw [e0]; simpa using e1) (by omega)
        exact h X.prog X.w X.xe _ ⟨.bl true, w.H, I, rfl, q⟩
/-- a comparison that is F on data -/
def tCmpF (F : D → D → Store → Option Bool) (f g : Env → M D) : Env → M Bool := fun ρ => bnd (f ρ) fun a => bnd (g ρ) fun b => fun st => ofO (F a b st) st
theorem seq_cmpF {F : D → D → Store → Option Bool} {f g : Env → M D} {σ : L2.St} {H : Hp} {Q : VK} (h : tX (cx X W) (Rep X.K) T0 (sOfB (tCmpF F f g)) σ H Q) :
    tX (cx X W) (Rep X.K) T0 f σ H fun x H1 => tX (cx X W) (Rep X.K) T0 g σ H1 fun y H2 => rCmp X.K F x y H2 Q := by
  have h' : tX (cx X W) (Rep X.K) T0 (fun ρ => bnd (f ρ) fun a => bnd (g ρ) fun b => bnd (fun st => ofO (F a b st) st) fun c => ret (D.bl c)) σ H Q := by
    obtain ⟨w, ρ, e, ok, re, p, q⟩ := h
    refine ⟨w, ρ, e, ok, re, p, ?_⟩
    unfold sOfB tCmpF bnd at q
    show Post (cx X W) (Rep X.K) w ((f ρ w.st).bnd fun a => bnd (g ρ) fun b => bnd (fun st => ofO (F a b st) st) fun c => ret (D.bl c)) Q _
    cases hf : f ρ w.st with
    | bad => rw [hf] at q; exact q
    | exc _ _ => rw [hf] at q; exact q
    | ok a st =>
      rw [hf] at q
      show Post (cx X W) (Rep X.K) w ((g ρ st).bnd fun b => bnd (fun st => ofO (F a b st) st) fun c => ret (D.bl c)) Q _
      have q : Post (cx X W) (Rep X.K) w (((g ρ st).bnd fun b st => ofO (F a b st) st).bnd fun a => ret (D.bl a)) Q _ := q
      cases hg : g ρ st with
      | bad => rw [hg] at q; exact q
      | exc _ _ => rw [hg] at q; exact q
      | ok b st2 => rw [hg] at q; exact q
  refine (tX.seq0 (R1 := Rep X.K) h').imp fun x H1 ⟨da, h1⟩ => ?_
  refine ((tX.seq (R1 := Rep X.K) (mono_and mono0 monoRep) h1).weak).imp fun y H2 ⟨db, h2⟩ => ?_
  obtain ⟨w, ρ, rfl, ok, re, ⟨⟨_, r1⟩, r2⟩, q⟩ := h2
  have q : Post (cx X W) (Rep X.K) w ((ofO (F da db w.st) w.st : Res Bool).bnd fun c => ret (D.bl c)) Q _ := q
  cases e : F da db w.st with
  | none => rw [e] at q; exact q.elim
  | some b =>
    rw [e] at q
    exact ⟨w, da, db, b, rfl, ok, r1, r2, e, q w (Grow.refl w) ok rfl _ rfl⟩
theorem de_cmpF {F : D → D → Store → Option Bool} {a b : Expr} {f g : Env → M D} {o : CmpOp} {pos : Pos} (hF : OpR X (compareOp o) (rCmp X.K F)) (ha : DE X W a f) (hb : DE X W b g) (hm : behindInMarks o b = false := by first | rfl | exact nomark _) :
    DE X W (.Compare a [o] [b] pos) (sOfB (tCmpF F f g)) := (pe_cmpR hF ha hb hm).imp fun σ H Q h => seq_cmpF h
theorem dt_cmpF {F : D → D → Store → Option Bool} {a b : Expr} {f g : Env → M D} {o : CmpOp} {pos : Pos} (hF : OpR X (compareOp o) (rCmp X.K F)) (ha : DE X W a f) (hb : DE X W b g) (hm : behindInMarks o b = false := by first | rfl | exact nomark _) :
    DT X W (.Compare a [o] [b] pos) (tCmpF F f g) := by
  refine (pt_cmpR hF ha hb hm).imp fun σ H Q h => ?_
  have h2 : tX (cx X W) (Rep X.K) T0 (sOfB (tCmpF F f g)) σ H fun x H1 => ∃ k, x = V.bl k ∧ Q k H1 := by
    obtain ⟨w, ρ, e, ok, re, p, q⟩ := h
    refine ⟨w, ρ, e, ok, re, p, ?_⟩
    unfold sOfB bnd
    cases hr : tCmpF F f g ρ w.st with
    | bad => rw [hr] at q; exact q
    | exc _ _ => rw [hr] at q; exact q
    | ok c st =>
      rw [hr] at q
      exact fun w' g' ok' es x hx => ⟨c, hx, q w' g' ok' es c rfl⟩
  exact seq_cmpF h2
def neE : D → D → Store → Option Bool := fun a b st => (empD a b st).map (!·)
theorem de_eqE {a b : Expr} {f g : Env → M D} {pos : Pos} (hu : X.A.units + 65 < cLine) (ha : DE X W a f) (hb : DE X W b g) : DE X W (.Compare a [.Eq] [b] pos) (sOfB (tCmpF empD f g)) := de_cmpF (cmp_eqE hu) ha hb
theorem de_neE {a b : Expr} {f g : Env → M D} {pos : Pos} (hu : X.A.units + 65 < cLine) (ha : DE X W a f) (hb : DE X W b g) : DE X W (.Compare a [.NotEq] [b] pos) (sOfB (tCmpF neE f g)) := de_cmpF (cmp_neE hu) ha hb
theorem dt_eqE {a b : Expr} {f g : Env → M D} {pos : Pos} (hu : X.A.units + 65 < cLine) (ha : DE X W a f) (hb : DE X W b g) : DT X W (.Compare a [.Eq] [b] pos) (tCmpF empD f g) := dt_cmpF (cmp_eqE hu) ha hb
theorem dt_neE {a b : Expr} {f g : Env → M D} {pos : Pos} (hu : X.A.units + 65 < cLine) (ha : DE X W a f) (hb : DE X W b g) : DT X W (.Compare a [.NotEq] [b] pos) (tCmpF neE f g) := dt_cmpF (cmp_neE hu) ha hb
end
section
variable {X : Exc → Store → Prop} {ρ : Env} {st : Store} {QB : Bool → Store → Prop}
@[simp] theorem wp_cmpF (F : D → D → Store → Option Bool) (f g : Env → M D) : wp (tCmpF F f g ρ st) X QB = wp (f ρ st) X fun a st1 => wp (g ρ st1) X fun b st2 => wo (F a b st2) fun d => QB d st2 := by simp only [tCmpF, bnd, wp_bnd, wp_ofO]
@[simp] theorem empD_tup (xs : List D) : empD (.tup xs) (.tup []) st = some xs.isEmpty := rfl
@[simp] theorem empD_lst (xs : List D) : empD (.lst xs) (.lst []) st = some xs.isEmpty := rfl
@[simp] theorem neE_tup (xs : List D) : neE (.tup xs) (.tup []) st = some (!xs.isEmpty) := rfl
@[simp] theorem neE_lst (xs : List D) : neE (.lst xs) (.lst []) st = some (!xs.isEmpty) := rfl
@[simp] theorem wp_comp2F (vs : List Nat) (g : D → Env → Option Env) (c : Env → M Bool) (it1 : Env → M (List D)) (vs1 : List Nat) (g1 : D → Env → Option Env) (c1 : Env → M Bool) (f : Env → M D) (it : Env → M (List D)) {Q : D → Store → Prop} : wp (sComp2 false vs g c it1 vs1 g1 c1 f it ρ st) X Q = wp (it ρ st) X fun items st1 => wp (compGo2 g c it1 vs1 g1 c1 f (wipeE ρ vs) items [] st1) X fun xs st2 => Q (.lst xs) st2 := by
  simp only [sComp2, bnd, wp_bnd]; rfl
end
end PL
namespace PL
open PySem PySem.Spec PyProof.Rows L2
section
variable {P : Program} {wo : World} {K : PySem.W.Frag} {mg : Str → Option Value} {base : Heap} {k n : Nat} {f : Addr} {fd : FuncData} {ps : List Str}
def badF : List D → M D := fun _ _ => .bad
theorem fg_bad (hn : ps.length = n) : FG P wo K mg base k f fd ps (spF K mg n (arity n badF)) where
  len := fun vs H Q E h => by rw [h.1, hn]
  run := fun A out s H args us vs Q E _ _ _ _ _ h => by
    obtain ⟨_, w, ds, _, _, _, q⟩ := h
    unfold arity badF at q
    split at q <;> exact q.elim
end
end PL
/-! PL20: list(text). -/
namespace PL
open PySem PySem.Spec PyProof.Rows L2
section
variable {X : Cx} {W : WX}
theorem cr_list_str (hc : X.calm = true) : CallR X (.type "list") (fun xs H Q => ∃ z, xs = [.str (toS z)] ∧ z.length ≤ sizeLine ∧ ∀ l, H l = none → Q (.ref l) (upd H l (.lst (z.map fun c => V.str (toS [c]))))) := by
  intro pins s σ H xs us Q I r h
  obtain ⟨z, rfl, hz, q⟩ := h
  obtain ⟨u, rfl, t, rfl⟩ := vals1 r
  refine call_list_str (I.ok.hd hc) (toS z) t (fun h' tk acc' c' hk hS' hacc => ?_) (by show z.toArray.size ≤ sizeLine; simpa using hz)
  have e0 : (toS z).cps.size = z.length := by show z.toArray.size = _; simp
  refine ⟨.ref s.heap.objs.size, _, I.laid hk (Nat.le_refl _) (show ObjOk X.prog X.w _ h' _ (.lst (z.map fun c => V.str (toS [c]))) from ⟨by rw [List.length_map]; exact hz, acc'.toList, c', ?_, ?_⟩), rfl, q _ (I.hok.fresh (Nat.le_refl _))⟩
  · have el : acc'.toList.length = acc'.size := by simp
    refine vals_of_at (by rw [List.length_map, el, hacc.1, e0]) fun j x v h1 h2 => ?_
    obtain ⟨c, tt, hc2, rfl⟩ := hacc.2 j v (by rw [← Array.getElem?_toList]; exact h2)
    have hc3 : z[j]? = some c := by
      have : (toS z).cps[j]? = some c := hc2
      rw [← this]
      show z[j]? = z.toArray[j]?
      simp
    rw [List.getElem?_map, hc3] at h1
    cases h1
    exact ⟨tt, rfl⟩
  · exact hS'
/-- list of a list, a tuple, a text -/
def listS : List D → Store → Option D
  | [.str z], _ => if z.length ≤ sizeLine then some (.lst (chars z)) else none
  | [d], st => (viewS st d).map fun xs => .lst xs
  | _, _ => none
theorem reps_chars {K : PySem.W.Frag} {w : Wd} : ∀ z : List Nat, Reps K w (chars z) (z.map fun c => V.str (toS [c]))
  | [] => reps_nil
  | c :: z => reps_cons rfl (reps_chars z)
theorem cr_listS (hc : X.calm = true) : CallR X (.type "list") (rC X.K listS) := by
  intro pins s σ H xs us Q I r h
  obtain ⟨w, ds, d, rfl, ok, rd, hf, q⟩ := h
  unfold listS at hf
  split at hf
  · rename_i z
    split at hf
    · rename_i hz
      cases hf
      obtain ⟨v, rfl, h1⟩ := reps1 rd
      exact cr_list_str hc pins s σ _ _ us Q I r ⟨z, by rw [show v = V.str (toS z) from h1], hz, q.lst ok (reps_chars z)⟩
    · cases hf
  · rename_i e _
    exact cr_listD pins s σ _ _ us Q I r ⟨w, _, d, rfl, ok, rd, hf, q⟩
  · cases hf
@[simp] theorem listS_str {st : Store} {QO : D → Prop} (z : List Nat) : wo (listS [.str z] st) QO = (z.length ≤ sizeLine ∧ QO (.lst (chars z))) := wo_ite _ _ _
@[simp] theorem listS_lst {st : Store} (xs : List D) : listS [.lst xs] st = some (.lst xs) := rfl
@[simp] theorem listS_tup {st : Store} (xs : List D) : listS [.tup xs] st = some (.lst xs) := rfl
end
end PL
/-! PL21: equality of nice data; steps as pairs; cuts of rows and their steps (plain). -/
namespace PL
open PySem PySem.Spec PyProof.Rows L2
mutual
/-- data on which Python's == is equality -/
def nice : Nat → D → Bool
  | _, .non => true
  | _, .int _ => true
  | _, .str s => s.all fun c => decide (c < 1114112)
  | k + 1, .tup xs => nices k xs
  | k + 1, .lst xs => nices k xs
  | _, _ => false
def nices : Nat → List D → Bool
  | _, [] => true
  | k, x :: xs => nice k x && nices k xs
end
mutual
theorem nice_flat : ∀ (k : Nat) (d : D), nice k d = true → flat k d = true
  | k, .non, _ => by cases k <;> rfl
  | k, .int _, _ => by cases k <;> rfl
  | k, .str s, h => by cases k <;> exact h
  | k + 1, .tup xs, h => nices_flats k xs h
  | k + 1, .lst xs, h => nices_flats k xs h
  | 0, .tup _, h => by cases h
  | 0, .lst _, h => by cases h
  | k, .bl _, h => by cases k <;> cases h
  | k, .scr _, h => by cases k <;> cases h
  | k, .ref _, h => by cases k <;> cases h
  | k, .vv _, h => by cases k <;> cases h
  | k, .emp, h => by cases k <;> cases h
  | k, .exn _ _ _, h => by cases k <;> cases h
theorem nices_flats : ∀ (k : Nat) (ds : List D), nices k ds = true → flats k ds = true
  | _, [], _ => rfl
  | k, x :: xs, h => by
    have h : (nice k x && nices k xs) = true := h
    rw [Bool.and_eq_true] at h
    show (flat k x && flats k xs) = true
    rw [nice_flat k x h.1, nices_flats k xs h.2]; rfl
end
mutual
theorem deq_iff : ∀ (k : Nat) (a b : D), nice k a = true → nice k b = true → (PyData.eqv (pyT a) (pyT b) = true ↔ a = b)
  | k, .non, b, _, hb => by
    cases b with
    | non => simp [pyT, PyData.eqv]
    | int i => simp [pyT, PyData.eqv]
    | str s => simp [pyT, PyData.eqv]
    | tup xs => simp [pyT, PyData.eqv]
    | lst xs => simp [pyT, PyData.eqv]
    | _ => cases k <;> cases hb
  | k, .int i, b, _, hb => by
    cases b with
    | non => simp [pyT, PyData.eqv]
    | int j => simp [pyT, PyData.eqv]
    | str s => simp [pyT, PyData.eqv]
    | tup xs => simp [pyT, PyData.eqv]
    | lst xs => simp [pyT, PyData.eqv]
    | _ => cases k <;> cases hb
  | k, .str s, b, _, hb => by
    cases b with
    | non => simp [pyT, PyData.eqv]
    | int j => simp [pyT, PyData.eqv]
    | str t =>
      simp only [pyT, PyData.eqv, beq_iff_eq]
      exact ⟨fun h => by rw [toS_inj h], fun h => by cases h; rfl⟩
    | tup xs => simp [pyT, PyData.eqv]
    | lst xs => simp [pyT, PyData.eqv]
    | _ => cases k <;> cases hb
  | k + 1, .tup xs, b, ha, hb => by
    cases b with
    | non => simp [pyT, PyData.eqv]
    | int j => simp [pyT, PyData.eqv]
    | str s => simp [pyT, PyData.eqv]
    | tup ys =>
      simp only [pyT, PyData.eqv, D.tup.injEq]
      exact deqs_iff k xs ys ha hb
    | lst xs => simp [pyT, PyData.eqv]
    | _ => cases hb
  | k + 1, .lst xs, b, ha, hb => by
    cases b with
    | non => simp [pyT, PyData.eqv]
    | int j => simp [pyT, PyData.eqv]
    | str s => simp [pyT, PyData.eqv]
    | lst ys =>
      simp only [pyT, PyData.eqv, D.lst.injEq]
      exact deqs_iff k xs ys ha hb
    | tup xs => simp [pyT, PyData.eqv]
    | _ => cases hb
  | 0, .tup _, _, h, _ => by cases h
  | 0, .lst _, _, h, _ => by cases h
  | k, .bl _, _, h, _ => by cases k <;> cases h
  | k, .scr _, _, h, _ => by cases k <;> cases h
  | k, .ref _, _, h, _ => by cases k <;> cases h
  | k, .vv _, _, h, _ => by cases k <;> cases h
  | k, .emp, _, h, _ => by cases k <;> cases h
  | k, .exn _ _ _, _, h, _ => by cases k <;> cases h
theorem deqs_iff : ∀ (k : Nat) (a b : List D), nices k a = true → nices k b = true → (PyData.eqvAll (pyTs a) (pyTs b) = true ↔ a = b)
  | _, [], [], _, _ => by simp [pyTs, PyData.eqvAll]
  | _, [], y :: ys, _, _ => by simp [pyTs, PyData.eqvAll]
  | _, x :: xs, [], _, _ => by simp [pyTs, PyData.eqvAll]
  | k, x :: xs, y :: ys, ha, hb => by
    have ha : (nice k x && nices k xs) = true := ha
    have hb : (nice k y && nices k ys) = true := hb
    rw [Bool.and_eq_true] at ha hb
    simp only [pyTs, PyData.eqvAll, Bool.and_eq_true, List.cons.injEq]
    rw [deq_iff k x y ha.1 hb.1, deqs_iff k xs ys ha.2 hb.2]
end
open Classical in
theorem eq_nice {a b : D} {st : Store} (ha : nice 60 a = true) (hb : nice 60 b = true) : cmpS .eq a b st = some (decide (a = b)) := by
  have key : ∀ c : Bool, PyData.eqv (pyT a) (pyT b) = c → c = decide (a = b) := fun c h => by
    by_cases e : a = b
    · rw [decide_eq_true e, ← h]; exact (deq_iff 60 a b ha hb).2 e
    · rw [decide_eq_false e, ← h, Bool.eq_false_iff]; exact fun z => e ((deq_iff 60 a b ha hb).1 z)
  have fa := nice_flat 60 a ha
  have fb := nice_flat 60 b hb
  have gen : (if flat 60 (rsv st a) && flat 60 (rsv st b) then some (deq (rsv st a) (rsv st b)) else none) = some (decide (a = b)) := by
    rw [rsv_flat st 60 a fa, rsv_flat st 60 b fb, fa, fb]
    exact congrArg some (key _ rfl)
  have h2 : eqD a b st = some (decide (a = b)) := by
    unfold eqD
    split
    · congr 1; simp
    · congr 1; simp
    · rename_i i j; exact nomatch ha
    · exact gen
  cases a <;> first | exact h2 | exact nomatch ha
open Classical in
theorem ne_nice {a b : D} {st : Store} (ha : nice 60 a = true) (hb : nice 60 b = true) : cmpS .ne a b st = some (!decide (a = b)) := by
  have h := eq_nice (st := st) ha hb
  have : (eqD a b st).map (!·) = some (!decide (a = b)) := by
    have h2 : eqD a b st = some (decide (a = b)) := by cases a <;> first | exact h | exact nomatch ha
    rw [h2]; rfl
  cases a <;> first | exact this | exact nomatch ha
theorem nices_map {α : Type} {k : Nat} {f : α → D} {l : List α} (h : ∀ x ∈ l, nice k (f x) = true) : nices k (l.map f) = true := by
  induction l with
  | nil => rfl
  | cons x l ih =>
    show (nice k (f x) && nices k (l.map f)) = true
    rw [h x List.mem_cons_self, ih fun y hy => h y (List.mem_cons_of_mem _ hy)]; rfl
theorem nice_low {s : List Nat} (h : Low s) (k : Nat) : nice k (.str s) = true := flat_low h k |> fun q => by cases k <;> exact q
theorem nice_row {m l : Nat} {ws : List Wo} (h : Rw m l ws) (k : Nat) : nice (k + 1) (rowD ws) = true := nices_map (f := D.str) fun w hw => nice_low (h.2.2 w hw).1 k
theorem nice_ints (ns : List Int) (k : Nat) : nice (k + 1) (.lst (ns.map D.int)) = true := nices_map (f := D.int) fun n _ => by cases k <;> rfl

/-! steps as pairs of texts -/
def stP (a b : Wo) : Wo × Wo := (a.drop (cp a b), b.drop (cp a b))
def pD (p : Wo × Wo) : D := .tup [.str p.1, .str p.2]
theorem stp_pD (a b : Wo) : stp a b = pD (stP a b) := rfl
theorem pD_inj {p q : Wo × Wo} : pD p = pD q ↔ p = q := by
  unfold pD
  cases p; cases q; simp
theorem stP_app (p a b : Wo) : stP (p ++ a) (p ++ b) = stP a b := by
  have := stp_app p a b
  rw [stp_pD, stp_pD, pD_inj] at this
  exact this
theorem stP_split (a b : Wo) : ∃ v, a = v ++ (stP a b).1 ∧ b = v ++ (stP a b).2 ∧ v = a.take (cp a b) := by
  refine ⟨a.take (cp a b), (List.take_append_drop _ _).symm, ?_, rfl⟩
  have := (cp_take a b (cp a b) (cp_le a b).1 (cp_le a b).2).2 (Nat.le_refl _)
  rw [this]
  exact (List.take_append_drop _ _).symm
theorem nice_stp {a b : Wo} (ha : Low a) (hb : Low b) (k : Nat) : nice (k + 1) (stp a b) = true := by
  show (nice k (.str _) && (nice k (.str _) && true)) = true
  rw [nice_low (ha.drop _), nice_low (hb.drop _)]; rfl

/-! cuts -/
theorem noconf_of_cut (f : Nat → Wo) (n m spot : Nat) (hm : 0 < m) (h : ∀ k, k * m < n → ∃ o, ∀ t, t < m → f (k * m + t) = o ++ (f t).drop spot) (h0 : 0 < n) :
    ∀ i, i < n → i % m ≠ 0 → stP (f (i - 1)) (f i) = stP (f (i % m - 1)) (f (i % m)) := by
  intro i hi hr
  have h1 := Nat.div_add_mod i m
  have h2 : i % m < m := Nat.mod_lt _ hm
  have hk : (i / m) * m < n := by
    have := Nat.div_mul_le_self i m
    omega
  obtain ⟨o, ho⟩ := h (i / m) hk
  obtain ⟨o', ho'⟩ := h 0 (by omega)
  have e1 : i = (i / m) * m + i % m := by rw [Nat.mul_comm]; omega
  have e2 : i - 1 = (i / m) * m + (i % m - 1) := by omega
  have a1 := ho (i % m) h2
  have a2 := ho (i % m - 1) (by omega)
  have b1 := ho' (i % m) h2
  have b2 := ho' (i % m - 1) (by omega)
  rw [← e1] at a1
  rw [← e2] at a2
  rw [Nat.zero_mul, Nat.zero_add] at b1 b2
  rw [a1, a2, stP_app]
  conv => rhs; rw [b1, b2]
  rw [stP_app]
theorem cut_of_noconf (f : Nat → Wo) (n m : Nat) (hm : 0 < m) (hn : m ∣ n) (hc : ∀ i, i < n → i % m ≠ 0 → stP (f (i - 1)) (f i) = stP (f (i % m - 1)) (f (i % m))) :
    ∃ spot, spot ≤ (f 0).length ∧ (∀ t, t < m → (f 0).take spot <+: f t) ∧ ∀ k, k * m < n → ∃ o, ∀ t, t < m → f (k * m + t) = o ++ (f t).drop spot := by
  -- the longest common start of the first m words
  obtain ⟨c, hc0, hc1, hmax⟩ : ∃ c, c ≤ (f 0).length ∧ (∀ t, t < m → (f 0).take c <+: f t) ∧ ∀ d, d ≤ (f 0).length → (∀ t, t < m → (f 0).take d <+: f t) → d ≤ c := by
    have : ∀ b, b ≤ (f 0).length → ∃ c, c ≤ b ∧ (∀ t, t < m → (f 0).take c <+: f t) ∧ ∀ d, d ≤ b → (∀ t, t < m → (f 0).take d <+: f t) → d ≤ c := by
      intro b
      induction b with
      | zero => exact fun _ => ⟨0, Nat.le_refl _, fun t _ => by simp, fun d hd _ => hd⟩
      | succ b ih =>
        intro hb
        by_cases hq : ∀ t, t < m → (f 0).take (b + 1) <+: f t
        · exact ⟨b + 1, Nat.le_refl _, hq, fun d hd _ => hd⟩
        · obtain ⟨c, h1, h2, h3⟩ := ih (by omega)
          refine ⟨c, by omega, h2, fun d hd hd2 => ?_⟩
          by_cases e : d = b + 1
          · subst e; exact absurd hd2 hq
          · exact h3 d (by omega) hd2
    obtain ⟨c, h1, h2, h3⟩ := this (f 0).length (Nat.le_refl _)
    exact ⟨c, h1, h2, h3⟩
  refine ⟨c, hc0, hc1, fun k hk => ?_⟩
  have hkm : k * m + m ≤ n := by
    obtain ⟨q, rfl⟩ := hn
    have : k < q := by
      rw [Nat.mul_comm m q] at hk
      exact Nat.lt_of_mul_lt_mul_right hk
    have := Nat.mul_le_mul_right m this
    rw [Nat.succ_mul, Nat.mul_comm q m] at this
    exact this
  have pre : ∀ t, t < m → f t = (f 0).take c ++ (f t).drop c := fun t ht => by
    obtain ⟨r, hr⟩ := hc1 t ht
    have hl : ((f 0).take c).length = c := by rw [List.length_take]; omega
    rw [← hr]
    congr 1
    rw [List.drop_append, hl, Nat.sub_self, List.drop_zero, List.drop_of_length_le (by omega), List.nil_append]
  -- the steps of the block and of the first one
  have step : ∀ t, 0 < t → t < m → stP (f (k * m + (t - 1))) (f (k * m + t)) = stP ((f (t - 1)).drop c) ((f t).drop c) := fun t h0 ht => by
    have e : (k * m + t) % m = t := by rw [Nat.add_comm, Nat.add_mul_mod_self_right, Nat.mod_eq_of_lt ht]
    have := hc (k * m + t) (by omega) (by rw [e]; omega)
    rw [e] at this
    rw [show k * m + (t - 1) = k * m + t - 1 by omega, this]
    conv => lhs; rw [pre (t - 1) (by omega), pre t ht]
    rw [stP_app]
  have up : ∀ o t, 0 < t → t < m → (f (k * m + (t - 1)) = o ++ (f (t - 1)).drop c ↔ f (k * m + t) = o ++ (f t).drop c) := fun o t h0 ht => by
    obtain ⟨v, v1, v2, _⟩ := stP_split ((f (t - 1)).drop c) ((f t).drop c)
    obtain ⟨u, u1, u2, _⟩ := stP_split (f (k * m + (t - 1))) (f (k * m + t))
    rw [step t h0 ht] at u1 u2
    generalize stP ((f (t - 1)).drop c) ((f t).drop c) = pq at v1 v2 u1 u2
    constructor
    · intro h
      rw [u1, v1, ← List.append_assoc] at h
      rw [u2, v2, List.append_cancel_right h, List.append_assoc]
    · intro h
      rw [u2, v2, ← List.append_assoc] at h
      rw [u1, v1, List.append_cancel_right h, List.append_assoc]
  have all : ∀ t0 o, t0 < m → f (k * m + t0) = o ++ (f t0).drop c → ∀ t, t < m → f (k * m + t) = o ++ (f t).drop c := by
    intro t0 o h0 he
    have d0 : f (k * m + 0) = o ++ (f 0).drop c := by
      induction t0 with
      | zero => exact he
      | succ t0 ih => exact ih (by omega) ((up o (t0 + 1) (by omega) h0).2 he)
    intro t
    induction t with
    | zero => exact fun _ => d0
    | succ t ih => exact fun ht => (up o (t + 1) (by omega) ht).1 (ih (by omega))
  by_cases hz : ∃ t, t < m ∧ (f t).drop c = []
  · obtain ⟨t, ht, e⟩ := hz
    exact ⟨f (k * m + t), all t _ ht (by rw [e, List.append_nil])⟩
  · by_cases hv : ∃ t, 0 < t ∧ t < m ∧ cp ((f (t - 1)).drop c) ((f t).drop c) = 0
    · obtain ⟨t, h0, ht, e⟩ := hv
      obtain ⟨u, u1, u2, _⟩ := stP_split (f (k * m + (t - 1))) (f (k * m + t))
      rw [step t h0 ht] at u1
      have e2 : (stP ((f (t - 1)).drop c) ((f t).drop c)).1 = (f (t - 1)).drop c := by unfold stP; rw [e]; rfl
      rw [e2] at u1
      exact ⟨u, all (t - 1) _ (by omega) u1⟩
    · exfalso
      have nz : ∀ t, t < m → (f t).drop c ≠ [] := fun t ht e => hz ⟨t, ht, e⟩
      have same : ∀ t, t < m → ∃ x r, (f 0).drop c = x :: ((f 0).drop c).tail ∧ (f t).drop c = x :: r := by
        intro t
        induction t with
        | zero =>
          intro h
          cases e : (f 0).drop c with
          | nil => exact absurd e (nz 0 h)
          | cons x r => exact ⟨x, r, rfl, rfl⟩
        | succ t ih =>
          intro h
          obtain ⟨x, r, h1, h2⟩ := ih (by omega)
          refine ⟨x, ((f (t + 1)).drop c).tail, h1, ?_⟩
          cases e : (f (t + 1)).drop c with
          | nil => exact absurd e (nz _ h)
          | cons y r' =>
            have : cp ((f t).drop c) ((f (t + 1)).drop c) ≠ 0 := fun z => hv ⟨t + 1, by omega, h, z⟩
            rw [h2, e] at this
            unfold cp at this
            by_cases exy : x = y
            · rw [exy]; rfl
            · rw [if_neg exy] at this; exact absurd rfl this
      have hlen : c + 1 ≤ (f 0).length := by
        have := nz 0 hm
        rcases Nat.lt_or_ge c (f 0).length with q | q
        · exact q
        · exact absurd (List.drop_of_length_le q) this
      have := hmax (c + 1) hlen fun t ht => by
        obtain ⟨x, r, h1, h2⟩ := same t ht
        have e0 : (f 0).take (c + 1) = (f 0).take c ++ [x] := by
          rw [List.take_add, h1]; rfl
        rw [e0, pre t ht, h2]
        exact ⟨r, by simp⟩
      omega
end PL
/-! PL22: right sizes (plain): by steps, of rows of letters; sorted filters. -/
namespace PL
open PySem PySem.Spec PyProof.Rows L2
theorem asc_eq : ∀ (a b : List Nat), a.Pairwise (· < ·) → b.Pairwise (· < ·) → (∀ x, x ∈ a ↔ x ∈ b) → a = b
  | [], [], _, _, _ => rfl
  | [], y :: b, _, _, h => by have := (h y).2 List.mem_cons_self; cases this
  | x :: a, [], _, _, h => by have := (h x).1 List.mem_cons_self; cases this
  | x :: a, y :: b, ha, hb, h => by
    rw [List.pairwise_cons] at ha hb
    have e : x = y := by
      rcases List.mem_cons.1 ((h x).1 List.mem_cons_self) with q | q
      · exact q
      · have h1 := hb.1 x q
        rcases List.mem_cons.1 ((h y).2 List.mem_cons_self) with r | r
        · omega
        · have := ha.1 y r; omega
    subst e
    congr 1
    refine asc_eq a b ha.2 hb.2 fun z => ⟨fun q => ?_, fun q => ?_⟩
    · rcases List.mem_cons.1 ((h z).1 (List.mem_cons_of_mem _ q)) with r | r
      · have := ha.1 z q; omega
      · exact r
    · rcases List.mem_cons.1 ((h z).2 (List.mem_cons_of_mem _ q)) with r | r
      · have := hb.1 z q; omega
      · exact r
theorem range_asc (s n : Nat) : (List.range' s n).Pairwise (· < ·) := List.pairwise_lt_range'
theorem filter_asc {n : Nat} {p : Nat → Bool} {L : List Nat} (hL : L.Pairwise (· < ·)) (h1 : ∀ x ∈ L, 1 ≤ x ∧ x ≤ n) (hp : ∀ m, 1 ≤ m → m ≤ n → (p m = true ↔ m ∈ L)) : (List.range' 1 n).filter p = L := by
  refine asc_eq _ _ ((range_asc 1 n).filter _) hL fun x => ?_
  rw [List.mem_filter, List.mem_range'_1]
  constructor
  · exact fun ⟨h2, h3⟩ => (hp x (by omega) (by omega)).1 h3
  · exact fun h2 => ⟨by have := h1 x h2; omega, (hp x (h1 x h2).1 (h1 x h2).2).2 h2⟩

/-- the step to the i-th word -/
def stF (f : Nat → Wo) (i : Nat) : Wo × Wo := stP (f (i - 1)) (f i)
/-- no conflict of a size with the steps of n words -/
def NoC (f : Nat → Wo) (n m : Nat) : Prop := ∀ i, i < n → i % m ≠ 0 → stF f i = stF f (i % m)

/-- a row of different letters, two at least -/
def Lt (r : List Wo) : Prop := 2 ≤ r.length ∧ r.Nodup ∧ ∀ w ∈ r, w.length = 1
def nw (rs : List (List Wo)) (i : Nat) : Wo := nthR rs i []
theorem nw_cons (r : List Wo) (rs : List (List Wo)) (i : Nat) : nw (r :: rs) i = nw rs (i / r.length) ++ (r[i % r.length]?).getD [] := by
  show nthR rs (i / r.length) (_ ++ []) = _
  rw [nthR_acc, List.append_nil]
  rfl
theorem lt_get {r : List Wo} (h : Lt r) (d : Nat) (hd : d < r.length) : ((r[d]?).getD []).length = 1 := by
  rw [List.getElem?_eq_getElem hd]
  exact h.2.2 _ (List.getElem_mem hd)
theorem nw_len : ∀ (rs : List (List Wo)) (i : Nat), (∀ r ∈ rs, Lt r) → (nw rs i).length = rs.length
  | [], _, _ => rfl
  | r :: rs, i, h => by
    have hr := h r List.mem_cons_self
    have hp : 0 < r.length := by have := hr.1; omega
    rw [nw_cons, List.length_append, nw_len rs _ (fun x hx => h x (List.mem_cons_of_mem _ hx)), lt_get hr _ (Nat.mod_lt _ hp)]
    rfl
theorem cp_snoc : ∀ (u v a b : Wo), u.length = v.length → u ≠ v → cp (u ++ a) (v ++ b) = cp u v ∧ cp u v < u.length
  | [], [], _, _, _, h => absurd rfl h
  | [], _ :: _, _, _, h, _ => by simp at h
  | _ :: _, [], _, _, h, _ => by simp at h
  | x :: u, y :: v, a, b, h, hn => by
    simp at h
    by_cases e : x = y
    · subst e
      have ⟨h1, h2⟩ := cp_snoc u v a b h (fun z => hn (by rw [z]))
      simp only [List.cons_append, cp, if_pos, List.length_cons]
      omega
    · have e0 : ∀ s t, cp (x :: s) (y :: t) = 0 := fun s t => by conv => lhs; unfold cp; rw [if_neg e]
      rw [List.cons_append, List.cons_append, e0, e0]
      exact ⟨rfl, by simp⟩
theorem stP_snoc {u v : Wo} (a b : Wo) (h : u.length = v.length) (hn : u ≠ v) : stP (u ++ a) (v ++ b) = ((stP u v).1 ++ a, (stP u v).2 ++ b) ∧ 0 < (stP u v).1.length := by
  obtain ⟨h1, h2⟩ := cp_snoc u v a b h hn
  unfold stP
  rw [h1, List.drop_append_of_le_length (by omega), List.drop_append_of_le_length (by omega)]
  exact ⟨rfl, by simp; omega⟩
theorem div_pos_of {i c : Nat} (hc : 0 < c) (hi : 0 < i) (hd : i % c = 0) : 0 < i / c ∧ c * (i / c) = i ∧ (i - 1) / c = i / c - 1 ∧ (i - 1) % c = c - 1 := by
  have h1 := Nat.div_add_mod i c
  have h0 : 0 < i / c := by
    rcases Nat.eq_zero_or_pos (i / c) with q | q
    · rw [q] at h1; omega
    · exact q
  have e0 : c * (i / c) = i := by omega
  have e : i - 1 = c * (i / c - 1) + (c - 1) := by
    rw [Nat.mul_sub, Nat.mul_one, e0]
    have : c ≤ i := by rw [← e0]; exact Nat.le_mul_of_pos_right _ h0
    omega
  refine ⟨h0, e0, ?_, ?_⟩
  · rw [e, Nat.mul_add_div hc, Nat.div_eq_of_lt (a := c - 1) (b := c) (by omega), Nat.add_zero]
  · rw [e, Nat.mul_add_mod, Nat.mod_eq_of_lt (by omega)]
theorem div_in {i c : Nat} (hc : 0 < c) (hd : i % c ≠ 0) : (i - 1) / c = i / c ∧ (i - 1) % c = i % c - 1 := by
  have h1 := Nat.div_add_mod i c
  have hm : i % c < c := Nat.mod_lt _ hc
  have e : i - 1 = c * (i / c) + (i % c - 1) := by omega
  refine ⟨?_, ?_⟩
  · rw [e, Nat.mul_add_div hc, Nat.div_eq_of_lt (a := i % c - 1) (b := c) (by omega), Nat.add_zero]
  · rw [e, Nat.mul_add_mod, Nat.mod_eq_of_lt (by omega)]
/-- neighbours are different -/
theorem nw_ne : ∀ (rs : List (List Wo)) (i : Nat), (∀ r ∈ rs, Lt r) → 0 < i → i < tot rs → nw rs (i - 1) ≠ nw rs i
  | [], i, _, h, h2 => by simp [tot] at h2; omega
  | r :: rs, i, h, h0, h2 => by
    have hr := h r List.mem_cons_self
    have hp : 0 < r.length := by have := hr.1; omega
    have hrs := fun x hx => h x (List.mem_cons_of_mem r hx)
    rw [nw_cons, nw_cons]
    intro e
    have hl : (nw rs ((i - 1) / r.length)).length = (nw rs (i / r.length)).length := by rw [nw_len _ _ hrs, nw_len _ _ hrs]
    obtain ⟨e1, e2⟩ := List.append_inj e hl
    by_cases hd : i % r.length = 0
    · obtain ⟨a1, a2, a3, a4⟩ := div_pos_of hp h0 hd
      rw [a3] at e1
      exact nw_ne rs (i / r.length) hrs a1 (Nat.div_lt_of_lt_mul h2) e1
    · obtain ⟨a1, a2⟩ := div_in hp hd
      have hm : i % r.length < r.length := Nat.mod_lt _ hp
      rw [a2, List.getElem?_eq_getElem hm, List.getElem?_eq_getElem (show i % r.length - 1 < r.length by omega)] at e2
      have e2 : r[i % r.length - 1] = r[i % r.length] := e2
      have := (List.getElem_inj hr.2.1).1 e2
      omega
/-- the step within the last factor, and beyond it -/
theorem st_in (r : List Wo) (rs : List (List Wo)) (i : Nat) (h : Lt r) (hd : i % r.length ≠ 0) : stF (nw (r :: rs)) i = ((r[i % r.length - 1]?).getD [], (r[i % r.length]?).getD []) := by
  have hp : 0 < r.length := by have := h.1; omega
  obtain ⟨a1, a2⟩ := div_in hp hd
  have hm : i % r.length < r.length := Nat.mod_lt _ hp
  unfold stF
  rw [nw_cons, nw_cons, a1, a2, stP_app]
  have l1 := lt_get h (i % r.length - 1) (by omega)
  have l2 := lt_get h (i % r.length) hm
  have hne : (r[i % r.length - 1]?).getD [] ≠ (r[i % r.length]?).getD [] := by
    rw [List.getElem?_eq_getElem hm, List.getElem?_eq_getElem (show i % r.length - 1 < r.length by omega)]
    intro e
    have e : r[i % r.length - 1] = r[i % r.length] := e
    have := (List.getElem_inj h.2.1).1 e
    omega
  generalize (r[i % r.length - 1]?).getD [] = u at l1 hne
  generalize (r[i % r.length]?).getD [] = v at l2 hne
  have := (cp_snoc u v [] [] (by omega) hne).2
  have e0 : cp u v = 0 := by omega
  unfold stP
  rw [e0]
  rfl
theorem st_up (r : List Wo) (rs : List (List Wo)) (i : Nat) (h : ∀ x ∈ r :: rs, Lt x) (h0 : 0 < i) (h2 : i < tot (r :: rs)) (hd : i % r.length = 0) :
    stF (nw (r :: rs)) i = ((stF (nw rs) (i / r.length)).1 ++ (r[r.length - 1]?).getD [], (stF (nw rs) (i / r.length)).2 ++ (r[0]?).getD []) ∧ 0 < (stF (nw rs) (i / r.length)).1.length := by
  have hr := h r List.mem_cons_self
  have hp : 0 < r.length := by have := hr.1; omega
  have hrs := fun x hx => h x (List.mem_cons_of_mem r hx)
  obtain ⟨a1, a2, a3, a4⟩ := div_pos_of hp h0 hd
  unfold stF
  rw [nw_cons, nw_cons, a3, a4, hd]
  exact stP_snoc _ _ (by rw [nw_len _ _ hrs, nw_len _ _ hrs]) (nw_ne rs _ hrs a1 (Nat.div_lt_of_lt_mul h2))
/-- the numbers of words of the last factors -/
def dues : List (List Wo) → List Nat
  | [] => [1]
  | r :: rs => 1 :: (dues rs).map (r.length * ·)
theorem dues_in : ∀ (rs : List (List Wo)), (∀ r ∈ rs, Lt r) → (dues rs).Pairwise (· < ·) ∧ ∀ x ∈ dues rs, 1 ≤ x ∧ x ≤ tot rs
  | [], _ => by simp [dues, tot]
  | r :: rs, h => by
    have hr := h r List.mem_cons_self
    obtain ⟨h1, h2⟩ := dues_in rs fun x hx => h x (List.mem_cons_of_mem r hx)
    have hr1 := hr.1
    refine ⟨?_, ?_⟩
    · unfold dues
      rw [List.pairwise_cons]
      refine ⟨fun y hy => ?_, ?_⟩
      · obtain ⟨x, hx, rfl⟩ := List.mem_map.1 hy
        have := Nat.mul_le_mul hr1 (h2 x hx).1
        omega
      · rw [List.pairwise_map]
        exact h1.imp fun {a b} hab => Nat.mul_lt_mul_of_pos_left hab (by omega)
    · intro x hx
      unfold dues at hx
      have ht := tot_pos (a := rs) fun x hx => by
        have := (h x (List.mem_cons_of_mem r hx)).1
        intro z; rw [z] at this; simp at this
      rcases List.mem_cons.1 hx with rfl | hx
      · exact ⟨Nat.le_refl _, Nat.mul_pos (by omega) ht⟩
      · obtain ⟨y, hy, rfl⟩ := List.mem_map.1 hx
        have := Nat.mul_le_mul hr1 (h2 y hy).1
        exact ⟨by omega, Nat.mul_le_mul_left _ (h2 y hy).2⟩
theorem noc_dues : ∀ (rs : List (List Wo)) (m : Nat), (∀ r ∈ rs, Lt r) → 1 ≤ m → m ∣ tot rs → (NoC (nw rs) (tot rs) m ↔ m ∈ dues rs)
  | [], m, _, h1, hd => by
    have : m = 1 := Nat.dvd_one.1 hd
    subst this
    simp [dues, NoC, Nat.mod_one]
  | r :: rs, m, h, h1, hd => by
    have hr := h r List.mem_cons_self
    have hr1 := hr.1
    have hrs := fun x hx => h x (List.mem_cons_of_mem r hx)
    have hp : 0 < r.length := by omega
    have ht : 0 < tot rs := tot_pos fun x hx => by
      have := (hrs x hx).1
      intro z; rw [z] at this; simp at this
    have etot : tot (r :: rs) = r.length * tot rs := rfl
    by_cases hm1 : m = 1
    · subst hm1
      refine ⟨fun _ => List.mem_cons_self, fun _ i _ hi => absurd (Nat.mod_one i) hi⟩
    by_cases hc : r.length ∣ m
    · obtain ⟨m', rfl⟩ := hc
      have hm' : 1 ≤ m' := Nat.pos_of_ne_zero fun z => by rw [z] at h1; simp at h1
      have hd' : m' ∣ tot rs := Nat.dvd_of_mul_dvd_mul_left hp (etot ▸ hd)
      have ih := noc_dues rs m' hrs hm' hd'
      have mem : r.length * m' ∈ dues (r :: rs) ↔ m' ∈ dues rs := by
        show r.length * m' ∈ 1 :: (dues rs).map (r.length * ·) ↔ _
        constructor
        · intro q
          rcases List.mem_cons.1 q with q | q
          · exact absurd q hm1
          · obtain ⟨y, hy, e⟩ := List.mem_map.1 q
            have : y = m' := Nat.eq_of_mul_eq_mul_left hp e
            exact this ▸ hy
        · exact fun q => List.mem_cons_of_mem _ (List.mem_map.2 ⟨m', q, rfl⟩)
      rw [mem, ← ih]
      constructor
      · intro hn i hi him
        have e1 : (r.length * i) % (r.length * m') = r.length * (i % m') := Nat.mul_mod_mul_left ..
        have hlt : r.length * i < tot (r :: rs) := by rw [etot]; exact Nat.mul_lt_mul_of_pos_left hi hp
        have q := hn (r.length * i) hlt (by rw [e1]; exact Nat.mul_ne_zero (by omega) him)
        rw [e1] at q
        have h0 : 0 < i := Nat.pos_of_ne_zero fun z => him (by rw [z, Nat.zero_mod])
        have u1 := (st_up r rs (r.length * i) h (Nat.mul_pos hp h0) hlt (Nat.mul_mod_right ..)).1
        have u2 := (st_up r rs (r.length * (i % m')) h (Nat.mul_pos hp (Nat.pos_of_ne_zero him)) (by
          have : i % m' ≤ i := Nat.mod_le _ _
          exact Nat.lt_of_le_of_lt (Nat.mul_le_mul_left _ this) hlt) (Nat.mul_mod_right ..)).1
        rw [Nat.mul_div_cancel_left _ hp] at u1 u2
        rw [u1, u2] at q
        have q1 := congrArg Prod.fst q
        have q2 := congrArg Prod.snd q
        exact Prod.ext (List.append_cancel_right q1) (List.append_cancel_right q2)
      · intro hn i hi him
        have hmm : i % (r.length * m') % r.length = i % r.length := Nat.mod_mul_right_mod ..
        by_cases hz : i % r.length = 0
        · have h0 : 0 < i := Nat.pos_of_ne_zero fun z => him (by rw [z, Nat.zero_mod])
          obtain ⟨a1, a2, _, _⟩ := div_pos_of hp h0 hz
          have e1 : i % (r.length * m') = r.length * (i / r.length % m') := by
            conv => lhs; rw [← a2]
            exact Nat.mul_mod_mul_left ..
          have him' : i / r.length % m' ≠ 0 := fun z => him (by rw [e1, z, Nat.mul_zero])
          have q := hn (i / r.length) (Nat.div_lt_of_lt_mul hi) him'
          have u1 := (st_up r rs i h h0 hi hz).1
          have u2 := (st_up r rs (i % (r.length * m')) h (Nat.pos_of_ne_zero him) (Nat.lt_of_le_of_lt (Nat.mod_le _ _) hi) (by rw [hmm]; exact hz)).1
          have e2 : i % (r.length * m') / r.length = i / r.length % m' := by rw [e1, Nat.mul_div_cancel_left _ hp]
          rw [e2, ← q] at u2
          rw [u1, u2]
        · rw [st_in r rs i hr hz, st_in r rs (i % (r.length * m')) hr (by rw [hmm]; exact hz), hmm]
    · constructor
      · intro hn
        exfalso
        have hmt : m < tot (r :: rs) := by
          rcases Nat.lt_or_ge m (tot (r :: rs)) with q | q
          · exact q
          · have : m ≤ tot (r :: rs) := Nat.le_of_dvd (by rw [etot]; exact Nat.mul_pos hp ht) hd
            have e : m = tot (r :: rs) := by omega
            exact absurd (e ▸ (etot ▸ Nat.dvd_mul_right _ _)) hc
        -- a place i with conflict: i a multiple of c or a small one
        rcases Nat.lt_or_ge (m + 1) r.length with hlt | hge
        · have hi : m + 1 < tot (r :: rs) := by
            rw [etot]
            exact Nat.lt_of_lt_of_le hlt (Nat.le_mul_of_pos_right _ ht)
          have e1 : (m + 1) % m = 1 := by rw [Nat.add_mod_left, Nat.mod_eq_of_lt (by omega)]
          have q := hn (m + 1) hi (by rw [e1]; omega)
          rw [e1, st_in r rs (m + 1) hr (by rw [Nat.mod_eq_of_lt hlt]; omega), st_in r rs 1 hr (by rw [Nat.mod_eq_of_lt (by omega)]; omega), Nat.mod_eq_of_lt hlt, Nat.mod_eq_of_lt (show 1 < r.length by omega)] at q
          have q1 := congrArg Prod.fst q
          rw [List.getElem?_eq_getElem (show m + 1 - 1 < r.length by omega), List.getElem?_eq_getElem (show 1 - 1 < r.length by omega)] at q1
          have q1 : r[m + 1 - 1] = r[1 - 1] := q1
          have := (List.getElem_inj hr.2.1).1 q1
          omega
        · -- the next multiple of c above m
          have hdm := Nat.div_add_mod m r.length
          have hml : m % r.length < r.length := Nat.mod_lt _ hp
          have hmz : m % r.length ≠ 0 := fun z => hc (Nat.dvd_of_mod_eq_zero z)
          obtain ⟨i, hi⟩ : ∃ i, i = r.length * (m / r.length + 1) := ⟨_, rfl⟩
          have ei : i = m + (r.length - m % r.length) := by rw [hi, Nat.mul_add, Nat.mul_one]; omega
          have hcm : r.length - m % r.length < m ∨ m + 1 = r.length := by
            rcases Nat.lt_or_ge m r.length with q | q
            · exact .inr (by omega)
            · exact .inl (by omega)
          have e1 : i % m = r.length - m % r.length ∧ r.length - m % r.length ≠ 0 ∧ (r.length - m % r.length) % r.length ≠ 0 := by
            refine ⟨?_, by omega, by rw [Nat.mod_eq_of_lt (by omega)]; omega⟩
            rw [ei, Nat.add_mod_left]
            rcases hcm with q | q
            · exact Nat.mod_eq_of_lt q
            · have : m % r.length = m := Nat.mod_eq_of_lt (by omega)
              exact Nat.mod_eq_of_lt (by omega)
          have hit : i < tot (r :: rs) := by
            have hle : i ≤ tot (r :: rs) := by
              rw [hi, etot]
              refine Nat.mul_le_mul_left _ ?_
              have : m / r.length < tot rs := Nat.div_lt_of_lt_mul (etot ▸ hmt)
              omega
            rcases Nat.lt_or_ge i (tot (r :: rs)) with q | q
            · exact q
            · have e : i = tot (r :: rs) := by omega
              have := Nat.mod_eq_zero_of_dvd hd
              rw [← e, e1.1] at this
              exact absurd this e1.2.1
          have hiz : i % r.length = 0 := by rw [hi]; exact Nat.mul_mod_right ..
          have q := hn i hit (by rw [e1.1]; exact e1.2.1)
          rw [e1.1, st_in r rs _ hr e1.2.2] at q
          obtain ⟨u1, u2⟩ := st_up r rs i h (by omega) hit hiz
          rw [u1] at q
          have q1 := congrArg (fun z => z.1.length) q
          have l1 := lt_get hr (r.length - 1) (by omega)
          have l2 := lt_get hr ((r.length - m % r.length) % r.length - 1) (by have := Nat.mod_lt (r.length - m % r.length) hp; omega)
          simp only [List.length_append] at q1
          omega
      · intro q
        rcases List.mem_cons.1 q with q | q
        · exact absurd q hm1
        · obtain ⟨y, _, e⟩ := List.mem_map.1 q
          exact absurd ⟨y, e.symm⟩ hc
end PL
/-! PL23: functions that leave the store but for new things; lists in the middle of the store; startswith, endswith by lists. -/
namespace PL
open PySem PySem.Spec PyProof.Rows L2
abbrev NX : Exc → Store → Prop := fun _ _ => False
/-- F gives d, the store is only longer behind it -/
def Gv (F : List D → M D) (a : List D) (d : D) : Prop := ∀ st, ∃ t, F a st = .ok d (st ++ t)
section
variable {X : Exc → Store → Prop}
theorem Gv.wp {F : List D → M D} {a : List D} {d : D} (h : Gv F a d) {st : Store} {Q : D → Store → Prop} (q : ∀ t, Q d (st ++ t)) : wp (F a st) X Q := by
  obtain ⟨t, e⟩ := h st
  exact wp_ok e (q t)
theorem gv_of {F : List D → M D} {a : List D} {d : D} (h : ∀ st, wp (F a st) NX fun x st' => x = d ∧ Sx st st') : Gv F a d := fun st => by
  obtain ⟨x, st', e, rfl, t, rfl⟩ := ok_of_wp (h st)
  exact ⟨t, e⟩
theorem gv_eq {F : List D → M D} {a : List D} {d : D} (h : ∀ st, F a st = .ok d st) : Gv F a d := fun st => ⟨[], by rw [h, List.append_nil]⟩
theorem Sx.app (st t : Store) : Sx st (st ++ t) := ⟨t, rfl⟩
theorem Sx.app2 (st t u : Store) : Sx st (st ++ t ++ u) := ⟨t ++ u, by rw [List.append_assoc]⟩
theorem Sx.mid (st t : Store) (o : Option Ob) : Sx st (st ++ o :: t) := ⟨o :: t, rfl⟩
theorem Tr.app {n c : Nat} {st : Store} (h : Tr n c st) (t : Store) : Tr n c (st ++ t) := h.sx ⟨t, rfl⟩

/-! a list in the middle of the store -/
variable (st t : Store)
theorem mid_get (o : Option Ob) : (st ++ o :: t)[st.length]? = some o := by simp
theorem mid_set (o o' : Option Ob) : (st ++ o :: t).set st.length o' = st ++ o' :: t := by simp
theorem mid_app (xs : List D) (d : D) (h : xs.length < 16777216) : appendD (.ref st.length) [d] (st ++ some (.lst xs) :: t) = some (.non, st ++ some (.lst (xs ++ [d])) :: t) := by
  rw [app_at (mid_get st t _) d h, mid_set]
theorem mid_ext (xs ys : List D) (h : xs.length + ys.length ≤ 16777216) : extendD (.ref st.length) [.lst ys] (st ++ some (.lst xs) :: t) = some (.non, st ++ some (.lst (xs ++ ys)) :: t) := by
  have e := mid_get st t (some (.lst xs))
  simp only [extendD, e]
  show (if xs.length + ys.length ≤ sizeLine then _ else _ : Option (D × Store)) = _
  rw [if_pos (show xs.length + ys.length ≤ sizeLine from h), mid_set]
theorem mid_isL (xs : List D) : isLst (.ref st.length) (st ++ some (.lst xs) :: t) = true := by
  unfold isLst
  simp only [viewL, mid_get]; rfl
theorem mid_frz (xs : List D) : frz (.ref st.length) (st ++ some (.lst xs) :: t) = .ok (.lst xs) (st ++ none :: t) := by
  unfold frz
  simp only [mid_get, mid_set]
theorem mid_view (xs : List D) : viewL (st ++ some (.lst xs) :: t) (.ref st.length) = some xs := by simp only [viewL, mid_get]
theorem mid_tup (xs : List D) : tupleD [.ref st.length] (st ++ some (.lst xs) :: t) = some (.tup xs) := by
  show (viewS _ _).map _ = _
  rw [show viewS (st ++ some (.lst xs) :: t) (.ref st.length) = viewL (st ++ some (.lst xs) :: t) (.ref st.length) from rfl, mid_view]; rfl
theorem mid_len (xs : List D) : lenD [.ref st.length] (st ++ some (.lst xs) :: t) = some (.int xs.length) := by
  show (viewS _ _).map _ = _
  rw [show viewS (st ++ some (.lst xs) :: t) (.ref st.length) = viewL (st ++ some (.lst xs) :: t) (.ref st.length) from rfl, mid_view]; rfl
theorem mid_ix (xs : List D) (i : Int) : ixD (.ref st.length) (.int i) (st ++ some (.lst xs) :: t) = atI xs i := ix_ref (mid_get st t _) i
theorem mid_neE (xs : List D) : neE (.ref st.length) (.lst []) (st ++ some (.lst xs) :: t) = some (!xs.isEmpty) := by
  show (empD _ _ _).map _ = _
  simp only [empD, mid_view]; rfl
theorem mid_eqE (xs : List D) : empD (.ref st.length) (.lst []) (st ++ some (.lst xs) :: t) = some xs.isEmpty := by
  simp only [empD, mid_view]; rfl
end
section
variable {X : Exc → Store → Prop}
/-- a comprehension whose parts leave the store but for new things -/
theorem comp_gv {α : Type} (g : D → Env → Option Env) (c : Env → M Bool) (f : Env → M D) (ρ₀ : Env) (F h : α → D) (p : α → Bool) : ∀ (l : List α) (acc : List D) (st : Store),
    (∀ a ∈ l, ∀ st, wo (g (F a) ρ₀) fun ρ1 => wp (c ρ1 st) NX fun b st1 => b = p a ∧ Sx st st1 ∧ (p a = true → wp (f ρ1 st1) NX fun x st2 => x = h a ∧ Sx st1 st2)) → acc.length + l.length ≤ 16777216 →
    ∃ t, compGo g c f ρ₀ (l.map F) acc st = .ok (acc ++ (l.filter p).map h) (st ++ t)
  | [], acc, st, _, _ => ⟨[], by simp [compGo]⟩
  | a :: l, acc, st, hs, hz => by
    have h1 := hs a List.mem_cons_self st
    have ht := fun acc' st' hz' => comp_gv g c f ρ₀ F h p l acc' st' (fun b hb => hs b (List.mem_cons_of_mem _ hb)) hz'
    simp only [List.length_cons] at hz
    cases eg : g (F a) ρ₀ with
    | none => rw [eg] at h1; exact h1.elim
    | some ρ1 =>
      rw [eg] at h1
      obtain ⟨b, st1, ec, rfl, ⟨t1, rfl⟩, h2⟩ := ok_of_wp (show wp (c ρ1 st) NX _ from h1)
      show ∃ t, compGo g c f ρ₀ (F a :: l.map F) acc st = _
      simp only [compGo, eg]
      show ∃ t, (noX (c ρ1 st)).bnd _ = _
      rw [ec]
      show ∃ t, (if p a = true then _ else _ : M (List D)) (st ++ t1) = _
      cases hp : p a with
      | false =>
        rw [if_neg Bool.false_ne_true, List.filter_cons_of_neg (by rw [hp]; exact Bool.false_ne_true)]
        obtain ⟨t, e⟩ := ht acc (st ++ t1) (by omega)
        exact ⟨t1 ++ t, by rw [e, List.append_assoc]⟩
      | true =>
        rw [if_pos rfl, List.filter_cons_of_pos hp]
        obtain ⟨x, st2, ef, rfl, t2, rfl⟩ := ok_of_wp (h2 hp)
        show ∃ t, (noX (f ρ1 (st ++ t1))).bnd _ = _
        rw [ef]
        show ∃ t, (if acc.length < sizeLine then compGo g c f ρ₀ (l.map F) (acc ++ [h a]) else badM) (st ++ t1 ++ t2) = _
        rw [if_pos (by show _ < 16777216; omega)]
        obtain ⟨t, e⟩ := ht (acc ++ [h a]) (st ++ t1 ++ t2) (by simp; omega)
        exact ⟨t1 ++ (t2 ++ t), by rw [e]; simp [List.append_assoc]⟩
theorem wp_gvF {α : Type} {g : D → Env → Option Env} {c : Env → M Bool} {f : Env → M D} {ρ₀ : Env} {F : α → D} {l : List α} {acc : List D} {st : Store} {Q : List D → Store → Prop} (p : α → Bool) (h : α → D)
    (hs : ∀ a ∈ l, ∀ st, wo (g (F a) ρ₀) fun ρ1 => wp (c ρ1 st) NX fun b st1 => b = p a ∧ Sx st st1 ∧ (p a = true → wp (f ρ1 st1) NX fun x st2 => x = h a ∧ Sx st1 st2)) (hz : acc.length + l.length ≤ 16777216)
    (q : ∀ t, Q (acc ++ (l.filter p).map h) (st ++ t)) : wp (compGo g c f ρ₀ (l.map F) acc st) X Q := by
  obtain ⟨t, e⟩ := comp_gv g c f ρ₀ F h p l acc st hs hz
  exact wp_ok e (q t)
theorem wp_gvM {α : Type} {g : D → Env → Option Env} {f : Env → M D} {ρ₀ : Env} {F : α → D} {l : List α} {acc : List D} {st : Store} {Q : List D → Store → Prop} (h : α → D)
    (hs : ∀ a ∈ l, ∀ st, wo (g (F a) ρ₀) fun ρ1 => wp (f ρ1 st) NX fun x st2 => x = h a ∧ Sx st st2) (hz : acc.length + l.length ≤ 16777216)
    (q : ∀ t, Q (acc ++ l.map h) (st ++ t)) : wp (compGo g sYes f ρ₀ (l.map F) acc st) X Q := by
  refine wp_gvF (fun _ => true) h (fun a ha st1 => ?_) hz (fun t => ?_)
  · have := hs a ha st1
    cases eg : g (F a) ρ₀ with
    | none => rw [eg] at this; exact this
    | some ρ1 =>
      rw [eg] at this
      exact ⟨rfl, Sx.refl _, fun _ => this⟩
  · rw [List.filter_eq_self.2 (fun _ _ => rfl)]; exact q t
/-- two fors, every part leaves the store but for new things -/
theorem comp2_gv {α β : Type} (g : D → Env → Option Env) (it1 : Env → M (List D)) (vs1 : List Nat) (g1 : D → Env → Option Env) (f : Env → M D) (ρ₀ : Env) (F : α → D) (G : α → List β) (F1 : β → D) (h : α → β → D) : ∀ (l : List α) (acc : List D) (st : Store),
    (∀ a ∈ l, ∀ st, wo (g (F a) ρ₀) fun ρ1 => wp (it1 ρ1 st) NX fun xs st1 => xs = (G a).map F1 ∧ st1 = st ∧ ∀ b ∈ G a, ∀ st, wo (g1 (F1 b) (wipeE ρ1 vs1)) fun ρ2 => wp (f ρ2 st) NX fun x st2 => x = h a b ∧ Sx st st2) →
    acc.length + (l.flatMap G).length ≤ 16777216 →
    ∃ t, compGo2 g sYes it1 vs1 g1 sYes f ρ₀ (l.map F) acc st = .ok (acc ++ l.flatMap fun a => (G a).map (h a)) (st ++ t)
  | [], acc, st, _, _ => ⟨[], by simp [compGo2]⟩
  | a :: l, acc, st, hs, hz => by
    have h1 := hs a List.mem_cons_self st
    have ht := fun acc' st' hz' => comp2_gv g it1 vs1 g1 f ρ₀ F G F1 h l acc' st' (fun b hb => hs b (List.mem_cons_of_mem _ hb)) hz'
    simp only [List.flatMap_cons, List.length_append] at hz
    cases eg : g (F a) ρ₀ with
    | none => rw [eg] at h1; exact h1.elim
    | some ρ1 =>
      rw [eg] at h1
      obtain ⟨xs, st1, ei, rfl, rfl, h2⟩ := ok_of_wp (show wp (it1 ρ1 st) NX _ from h1)
      show ∃ t, compGo2 g sYes it1 vs1 g1 sYes f ρ₀ (F a :: l.map F) acc st1 = _
      simp only [compGo2, eg]
      show ∃ t, (noX (it1 ρ1 st1)).bnd _ = _
      rw [ei]
      obtain ⟨t1, e1⟩ := comp_gv g1 sYes f (wipeE ρ1 vs1) F1 (h a) (fun _ => true) (G a) acc st1 (fun b hb st2 => by
        have := h2 b hb st2
        cases eg1 : g1 (F1 b) (wipeE ρ1 vs1) with
        | none => rw [eg1] at this; exact this
        | some ρ2 =>
          rw [eg1] at this
          exact ⟨rfl, Sx.refl _, fun _ => this⟩) (by omega)
      rw [List.filter_eq_self.2 (fun _ _ => rfl)] at e1
      show ∃ t, (compGo g1 sYes f (wipeE ρ1 vs1) ((G a).map F1) acc st1).bnd _ = _
      rw [e1]
      obtain ⟨t, e⟩ := ht (acc ++ (G a).map (h a)) (st1 ++ t1) (by rw [List.length_append, List.length_map]; omega)
      refine ⟨t1 ++ t, ?_⟩
      show compGo2 g sYes it1 vs1 g1 sYes f ρ₀ (l.map F) (acc ++ (G a).map (h a)) (st1 ++ t1) = _
      rw [e]
      simp [List.append_assoc]
theorem wp_gv2 {α β : Type} {g : D → Env → Option Env} {it1 : Env → M (List D)} {vs1 : List Nat} {g1 : D → Env → Option Env} {f : Env → M D} {ρ₀ : Env} {F : α → D} {l : List α} {acc : List D} {st : Store} {Q : List D → Store → Prop} (G : α → List β) (F1 : β → D) (h : α → β → D)
    (hs : ∀ a ∈ l, ∀ st, wo (g (F a) ρ₀) fun ρ1 => wp (it1 ρ1 st) NX fun xs st1 => xs = (G a).map F1 ∧ st1 = st ∧ ∀ b ∈ G a, ∀ st, wo (g1 (F1 b) (wipeE ρ1 vs1)) fun ρ2 => wp (f ρ2 st) NX fun x st2 => x = h a b ∧ Sx st st2)
    (hz : acc.length + (l.flatMap G).length ≤ 16777216) (q : ∀ t, Q (acc ++ l.flatMap fun a => (G a).map (h a)) (st ++ t)) : wp (compGo2 g sYes it1 vs1 g1 sYes f ρ₀ (l.map F) acc st) X Q := by
  obtain ⟨t, e⟩ := comp2_gv g it1 vs1 g1 f ρ₀ F G F1 h l acc st hs hz
  exact wp_ok e (q t)
end
/-! startswith, endswith -/
theorem sub_at (s t : List Nat) (i : Nat) : Builtin.Str.subAt (toS s) (toS t) i = ((s.drop i).take t.length == t) := by
  unfold Builtin.Str.subAt
  show ((s.toArray.extract i (i + t.toArray.size)) == t.toArray) = _
  rw [Bool.eq_iff_iff]
  simp only [beq_iff_eq]
  constructor
  · intro h
    have := congrArg Array.toList h
    simpa using this
  · intro h
    apply Array.toList_inj.1
    simpa using h
theorem starts_iff (s t : List Nat) : Txt.startswith (toS s) (toS t) = decide (t <+: s) := by
  unfold Txt.startswith
  rw [sub_at, List.drop_zero]
  rw [Bool.eq_iff_iff]
  simp only [Bool.and_eq_true, decide_eq_true_eq, beq_iff_eq, toS_len, Nat.zero_add]
  constructor
  · rintro ⟨_, h⟩
    have := List.take_append_drop t.length s
    rw [h] at this
    exact ⟨_, this⟩
  · rintro ⟨r, rfl⟩
    simp
theorem ends_iff (s t : List Nat) : Txt.endswith (toS s) (toS t) = decide (t <:+ s) := by
  unfold Txt.endswith
  rw [sub_at]
  rw [Bool.eq_iff_iff]
  simp only [Bool.and_eq_true, decide_eq_true_eq, beq_iff_eq, toS_len, Nat.zero_add]
  constructor
  · rintro ⟨h1, h⟩
    have := List.take_append_drop (s.length - t.length) s
    rw [List.take_of_length_le (by simp; omega)] at h
    rw [h] at this
    exact ⟨_, this⟩
  · rintro ⟨r, rfl⟩
    simp
@[simp] theorem starts_str {st : Store} (s t : List Nat) : startsW (.str s) [.str t] st = some (.bl (decide (t <+: s)), st) := by
  show some (D.bl (Txt.startswith (toS s) (toS t)), st) = _
  rw [starts_iff]
@[simp] theorem ends_str {st : Store} (s t : List Nat) : endsW (.str s) [.str t] st = some (.bl (decide (t <:+ s)), st) := by
  show some (D.bl (Txt.endswith (toS s) (toS t)), st) = _
  rw [ends_iff]
theorem rng2_int (i j : Int) (h : -(2 ^ 62) ≤ i ∧ i < 2 ^ 62 ∧ -(2 ^ 62) ≤ j ∧ j < 2 ^ 62) : rng2 [.int i, .int j] = some (rng i (j - i).toNat) := if_pos h
theorem rng2_nat {a b : Nat} (h : b ≤ 1000000) (ha : a ≤ 1000000) : rng2 [.int a, .int b] = some ((List.range' a (b - a)).map fun i => D.int (i : Nat)) := by
  rw [rng2_int _ _ (by omega)]
  unfold rng
  congr 1
  have e : ((b : Int) - (a : Int)).toNat = b - a := by omega
  rw [e, List.range'_eq_map_range, List.map_map]
  refine List.map_congr_left fun i _ => ?_
  show D.int _ = D.int _
  congr 1
theorem rng1_natL {b : Nat} (h : b ≤ 1000000) : rng1 [.int b] = some ((List.range b).map fun i => D.int (i : Nat)) := by
  rw [rng1_nat (by omega) (by omega)]
  unfold rng
  congr 1
  rw [Int.toNat_natCast]
  refine List.map_congr_left fun i _ => ?_
  rw [Int.zero_add]
theorem asInts_l (l : List Nat) : asInts (l.map fun i => D.int (i : Nat)) = some (l.map fun (i : Nat) => (i : Int)) := asInts_m l _
end PL
/-! PL24: loops that seek, places in rows, views, words of products. -/
namespace PL
open PySem PySem.Spec PyProof.Rows L2
theorem ws_find {α : Type} {g : D → Env → Option Env} {body : SM} {F : α → D} {r : α → D} {p : α → Bool} {E : Env → Prop} {k : SK} : ∀ (l : List α) (ρ : Env) (st : Store), E ρ →
    (∀ a ∈ l, ∀ ρ st, E ρ → wo (g (F a) ρ) fun ρ1 => ws (body ρ1 st) ⟨fun ρ2 st2 => p a = false ∧ Sx st st2 ∧ E ρ2, fun d st2 => p a = true ∧ d = r a ∧ Sx st st2, fun _ _ => False, fun ρ2 st2 => p a = false ∧ Sx st st2 ∧ E ρ2, fun _ _ _ => False⟩) →
    (∀ a t, l.find? p = some a → k.rt (r a) (st ++ t)) → (∀ t, l.find? p = none → ∀ ρ, E ρ → k.nx ρ (st ++ t)) → ws (forGo g body (l.map F) ρ st) k
  | [], ρ, st, h, _, _, hn => by
    show k.nx ρ st
    have := hn [] rfl ρ h
    rwa [List.append_nil] at this
  | a :: l, ρ, st, h, hs, hr, hn => by
    have h1 := hs a List.mem_cons_self ρ st h
    cases eg : g (F a) ρ with
    | none => rw [eg] at h1; exact h1.elim
    | some ρ1 =>
      rw [eg] at h1
      have h1 : ws (body ρ1 st) _ := h1
      have nx : ∀ ρ2 st2, (p a = false ∧ Sx st st2 ∧ E ρ2) → ws (forGo g body (l.map F) ρ2 st2) k := by
        rintro ρ2 st2 ⟨h2, ⟨t, rfl⟩, h4⟩
        have e : (a :: l).find? p = l.find? p := by rw [List.find?_cons, h2]
        rw [e] at hr hn
        exact ws_find l ρ2 (st ++ t) h4 (fun b hb => hs b (List.mem_cons_of_mem _ hb)) (fun b t' hb => by rw [List.append_assoc]; exact hr b _ hb) (fun t' hb => by rw [List.append_assoc]; exact hn _ hb)
      rw [List.map_cons]
      cases eb : body ρ1 st with
      | bad => rw [eb] at h1; exact h1.elim
      | nx ρ2 st2 => rw [eb] at h1; simp only [forGo, eg, eb]; exact nx ρ2 st2 h1
      | ct ρ2 st2 => rw [eb] at h1; simp only [forGo, eg, eb]; exact nx ρ2 st2 h1
      | bk ρ2 st2 => rw [eb] at h1; exact h1.elim
      | rt d st2 =>
        rw [eb] at h1
        simp only [forGo, eg, eb]
        obtain ⟨h2, rfl, t, rfl⟩ := h1
        exact hr a t (by rw [List.find?_cons, h2])
      | ex e ρ2 st2 => rw [eb] at h1; exact h1.elim
theorem at_str {ws : List Wo} {i : Nat} (h : i < ws.length) : atI (ws.map D.str) (i : Int) = some (.str (ws.getD i [])) := by
  refine atI_nat ?_
  rw [List.getElem?_map, List.getElem?_eq_getElem h]
  simp [h]
theorem at_map {α : Type} {l : List α} {F : α → D} {i : Nat} (h : i < l.length) : atI (l.map F) (i : Int) = some (F l[i]) := by
  refine atI_nat ?_
  rw [List.getElem?_map, List.getElem?_eq_getElem h]
  rfl
theorem getD_mem {ws : List Wo} {i : Nat} (h : i < ws.length) : ws.getD i [] ∈ ws := by
  rw [List.getD_eq_getElem?_getD, List.getElem?_eq_getElem h]
  exact List.getElem_mem h
theorem tyD_view {st : Store} {d : D} {xs : List D} (h : viewL st d = some xs) : tyD st d = some "list" := by
  cases d with
  | lst ys => rfl
  | ref n => show (viewL st (.ref n)).map _ = _; rw [h]; rfl
  | _ => cases h
theorem len_view {st : Store} {d : D} {xs : List D} (h : viewL st d = some xs) : lenD [d] st = some (.int xs.length) := by
  cases d with
  | lst ys => cases h; rfl
  | ref n => show (viewL st (.ref n)).map _ = _; rw [h]; rfl
  | _ => cases h
theorem ix_view {st : Store} {d : D} {xs : List D} (h : viewL st d = some xs) (i : Int) : ixD d (.int i) st = atI xs i := by
  cases d with
  | lst ys => cases h; rfl
  | ref n => show (match viewL st (.ref n) with | some xs => atI xs i | none => none) = _; rw [h]
  | _ => cases h
theorem view_app {st t : Store} {d : D} {xs : List D} (h : viewL st d = some xs) : viewL (st ++ t) d = some xs := by
  cases d with
  | lst ys => exact h
  | ref n =>
    have hn : n < st.length := by
      rcases Nat.lt_or_ge n st.length with q | q
      · exact q
      · simp only [viewL, List.getElem?_eq_none q] at h; cases h
    simp only [viewL] at h ⊢
    rw [List.getElem?_append_left hn]
    exact h
  | _ => cases h
/-- the words of a product are low, and not too long -/
theorem wds_low {l : Nat} : ∀ (rs : List (List Wo)), (∀ r ∈ rs, ∀ w ∈ r, Low w ∧ w.length ≤ l) → ∀ w ∈ wds rs, Low w ∧ w.length ≤ rs.length * l
  | [], _, w, hw => by
    have : w = [] := by simpa [wds] using hw
    subst this
    exact ⟨(fun c hc => by cases hc), by simp⟩
  | r :: rs, h, w, hw => by
    simp only [wds, List.mem_flatMap, List.mem_map] at hw
    obtain ⟨o, ho, t, ht, rfl⟩ := hw
    have h1 := wds_low rs (fun x hx => h x (List.mem_cons_of_mem _ hx)) o ho
    have h2 := h r List.mem_cons_self t ht
    refine ⟨h1.1.app h2.1, ?_⟩
    rw [List.length_append, List.length_cons, Nat.succ_mul]
    have := h1.2
    have := h2.2
    omega
theorem wds_ne {rs : List (List Wo)} (h : ∀ r ∈ rs, r ≠ []) : wds rs ≠ [] := by
  have := tot_pos h
  rw [← wds_len] at this
  exact List.length_pos_iff.1 this
def tms (a b : List Wo) : List Wo := a.flatMap fun o => b.map fun l => o ++ l
theorem tms_len (a b : List Wo) : (tms a b).length = a.length * b.length := by
  unfold tms
  induction a with
  | nil => simp
  | cons x a ih => rw [List.flatMap_cons, List.length_append, ih, List.length_map, List.length_cons, Nat.succ_mul, Nat.add_comm]
theorem wds_cons (r : List Wo) (rs : List (List Wo)) : wds (r :: rs) = tms (wds rs) r := rfl
theorem tms_app (a b c : List Wo) : tms (a ++ b) c = tms a c ++ tms b c := by simp [tms]
theorem bits_le5 {i : Int} (h0 : 0 ≤ i) (h : i < 2 ^ 250) : (bitsOf i : Int) * 5 ≤ 134217728 := by
  have : bitsOf i ≤ 251 := by
    show Builtin.Int.intBits i ≤ 251
    unfold Builtin.Int.intBits
    split
    · omega
    · have hi : i.natAbs < 2 ^ 250 := by omega
      have h2 : i.natAbs ≠ 0 := by
        rename_i h3
        intro z
        exact h3 (by simp; omega)
      have := (Nat.log2_lt h2).2 hi
      omega
  omega
theorem rng2_1 {b : Nat} (h : b ≤ 1000000) : rng2 [.int 1, .int b] = some ((List.range' 1 (b - 1)).map fun i => D.int (i : Nat)) := rng2_nat (a := 1) h (by omega)
theorem all_trues {α : Type} (l : List α) {st : Store} : allD [.lst (l.map fun _ => D.bl true)] st = some (.bl true) := all_map l _ fun _ _ => rfl
/-- steps of words, as the program lists them -/
def stepsL (f : Nat → Wo) (n : Nat) : List D := .non :: (List.range' 1 (n - 1)).map fun i => pD (stF f i)
theorem stepsL_len {f : Nat → Wo} {n : Nat} (h : 0 < n) : (stepsL f n).length = n := by simp [stepsL]; omega
theorem stepsL_at {f : Nat → Wo} {n i : Nat} (h : 0 < i) (h2 : i < n) : atI (stepsL f n) (i : Int) = some (pD (stF f i)) := by
  refine atI_nat ?_
  obtain ⟨j, rfl⟩ : ∃ j, i = j + 1 := ⟨i - 1, by omega⟩
  unfold stepsL
  rw [List.getElem?_cons_succ, List.getElem?_map, List.getElem?_range' (by omega)]
  simp [Nat.add_comm]
/-- the first place whose step is not the one of the rest -/
def conf (f : Nat → Wo) (n m : Nat) : Option Nat := (List.range' (m + 1) (n - (m + 1))).find? fun p => decide (p % m ≠ 0) && !decide (stF f p = stF f (p % m))
theorem conf_none {f : Nat → Wo} {n m : Nat} (hm : 0 < m) : conf f n m = none ↔ NoC f n m := by
  unfold conf NoC
  rw [List.find?_eq_none]
  constructor
  · intro h i hi him
    by_cases hlt : m < i
    · have := h i (by rw [List.mem_range'_1]; omega)
      simp [him] at this
      exact this
    · have : i < m := by
        rcases Nat.lt_or_ge i m with q | q
        · exact q
        · have : i = m := by omega
          rw [this, Nat.mod_self] at him; exact absurd rfl him
      rw [Nat.mod_eq_of_lt this]
  · intro h i hi
    rw [List.mem_range'_1] at hi
    simp
    intro him
    exact h i (by omega) him
end PL
/-! PL25: cuts of a row, as a law seeks them (plain), and right sizes. -/
namespace PL
open PySem PySem.Spec PyProof.Rows L2
abbrev gw (ws : List Wo) : Nat → Wo := fun i => ws.getD i []
/-- what stands ahead of the last letters -/
def fore (w e : Wo) : Wo := w.take (w.length - e.length)
theorem fore_app (o e : Wo) : fore (o ++ e) e = o := by unfold fore; simp
def okB (f : Nat → Wo) (inner : List Wo) (k : Nat) : Prop :=
  gw inner 0 <:+ f (k * inner.length) ∧ ∀ t, t < inner.length → f (k * inner.length + t) = fore (f (k * inner.length)) (gw inner 0) ++ gw inner t
def outL (f : Nat → Wo) (inner : List Wo) (q : Nat) : List Wo := (List.range q).map fun k => fore (f (k * inner.length)) (gw inner 0)
def inL (ws : List Wo) (m s : Nat) : List Wo := (ws.take m).map fun w => w.drop s
theorem okB_of {f : Nat → Wo} {inner : List Wo} {k : Nat} (h0 : 0 < inner.length) (h : ∃ o, ∀ t, t < inner.length → f (k * inner.length + t) = o ++ gw inner t) : okB f inner k := by
  obtain ⟨o, ho⟩ := h
  have h1 := ho 0 h0
  rw [Nat.add_zero] at h1
  refine ⟨⟨o, h1.symm⟩, fun t ht => ?_⟩
  rw [ho t ht, h1, fore_app]
theorem inL_len {ws : List Wo} {m s : Nat} (h : m ≤ ws.length) : (inL ws m s).length = m := by simp [inL]; omega
theorem inL_at {ws : List Wo} {m s t : Nat} (h : m ≤ ws.length) (ht : t < m) : gw (inL ws m s) t = (gw ws t).drop s := by
  unfold gw inL
  rw [List.getD_eq_getElem?_getD, List.getElem?_map, List.getElem?_take_of_lt ht, List.getD_eq_getElem?_getD, List.getElem?_eq_getElem (by omega)]
  rfl
open Classical in
noncomputable def cutL (ws : List Wo) (m : Nat) : List Nat := if ws.length % m = 0 then (List.range ((gw ws 0).length + 1)).filter fun s => decide ((∀ w ∈ ws.take m, (gw ws 0).take s <+: w) ∧ ∀ k, k < ws.length / m → okB (gw ws) (inL ws m s) k) else []
def rzs (ws : List Wo) : List Nat := (List.range' 1 ws.length).filter fun m => decide (ws.length % m = 0) && (conf (gw ws) ws.length m).isNone
open Classical in
theorem cut_iff {ws : List Wo} {m : Nat} (hm : 0 < m) (hm2 : m ≤ ws.length) : cutL ws m ≠ [] ↔ (ws.length % m = 0 ∧ conf (gw ws) ws.length m = none) := by
  unfold cutL
  by_cases hd : ws.length % m = 0
  · rw [if_pos hd, conf_none hm]
    have hmem : ∀ t, t < m → gw ws t ∈ ws.take m := fun t ht => by
      show ws.getD t [] ∈ _
      rw [List.getD_eq_getElem?_getD, List.getElem?_eq_getElem (by omega), Option.getD_some]
      have : (ws.take m)[t]'(by simp; omega) = ws[t]'(by omega) := List.getElem_take
      rw [← this]
      exact List.getElem_mem _
    constructor
    · intro h
      refine ⟨hd, ?_⟩
      obtain ⟨s, hs⟩ := List.exists_mem_of_ne_nil _ h
      rw [List.mem_filter, decide_eq_true_eq] at hs
      obtain ⟨_, _, h3⟩ := hs
      refine noconf_of_cut (gw ws) ws.length m s hm (fun k hk => ?_) (by omega)
      have hk2 : k < ws.length / m := by
        rw [Nat.lt_div_iff_mul_lt' (Nat.dvd_of_mod_eq_zero hd)]
        rw [Nat.mul_comm]; exact hk
      have := (h3 k hk2).2
      rw [inL_len hm2] at this
      exact ⟨_, fun t ht => by rw [this t ht, inL_at hm2 ht]⟩
    · rintro ⟨_, h⟩
      obtain ⟨s, h1, h2, h3⟩ := cut_of_noconf (gw ws) ws.length m hm (Nat.dvd_of_mod_eq_zero hd) h
      apply List.ne_nil_of_mem (a := s)
      rw [List.mem_filter, List.mem_range, decide_eq_true_eq]
      refine ⟨by omega, fun w hw => ?_, fun k hk => ?_⟩
      · obtain ⟨t, ht, rfl⟩ := List.mem_iff_getElem.1 hw
        have ht' : t < m := by simp at ht; omega
        have := h2 t ht'
        have e : (ws.take m)[t] = gw ws t := by
          rw [List.getElem_take]
          show _ = ws.getD t []
          rw [List.getD_eq_getElem?_getD, List.getElem?_eq_getElem (by omega)]; rfl
        rw [e]; exact this
      · have hk2 : k * m < ws.length := by
          rw [Nat.lt_div_iff_mul_lt' (Nat.dvd_of_mod_eq_zero hd)] at hk
          rw [Nat.mul_comm]; exact hk
        obtain ⟨o, ho⟩ := h3 k hk2
        refine okB_of (by rw [inL_len hm2]; exact hm) ⟨o, fun t ht => ?_⟩
        rw [inL_len hm2] at ht ⊢
        rw [ho t ht, inL_at hm2 ht]
  · rw [if_neg hd]
    exact ⟨fun h => absurd rfl h, fun h => absurd h.1 hd⟩
open Classical in
theorem due_rzs (ws : List Wo) : ((List.range' 1 ws.length).filter fun m => decide (cutL ws m ≠ [])) = rzs ws := by
  unfold rzs
  refine List.filter_congr fun m hm => ?_
  rw [List.mem_range'_1] at hm
  have := cut_iff (ws := ws) (m := m) (by omega) (by omega)
  rw [Bool.eq_iff_iff, decide_eq_true_eq, this, Bool.and_eq_true, decide_eq_true_eq, Option.isNone_iff_eq_none]
/-- the right sizes of a row of all words of rows of letters -/
theorem rzs_dues {fs : List (List Wo)} (h : ∀ r ∈ fs, Lt r) : rzs (wds fs.reverse) = dues fs.reverse := by
  have hr : ∀ r ∈ fs.reverse, Lt r := fun r hr => h r (List.mem_reverse.1 hr)
  have hne : ∀ r ∈ fs.reverse, r ≠ [] := fun r hx z => by have := (hr r hx).1; rw [z] at this; simp at this
  obtain ⟨d1, d2⟩ := dues_in fs.reverse hr
  unfold rzs
  rw [wds_len]
  have hf : ∀ i, i < tot fs.reverse → gw (wds fs.reverse) i = nw fs.reverse i := fun i hi => by
    show (wds fs.reverse).getD i [] = _
    rw [List.getD_eq_getElem?_getD, wds_get _ _ hne hi]; rfl
  refine filter_asc d1 d2 fun m h1 h2 => ?_
  rw [Bool.and_eq_true, decide_eq_true_eq, Option.isNone_iff_eq_none, conf_none (by omega)]
  have key : NoC (gw (wds fs.reverse)) (tot fs.reverse) m ↔ NoC (nw fs.reverse) (tot fs.reverse) m := by
    unfold NoC stF
    constructor
    · intro q i hi him
      have := q i hi him
      have lt := Nat.mod_le i m
      rwa [hf _ (by omega), hf _ hi, hf _ (by omega), hf _ (by omega)] at this
    · intro q i hi him
      have := q i hi him
      have lt := Nat.mod_le i m
      rwa [hf _ (by omega), hf _ hi, hf _ (by omega), hf _ (by omega)]
  rw [key]
  constructor
  · rintro ⟨q1, q2⟩
    exact (noc_dues _ m hr h1 (Nat.dvd_of_mod_eq_zero q1)).1 q2
  · intro q
    have hd : m ∣ tot fs.reverse := by
      clear key hf d1 d2 h2 h1 hne h
      generalize fs.reverse = rs at hr q
      induction rs generalizing m with
      | nil =>
        have : m = 1 := by simpa [dues] using q
        rw [this]; exact Nat.one_dvd _
      | cons r rs ih =>
        rcases List.mem_cons.1 q with rfl | q
        · exact Nat.one_dvd _
        · obtain ⟨y, hy, rfl⟩ := List.mem_map.1 q
          exact Nat.mul_dvd_mul_left _ (ih _ (fun x hx => hr x (List.mem_cons_of_mem _ hx)) hy)
    exact ⟨Nat.mod_eq_zero_of_dvd hd, (noc_dues _ m hr h1 hd).2 q⟩
theorem size_nat {n m q : Nat} (hm : 0 < m) (hq : n = q * m) (h0 : 0 < q) : Builtin.Range.rangeSize 0 (n : Int) (m : Int) = (q : Int) := by
  unfold Builtin.Range.rangeSize
  have h1 : (m : Int) > 0 := by omega
  have h2 : (0 : Int) < (n : Int) := by
    have := Nat.mul_pos h0 hm
    omega
  have e1 : ((n : Int) - 0 - 1) = (m : Int) * ((q : Int) - 1) + ((m : Int) - 1) := by
    rw [hq, Int.natCast_mul, Int.mul_sub, Int.mul_comm (q : Int)]
    omega
  rw [if_pos h1, if_pos h2, e1, Int.mul_add_ediv_left _ _ (by omega), Int.ediv_eq_zero_of_lt (by omega) (by omega)]
  omega
theorem rng3_int (i j c : Int) (h : c ≠ 0 ∧ c.natAbs < 1073741824 ∧ Builtin.Range.small i j c = true) : rng3 [.int i, .int j, .int c] = some (rngC i c (Builtin.Range.rangeSize i j c).toNat) := if_pos h
theorem rng3_nat {n m q : Nat} (hm : 0 < m) (hq : n = q * m) (h0 : 0 < q) (hn : n ≤ 1000000) : rng3 [.int 0, .int n, .int m] = some ((List.range q).map fun k => D.int ((k * m : Nat) : Int)) := by
  have hmn : m ≤ n := by rw [hq]; exact Nat.le_mul_of_pos_left _ h0
  have hqn : q ≤ n := by rw [hq]; exact Nat.le_mul_of_pos_right _ hm
  have e := size_nat hm hq h0
  have fl : ∀ i : Int, 0 ≤ i → i ≤ 3000000 → Builtin.Range.rangeFitsLong i = true := fun i h1 h2 => by
    unfold Builtin.Range.rangeFitsLong
    simp
    omega
  have hs : Builtin.Range.small 0 (n : Int) (m : Int) = true := by
    unfold Builtin.Range.small
    rw [e, fl 0 (by omega) (by omega), fl n (by omega) (by omega), fl m (by omega) (by omega), fl q (by omega) (by omega), if_pos (by omega), fl _ (by omega) (by omega)]
    simp
  have hc : ((m : Nat) : Int) ≠ 0 ∧ ((m : Nat) : Int).natAbs < 1073741824 ∧ Builtin.Range.small 0 (n : Int) (m : Int) = true := ⟨by omega, by omega, hs⟩
  rw [rng3_int 0 n m hc, e, Int.toNat_natCast]
  have hf : (fun i : Nat => D.int (0 + (i : Int) * (m : Int))) = fun k => D.int ((k * m : Nat) : Int) := by
    funext k
    rw [Int.natCast_mul, Int.zero_add]
  show some ((List.range q).map fun (i : Nat) => D.int (0 + (i : Int) * (m : Int))) = _
  rw [hf]
end PL
/-! PL26: exceptions: raise, try .. except X as n. -/
namespace PL
open PySem PySem.Spec PyProof.Rows L2
theorem RepE.kill {K : PySem.W.Frag} {w : Wd} {σ : L2.St} {ρ : Env} (i : Nat) (h : RepE K w σ ρ) : RepE K w (σ.set i none) (ρ.set i none) := by
  refine ⟨by rw [List.length_set, List.length_set]; exact h.len, fun j e hj => ?_⟩
  by_cases hij : i = j
  · subst hij
    by_cases hl : i < ρ.length
    · rw [List.getElem?_set_self hl] at hj; cases hj
    · rw [List.getElem?_eq_none (by simpa using hl)] at hj; cases hj
  · rw [List.getElem?_set_ne hij] at hj ⊢
    exact h.at_ j e hj
section
variable {X : Cx} {W : WX}
/-- X(), X an own exception class without own __init__ -/
theorem pmk_own0 {C : Addr} {bmB : List Value} {B newId initId : String} {x : Str} {p pos : Pos} (F : ExcBaseFacts B newId initId bmB) (q : PySem.W.excIn X.K C bmB newId = true) (gC : X.mg x = some (.ref C)) (kC : PySem.W.keepIn X.K (.ref C) = true) (r : Raises X (.ref C)) (hg : Gl X x)
    (hdb : (x == ("__debug__" : Str)) = false := by decide) : L2N.PMk X (.Call (.Name x p) [] [] pos) (fun _ H Q => Q (.ref C) none H) := by
  intro pins s σ H Q I h
  refine wpAny_Call_Name_kw (ld_glob I hg gC ?_ hdb)
  refine PySem.W.callWith_K0 I.kIn kC ?_
  show wpAny _ _ (call (.ref C) []) _ _ _
  obtain ⟨bm, N, nm, qn, bs, hdct, sn, sub, ab, col, dd, k0, k1, k2, k3, k5, mN, hC, hN, hni, T⟩ := exc_obj I.kIn q
  refine wpAny_call_exc_subT F T hC hN hni (fun h' e hm => ?_) (by show 0 ≤ sizeLine; omega)
  exact L2N.mk_of I hm r h (I.hok.gone hm.new)
abbrev veB : List Value := [.type "ValueError", .type "Exception", .type "BaseException", .type "object"]
structure Ex0 (K : PySem.W.Frag) (mg : Str → Option Value) (x : Str) (C : Addr) : Prop where
  g : mg x = some (.ref C)
  q : PySem.W.excIn K C veB "ValueError.__new__" = true
  k : PySem.W.keepIn K (.ref C) = true
  s : PySem.W.subIn K (.ref C) (.type "BaseException") = some true
  t : PySem.W.typeIn K (.ref C) = some (.type "type")
def sRaise0 (c : String) : SM := fun ρ st => .ex ⟨c, none⟩ ρ st
def sRaise1 (c n : String) (f : Env → M D) : SM := sThen f fun d ρ st => .ex ⟨c, some (n, d)⟩ ρ st
theorem ds_raise0 (c : String) {x : Str} {C : Addr} {p pos pos' : Pos} (hx : x = Str.ofString c) (T : Ex0 X.K X.mg x C) (hc : X.calm = true) (tk : L2N.Takes X W) (hg : Gl X x) (hdb : (x == ("__debug__" : Str)) = false := by decide) :
    DS X W (.Raise (some (.Call (.Name x p) [] [] pos)) none pos') (sRaise0 c) := by
  subst hx
  exact PS.imp (L2N.ps_raise hc tk (pmk_own0 F.excBase_ValueError T.q T.g T.k (raises_own T.s T.t) hg hdb)) fun D σ H h => by
    obtain ⟨w, ρ, rfl, ok, re, q⟩ := h
    exact q w (Grow.refl w) ok rfl σ re (.ref C) none ⟨.inl ⟨_, T.g, rfl⟩, fun _ => rfl, fun n a e => by cases e⟩
/-- X(e): an own exception with one field -/
def tMk (fld : Str) (C : Addr) (ta : TA) : L2.St → Hp → XK → Prop := fun σ H Q => ta σ H fun vs H1 => ∃ v, vs = [v] ∧ ∀ d, H1 d = none → Q (.ref C) (some d) (upd H1 d (.xd [(fld, v)]))
theorem ds_raise1 (c n : String) {C : Addr} {e call : Expr} {pos' : Pos} {f : Env → M D} (hc : X.calm = true) (tk : L2N.Takes X W) (hm : X.mg (Str.ofString c) = some (.ref C)) (he : DE X W e f) (hp : ∀ ta, PA X [e] ta → L2N.PMk X call (tMk (Str.ofString n) C ta))
    (hs : starEach [e] X.env = (false, eval e X.env) :: starEach [] X.env := by rfl) : DS X W (.Raise (some call) none pos') (sRaise1 c n f) :=
  PS.imp (L2N.ps_raise hc tk (hp _ (pa_cons he pa_nil hs))) fun D σ H h => (then_imp (R := Rep X.K) h).imp fun x H1 ⟨w, ρ, a, e1, ok, re, r, q⟩ => by
    subst e1
    exact ⟨x, rfl, fun d hd => q (w.put d (.xd [(Str.ofString n, x)])) (Grow.new ok hd) (ok.new hd) rfl σ (re.grow (Grow.new ok hd)) (.ref C) (some d)
      ⟨.inl ⟨_, hm, rfl⟩, nofun, fun n' a' (e : some (n, a) = some (n', a')) => by
        cases e
        exact ⟨x, d, rfl, upd_same, Rep.grow (Grow.new ok hd) _ _ r⟩⟩⟩

/-! ### try -/
def sTry (f : SM) (sub : String → Option Bool) (i : Nat) (su : Exc → SM) : SM := fun ρ st => match f ρ st with
  | .ex e ρ1 st1 => (match sub e.cls with
    | some true => (match su e (ρ1.set i none) st1 with
      | .nx ρ2 st2 => .nx (ρ2.set i none) st2
      | .bk ρ2 st2 => .bk (ρ2.set i none) st2
      | .ct ρ2 st2 => .ct (ρ2.set i none) st2
      | .rt d st2 => .rt d st2
      | _ => .bad)
    | some false => .ex e ρ1 st1
    | none => .bad)
  | r => r
/-- what an except suite knows: e lies at cls, d; slot i holds it -/
def PX (K : PySem.W.Frag) (mg : Str → Option Value) (i : Nat) (a : Addr) (cls : Value) (d : Option Addr) (e : Exc) : Wd → L2.St → Prop := fun w σ => xr K mg e cls d w ∧ (i < σ.length → σ[i]? = some (some (.ref a)))
def tSs (C : Ctx) (P : Wd → L2.St → Prop) (f : SM) : TS := fun D σ H => ∃ w ρ, w.H = H ∧ WOk C.K w ∧ RepE C.K w σ ρ ∧ P w σ ∧ SPost C w (f ρ w.st) D
def tXs (C : Ctx) (P : Wd → L2.St → Prop) (f : Env → M D) : TE := fun σ H Q => ∃ w ρ, w.H = H ∧ WOk C.K w ∧ RepE C.K w σ ρ ∧ P w σ ∧ Post C (Rep C.K) w (f ρ w.st) Q (C.we σ)
theorem ds_try_as {x n : Str} {c : Value} {i : Nat} {body suite : List Stmt} {b₀ : Stmt} {np pos pos' : Pos} {f : SM} {su : Exc → SM} (sub : String → Option Bool) (hs : X.stack = X.env :: X.outer) (hf : X.env.frame = some X.env.locals) (hN : X.N.Nodup) (hi : X.N[i]? = some n) (hln : X.env.kindOf n = some .local) (hc : Names X x c) (tk : L2N.Takes X W)
    (hsub : ∀ nm b, sub nm = some b → ∃ C, X.mg (Str.ofString nm) = some (.ref C) ∧ PySem.W.exmOne X.K (.ref C) c = some b)
    (hb : ∀ (W : WX) (pn : List (Addr × Obj)) (xe : Value → Shared → Prop), L2N.Takes (X.tr pn xe) W → PassesOwn (model X.prog X.w) X.A X.env xe → DSs (X.tr pn xe) W body f)
    (hsu : ∀ (e : Exc) (a : Addr) (oe : Obj) (cls : Value) (d : Option Addr) (pn : List (Addr × Obj)), L2N.Zn cls d oe → (∃ vs, oe.data = .fields vs) → sub e.cls = some true → PSs (X.suite a ((a, oe) :: pn)) (b₀ :: suite) (tSs (cx X W0) (PX X.K X.mg i a cls d e) (su e))) :
    DS X W (.Try body [.ExceptHandler (some (.Name x np)) (some n) (b₀ :: suite) pos'] [] [] pos) (sTry f sub i su) := by
  refine PS.imp (L2N.ps_try_as (tb := fun W => tS (cx X W) f) (ts := fun a cls d D σ H => ∃ e, sub e.cls = some true ∧ tSs (cx X W0) (PX X.K X.mg i a cls d e) (su e) D σ H) (Wout := W) hs hf hN hi hln hc tk hb (fun a oe cls d pn hz hv => ⟨fun pins s σ H D I ⟨e, he, h⟩ => (hsu e a oe cls d pn hz hv he).run pins s σ H D I h⟩)) fun D σ H h => ?_
  obtain ⟨w, ρ, rfl, ok, re, q⟩ := h
  refine ⟨w, ρ, rfl, ok, re, ?_⟩
  unfold sTry at q
  cases er : f ρ w.st with
  | bad => rw [er] at q; exact q
  | nx ρ' st => rw [er] at q; exact q
  | rt d st => rw [er] at q; exact q
  | bk d st => rw [er] at q; exact q
  | ct d st => rw [er] at q; exact q
  | ex e ρ1 st1 =>
    rw [er] at q
    intro w' g ok' es σ' re' cls d hx
    cases eb : sub e.cls with
    | none => simp only [eb] at q; exact q.elim
    | some b =>
      obtain ⟨C, hm, hex⟩ := hsub _ _ eb
      have hcls : cls = .ref C := by
        rcases hx.1 with ⟨u, h1, h2⟩ | ⟨h1, _⟩
        · rw [h2]; rw [hm] at h1; exact (Option.some.inj h1).symm
        · rw [hm] at h1; cases h1
      refine ⟨b, by rw [hcls]; exact hex, fun hbt a ha => ?_, fun hbf => ?_⟩
      · subst hbt
        simp only [eb] at q
        have re2 : RepE X.K w' (σ'.set i (some (.ref a))) (ρ1.set i (some (.vv (.ref a)))) := re'.set i (show Rep X.K w' (.vv (.ref a)) (.ref a) from rfl)
        have re3 := re2.forget i
        rw [List.set_set] at re3
        refine ⟨e, eb, w', _, rfl, ok', re3, ⟨hx, fun hl => List.getElem?_set_self (by simpa using hl)⟩, ?_⟩
        rw [es]
        cases eu : su e (ρ1.set i none) st1 with
        | bad => rw [eu] at q; exact q.elim
        | ex e2 ρ2 st2 => rw [eu] at q; exact q.elim
        | nx ρ2 st2 => rw [eu] at q; exact fun w2 g2 ok2 es2 σ2 r2 => q w2 (g.trans g2) ok2 es2 _ (r2.kill i)
        | bk ρ2 st2 => rw [eu] at q; exact fun w2 g2 ok2 es2 σ2 r2 => q w2 (g.trans g2) ok2 es2 _ (r2.kill i)
        | ct ρ2 st2 => rw [eu] at q; exact fun w2 g2 ok2 es2 σ2 r2 => q w2 (g.trans g2) ok2 es2 _ (r2.kill i)
        | rt d2 st2 => rw [eu] at q; exact fun w2 g2 ok2 es2 v r2 => q w2 (g.trans g2) ok2 es2 v r2
      · subst hbf
        simp only [eb] at q
        exact q w' g ok' es σ' re' cls d hx
/-! ### what stands in an except suite -/
theorem xs_of {X : Cx} {W : WX} {P : Wd → L2.St → Prop} {e : Expr} {f : Env → M D} (h : DE X W e f) : PE X e (tXs (cx X W) P f) := h.imp fun σ H Q ⟨w, ρ, e1, ok, re, _, q⟩ => ⟨w, ρ, e1, ok, re, trivial, q⟩
/-- n.fld, n the exception -/
def sFldE (e : Exc) (c n : String) : Env → M D := fun _ st => match e.arg with
  | some (m, v) => if e.cls = c ∧ m = n then .ok v st else .bad
  | none => .bad
def tBy (fld : Str) (C : Addr) (a : Addr) (cls : Value) (d : Option Addr) (te : TE) : TE := fun σ H Q => te σ H fun x H1 => x = .ref a ∧ cls = .ref C ∧ ∃ (dd : Addr) (v : V), d = some dd ∧ H1 dd = some (.xd [(fld, v)]) ∧ Q v H1
theorem xs_fld {X : Cx} {W : WX} (c n : String) {i : Nat} {C a : Addr} {cls : Value} {d : Option Addr} {e : Exc} {ex : Expr} (hm : X.mg (Str.ofString c) = some (.ref C)) (h : PE X ex (tBy (Str.ofString n) C a cls d (tVar i))) {x : Str} (hi : X.N[i]? = some x) : PE X ex (tXs (cx X W) (PX X.K X.mg i a cls d e) (sFldE e c n)) :=
  ⟨fun pins s σ H Q I hq => h.run pins s σ H Q I (by
    obtain ⟨w, ρ, rfl, ok, re, ⟨hx, hs⟩, q⟩ := hq
    unfold sFldE at q
    cases ea : e.arg with
    | none => rw [ea] at q; exact q.elim
    | some p =>
      obtain ⟨m, v⟩ := p
      rw [ea] at q
      simp only at q
      by_cases hc : e.cls = c ∧ m = n
      · rw [if_pos hc] at q
        obtain ⟨h1, h2⟩ := hc
        subst h1; subst h2
        have hcls : cls = .ref C := by
          rcases hx.1 with ⟨u, h1, h2⟩ | ⟨h1, _⟩
          · rw [h2]; rw [hm] at h1; exact (Option.some.inj h1).symm
          · rw [hm] at h1; cases h1
        obtain ⟨u, p, hd, hp, hr⟩ := hx.2.2 _ _ ea
        exact ⟨_, hs (by rw [I.len]; exact (List.getElem?_eq_some_iff.1 hi).1), rfl, hcls, p, u, hd, hp, q w (Grow.refl w) ok rfl u hr⟩
      · rw [if_neg hc] at q
        exact q.elim)⟩
theorem ss_ret {X : Cx} {W : WX} {P : Wd → L2.St → Prop} {e : Expr} {f : Env → M D} {pos : Pos} (h : PE X e (tXs (cx X W) P f)) : PS X (.Return (some e) pos) (tSs (cx X W) P (sRet f)) :=
  PS.imp (ps_ret h) fun D σ H ⟨w, ρ, e1, ok, re, p, q⟩ => by
    refine ⟨w, ρ, e1, ok, re, p, ?_⟩
    unfold sRet sThen at q
    cases e : f ρ w.st with
    | bad => rw [e] at q; exact q
    | exc x st => rw [e] at q; exact fun w' g ok' es => q w' g ok' es σ (re.grow g)
    | ok a st => rw [e] at q; exact fun w' g ok' es x hx => q w' g ok' es x hx
theorem sss_one {X : Cx} {W : WX} {P : Wd → L2.St → Prop} {s : Stmt} {f : SM} (h : PS X s (tSs (cx X W) P f)) : PSs X [s] (tSs (cx X W) P f) := pss_one h
theorem ss_of {X : Cx} {W : WX} {P : Wd → L2.St → Prop} {s : Stmt} {f : SM} (h : DS X W s f) : PS X s (tSs (cx X W) P f) := h.imp fun D σ H ⟨w, ρ, e1, ok, re, _, q⟩ => ⟨w, ρ, e1, ok, re, q⟩
end
theorem hs_nil {mg : Str → Option Value} {K : PySem.W.Frag} {c : Value} : ∀ nm b, ([] : List (String × Bool)).lookup nm = some b → ∃ C, mg (Str.ofString nm) = some (.ref C) ∧ PySem.W.exmOne K (.ref C) c = some b := fun _ _ h => by cases h
theorem hs_cons {mg : Str → Option Value} {K : PySem.W.Frag} {c : Value} {x : String} {k : Bool} {l : List (String × Bool)} {C : Addr} (g : mg (Str.ofString x) = some (.ref C)) (e : PySem.W.exmOne K (.ref C) c = some k)
    (h : ∀ nm b, l.lookup nm = some b → ∃ C, mg (Str.ofString nm) = some (.ref C) ∧ PySem.W.exmOne K (.ref C) c = some b) : ∀ nm b, ((x, k) :: l).lookup nm = some b → ∃ C, mg (Str.ofString nm) = some (.ref C) ∧ PySem.W.exmOne K (.ref C) c = some b := fun nm b hb => by
  by_cases z : nm = x
  · subst z
    rw [List.lookup_cons_self] at hb
    cases hb
    exact ⟨C, g, e⟩
  · have : (nm == x) = false := by simpa using z
    rw [List.lookup_cons, this] at hb
    exact h nm b hb
/-- is an error of the class at S one that «except T» names? -/
theorem exm_of {K : PySem.W.Frag} {S T : Addr} {b : Bool} (h1 : PySem.W.subIn K (.ref T) (.type "BaseException") = some true) (h2 : PySem.W.isClsIn K T = true) (h3 : PySem.W.typeIn K (.ref T) = some (.type "type")) (h4 : PySem.W.subIn K (.ref S) (.ref T) = some b) :
    PySem.W.exmOne K (.ref S) (.ref T) = some b := by
  have e1 : (PySem.W.subIn K (.ref T) (.type "BaseException") == some true) = true := by rw [h1] <;> rfl
  have e2 : ((PySem.W.clsIn K T).isSome && PySem.W.typeIn K (.ref T) == some (.type "type")) = true := by
    have h2' : (PySem.W.clsIn K T).isSome = true := h2
    rw [h2', h3] <;> rfl
  show (if (PySem.W.subIn K (.ref T) (.type "BaseException") == some true) = true then (if ((PySem.W.clsIn K T).isSome && PySem.W.typeIn K (.ref T) == some (.type "type")) = true then PySem.W.subIn K (.ref S) (.ref T) else none) else none) = some b
  rw [if_pos e1, if_pos e2]
  exact h4
/-! ### weakest conditions -/
section
variable {X : Exc → Store → Prop} {st : Store} {k : SK} {ρ : Env}
@[simp] theorem ws_raise0 (c : String) : ws (sRaise0 c ρ st) k = k.ex ⟨c, none⟩ ρ st := rfl
@[simp] theorem ws_raise1 (c n : String) (f : Env → M D) : ws (sRaise1 c n f ρ st) k = wp (f ρ st) (fun e st1 => k.ex e ρ st1) fun d st1 => k.ex ⟨c, some (n, d)⟩ ρ st1 := by
  unfold sRaise1 sThen
  cases f ρ st <;> rfl
theorem ws_try (f : SM) (sub : String → Option Bool) (i : Nat) (su : Exc → SM) : ws (sTry f sub i su ρ st) k = ws (f ρ st) ⟨k.nx, k.rt, k.bk, k.ct, fun e ρ1 st1 => match sub e.cls with
    | some true => ws (su e (ρ1.set i none) st1) ⟨fun ρ2 st2 => k.nx (ρ2.set i none) st2, k.rt, fun ρ2 st2 => k.bk (ρ2.set i none) st2, fun ρ2 st2 => k.ct (ρ2.set i none) st2, fun _ _ _ => False⟩
    | some false => k.ex e ρ1 st1
    | none => False⟩ := by
  unfold sTry
  cases f ρ st with
  | ex e ρ1 st1 =>
    show ws (match sub e.cls with | some true => _ | some false => _ | none => _) k = match sub e.cls with | some true => _ | some false => _ | none => _
    cases sub e.cls with
    | none => rfl
    | some b =>
      cases b with
      | false => rfl
      | true =>
        simp only
        cases su e (ρ1.set i none) st1 <;> rfl
  | _ => rfl
@[simp] theorem wp_fldE (c n : String) (v : D) (Q : D → Store → Prop) : wp (sFldE ⟨c, some (n, v)⟩ c n ρ st) X Q = Q v st := by
  unfold sFldE
  simp
end
end PL
/-! PL27: sets of texts, made of a list, and sorted. -/
namespace PL
open PySem PySem.Spec PyProof.Rows L2
def keyS (e : Int × Value) : Str := match e.2 with
  | .str k _ => k
  | _ => Str.empty
def GdS (w : World) (e : Int × Value) : Prop := ∃ k tk, e.2 = Value.str k tk ∧ e.1 = hashStr w k
/-- a set of texts: its members, their number; its table can be walked -/
structure TSet (w : World) (S : Str → Bool) (n : Nat) (o : Obj) (es : Array (Int × Value)) (ep : Nat) (t : SetTable) : Prop where
  ex : o.ExactSet
  d : o.data = .set es ep t
  g : ∀ e ∈ es.toList, GdS w e
  nd : (es.toList.map keyS).Nodup
  m : ∀ k, S k = true ↔ k ∈ es.toList.map keyS
  b : es.size < scanBound
  f : t.fits es.size = true
  n : es.size = n
  r : Ris t.place.toList
  l : w.params.followText "set-order" = true ∨ t.led = true
def StS (w : World) (h : Heap) (a : Addr) (S : Str → Bool) (n : Nat) : Prop := ∃ o es ep t, h.get? a = some o ∧ TSet w S n o es ep t
section
variable {P : Program} {w : World} {h h' : Heap} {a : Addr} {S : Str → Bool} {n : Nat}
theorem StS.at (R : StS w h a S n) (k : ∀ o, h.get? a = some o → h'.get? a = some o) : StS w h' a S n := by
  obtain ⟨o, es, ep, t, ho, r⟩ := R
  exact ⟨o, es, ep, t, k o ho, r⟩
theorem StS.congr {S' : Str → Bool} (R : StS w h a S n) (e : ∀ k, S' k = S k) : StS w h a S' n := by
  rw [show S' = S from funext e]; exact R
theorem gdS_elems {l : List (Int × Value)} (g : ∀ e ∈ l, GdS w e) : ElemsOf (PySem.strKind P w) l := fun e he => by
  obtain ⟨k, tk, h1, h2⟩ := g e he
  exact ⟨⟨k, by rw [h1]; exact strKind_is P w k tk, h2⟩, by rw [h1] <;> rfl⟩
theorem gdS_is {e : Int × Value} (g : GdS w e) (k : Str) : (PySem.strKind P w).is k e.2 = true ↔ keyS e = k := by
  obtain ⟨k0, tk, h1, _⟩ := g
  unfold keyS
  rw [h1]
  constructor
  · intro z
    obtain ⟨t, e⟩ := Value.isStrOf_shape (x := k) (v := Value.str k0 tk) z
    injection e
  · intro z
    rw [← z]; exact strKind_is P w k0 tk
theorem gdS_mem {l : List (Int × Value)} (g : ∀ e ∈ l, GdS w e) (k : Str) : k ∈ l.map keyS ↔ ∃ e ∈ l, (PySem.strKind P w).is k e.2 = true := by
  rw [List.mem_map]
  exact ⟨fun ⟨e, he, q⟩ => ⟨e, he, (gdS_is (g e he) k).2 q⟩, fun ⟨e, he, q⟩ => ⟨e, he, (gdS_is (g e he) k).1 q⟩⟩
end
section
variable {P : Program} {w : World} {A : Around} {E : Value → Shared → Prop} {s : Shared} {a : Addr} {S : Str → Bool} {n : Nat}
/-- what is laid down, and laid anew where it is too full -/
theorem stS_tail {g : Bool → Sem Unit} (hg : ∀ (b : Bool) (s₁ : Shared) (Q' : Unit → Shared → Prop), Q' () s₁ → wpAny (model P w) A (g b) Q' E s₁)
    {o : Obj} {es : Array (Int × Value)} {ep : Nat} {t : SetTable} (ho : s.heap.get? a = some o) (hex : o.ExactSet) (hd : o.data = .set es ep t)
    {es1 : Array (Int × Value)} {t2 : SetTable} {S' : Str → Bool} (T : ∀ o' ep', o'.ExactSet → o'.data = .set es1 ep' t2 → TSet w S' es1.size o' es1 ep' t2) {wasDummy : Bool} {R : Option Bool → Shared → Prop}
    (hR : ∀ h', Heap.SameBut a s.heap h' → StS w h' a S' es1.size → R (some true) { s with heap := h' }) :
    wpAny (model P w) A (do
        storeSet a es1 t2
        if (!wasDummy && t2.tooFull) = true then do
            g (relayAll t2 es1 (SetTable.grown es1.size)).2.2
            storeSet a (relayAll t2 es1 (SetTable.grown es1.size)).1 (relayAll t2 es1 (SetTable.grown es1.size)).2.1
            pure (some true)
          else pure (some true)) R E s := by
  have T1 := T { o with data := .set es1 (ep + 1) t2 } (ep + 1) hex rfl
  refine wpAny_bind (wpAny_storeSet_of ho hd ?_ (fits_of_scanBound T1.b))
  have ho1 := store_at (es' := es1) (t' := t2) ho hd
  have sb1 := Heap.SameBut.update s.heap a (Obj.putSet es1 t2)
  split
  · have pm := relayAll_perm t2 es1 (SetTable.grown es1.size)
    have hf3 := relayAll_fits t2 es1 (SetTable.grown es1.size)
    have hr3 := relayAll_ris t2 es1 (SetTable.grown es1.size)
    have hl3 := relayAll_led t2 es1 (SetTable.grown es1.size)
    generalize relayAll t2 es1 (SetTable.grown es1.size) = Z at pm hf3 hr3 hl3 ⊢
    obtain ⟨es2, t3, gave⟩ := Z
    dsimp only at pm hf3 hr3 hl3 ⊢
    have hsz : es2.size = es1.size := by rw [← Array.length_toList, pm.length_eq, Array.length_toList]
    have hb2 : es2.size < scanBound := by rw [hsz]; exact T1.b
    refine wpAny_bind (hg _ _ _ (wpAny_bind (wpAny_storeSet_of ho1 rfl ?_ (fits_of_scanBound hb2))))
    have ho2 := store_at (es' := es2) (t' := t3) ho1 rfl
    exact wpAny_pure (hR _ (sb1.trans (Heap.SameBut.update _ a _)) ⟨_, es2, _, t3, ho2, hex, rfl, fun e he => T1.g e (pm.mem_iff.mp he), (pm.map keyS).nodup_iff.mpr T1.nd, fun k => (T1.m k).trans (pm.map keyS).mem_iff.symm, hb2, hf3, hsz, hr3, T1.l.imp id fun z => by rw [hl3]; exact z⟩)
  · exact wpAny_pure (hR _ sb1 ⟨_, es1, _, t2, ho1, T1⟩)
theorem stS_add {k : Str} {tk : Tok} {Q : Bool → Shared → Prop} (R : StS w s.heap a S n) (room : n + 1 < scanBound)
    (hQ : ∀ h', Heap.SameBut a s.heap h' → StS w h' a (fun j => S j || decide (j = k)) (if S k = true then n else n + 1) → Q (!S k) { s with heap := h' }) :
    wpAny (model P w) A (setAddHashed a (.str k tk) ((PySem.strKind P w).hash k)) Q E s := by
  obtain ⟨o, es, ep, t, ho, T⟩ := R
  have hel : ElemsOf (PySem.strKind P w) es.toList := gdS_elems T.g
  have hsc : (Value.str k tk).scannable = true := rfl
  unfold setAddHashed setAddHashedIn
  refine wpAny_holding (wpAny_bind (wpAny_setState_of ho T.d T.f ?_))
  dsimp only
  rw [byScan_of hsc T.b hel]
  simp only [↓reduceIte]
  unfold setAddByScan
  refine wpAny_bind (wpAny_bind (wpAny_rule (wpAny_bind (wpAny_setScan_of (strKind_is P w k tk) ho T.d T.f hel ?_))))
  cases hfi : List.findIdx? (fun e => (PySem.strKind P w).is k e.2) es.toList with
  | some j =>
    dsimp only
    obtain ⟨hj, pj, _⟩ := List.findIdx?_eq_some_iff_getElem.mp hfi
    have hSk : S k = true := (T.m k).2 ((gdS_mem (P := P) T.g k).2 ⟨es.toList[j], List.getElem_mem hj, pj⟩)
    refine wpAny_pure (wpAny_pure ?_)
    have q := hQ s.heap (Heap.SameBut.refl a s.heap) ⟨o, es, ep, t, ho, T.ex, T.d, T.g, T.nd, fun i => by
      rw [Bool.or_eq_true, decide_eq_true_eq, ← T.m i]
      exact ⟨fun z => z.elim id (fun e => e ▸ hSk), .inl⟩, T.b, T.f, by rw [if_pos hSk]; exact T.n, T.r, T.l⟩
    rw [hSk] at q
    exact q
  | none =>
    dsimp only
    have hnk : k ∉ es.toList.map keyS := fun z => by
      obtain ⟨e, he, q⟩ := (gdS_mem (P := P) T.g k).1 z
      have c := List.findIdx?_eq_none_iff.mp hfi e he
      rw [q] at c
      cases c
    have hSk : S k = false := by
      cases q : S k with
      | false => rfl
      | true => exact absurd ((T.m k).1 q) hnk
    have hgw : ∀ (b : Bool) {s₁ : Shared} {Q' : Unit → Shared → Prop}, Q' () s₁ → wpAny (model P w) A (match b with | true => rule "set.scan.the-table-gave-way" | false => pure ()) Q' E s₁ :=
      fun b s₁ Q' q => by cases b <;> first | exact wpAny_pure q | exact wpAny_rule q
    have pm := layNew_perm t es ((PySem.strKind P w).hash k) (.str k tk)
    have hf1 := layNew_fits t es ((PySem.strKind P w).hash k) (.str k tk)
    have hr1 := layNew_ris t es ((PySem.strKind P w).hash k) (.str k tk) T.r
    have hl1 := layNew_led t es ((PySem.strKind P w).hash k) (.str k tk)
    generalize layNew t es ((PySem.strKind P w).hash k) (.str k tk) = Z at pm hf1 hr1 hl1 ⊢
    obtain ⟨es1, t1, wasDummy, gave⟩ := Z
    dsimp only at pm hf1 hr1 hl1 ⊢
    rw [Array.toList_push] at pm
    have pc : es1.toList.Perm (((PySem.strKind P w).hash k, Value.str k tk) :: es.toList) := pm.trans (List.perm_append_singleton _ _)
    have pk : (es1.toList.map keyS).Perm (k :: es.toList.map keyS) := pc.map keyS
    have g1 : ∀ e ∈ es1.toList, GdS w e := fun e he => by
      rcases List.mem_cons.mp (pc.mem_iff.mp he) with z | z
      · rw [z]; exact ⟨k, tk, rfl, rfl⟩
      · exact T.g e z
    have nd1 : (es1.toList.map keyS).Nodup := pk.nodup_iff.mpr (List.nodup_cons.mpr ⟨hnk, T.nd⟩)
    have m1 : ∀ i, (S i || decide (i = k)) = true ↔ i ∈ es1.toList.map keyS := fun i => by
      rw [Bool.or_eq_true, decide_eq_true_eq, T.m i, pk.mem_iff, List.mem_cons]
      exact Or.comm
    have hsz : es1.size = n + 1 := by rw [← Array.length_toList, pc.length_eq, List.length_cons, Array.length_toList, T.n]
    have hb1 : es1.size < scanBound := by rw [hsz]; exact room
    have hled : w.params.followText "set-order" = true ∨ t1.led = true := T.l.imp id fun z => by rw [hl1]; exact z
    have fin : ∀ h', Heap.SameBut a s.heap h' → StS w h' a (fun j => S j || decide (j = k)) es1.size → Q true { s with heap := h' } := fun h' sb r => by
      have q := hQ h' sb
      rw [hSk] at q
      rw [hsz] at r
      exact q r
    refine wpAny_bind (hgw _ ?_)
    split
    · refine wpAny_bind ?_
      rw [hashByValue_scannable 8 hsc]
      refine wpAny_pure ?_
      refine stS_tail ?_ ho T.ex T.d (fun o' ep' x1 x2 => ⟨x1, x2, g1, nd1, m1, hb1, ?_, rfl, ?_, ?_⟩) ?_
      · intro b s₁ Q' q; cases b <;> first | exact wpAny_pure q | exact wpAny_rule q
      · first | (split <;> first | exact hf1 | exact SetTable.fits_plain_off hf1) | exact hf1
      · first | (split <;> exact hr1) | exact hr1
      · first | (split <;> exact hled) | exact hled
      · intro h' sb r; dsimp only; exact wpAny_pure (fin h' sb r)
    · refine wpAny_bind (wpAny_pure ?_)
      simp only [↓reduceIte]
      refine stS_tail ?_ ho T.ex T.d (fun o' ep' x1 x2 => ⟨x1, x2, g1, nd1, m1, hb1, hf1, rfl, hr1, hled⟩) ?_
      · intro b s₁ Q' q; cases b <;> first | exact wpAny_pure q | exact wpAny_rule q
      · intro h' sb r; dsimp only; exact wpAny_pure (fin h' sb r)
end
end PL
/-! PL28: set(a list of texts), sorted(a set of texts). -/
namespace PL
open PySem PySem.Spec PyProof.Rows L2
section
variable {P : Program} {w : World} {A : Around} {E : Value → Shared → Prop} {s : Shared}
theorem stS_fresh {h : Heap} {a : Addr} {ns : List Str} (ho : h.get? a = some { cls := .type "set", dict := none, data := .set #[] 0 (.fresh 0 0 (!w.params.followText "set-order")) }) : StS w h a (fun j => decide (j ∈ ns.take 0)) 0 :=
  ⟨_, #[], 0, _, ho, ⟨rfl, rfl, rfl⟩, rfl, (fun e he => by simp at he), (by simp), (fun k => by simp), (by decide), (by rfl), rfl, List.Pairwise.nil, by
    show _ ∨ (!w.params.followText "set-order") = true
    cases w.params.followText "set-order"
    · exact .inr rfl
    · exact .inl rfl⟩
/-- the loop that fills a set -/
theorem stS_loop {I : Addr} {fp wr : List Addr} {G : Array GenState → Array GenState → Prop} {n : Nat} {Pv : Nat → Value → Prop} {St : Nat → Shared → Prop} {R : Result → Shared → Prop}
    (W : WalksS P w A.in1 I fp wr G n Pv St) (S : Addr) (hSf : S ∉ fp) (ns : List Str) (hn : n = ns.length) (hb : ns.length + 1 < scanBound) (hval : ∀ i v, Pv i v → ∃ k t, ns[i]? = some k ∧ v = .str k t) :
    ∀ (k i : Nat) (s : Shared), n - i = k → i ≤ n → St i s → (∃ c, c ≤ i ∧ StS w s.heap S (fun j => decide (j ∈ ns.take i)) c) →
      (∀ s' c, Moved (S :: wr) G s s' → c ≤ n → StS w s'.heap S (fun j => decide (j ∈ ns)) c → R (.ok (.ret .none)) s') →
      codeAny (model P w) A (.builtin "set.update.loop" ⟨[.ref S, .ref I], []⟩) R s := by
  have hSw : S ∉ wr := fun h => hSf (W.sub _ h)
  have hsub : ∀ b ∈ wr, b ∈ S :: wr := fun b hb => List.mem_cons_of_mem _ hb
  have enter : ∀ (s : Shared) (R : Result → Shared → Prop), wpAny (model P w) A.in1 (Builtin.«set.update.loop» ⟨[.ref S, .ref I], []⟩) _ _ s → codeAny (model P w) A (.builtin "set.update.loop" ⟨[.ref S, .ref I], []⟩) R s := fun s R h => by
    refine codeAny_builtin F.entry_set_update_loop ?_
    rw [Around.under_plainId F.plain_set_update_loop _]
    exact h
  intro k
  induction k with
  | zero =>
    intro i s hk hi hst ⟨c, hc, hS⟩ hR
    obtain rfl : i = n := by omega
    refine enter s _ (show wpAny _ A.in1 (pyNext (.ref I) >>= _) _ _ s from wpAny_bind (W.done s _ _ hst fun s' hm => ?_))
    show wpAny _ A.in1 (PySem.ret Value.none) _ _ s'
    rw [List.take_of_length_le (by omega)] at hS
    exact wpAny_pure (hR s' c (hm.mono hsub) hc (hS.at fun o e => hm.heap S o hSw e))
  | succ k ih =>
    intro i s hk hi hst ⟨c, hc, hS⟩ hR
    have hlt : i < n := by omega
    refine enter s _ (show wpAny _ A.in1 (pyNext (.ref I) >>= _) _ _ s from wpAny_bind (W.item i s _ _ hlt hst fun v s' hP hst' hm => ?_))
    obtain ⟨z, t, hz, rfl⟩ := hval i v hP
    have hS' : StS w s'.heap S (fun j => decide (j ∈ ns.take i)) c := hS.at fun o e => hm.heap S o hSw e
    show wpAny _ A.in1 (holding [Value.str z t] (setAdd S (.str z t)) >>= _) _ _ s'
    refine wpAny_bind (wpAny_holding ?_)
    unfold setAdd
    refine wpAny_holding (wpAny_bind ((PySem.strKind P w).pyHash (k := z) (strKind_is _ _ _ _) ?_))
    refine stS_add (s := { s' with toks := s'.toks + 1 }) hS' (by omega) fun h' hsb hS2 => ?_
    have hS3 : StS w h' S (fun j => decide (j ∈ ns.take (i + 1))) (if decide (z ∈ ns.take i) = true then c else c + 1) := hS2.congr fun j => by
      rw [List.take_add_one, hz]
      simp [List.mem_append]
    have hc3 : (if decide (z ∈ ns.take i) = true then c else c + 1) ≤ i + 1 := by split <;> omega
    refine wpAny_pure ⟨plainId_quiet F.plain_set_update_loop _, ih (i + 1) _ (by omega) hlt (W.frame _ s' _ _ hst' (Nat.le_succ _) fun b hb o e => ?_) ⟨_, hc3, hS3⟩ fun s'' c2 hm'' hc'' hS'' => ?_⟩
    · rw [hsb.2 b (fun h : b = S => hSf (by rw [← h]; exact hb))]; exact e
    · refine hR s'' c2 (Moved.trans W.gtrans ((hm.mono hsub).then_heap (Nat.le_succ _) fun b o hb e => ?_) hm'') hc'' hS''
      rw [hsb.2 b (fun h : b = S => hb (by rw [h]; exact List.mem_cons_self))]; exact e
abbrev newSet (w : World) : Obj := { cls := .type "set", dict := none, data := .set #[] 0 (.fresh 0 0 (!w.params.followText "set-order")) }
set_option maxHeartbeats 3200000 in
/-- set(l), l a list of texts -/
theorem call_setS {l : Addr} {items : Array Value} (ns : List Str) {Q : Value → Shared → Prop} (hh : A.handled = none) (hl : s.heap.IsList l items) (hit : StrsAre items.toList ns) (hb : ns.length + 1 < scanBound)
    (h : ∀ (h' : Heap) (tk c : Nat), StS w h' s.heap.objs.size (fun j => decide (j ∈ ns)) c → c ≤ ns.length → (∀ b o, s.heap.get? b = some o → h'.get? b = some o) → Q (.ref s.heap.objs.size) { s with heap := h', toks := tk }) :
    wpAny (model P w) A (call (.type "set") [.ref l]) Q E s := by
  have hisz : ns.length = items.size := by rw [← StrsAre.len_eq hit, Array.length_toList]
  obtain ⟨c, tl, hmro⟩ := PySem.F.called_set.mro
  have hmade := PySem.F.called_set.made
  have hsub := PySem.F.called_set.sub
  refine wpAny_call (codeAny_of_tree ?_)
  show wpAny _ _ (callAny (.type "set") _) _ _ _
  refine wpAny_pure ⟨Code.quiet_builtin _ (by decide +kernel), codeAny_builtin PySem.F.entry_type_call ?_⟩
  rw [Around.under_plain (weight_type_call_type "set" [.ref l] []) rfl]
  have h1 := PySem.F.called_set.notType
  have h2 := PySem.F.called_set.canCreate
  have hct := PySem.F.typeCall_set_1 (.ref l)
  repeat (any_goals (first | assumption | wp_step))

  refine codeAny_mono (code_set_led1 (.ref l) (E := E) (Q₁ := fun obj s₁ => obj = .ref s.heap.objs.size ∧ s₁ = { s with heap := s.heap.push (newSet w) }) ⟨rfl, rfl⟩) fun r s₁ hr => ?_
  cases r with
  | error e => exact hr
  | ok fl =>
    cases fl with
    | ret obj =>
      obtain ⟨rfl, rfl⟩ := hr
      have hS : (s.heap.push (newSet w)).get? s.heap.objs.size = some (newSet w) := Heap.get?_push_size _ rfl
      have hT : Shared.TypeIs { s with heap := s.heap.push (newSet w) } (.ref s.heap.objs.size) "set" := ⟨_, hS, rfl⟩
      have hli := PySem.F.called_set.init.lookup
      have hbi := PySem.F.called_set.init.bind (.ref s.heap.objs.size)
      repeat (any_goals (first | assumption | wp_step))

      refine codeAny_mono (codeAny_call_builtin (R := wants (fun r s₂ => r = .none ∧ ∃ h' tk c, s₂ = { s with heap := h', toks := tk } ∧ StS w h' s.heap.objs.size (fun j => decide (j ∈ ns)) c ∧ c ≤ ns.length ∧
          (∀ b o, s.heap.get? b = some o → h'.get? b = some o)) E) PySem.F.called_set.init.plain PySem.F.entry_set_init (check_set_init_1 hT ?_)) fun r₂ s₂ hr₂ => ?_
      · obtain ⟨ol, hol, hcl, nl, hdl⟩ := hl
        obtain ⟨ocls, odict, odata, oslots⟩ := ol
        simp only at hcl hdl
        subst hcl; subst hdl
        have hol' : (s.heap.push (newSet w)).get? l = some { cls := .type "list", dict := odict, data := .seq items nl, slots := oslots } := Heap.get?_push_of_some _ hol
        have hsls := PySem.F.sub_list_set
        have hslf := PySem.F.sub_list_frozenset
        have hne : (Value.type "list" == Value.type "dict") = false := by decide
        have hl1 : (s.heap.push (newSet w)).IsList l items := ⟨_, hol', rfl, nl, rfl⟩
        unfold Builtin.«set.__init__» noKeywords Builtin.Frozenset.updateFrom
        generalize hPI : pyIter = PI
        wp_walk
        subst hPI

        refine wpAny_pyIter_list hl1 (wpAny_bind (wpAny_runValue ?_))
        have hlS : l < s.heap.objs.size := Heap.lt_size hol
        have hh3 : A.in1.in1.in1.handled = none := by simp [hh]
        have hz : (s.heap.push (newSet w)).objs.size = s.heap.objs.size + 1 := Heap.size_push ..
        have hneI : l ≠ (s.heap.push (newSet w)).objs.size := by rw [Heap.size_push]; exact Nat.ne_of_lt (Nat.lt_succ_of_lt hlS)
        have hSf : s.heap.objs.size ∉ [(s.heap.push (newSet w)).objs.size, l] := by
          simp only [List.mem_cons, List.not_mem_nil, or_false, not_or]
          exact ⟨by rw [Heap.size_push]; exact Nat.ne_of_lt (Nat.lt_succ_self _), Nat.ne_of_gt hlS⟩
        have hval : ∀ (i : Nat) (v : Value), items[i]? = some v → ∃ k t, ns[i]? = some k ∧ v = .str k t := fun i v hv => by
          have hi : i < ns.length := by rw [hisz]; exact (Array.getElem?_eq_some_iff.mp hv).1
          obtain ⟨t, e⟩ := SS.strs_at hit i v (by rw [Array.getElem?_toList]; exact hv)
          refine ⟨ns[i], t, List.getElem?_eq_getElem hi, ?_⟩
          rw [e, List.getD_eq_getElem?_getD, List.getElem?_eq_getElem hi] <;> rfl
        refine stS_loop ((Walks.list hh3 _ l hneI items).toS) s.heap.objs.size hSf ns hisz.symm hb hval (items.size - 0) 0 _ (by omega) (Nat.zero_le _)
          ⟨⟨_, Heap.get?_push_size _ rfl, rfl, rfl⟩, (hl1.push _)⟩ ⟨0, Nat.le_refl 0, stS_fresh (Heap.get?_push_of_some _ hS)⟩ fun s' c' hm hc' hS' => ?_
        obtain ⟨h', g2, d', tk', os'⟩ := s'
        have eg : g2 = s.gens := hm.gens
        have ed : d' = s.drawn := hm.drawn
        have eo : os' = s.os := hm.os
        subst eg; subst ed; subst eo
        show wpAny _ _ _ _ _ _
        refine wpAny_pure ?_
        show wpAny _ _ (PySem.ret Value.none) _ _ _
        refine wpAny_pure ⟨rfl, h', tk', c', rfl, hS', by rw [hisz]; exact hc', fun b o e => ?_⟩
        have hb0 : b < s.heap.objs.size := Heap.lt_size e
        exact hm.heap b o (by simp only [List.mem_cons, List.not_mem_nil, or_false, not_or]; exact ⟨Nat.ne_of_lt hb0, by rw [Heap.size_push]; exact Nat.ne_of_lt (Nat.lt_succ_of_lt hb0)⟩) (Heap.get?_push_of_some _ (Heap.get?_push_of_some _ e))

      · cases r₂ with
        | error e => exact hr₂
        | ok fl₂ =>
          cases fl₂ with
          | ret r =>
            obtain ⟨rfl, h', tk, c', rfl, hS', hc', hk'⟩ := hr₂
            repeat (any_goals (first | assumption | wp_step))
            exact h _ _ _ hS' hc' hk'
          | _ => exact hr₂.elim
    | _ => exact hr.elim
set_option maxHeartbeats 3200000 in
/-- set(l), l a tuple of texts -/
theorem call_setST {l : Addr} {items : Array Value} (ns : List Str) {Q : Value → Shared → Prop} (hh : A.handled = none) (hl : s.heap.IsTuple l items) (hit : StrsAre items.toList ns) (hb : ns.length + 1 < scanBound)
    (h : ∀ (h' : Heap) (tk c : Nat), StS w h' s.heap.objs.size (fun j => decide (j ∈ ns)) c → c ≤ ns.length → (∀ b o, s.heap.get? b = some o → h'.get? b = some o) → Q (.ref s.heap.objs.size) { s with heap := h', toks := tk }) :
    wpAny (model P w) A (call (.type "set") [.ref l]) Q E s := by
  have hisz : ns.length = items.size := by rw [← StrsAre.len_eq hit, Array.length_toList]
  obtain ⟨c, tl, hmro⟩ := PySem.F.called_set.mro
  have hmade := PySem.F.called_set.made
  have hsub := PySem.F.called_set.sub
  refine wpAny_call (codeAny_of_tree ?_)
  show wpAny _ _ (callAny (.type "set") _) _ _ _
  refine wpAny_pure ⟨Code.quiet_builtin _ (by decide +kernel), codeAny_builtin PySem.F.entry_type_call ?_⟩
  rw [Around.under_plain (weight_type_call_type "set" [.ref l] []) rfl]
  have h1 := PySem.F.called_set.notType
  have h2 := PySem.F.called_set.canCreate
  have hct := PySem.F.typeCall_set_1 (.ref l)
  repeat (any_goals (first | assumption | wp_step))

  refine codeAny_mono (code_set_led1 (.ref l) (E := E) (Q₁ := fun obj s₁ => obj = .ref s.heap.objs.size ∧ s₁ = { s with heap := s.heap.push (newSet w) }) ⟨rfl, rfl⟩) fun r s₁ hr => ?_
  cases r with
  | error e => exact hr
  | ok fl =>
    cases fl with
    | ret obj =>
      obtain ⟨rfl, rfl⟩ := hr
      have hS : (s.heap.push (newSet w)).get? s.heap.objs.size = some (newSet w) := Heap.get?_push_size _ rfl
      have hT : Shared.TypeIs { s with heap := s.heap.push (newSet w) } (.ref s.heap.objs.size) "set" := ⟨_, hS, rfl⟩
      have hli := PySem.F.called_set.init.lookup
      have hbi := PySem.F.called_set.init.bind (.ref s.heap.objs.size)
      repeat (any_goals (first | assumption | wp_step))

      refine codeAny_mono (codeAny_call_builtin (R := wants (fun r s₂ => r = .none ∧ ∃ h' tk c, s₂ = { s with heap := h', toks := tk } ∧ StS w h' s.heap.objs.size (fun j => decide (j ∈ ns)) c ∧ c ≤ ns.length ∧
          (∀ b o, s.heap.get? b = some o → h'.get? b = some o)) E) PySem.F.called_set.init.plain PySem.F.entry_set_init (check_set_init_1 hT ?_)) fun r₂ s₂ hr₂ => ?_
      · obtain ⟨ol, hol, hcl, nl, hdl⟩ := hl
        obtain ⟨ocls, odict, odata, oslots⟩ := ol
        simp only at hcl hdl
        subst hcl; subst hdl
        have hol' : (s.heap.push (newSet w)).get? l = some { cls := .type "tuple", dict := odict, data := .seq items nl, slots := oslots } := Heap.get?_push_of_some _ hol
        have hsls := PySem.F.sub_tuple_set
        have hslf := PySem.F.sub_tuple_frozenset
        have hne : (Value.type "tuple" == Value.type "dict") = false := by decide
        have hl1 : (s.heap.push (newSet w)).IsTuple l items := ⟨_, hol', rfl, nl, rfl⟩
        unfold Builtin.«set.__init__» noKeywords Builtin.Frozenset.updateFrom
        generalize hPI : pyIter = PI
        wp_walk
        subst hPI

        refine wpAny_pyIter_tuple hl1 (wpAny_bind (wpAny_runValue ?_))
        have hlS : l < s.heap.objs.size := Heap.lt_size hol
        have hh3 : A.in1.in1.in1.handled = none := by simp [hh]
        have hz : (s.heap.push (newSet w)).objs.size = s.heap.objs.size + 1 := Heap.size_push ..
        have hneI : l ≠ (s.heap.push (newSet w)).objs.size := by rw [Heap.size_push]; exact Nat.ne_of_lt (Nat.lt_succ_of_lt hlS)
        have hSf : s.heap.objs.size ∉ [(s.heap.push (newSet w)).objs.size, l] := by
          simp only [List.mem_cons, List.not_mem_nil, or_false, not_or]
          exact ⟨by rw [Heap.size_push]; exact Nat.ne_of_lt (Nat.lt_succ_self _), Nat.ne_of_gt hlS⟩
        have hval : ∀ (i : Nat) (v : Value), items[i]? = some v → ∃ k t, ns[i]? = some k ∧ v = .str k t := fun i v hv => by
          have hi : i < ns.length := by rw [hisz]; exact (Array.getElem?_eq_some_iff.mp hv).1
          obtain ⟨t, e⟩ := SS.strs_at hit i v (by rw [Array.getElem?_toList]; exact hv)
          refine ⟨ns[i], t, List.getElem?_eq_getElem hi, ?_⟩
          rw [e, List.getD_eq_getElem?_getD, List.getElem?_eq_getElem hi] <;> rfl
        refine stS_loop ((Walks.tuple hh3 _ l hneI items).toS) s.heap.objs.size hSf ns hisz.symm hb hval (items.size - 0) 0 _ (by omega) (Nat.zero_le _)
          ⟨⟨_, Heap.get?_push_size _ rfl, rfl, rfl⟩, (hl1.push _)⟩ ⟨0, Nat.le_refl 0, stS_fresh (Heap.get?_push_of_some _ hS)⟩ fun s' c' hm hc' hS' => ?_
        obtain ⟨h', g2, d', tk', os'⟩ := s'
        have eg : g2 = s.gens := hm.gens
        have ed : d' = s.drawn := hm.drawn
        have eo : os' = s.os := hm.os
        subst eg; subst ed; subst eo
        show wpAny _ _ _ _ _ _
        refine wpAny_pure ?_
        show wpAny _ _ (PySem.ret Value.none) _ _ _
        refine wpAny_pure ⟨rfl, h', tk', c', rfl, hS', by rw [hisz]; exact hc', fun b o e => ?_⟩
        have hb0 : b < s.heap.objs.size := Heap.lt_size e
        exact hm.heap b o (by simp only [List.mem_cons, List.not_mem_nil, or_false, not_or]; exact ⟨Nat.ne_of_lt hb0, by rw [Heap.size_push]; exact Nat.ne_of_lt (Nat.lt_succ_of_lt hb0)⟩) (Heap.get?_push_of_some _ (Heap.get?_push_of_some _ e))

      · cases r₂ with
        | error e => exact hr₂
        | ok fl₂ =>
          cases fl₂ with
          | ret r =>
            obtain ⟨rfl, h', tk, c', rfl, hS', hc', hk'⟩ := hr₂
            repeat (any_goals (first | assumption | wp_step))
            exact h _ _ _ hS' hc' hk'
          | _ => exact hr₂.elim
    | _ => exact hr.elim
end
/-! ### sorted -/
theorem vstrs_of : ∀ (l : List Value), (∀ v ∈ l, ∃ k tk, v = Value.str k tk) → ∃ ns, StrsAre l ns
  | [], _ => ⟨[], .nil⟩
  | v :: l, h => by
    obtain ⟨k, tk, rfl⟩ := h v List.mem_cons_self
    obtain ⟨ns, x⟩ := vstrs_of l fun u hu => h u (List.mem_cons_of_mem _ hu)
    exact ⟨k :: ns, .cons k tk x⟩
def strV : Value → Str
  | .str k _ => k
  | _ => Str.empty
theorem strs_are : ∀ {l : List Value} {ns : List Str}, StrsAre l ns → ns = l.map strV
  | _, _, .nil => rfl
  | _, _, .cons n t h => by
    rw [List.map_cons, ← strs_are h]; rfl
section
variable {P : Program} {w : World} {A : Around} {E : Value → Shared → Prop} {s : Shared} {a : Addr} {S : Str → Bool} {n : Nat}
theorem sorted_stS {Q : Value → Shared → Prop} (R : StS w s.heap a S n) (hh : A.handled = none) (hz : n ≤ 4000)
    (hQ : ∀ s' p (out : Array Value) (c : Nat) (ys : List Str), (∀ b o, s.heap.get? b = some o → s'.heap.get? b = some o) → s'.gens = s.gens → s'.os = s.os → s.heap.objs.size ≤ p →
      s'.heap.get? p = some (seqObj "list" out c) → StrsAre out.toList ys → sortedS ys = true → ys.Nodup → (∀ k, k ∈ ys ↔ S k = true) → ys.length = n → Q (.ref p) s') :
    wpAny (model P w) A (call (.builtin "sorted") [.ref a]) Q E s := by
  obtain ⟨o, es, ep, t, ho, T⟩ := R
  refine Calls.call_function_entry kind_sorted plain_sorted entry_sorted (args_sorted1 _) ?_
  unfold Builtin.«sorted»
  refine wpAny_bind (m := checkCount "sorted" 1 1 _) (wpAny_pure ?_)
  refine wpAny_bind (collect_set (A := A.in1) hh ⟨o, ho, T.ex.1, T.d⟩ T.f T.b T.r T.l fun s1 vs k1 hz1 g1 o1 pm => ?_)
  have hvl : vs.length = n := by rw [pm.length_eq, List.length_map, Array.length_toList]; exact T.n
  obtain ⟨ks, hK⟩ := vstrs_of vs fun v hv => by
    obtain ⟨e, he, q⟩ := List.mem_map.mp (pm.mem_iff.mp hv)
    obtain ⟨k, tk, h1, _⟩ := T.g e he
    exact ⟨k, tk, by rw [← q]; exact h1⟩
  have pk : ks.Perm (es.toList.map keyS) := by
    have q := pm.map strV
    rw [List.map_map, ← strs_are hK] at q
    exact q
  have hsl : vs.length ≤ sizeLine := by rw [hvl, sizeLine_eq]; omega
  refine wpAny_bind (wpAny_newList ?_ hsl)
  have hoL : (s1.heap.push (seqObj "list" vs.toArray 0)).get? s1.heap.objs.size = some (seqObj "list" vs.toArray 0) := Heap.get?_push_size _ rfl
  refine wpAny_bind (wpAny_holding (wpAny_call_entry slot_list_sort ⟨_, hoL, rfl⟩ entry_list_sort
    (list_sort_treeKAny strKind_oneLt hoL hK.keysOf (fun v₁ v₂ rest e => keyKind_strs (by rw [← e]; exact hK)) hsl fun st' hp hs => ⟨_, rfl, ?_⟩) (args_list_sort _)))
  obtain ⟨ys, g1', g2', g3'⟩ := sorted_out_str hK hp hs
  obtain ⟨c, hc⟩ := sortedHeap_at (vs := vs) (out := (arrOf st').map (·.2)) hoL
  have pn : ys.Perm (es.toList.map keyS) := g2'.trans pk
  refine wpAny_pure ⟨_, rfl, hQ _ s1.heap.objs.size _ c ys (fun b u e => ?_) g1 o1 hz1 hc g1' g3' (pn.nodup_iff.mpr T.nd) (fun k => by rw [pn.mem_iff, ← T.m k]) (by rw [pn.length_eq, List.length_map, Array.length_toList]; exact T.n)⟩
  have q := k1 b u e
  have hlt := Heap.lt_size q
  show (sortedHeap (s1.heap.push (seqObj "list" vs.toArray 0)) s1.heap.objs.size vs _).get? b = some u
  rw [sortedHeap_old (Nat.ne_of_lt hlt) (by rw [size_push']; exact Nat.lt_succ_of_lt hlt)]
  exact Heap.get?_push_of_some _ q
end
end PL
/-! PL29: sorted(set(texts)) as data; enumerate of pairs from a number. -/
namespace PL
open PySem PySem.Spec PyProof.Rows L2
/-! ### plain: sorted, without doubles -/
def insS (w : List Nat) : List (List Nat) → List (List Nat)
  | [] => [w]
  | x :: l => if w < x then w :: x :: l else if x < w then x :: insS w l else x :: l
def srt (ts : List (List Nat)) : List (List Nat) := ts.foldr insS []
theorem lt_tri {a b : List Nat} (h1 : ¬ a < b) (h2 : ¬ b < a) : a = b := List.le_antisymm (List.not_lt.mp h2) (List.not_lt.mp h1)
theorem insS_mem (w : List Nat) : ∀ (l : List (List Nat)) (v : List Nat), v ∈ insS w l ↔ v = w ∨ v ∈ l
  | [], v => by simp [insS]
  | x :: l, v => by
    unfold insS
    split
    · simp
    · split
      · rw [List.mem_cons, insS_mem w l v, List.mem_cons]
        constructor
        · rintro (h | h | h)
          · exact .inr (.inl h)
          · exact .inl h
          · exact .inr (.inr h)
        · rintro (h | h | h)
          · exact .inr (.inl h)
          · exact .inl h
          · exact .inr (.inr h)
      · rename_i h1 h2
        have e := lt_tri h1 h2
        subst e
        simp
theorem insS_asc (w : List Nat) : ∀ (l : List (List Nat)), l.Pairwise (· < ·) → (insS w l).Pairwise (· < ·)
  | [], _ => by simp [insS]
  | x :: l, h => by
    obtain ⟨h1, h2⟩ := List.pairwise_cons.1 h
    unfold insS
    split
    · rename_i hw
      exact List.pairwise_cons.2 ⟨fun v hv => by
        rcases List.mem_cons.1 hv with rfl | hv
        · exact hw
        · exact List.lt_trans hw (h1 v hv), h⟩
    · split
      · rename_i hx
        refine List.pairwise_cons.2 ⟨fun v hv => ?_, insS_asc w l h2⟩
        rcases (insS_mem w l v).1 hv with rfl | hv
        · exact hx
        · exact h1 v hv
      · exact h
theorem srt_mem (ts : List (List Nat)) (v : List Nat) : v ∈ srt ts ↔ v ∈ ts := by
  induction ts with
  | nil => simp [srt]
  | cons t ts ih =>
    show v ∈ insS t (srt ts) ↔ _
    rw [insS_mem, ih, List.mem_cons]
theorem srt_asc (ts : List (List Nat)) : (srt ts).Pairwise (· < ·) := by
  induction ts with
  | nil => exact List.Pairwise.nil
  | cons t ts ih => exact insS_asc t _ ih
theorem asc_uniq : ∀ {xs ys : List (List Nat)}, xs.Pairwise (· < ·) → ys.Pairwise (· < ·) → (∀ v, v ∈ xs ↔ v ∈ ys) → xs = ys
  | [], [], _, _, _ => rfl
  | [], y :: ys, _, _, h => absurd ((h y).2 List.mem_cons_self) (by simp)
  | x :: xs, [], _, _, h => absurd ((h x).1 List.mem_cons_self) (by simp)
  | x :: xs, y :: ys, hx, hy, h => by
    obtain ⟨x1, x2⟩ := List.pairwise_cons.1 hx
    obtain ⟨y1, y2⟩ := List.pairwise_cons.1 hy
    have e : x = y := by
      rcases List.mem_cons.1 ((h x).1 List.mem_cons_self) with e | e
      · exact e
      · rcases List.mem_cons.1 ((h y).2 List.mem_cons_self) with e2 | e2
        · exact e2.symm
        · exact absurd (List.lt_trans (y1 x e) (x1 y e2)) (List.lt_irrefl _)
    subst e
    rw [asc_uniq x2 y2 fun v => ?_]
    constructor
    · intro hv
      rcases List.mem_cons.1 ((h v).1 (List.mem_cons_of_mem _ hv)) with e | e
      · exact absurd (x1 v hv) (by rw [e]; exact List.lt_irrefl _)
      · exact e
    · intro hv
      rcases List.mem_cons.1 ((h v).2 (List.mem_cons_of_mem _ hv)) with e | e
      · exact absurd (y1 v hv) (by rw [e]; exact List.lt_irrefl _)
      · exact e
theorem insS_len (w : List Nat) : ∀ l, (insS w l).length ≤ l.length + 1
  | [] => by simp [insS]
  | x :: l => by
    unfold insS
    split
    · simp
    · split
      · have := insS_len w l
        simp; omega
      · simp
theorem srt_len (ts : List (List Nat)) : (srt ts).length ≤ ts.length := by
  induction ts with
  | nil => exact Nat.le_refl _
  | cons t ts ih =>
    have := insS_len t (srt ts)
    show (insS t (srt ts)).length ≤ _
    rw [List.length_cons]; omega
theorem srt_ne {ts : List (List Nat)} (h : ts ≠ []) : srt ts ≠ [] := fun z => by
  cases ts with
  | nil => exact h rfl
  | cons t ts =>
    have := (srt_mem (t :: ts) t).2 List.mem_cons_self
    rw [z] at this
    cases this
/-! ### the kit's readings -/
def StO (w : World) (a : Addr) (S : Str → Bool) (n : Nat) : HO := .ext fun h => StS w h a S n
theorem stO_new {w : World} {P : Program} {H : Hp} {h : Heap} {a : Addr} {S : Str → Bool} {n : Nat} (R : StS w h a S n) : ObjOk P w H h a (StO w a S n) := by
  have ⟨o, _, _, _, ho, _⟩ := R
  exact ⟨R, ⟨o, ho⟩, fun h1 h2 p k => StS.at p k⟩
section
variable {X : Cx} {W : WX}
def rStr (X : Cx) : List V → Hp → VK → Prop := fun xs H Q => ∃ (a : Addr) (ks : List Str), xs = [V.ref a] ∧ (SqL X.K H a (ks.map V.str) ∨ SqT X.K H a (ks.map V.str)) ∧ ks.length ≤ 4000 ∧
  ∀ p n, n ≤ ks.length → H p = none → Q (.ref p) (upd H p (StO X.w p (fun j => decide (j ∈ ks)) n))
theorem cr_setS (hc : X.calm = true) : CallR X (.type "set") (rStr X) := by
  intro pins s σ H xs us Q I r h
  obtain ⟨a, ks, rfl, hs, hz, q⟩ := h
  rw [Vals.ref1 r]
  have hb : ks.length + 1 < scanBound := by unfold scanBound; omega
  have fin : ∀ (h' : Heap) (tk c : Nat), StS X.w h' s.heap.objs.size (fun j => decide (j ∈ ks)) c → c ≤ ks.length → (∀ b o, s.heap.get? b = some o → h'.get? b = some o) → EP X pins σ Q (.ref s.heap.objs.size) { s with heap := h', toks := tk } := fun h' tk c R hcl k =>
    ⟨.ref s.heap.objs.size, upd H s.heap.objs.size (StO X.w s.heap.objs.size (fun j => decide (j ∈ ks)) c), I.laid (t' := tk) k (Nat.le_refl _) (stO_new R), rfl, q _ c hcl (I.hok.fresh (Nat.le_refl _))⟩
  rcases hs with hs | hs
  · obtain ⟨its, rv, pl, _⟩ := I.list hs
    exact call_setS ks (I.ok.hd hc) pl.isList rv.strs hb fin
  · obtain ⟨its, rv, pl, _⟩ := I.tuple hs
    exact call_setST ks (I.ok.hd hc) pl rv.strs hb fin
def rSortS (X : Cx) : List V → Hp → VK → Prop := fun xs H Q => ∃ (a : Addr) (S : Str → Bool) (n : Nat), xs = [V.ref a] ∧ H a = some (StO X.w a S n) ∧ n ≤ 4000 ∧
  ∀ (ys : List Str) (p : Addr), sortedS ys = true → ys.Nodup → (∀ k, k ∈ ys ↔ S k = true) → ys.length = n → H p = none → Q (.ref p) (upd H p (.lst (ys.map V.str)))
theorem cr_sortSt (hc : X.calm = true) : CallR X (.builtin "sorted") (rSortS X) := by
  intro pins s σ H xs us Q I r h
  obtain ⟨a, S, n, rfl, ha, hz, q⟩ := h
  have R : StS X.w s.heap a S n := (I.hok a _ ha).1
  rw [Vals.ref1 r]
  refine sorted_stS R (I.ok.hd hc) hz fun s' p out c ys k g o hp hg hi hs hnd hm hl => ?_
  have hlen : (ys.map V.str).length ≤ sizeLine := by rw [List.length_map, hl, sizeLine_eq]; omega
  have hn : H p = none := I.hok.fresh hp
  have J : Inv X pins σ (upd H p (.lst (ys.map V.str))) { s with heap := s'.heap, gens := s'.gens, drawn := s'.drawn, toks := s'.toks } :=
    I.call (ch := []) (Un.laid k hp hn) (I.hok.laid k hp ⟨hlen, out.toList, c, vals_of_strs hi, by rw [Array.toArray_toList]; exact hg⟩) (by rw [g]; exact I.bare) (fun _ z => nomatch z)
  have e : s' = { s with heap := s'.heap, gens := s'.gens, drawn := s'.drawn, toks := s'.toks } := by
    cases s'
    cases s
    cases o
    rfl
  rw [e]
  exact ⟨.ref p, _, J, rfl, q ys p hs hnd hm hl hn⟩
theorem sorted_asc : ∀ {ys : List Str}, sortedS ys = true → ys.Nodup → (ys.map fun y => y.cps.toList).Pairwise (· < ·)
  | [], _, _ => List.Pairwise.nil
  | x :: ys, h, hn => by
    obtain ⟨h1, h2⟩ := List.nodup_cons.1 hn
    have step : ∀ (x : Str) (ys : List Str), risingS x ys = true → x ∉ ys → ys.Nodup → (x.cps.toList :: ys.map fun y => y.cps.toList).Pairwise (· < ·) := by
      intro x ys
      induction ys generalizing x with
      | nil => exact fun _ _ _ => List.pairwise_cons.2 ⟨fun _ z => (List.not_mem_nil z).elim, List.Pairwise.nil⟩
      | cons y ys ih =>
        intro hr hx hnd
        obtain ⟨n1, n2⟩ := List.nodup_cons.1 hnd
        have hr : (!ltCps y.cps.toList x.cps.toList && risingS y ys) = true := hr
        rw [Bool.and_eq_true, Bool.not_eq_true', ltCps_eq, decide_eq_false_iff_not] at hr
        have q := ih y hr.2 n1 n2
        have hxy : x.cps.toList < y.cps.toList := by
          by_cases z : x.cps.toList < y.cps.toList
          · exact z
          · have e := lt_tri z hr.1
            have : x = y := by
              obtain ⟨⟨a⟩⟩ := x
              obtain ⟨⟨b⟩⟩ := y
              have e : a = b := e
              rw [e]
            exact absurd (by rw [this]; exact List.mem_cons_self) hx
        refine List.pairwise_cons.2 ⟨fun v hv => ?_, q⟩
        rw [List.map_cons] at hv
        rcases List.mem_cons.1 hv with rfl | hv
        · exact hxy
        · exact List.lt_trans hxy ((List.pairwise_cons.1 q).1 v hv)
    exact step x ys h h1 h2
theorem toS_cps (s : Str) : toS s.cps.toList = s := by
  obtain ⟨⟨a⟩⟩ := s
  rfl
/-- sorted(set(e)), the members texts -/
noncomputable def sSS (m : Bool) (f : Env → M D) : Env → M D := fun ρ => bnd (f ρ) fun d st => match (viewS st d).bind asStrs with
  | some ts => if ts.length ≤ 4000 then mkL m ((srt ts).map .str) st else .bad
  | none => .bad
theorem de_sortSet (m : Bool) {f : Env → M D} {x y : Str} {e : Expr} {p p2 pos pos2 : Pos} (hc : X.calm = true) (hx : x = "sorted") (hy : y = "set") (hg : Gl X x) (hm : X.mg x = none) (hg2 : Gl X y) (hm2 : X.mg y = none) (he : DE X W e f)
    (h1 : starEach [e] X.env = (false, eval e X.env) :: starEach [] X.env := by rfl)
    (h2 : starEach [.Call (.Name y p2) [e] [] pos2] X.env = (false, eval (.Call (.Name y p2) [e] [] pos2) X.env) :: starEach [] X.env := by rfl) :
    DE X W (.Call (.Name x p) [.Call (.Name y p2) [e] [] pos2] [] pos) (sSS m f) := by
  subst hx
  subst hy
  have hset := pe_callTy (cr_setS hc) hg2 hm2 (by decide +kernel) (pa_cons he pa_nil h1) (p := p2) (pos := pos2) (by decide) (by decide) h1
  refine (pe_callB (cr_sortSt hc) hg hm (by decide +kernel) (pa_cons hset pa_nil h2) (p := p) (pos := pos) (by decide) (by decide) h2).imp fun σ H Q h => ?_
  refine (tX.seq0 (R1 := Rep X.K) h).imp fun v H1 ⟨d, h1⟩ => ?_
  obtain ⟨w, ρ, rfl, ok, re, ⟨_, r1⟩, q⟩ := h1
  cases ev : (viewS w.st d).bind asStrs with
  | none => simp only [ev] at q; exact q.elim
  | some ts =>
    simp only [ev] at q
    obtain ⟨ds, ed, es⟩ := Option.bind_eq_some_iff.1 ev
    have ex := asStrs_eq es
    subst ex
    obtain ⟨a, vs, rfl, h2, h3⟩ := viewS_rep ok ed r1
    rw [Reps.strs h3] at h2
    by_cases hz : ts.length ≤ 4000
    · rw [if_pos hz] at q
      have hmem : ∀ (j : Str), decide (j ∈ ts.map toS) = true ↔ j.cps.toList ∈ ts := fun j => by
        rw [decide_eq_true_eq, List.mem_map]
        constructor
        · rintro ⟨t, ht, rfl⟩
          rw [toS_list]; exact ht
        · exact fun h => ⟨_, h, toS_cps j⟩
      refine ⟨a, ts.map toS, rfl, h2, by rw [List.length_map]; exact hz, fun p n hn hp => ?_⟩
      refine ⟨p, _, n, rfl, upd_same, by rw [List.length_map] at hn; omega, fun ys p2 hs hnd hm' hl hp2 => ?_⟩
      have ok1 := ok.new (o := StO X.w p (fun j => decide (j ∈ ts.map toS)) n) hp
      have g1 := Grow.new (o := StO X.w p (fun j => decide (j ∈ ts.map toS)) n) ok hp
      have eys : ys = (srt ts).map toS := by
        have : (ys.map fun y => y.cps.toList) = srt ts := asc_uniq (sorted_asc hs hnd) (srt_asc ts) fun v => by
          rw [srt_mem, List.mem_map]
          constructor
          · rintro ⟨y, hy, rfl⟩
            exact (hmem y).1 ((hm' y).1 hy)
          · intro hv
            refine ⟨toS v, (hm' _).2 ((hmem _).2 (by rw [toS_list]; exact hv)), toS_list v⟩
        rw [← this, List.map_map]
        refine (List.map_id'' (fun y => ?_) ys).symm
        exact toS_cps y
      rw [eys]
      refine mk_list (X := X) (W := W) (w := w.put p (StO X.w p (fun j => decide (j ∈ ts.map toS)) n)) ok1 (xs := (srt ts).map D.str) ?_ (q.grow g1) p2 hp2
      have : ∀ l : List (List Nat), Reps X.K (w.put p (StO X.w p (fun j => decide (j ∈ ts.map toS)) n)) (l.map D.str) ((l.map toS).map V.str) := fun l => by
        induction l with
        | nil => exact reps_nil
        | cons t l ih => exact reps_cons (show V.str (toS t) = V.str (toS t) from rfl) ih
      exact this _
    · rw [if_neg hz] at q
      exact q.elim
@[simp] theorem wp_sortSet {X : Exc → Store → Prop} {ρ : Env} {st : Store} {Q : D → Store → Prop} (m : Bool) (f : Env → M D) : wp (sSS m f ρ st) X Q = wp (f ρ st) X fun d st1 => match (viewS st1 d).bind asStrs with
    | some ts => if ts.length ≤ 4000 then wp (mkL m ((srt ts).map .str) st1) X Q else False
    | none => False := by
  unfold sSS bnd
  cases f ρ st with
  | bad => rfl
  | exc e st1 => rfl
  | ok d st1 =>
    show wp (match (viewS st1 d).bind asStrs with | some ts => if ts.length ≤ 4000 then mkL m ((srt ts).map .str) st1 else .bad | none => .bad) X Q = match (viewS st1 d).bind asStrs with | some ts => if ts.length ≤ 4000 then wp (mkL m ((srt ts).map .str) st1) X Q else False | none => False
    cases (viewS st1 d).bind asStrs with
    | none => rfl
    | some ts =>
      simp only
      split <;> rfl
end
end PL
set_option maxHeartbeats 1000000
/-! PL30: enumerate(zip(t, u), k) of two tuples, at the library's level. -/
namespace RZ3
open PySem
open PySem.Sem (wp)
open RZ (nextOf_tuple_item nextOf_tuple_end)
/-- a zip, whatever is out -/
abbrev ZipG (h : Heap) (z TI TO : Addr) (c : Value) (f : Bool) : Prop := h.get? z = some { cls := .type "zip", dict := none, data := .fields #[c, .bool f, .bool false, .ref TI, .ref TO], slots := #[] }
def Hand (c : Value) : Prop := c = .none ∨ ∃ T : Addr, c = rawInt T
section
variable {prog : Program} {w : World} {A : Around} {E : Value → Shared → Prop} {s : Shared}
theorem free_zip {z TI TO : Addr} {c : Value} {f : Bool} {Q : Bool → Shared → Prop} (hz : ZipG s.heap z TI TO c f) (hc : Hand c) (ht : Q true s)
    (hf : ∀ h', ZipG h' z TI TO c true → Heap.SameBut z s.heap h' → Q false { s with heap := h' }) : wpAny (model prog w) A (Builtin.SmallTypes.ownedTupleIsFree (.ref z)) Q E s := by
  unfold Builtin.SmallTypes.ownedTupleIsFree
  rcases hc with rfl | ⟨T, rfl⟩
  · exact wpAny_bind (wpAny_field hz rfl (x := .none) rfl (wpAny_pure ht))
  · refine wpAny_bind (wpAny_field hz rfl (x := rawInt T) rfl ?_)
    show wpAny _ _ (loadIfAlive ((T : Int).toNat) >>= _) _ _ _
    refine wpAny_bind (fun _ _ _ => ?_)
    show wpAny _ _ _ _ _ _
    cases s.heap.get? (T : Int).toNat with
    | none => exact wpAny_pure ht
    | some o =>
      simp only [Option.isNone_some, Bool.false_eq_true, if_false]
      refine wpAny_bind (wpAny_field hz rfl (x := .bool f) rfl ?_)
      cases f with
      | true =>
        rw [if_neg (show ¬ ((Value.bool true != Value.bool true) = true) from Bool.false_ne_true)]
        exact wpAny_pure (hf s.heap hz (Heap.SameBut.refl _ _))
      | false =>
        rw [if_pos (show (Value.bool false != Value.bool true) = true from rfl)]
        exact wpAny_bind (wpAny_setField_rec hz (by simp) fun h₁ hz₁ hs₁ => wpAny_pure (hf h₁ hz₁ hs₁))
theorem zip_draw {z TI TO i1 i2 l1 l2 : Addr} {c : Value} {f : Bool} {k1 k2 : Nat} {xs ys : Array Value} {x y a b : Value} {Q : Value → Shared → Prop} (D : ZipApart z TI TO i1 i2 l1 l2)
    (hz : ZipG s.heap z TI TO c f) (hc : Hand c) (hTI : IsPair s.heap TI (.ref i1) (.ref i2)) (hTO : IsPair s.heap TO a b)
    (h1 : s.heap.IsTupleIter i1 l1 k1) (h2 : s.heap.IsTupleIter i2 l2 k2) (hl1 : s.heap.IsTuple l1 xs) (hl2 : s.heap.IsTuple l2 ys) (hx : xs[k1]? = some x) (hy : ys[k2]? = some y)
    (hQ : ∀ h' c' f', ZipG h' z TI TO c' f' → Hand c' → (∃ a b, IsPair h' TO a b) → h'.IsTupleIter i1 l1 (k1 + 1) → h'.IsTupleIter i2 l2 (k2 + 1) → IsPair h' s.heap.objs.size x y → h'.objs.size = s.heap.objs.size + 1 →
      (∀ c o, c ≠ z → c ≠ TO → c ≠ i1 → c ≠ i2 → s.heap.get? c = some o → h'.get? c = some o) → Q (.ref s.heap.objs.size) { s with heap := h' }) :
    wpAny (model prog w) A (Builtin.«zip.__next__» ⟨[.ref z], []⟩) (fun fin s' => ∃ v, fin = .done (.ret v) ∧ Q v s') E s := by
  show wpAny _ _ (field (.ref z) 2 >>= _) _ _ _
  refine wpAny_bind (wpAny_field hz rfl (x := .bool false) rfl ?_)
  show wpAny _ _ (field (.ref z) 3 >>= _) _ _ _
  refine wpAny_bind (wpAny_field hz rfl (x := .ref TI) rfl (wpAny_bind (wpAny_seqItems hTI rfl ?_)))
  show wpAny _ _ (Builtin.SmallTypes.ownedTupleIsFree (.ref z) >>= _) _ _ _
  refine wpAny_bind (free_zip hz hc ?_ fun h₁ hz₁ hs₁ => ?_)
  · -- the kept tuple again
    simp only [if_true]
    refine wpAny_bind (wpAny_rule (wpAny_bind (wpAny_field hz rfl (x := .ref TO) rfl ?_)))
    refine wpAny_bind (wpAny_setField_rec hz (by simp) fun h₁ hz₁ hs₁ => ?_)
    replace hz₁ : ZipG h₁ z TI TO .ellipsis f := hz₁
    refine wpAny_bind ?_
    simp only [List.zipIdx_cons, List.zipIdx_nil, List.forIn_cons, List.forIn_nil]
    refine wpAny_bind (wpAny_bind (wpAny_onRaise ?_))
    show wpAny _ _ (Builtin.SmallTypes.nextOf (.ref i1) >>= _) _ _ _
    refine wpAny_bind (nextOf_tuple_item (h1.extBut hs₁.extBut D.i1z) (hl1.extBut hs₁.extBut D.l1z) hx fun h₂ h1₂ hs₂ => wpAny_pure ?_)
    have hTO₂ : IsPair h₂ TO a b := hs₂.extBut _ _ D.TOi1 (hs₁.extBut _ _ D.TOz hTO)
    refine wpAny_bind (wpAny_seqItems hTO₂ rfl (wpAny_bind (wpAny_updateSeq_pair hTO₂ fun h₃ hTO₃ hs₃ => ?_)))
    replace hTO₃ : IsPair h₃ TO x b := hTO₃
    refine wpAny_bind (wpAny_letGo (wpAny_pure ?_))
    refine wpAny_bind (wpAny_bind (wpAny_onRaise ?_))
    show wpAny _ _ (Builtin.SmallTypes.nextOf (.ref i2) >>= _) _ _ _
    refine wpAny_bind (nextOf_tuple_item (((h2.extBut hs₁.extBut D.i2z).extBut hs₂.extBut D.i12.symm).extBut hs₃.extBut D.TOi2.symm)
      (((hl2.extBut hs₁.extBut D.l2z).extBut hs₂.extBut D.l2i1).extBut hs₃.extBut D.l2TO) hy fun h₄ h2₄ hs₄ => wpAny_pure ?_)
    have hTO₄ : IsPair h₄ TO x b := hs₄.extBut _ _ D.TOi2 hTO₃
    refine wpAny_bind (wpAny_seqItems hTO₄ rfl (wpAny_bind (wpAny_updateSeq_pair hTO₄ fun h₅ hTO₅ hs₅ => ?_)))
    replace hTO₅ : IsPair h₅ TO x y := hTO₅
    refine wpAny_bind (wpAny_letGo (wpAny_pure (wpAny_pure ?_)))
    refine wpAny_bind (wpAny_seqItems hTO₅ rfl (wpAny_bind (wpAny_newTuple ?_)))
    have hsz : h₅.objs.size = s.heap.objs.size := by rw [hs₅.1, hs₄.1, hs₃.1, hs₂.1, hs₁.1]
    have hz₅ : ZipG h₅ z TI TO .ellipsis f := hs₅.extBut _ _ D.TOz.symm (hs₄.extBut _ _ D.i2z.symm (hs₃.extBut _ _ D.TOz.symm (hs₂.extBut _ _ D.i1z.symm hz₁)))
    have hk₅ : ∀ c o, c ≠ z → c ≠ TO → c ≠ i1 → c ≠ i2 → s.heap.get? c = some o → h₅.get? c = some o := fun c o c1 c2 c3 c4 e =>
      hs₅.extBut _ _ c2 (hs₄.extBut _ _ c4 (hs₃.extBut _ _ c2 (hs₂.extBut _ _ c3 (hs₁.extBut _ _ c1 e))))
    have h1₅ : h₅.IsTupleIter i1 l1 (k1 + 1) := ((h1₂.extBut hs₃.extBut D.TOi1.symm).extBut hs₄.extBut D.i12).extBut hs₅.extBut D.TOi1.symm
    have h2₅ : h₅.IsTupleIter i2 l2 (k2 + 1) := h2₄.extBut hs₅.extBut D.TOi2.symm
    have hzlt : z < h₅.objs.size := Heap.lt_size hz₅
    show wpAny _ _ (Builtin.SmallTypes.ownedTupleHandOut (.ref z) (.ref h₅.objs.size) >>= _) _ _ _
    refine wpAny_bind ?_
    unfold Builtin.SmallTypes.ownedTupleHandOut
    have hz₆ : ZipG (h₅.push { cls := .type "tuple", data := .seq #[x, y] }) z TI TO .ellipsis f := Heap.get?_push_of_some _ hz₅
    refine wpAny_bind (wpAny_setField_rec hz₆ (by simp) fun h₇ hz₇ hs₇ => ?_)
    replace hz₇ : ZipG h₇ z TI TO (rawInt h₅.objs.size) f := hz₇
    refine wpAny_setField_rec hz₇ (by simp) fun h₈ hz₈ hs₈ => ?_
    replace hz₈ : ZipG h₈ z TI TO (rawInt h₅.objs.size) false := hz₈
    have up : ∀ c o, c ≠ z → h₅.get? c = some o → h₈.get? c = some o := fun c o c1 e => hs₈.extBut _ _ c1 (hs₇.extBut _ _ c1 (Heap.get?_push_of_some _ e))
    have hT₈ : IsPair h₈ h₅.objs.size x y := hs₈.extBut _ _ (Nat.ne_of_gt hzlt) (hs₇.extBut _ _ (Nat.ne_of_gt hzlt) (Heap.get?_push_size _ rfl))
    have hz8 : h₈.objs.size = h₅.objs.size + 1 := by rw [hs₈.1, hs₇.1, Heap.size_push]
    refine wpAny_pure ⟨_, rfl, ?_⟩
    show Q (.ref h₅.objs.size) _
    rw [hsz] at hT₈ hz8 ⊢
    exact hQ h₈ _ _ hz₈ (.inr ⟨_, rfl⟩) ⟨_, _, up _ _ D.TOz hTO₅⟩ (h1₅.at fun o e => up _ o D.i1z e) (h2₅.at fun o e => up _ o D.i2z e) hT₈ hz8 fun c o c1 c2 c3 c4 e => up c o c1 (hk₅ c o c1 c2 c3 c4 e)
  · -- a new one
    simp only [Bool.false_eq_true, if_false]
    refine wpAny_bind ?_
    rw [← Array.forIn_toList]
    simp only [List.forIn_cons, List.forIn_nil]
    refine wpAny_bind (wpAny_bind (wpAny_holding ?_))
    show wpAny _ _ (Builtin.SmallTypes.nextOf (.ref i1) >>= _) _ _ _
    refine wpAny_bind (nextOf_tuple_item (s := { s with heap := h₁ }) (h1.extBut hs₁.extBut D.i1z) (hl1.extBut hs₁.extBut D.l1z) hx fun h₂ h1₂ hs₂ => wpAny_pure (wpAny_pure ?_))
    refine wpAny_bind (wpAny_bind (wpAny_holding ?_))
    show wpAny _ _ (Builtin.SmallTypes.nextOf (.ref i2) >>= _) _ _ _
    refine wpAny_bind (nextOf_tuple_item (s := { s with heap := h₂ }) ((h2.extBut hs₁.extBut D.i2z).extBut hs₂.extBut D.i12.symm) ((hl2.extBut hs₁.extBut D.l2z).extBut hs₂.extBut D.l2i1) hy fun h₃ h2₃ hs₃ => wpAny_pure ?_)
    refine wpAny_pure (wpAny_pure ?_)
    show wpAny _ _ (newTuple [x, y] >>= _) _ _ _
    refine wpAny_bind (wpAny_newTuple ?_)
    have hsz : h₃.objs.size = s.heap.objs.size := by rw [hs₃.1, hs₂.1, hs₁.1]
    have hz₃ : ZipG h₃ z TI TO c true := hs₃.extBut _ _ D.i2z.symm (hs₂.extBut _ _ D.i1z.symm hz₁)
    have hk : ∀ c o, c ≠ z → c ≠ i1 → c ≠ i2 → s.heap.get? c = some o → h₃.get? c = some o := fun c o c1 c2 c3 e => hs₃.extBut _ _ c3 (hs₂.extBut _ _ c2 (hs₁.extBut _ _ c1 e))
    have h1₃ : h₃.IsTupleIter i1 l1 (k1 + 1) := h1₂.extBut hs₃.extBut D.i12
    refine wpAny_pure ⟨_, rfl, ?_⟩
    show Q (.ref h₃.objs.size) _
    have hp : IsPair (h₃.push { cls := .type "tuple", data := .seq #[x, y] }) h₃.objs.size x y := Heap.get?_push_size _ rfl
    have hz4 : (h₃.push { cls := .type "tuple", data := .seq #[x, y] }).objs.size = h₃.objs.size + 1 := Heap.size_push ..
    rw [hsz] at hp hz4 ⊢
    exact hQ _ _ _ (Heap.get?_push_of_some _ hz₃) hc ⟨a, b, Heap.get?_push_of_some _ (hk _ _ D.TOz D.TOi1 D.TOi2 hTO)⟩ (h1₃.at fun o e => Heap.get?_push_of_some _ e) (h2₃.at fun o e => Heap.get?_push_of_some _ e) hp hz4 fun c o c1 _ c2 c3 e => Heap.get?_push_of_some _ (hk c o c1 c2 c3 e)
theorem zip_over {z TI TO i1 i2 l1 l2 : Addr} {c : Value} {f : Bool} {k1 k2 : Nat} {xs ys : Array Value} {a b : Value} {Q : Fin → Shared → Prop} (hh : A.handled = none) (D : ZipApart z TI TO i1 i2 l1 l2)
    (hz : ZipG s.heap z TI TO c f) (hc : Hand c) (hTI : IsPair s.heap TI (.ref i1) (.ref i2)) (hTO : IsPair s.heap TO a b)
    (h1 : s.heap.IsTupleIter i1 l1 k1) (h2 : s.heap.IsTupleIter i2 l2 k2) (hl1 : s.heap.IsTuple l1 xs) (hl2 : s.heap.IsTuple l2 ys) (hend : xs[k1]? = none ∨ ys[k2]? = none)
    (hE : ∀ h' e, (∀ c o, c ≠ z → c ≠ TO → c ≠ i1 → c ≠ i2 → s.heap.get? c = some o → h'.get? c = some o) → (∃ o, h'.get? e = some o ∧ o.cls = .type "StopIteration") → E (.ref e) { s with heap := h' }) :
    wpAny (model prog w) A (Builtin.«zip.__next__» ⟨[.ref z], []⟩) Q E s := by
  show wpAny _ _ (field (.ref z) 2 >>= _) _ _ _
  refine wpAny_bind (wpAny_field hz rfl (x := .bool false) rfl ?_)
  show wpAny _ _ (field (.ref z) 3 >>= _) _ _ _
  refine wpAny_bind (wpAny_field hz rfl (x := .ref TI) rfl (wpAny_bind (wpAny_seqItems hTI rfl ?_)))
  show wpAny _ _ (Builtin.SmallTypes.ownedTupleIsFree (.ref z) >>= _) _ _ _
  refine wpAny_bind (free_zip hz hc ?_ fun h₁ hz₁ hs₁ => ?_)
  · simp only [if_true]
    refine wpAny_bind (wpAny_rule (wpAny_bind (wpAny_field hz rfl (x := .ref TO) rfl ?_)))
    refine wpAny_bind (wpAny_setField_rec hz (by simp) fun h₁ hz₁ hs₁ => ?_)
    replace hz₁ : ZipG h₁ z TI TO .ellipsis f := hz₁
    refine wpAny_bind ?_
    simp only [List.zipIdx_cons, List.zipIdx_nil, List.forIn_cons, List.forIn_nil]
    refine wpAny_bind (wpAny_bind (wpAny_onRaise ?_))
    show wpAny _ _ (Builtin.SmallTypes.nextOf (.ref i1) >>= _) _ _ _
    cases hx : xs[k1]? with
    | none =>
      refine wpAny_bind (nextOf_tuple_end hh (h1.extBut hs₁.extBut D.i1z) (hl1.extBut hs₁.extBut D.l1z) hx fun h₂ e hs₂ he => ?_)
      obtain ⟨oe, hoe, hce⟩ := he
      have hz₂ : ZipG h₂ z TI TO .ellipsis f := hs₂ _ _ D.i1z.symm hz₁
      have hez : e ≠ z := fun x => by subst x; rw [hz₂] at hoe; cases hoe; simp at hce
      exact wpAny_setField_rec hz₂ (by simp) fun h₃ _ hs₃ => hE h₃ e (fun c o c1 _ c3 _ x => hs₃.extBut _ _ c1 (hs₂ _ _ c3 (hs₁.extBut _ _ c1 x))) ⟨oe, hs₃.extBut _ _ hez hoe, hce⟩
    | some x =>
      have hy : ys[k2]? = none := by rcases hend with h | h; rw [hx] at h; cases h; exact h
      refine wpAny_bind (nextOf_tuple_item (h1.extBut hs₁.extBut D.i1z) (hl1.extBut hs₁.extBut D.l1z) hx fun h₂ h1₂ hs₂ => wpAny_pure ?_)
      have hTO₂ : IsPair h₂ TO a b := hs₂.extBut _ _ D.TOi1 (hs₁.extBut _ _ D.TOz hTO)
      refine wpAny_bind (wpAny_seqItems hTO₂ rfl (wpAny_bind (wpAny_updateSeq_pair hTO₂ fun h₃ hTO₃ hs₃ => ?_)))
      refine wpAny_bind (wpAny_letGo (wpAny_pure (wpAny_bind (wpAny_bind (wpAny_onRaise ?_)))))
      show wpAny _ _ (Builtin.SmallTypes.nextOf (.ref i2) >>= _) _ _ _
      refine wpAny_bind (nextOf_tuple_end hh (((h2.extBut hs₁.extBut D.i2z).extBut hs₂.extBut D.i12.symm).extBut hs₃.extBut D.TOi2.symm)
        (((hl2.extBut hs₁.extBut D.l2z).extBut hs₂.extBut D.l2i1).extBut hs₃.extBut D.l2TO) hy fun h₄ e hs₄ he => ?_)
      obtain ⟨oe, hoe, hce⟩ := he
      have hz₄ : ZipG h₄ z TI TO .ellipsis f := hs₄ _ _ D.i2z.symm (hs₃.extBut _ _ D.TOz.symm (hs₂.extBut _ _ D.i1z.symm hz₁))
      have hez : e ≠ z := fun x => by subst x; rw [hz₄] at hoe; cases hoe; simp at hce
      exact wpAny_setField_rec hz₄ (by simp) fun h₅ _ hs₅ => hE h₅ e (fun c o c1 c2 c3 c4 x => hs₅.extBut _ _ c1 (hs₄ _ _ c4 (hs₃.extBut _ _ c2 (hs₂.extBut _ _ c3 (hs₁.extBut _ _ c1 x))))) ⟨oe, hs₅.extBut _ _ hez hoe, hce⟩
  · simp only [Bool.false_eq_true, if_false]
    refine wpAny_bind ?_
    rw [← Array.forIn_toList]
    simp only [List.forIn_cons, List.forIn_nil]
    refine wpAny_bind (wpAny_bind (wpAny_holding ?_))
    show wpAny _ _ (Builtin.SmallTypes.nextOf (.ref i1) >>= _) _ _ _
    cases hx : xs[k1]? with
    | none =>
      refine wpAny_bind (nextOf_tuple_end (s := { s with heap := h₁ }) hh (h1.extBut hs₁.extBut D.i1z) (hl1.extBut hs₁.extBut D.l1z) hx fun h₂ e hs₂ he => ?_)
      exact hE h₂ e (fun c o c1 _ c2 _ x => hs₂ _ _ c2 (hs₁.extBut _ _ c1 x)) he
    | some x =>
      have hy : ys[k2]? = none := by rcases hend with h | h; rw [hx] at h; cases h; exact h
      refine wpAny_bind (nextOf_tuple_item (s := { s with heap := h₁ }) (h1.extBut hs₁.extBut D.i1z) (hl1.extBut hs₁.extBut D.l1z) hx fun h₂ h1₂ hs₂ => wpAny_pure (wpAny_pure ?_))
      refine wpAny_bind (wpAny_bind (wpAny_holding ?_))
      show wpAny _ _ (Builtin.SmallTypes.nextOf (.ref i2) >>= _) _ _ _
      refine wpAny_bind (nextOf_tuple_end (s := { s with heap := h₂ }) hh ((h2.extBut hs₁.extBut D.i2z).extBut hs₂.extBut D.i12.symm) ((hl2.extBut hs₁.extBut D.l2z).extBut hs₂.extBut D.l2i1) hy fun h₃ e hs₃ he => ?_)
      exact hE h₃ e (fun c o c1 _ c2 c3 x => hs₃ _ _ c3 (hs₂.extBut _ _ c2 (hs₁.extBut _ _ c1 x))) he
end
end RZ3
set_option maxHeartbeats 1000000
/-! PL31: enumerate(zip(t, u), k): its turns. -/
namespace RZ3
open PySem
open PySem.Sem (wp)
section
variable {prog : Program} {w : World} {A : Around} {E : Value → Shared → Prop} {s : Shared}
/-- the zip stands at k, its iterators too -/
structure ZSt (h : Heap) (z TI TO i1 i2 l1 l2 : Addr) (k : Nat) : Prop where
  z : ∃ c f, ZipG h z TI TO c f ∧ Hand c
  ti : IsPair h TI (.ref i1) (.ref i2)
  to : ∃ a b, IsPair h TO a b
  i1 : h.IsTupleIter i1 l1 k
  i2 : h.IsTupleIter i2 l2 k
theorem ZSt.keep {h h' : Heap} {z TI TO i1 i2 l1 l2 : Addr} {k : Nat} (Z : ZSt h z TI TO i1 i2 l1 l2 k) (kp : ∀ b ∈ [z, TI, TO, i1, i2], ∀ o, h.get? b = some o → h'.get? b = some o) : ZSt h' z TI TO i1 i2 l1 l2 k := by
  obtain ⟨⟨c, f, hz, hc⟩, ti, ⟨a, b, to⟩, h1, h2⟩ := Z
  exact ⟨⟨c, f, kp z (by simp) _ hz, hc⟩, kp TI (by simp) _ ti, ⟨a, b, kp TO (by simp) _ to⟩, h1.at fun o q => kp i1 (by simp) o q, h2.at fun o q => kp i2 (by simp) o q⟩
theorem nextOf_zip {z TI TO i1 i2 l1 l2 : Addr} {k : Nat} {xs ys : Array Value} {x y : Value} {Q : Value → Shared → Prop} (D : ZipApart z TI TO i1 i2 l1 l2) (Z : ZSt s.heap z TI TO i1 i2 l1 l2 k)
    (hl1 : s.heap.IsTuple l1 xs) (hl2 : s.heap.IsTuple l2 ys) (hx : xs[k]? = some x) (hy : ys[k]? = some y)
    (hQ : ∀ h', ZSt h' z TI TO i1 i2 l1 l2 (k + 1) → IsPair h' s.heap.objs.size x y → h'.objs.size = s.heap.objs.size + 1 →
      (∀ c o, c ≠ z → c ≠ TO → c ≠ i1 → c ≠ i2 → s.heap.get? c = some o → h'.get? c = some o) → Q (.ref s.heap.objs.size) { s with heap := h' }) :
    wpAny (model prog w) A (Builtin.SmallTypes.nextOf (.ref z)) Q E s := by
  obtain ⟨⟨c, f, hz, hc⟩, ti, ⟨a, b, to⟩, h1, h2⟩ := Z
  have hT : s.TypeIs (.ref z) "zip" := ⟨_, hz, rfl⟩
  unfold Builtin.SmallTypes.nextOf
  exact wpAny_bind (wpAny_callSpecial?_slot (name := Str.ofString "__next__") hT F.slot_zip_next (wpAny_call_entry F.slot_zip_next hT F.entry_zip_next
    (zip_draw D hz hc ti to h1 h2 hl1 hl2 hx hy fun h' c' f' a1 a2 a3 a4 a5 a6 a7 a8 => wpAny_pure (hQ h' ⟨⟨c', f', a1, a2⟩, a8 _ _ D.TIz D.TITO D.TIi1 D.TIi2 ti, a3, a4, a5⟩ a6 a7 a8)) (F.args_zip_next_1 _)))
theorem nextOf_zip_end {z TI TO i1 i2 l1 l2 : Addr} {k : Nat} {xs ys : Array Value} {Q : Value → Shared → Prop} (hh : A.handled = none) (D : ZipApart z TI TO i1 i2 l1 l2) (Z : ZSt s.heap z TI TO i1 i2 l1 l2 k)
    (hl1 : s.heap.IsTuple l1 xs) (hl2 : s.heap.IsTuple l2 ys) (hend : xs[k]? = none ∨ ys[k]? = none)
    (hE : ∀ h' e, (∀ c o, c ≠ z → c ≠ TO → c ≠ i1 → c ≠ i2 → s.heap.get? c = some o → h'.get? c = some o) → (∃ o, h'.get? e = some o ∧ o.cls = .type "StopIteration") → E (.ref e) { s with heap := h' }) :
    wpAny (model prog w) A (Builtin.SmallTypes.nextOf (.ref z)) Q E s := by
  obtain ⟨⟨c, f, hz, hc⟩, ti, ⟨a, b, to⟩, h1, h2⟩ := Z
  have hT : s.TypeIs (.ref z) "zip" := ⟨_, hz, rfl⟩
  unfold Builtin.SmallTypes.nextOf
  exact wpAny_bind (wpAny_callSpecial?_slot (name := Str.ofString "__next__") hT F.slot_zip_next (wpAny_call_entry F.slot_zip_next hT F.entry_zip_next
    (zip_over hh D hz hc ti to h1 h2 hl1 hl2 hend hE) (F.args_zip_next_1 _)))
/-- e stands apart from the zip's parts -/
def Apart (e z TI TO i1 i2 : Addr) : Prop := e ≠ z ∧ e ≠ TI ∧ e ≠ TO ∧ e ≠ i1 ∧ e ≠ i2
theorem enumz_next {e z TI TO i1 i2 l1 l2 : Addr} {k : Nat} {c : Int} {old : Value} {xs ys : Array Value} {x y : Value} {Q : Value → Shared → Prop} (D : ZipApart z TI TO i1 i2 l1 l2) (ha : Apart e z TI TO i1 i2) (Z : ZSt s.heap z TI TO i1 i2 l1 l2 k)
    (he : IsEnum s.heap e z c old) (hl1 : s.heap.IsTuple l1 xs) (hl2 : s.heap.IsTuple l2 ys) (hx : xs[k]? = some x) (hy : ys[k]? = some y)
    (hQ : ∀ h₁ h', IsPair h₁ s.heap.objs.size x y → h₁.objs.size = s.heap.objs.size + 1 → (∀ b o, b ∉ [e, z, TI, TO, i1, i2] → s.heap.get? b = some o → h₁.get? b = some o) → (∀ b o, b ≠ e → h₁.get? b = some o → h'.get? b = some o) →
      ZSt h' z TI TO i1 i2 l1 l2 (k + 1) → IsEnumOut h' e z (c + 1) (.ref s.heap.objs.size) (s.heap.objs.size + 1) → IsPair h' (s.heap.objs.size + 1) (.int c s.toks) (.ref s.heap.objs.size) →
      Q (.ref (s.heap.objs.size + 1)) { s with heap := h', toks := s.toks + 1 }) :
    wpAny (model prog w) A (Builtin.«enumerate.__next__» ⟨[.ref e], []⟩) (fun fin s' => ∃ v, fin = .done (.ret v) ∧ Q v s') E s := by
  obtain ⟨hp, g, d, tk, os⟩ := s
  obtain ⟨e1, e2, e3, e4, e5⟩ := ha
  show wpAny _ _ (field (.ref e) 2 >>= _) _ _ _
  refine wpAny_bind (wpAny_field he rfl (x := .ref z) rfl ?_)
  refine wpAny_bind (nextOf_zip D Z hl1 hl2 hx hy fun h₁ Z₁ hT₁ hz₁ hk₁ => ?_)
  have hel : e < hp.objs.size := Heap.lt_size he
  have he₁ : IsEnum h₁ e z c old := hk₁ e _ e1 e3 e4 e5 he
  show wpAny _ _ (field (.ref e) 3 >>= _) _ _ ⟨h₁, g, d, tk, os⟩
  refine wpAny_bind (wpAny_field he₁ rfl (x := rawInt c) rfl ?_)
  show wpAny _ _ (field (.ref e) 4 >>= _) _ _ ⟨h₁, g, d, tk, os⟩
  refine wpAny_bind (wpAny_field he₁ rfl (x := .none) rfl ?_)
  show wpAny _ _ (mkInt c >>= _) _ _ ⟨h₁, g, d, tk, os⟩
  refine wpAny_bind (wpAny_mkInt ?_)
  show wpAny _ _ (setField (.ref e) 3 (rawInt (c + 1)) >>= _) _ _ ⟨h₁, g, d, tk + 1, os⟩
  refine wpAny_bind (wpAny_setField_rec he₁ (by simp) fun h₂ he₂ hs₂ => ?_)
  replace hs₂ : Heap.SameBut e h₁ h₂ := hs₂
  replace he₂ : IsEnum h₂ e z (c + 1) old := he₂
  show wpAny _ _ (setField (.ref e) 4 .none >>= _) _ _ ⟨h₂, g, d, tk + 1, os⟩
  refine wpAny_bind (wpAny_setField_rec he₂ (by simp) fun h₃ he₃ hs₃ => ?_)
  replace hs₃ : Heap.SameBut e h₂ h₃ := hs₃
  replace he₃ : IsEnum h₃ e z (c + 1) old := he₃
  show wpAny _ _ (newTuple [.int c tk, .ref hp.objs.size] >>= _) _ _ ⟨h₃, g, d, tk + 1, os⟩
  refine wpAny_bind (wpAny_newTuple ?_)
  have hsz : h₃.objs.size = hp.objs.size + 1 := by rw [hs₃.1, hs₂.1, hz₁]
  have he₄ : IsEnum (h₃.push { cls := .type "tuple", data := .seq #[.int c tk, .ref hp.objs.size] }) e z (c + 1) old := Heap.get?_push_of_some _ he₃
  have ht₄ : IsPair (h₃.push { cls := .type "tuple", data := .seq #[.int c tk, .ref hp.objs.size] }) (hp.objs.size + 1) (.int c tk) (.ref hp.objs.size) := by rw [← hsz]; exact Heap.get?_push_size _ rfl
  have hk₄ : ∀ b o, b ≠ e → h₁.get? b = some o → (h₃.push { cls := .type "tuple", data := .seq #[.int c tk, .ref hp.objs.size] }).get? b = some o := fun b o hb q =>
    Heap.get?_push_of_some _ (hs₃.extBut b o hb (hs₂.extBut b o hb q))
  show wpAny _ _ (Builtin.SmallTypes.ownedTupleIsFree (.ref e) >>= _) _ _ _
  rw [hsz]
  generalize h₃.push { cls := .type "tuple", data := .seq #[.int c tk, .ref hp.objs.size] } = h₄ at he₄ ht₄ hk₄ ⊢
  refine wpAny_bind ?_
  unfold Builtin.SmallTypes.ownedTupleIsFree
  refine wpAny_bind (wpAny_field he₄ rfl (x := .none) rfl (wpAny_pure ?_))
  simp only [if_true]
  refine wpAny_bind (wpAny_rule (wpAny_bind (wpAny_field he₄ rfl (x := old) rfl ?_)))
  refine wpAny_bind (wpAny_setField_rec he₄ (by simp) fun h₅ he₅ hs₅ => ?_)
  replace hs₅ : Heap.SameBut e h₄ h₅ := hs₅
  replace he₅ : IsEnum h₅ e z (c + 1) (.ref hp.objs.size) := he₅
  show wpAny _ _ (Builtin.SmallTypes.ownedTupleHandOut (.ref e) (.ref (hp.objs.size + 1)) >>= _) _ _ ⟨h₅, g, d, tk + 1, os⟩
  refine wpAny_bind ?_
  unfold Builtin.SmallTypes.ownedTupleHandOut
  refine wpAny_bind (wpAny_setField_rec he₅ (by simp) fun h₆ he₆ hs₆ => ?_)
  replace hs₆ : Heap.SameBut e h₅ h₆ := hs₆
  replace he₆ : IsEnumOut h₆ e z (c + 1) (.ref hp.objs.size) (hp.objs.size + 1) := he₆
  refine wpAny_setField_rec he₆ (by simp) fun h₇ he₇ hs₇ => ?_
  replace hs₇ : Heap.SameBut e h₆ h₇ := hs₇
  replace he₇ : IsEnumOut h₇ e z (c + 1) (.ref hp.objs.size) (hp.objs.size + 1) := he₇
  have hk : ∀ b o, b ≠ e → h₄.get? b = some o → h₇.get? b = some o := fun b o hb q => hs₇.extBut b o hb (hs₆.extBut b o hb (hs₅.extBut b o hb q))
  refine wpAny_bind (wpAny_letGo (wpAny_pure ⟨_, rfl, hQ h₁ h₇ hT₁ hz₁ (fun b o hb q => ?_) (fun b o hb q => hk b o hb (hk₄ b o hb q)) ?_ he₇ ?_⟩))
  · simp only [List.mem_cons, List.not_mem_nil, or_false, not_or] at hb
    obtain ⟨n1, n2, n3, n4, n5, n6⟩ := hb
    exact hk₁ b o n2 n4 n5 n6 q
  · refine Z₁.keep fun b hb o q => hk b o ?_ (hk₄ b o ?_ q)
    all_goals
      simp only [List.mem_cons, List.not_mem_nil, or_false] at hb
      rcases hb with rfl | rfl | rfl | rfl | rfl
      · exact e1.symm
      · exact e2.symm
      · exact e3.symm
      · exact e4.symm
      · exact e5.symm
  · exact hk _ _ (Nat.ne_of_gt (Nat.lt_succ_of_lt hel)) ht₄
set_option maxHeartbeats 1000000 in
theorem meets_enumerate_newZ (z TI TO : Addr) (c : Value) (k : Int) (t : Tok) (hfit : Builtin.SmallTypes.fitsIndex k = true) :
    Meets (Builtin.«enumerate.__new__» ⟨[.type "enumerate", .ref z, .int k t], []⟩) (fun _ R s => IsZip s.heap z TI TO c ∧
      R (.ok (.ret (.ref s.heap.objs.size))) { s with heap := s.heap.push { cls := .type "enumerate", data := .fields #[.none, .bool false, .ref z, rawInt k, .none, .none] } }) :=
  .of_wp fun prog w A R s h => by
    obtain ⟨hp, g, d, tk, os⟩ := s; obtain ⟨h1, h⟩ := h
    have hsub := sub_enumerate
    have hnf : (!Builtin.SmallTypes.fitsIndex k) = false := by rw [hfit]; rfl
    have q1 : ∀ {A' : Around} {E : Value → Shared → Prop} {Q : Value → Shared → Prop}, Q (.ref z) ⟨hp, g, d, tk, os⟩ → wpAny (model prog w) A' (pyIter (.ref z)) Q E ⟨hp, g, d, tk, os⟩ := fun q => wpAny_pyIter_zip h1 q
    wp_walk using q1
    refine wpAny_stack_any fun st => wpAny_pure ?_
    split
    · rename_i c _ _ _ _ _
      cases (c == Value.type "enumerate")
      · wp_walk using q1
        exact ⟨_, rfl, h⟩
      · wp_walk using q1
        exact ⟨_, rfl, h⟩
    · wp_walk using q1
      exact ⟨_, rfl, h⟩
theorem call_enumz {z TI TO : Addr} {c : Value} {k : Int} {t : Tok} {Q : Value → Shared → Prop} (hz : IsZip s.heap z TI TO c) (hk0 : -(2 ^ 63) ≤ k) (hk1 : k < 2 ^ 63)
    (h : ∀ h', IsEnum h' s.heap.objs.size z k .none → h'.objs.size = s.heap.objs.size + 1 → (∀ b o, s.heap.get? b = some o → h'.get? b = some o) → Q (.ref s.heap.objs.size) { s with heap := h' }) :
    wpAny (model prog w) A (call (.type "enumerate") [.ref z, .int k t]) Q E s := by
  refine callType_new F.called_enumerate (by decide) (F.typeCall_enumerate_2 _ _) (F.newCall_enumerate_2 _ _) (fun obj => F.args_object_init_3 obj _ _) F.entry_enumerate_new
    (meets_enumerate_newZ z TI TO c k t (fits_start hk0 hk1)) ⟨hz, ?_⟩
  have he : IsEnum (s.heap.push { cls := .type "enumerate", data := .fields #[.none, .bool false, .ref z, rawInt k, .none, .none] }) s.heap.objs.size z k .none := Heap.get?_push_size _ rfl
  exact ⟨⟨_, he, rfl⟩, h _ he (Heap.size_push ..) fun b o x => Heap.get?_push_of_some _ x⟩
end
end RZ3
set_option maxHeartbeats 1000000
/-! PL32: for i, (x, y) in enumerate(zip(t, u), k). -/
namespace L2
open PySem PySem.Spec PyProof.Rows RZ3
def IteZ (K : PySem.W.Frag) (k : Int) (a b : Addr) : It :=
  ⟨fun i H => ∃ (xs ys : List V) (x y : V), SqT K H a xs ∧ SqT K H b ys ∧ xs[i]? = some x ∧ ys[i]? = some y,
    fun i H v H' => ∃ T E x y, v = .ref E ∧ H T = none ∧ H E = none ∧ E ≠ T ∧ H' = upd (upd H T (.tup [x, y])) E (.tup [.int (k + (i : Int)), .ref T]) ∧ (∀ xs, SqT K H a xs → xs[i]? = some x) ∧ ∀ ys, SqT K H b ys → ys[i]? = some y,
    fun i H => ∃ xs ys : List V, SqT K H a xs ∧ SqT K H b ys ∧ (xs.length ≤ i ∨ ys.length ≤ i)⟩
theorem turn_enumZ {P : Program} {w : World} {K : PySem.W.Frag} {elts : List Expr} {kk : Nat} {tpos : Pos} {k : Int} {a b e z TI TO i1 i2 : Addr} (D : ZipApart z TI TO i1 i2 a b) (ha : Apart e z TI TO i1 i2) :
    Turn P w K (.Tuple elts kk tpos) (IteZ K k a b) [e, z, TI, TO, i1, i2] e (fun i h => (∃ old, IsEnum h e z (k + (i : Int)) old) ∧ ZSt h z TI TO i1 i2 a b i) where
  mem := by simp
  obj := fun i h st c hc => by
    obtain ⟨⟨old, he⟩, ⟨c1, f1, hz, _⟩, hTI, ⟨x, y, hTO⟩, ⟨o1, e1, _, d1⟩, ⟨o2, e2, _, d2⟩⟩ := st
    have e' : c = e ∨ c = z ∨ c = TI ∨ c = TO ∨ c = i1 ∨ c = i2 := by simpa using hc
    rcases e' with q | q | q | q | q | q
    · rw [q]; exact ⟨_, he, fun v q => nomatch q⟩
    · rw [q]; exact ⟨_, hz, fun v q => nomatch q⟩
    · rw [q]; exact ⟨_, hTI, fun v q => nomatch q⟩
    · rw [q]; exact ⟨_, hTO, fun v q => nomatch q⟩
    · rw [q]; exact ⟨o1, e1, fun v q => by rw [d1] at q; cases q⟩
    · rw [q]; exact ⟨o2, e2, fun v q => by rw [d2] at q; cases q⟩
  keep := fun i h h' st kp => ⟨(let ⟨old, he⟩ := st.1; ⟨old, kp e (by simp) _ he⟩), st.2.keep fun b hb => kp b (List.mem_cons_of_mem _ hb)⟩
  item := by
    intro X hP hw hK hc i pins s σ H E I hf st hg
    subst hP hw hK
    obtain ⟨⟨old, he⟩, Z⟩ := st
    obtain ⟨xs, ys, x, y, hqx, hqy, hx, hy⟩ := hg
    obtain ⟨its, rv, p, _⟩ := I.tuple hqx
    obtain ⟨its2, rv2, p2, _⟩ := I.tuple hqy
    obtain ⟨u, hu, ru⟩ := rv.get hx
    obtain ⟨u2, hu2, ru2⟩ := rv2.get hy
    have hel : e < s.heap.objs.size := Heap.lt_size he
    have hT : s.TypeIs (.ref e) "enumerate" := ⟨_, he, rfl⟩
    unfold pyNext
    refine wpAny_bind (wpAny_attempt (wpAny_callSpecial?_slot (name := Str.ofString "__next__") hT F.slot_enumerate_next
      (wpAny_call_entry F.slot_enumerate_next hT F.entry_enumerate_next
        (enumz_next D ha Z he p p2 (x := u) (y := u2) (by simpa using hu) (by simpa using hu2) fun h₁ h' hT₁ hz₁ hk₁ hk' Z' ho hE => wpAny_pure ?_) (F.args_enumerate_next_1 _))))
    refine ⟨_, rfl, wpAny_letOwnedTupleGo_enum (s := { s with heap := h', toks := s.toks + 1 }) ho fun h'' he' sb => ?_⟩
    replace sb : Heap.SameBut e h' h'' := sb
    have hnT : H s.heap.objs.size = none := I.hok.fresh (Nat.le_refl _)
    have hnE : H (s.heap.objs.size + 1) = none := I.hok.fresh (Nat.le_succ _)
    have new1 : ObjOk X.prog X.w (upd H s.heap.objs.size (.tup [x, y])) h₁ s.heap.objs.size (.tup [x, y]) :=
      ⟨by show 2 ≤ sizeLine; decide, [u, u2], .cons ru (.cons ru2 .nil), ⟨_, hT₁, rfl, _, rfl⟩⟩
    have I1 : Inv X pins σ (upd H s.heap.objs.size (.tup [x, y])) { s with heap := h₁ } :=
      I.turnedNew (t' := s.toks) (ch := [e, z, TI, TO, i1, i2]) hk₁ hf (Nat.le_refl _) new1
    have lt_fp : ∀ c ∈ [e, z, TI, TO, i1, i2], c < s.heap.objs.size := fun c hcm => by
      obtain ⟨⟨c1, f1, hz, _⟩, hTI, ⟨x0, y0, hTO⟩, ⟨o1, e1, _⟩, ⟨o2, e2, _⟩⟩ := Z
      have e' : c = e ∨ c = z ∨ c = TI ∨ c = TO ∨ c = i1 ∨ c = i2 := by simpa using hcm
      rcases e' with q | q | q | q | q | q
      · rw [q]; exact hel
      · rw [q]; exact Heap.lt_size hz
      · rw [q]; exact Heap.lt_size hTI
      · rw [q]; exact Heap.lt_size hTO
      · rw [q]; exact Heap.lt_size e1
      · rw [q]; exact Heap.lt_size e2
    have hf1 : ∀ c ∈ [e, z, TI, TO, i1, i2], FpOk X pins (upd H s.heap.objs.size (.tup [x, y])) c := fun c hcm => by
      have q := hf c hcm
      exact ⟨by rw [upd_ne (Nat.ne_of_lt (lt_fp c hcm))]; exact q.1, q.2⟩
    have hE2 : IsPair h'' (s.heap.objs.size + 1) (.int (k + (i : Int)) s.toks) (.ref s.heap.objs.size) := (sb.2 _ (Nat.ne_of_gt (Nat.lt_succ_of_lt hel))).trans hE
    have new2 : ObjOk X.prog X.w (upd (upd H s.heap.objs.size (.tup [x, y])) (s.heap.objs.size + 1) (.tup [.int (k + (i : Int)), .ref s.heap.objs.size])) h'' (s.heap.objs.size + 1) (.tup [.int (k + (i : Int)), .ref s.heap.objs.size]) :=
      ⟨by show 2 ≤ sizeLine; decide, [.int (k + (i : Int)) s.toks, .ref s.heap.objs.size], .cons ⟨_, rfl⟩ (.cons rfl .nil), ⟨_, hE2, rfl, _, rfl⟩⟩
    have I2 : Inv X pins σ (upd (upd H s.heap.objs.size (.tup [x, y])) (s.heap.objs.size + 1) (.tup [.int (k + (i : Int)), .ref s.heap.objs.size])) { s with heap := h'', toks := s.toks + 1 } :=
      I1.turnedNew (t' := s.toks + 1) (ch := [e, z, TI, TO, i1, i2]) (fun c o hb q => by
        have hce : c ≠ e := fun z => hb (by simp [z])
        exact (sb.2 c hce).trans (hk' c o hce q)) hf1 (by show h₁.objs.size ≤ _; rw [hz₁]; exact Nat.le_refl _) new2
    refine ⟨.ref (s.heap.objs.size + 1), _, I2, rfl, ⟨s.heap.objs.size, s.heap.objs.size + 1, x, y, rfl, hnT, hnE, Nat.succ_ne_self _, rfl, fun l hl => by rw [I.tuple_inj hl hqx]; exact hx, fun l hl => by rw [I.tuple_inj hl hqy]; exact hy⟩, ⟨⟨.ref s.heap.objs.size, ?_⟩, ?_⟩, fun c hcm => ?_⟩
    · have e1 : k + ((i + 1 : Nat) : Int) = k + (i : Int) + 1 := by omega
      rw [e1]; exact he'
    · refine Z'.keep fun c hb o q => (sb.2 c ?_).trans q
      obtain ⟨a1, a2, a3, a4, a5⟩ := ha
      have e' : c = z ∨ c = TI ∨ c = TO ∨ c = i1 ∨ c = i2 := by simpa using hb
      rcases e' with q | q | q | q | q
      · rw [q]; exact a1.symm
      · rw [q]; exact a2.symm
      · rw [q]; exact a3.symm
      · rw [q]; exact a4.symm
      · rw [q]; exact a5.symm
    · have := lt_fp c hcm
      rw [upd_ne (Nat.ne_of_lt (Nat.lt_succ_of_lt this)), upd_ne (Nat.ne_of_lt this)]
      exact (hf c hcm).1
  done := by
    intro X hP hw hK hc i pins s σ H E I hf st hg
    subst hP hw hK
    obtain ⟨⟨old, he⟩, Z⟩ := st
    obtain ⟨xs, ys, hqx, hqy, hend⟩ := hg
    obtain ⟨its, rv, p, _⟩ := I.tuple hqx
    obtain ⟨its2, rv2, p2, _⟩ := I.tuple hqy
    have l1 := rv.length
    have l2 := rv2.length
    have hT : s.TypeIs (.ref e) "enumerate" := ⟨_, he, rfl⟩
    unfold pyNext
    refine wpAny_bind (wpAny_attempt (wpAny_callSpecial?_slot (name := Str.ofString "__next__") hT F.slot_enumerate_next
      (wpAny_call_entry F.slot_enumerate_next hT F.entry_enumerate_next ?_ (F.args_enumerate_next_1 _))))
    show wpAny _ _ (field (.ref e) 2 >>= _) _ _ _
    refine wpAny_bind (wpAny_field he rfl (x := .ref z) rfl ?_)
    refine wpAny_bind (nextOf_zip_end (I.ok.hd hc) D Z p p2 ?_ fun h' x he' hx' => ?_)
    · rcases hend with q | q
      · exact .inl (by simp; omega)
      · exact .inr (by simp; omega)
    obtain ⟨o, ho, hcc⟩ := hx'
    refine wpAny_bind (wpAny_isInstance (T := "StopIteration") (b := true) ⟨o, ho, hcc⟩ isSubtype_stop ?_)
    refine wpAny_pure ?_
    exact ⟨rfl, I.turnedL (t' := s.toks) (ch := [e, z, TI, TO, i1, i2]) (fun c o hb q => he' c o (fun q' => hb (by simp [q'])) (fun q' => hb (by simp [q'])) (fun q' => hb (by simp [q'])) (fun q' => hb (by simp [q'])) q) hf⟩
  self := fun A i s Q E st h => let ⟨⟨_, he⟩, _⟩ := st; wpAny_pyIter_enum he h
def iEnumZ (K : PySem.W.Frag) (k : Int) (ta : TA) : TI := fun σ H R => ta σ H fun vs H1 => ∃ a b xs ys, vs = [.ref a, .ref b] ∧ SqT K H1 a xs ∧ SqT K H1 b ys ∧ R (IteZ K k a b) H1
theorem pi_enumZ {X : Cx} {e e2 : Expr} {ta : TA} {k : Int} {j : Nat} {p p2 p3 pos pos2 tpos : Pos} {elts : List Expr} {kk : Nat} (hg : Gl X "enumerate") (hm : X.mg "enumerate" = none) (hg2 : Gl X "zip") (hm2 : X.mg "zip" = none) (ha : PA X [e, e2] ta) (hk0 : -(2 ^ 63) ≤ k) (hk1 : k < 2 ^ 63)
    (hs2 : starEach [e, e2] X.env = (false, eval e X.env) :: starEach [e2] X.env := by rfl) (hpl2 : (backTo pos2 (starEach [e2] X.env)).any (·.1) = false := by rfl)
    (hs : starEach [.Call (.Name "zip" p2) [e, e2] [] pos2, .Constant (.int k) j p3] X.env = [(false, eval (.Call (.Name "zip" p2) [e, e2] [] pos2) X.env), (false, eval (.Constant (.int k) j p3) X.env)] := by rfl) :
    PI X (.Tuple elts kk tpos) (.Call (.Name "enumerate" p) [.Call (.Name "zip" p2) [e, e2] [] pos2, .Constant (.int k) j p3] [] pos) (iEnumZ X.K k ta) := by
  refine ⟨fun pins s σ H R I h => ?_⟩
  refine Call_ (ld_blt I hg hm boot_enumerate (PyProof.Rows.callWith_type1 ?_ hs rfl))
  rw [hs]
  show wpAny _ _ (spliced [(false, eval (.Call (.Name "zip" p2) [e, e2] [] pos2) X.env), (false, eval (.Constant (.int k) j p3) X.env)]) _ _ _
  refine Calls.spliced_cons (Call_ (ld_blt I hg2 hm2 PyProof.Rows.boot_zip (PyProof.Rows.callWith_type1 (thn (ha.run pos2 pins s σ H _ I h) fun us s1 ⟨vs, H1, I1, r1, q1⟩ => ?_) hs2 hpl2)))
  obtain ⟨a, b, xs, ys, ex, hqx, hqy, q⟩ := q1
  subst ex
  cases r1 with
  | cons r rr =>
    cases rr with
    | cons r' rr =>
      cases rr
      cases r
      cases r'
      obtain ⟨its, rv, p1, _⟩ := I1.tuple hqx
      obtain ⟨its2, rv2, p2', _⟩ := I1.tuple hqy
      obtain ⟨o1, ho1, _⟩ := id p1
      obtain ⟨o2, ho2, _⟩ := id p2'
      refine RZ.call_zipT (show s1.heap.IsTuple a its.toArray from p1) (show s1.heap.IsTuple b its2.toArray from p2') fun h' hz hTI hTO h1 h2 hsz hkp => ?_
      refine Calls.spliced_cons (wpAny_Constant_int (Calls.spliced_nil ?_))
      refine call_enumz hz hk0 hk1 fun h'' he hsz2 hkp2 => wpAny_pyIter_enum he ?_
      have hsz3 : h'.objs.size = s1.heap.objs.size + 5 := hsz
      have kp : ∀ b o, s1.heap.get? b = some o → h''.get? b = some o := fun b o q => hkp2 b o (hkp b o q)
      have I2 : Inv X pins σ H1 { s1 with heap := h'', toks := s1.toks + 1 } := I1.kept (t' := s1.toks + 1) kp
      have ap := PySem.W.ktu_apart s1.heap.objs.size a b (Heap.lt_size ho1) (Heap.lt_size ho2)
      have he' : IsEnum h'' (s1.heap.objs.size + 5) (s1.heap.objs.size + 4) k .none := by rw [← hsz3]; exact he
      show PIE X pins σ _ R (.ref h'.objs.size) _
      rw [hsz3]
      refine ⟨s1.heap.objs.size + 5, [s1.heap.objs.size + 5, s1.heap.objs.size + 4, s1.heap.objs.size + 2, s1.heap.objs.size + 3, s1.heap.objs.size, s1.heap.objs.size + 1], _, _, H1, rfl, I2, turn_enumZ (k := k) ap ⟨by simp, by simp, by simp, by simp, by simp⟩, ⟨⟨.none, by simpa using he'⟩, ⟨⟨_, _, hkp2 _ _ hz, .inl rfl⟩, hkp2 _ _ hTI, ⟨_, _, hkp2 _ _ hTO⟩, h1.at fun o q => hkp2 _ o q, h2.at fun o q => hkp2 _ o q⟩⟩, fun c hcm => ?_, q⟩
      have e' : c = s1.heap.objs.size + 5 ∨ c = s1.heap.objs.size + 4 ∨ c = s1.heap.objs.size + 2 ∨ c = s1.heap.objs.size + 3 ∨ c = s1.heap.objs.size ∨ c = s1.heap.objs.size + 1 := by simpa using hcm
      have hle : s1.heap.objs.size ≤ c := by
        rcases e' with q | q | q | q | q | q <;> rw [q]
        all_goals first | exact Nat.le_add_right _ _ | exact Nat.le_refl _
      exact I1.fpOk hle (I1.hok.fresh hle)
end L2
namespace PL
open PySem PySem.Spec PyProof.Rows L2
section
variable {X : Cx} {W : WX}
def enumZL (k : Int) (xs ys : List D) : List D := (xs.zipWith (fun x y => D.tup [x, y]) ys).zipIdx.map fun p => .tup [.int (k + (p.2 : Nat)), p.1]
def enumZD (k : Int) : List D → Option (List D)
  | [.tup xs, .tup ys] => some (enumZL k xs ys)
  | _ => none
def sEnumZ (k : Int) (g : Env → M (List D)) : Env → M (List D) := fun ρ => bnd (g ρ) fun ds st => ofO (enumZD k ds) st
theorem enumZ_get {k : Int} {xs ys : List D} {i : Nat} {d : D} (h : (enumZL k xs ys)[i]? = some d) : ∃ x y, xs[i]? = some x ∧ ys[i]? = some y ∧ d = .tup [.int (k + (i : Nat)), .tup [x, y]] := by
  unfold enumZL at h
  rw [List.getElem?_map, List.getElem?_zipIdx] at h
  cases e : (xs.zipWith (fun x y => D.tup [x, y]) ys)[i]? with
  | none => rw [e] at h; cases h
  | some v =>
    rw [e] at h
    cases h
    obtain ⟨x, y, e1, e2, rfl⟩ := zip_get e
    exact ⟨x, y, e1, e2, by simp⟩
theorem itok_enumZ {K : PySem.W.Frag} {w : Wd} {k : Int} {xs ys : List D} {a b : Addr} (r : Rep K w (.tup xs) (.ref a)) (r2 : Rep K w (.tup ys) (.ref b)) : ItOk K w (enumZL k xs ys) (IteZ K k a b) := by
  intro w1 g ok1
  obtain ⟨a', vs, ea, hq, h3⟩ := Rep.ext g _ _ r
  obtain ⟨b', us, eb, kq, k3⟩ := Rep.ext g _ _ r2
  obtain rfl : a = a' := V.ref.inj ea
  obtain rfl : b = b' := V.ref.inj eb
  refine ⟨fun i d hd => ?_, ⟨vs, us, hq, kq, ?_⟩⟩
  · obtain ⟨x, y, e1, e2, rfl⟩ := enumZ_get hd
    obtain ⟨v, hv, rv⟩ := h3.get e1
    obtain ⟨u, hu, ru⟩ := k3.get e2
    refine ⟨⟨vs, us, v, u, hq, kq, hv, hu⟩, fun z H' ⟨T, E, v', u', ez, hT, hE, hne, eH, f1, f2⟩ => ?_⟩
    have g1 := f1 vs hq
    have g2 := f2 us kq
    rw [hv] at g1
    rw [hu] at g2
    cases g1
    cases g2
    subst ez eH
    have ok2 := ok1.new (o := .tup [v, u]) hT
    have hE2 : (w1.put T (.tup [v, u])).H E = none := by show upd w1.H T _ E = none; rw [upd_ne hne]; exact hE
    have gr1 := Grow.new (o := .tup [v, u]) ok1 hT
    have gr2 := Grow.new (o := .tup [.int (k + (i : Int)), .ref T]) ok2 hE2
    have rT : Rep K (w1.put T (.tup [v, u])) (.tup [x, y]) (.ref T) := rep_newT ok1 hT (reps_cons rv (reps_cons ru reps_nil))
    exact ⟨(w1.put T (.tup [v, u])).put E (.tup [.int (k + (i : Int)), .ref T]), rfl, gr1.trans gr2, ok2.new hE2, rfl, rep_newT ok2 hE2 (reps_cons rfl (reps_cons rT reps_nil))⟩
  · have l1 := h3.length
    have l2 := k3.length
    simp only [enumZL, List.length_map, List.length_zipIdx, List.length_zipWith]
    omega
theorem di_enumZ (k : Int) {elts : List Expr} {kk : Nat} {tpos : Pos} {e e2 : Expr} {j : Nat} {p p2 p3 pos pos2 : Pos} {f : Env → M (List D)} (hm : X.mg "enumerate" = none) (hm2 : X.mg "zip" = none) (ha : DA X W [e, e2] f) (hk0 : -(2 ^ 63) ≤ k := by decide) (hk1 : k < 2 ^ 63 := by decide) (hg : Gl X "enumerate" := by rfl) (hg2 : Gl X "zip" := by rfl)
    (hs2 : starEach [e, e2] X.env = (false, eval e X.env) :: starEach [e2] X.env := by rfl) (hpl2 : (backTo pos2 (starEach [e2] X.env)).any (·.1) = false := by rfl)
    (hs : starEach [.Call (.Name "zip" p2) [e, e2] [] pos2, .Constant (.int k) j p3] X.env = [(false, eval (.Call (.Name "zip" p2) [e, e2] [] pos2) X.env), (false, eval (.Constant (.int k) j p3) X.env)] := by rfl) :
    DI X W (.Tuple elts kk tpos) (.Call (.Name "enumerate" p) [.Call (.Name "zip" p2) [e, e2] [] pos2, .Constant (.int k) j p3] [] pos) (sEnumZ k f) := by
  refine pi_imp (pi_enumZ hg hm hg2 hm2 ha hk0 hk1 hs2 hpl2 hs) fun σ H R h => ?_
  refine (tIx.seq (R1 := Reps X.K) h).imp fun vs H1 ⟨ds, w, items, e1, ok, r, hk, q⟩ => ?_
  subst e1
  unfold enumZD at hk
  split at hk
  · rename_i xs ys
    cases hk
    obtain ⟨v, u, rfl, rv, ru⟩ := reps2 r
    obtain ⟨a, z1, ea, h1, k1⟩ := id rv
    obtain ⟨b, z2, eb, h2, k2⟩ := id ru
    subst ea eb
    exact ⟨a, b, z1, z2, rfl, h1, h2, q w (Grow.refl w) ok rfl _ (itok_enumZ rv ru)⟩
  · cases hk
@[simp] theorem wp_enumZ {X : Exc → Store → Prop} {ρ : Env} {st : Store} {Q : List D → Store → Prop} (k : Int) (f : Env → M (List D)) : wp (sEnumZ k f ρ st) X Q = wp (f ρ st) X fun a st1 => wo (enumZD k a) fun d => Q d st1 := by simp only [sEnumZ, bnd, wp_bnd, wp_ofO]
end
end PL
/-! PL33: x is True. -/
namespace PL
open PySem PySem.Spec PyProof.Rows L2
section
variable {X : Cx} {W : WX}
def isBD : D → D → Store → Option Bool
  | .bl a, .bl b, _ => some (decide (a = b))
  | _, _, _ => none
theorem cmp_isB : OpR X (compareOp .Is) (rCmp X.K isBD) := by
  intro pins s σ H x y v u Q I rx ry h
  obtain ⟨w, dx, dy, b, rfl, ok, hx, hy, hf, q⟩ := h
  unfold isBD at hf
  split at hf
  · cases hf
    exact op_isBl pins s σ _ x y v u Q I rx ry ⟨_, _, hx, hy, q⟩
  · cases hf
theorem de_isB {a b : Expr} {f g : Env → M D} {pos : Pos} (hu : X.A.units + 65 < cLine) (ha : DE X W a f) (hb : DE X W b g) : DE X W (.Compare a [.Is] [b] pos) (sOfB (tCmpF isBD f g)) := de_cmpF cmp_isB ha hb
theorem dt_isB {a b : Expr} {f g : Env → M D} {pos : Pos} (hu : X.A.units + 65 < cLine) (ha : DE X W a f) (hb : DE X W b g) : DT X W (.Compare a [.Is] [b] pos) (tCmpF isBD f g) := dt_cmpF cmp_isB ha hb
end
end PL
/-! PL34: an empty dict written out, repr of data with it, strip of signs. -/
namespace PL
open PySem PySem.Spec PyProof.Rows L2
section
variable {X : Cx} {W : WX}
theorem de_emp {pos : Pos} : DE X W (.Dict [] [] pos) (sCon .emp) := pe_dnewK.imp fun σ H Q h => by
  obtain ⟨w, ρ, rfl, ok, re, _, q⟩ := h
  intro p np
  exact q (w.put p (.dK [])) (Grow.new ok np) (ok.new np) rfl _ ⟨p, rfl, upd_same, fun l => ok.free np (lv_put.mp l)⟩
def stripW : D → List D → Store → Option (D × Store)
  | .str s, [.str t], st => if s.length ≤ sizeLine then some (.str (Txt.stripChars (toS s) (toS t)).cps.toList, st) else none
  | _, _, _ => none
theorem mr_strip : MtR X "str.strip" (rMt X.K stripW) := by
  intro pins s σ H x xs v us Q I rx rs h
  obtain ⟨w, d0, ds, d, st, rfl, ok, h0, rd, hf, q⟩ := h
  unfold stripW at hf
  split at hf
  · rename_i z t
    split at hf
    · rename_i hz
      cases hf
      obtain ⟨u, rfl, h1⟩ := reps1 rd
      exact mt_stripChars pins s σ _ _ _ v us Q I rx rs ⟨toS z, toS t, h0, by rw [show u = V.str (toS t) from h1], hz, q w (Grow.refl w) ok rfl _ rfl⟩
    · cases hf
  · cases hf
end
/-! ### repr of tuples with {} in them -/
mutual
def flE : Nat → D → Bool
  | _, .non => true
  | _, .bl _ => true
  | _, .int _ => true
  | _, .str s => s.all fun c => decide (c < 1114112)
  | k + 1, .tup xs => flEs k xs
  | 0, .tup _ => false
  | _, .lst _ => false
  | _, .scr _ => false
  | _, .ref _ => false
  | _, .vv _ => false
  | _ + 1, .emp => true
  | 0, .emp => false
  | _, .exn _ _ _ => false
def flEs : Nat → List D → Bool
  | _, [] => true
  | k, x :: xs => flE k x && flEs k xs
end
mutual
def rszE : D → Nat
  | .non => 4
  | .bl _ => 5
  | .int _ => 1902
  | .str s => 10 * s.length + 2
  | .tup xs => rszEs xs + 3
  | .emp => 2
  | _ => 0
def rszEs : List D → Nat
  | [] => 0
  | x :: xs => rszE x + 2 + rszEs xs
end
mutual
theorem showE_ok : ∀ (k : Nat) (d : D), flE k d = true → intsOk d = true → (pyT d).showable = true ∧ (pyT d).shown.length ≤ rszE d ∧ (pyT d).depth ≤ k
  | _, .non, _, _ => ⟨rfl, by show (PyData.shown .none).length ≤ 4; unfold PyData.shown; decide +kernel, Nat.zero_le _⟩
  | _, .bl b, _, _ => ⟨rfl, by show (PyData.shown (.bool b)).length ≤ 5; unfold PyData.shown; cases b <;> decide +kernel, Nat.zero_le _⟩
  | _, .int i, _, h => by
    have := show_ok 0 (.int i) rfl h
    exact ⟨this.1, this.2, Nat.zero_le _⟩
  | k, .str s, hf, h => by
    have hf : (s.all fun c => decide (c < 1114112)) = true := by cases k <;> exact hf
    have := show_ok 0 (.str s) hf h
    exact ⟨this.1, this.2, Nat.zero_le _⟩
  | k + 1, .tup xs, hf, hi => by
    obtain ⟨h1, h2, h3⟩ := showsE_ok k xs hf hi
    refine ⟨?_, ?_, ?_⟩
    · show (PyData.tuple (pyTs xs)).showable = true
      unfold PyData.showable; exact h1
    · show (PyData.shown (.tuple (pyTs xs))).length ≤ rszEs xs + 3
      unfold PyData.shown
      exact Nat.le_trans (tupleText_len_le _) (by omega)
    · show (PyData.tuple (pyTs xs)).depth ≤ k + 1
      unfold PyData.depth; omega
  | 0, .tup _, h, _ => by cases h
  | k, .lst _, h, _ => by cases k <;> cases h
  | k, .scr _, h, _ => by cases k <;> cases h
  | k, .ref _, h, _ => by cases k <;> cases h
  | k, .vv _, h, _ => by cases k <;> cases h
  | k + 1, .emp, _, _ => by
    refine ⟨rfl, ?_, ?_⟩
    · show (PyData.shown (.dict [])).length ≤ 2
      unfold PyData.shown; unfold PyData.shownKv; decide +kernel
    · show (PyData.dict []).depth ≤ k + 1
      unfold PyData.depth; unfold PyData.depthKv; omega
  | 0, .emp, h, _ => by cases h
  | k, .exn _ _ _, h, _ => by cases k <;> cases h
theorem showsE_ok : ∀ (k : Nat) (ds : List D), flEs k ds = true → intsOks ds = true → PyData.showableAll (pyTs ds) = true ∧ ((PyData.shownAll (pyTs ds)).map (·.length)).sum + 2 * (PyData.shownAll (pyTs ds)).length ≤ rszEs ds ∧ PyData.depthAll (pyTs ds) ≤ k
  | _, [], _, _ => ⟨rfl, Nat.zero_le _, Nat.zero_le _⟩
  | k, x :: xs, hf, hi => by
    have hf : (flE k x && flEs k xs) = true := hf
    have hi : (intsOk x && intsOks xs) = true := hi
    rw [Bool.and_eq_true] at hf hi
    obtain ⟨h1, h2, h5⟩ := showE_ok k x hf.1 hi.1
    obtain ⟨h3, h4, h6⟩ := showsE_ok k xs hf.2 hi.2
    refine ⟨?_, ?_, ?_⟩
    · show PyData.showableAll (pyT x :: pyTs xs) = true
      unfold PyData.showableAll
      rw [h1, h3]
      rfl
    · show ((PyData.shownAll (pyT x :: pyTs xs)).map (·.length)).sum + 2 * (PyData.shownAll (pyT x :: pyTs xs)).length ≤ rszE x + 2 + rszEs xs
      unfold PyData.shownAll
      rw [List.map_cons, List.sum_cons, List.length_cons]
      omega
    · show PyData.depthAll (pyT x :: pyTs xs) ≤ k
      unfold PyData.depthAll
      exact Nat.max_le.mpr ⟨h5, h6⟩
end
section
variable {X : Cx} {pins : List (Addr × Obj)} {σ : L2.St} {s : Shared} {w : Wd}
mutual
theorem readsE (I : Inv X pins σ w.H s) : ∀ (k : Nat) (d : D) (v : V) (u : Value), flE k d = true → Rep X.K w d v → RelV v u → ∃ as, Reads s.heap u (pyT d) as ∧ sysModules ∉ as
  | _, .non, v, u, _, h, r => by
    rw [show v = V.non from h] at r
    cases r
    exact ⟨_, Reads.none, by simp⟩
  | _, .bl b, v, u, _, h, r => by
    rw [show v = V.bl b from h] at r
    cases r
    exact ⟨_, Reads.bool b, by simp⟩
  | _, .int i, v, u, _, h, r => by
    rw [show v = V.int i from h] at r
    obtain ⟨t, rfl⟩ := r
    exact ⟨_, Reads.int i t, by simp⟩
  | _, .str z, v, u, _, h, r => by
    rw [show v = V.str (toS z) from h] at r
    obtain ⟨t, rfl⟩ := r
    exact ⟨_, Reads.str _ t, by simp⟩
  | k + 1, .tup ds, v, u, hf, h, r => by
    obtain ⟨a, vs, rfl, hs, ha⟩ := h
    cases r
    obtain ⟨its, rv, ⟨o, ho, hc, n, hd⟩, _⟩ := I.tuple hs
    obtain ⟨as, hr, hn⟩ := readsEs I k ds _ its hf ha rv
    exact ⟨_, Reads.tuple ho hc hd hr, hn⟩
  | 0, .tup _, _, _, h, _, _ => by cases h
  | k, .lst _, _, _, h, _, _ => by cases k <;> cases h
  | k, .scr _, _, _, h, _, _ => by cases k <;> cases h
  | k, .ref _, _, _, h, _, _ => by cases k <;> cases h
  | k, .vv _, _, _, h, _, _ => by cases k <;> cases h
  | k + 1, .emp, v, u, _, h, r => by
    obtain ⟨a, rfl, ha, _⟩ := h
    cases r
    obtain ⟨_, hsm, vs, kv, o, es, ep, ho, hx, hd, _, hp, _⟩ := dk_of I.hok ha
    cases kv
    have he : es.toList = [] := by
      generalize es.toList = l at hp
      cases hp
      rfl
    refine ⟨_, Reads.dict ho hx.1 hd (kvs := []) (as := []) (bs := []) ?_ ?_, ?_⟩
    · rw [he]; exact .nil
    · rw [he]; exact .nil
    · intro m
      have : sysModules = a := by simpa using m
      rw [← this] at hsm
      simp at hsm
  | 0, .emp, _, _, h, _, _ => by cases h
  | k, .exn _ _ _, _, _, h, _, _ => by cases k <;> cases h
theorem readsEs (I : Inv X pins σ w.H s) : ∀ (k : Nat) (ds : List D) (vs : List V) (us : List Value), flEs k ds = true → Reps X.K w ds vs → Vals vs us → ∃ as, ReadsAll s.heap us (pyTs ds) as ∧ sysModules ∉ as
  | _, [], vs, us, _, h, r => by
    obtain rfl : vs = [] := h
    cases r
    exact ⟨_, ReadsAll.nil, by simp⟩
  | k, x :: xs, vs, us, hf, h, r => by
    have hf : (flE k x && flEs k xs) = true := hf
    rw [Bool.and_eq_true] at hf
    obtain ⟨v, t, rfl, h1, h2⟩ := h
    cases r with
    | cons r1 r2 =>
      obtain ⟨as, q1, n1⟩ := readsE I k x _ _ hf.1 h1 r1
      obtain ⟨bs, q2, n2⟩ := readsEs I k xs _ _ hf.2 h2 r2
      exact ⟨_, ReadsAll.cons q1 q2, by simp [n1, n2]⟩
end
end
def isTE : D → Bool
  | .tup _ => true
  | .emp => true
  | _ => false
def reprE : List D → Store → Option D
  | [d], st => match reprD [d] st with
    | some r => some r
    | none => if isTE d && (flE 40 d && intsOk d && decide (rszE d ≤ 16000000)) then some (.str ((pyT d).shown).cps.toList) else none
  | _, _ => none
section
variable {X : Cx}
theorem cr_reprE (hr : ∃ k, Room k X.A) (hg : X.A.guards = some []) : CallR X (.builtin "repr") (rC X.K reprE) := by
  intro pins s σ H xs us Q I r h
  obtain ⟨w, ds, d, rfl, ok, rd, hf, q⟩ := h
  unfold reprE at hf
  split at hf
  · rename_i e
    split at hf
    · rename_i r1 h1
      cases hf
      exact cr_reprD hr hg pins s σ _ xs us Q I r ⟨w, [e], d, rfl, ok, rd, h1, q⟩
    · split at hf
      · rename_i hz
        cases hf
        rw [Bool.and_eq_true, Bool.and_eq_true, Bool.and_eq_true] at hz
        obtain ⟨z0, ⟨z1, z2⟩, z3⟩ := hz
        have z3 := of_decide_eq_true z3
        obtain ⟨v, rfl, h1⟩ := reps1 rd
        obtain ⟨u, rfl, rx⟩ := vals1 r
        obtain ⟨h3, h4, h5⟩ := showE_ok 40 _ z1 z2
        obtain ⟨as, rd2, nm⟩ := readsE I 40 _ v u z1 h1 rx
        obtain ⟨k, hr⟩ := hr
        have hu := hr.units
        have sz : sizeLine = 16777216 := sizeLine_eq
        have fin : ∀ h' uu tk, (∀ b o, s.heap.get? b = some o → h'.get? b = some o) → EP X pins σ Q (.str (pyT e).shown uu) { s with heap := h', toks := tk } := fun h' uu tk hk =>
          ⟨.str (pyT e).shown, _, I.kept hk, ⟨uu, rfl⟩, q.now ok (show V.str _ = V.str (toS _) from rfl)⟩
        have hra : ∃ a, u = .ref a := by
          cases e with
          | tup xs => obtain ⟨a, vs, rfl, _⟩ := h1; cases rx; exact ⟨_, rfl⟩
          | emp => obtain ⟨a, rfl, _⟩ := h1; cases rx; exact ⟨_, rfl⟩
          | _ => cases z0
        obtain ⟨a, rfl⟩ := hra
        exact repr_of_reads' rd2 h3 (fun _ => nm) hg (by omega) (fun _ _ e => e) fin (by omega)
      · cases hf
  · cases hf
end
def PlainE (d : D) : Prop := Plain d ∨ (isTE d = true ∧ flE 40 d = true ∧ intsOk d = true ∧ rszE d ≤ 16000000)
mutual
theorem rsv_flE (st : Store) : ∀ (k : Nat) (d : D), flE k d = true → rsv st d = d
  | _, .non, _ => rfl
  | _, .bl _, _ => rfl
  | _, .int _, _ => rfl
  | _, .str _, _ => rfl
  | k + 1, .tup xs, h => by show D.tup (rsvs st xs) = _; rw [rsvs_flE st k xs h]
  | 0, .tup _, h => by cases h
  | k, .lst _, h => by cases k <;> cases h
  | _, .scr _, _ => rfl
  | k, .ref _, h => by cases k <;> cases h
  | _, .vv _, _ => rfl
  | _, .emp, _ => rfl
  | k, .exn _ _ _, h => by cases k <;> cases h
theorem rsvs_flE (st : Store) : ∀ (k : Nat) (ds : List D), flEs k ds = true → rsvs st ds = ds
  | _, [], _ => rfl
  | k, x :: xs, h => by
    have h : (flE k x && flEs k xs) = true := h
    rw [Bool.and_eq_true] at h
    show rsv st x :: rsvs st xs = _
    rw [rsv_flE st k x h.1, rsvs_flE st k xs h.2]
end
theorem reprE_plain {d : D} {st : Store} (h : PlainE d) : reprE [d] st = some (.str (rp d)) := by
  show (match reprD [d] st with | some r => some r | none => if isTE d && (flE 40 d && intsOk d && decide (rszE d ≤ 16000000)) then some (.str ((pyT d).shown).cps.toList) else none) = _
  rcases h with h | ⟨h0, h1, h2, h3⟩
  · rw [repr_plain h]
  · cases e : reprD [d] st with
    | some r =>
      unfold reprD at e
      simp only at e
      rw [rsv_flE st 40 d h1] at e
      split at e
      · cases e; rfl
      · cases e
    | none =>
      simp only
      rw [h0, h1, h2, decide_eq_true h3]
      rfl
end PL
set_option maxHeartbeats 4000000
/-! PL35: a short tuple, often repeated. -/
namespace PL
open PySem PySem.Spec PyProof.Rows L2
section
variable {X : Cx} {W : WX}
def mulT : D → D → Store → Option D
  | .tup xs, .int k, _ => if 0 < xs.length ∧ xs.length ≤ 10 ∧ 2 ≤ k ∧ k ≤ 100000 then some (.tup (repN xs k)) else none
  | _, _, _ => none
theorem reps_rep {K : PySem.W.Frag} {w : Wd} {xs : List D} {vs : List V} (h : Reps K w xs vs) : ∀ m : Nat, Reps K w (List.replicate m xs).flatten (List.replicate m vs).flatten
  | 0 => reps_nil
  | m + 1 => by
    rw [List.replicate_succ, List.replicate_succ, List.flatten_cons, List.flatten_cons]
    exact h.app (reps_rep h m)
theorem op_mulT : OpR X (binaryOp .Mult) (rB X.K mulT) := by
  intro pins s σ H x y v u Q I rx ry h
  obtain ⟨w, dx, dy, d, rfl, ok, hx, hy, hf, q⟩ := h
  unfold mulT at hf
  split at hf
  · rename_i ds k
    split at hf
    · rename_i hz
      cases hf
      obtain ⟨z1, z2, z3, z4⟩ := hz
      obtain ⟨l, vs, rfl, hT, hr⟩ := hx
      obtain rfl : y = V.int k := hy
      cases rx
      obtain ⟨t, rfl⟩ := ry
      obtain ⟨its, r, ⟨⟨cls, dd, data, sl⟩, ho, hc, n, hd⟩, _⟩ := I.tuple hT
      simp only at hc hd
      subst hc hd
      have lv : vs.length = ds.length := hr.length.symm
      have li : its.length = vs.length := r.length.symm
      have sz : its.toArray.size = ds.length := by rw [List.size_toArray, li, lv]
      have em : its.toArray.isEmpty = false := by
        cases its with
        | nil => rw [List.length_nil] at li; omega
        | cons _ _ => rfl
      have bound : ds.length * k.toNat ≤ 10 * 100000 := Nat.mul_le_mul z2 (by omega)
      have bound2 : ((ds.length : Nat) : Int) * k ≤ 10 * 100000 := by
        have : ((ds.length * k.toNat : Nat) : Int) = ((ds.length : Nat) : Int) * k := by rw [Int.natCast_mul, Int.toNat_of_nonneg (by omega)]
        omega
      have fl : (List.replicate k.toNat its).flatten.length ≤ sizeLine := by
        rw [PyProof.Rows.lm_len_rep_flat, li, lv, sizeLine_eq, Nat.mul_comm]
        omega
      have fv : (List.replicate k.toNat vs).flatten.length ≤ sizeLine := by
        rw [PyProof.Rows.lm_len_rep_flat, lv, sizeLine_eq, Nat.mul_comm]
        omega
      have c0 : (decide (k < -(2 ^ 63)) || decide (k ≥ 2 ^ 63)) = false := by simp; omega
      have c1 : (its.toArray.isEmpty || k == 1) = false := by
        rw [em, Bool.false_or]
        exact beq_eq_false_iff_ne.mpr (by omega)
      have c2 : (decide (k ≤ 0) || its.toArray.isEmpty) = false := by
        rw [em, Bool.or_false]
        exact decide_eq_false (by omega)
      have c4 : Builtin.Tuple.tupleTooMany (((its.toArray.size : Nat) : Int) * k) = false := by
        unfold Builtin.Tuple.tupleTooMany
        rw [sz, sizeLine_eq]
        exact decide_eq_false (by omega)
      have mul := tuple_mulW l its.toArray n dd sl k t c0 c1 c2 (by rw [sz]; omega) c4 (by rw [size_rep, List.size_toArray]; exact fl)
      have rmul := int_rmul_tuple k t l its.toArray n dd sl
      have fin : EP X pins σ Q (Value.ref s.heap.objs.size) { s with heap := s.heap.push { cls := Value.type "tuple", data := Data.seq (List.replicate k.toNat its).flatten.toArray }, toks := s.toks } := by
        have J := I.laid (t' := s.toks) (o := .tup (List.replicate k.toNat vs).flatten) (fun b ob q => Heap.get?_push_of_some _ q) (Nat.le_refl _) ⟨fv, _, r.rep k.toNat, IsTup.new s.heap _⟩
        exact ⟨.ref s.heap.objs.size, _, J, rfl, q.tup ok (reps_rep hr k.toNat) _ (I.hok.fresh (Nat.le_refl _))⟩
      refine wpAny_binaryOp_repeat_ref (T := "tuple") (U := "int") (by decide) ⟨_, ho, rfl⟩ (fun s' => typeIs_int s' k t) noFill_tuple_mul F.fills_int_mul F.slot_int_rmul repeat_tuple F.slot_int_index.lookup ?_
      refine call_meets F.slot_int_rmul (typeIs_int s k t) F.entry_int_rmul (F.args_int_rmul_2 _ _) rmul ⟨ho, rfl, ⟨_, ho, rfl⟩, ?_⟩
      refine call_meets F.slot_tuple_mul ⟨_, ho, rfl⟩ F.entry_tuple_mul (F.args_tuple_mul_2 _ _) mul ⟨ho, ?_⟩
      rw [size_rep]
      exact fin
    · cases hf
  · cases hf
def sBinF (o : D → D → Store → Option D) (f g : Env → M D) : Env → M D := fun ρ => bnd (f ρ) fun a => bnd (g ρ) fun b => fun st => ofO (o a b st) st
theorem de_mulT {a b : Expr} {f g : Env → M D} {pos : Pos} (ha : DE X W a f) (hb : DE X W b g) : DE X W (.BinOp a .Mult b pos) (sBinF mulT f g) := by
  refine (pe_op op_mulT ha hb).imp fun σ H Q h => ?_
  refine (tX.seq0 (R1 := Rep X.K) h).imp fun x H1 ⟨da, h1⟩ => ?_
  refine ((tX.seq (R1 := Rep X.K) (mono_and mono0 monoRep) h1).weak).imp fun y H2 ⟨db, h2⟩ => ?_
  obtain ⟨w, ρ, e, ok, re, ⟨⟨_, r1⟩, r2⟩, q⟩ := h2
  obtain ⟨d, e1, q⟩ := at_of rfl q
  exact ⟨w, da, db, d, e, ok, r1, r2, e1, q⟩
@[simp] theorem wp_binF {X : Exc → Store → Prop} {ρ : Env} {st : Store} {Q : D → Store → Prop} (o : D → D → Store → Option D) (f g : Env → M D) : wp (sBinF o f g ρ st) X Q = wp (f ρ st) X fun a st1 => wp (g ρ st1) X fun b st2 => wo (o a b st2) fun d => Q d st2 := by simp only [sBinF, bnd, wp_bnd, wp_ofO]
end
end PL
/-! PL36: instances of own classes in the store: fields, methods, making. -/
namespace PL
open PySem PySem.Spec PyProof.Rows L2

/-- the attributes as data -/
def putD (f : Str) (d : D) : List (Str × D) → List (Str × D)
  | [] => [(f, d)]
  | (g, x) :: r => if g = f then (g, d) :: r else (g, x) :: putD f d r
theorem fst_put {f : Str} {d : D} {v : V} : ∀ {fs : List (Str × D)} {us : List (Str × V)}, us.map (·.1) = fs.map (·.1) → (putF f v us).map (·.1) = (putD f d fs).map (·.1)
  | [], [], _ => rfl
  | [], _ :: _, h => by cases h
  | _ :: _, [], h => by cases h
  | (g, x) :: r, (k, u) :: t, h => by
    simp only [List.map_cons, List.cons.injEq] at h
    obtain ⟨h1, h2⟩ := h
    subst h1
    show ((if k = f then (k, v) :: t else (k, u) :: putF f v t).map (·.1)) = ((if k = f then (k, d) :: r else (k, x) :: putD f d r).map (·.1))
    by_cases e : k = f
    · rw [if_pos e, if_pos e]; simp [h2]
    · rw [if_neg e, if_neg e, List.map_cons, List.map_cons, fst_put h2]
theorem snd_put {K : PySem.W.Frag} {w : Wd} {f : Str} {d : D} {v : V} (rv : Rep K w d v) : ∀ {fs : List (Str × D)} {us : List (Str × V)}, us.map (·.1) = fs.map (·.1) → Reps K w (fs.map (·.2)) (us.map (·.2)) → Reps K w ((putD f d fs).map (·.2)) ((putF f v us).map (·.2))
  | [], [], _, _ => reps_cons rv reps_nil
  | [], _ :: _, h, _ => by cases h
  | _ :: _, [], h, _ => by cases h
  | (g, x) :: r, (k, u) :: t, h, q => by
    simp only [List.map_cons, List.cons.injEq] at h
    obtain ⟨h1, h2⟩ := h
    subst h1
    obtain ⟨v0, r0, e0, q1, q2⟩ := q
    have e0 : u :: t.map (·.2) = v0 :: r0 := e0
    cases e0
    show Reps K w ((if k = f then (k, d) :: r else (k, x) :: putD f d r).map (·.2)) ((if k = f then (k, v) :: t else (k, u) :: putF f v t).map (·.2))
    by_cases e : k = f
    · rw [if_pos e, if_pos e]; exact reps_cons rv q2
    · rw [if_neg e, if_neg e]; exact reps_cons q1 (snd_put rv h2 q2)
theorem put_len (f : Str) (d : D) : ∀ fs : List (Str × D), (putD f d fs).length ≤ fs.length + 1
  | [] => Nat.le_refl _
  | (g, x) :: r => by
    show (if g = f then (g, d) :: r else (g, x) :: putD f d r).length ≤ _
    by_cases e : g = f
    · rw [if_pos e]; simp
    · rw [if_neg e, List.length_cons, List.length_cons]; have := put_len f d r; omega
theorem look_same {K : PySem.W.Frag} {w : Wd} {f : Str} : ∀ {fs : List (Str × D)} {us : List (Str × V)}, us.map (·.1) = fs.map (·.1) → Reps K w (fs.map (·.2)) (us.map (·.2)) →
    (∀ d, fs.lookup f = some d → ∃ v, us.lookup f = some v ∧ Rep K w d v) ∧ (fs.lookup f = none → us.lookup f = none)
  | [], [], _, _ => ⟨fun d h => (by cases h), fun _ => rfl⟩
  | [], _ :: _, h, _ => by cases h
  | _ :: _, [], h, _ => by cases h
  | (g, x) :: r, (k, u) :: t, h, q => by
    simp only [List.map_cons, List.cons.injEq] at h
    obtain ⟨h1, h2⟩ := h
    subst h1
    obtain ⟨v0, r0, e0, q1, q2⟩ := q
    have e0 : u :: t.map (·.2) = v0 :: r0 := e0
    cases e0
    rw [List.lookup_cons, List.lookup_cons]
    by_cases e : f = k
    · subst e
      rw [beq_self_eq_true]
      refine ⟨fun d hd => ?_, fun hd => ?_⟩
      · have hd : some x = some d := hd
        cases hd
        exact ⟨u, rfl, q1⟩
      · have hd : some x = none := hd
        cases hd
    · have e' : (f == k) = false := beq_eq_false_iff_ne.mpr e
      rw [e']
      exact look_same h2 q2

/-- the instance that a value is: its class, its attributes -/
def insD (st : Store) : D → Option (String × List (Str × D))
  | .ref n => match st[n]? with
    | some (some (.ins C fs)) => some (C, fs)
    | _ => none
  | _ => none
theorem insD_cases {st : Store} {d : D} {C : String} {fs : List (Str × D)} (h : insD st d = some (C, fs)) : ∃ n, d = .ref n ∧ st[n]? = some (some (.ins C fs)) := by
  unfold insD at h
  split at h
  · split at h
    · rename_i n _ _ _ hn
      cases h
      exact ⟨n, rfl, hn⟩
    · cases h
  · cases h
theorem insD_of {st : Store} {n : Nat} {C : String} {fs : List (Str × D)} (h : st[n]? = some (some (.ins C fs))) : insD st (.ref n) = some (C, fs) := by
  show (match st[n]? with | some (some (.ins C fs)) => some (C, fs) | _ => none) = _
  rw [h]
/-- a class of the text -/
def isC (K : PySem.W.Frag) (C : String) (ca : Addr) : Prop := PySem.W.nsIn K mainGlobals (Str.ofString C) = some (some (.ref ca))
theorem isC.uniq {K : PySem.W.Frag} {C : String} {a b : Addr} (h : isC K C a) (h' : isC K C b) : a = b := by
  have e : (some (some (.ref a)) : Option (Option Value)) = some (some (.ref b)) := h.symm.trans h'
  cases e
  rfl
theorem ins_rep {K : PySem.W.Frag} {w : Wd} {d : D} {v : V} {C : String} {fs : List (Str × D)} {ca : Addr} (ok : WOk K w) (hc : isC K C ca) (h : insD w.st d = some (C, fs)) (r : Rep K w d v) :
    ∃ n dx us, d = .ref n ∧ w.st[n]? = some (some (.ins C fs)) ∧ v = .ref (w.bet n) ∧ w.H (w.bet n) = some (.ins ca dx us) ∧ us.map (·.1) = fs.map (·.1) ∧ Reps K w (fs.map (·.2)) (us.map (·.2)) := by
  obtain ⟨n, rfl, hn⟩ := insD_cases h
  obtain ⟨ca', dx, us, h0, h1, h2, h3⟩ := ok.ob n _ hn
  have := hc.uniq h0
  subst this
  exact ⟨n, dx, us, rfl, hn, r.2, h1, h2, h3⟩

section
variable {X : Cx} {W : WX}
/-! ### attributes -/
def fldD (f : Str) (d : D) (st : Store) (cl : List String) : Option D := match insD st d with
  | some (C, fs) => if C ∈ cl then fs.lookup f else none
  | none => none
def sFld (cl : List String) (f : Str) (fo : Env → M D) : Env → M D := fun ρ => bnd (fo ρ) fun o st => ofO (fldD f o st cl) st
structure KF (K : PySem.W.Frag) (f : Str) (C : String) (ca : Addr) : Prop where
  c : isC K C ca
  cl : Cls K ca
  na : NoAttr K ca f
def KFs (K : PySem.W.Frag) (f : Str) (cl : List String) : Prop := ∀ C, C ∈ cl → ∃ ca, KF K f C ca
theorem kfs_nil {K : PySem.W.Frag} {f : Str} : KFs K f [] := fun C h => by cases h
theorem kfs_cons {K : PySem.W.Frag} {f : Str} {C : String} {ca : Addr} {cl : List String} (h : KF K f C ca) (t : KFs K f cl) : KFs K f (C :: cl) := fun D hD => by
  rcases List.mem_cons.1 hD with rfl | hD
  · exact ⟨ca, h⟩
  · exact t D hD
theorem de_fld {cl : List String} {f : Str} {e : Expr} {fo : Env → M D} {pos : Pos} (hk : KFs X.K f cl) (he : DE X W e fo) (hb : attributeBase e f X.env (eval e X.env) = eval e X.env := by rfl) : DE X W (.Attribute e f pos) (sFld cl f fo) := by
  refine (pe_fld he hb).imp fun σ H Q h => (tX.seq0 (R1 := Rep X.K) h).imp fun x H1 ⟨d, h1⟩ => ?_
  obtain ⟨w, ρ, rfl, ok, re, ⟨_, r1⟩, q⟩ := h1
  obtain ⟨y, hy, qq⟩ := at_of (K := X.K) (o := fldD f d w.st cl) rfl q
  clear q
  unfold fldD at hy
  split at hy
  · rename_i C fs hi
    by_cases hc : C ∈ cl
    · rw [if_pos hc] at hy
      obtain ⟨ca, k⟩ := hk C hc
      obtain ⟨n, dx, us, rfl, hn, rfl, h1, h2, h3⟩ := ins_rep ok k.c hi r1
      obtain ⟨v, hv, rv⟩ := (look_same (f := f) h2 h3).1 y hy
      exact ⟨_, ca, dx, us, v, rfl, h1, k.cl, k.na, hv, qq.now ok rv⟩
    · rw [if_neg hc] at hy
      cases hy
  · cases hy
/-- o.f = v -/
def putO (cl : List String) (f : Str) (v o : D) (st : Store) : Option Store := match o with
  | .ref n => match st[n]? with
    | some (some (.ins C fs)) => if C ∈ cl ∧ fs.length < 1000 then some (st.set n (some (.ins C (putD f v fs)))) else none
    | _ => none
  | _ => none
def sSetFld (cl : List String) (f : Str) (fv fo : Env → M D) : SM := sThen (fun ρ => bnd (fv ρ) fun v => bnd (fo ρ) fun o st => match putO cl f v o st with
  | some st' => .ok () st'
  | none => .bad) fun _ ρ st => .nx ρ st
theorem putO_cases {cl : List String} {f : Str} {v o : D} {st st' : Store} (h : putO cl f v o st = some st') : ∃ n C fs, o = .ref n ∧ st[n]? = some (some (.ins C fs)) ∧ C ∈ cl ∧ fs.length < 1000 ∧ st' = st.set n (some (.ins C (putD f v fs))) := by
  unfold putO at h
  split at h
  · split at h
    · rename_i n _ C fs hn
      by_cases hc : C ∈ cl ∧ fs.length < 1000
      · rw [if_pos hc] at h
        cases h
        exact ⟨n, C, fs, rfl, hn, hc.1, hc.2, rfl⟩
      · rw [if_neg hc] at h
        cases h
    · cases h
  · cases h
theorem ds_fld {cl : List String} {f : Str} {o value : Expr} {fv fo : Env → M D} {pos' pos : Pos} (hk : KFs X.K f cl) (hv : DE X W value fv) (ho : DE X W o fo) (hs : swapsWith value (some (.Attribute o f pos')) pos.line X.env = pure false := by rfl) :
    DS X W (.Assign [.Attribute o f pos'] value pos) (sSetFld cl f fv fo) := by
  refine PS.imp (ps_fld ho hv hs) fun D σ H h => ?_
  have h2 := then_imp (R := fun _ (_ : Unit) (_ : Unit) => True) h
  refine (tX.seq0 (R1 := Rep X.K) h2).imp fun x H1 ⟨dv, h3⟩ => ?_
  refine ((tX.seq (R1 := Rep X.K) (mono_and mono0 monoRep) h3).weak).imp fun y H2 ⟨dob, h4⟩ => ?_
  obtain ⟨w, ρ, rfl, ok, re, ⟨⟨_, r1⟩, r2⟩, q⟩ := h4
  cases es : putO cl f dv dob w.st with
  | none => simp only [es] at q; exact q.elim
  | some st' =>
    simp only [es] at q
    obtain ⟨n, C, fs, rfl, hn, hc, hl, rfl⟩ := putO_cases es
    obtain ⟨ca, k⟩ := hk C hc
    obtain ⟨n', dx, us, en, _, rfl, h1, h2, h3⟩ := ins_rep ok k.c (insD_of hn) r2
    cases en
    have hul : us.length = fs.length := by
      have := congrArg List.length h2
      rw [List.length_map, List.length_map] at this
      exact this
    refine ⟨_, ca, dx, us, rfl, h1, k.cl, k.na, by rw [hul]; exact hl, ?_⟩
    have g := Grow.wr (o := .ins ca dx (putF f x us)) (ob' := .ins C (putD f dv fs)) ok hn
    have ok2 : WOk X.K (w.wr n (.ins ca dx (putF f x us)) (.ins C (putD f dv fs))) := ok.wr hn ⟨ca, dx, putF f x us, k.c, upd_same, fst_put h2, Reps.grow g _ _ (snd_put r1 h2 h3)⟩
    obtain ⟨w5, ρ5, _, e5, ok5, re5, _, q5⟩ := q _ g ok2 rfl () trivial
    have e5 : w5.H = upd w.H (w.bet n) (.ins ca dx (putF f x us)) := e5
    have := q5 w5 (Grow.refl w5) ok5 rfl σ re5
    rw [e5] at this
    exact this
end
end PL
/-! PL37: methods, making, properties, len of instances. -/
namespace PL
open PySem PySem.Spec PyProof.Rows L2
/-! ### methods -/
/-- a def as callers know it, where it stands does not matter -/
structure OwnM (P : Program) (wo : World) (K : PySem.W.Frag) (mg : Str → Option Value) (base : Heap) (k : Nat) (fd : FuncData) (f : Addr) (ps : List Str) (n : Nat) (F : List D → M D) : Prop where
  ok : FG P wo K mg base k f fd ps (spF K mg n (arity n F))
  bi : Binds K fd ps []
/-- the class C has F as its method m -/
def KM (P : Program) (wo : World) (K : PySem.W.Frag) (mg : Str → Option Value) (base : Heap) (j : Nat) (m : Str) (C : String) (F : List D → M D) : Prop :=
  ∃ ca f fd ps n G k, isC K C ca ∧ Cls K ca ∧ Meth K ca m f ∧ F = arity n G ∧ OwnM P wo K mg base k fd f ps n G ∧ k ≤ j
abbrev Tb := List (String × (List D → M D))
def KMs (P : Program) (wo : World) (K : PySem.W.Frag) (mg : Str → Option Value) (base : Heap) (j : Nat) (m : Str) (tb : Tb) : Prop := ∀ C F, tb.lookup C = some F → KM P wo K mg base j m C F
section
variable {P : Program} {wo : World} {K : PySem.W.Frag} {mg : Str → Option Value} {base : Heap} {j k : Nat} {m : Str}
theorem kms_nil : KMs P wo K mg base j m [] := fun C F h => by cases h
theorem kms_cons {C : String} {ca f : Addr} {fd : FuncData} {ps : List Str} {n : Nat} {G : List D → M D} {tb : Tb} (c : isC K C ca) (cl : Cls K ca) (me : Meth K ca m f) (o : OwnM P wo K mg base k fd f ps n G) (t : KMs P wo K mg base j m tb) (hk : k ≤ j := by decide) :
    KMs P wo K mg base j m ((C, arity n G) :: tb) := fun D F h => by
  rw [List.lookup_cons] at h
  by_cases e : D = C
  · subst e
    rw [beq_self_eq_true] at h
    cases h
    exact ⟨ca, f, fd, ps, n, G, k, c, cl, me, rfl, o, hk⟩
  · rw [beq_eq_false_iff_ne.mpr e] at h
    exact t D F h
end
def methD (m : Str) (tb : Tb) (o : D) (st : Store) : Option (List D → M D) := match insD st o with
  | some (C, fs) => if (fs.lookup m).isNone then tb.lookup C else none
  | none => none
def sMeth (m : Str) (tb : Tb) (fo : Env → M D) (g : Env → M (List D)) : Env → M D := fun ρ => bnd (fo ρ) fun o => bnd (fun st => ofO (methD m tb o st) st) fun F => bnd (g ρ) fun ds => F (o :: ds)
section
variable {X : Cx} {W : WX} {j : Nat}
theorem spF_of {F : List D → M D} {n : Nat} {w : Wd} {ds : List D} {vs : List V} {σ : L2.St} {Q : VK} (ok : WOk X.K w) (r : Reps X.K w ds vs) (q : Post (cx X W) (Rep X.K) w (arity n F ds w.st) Q ((cx X W).we σ)) : spF X.K X.mg n (arity n F) vs w.H Q (WE W σ) := by
  refine ⟨?_, w, ds, rfl, ok, r, post_ctx (C := cx X W) rfl q⟩
  by_cases e : ds.length = n
  · rw [← r.length]; exact e
  · rw [arity_bad _ _ e] at q
    exact q.elim
/-- the object, its method, the arguments: how a reading of sMeth serves -/
theorem meth_imp {m : Str} {tb : Tb} {fo : Env → M D} {g : Env → M (List D)} {σ : L2.St} {H : Hp} {Q : VK} (hk : KMs X.prog X.w X.K X.mg X.base j m tb) (h : tX (cx X W) (Rep X.K) T0 (sMeth m tb fo g) σ H Q) :
    tX (cx X W) (Rep X.K) T0 fo σ H fun x H1 => ∃ a C dx fs f fd ps n G k, x = .ref a ∧ H1 a = some (.ins C dx fs) ∧ Cls X.K C ∧ Meth X.K C m f ∧ fs.lookup m = none ∧ OwnM X.prog X.w X.K X.mg X.base k fd f ps n G ∧ k ≤ j ∧
      tX (cx X W) (Reps X.K) T0 g σ H1 fun vs H2 => spF X.K X.mg n (arity n G) (.ref a :: vs) H2 Q (WE W σ) := by
  refine (tX.seq0 (R1 := Rep X.K) h).imp fun x H1 ⟨d, h1⟩ => ?_
  obtain ⟨w, ρ, rfl, ok, re, ⟨_, r1⟩, q⟩ := h1
  have q : Post (cx X W) (Rep X.K) w ((ofO (methD m tb d w.st) w.st : Res _).bnd fun F => bnd (g ρ) fun ds => F (d :: ds)) Q ((cx X W).we σ) := q
  cases e : methD m tb d w.st with
  | none => rw [e] at q; exact q.elim
  | some F =>
    rw [e] at q
    have q : Post (cx X W) (Rep X.K) w ((fun ρ => bnd (g ρ) fun ds => F (d :: ds)) ρ w.st) Q ((cx X W).we σ) := q
    unfold methD at e
    cases ei : insD w.st d with
    | none => rw [ei] at e; cases e
    | some p =>
      obtain ⟨C, fs⟩ := p
      rw [ei] at e
      simp only at e
      by_cases hn : (fs.lookup m).isNone = true
      · rw [if_pos hn] at e
        obtain ⟨ca, f, fd, ps, n, G, k, c, cl, me, rfl, O, hkj⟩ := hk C F e
        have r1' := r1
        obtain ⟨n', dx, us, hd, hst, rfl, h1, h2, h3⟩ := ins_rep ok c ei r1
        refine ⟨_, ca, dx, us, f, fd, ps, n, G, k, rfl, h1, cl, me, (look_same h2 h3).2 (Option.isNone_iff_eq_none.mp hn), O, hkj, ?_⟩
        have h4 : tX (cx X W) (Rep X.K) (fun w' => Rep X.K w' d (.ref (w.bet n'))) (fun ρ => bnd (g ρ) fun ds => arity n G (d :: ds)) σ w.H Q := ⟨w, ρ, rfl, ok, re, r1', q⟩
        refine (h4.seq (R1 := Reps X.K) (fun w w' g' r => Rep.grow g' _ _ r)).imp fun vs H2 ⟨ds, h5⟩ => ?_
        obtain ⟨w2, ρ2, rfl, ok2, re2, ⟨r2, r3⟩, q2⟩ := h5
        exact spF_of ok2 (reps_cons r2 r3) q2
      · rw [if_neg hn] at e
        cases e
theorem de_meth {m : Str} {tb : Tb} {pl : Sem Bool} {o e : Expr} {es : List Expr} {apos pos : Pos} {fo : Env → M D} {g : Env → M (List D)} (hk : KMs X.prog X.w X.K X.mg X.base j m tb) (hr : Room j X.A) (hg : X.A.guards = some []) (tk : L2N.Takes X W) (ho : DE X W o fo) (ha : DA X W (e :: es) g)
    (hst : starEach (e :: es) X.env = (false, eval e X.env) :: starEach es X.env := by rfl) (hpl : (backTo pos (starEach es X.env)).any (·.1) = false := by rfl)
    (ht : eval (.Call (.Attribute o m apos) (e :: es) [] pos) X.env = (do
      let ov ← eval o X.env
      standAt apos.atName
      let (f, first) ← holding [ov] (getMethod ov m pl)
      callWith pos f first (backTo pos (starEach (e :: es) X.env)) (backToKw pos (keywordEach [] X.env))) := by rfl) : DE X W (.Call (.Attribute o m apos) (e :: es) [] pos) (sMeth m tb fo g) := by
  refine ⟨fun pins s σ H Q I h => methcall_of (pl := pl) ho I ((meth_imp hk h).imp fun x H1 hh => ?_) ht⟩
  obtain ⟨a, C, dx, fs, f, fd, ps, n, G, k, ex, ea, cl, me, l, O, hkj, q⟩ := hh
  refine ⟨a, C, dx, fs, f, ex, ea, cl, me, l, fun s1 I1 => ?_⟩
  refine PySem.W.callWith_K (first := [.ref a]) (h₀ := X.base) I1.ok.mod.kin me.kp (thn (ha.run pos pins s1 σ H1 _ I1 q) fun us s2 hh => ?_) hst hpl
  obtain ⟨vs, H2, I2, r, q2⟩ := hh
  refine ⟨I2.kIn, run_fg (args := ⟨.ref a :: us, []⟩) (us := .ref a :: us) (vs := .ref a :: vs) O.ok (hr.mono hkj) hg tk (fun nl => ?_) I2 (.cons rfl r) q2⟩
  have := O.bi s2 (.ref a :: us) I2.kIn (by rw [List.append_nil]; exact nl)
  rw [List.append_nil] at this
  exact this
theorem de_meth0 {m : Str} {tb : Tb} {pl : Sem Bool} {o : Expr} {apos pos : Pos} {fo : Env → M D} (hk : KMs X.prog X.w X.K X.mg X.base j m tb) (hr : Room j X.A) (hg : X.A.guards = some []) (tk : L2N.Takes X W) (ho : DE X W o fo)
    (ht : eval (.Call (.Attribute o m apos) [] [] pos) X.env = (do
      let ov ← eval o X.env
      standAt apos.atName
      let (f, first) ← holding [ov] (getMethod ov m pl)
      callWith pos f first (backTo pos (starEach [] X.env)) (backToKw pos (keywordEach [] X.env))) := by rfl) : DE X W (.Call (.Attribute o m apos) [] [] pos) (sMeth m tb fo sNil) := by
  refine ⟨fun pins s σ H Q I h => methcall_of (pl := pl) ho I ((meth_imp hk h).imp fun x H1 hh => ?_) ht⟩
  obtain ⟨a, C, dx, fs, f, fd, ps, n, G, k, ex, ea, cl, me, l, O, hkj, q⟩ := hh
  refine ⟨a, C, dx, fs, f, ex, ea, cl, me, l, fun s1 I1 => ?_⟩
  obtain ⟨w, ρ, rfl, ok, re, _, q⟩ := q
  have q2 := q w (Grow.refl w) ok rfl [] reps_nil
  refine PySem.W.callWith_K0 (first := [.ref a]) I1.kIn me.kp (run_fg (args := ⟨[.ref a], []⟩) (us := [.ref a]) (vs := [.ref a]) O.ok (hr.mono hkj) hg tk (fun nl => ?_) I1 (.cons rfl .nil) q2)
  have := O.bi s1 [.ref a] I1.kIn (by rw [List.append_nil]; exact nl)
  rw [List.append_nil] at this
  exact this

/-! ### properties -/
/-- F of the object, no exception -/
def sProp (f : Str) (tb : Tb) (fo : Env → M D) : Env → M D := fun ρ => bnd (fo ρ) fun o st => match methP tb o st with
  | some F => (match F [o] st with
    | .ok d st' => .ok d st'
    | _ => .bad)
  | none => .bad
where methP (tb : Tb) (o : D) (st : Store) : Option (List D → M D) := (insD st o).bind fun p => tb.lookup p.1
def KP (P : Program) (wo : World) (K : PySem.W.Frag) (mg : Str → Option Value) (base : Heap) (j : Nat) (f : Str) (tb : Tb) : Prop :=
  ∀ C F, tb.lookup C = some F → ∃ ca p g fd G k, isC K C ca ∧ Cls K ca ∧ PropOf K ca f p g ∧ F = arity 1 G ∧ OwnM P wo K mg base k fd g ["self"] 1 G ∧ k + 1 ≤ j
theorem kp_nil {P : Program} {wo : World} {K : PySem.W.Frag} {mg : Str → Option Value} {base : Heap} {f : Str} : KP P wo K mg base j f [] := fun C F h => by cases h
theorem kp_cons {P : Program} {wo : World} {K : PySem.W.Frag} {mg : Str → Option Value} {base : Heap} {f : Str} {k : Nat} {C : String} {ca p g : Addr} {fd : FuncData} {G : List D → M D} {tb : Tb} (c : isC K C ca) (cl : Cls K ca) (me : PropOf K ca f p g) (o : OwnM P wo K mg base k fd g ["self"] 1 G) (t : KP P wo K mg base j f tb)
    (hk : k + 1 ≤ j := by decide) : KP P wo K mg base j f ((C, arity 1 G) :: tb) := fun D F h => by
  rw [List.lookup_cons] at h
  by_cases e : D = C
  · subst e
    rw [beq_self_eq_true] at h
    cases h
    exact ⟨ca, p, g, fd, G, k, c, cl, me, rfl, o, hk⟩
  · rw [beq_eq_false_iff_ne.mpr e] at h
    exact t D F h
theorem getp_fg {k : Nat} {C p g a dx : Addr} {fs : List (Str × V)} {f : Str} {fd : FuncData} {G : List D → M D} {pins : List (Addr × Obj)} {σ : L2.St} {H : Hp} {s : Shared} {Q : VK} {b : Bool} {E' : Value → Shared → Prop} (I : Inv X pins σ H s) (ea : H a = some (.ins C dx fs)) (c : Cls X.K C) (hp : PropOf X.K C f p g)
    (O : OwnM X.prog X.w X.K X.mg X.base k fd g ["self"] 1 G) (hr : Room (k + 1) X.A) (hg : X.A.guards = some []) (h : spF X.K X.mg 1 (arity 1 G) [.ref a] H Q fun _ _ _ => False) : wpAny (model X.prog X.w) X.A (getAttr (.ref a) f b) (EP X pins σ Q) E' s := by
  obtain ⟨mA, OM, _, _, _, _⟩ := ins_get I.hok ea
  obtain ⟨od, J, _⟩ := OM.look
  obtain ⟨rest, hrec⟩ := hp.rec_
  have J1 := I.tok (s.toks + 1)
  have hcls : (PySem.W.clsIn X.K C).isSome = true := by
    obtain ⟨cd, hcd, _⟩ := PySem.W.any_some c.hd
    rw [hcd] <;> rfl
  refine PySem.W.get_bind I.kIn J (PySem.W.plainGet_of (c.get f)).1 (PySem.W.findObj_data hcls hp.at_ hp.get hp.tak) (PySem.W.plainGet_of (c.get f)).2 (wpAny_call (PySem.W.prop_get (s := { s with toks := s.toks + 1 }) I.kIn hrec (codeAny_mono (O.ok.run X.A.in1 X.stack { s with toks := s.toks + 1 } H ⟨[.ref a], []⟩ [.ref a] [.ref a] Q _ hr.in1 hg J1.env0.in1 ?_ (.cons rfl .nil) h) fun r s' hq => ?_)))
  · have := O.bi { s with toks := s.toks + 1 } [.ref a] J1.kIn rfl
    rw [List.append_nil] at this
    exact this
  · cases r with
    | error er => obtain ⟨_, _, _, _, _, _, _, _, _, _, _, _, z⟩ := hq; exact z.elim
    | ok fl =>
      cases fl with
      | ret u =>
        obtain ⟨v, H', I3, rv, q3⟩ := J1.after hq
        show wpAny _ _ (handedOut u) _ _ _
        rw [PySem.W.handedOut_of (handed_of rv)]
        exact wpAny_pure ⟨v, H', I3, rv, q3⟩
      | next => exact hq.elim
      | brk => exact hq.elim
      | cont => exact hq.elim
theorem de_prop {f : Str} {tb : Tb} {e : Expr} {fo : Env → M D} {pos : Pos} (hk : KP X.prog X.w X.K X.mg X.base j f tb) (hr : Room j X.A) (hg : X.A.guards = some []) (he : DE X W e fo) (hab : attributeBase e f X.env (eval e X.env) = eval e X.env := by rfl) : DE X W (.Attribute e f pos) (sProp f tb fo) := by
  refine ⟨fun pins s σ H Q I h => attr_of hab (thn (he.run pins s σ H _ I ((tX.seq0 (R1 := Rep X.K) h).imp fun x H1 hh => hh)) fun u s1 hh => ?_)⟩
  obtain ⟨x, H1, I1, rx, d, w, ρ, rfl, ok, re, ⟨_, r1⟩, q⟩ := hh
  have q : Post (cx X W) (Rep X.K) w (match sProp.methP tb d w.st with | some F => (match F [d] w.st with | .ok d st' => .ok d st' | _ => .bad) | none => .bad) Q ((cx X W).we σ) := q
  cases em : sProp.methP tb d w.st with
  | none => rw [em] at q; exact q.elim
  | some F =>
    rw [em] at q
    unfold sProp.methP at em
    cases ei : insD w.st d with
    | none => rw [ei] at em; cases em
    | some p =>
      obtain ⟨C, fs⟩ := p
      rw [ei] at em
      obtain ⟨ca, pr, g, fd, G, k, c, cl, me, rfl, O, hkj⟩ := hk C F em
      have r1' := r1
      obtain ⟨n', dx, us, hd, hst, rfl, h1, h2, h3⟩ := ins_rep ok c ei r1
      cases (show u = Value.ref (w.bet n') from rx)
      refine getp_fg I1 h1 cl me O (hr.mono hkj) hg ⟨rfl, w, [d], rfl, ok, reps_cons r1' reps_nil, ?_⟩
      simp only at q
      cases eF : arity 1 G [d] w.st with
      | bad => rw [eF] at q; exact q.elim
      | exc e st => rw [eF] at q; exact q.elim
      | ok y st => rw [eF] at q; exact q
end
end PL
/-! PL38: making instances; len, isinstance; star displays. -/
namespace PL
open PySem PySem.Spec PyProof.Rows L2
def mkD (C : String) (G : D → M D) : M D := fun st => (G (.ref st.length) (st ++ [some (.ins C [])])).bnd fun r => match r with
  | .non => ret (.ref st.length)
  | _ => badM
def sMk (C : String) (a b : Nat) (idx : List Nat) (dd : List D) (F : List D → M D) (g h : Env → M (List D)) : Env → M D := fun ρ => bnd (g ρ) fun ds => bnd (h ρ) fun es => if ds.length = a ∧ es.length = b then mkD C (fun o => F (permL idx (o :: (ds ++ (es ++ dd))))) else badM
/-- the class x: what makes an instance; a, ks: how it is called; dd: the defaults -/
structure KMk (P : Program) (wo : World) (K : PySem.W.Frag) (mg : Str → Option Value) (base : Heap) (k : Nat) (C : String) (ca f : Addr) (fd : FuncData) (ps ks : List Str) (a n : Nat) (idx : List Nat) (dd : List D) (F : List D → M D) : Prop where
  c : isC K C ca
  mk_ : Mk K ca f
  ok : FG P wo K mg base k f fd ps (spF K mg n (arity n F))
  bi : ∃ (dvs : List V) (dv : List Value), Vals dvs dv ∧ (∀ w, Reps K w dd dvs) ∧ ∀ (s : Shared) (us ws : List Value), K.In s.heap → us.length = a + 1 → ws.length = ks.length → BindsTo s fd ⟨us, ks.zip ws⟩ (ps.zip (permL idx (us ++ (ws ++ dv))))
theorem make_guards {A : Around} {C : Addr} {us : List Value} {kw : List (Str × Value)} : (A.under (.builtin "type.__call__" ⟨.ref C :: us, kw⟩)).guards = A.guards := by
  first
  | rfl
  | (cases h : A.guards <;> simp [Around.under, h, pushGuards, Code.guards, Code.isGuard, guardIds])
section
variable {X : Cx} {W : WX} {j k : Nat} {C : String} {ca f : Addr} {fd : FuncData} {ps ks : List Str} {a b n : Nat} {idx : List Nat} {dd : List D} {F : List D → M D}
theorem run_mk {pins : List (Addr × Obj)} {σ : L2.St} {H : Hp} {s : Shared} {Q : VK} {us ws : List Value} {vs zs : List V} (M : KMk X.prog X.w X.K X.mg X.base k C ca f fd ps ks a n idx dd F) (hr : Room j X.A) (hj : k + 1 ≤ j) (hg : X.A.guards = some []) (tk : L2N.Takes X W) (I : Inv X pins σ H s) (r : Vals vs us) (rz : Vals zs ws)
    (h : ∃ w ds es, w.H = H ∧ WOk X.K w ∧ Reps X.K w ds vs ∧ Reps X.K w es zs ∧ ds.length = a ∧ es.length = ks.length ∧ Post (cx X W) (Rep X.K) w (mkD C (fun o => arity n F (permL idx (o :: (ds ++ (es ++ dd))))) w.st) Q ((cx X W).we σ)) :
    wpAny (model X.prog X.w) X.A (call (.ref ca) us (ks.zip ws)) (EP X pins σ Q) X.xe s := by
  obtain ⟨w, ds, es, rfl, ok, r1, r2, l1, l2, q⟩ := h
  obtain ⟨dvs, dv, hv, hd, hbi⟩ := M.bi
  have np : w.H s.heap.objs.size = none := I.hok.fresh (Nat.le_refl _)
  have nx : w.H (s.heap.objs.size + 1) = none := I.hok.fresh (Nat.le_succ _)
  have ne : s.heap.objs.size + 1 ≠ s.heap.objs.size := Nat.ne_of_gt (Nat.lt_succ_self _)
  have ok1 := ok.new (o := .own (s.heap.objs.size + 1)) np
  have g1 := Grow.new (o := .own (s.heap.objs.size + 1)) ok np
  have nx1 : (w.put s.heap.objs.size (.own (s.heap.objs.size + 1))).H (s.heap.objs.size + 1) = none := by
    show upd w.H _ _ _ = none
    rw [upd_ne ne]; exact nx
  have g2 := Grow.alloc (o := .ins ca s.heap.objs.size []) (ob := .ins C []) ok1 nx1
  have ok2 : WOk X.K ((w.put s.heap.objs.size (.own (s.heap.objs.size + 1))).alloc (s.heap.objs.size + 1) (.ins ca s.heap.objs.size []) (.ins C [])) := ok1.alloc nx1 ⟨ca, s.heap.objs.size, [], M.c, upd_same, rfl, reps_nil⟩
  have I2 := Inv.made (C := ca) I
  have g12 := g1.trans g2
  have rself : Rep X.K ((w.put s.heap.objs.size (.own (s.heap.objs.size + 1))).alloc (s.heap.objs.size + 1) (.ins ca s.heap.objs.size []) (.ins C [])) (.ref w.st.length) (.ref (s.heap.objs.size + 1)) := rep_alloc
  have rall := permL_reps (idx := idx) (reps_cons rself ((Reps.grow g12 _ _ r1).app ((Reps.grow g12 _ _ r2).app (hd _))))
  have vall : Vals (permL idx (V.ref (s.heap.objs.size + 1) :: (vs ++ (zs ++ dvs)))) (permL idx (Value.ref (s.heap.objs.size + 1) :: (us ++ (ws ++ dv)))) := permL_vals (.cons rfl (r.append (rz.append hv)))
  have q : Post (cx X W) (Rep X.K) w (((arity n F (permL idx (.ref w.st.length :: (ds ++ (es ++ dd))))) (w.st ++ [some (.ins C [])])).bnd fun r => match r with | .non => ret (.ref w.st.length) | _ => badM) Q ((cx X W).we σ) := q
  have sp : spF X.K X.mg n (arity n F) (permL idx (V.ref (s.heap.objs.size + 1) :: (vs ++ (zs ++ dvs)))) (upd (upd w.H s.heap.objs.size (.own (s.heap.objs.size + 1))) (s.heap.objs.size + 1) (.ins ca s.heap.objs.size [])) (fun v H2 => v = .non ∧ Q (.ref (s.heap.objs.size + 1)) H2) (WE W σ) := by
    refine spF_of (X := X) (W := W) ok2 rall ?_
    show Post _ _ _ (arity n F (permL idx (.ref w.st.length :: (ds ++ (es ++ dd)))) (w.st ++ [some (.ins C [])])) _ _
    cases e : arity n F (permL idx (.ref w.st.length :: (ds ++ (es ++ dd)))) (w.st ++ [some (.ins C [])]) with
    | bad => rw [e] at q; exact q.elim
    | exc x st => rw [e] at q; exact fun w' g ok' es' => q w' (g12.trans g) ok' es'
    | ok y st =>
      rw [e] at q
      intro w' g ok' es' v rv
      cases y with
      | non =>
        have q : Post (cx X W) (Rep X.K) w (.ok (.ref w.st.length) st) Q _ := q
        refine ⟨rv, q w' (g12.trans g) ok' es' _ ?_⟩
        exact Rep.grow g _ _ rself
      | _ => exact q.elim
  have hus : us.length = a := by rw [← r.length, ← r1.length]; exact l1
  have hws : ws.length = ks.length := by rw [← rz.length, ← r2.length]; exact l2
  have bind := hbi { s with heap := (s.heap.push PySem.W.emptyDict).push (PySem.W.instObj ca s.heap.objs.size) } (Value.ref (s.heap.objs.size + 1) :: us) ws I2.kIn (congrArg Nat.succ hus) hws
  refine wpAny_call (make_map (f := f) I.kIn M.mk_.makes M.mk_.init (beq_iff_eq.mp M.mk_.fn) (codeAny_mono (M.ok.run _ X.stack _ _ ⟨Value.ref (s.heap.objs.size + 1) :: us, ks.zip ws⟩ _ _ _ (WE W σ) ((hr.mono hj).make ca us (ks.zip ws)) (make_guards.trans hg) (I2.env0.make ca us (ks.zip ws)) bind vall sp) fun rs s' hq => ?_))
  cases rs with
  | error e => exact L2N.passAt tk σ pins _ _ e s' I2 hq
  | ok fl =>
    cases fl with
    | ret u =>
      obtain ⟨v, H', I3, rv, ev, q3⟩ := I2.after hq
      subst ev
      exact ⟨rv, ⟨V.ref (s.heap.objs.size + 1), H', I3, rfl, q3⟩⟩
    | next => exact hq.elim
    | brk => exact hq.elim
    | cont => exact hq.elim
theorem mk_imp {g h : Env → M (List D)} {σ : L2.St} {H : Hp} {Q : VK} (hq : tX (cx X W) (Rep X.K) T0 (sMk C a b idx dd (arity n F) g h) σ H Q) :
    tX (cx X W) (Reps X.K) T0 g σ H fun vs H1 => tX (cx X W) (Reps X.K) T0 h σ H1 fun zs H2 => ∃ w ds es, w.H = H2 ∧ WOk X.K w ∧ Reps X.K w ds vs ∧ Reps X.K w es zs ∧ ds.length = a ∧ es.length = b ∧ Post (cx X W) (Rep X.K) w (mkD C (fun o => arity n F (permL idx (o :: (ds ++ (es ++ dd))))) w.st) Q ((cx X W).we σ) := by
  refine (tX.seq0 (R1 := Reps X.K) hq).imp fun x H1 ⟨ds, h1⟩ => ?_
  refine ((tX.seq (R1 := Reps X.K) (mono_and mono0 monoReps) h1).weak).imp fun y H2 ⟨es, h2⟩ => ?_
  obtain ⟨w, ρ, rfl, ok, re, ⟨⟨_, r1⟩, r2⟩, q⟩ := h2
  have q : Post (cx X W) (Rep X.K) w ((if ds.length = a ∧ es.length = b then mkD C (fun o => arity n F (permL idx (o :: (ds ++ (es ++ dd))))) else badM) w.st) Q ((cx X W).we σ) := q
  by_cases hl : ds.length = a ∧ es.length = b
  · rw [if_pos hl] at q
    exact ⟨w, ds, es, rfl, ok, r1, r2, hl.1, hl.2, q⟩
  · rw [if_neg hl] at q
    exact q.elim
/-- C(e, ..) -/
theorem de_mk {g : Env → M (List D)} {x : Str} {e : Expr} {es : List Expr} {p pos : Pos} (M : KMk X.prog X.w X.K X.mg X.base k C ca f fd ps [] a n idx dd F) (hm : X.mg x = some (.ref ca)) (hr : Room j X.A) (hj : k + 1 ≤ j) (hg : X.A.guards = some []) (tk : L2N.Takes X W) (ha : DA X W (e :: es) g) (hgl : Gl X x := by rfl)
    (hdb : (x == ("__debug__" : Str)) = false := by decide) (he : starEach (e :: es) X.env = (false, eval e X.env) :: starEach es X.env := by rfl) (hpl : (backTo pos (starEach es X.env)).any (·.1) = false := by rfl) :
    DE X W (.Call (.Name x p) (e :: es) [] pos) (sMk C a 0 idx dd (arity n F) g sNil) := by
  refine ⟨fun pins s σ H Q I hq => wpAny_Call_Name_kw (ld_glob I hgl hm ?_ hdb)⟩
  refine PySem.W.callWith_K (h₀ := X.base) I.ok.mod.kin M.mk_.kp (thn (ha.run pos pins s σ H _ I (mk_imp hq)) fun us s1 hh => ?_) he hpl
  obtain ⟨vs, H1, I1, r, w, ρ, rfl, ok, re, _, q⟩ := hh
  exact ⟨I1.kIn, run_mk (ws := []) M hr hj hg tk I1 r .nil (q w (Grow.refl w) ok rfl [] reps_nil)⟩
/-- C() -/
theorem de_mk0 {x : Str} {p pos : Pos} (M : KMk X.prog X.w X.K X.mg X.base k C ca f fd ps [] 0 n idx dd F) (hm : X.mg x = some (.ref ca)) (hr : Room j X.A) (hj : k + 1 ≤ j) (hg : X.A.guards = some []) (tk : L2N.Takes X W) (hgl : Gl X x := by rfl) (hdb : (x == ("__debug__" : Str)) = false := by decide) :
    DE X W (.Call (.Name x p) [] [] pos) (sMk C 0 0 idx dd (arity n F) sNil sNil) := by
  refine ⟨fun pins s σ H Q I hq => wpAny_Call_Name_kw (ld_glob I hgl hm ?_ hdb)⟩
  obtain ⟨w, ρ, rfl, ok, re, _, q⟩ := mk_imp hq
  obtain ⟨w2, ρ2, e2, ok2, re2, _, q2⟩ := q w (Grow.refl w) ok rfl [] reps_nil
  have q3 := q2 w2 (Grow.refl w2) ok2 rfl [] reps_nil
  rw [e2] at q3
  exact PySem.W.callWith_K0 I.kIn M.mk_.kp (run_mk (us := []) (ws := []) M hr hj hg tk I .nil .nil q3)
/-- C(k = v, ..) -/
theorem de_mkK0 {h : Env → M (List D)} {x : Str} {kws : List Keyword} {p pos : Pos} (M : KMk X.prog X.w X.K X.mg X.base k C ca f fd ps ks 0 n idx dd F) (hm : X.mg x = some (.ref ca)) (hr : Room j X.A) (hj : k + 1 ≤ j) (hg : X.A.guards = some []) (tk : L2N.Takes X W) (hk : DK X W kws h) (hb : ks.length = b := by rfl) (hgl : Gl X x := by rfl)
    (hall : (backToKw pos (keywordEach kws X.env)).all (·.1.isSome) = true := by rfl) (hks : (backToKw pos (keywordEach kws X.env)).filterMap (·.1) = ks := by rfl) (hdb : (x == ("__debug__" : Str)) = false := by decide)
    (hpl : ((backTo pos (starEach [] X.env)).any (·.1) || (backToKw pos (keywordEach kws X.env)).any (·.1.isNone)) = false := by rfl) :
    DE X W (.Call (.Name x p) [] kws pos) (sMk C 0 b idx dd (arity n F) sNil h) := by
  subst hb
  refine ⟨fun pins s σ H Q I hq => wpAny_Call_Name_kw (ld_glob I hgl hm ?_ hdb)⟩
  obtain ⟨w, ρ, rfl, ok, re, _, q⟩ := mk_imp hq
  have q1 := q w (Grow.refl w) ok rfl [] reps_nil
  refine PySem.W.callWith_KW0 (h₀ := X.base) I.ok.mod.kin M.mk_.kp hall (thn (hk.run pos pins s σ _ _ I q1) ?_) hpl
  intro ws s2 hq2
  obtain ⟨zs, H2, I2, rz, q2⟩ := hq2
  rw [hks]
  exact ⟨I2.kIn, run_mk (us := []) M hr hj hg tk I2 .nil rz q2⟩
/-- C(e, .., k = v, ..) -/
theorem de_mkK {g h : Env → M (List D)} {x : Str} {e : Expr} {es : List Expr} {kws : List Keyword} {p pos : Pos} (M : KMk X.prog X.w X.K X.mg X.base k C ca f fd ps ks a n idx dd F) (hm : X.mg x = some (.ref ca)) (hr : Room j X.A) (hj : k + 1 ≤ j) (hg : X.A.guards = some []) (tk : L2N.Takes X W) (ha : DA X W (e :: es) g) (hk : DK X W kws h) (hb : ks.length = b := by rfl) (hgl : Gl X x := by rfl)
    (hall : (backToKw pos (keywordEach kws X.env)).all (·.1.isSome) = true := by rfl) (hks : (backToKw pos (keywordEach kws X.env)).filterMap (·.1) = ks := by rfl) (hdb : (x == ("__debug__" : Str)) = false := by decide)
    (he : starEach (e :: es) X.env = (false, eval e X.env) :: starEach es X.env := by rfl) (hpl : ((backTo pos (starEach (e :: es) X.env)).any (·.1) || (backToKw pos (keywordEach kws X.env)).any (·.1.isNone)) = false := by rfl) :
    DE X W (.Call (.Name x p) (e :: es) kws pos) (sMk C a b idx dd (arity n F) g h) := by
  subst hb
  refine ⟨fun pins s σ H Q I hq => wpAny_Call_Name_kw (ld_glob I hgl hm ?_ hdb)⟩
  refine PySem.W.callWith_KW (h₀ := X.base) I.ok.mod.kin M.mk_.kp hall (thn (ha.run pos pins s σ H _ I (mk_imp hq)) fun us s1 hh => ?_) hpl he
  obtain ⟨vs, H1, I1, r, q⟩ := hh
  refine thn (hk.run pos pins s1 σ _ _ I1 q) fun ws s2 hq2 => ?_
  obtain ⟨zs, H2, I2, rz, q2⟩ := hq2
  rw [hks]
  exact ⟨I2.kIn, run_mk M hr hj hg tk I2 r rz q2⟩

/-! ### isinstance of an instance -/
/-- what a class must say for isinstance -/
structure KIs (K : PySem.W.Frag) (C : String) (ca T : Addr) (b : Bool) : Prop where
  c : isC K C ca
  cl : Cls K ca
  ha : PySem.W.findIn K (.ref ca) "__class__" = some (some (.builtin "object.__class__"))
  hn : PySem.W.specialIn K (.builtin "object.__class__") "__get__" = some (some (.builtin "getset_descriptor.__get__"))
  ht : PySem.W.takesIn K (.builtin "object.__class__") = some true
  hm : PySem.W.mroIn K ca (.type "object") = some true
  ki : PySem.W.kitOne K (.ref ca) (.ref T) = some b
def KIss (K : PySem.W.Frag) (T : Addr) (l : List (String × Bool)) : Prop := ∀ C b, l.lookup C = some b → ∃ ca, KIs K C ca T b
theorem kis_nil {K : PySem.W.Frag} {T : Addr} : KIss K T [] := fun C b h => by cases h
theorem kis_cons {K : PySem.W.Frag} {T ca : Addr} {C : String} {b : Bool} {l : List (String × Bool)} (h : KIs K C ca T b) (t : KIss K T l) : KIss K T ((C, b) :: l) := fun D c hc => by
  rw [List.lookup_cons] at hc
  by_cases e : D = C
  · subst e
    rw [beq_self_eq_true] at hc
    cases hc
    exact ⟨ca, h⟩
  · rw [beq_eq_false_iff_ne.mpr e] at hc
    exact t D c hc
def isO (l : List (String × Bool)) (o : D) (st : Store) : Option D := match insD st o with
  | some (C, _) => (l.lookup C).map D.bl
  | none => none
def sIsO (l : List (String × Bool)) (fo : Env → M D) : Env → M D := fun ρ => bnd (fo ρ) fun o st => ofO (isO l o st) st
theorem call_isO {T : Addr} : CallR X (.builtin "isinstance") (fun xs H Q => ∃ x t b, xs = [x, .ref T] ∧ TyOf X.K H x t ∧ PySem.W.kitOne X.K t (.ref T) = some b ∧ Q (.bl b) H) := by
  intro pins s σ H xs us Q I r h
  obtain ⟨x, t, b, rfl, ty, e, q⟩ := h
  obtain ⟨u1, u2, rfl, r1, r2⟩ := vals2 r
  cases (show u2 = Value.ref T from r2)
  exact isinst_ok I r1 ty e fun tk => ⟨.bl b, H, I.tok tk, rfl, q⟩
theorem de_isO {l : List (String × Bool)} {T : Addr} {x : Str} {e : Expr} {fo : Env → M D} {p p2 pos : Pos} (hl : KIss X.K T l) (hT : X.mg x = some (.ref T)) (hz : X.mg "isinstance" = none) (ho : DE X W e fo) (hgl : Gl X x := by rfl) (hgi : Gl X "isinstance" := by rfl) (hdb : (x == ("__debug__" : Str)) = false := by decide)
    (he : starEach [e, .Name x p2] X.env = (false, eval e X.env) :: starEach [.Name x p2] X.env := by rfl) (hs : starEach [.Name x p2] X.env = (false, eval (.Name x p2) X.env) :: starEach [] X.env := by rfl) (hpl : (backTo pos (starEach [.Name x p2] X.env)).any (·.1) = false := by rfl) :
    DE X W (.Call (.Name "isinstance" p) [e, .Name x p2] [] pos) (sIsO l fo) := by
  refine (pe_callB (call_isO (T := T)) hgi hz boot_isinstance (pa_cons ho (pa_cons (pe_glob (v := .ref T) hgl hT rfl hdb) pa_nil hs) he) (by decide) (by decide) he hpl).imp fun σ H Q h => ?_
  refine (tX.seq0 (R1 := Rep X.K) h).imp fun y H1 ⟨d, h1⟩ => ?_
  obtain ⟨w, ρ, rfl, ok, re, ⟨_, r1⟩, q⟩ := h1
  obtain ⟨z, hz, qq⟩ := at_of (K := X.K) (o := isO l d w.st) rfl q
  clear q
  unfold isO at hz
  cases ei : insD w.st d with
  | none => rw [ei] at hz; cases hz
  | some pr =>
    obtain ⟨C, fs⟩ := pr
    rw [ei] at hz
    cases eb : l.lookup C with
    | none => simp only [eb] at hz; cases hz
    | some b =>
      simp only [eb] at hz
      cases hz
      obtain ⟨ca, k⟩ := hl C b eb
      obtain ⟨n', dx, us, hd, hst, rfl, h1, h2, h3⟩ := ins_rep ok k.c ei r1
      exact ⟨_, _, b, rfl, .ins h1 k.cl k.ha k.hn k.ht k.hm, k.ki, qq.now ok rfl⟩

/-! ### len of an instance -/
/-- len(o): F of the object -/
def lenO (tb : Tb) (o : D) (st : Store) : Res D := match (insD st o).bind fun p => tb.lookup p.1 with
  | some F => (match F [o] st with
    | .ok (.int i) st' => if 0 ≤ i ∧ i < 2 ^ 62 then .ok (.int i) st' else .bad
    | _ => .bad)
  | none => .bad
def sLenO (tb : Tb) (fo : Env → M D) : Env → M D := fun ρ => bnd (fo ρ) fun o st => lenO tb o st
theorem len_own {k : Nat} {C g a dx : Addr} {fs : List (Str × V)} {fd : FuncData} {G : List D → M D} {pins : List (Addr × Obj)} {σ : L2.St} {H : Hp} {s : Shared} {Q : VK} (I : Inv X pins σ H s) (ea : H a = some (.ins C dx fs)) (c : Cls X.K C) (me : Meth X.K C "__len__" g)
    (O : OwnM X.prog X.w X.K X.mg X.base k fd g ["self"] 1 G) (hr : Room (k + 1) X.A) (hg : X.A.guards = some []) (h : spF X.K X.mg 1 (arity 1 G) [.ref a] H (fun v H' => ∃ i : Int, v = .int i ∧ (0 ≤ i ∧ i < 2 ^ 62) ∧ Q v H') fun _ _ _ => False) :
    wpAny (model X.prog X.w) X.A (call (.builtin "len") [.ref a]) (EP X pins σ Q) X.xe s := by
  obtain ⟨mA, OM, _, _, _, _⟩ := ins_get I.hok ea
  obtain ⟨od, J, _⟩ := OM.look
  refine Calls.call_function_entry kind_len plain_len entry_len (args_len1 _) ?_
  unfold Builtin.«len»
  refine wpAny_bind (m := oneArg "len" _) (wpAny_pure ?_)
  refine wpAny_bind (m := callSpecial? (.ref a) (Str.ofString "__len__")) ?_
  unfold callSpecial? specialOf
  refine wpAny_bind (wpAny_bind (J.type.here ((PySem.W.looks_findIn I.kIn me.at_).here ?_)))
  refine wpAny_holding (wpAny_bind ((PySem.W.bind_fn I.kIn (.ref a) (beq_iff_eq.mp me.fn)).here ?_))
  have go := O.ok.run X.A.in1 X.stack s H ⟨[.ref a], []⟩ [.ref a] [.ref a] _ _ hr.in1 hg I.env0.in1 (by
    have := O.bi s [.ref a] I.kIn rfl
    rw [List.append_nil] at this
    exact this) (.cons rfl .nil) h
  refine wpAny_bind (wpAny_call (codeAny_mono go fun r s' hq => ?_))
  cases r with
  | error er => obtain ⟨_, _, _, _, _, _, _, _, _, _, _, _, z⟩ := hq; exact z.elim
  | ok fl =>
    cases fl with
    | ret u =>
      obtain ⟨v, H', I3, rv, i, rfl, hi, q3⟩ := I.after hq
      obtain ⟨t, rfl⟩ := rv
      show wpAny _ _ (pure (some (Value.int i t))) _ _ _
      refine wpAny_pure ?_
      refine wpAny_bind (wpAny_holding (wpAny_pure ?_))
      refine wpAny_bind (wpAny_letGo ?_)
      show wpAny _ _ (if i < 0 then _ else _) _ _ _
      rw [if_neg (by omega)]
      show wpAny _ _ (if i ≥ 2 ^ 63 then _ else _) _ _ _
      rw [if_neg (by omega)]
      exact wpAny_bind (wpAny_mkInt (wpAny_pure ⟨_, rfl, ⟨.int i, H', I3.tok _, ⟨_, rfl⟩, q3⟩⟩))
    | next => exact hq.elim
    | brk => exact hq.elim
    | cont => exact hq.elim
def KL (P : Program) (wo : World) (K : PySem.W.Frag) (mg : Str → Option Value) (base : Heap) (j : Nat) (tb : Tb) : Prop :=
  ∀ C F, tb.lookup C = some F → ∃ ca g fd G k, isC K C ca ∧ Cls K ca ∧ Meth K ca "__len__" g ∧ F = arity 1 G ∧ OwnM P wo K mg base k fd g ["self"] 1 G ∧ k + 1 ≤ j
theorem kl_nil {P : Program} {wo : World} {K : PySem.W.Frag} {mg : Str → Option Value} {base : Heap} : KL P wo K mg base j [] := fun C F h => by cases h
theorem kl_cons {P : Program} {wo : World} {K : PySem.W.Frag} {mg : Str → Option Value} {base : Heap} {k : Nat} {C : String} {ca g : Addr} {fd : FuncData} {G : List D → M D} {tb : Tb} (c : isC K C ca) (cl : Cls K ca) (me : Meth K ca "__len__" g) (o : OwnM P wo K mg base k fd g ["self"] 1 G) (t : KL P wo K mg base j tb)
    (hk : k + 1 ≤ j := by decide) : KL P wo K mg base j ((C, arity 1 G) :: tb) := fun D F h => by
  rw [List.lookup_cons] at h
  by_cases e : D = C
  · subst e
    rw [beq_self_eq_true] at h
    cases h
    exact ⟨ca, g, fd, G, k, c, cl, me, rfl, o, hk⟩
  · rw [beq_eq_false_iff_ne.mpr e] at h
    exact t D F h
theorem de_lenO {tb : Tb} {e : Expr} {fo : Env → M D} {p pos : Pos} (hk : KL X.prog X.w X.K X.mg X.base j tb) (hr : Room j X.A) (hg : X.A.guards = some []) (hz : X.mg "len" = none) (ho : DE X W e fo) (hgl : Gl X "len" := by rfl)
    (he : starEach [e] X.env = (false, eval e X.env) :: starEach [] X.env := by rfl) (hpl : (backTo pos (starEach [] X.env)).any (·.1) = false := by rfl) : DE X W (.Call (.Name "len" p) [e] [] pos) (sLenO tb fo) := by
  refine ⟨fun pins s σ H Q I h => wpAny_Call_Name_kw (ld_blt I hgl hz boot_len ?_ (by decide) (by decide))⟩
  have h0 : tCons (tX (cx X W) (Rep X.K) T0 fo) tNil σ H fun vs H1 => ∃ x, vs = [x] ∧ ∃ a, tX (cx X W) (Rep X.K) (fun w => True ∧ Rep X.K w a x) (fun ρ st => lenO tb a st) σ H1 Q := (tX.seq0 (R1 := Rep X.K) h).imp fun x H1 hh => ⟨x, rfl, hh⟩
  refine PyProof.Rows.callWith_builtin1 (thn ((pa_cons ho pa_nil he).run pos pins s σ H _ I h0) fun us s1 hh => ?_) he hpl
  obtain ⟨vs, H1, I1, rv, x, rfl, d, w, ρ, rfl, ok, re, ⟨_, r1⟩, q⟩ := hh
  cases rv with
  | cons rx rr =>
    cases rr
    have q : Post (cx X W) (Rep X.K) w (lenO tb d w.st) Q ((cx X W).we σ) := q
    unfold lenO at q
    cases em : (insD w.st d).bind fun p => tb.lookup p.1 with
    | none => rw [em] at q; exact q.elim
    | some F =>
      rw [em] at q
      cases ei : insD w.st d with
      | none => rw [ei] at em; cases em
      | some p =>
        obtain ⟨C, fs⟩ := p
        rw [ei] at em
        obtain ⟨ca, g, fd, G, k, c, cl, me, rfl, O, hkj⟩ := hk C F em
        have r1' := r1
        obtain ⟨n', dx, us, hd, hst, rfl, h1, h2, h3⟩ := ins_rep ok c ei r1
        cases rx
        refine len_own I1 h1 cl me O (hr.mono hkj) hg ⟨rfl, w, [d], rfl, ok, reps_cons r1' reps_nil, ?_⟩
        simp only at q
        cases eF : arity 1 G [d] w.st with
        | bad => rw [eF] at q; exact q.elim
        | exc e st => rw [eF] at q; exact q.elim
        | ok y st =>
          rw [eF] at q
          cases y with
          | int i =>
            simp only at q
            by_cases hi : 0 ≤ i ∧ i < 2 ^ 62
            · rw [if_pos hi] at q
              exact fun w' g' ok' es v rv => ⟨i, rv, hi, by rw [show v = V.int i from rv]; exact q w' g' ok' es _ rfl⟩
            · rw [if_neg hi] at q
              exact q.elim
          | _ => exact q.elim
end
end PL
/-! PL39: star displays; except clauses over a tuple of classes; what stands in their suites. -/
namespace PL
open PySem PySem.Spec PyProof.Rows L2
section
variable {X : Cx} {W : WX}
/-! ### *e in a display -/
def seqD (d : D) (st : Store) : Option (List D) := match d with
  | .tup xs => some xs
  | d => viewL st d
def sStar (f : Env → M D) (g : Env → M (List D)) : Env → M (List D) := fun ρ => bnd (f ρ) fun a => bnd (fun st => ofO (seqD a st) st) fun xs => bnd (g ρ) fun ys => ret (xs ++ ys)
theorem seq_rep {w : Wd} {d : D} {v : V} {xs : List D} (ok : WOk X.K w) (h : seqD d w.st = some xs) (r : Rep X.K w d v) : ∃ a vs, v = .ref a ∧ (SqT X.K w.H a vs ∨ SqL X.K w.H a vs) ∧ Reps X.K w xs vs := by
  have lists : viewL w.st d = some xs → ∃ a vs, v = .ref a ∧ (SqT X.K w.H a vs ∨ SqL X.K w.H a vs) ∧ Reps X.K w xs vs := fun e => by
    obtain ⟨a, vs, ea, h1, r1⟩ := view_rep ok e r
    exact ⟨a, vs, ea, .inr (SqL.of h1), r1⟩
  cases d with
  | tup ys =>
    have h : some ys = some xs := h
    cases h
    obtain ⟨a, vs, ea, h1, h2⟩ := r
    exact ⟨a, vs, ea, .inl h1, h2⟩
  | _ => exact lists h
theorem da_star {e : Expr} {es : List Expr} {p : Pos} {f : Env → M D} {g : Env → M (List D)} (he : DE X W e f) (hr : DA X W es g) (hs : starEach (.Starred e p :: es) X.env = (true, eval e X.env) :: starEach es X.env := by rfl) : DA X W (.Starred e p :: es) (sStar f g) := by
  refine (StX.pa_star he hr hs).imp fun σ H Q h => ?_
  refine (tX.seq0 (R1 := Rep X.K) h).imp fun x H1 ⟨d, h1⟩ => ?_
  obtain ⟨w, ρ, rfl, ok, re, ⟨_, r1⟩, q⟩ := h1
  have q : Post (cx X W) (Reps X.K) w ((ofO (seqD d w.st) w.st : Res _).bnd fun xs => bnd (g ρ) fun ys => ret (xs ++ ys)) Q ((cx X W).we σ) := q
  cases es : seqD d w.st with
  | none => rw [es] at q; exact q.elim
  | some xs =>
    rw [es] at q
    obtain ⟨a, vs, ea, h2, h3⟩ := seq_rep ok es r1
    refine ⟨a, vs, ea, h2, ?_⟩
    have h4 : tX (cx X W) (Reps X.K) (fun w' => Reps X.K w' xs vs) (fun ρ => bnd (g ρ) fun ys => ret (xs ++ ys)) σ w.H Q := ⟨w, ρ, rfl, ok, re, h3, q⟩
    refine (h4.seq (R1 := Reps X.K) (fun w w' g' r => Reps.grow g' _ _ r)).imp fun us H2 ⟨ys, h5⟩ => ?_
    obtain ⟨w2, ρ2, rfl, ok2, re2, ⟨r2, r3⟩, q2⟩ := h5
    exact q2 w2 (Grow.refl w2) ok2 rfl _ (r2.app r3)

/-! ### the test of an except clause -/
/-- the expression t tells, of an exception whose class is cls, what m says -/
def HTest (X : Cx) (t : Expr) (m : Value → Option Bool) : Prop := ∀ (a : Addr) (pn pins : List (Addr × Obj)) (σ : L2.St) (H : Hp) (s : Shared) (cls : Value) (b : Bool) (Q : Bool → Shared → Prop) (E : Value → Shared → Prop), Inv (X.suite a pn) pins σ H s → m cls = some b → PySem.W.Looks (model X.prog X.w) s.heap (typeOf (.ref a)) cls →
  (∀ h', (∀ p o, s.heap.get? p = some o → h'.get? p = some o) → Q b { s with heap := h' }) → wpAny (model X.prog X.w) (X.A.mark (some (.ref a))) (eval t X.env) (fun c s1 => wpAny (model X.prog X.w) (X.A.mark (some (.ref a))) (excMatches (.ref a) c) Q E s1) E s
theorem name_at {a : Addr} {pn pins : List (Addr × Obj)} {σ : L2.St} {H : Hp} {s : Shared} {x : Str} {c : Value} {p : Pos} {Q : Value → Shared → Prop} {E : Value → Shared → Prop} (I : Inv (X.suite a pn) pins σ H s) (h : Names X x c) (q : Q c s) : wpAny (model X.prog X.w) (X.A.mark (some (.ref a))) (eval (.Name x p) X.env) Q E s := by
  obtain ⟨g, db, m | ⟨m, v, nn⟩⟩ := h
  · exact ld_glob I g m q db
  · exact ld_blt I g m v q nn db
theorem htest_name {x : Str} {c : Value} {p : Pos} (h : Names X x c) : HTest X (.Name x p) (fun cls => PySem.W.exmOne X.K cls c) := fun a pn pins σ H s cls b Q E I hb LT q =>
  name_at I h ((PySem.W.exm_one I.kIn LT hb).here (q s.heap fun _ _ z => z))
theorem htest_tup2 {x1 x2 : Str} {c1 c2 : Value} {p1 p2 p : Pos} {k : Nat} (n1 : Names X x1 c1) (n2 : Names X x2 c2) : HTest X (.Tuple [.Name x1 p1, .Name x2 p2] k p) (fun cls => PySem.W.exmAny X.K cls [c1, c2]) := fun a pn pins σ H s cls b Q E I hb LT q => by
  refine wpAny_Tuple (wpAny_items_cons (name_at I n1 (wpAny_items_cons (name_at I n2 (wpAny_items_nil ⟨by size_fits, ?_⟩)))))
  have kp : ∀ z o, s.heap.get? z = some o → (s.heap.push { cls := .type "tuple", data := .seq [c1, c2].toArray }).get? z = some o := fun _ _ z => Heap.get?_push_of_some _ z
  exact (PySem.W.exm_tup2 (I.kIn.keeps kp) (LT.keeps kp) (Heap.get?_push_size s.heap rfl) hb).here (q _ kp)
theorem htest_tup3 {x1 x2 x3 : Str} {c1 c2 c3 : Value} {p1 p2 p3 p : Pos} {k : Nat} (n1 : Names X x1 c1) (n2 : Names X x2 c2) (n3 : Names X x3 c3) : HTest X (.Tuple [.Name x1 p1, .Name x2 p2, .Name x3 p3] k p) (fun cls => PySem.W.exmAny X.K cls [c1, c2, c3]) := fun a pn pins σ H s cls b Q E I hb LT q => by
  refine wpAny_Tuple (wpAny_items_cons (name_at I n1 (wpAny_items_cons (name_at I n2 (wpAny_items_cons (name_at I n3 (wpAny_items_nil ⟨by size_fits, ?_⟩)))))))
  have kp : ∀ z o, s.heap.get? z = some o → (s.heap.push { cls := .type "tuple", data := .seq [c1, c2, c3].toArray }).get? z = some o := fun _ _ z => Heap.get?_push_of_some _ z
  exact (PySem.W.exm_tup3 (I.kIn.keeps kp) (LT.keeps kp) (Heap.get?_push_size s.heap rfl) hb).here (q _ kp)
theorem htest_tup4 {x1 x2 x3 x4 : Str} {c1 c2 c3 c4 : Value} {p1 p2 p3 p4 p : Pos} {k : Nat} (n1 : Names X x1 c1) (n2 : Names X x2 c2) (n3 : Names X x3 c3) (n4 : Names X x4 c4) : HTest X (.Tuple [.Name x1 p1, .Name x2 p2, .Name x3 p3, .Name x4 p4] k p) (fun cls => PySem.W.exmAny X.K cls [c1, c2, c3, c4]) := fun a pn pins σ H s cls b Q E I hb LT q => by
  refine wpAny_Tuple (wpAny_items_cons (name_at I n1 (wpAny_items_cons (name_at I n2 (wpAny_items_cons (name_at I n3 (wpAny_items_cons (name_at I n4 (wpAny_items_nil ⟨by size_fits, ?_⟩)))))))))
  have kp : ∀ z o, s.heap.get? z = some o → (s.heap.push { cls := .type "tuple", data := .seq [c1, c2, c3, c4].toArray }).get? z = some o := fun _ _ z => Heap.get?_push_of_some _ z
  exact (PySem.W.exm_tup4 (I.kIn.keeps kp) (LT.keeps kp) (Heap.get?_push_size s.heap rfl) hb).here (q _ kp)
theorem fly_keeps {B : Heap} {l : List PySem.Env} {a : Addr} {Z : Obj → Prop} {h h' : Heap} (f : HandSPX.FlyingZ B l a Z h) (k : ∀ p o, h.get? p = some o → h'.get? p = some o) : HandSPX.FlyingZ B l a Z h' := by
  obtain ⟨f1, f2, f3, oe, ws, T, oT, ts, h1, h2, h3, h4, h5, h6, h7, h8, h9⟩ := f
  exact ⟨fun p o q => k p o (f1 p o q), f2, f3.of_keeps fun p o q _ => ⟨o, k p o q, rfl⟩, oe, ws, T, oT, ts, k _ _ h1, h2, h3, h4, h5, h6, k _ _ h7, h8, h9⟩
/-- what a clause «except t as n» wishes of an exception -/
def wGen (m : Value → Option Bool) (i : Nat) (ts : Addr → Value → Option Addr → TS) (Wo : WX) (D : Ends) : WX := fun cls d σ H => ∃ b, m cls = some b ∧
  (b = true → ∀ a, H a = none → ts a cls d { nx := fun σ' H' => D.nx (σ'.set i none) H', rt := D.rt, bk := fun σ' H' => D.bk (σ'.set i none) H', ct := fun σ' H' => D.ct (σ'.set i none) H' } (σ.set i (some (.ref a))) H) ∧ (b = false → Wo cls d σ H)
theorem far_frames {B h : Heap} {a : Addr} {o : Obj} {vs : Array Value} (ff : h.FunFrames B (X.env :: X.outer)) (e : h.get? a = some o) (dd : o.data = .fields vs) : a ∉ frs (X.env :: X.outer) := fun hm => by
  obtain ⟨_, o2, e2, hnf⟩ := ff.mem hm
  exact hnf vs (by rw [e] at e2; cases e2; exact dd)
theorem ps_try_gen {t : Expr} {m : Value → Option Bool} {n : Str} {i : Nat} {body suite : List Stmt} {b₀ : Stmt} {pos pos' : Pos} {tb : WX → TS} {ts : Addr → Value → Option Addr → TS} {Wo : WX} (ht : HTest X t m) (hs : X.stack = X.env :: X.outer) (hf : X.env.frame = some X.env.locals) (hN : X.N.Nodup) (hi : X.N[i]? = some n) (hln : X.env.kindOf n = some .local) (tk : L2N.Takes X Wo)
    (hb : ∀ (W : WX) (pn : List (Addr × Obj)) (xe : Value → Shared → Prop), L2N.Takes (X.tr pn xe) W → PassesOwn (model X.prog X.w) X.A X.env xe → PSs (X.tr pn xe) body (tb W))
    (hsu : ∀ (a : Addr) (oe : Obj) (cls : Value) (d : Option Addr) (pn : List (Addr × Obj)), L2N.Zn cls d oe → (∃ vs, oe.data = .fields vs) → PSs (X.suite a ((a, oe) :: pn)) (b₀ :: suite) (ts a cls d)) :
    PS X (.Try body [.ExceptHandler (some t) (some n) (b₀ :: suite) pos'] [] [] pos) (fun D σ H => tb (wGen m i ts Wo D) D σ H) := by
  refine ⟨fun pins s σ H D J h => ?_⟩
  have hok := J.ok
  have hfr : X.A.frames = some (X.env :: X.outer) := hok.frames.trans (congrArg some hs)
  refine wpAny_Try_except (wpAny_mono ((hb (wGen m i ts Wo D) (X.pn ++ pins) (fun e z₁ => wpAny (model X.prog X.w) X.A (noteFrame e X.env) (fun _ z₂ => wpAny (model X.prog X.w) X.A (setFlight e none) (fun _ z₃ => wpAny (model X.prog X.w) X.A (handleBy e X.env [.ExceptHandler (some t) (some n) (b₀ :: suite) pos']) (SP X pins D) X.xe z₃) X.xe z₂) X.xe z₁) (fun u z xx => ?_) PassesOwn.looking).run [] s σ H D (J.toTry _) h) (fun f z hsp => ?_) fun _ _ he => he)
  · obtain ⟨a, B, s0, _, σ1, H1, cls, d, rfl, G0, nb, up, sky, na, os, ag, b, hm, hyes, hno⟩ := xx
    have G : Inv X pins σ1 H1 s0 := G0.ofTry hok
    show wpAny (model X.prog X.w) X.A (noteFrame (.ref a) X.env) _ _ _
    refine L2N.Sky.land L2N.Zn.steady hfr hf (by rw [← hs]; exact sky) fun h3 fl3 up3 => ?_
    have G3 : Inv X pins σ1 H1 { z with heap := h3 } := G.landed nb fl3.1 (up.trans up3) os ag
    obtain ⟨oe, vs, he, hz, hd⟩ := fl3.there
    have nfr := far_frames fl3.2.2.1 he hd
    have nL : a ≠ X.env.locals := fun q => nfr (List.mem_filterMap.mpr ⟨X.env, List.mem_cons_self, by rw [hf, q]⟩)
    have nF : a ∉ X.fs := fun q => let ⟨e, h1, h2⟩ := List.mem_filterMap.mp q; nfr (List.mem_filterMap.mpr ⟨e, List.mem_cons_of_mem _ h1, h2⟩)
    have look : PySem.W.Looks (model X.prog X.w) h3 (typeOf (.ref a)) cls := fun A Q E s k q => wpAny_typeOf_ref (k _ _ he) (hz.1.symm ▸ q)
    refine wpAny_handleBy_cons (codeAny_handlers_test (ht a _ [] σ1 H1 { z with heap := h3 } cls b _ _ (G3.suite he hd na nL nF) hm look fun h5 k5 => ?_)) (by intro q; cases q)
    have fl5 := fly_keeps fl3 k5
    have up5 : z.heap.UpToSlots h5 := up3.trans (Heap.UpToSlots.of_keeps k5)
    cases b with
    | true =>
      refine codeAny_handlers_suite_as (HandSPX.lands_againZ (s := { z with heap := h5 }) fl5 fun h4 fl4 up4 => ?_)
      have G4 : Inv X pins σ1 H1 { z with heap := h4 } := G.landed nb fl4.1 ((up.trans up5).trans up4) os ag
      obtain ⟨o4, v4, he4, hz4, hd4⟩ := fl4.there
      refine store_ok (X := X.suite a ((a, o4) :: (X.pn ++ pins))) (v := .ref a) (G4.suite he4 hd4 na nL nF) hN hi (.inl hln) rfl (fun s5 I5 => ?_) (.inr hln)
      refine wpAny_mono ((hsu a o4 cls d (X.pn ++ pins) hz4 ⟨_, hd4⟩).run [] s5 _ H1 _ I5 (hyes rfl a na)) (fun f s6 hsp => ?_) fun _ _ q => q.elim
      have done : ∀ {σ6 : L2.St} {H6 : Hp} {Q : Shared → Prop}, Inv (X.suite a ((a, o4) :: (X.pn ++ pins))) [] σ6 H6 s6 → (∀ s7, Inv X pins (σ6.set i none) H6 s7 → Q s7) → wpAny (model X.prog X.w) X.A (do bindName X.env n .none; unbindBehindTheSuite X.env n pos') (fun _ s7 => Q s7) X.xe s6 := fun I6 hq => gone_ok (I6.unsuite hok) hN hi hln hq
      cases f with
      | next => exact let ⟨_, _, I6, q6⟩ := hsp; done I6 fun _ I7 => ⟨_, _, I7, q6⟩
      | brk => exact let ⟨_, _, I6, q6⟩ := hsp; done I6 fun _ I7 => ⟨_, _, I7, q6⟩
      | cont => exact let ⟨_, _, I6, q6⟩ := hsp; done I6 fun _ I7 => ⟨_, _, I7, q6⟩
      | ret u => exact let ⟨_, _, _, I6, r6, q6⟩ := hsp; done I6 fun _ I7 => ⟨_, _, _, I7, r6, q6⟩
    | false =>
      show wpAny _ X.A (handleBy (.ref a) X.env []) _ _ _
      obtain ⟨_, _, _, o5, v5, T, oT, t5, e5, _, d5, i5, _⟩ := id fl5
      refine wpAny_handleBy_nil ?_
      unfold PySem.passOn
      refine wpAny_bind (wpAny_field e5 d5 i5 ?_)
      rw [if_neg (show ¬((Value.ref T == Value.none) = true) by simp)]
      have fin : wpAny (model X.prog X.w) X.A (setFlight (.ref a) X.env.frame) (fun _ z4 => wpAny (model X.prog X.w) X.A (throw (.ref a) : Sem Flow) (SP X pins D) X.xe z4) X.xe { z with heap := h5 } := by
        rw [hf]
        exact HandSPX.setFlight_upZ (s := { z with heap := h5 }) fl5 fun h4 hh4 up4 => wpAny_throw (tk _ _ ⟨a, B, s0, pins, σ1, H1, cls, d, rfl, G, nb, (up.trans up5).trans up4, .inr (.inr (by rw [hs]; exact hh4)), na, os, ag, hno rfl⟩)
      first | exact wpAny_bind (wpAny_pure (wpAny_bind fin)) | exact wpAny_bind fin
  · cases f with
    | next => exact let ⟨_, _, G, q⟩ := hsp; wpAny_execs_nil ⟨_, _, G.ofTry hok, q⟩
    | brk => exact let ⟨_, _, G, q⟩ := hsp; ⟨_, _, G.ofTry hok, q⟩
    | cont => exact let ⟨_, _, G, q⟩ := hsp; ⟨_, _, G.ofTry hok, q⟩
    | ret u => exact let ⟨_, _, _, G, r, q⟩ := hsp; ⟨_, _, _, G.ofTry hok, r, q⟩
/-- .. as a function on data; sub: which classes the clause takes -/
theorem ds_try_gen {t : Expr} {m : Value → Option Bool} {n : Str} {i : Nat} {body suite : List Stmt} {b₀ : Stmt} {pos pos' : Pos} {f : SM} {su : Exc → SM} (sub : String → Option Bool) (ht : HTest X t m) (hs : X.stack = X.env :: X.outer) (hf : X.env.frame = some X.env.locals) (hN : X.N.Nodup) (hi : X.N[i]? = some n) (hln : X.env.kindOf n = some .local) (tk : L2N.Takes X W)
    (hsub : ∀ nm b, sub nm = some b → ∃ C, X.mg (Str.ofString nm) = some (.ref C) ∧ m (.ref C) = some b)
    (hb : ∀ (W : WX) (pn : List (Addr × Obj)) (xe : Value → Shared → Prop), L2N.Takes (X.tr pn xe) W → PassesOwn (model X.prog X.w) X.A X.env xe → DSs (X.tr pn xe) W body f)
    (hsu : ∀ (e : Exc) (a : Addr) (oe : Obj) (cls : Value) (d : Option Addr) (pn : List (Addr × Obj)), L2N.Zn cls d oe → (∃ vs, oe.data = .fields vs) → sub e.cls = some true → PSs (X.suite a ((a, oe) :: pn)) (b₀ :: suite) (tSs (cx X W0) (PX X.K X.mg i a cls d e) (su e))) :
    DS X W (.Try body [.ExceptHandler (some t) (some n) (b₀ :: suite) pos'] [] [] pos) (sTry f sub i su) := by
  refine PS.imp (ps_try_gen (tb := fun W => tS (cx X W) f) (ts := fun a cls d D σ H => ∃ e, sub e.cls = some true ∧ tSs (cx X W0) (PX X.K X.mg i a cls d e) (su e) D σ H) (Wo := W) ht hs hf hN hi hln tk hb (fun a oe cls d pn hz hv => ⟨fun pins s σ H D I ⟨e, he, h⟩ => (hsu e a oe cls d pn hz hv he).run pins s σ H D I h⟩)) fun D σ H h => ?_
  obtain ⟨w, ρ, rfl, ok, re, q⟩ := h
  refine ⟨w, ρ, rfl, ok, re, ?_⟩
  unfold sTry at q
  cases er : f ρ w.st with
  | bad => rw [er] at q; exact q
  | nx ρ' st => rw [er] at q; exact q
  | rt d st => rw [er] at q; exact q
  | bk d st => rw [er] at q; exact q
  | ct d st => rw [er] at q; exact q
  | ex e ρ1 st1 =>
    rw [er] at q
    intro w' g ok' es σ' re' cls d hx
    cases eb : sub e.cls with
    | none => simp only [eb] at q; exact q.elim
    | some b =>
      obtain ⟨C, hm, hex⟩ := hsub _ _ eb
      have hcls : cls = .ref C := by
        rcases hx.1 with ⟨u, h1, h2⟩ | ⟨h1, _⟩
        · rw [h2]; rw [hm] at h1; exact (Option.some.inj h1).symm
        · rw [hm] at h1; cases h1
      refine ⟨b, by rw [hcls]; exact hex, fun hbt a ha => ?_, fun hbf => ?_⟩
      · subst hbt
        simp only [eb] at q
        have re2 : RepE X.K w' (σ'.set i (some (.ref a))) (ρ1.set i (some (.vv (.ref a)))) := re'.set i (show Rep X.K w' (.vv (.ref a)) (.ref a) from rfl)
        have re3 := re2.forget i
        rw [List.set_set] at re3
        refine ⟨e, eb, w', _, rfl, ok', re3, ⟨hx, fun hl => List.getElem?_set_self (by simpa using hl)⟩, ?_⟩
        rw [es]
        cases eu : su e (ρ1.set i none) st1 with
        | bad => rw [eu] at q; exact q.elim
        | ex e2 ρ2 st2 => rw [eu] at q; exact q.elim
        | nx ρ2 st2 => rw [eu] at q; exact fun w2 g2 ok2 es2 σ2 r2 => q w2 (g.trans g2) ok2 es2 _ (r2.kill i)
        | bk ρ2 st2 => rw [eu] at q; exact fun w2 g2 ok2 es2 σ2 r2 => q w2 (g.trans g2) ok2 es2 _ (r2.kill i)
        | ct ρ2 st2 => rw [eu] at q; exact fun w2 g2 ok2 es2 σ2 r2 => q w2 (g.trans g2) ok2 es2 _ (r2.kill i)
        | rt d2 st2 => rw [eu] at q; exact fun w2 g2 ok2 es2 v r2 => q w2 (g.trans g2) ok2 es2 v r2
      · subst hbf
        simp only [eb] at q
        exact q w' g ok' es σ' re' cls d hx
end
end PL
/-! PL40: methods that call super(). -/
namespace PL
open PySem PySem.Spec PyProof.Rows L2 PySem.W
/-- a method that closes over __class__ -/
abbrev nfOf (st : Stmt) (name qual : Str) (cc cd : Addr) : NdefX.NF := ⟨name, qual, defArgs st, defBody st, defScope st, [("__class__", cc)], cd⟩
structure Sup (P : Program) (K : PySem.W.Frag) (mg : Str → Option Value) (F : NdefX.NF) (fd : FuncData) (f cc D : Addr) : Prop where
  lk : ∃ oc od dV kV doc pm an ct osl, fd = PySem.W.fnX F.name F.qual F.params F.body F.scope F.cl dV kV doc pm an (.ref F.c) ct ∧ K.lookup f = some ⟨oc, od, .func fd, osl⟩
  cd : PySem.W.codeIn K (.ref F.c) F.qual = true
  code : ∃ ccl cdd vs ccs file tf, K.lookup F.c = some ⟨ccl, cdd, .fields vs, ccs⟩ ∧ vs[2]? = some (.str file tf) ∧ ((P.main.file : Str) == file) = true
  cl : F.cl = [((("__class__" : Str)), cc)]
  cell : ∃ cl cld csl, K.lookup cc = some ⟨cl, cld, .cell (some (.ref D)), csl⟩
  dcl : ∃ cdD, PySem.W.clsIn K D = some cdD
  sup : mg "super" = none
  top : (P.main.scope.names.lookup ("super" : Str)).isSome = false
  opq : PySem.W.nsIn K cStatics "thirdparty.any" = some none
abbrev NCx (P : Program) (wo : World) (K : PySem.W.Frag) (mg : Str → Option Value) (base : Heap) (N : List Str) (F : NdefX.NF) (f : Addr) (A : Around) (out : List PySem.Env) (s : Shared) (H : Hp) (E : XK) : Cx := NdefX.ncx (L2N.CX P wo) P wo K mg base N F f A out s H E
theorem tkN {P : Program} {wo : World} {K : PySem.W.Frag} {mg : Str → Option Value} {base : Heap} {N : List Str} {F : NdefX.NF} {f : Addr} {A : Around} {out : List PySem.Env} {s : Shared} {H : Hp} {E : XK} : L2N.Takes (NCx P wo K mg base N F f A out s H E) (fun c d _ H => E c d H) := L2N.takes_of rfl rfl rfl rfl
theorem paN {P : Program} {wo : World} {K : PySem.W.Frag} {mg : Str → Option Value} {base : Heap} {N : List Str} {F : NdefX.NF} {f : Addr} {A : Around} {out : List PySem.Env} {s : Shared} {H : Hp} {E : XK} : PassesOwn (model (NCx P wo K mg base N F f A out s H E).prog (NCx P wo K mg base N F f A out s H E).w) (NCx P wo K mg base N F f A out s H E).A (NCx P wo K mg base N F f A out s H E).env (NCx P wo K mg base N F f A out s H E).xe := passes_of rfl
/-! ### readings at a known activation -/
structure PSsA (X : Cx) (c : Code) (st : List Stmt) (t : TS) : Prop where
  run : ∀ (pins : List (Addr × Obj)) (s : Shared) (σ : L2.St) (H : Hp) (D : Ends), Inv X pins σ H s → t D σ H → PySem.wpAt (model X.prog X.w) X.A c (execs st X.env) (SP X pins D) X.xe s
structure PSA (X : Cx) (c : Code) (st : Stmt) (t : TS) : Prop where
  run : ∀ (pins : List (Addr × Obj)) (s : Shared) (σ : L2.St) (H : Hp) (D : Ends), Inv X pins σ H s → t D σ H → PySem.wpAt (model X.prog X.w) X.A c (exec st X.env) (SP X pins D) X.xe s
structure PEA (X : Cx) (c : Code) (e : Expr) (t : TE) : Prop where
  run : ∀ (pins : List (Addr × Obj)) (s : Shared) (σ : L2.St) (H : Hp) (Q : VK), Inv X pins σ H s → t σ H Q → PySem.wpAt (model X.prog X.w) X.A c (eval e X.env) (EP X pins σ Q) X.xe s
section
variable {X : Cx} {W : WX} {c : Code}
theorem psa_of {st : List Stmt} {t : TS} (h : PSs X st t) : PSsA X c st t := ⟨fun pins s σ H D I q => wpAt_of_wpAny (h.run pins s σ H D I q)⟩
theorem psa1_of {st : Stmt} {t : TS} (h : PS X st t) : PSA X c st t := ⟨fun pins s σ H D I q => wpAt_of_wpAny (h.run pins s σ H D I q)⟩
theorem psa_cons {st : Stmt} {rest : List Stmt} {t u : TS} (h : PSA X c st t) (r : PSsA X c rest u) : PSsA X c (st :: rest) (tSeq t u) := ⟨fun pins s σ H D I q => by
  refine ks_wpAt_execs_cons (PySem.wpAt_mono (h.run pins s σ H _ I q) (fun f s1 hf => ?_) fun _ _ z => z)
  cases f with
  | next => obtain ⟨σ1, H1, I1, q1⟩ := hf; exact r.run pins s1 σ1 H1 D I1 q1
  | brk => exact hf
  | cont => exact hf
  | ret v => exact hf⟩
theorem psa_nil : PSsA X c [] tNext := psa_of pss_nil
abbrev DSsA (X : Cx) (W : WX) (c : Code) (st : List Stmt) (f : SM) : Prop := PSsA X c st (tS (cx X W) f)
abbrev DSA (X : Cx) (W : WX) (c : Code) (st : Stmt) (f : SM) : Prop := PSA X c st (tS (cx X W) f)
abbrev DEA (X : Cx) (W : WX) (c : Code) (e : Expr) (f : Env → M D) : Prop := PEA X c e (tX (cx X W) (Rep X.K) T0 f)
theorem dsa_of {st : List Stmt} {f : SM} (h : DSs X W st f) : DSsA X W c st f := psa_of h
theorem dsa_cons {st : Stmt} {rest : List Stmt} {f g : SM} (h : DSA X W c st f) (r : DSsA X W c rest g) : DSsA X W c (st :: rest) (sSeq f g) :=
  ⟨fun pins s σ H D I q => (psa_cons h r).run pins s σ H D I (seq_imp q)⟩
theorem dsa_one {st : Stmt} {f : SM} (h : DSA X W c st f) : DSsA X W c [st] f := ⟨fun pins s σ H D I q => (psa_cons h psa_nil).run pins s σ H D I q⟩
theorem dsa1_of {st : Stmt} {f : SM} (h : DS X W st f) : DSA X W c st f := psa1_of h
theorem dsa_expr {e : Expr} {f : Env → M D} {pos : Pos} (h : DEA X W c e f) (hi : interactive X.env = false := by rfl) (hs : swapsWith e none pos.line X.env = pure false := by rfl) : DSA X W c (.Expr e pos) (sExpr f) := ⟨fun pins s σ H D I q => by
  refine ks_wpAt_Expr_any (PySem.wpAt_mono (h.run pins s σ H _ I (then_imp (R := Rep X.K) q)) (fun v s1 hv => ?_) fun _ _ z => z) hi hs
  obtain ⟨x, H1, I1, rx, w, ρ, a, rfl, ok, re, r, q1⟩ := hv
  exact ⟨σ, _, I1, q1 w (Grow.refl w) ok rfl σ re⟩⟩
theorem dsa_ret {e : Expr} {f : Env → M D} {pos : Pos} (h : DEA X W c e f) : DSA X W c (.Return (some e) pos) (sRet f) := ⟨fun pins s σ H D I q => by
  refine ks_wpAt_Return_some (PySem.wpAt_mono (h.run pins s σ H _ I (then_imp (R := Rep X.K) q)) (fun v s1 hv => ?_) fun _ _ z => z)
  obtain ⟨x, H1, I1, rx, w, ρ, a, rfl, ok, re, r, q1⟩ := hv
  exact ⟨x, σ, _, I1, rx, q1 w (Grow.refl w) ok rfl _ r⟩⟩
theorem dea_bin {a b : Expr} {f g : Env → M D} {o : Operator} {pos : Pos} (op : BOp) (ha : DEA X W c a f) (hb : DE X W b g) (ho : op.ast = o := by rfl) : DEA X W c (.BinOp a o b pos) (sBin op f g) := ⟨fun pins s σ H Q I q => by
  subst ho
  have q1 := (tX.seq0 (R1 := Rep X.K) q)
  refine ks_wpAt_BinOp (PySem.wpAt_mono (ha.run pins s σ H _ I q1) (fun v s1 hv => ?_) fun _ _ z => z)
  obtain ⟨x, H1, I1, rx, da, h1⟩ := hv
  have q2 := ((tX.seq (R1 := Rep X.K) (mono_and mono0 monoRep) h1).weak)
  refine thn (hb.run pins s1 σ H1 _ I1 q2) fun u s2 hu => ?_
  obtain ⟨y, H2, I2, ry, db, w, ρ, e, ok, re, ⟨⟨_, r1⟩, r2⟩, q3⟩ := hu
  obtain ⟨d, e1, q4⟩ := at_of rfl q3
  exact ord_bin op pins s2 σ H2 x y v u Q I2 rx ry ⟨w, da, db, d, e, ok, r1, r2, e1, q4⟩⟩
end

theorem boot_super_ : bootBuiltins "super" = some (.type "super") := by first | rfl | kernel_rfl
/-! ### super().m(..) -/
def supD (tb : Tb) (ρ : Env) (st : Store) : Option (D × (List D → M D)) := match ρ[0]? with
  | some (some o) => (insD st o).bind fun p => (tb.lookup p.1).map fun F => (o, F)
  | _ => none
def sSup (tb : Tb) (g : Env → M (List D)) : Env → M D := fun ρ => bnd (fun st => ofO (supD tb ρ st) st) fun p => bnd (g ρ) fun ds => p.2 (p.1 :: ds)
/-- what stands behind D in C's order as m -/
def KS (P : Program) (wo : World) (K : PySem.W.Frag) (mg : Str → Option Value) (base : Heap) (j : Nat) (m : Str) (Dc : Addr) (tb : Tb) : Prop := ∀ C F, tb.lookup C = some F → ∃ ca f fd ps n G k, isC K C ca ∧ Cls K ca ∧ ks_superIn K ca Dc m = some (some (.ref f)) ∧ PySem.W.typeIn K (.ref f) = some (.type "function") ∧ PySem.W.fnIn K f = true ∧
  PySem.W.mroIn K ca (.ref Dc) = some true ∧ F = arity n G ∧ OwnM P wo K mg base k fd f ps n G ∧ k ≤ j
theorem ks_nil {P : Program} {wo : World} {K : PySem.W.Frag} {mg : Str → Option Value} {base : Heap} {j : Nat} {m : Str} {Dc : Addr} : KS P wo K mg base j m Dc [] := fun C F h => by cases h
theorem ks_cons {P : Program} {wo : World} {K : PySem.W.Frag} {mg : Str → Option Value} {base : Heap} {j k : Nat} {m : Str} {Dc ca f : Addr} {C : String} {fd : FuncData} {ps : List Str} {n : Nat} {G : List D → M D} {tb : Tb} (c : isC K C ca) (cl : Cls K ca) (h1 : ks_superIn K ca Dc m = some (some (.ref f))) (h2 : PySem.W.typeIn K (.ref f) = some (.type "function")) (h3 : PySem.W.fnIn K f = true)
    (h4 : PySem.W.mroIn K ca (.ref Dc) = some true) (o : OwnM P wo K mg base k fd f ps n G) (t : KS P wo K mg base j m Dc tb) (hk : k ≤ j := by decide) : KS P wo K mg base j m Dc ((C, arity n G) :: tb) := fun E F h => by
  rw [List.lookup_cons] at h
  by_cases e : E = C
  · subst e
    rw [beq_self_eq_true] at h
    cases h
    exact ⟨ca, f, fd, ps, n, G, k, c, cl, h1, h2, h3, h4, rfl, o, hk⟩
  · rw [beq_eq_false_iff_ne.mpr e] at h
    exact t E F h
section
variable {P : Program} {wo : World} {K : PySem.W.Frag} {mg : Str → Option Value} {base : Heap} {N : List Str} {F : NdefX.NF} {f : Addr} {A : Around} {out : List PySem.Env} {s0 : Shared} {H0 : Hp} {E : XK} {fd : FuncData} {cc Dc : Addr} {W : WX} {j : Nat}
/-- the super object -/
theorem super_base {pins : List (Addr × Obj)} {σ : L2.St} {H : Hp} {s : Shared} {a ca dx : Addr} {fs : List (Str × V)} {attr : Str} {p0 p1 : Pos} {whole : Sem Value} {Q : Value → Shared → Prop} {E' : Value → Shared → Prop} {ar : Arg} (U : Sup P K mg F fd f cc Dc) (I : Inv (NCx P wo K mg base N F f A out s0 H0 E) pins σ H s)
    (h0 : σ[0]? = some (some (.ref a))) (ea : H a = some (.ins ca dx fs)) (cl : Cls K ca) (hm : PySem.W.mroIn K ca (.ref Dc) = some true) (hp : (F.params.posonlyargs ++ F.params.args).head? = some ar) (hN : N[0]? = some ar.arg) (hv : Vis F.scope ar.arg) (hcd : (ar.arg == ("__classdict__" : Str)) = false) (hkd : F.scope.kind = .function)
    (hks : (NCx P wo K mg base N F f A out s0 H0 E).env.kindOf "super" = some .globalImplicit) (hkc : (NCx P wo K mg base N F f A out s0 H0 E).env.kindOf "__class__" = some .free) (hat : (attr == ("__class__" : Str)) = false)
    (h : ∀ so h', (∀ b o, s.heap.get? b = some o → h'.get? b = some o) → h'.get? so = some (ks_superObj Dc a ca) → Q (.ref so) { s with heap := h' }) :
    PySem.wpAt (model P wo) (NCx P wo K mg base N F f A out s0 H0 E).A (.func F.body (NCx P wo K mg base N F f A out s0 H0 E).env) (attributeBase (.Call (.Name "super" p0) [] [] p1) attr (NCx P wo K mg base N F f A out s0 H0 E).env whole) Q E' s := by
  obtain ⟨oc, od, dV, kV, doc, pm, an, ct, osl, rfl, lk⟩ := U.lk
  obtain ⟨ccl, cdd, vs, ccs, file, tf, hcode, hvs, hfile⟩ := U.code
  obtain ⟨cl0, cld, csl, hcell⟩ := U.cell
  obtain ⟨cdD, hD⟩ := U.dcl
  obtain ⟨mb, b1, b2⟩ := I.mod.blt
  obtain ⟨mA, OM, _, _, _, _⟩ := ins_get I.hok ea
  obtain ⟨odi, J, _⟩ := OM.look
  have KI : K.In s.heap := I.kIn
  obtain ⟨oD, hD1, hD2⟩ : ∃ oD, s.heap.get? Dc = some oD ∧ oD.data = .cls cdD := by
    unfold PySem.W.clsIn at hD
    split at hD
    · rename_i c d cd' sl ho
      cases hD
      exact ⟨_, KI _ _ ho, rfl⟩
    · cases hD
  refine ks_wpAt_super_base hks hkc hat rfl (KI _ _ lk) rfl hp rfl (KI _ _ hcode) rfl hvs hfile U.top ?_
  refine ks_loadName_global hkd hks (Calls.loadGlobal_builtin (I.mod.glob.keeps I.bk) U.sup (b1.keeps I.bk) ((b2 _ (by decide)).trans boot_super_) ⟨rfl, ?_⟩)
  have hcc : (NCx P wo K mg base N F f A out s0 H0 E).env.cells.lookup ("__class__" : Str) = some cc := by
    show F.cl.lookup ("__class__" : Str) = some cc
    rw [U.cl, List.lookup_cons, beq_self_eq_true]
  refine wpAny_loadName_free hkd hkc hcc ⟨_, KI _ _ hcell, rfl⟩ ?_
  obtain ⟨m, hn, hl⟩ := I.loc
  obtain ⟨u, ru, lo⟩ := hl 0 ar.arg (.ref a) hN h0 hv
  cases (show u = Value.ref a from ru)
  have fin : wpAny (model P wo) (NCx P wo K mg base N F f A out s0 H0 E).A (isType (.ref Dc)) (fun b s₄ => b = true ∧ wpAny (model P wo) (NCx P wo K mg base N F f A out s0 H0 E).A (call (.type "super") [.ref Dc, .ref a]) Q E' s₄) E' s := by
    obtain ⟨hh, g, d, t, os⟩ := s
    refine ks_wpAny_isType_cls hD1 hD2 ⟨rfl, ?_⟩
    refine ks_wpAny_call_super hD1 hD2 J.at_ J.cls (fun c e => ?_) (PySem.W.looks_mroIn KI hm) (fun h' e k => h _ _ k e)
    have := J.no
    unfold PySem.W.notCls at this
    rw [e] at this
    exact Bool.noConfusion this
  rcases lo with ⟨hk, hm2⟩ | ⟨hk, c, hc, hcv⟩
  · exact wpAny_loadName_local hkd hk hn hm2 fin
  · rcases hk with hk | hk
    · exact wpAny_loadName_cell hkd hk hc hcv fin
    · exact wpAny_loadName_free hkd hk hc hcv fin hcd
/-- super().m(e, ..), super().m() -/
theorem dea_sup {m : Str} {tb : Tb} {pl : Sem Bool} {es : List Expr} {p0 p1 apos pos : Pos} {g : Env → M (List D)} {ar : Arg} (U : Sup P K mg F fd f cc Dc) (hk : KS P wo K mg base j m Dc tb) (hr : Room j (NCx P wo K mg base N F f A out s0 H0 E).A) (hg : A.guards = some []) (tk : L2N.Takes (NCx P wo K mg base N F f A out s0 H0 E) W) (ha : DA (NCx P wo K mg base N F f A out s0 H0 E) W es g)
    (hev : ∀ (Q : List Value → Shared → Prop) (E' : Value → Shared → Prop) (s : Shared) (q : Value), wpAny (model P wo) (NCx P wo K mg base N F f A out s0 H0 E).A (spliced (backTo pos (starEach es (NCx P wo K mg base N F f A out s0 H0 E).env))) Q E' s → wpAny (model P wo) (NCx P wo K mg base N F f A out s0 H0 E).A (evalArgs q true (backTo pos (starEach es (NCx P wo K mg base N F f A out s0 H0 E).env)) []) (fun a s1 => a.kw = [] ∧ Q a.pos s1) E' s)
    (hpl : ((backTo pos (starEach es (NCx P wo K mg base N F f A out s0 H0 E).env)).any (·.1) || ([] : List (Option Str × Sem Value)).any (·.1.isNone)) = false := by rfl)
    (hp : (F.params.posonlyargs ++ F.params.args).head? = some ar := by rfl) (hN : N[0]? = some ar.arg := by rfl) (hv : Vis F.scope ar.arg := by exact .inl rfl) (hcd : (ar.arg == ("__classdict__" : Str)) = false := by decide) (hkd : F.scope.kind = .function := by rfl)
    (hks : (NCx P wo K mg base N F f A out s0 H0 E).env.kindOf "super" = some .globalImplicit := by rfl) (hkc : (NCx P wo K mg base N F f A out s0 H0 E).env.kindOf "__class__" = some .free := by rfl) (hat : (m == ("__class__" : Str)) = false := by decide)
    (he : eval (.Call (.Attribute (.Call (.Name "super" p0) [] [] p1) m apos) es [] pos) (NCx P wo K mg base N F f A out s0 H0 E).env = (do
      let ov ← attributeBase (.Call (.Name "super" p0) [] [] p1) m (NCx P wo K mg base N F f A out s0 H0 E).env (eval (.Call (.Name "super" p0) [] [] p1) (NCx P wo K mg base N F f A out s0 H0 E).env)
      standAt apos.atName
      let (f1, first) ← holding [ov] (getMethod ov m pl)
      callWith pos f1 first (backTo pos (starEach es (NCx P wo K mg base N F f A out s0 H0 E).env)) []) := by rfl) :
    DEA (NCx P wo K mg base N F f A out s0 H0 E) W (.func F.body (NCx P wo K mg base N F f A out s0 H0 E).env) (.Call (.Attribute (.Call (.Name "super" p0) [] [] p1) m apos) es [] pos) (sSup tb g) := ⟨fun pins s σ H Q I h => by
  obtain ⟨w, ρ, rfl, ok, re, _, q⟩ := h
  have q : Post (cx (NCx P wo K mg base N F f A out s0 H0 E) W) (Rep K) w ((ofO (supD tb ρ w.st) w.st : Res _).bnd fun p => bnd (g ρ) fun ds => p.2 (p.1 :: ds)) Q _ := q
  cases es' : supD tb ρ w.st with
  | none => rw [es'] at q; exact q.elim
  | some pr =>
    obtain ⟨o, Fn⟩ := pr
    rw [es'] at q
    unfold supD at es'
    split at es'
    · rename_i o' e0
      cases ei : insD w.st o' with
      | none => rw [ei] at es'; cases es'
      | some pr =>
        obtain ⟨C, fs⟩ := pr
        rw [ei] at es'
        cases el : tb.lookup C with
        | none => simp only [Option.bind, el, Option.map] at es'; cases es'
        | some F' =>
          simp only [Option.bind, el, Option.map] at es'
          cases es'
          obtain ⟨ca, f2, fd2, ps2, n2, G2, k2, c, cl, h1, h2, h3, h4, rfl, O, hkj⟩ := hk C _ el
          obtain ⟨v0, hv0, r0⟩ := re.at_ 0 _ e0
          have r0' := r0
          obtain ⟨n', dx, us, hd, hst, rfl, i1, i2, i3⟩ := ins_rep ok c ei r0
          have i1' := i1
          refine ks_wpAt_MethodCall (pl := pl) (super_base U I hv0 i1 cl h4 hp hN hv hcd hkd hks hkc hat fun so h' kp hso => ?_) he
          have I1 : Inv (NCx P wo K mg base N F f A out s0 H0 E) pins σ w.H { s with heap := h' } := I.kept (t' := s.toks) kp
          have KI : K.In h' := I1.kIn
          obtain ⟨mA, OM, _, _, _, _⟩ := ins_get I1.hok i1'
          obtain ⟨odi, J, _⟩ := OM.look
          obtain ⟨cd, hcd2, _⟩ := PySem.W.any_some cl.hd
          obtain ⟨of, hof, hofc⟩ : ∃ of, h'.get? f2 = some of ∧ of.cls = .type "function" := by
            have ht' : (K.lookup f2).map (·.cls) = some (.type "function") := h2
            cases z : K.lookup f2 with
            | none => rw [z] at ht'; cases ht'
            | some of => rw [z] at ht'; exact ⟨of, KI _ _ z, Option.some.inj ht'⟩
          have hm1 := h1
          unfold ks_superIn at hm1
          rw [hcd2] at hm1
          obtain ⟨hh, gg, dd, t, os⟩ := s
          refine ks_wpAny_getMethod_super (h := h') hso (PySem.W.looks_opaque KI U.opq) (l₀ := cd.mro) (fun A Q E s k q => wpAny_bind ((PySem.W.looks_clsIn KI hcd2) A _ E s k (wpAny_pure q))) rfl KI hm1 hof hofc (ks_ne KI J hcd2) hat ?_
          -- the bound method
          have kp2 : ∀ b o, h'.get? b = some o → (h'.push { cls := .type "method", data := .fields #[.ref f2, .ref (w.bet n')] }).get? b = some o := fun b o e => Heap.get?_push_of_some _ e
          have hq : (h'.push { cls := .type "method", data := .fields #[.ref f2, .ref (w.bet n')] }).get? h'.objs.size = some { cls := .type "method", data := .fields #[.ref f2, .ref (w.bet n')] } := Heap.get?_push_at rfl rfl
          have I2 : Inv (NCx P wo K mg base N F f A out s0 H0 E) pins σ w.H ⟨h'.push { cls := .type "method", data := .fields #[.ref f2, .ref (w.bet n')] }, gg, dd, t + 1, os⟩ := I1.kept (t' := t + 1) kp2
          have hfr : w.H h'.objs.size = none := I1.hok.fresh (Nat.le_refl _)
          have I3 : Inv (NCx P wo K mg base N F f A out s0 H0 E) ((h'.objs.size, { cls := .type "method", data := .fields #[.ref f2, .ref (w.bet n')] }) :: pins) σ w.H ⟨h'.push { cls := .type "method", data := .fields #[.ref f2, .ref (w.bet n')] }, gg, dd, t + 1, os⟩ := ⟨I2.ok, I2.os, I2.bare, I2.base, I2.loc, I2.cell, I2.free, I2.freeC, fun p hp => by
            rcases List.mem_append.1 hp with z | z
            · exact I2.pin p (List.mem_append_left _ z)
            · rcases List.mem_cons.1 z with rfl | z
              · exact ⟨hq, hfr, Nat.ne_of_gt I1.lt, I1.nofs (Nat.le_refl _), fun v z => by cases z⟩
              · exact I2.pin p (List.mem_append_right _ z), I2.hok, I2.len⟩
          have h5 : tX (cx (NCx P wo K mg base N F f A out s0 H0 E) W) (Rep K) (fun w' => Rep K w' o (.ref (w.bet n'))) (fun ρ => bnd (g ρ) fun ds => arity n2 G2 (o :: ds)) σ w.H Q := ⟨w, ρ, rfl, ok, re, r0', q⟩
          have h6 := (h5.seq (R1 := Reps K) (fun w w' g' r => Rep.grow g' _ _ r))
          refine PySem.W.callWith_of (P := fun h => PySem.W.MethP K h'.objs.size f2 (.ref (w.bet n')) h) hpl (PySem.W.keeps_M h3) (wpAny_mono (hev _ _ _ _ (ha.run pos _ _ σ w.H _ I3 h6)) (fun a s2 hh => ?_) fun _ _ z => z)
          obtain ⟨akw, vs, H2, I4, r, ds, w2, ρ2, rfl, ok2, re2, ⟨r2, r3⟩, q2⟩ := hh
          have hq2 := (I4.pin _ (List.mem_append_right _ List.mem_cons_self)).1
          refine ⟨⟨hq2, I4.kIn⟩, ?_⟩
          have I5 : Inv (NCx P wo K mg base N F f A out s0 H0 E) pins σ w2.H s2 := ⟨I4.ok, I4.os, I4.bare, I4.base, I4.loc, I4.cell, I4.free, I4.freeC, fun p hp => I4.pin p ((List.mem_append.1 hp).elim (List.mem_append_left _) fun z => List.mem_append_right _ (List.mem_cons_of_mem _ z)), I4.hok, I4.len⟩
          have sp := spF_of (X := NCx P wo K mg base N F f A out s0 H0 E) (W := W) ok2 (reps_cons r2 r3) q2
          refine wpAny_call (ks_codeAny_call_bound hq2 (codeAny_mono (O.ok.run (NCx P wo K mg base N F f A out s0 H0 E).A (NCx P wo K mg base N F f A out s0 H0 E).stack s2 w2.H ⟨.ref (w.bet n') :: a.pos, a.kw⟩ (.ref (w.bet n') :: a.pos) (.ref (w.bet n') :: vs) Q (WE W σ) (hr.mono hkj) hg I5.env0 ?_ (.cons rfl r) sp) fun rs s3 hq3 => ?_))
          · have nl : (Value.ref (w.bet n') :: a.pos).length = ps2.length := (Paired.length (Paired.cons (F := L2.RelV) (a := V.ref (w.bet n')) (b := Value.ref (w.bet n')) rfl r)).symm.trans (O.ok.len _ _ _ _ sp)
            have := O.bi s2 (.ref (w.bet n') :: a.pos) I5.kIn (by rw [List.append_nil]; exact nl)
            rw [List.append_nil] at this
            rw [akw]
            exact this
          · cases rs with
            | error e => exact L2N.passAt tk σ pins _ _ e s3 I5 hq3
            | ok fl =>
              cases fl with
              | ret u => exact I5.after hq3
              | next => exact hq3.elim
              | brk => exact hq3.elim
              | cont => exact hq3.elim
    · cases es'⟩
end
end PL
/-! PL41: a method that calls super() as a def on data. -/
namespace PL
open PySem PySem.Spec PyProof.Rows L2 PySem.W
section
variable {P : Program} {wo : World} {K : PySem.W.Frag} {mg : Str → Option Value} {base : Heap} {N : List Str} {F : NdefX.NF} {f : Addr} {A : Around} {out : List PySem.Env} {s0 : Shared} {H0 : Hp} {E : XK} {fd : FuncData} {cc Dc : Addr} {W : WX} {j k : Nat}
theorem ev_cons {A : Around} {M : Model} {e : Expr} {es : List Expr} {pos : Pos} {env : PySem.Env} (he : starEach (e :: es) env = (false, eval e env) :: starEach es env) (Q : List Value → Shared → Prop) (E' : Value → Shared → Prop) (s : Shared) (q : Value)
    (h : wpAny M A (spliced (backTo pos (starEach (e :: es) env))) Q E' s) : wpAny M A (evalArgs q true (backTo pos (starEach (e :: es) env)) []) (fun a s1 => a.kw = [] ∧ Q a.pos s1) E' s := by
  rw [he] at h ⊢
  exact Calls.evalArgs_plain (wpAny_mono h (fun vs s1 hq => ⟨rfl, hq⟩) fun _ _ z => z)
theorem ev_nil {A : Around} {M : Model} {pos : Pos} {env : PySem.Env} (Q : List Value → Shared → Prop) (E' : Value → Shared → Prop) (s : Shared) (q : Value)
    (h : wpAny M A (spliced (backTo pos (starEach [] env))) Q E' s) : wpAny M A (evalArgs q true (backTo pos (starEach [] env)) []) (fun a s1 => a.kw = [] ∧ Q a.pos s1) E' s := by
  unfold evalArgs
  show wpAny M A (spliced [] >>= _) _ E' s
  refine wpAny_bind (wpAny_mono h (fun vs s' h' => ?_) fun _ _ x => x)
  refine wpAny_holding ?_
  exact wpAny_bind (wpAny_pure (wpAny_bind (wpAny_pure (wpAny_pure ⟨rfl, h'⟩))))
/-- THE RULE for such a def -/
theorem fgS_def {ps : List Str} {body : SM} (n m : Nat) (U : Sup P K mg F fd f cc Dc) (S : NdefX.NScope N ps ["__class__"] F.scope)
    (hb : ∀ (A : Around) (out : List PySem.Env) (s : Shared) (H : Hp) (E : XK), Room k (NCx P wo K mg base N F f A out s H E).A → A.guards = some [] → DSsA (NCx P wo K mg base N F f A out s H E) (fun c d _ H => E c d H) (.func F.body (NCx P wo K mg base N F f A out s H E).env) F.body body) (hn : ps.length = n := by rfl) (hm : N.length = m := by rfl) :
    FG P wo K mg base (k + 1) f fd ps (spF K mg n (arity n (runDef m body))) := by
  refine ⟨fun vs H Q E h => by rw [h.1, hn], fun A out s H args us vs Q E hr hg e0 bind rv hsp => ?_⟩
  obtain ⟨oc, od, dV, kV, doc, pm, an, ct, osl, efd, lk⟩ := U.lk
  obtain ⟨cl0, cld, csl, hcell⟩ := U.cell
  have same : ∀ p o, base.get? p = some o → s.heap.get? p = some o := fun p o e => (e0.bs p o e).1
  have kin := e0.mod.kin.keeps same
  have nl : vs.length = ps.length := by rw [hsp.1, hn]
  have C : NdefX.CellsAt F.cl ["__class__"] [some (.ref Dc)] s.heap H := by
    have hcb := e0.mod.kin _ _ hcell
    have hfree := (e0.bs _ _ hcb).2
    have hat := kin _ _ hcell
    rw [U.cl]
    refine ⟨rfl, fun y c e => ?_, fun x y c h1 h2 => ?_, fun i y e => ?_⟩
    · rw [List.lookup_cons] at e
      cases hy : y == ("__class__" : Str) with
      | true => rw [hy] at e; cases e; exact ⟨hfree, _, _, hat, rfl⟩
      | false => rw [hy] at e; cases e
    · rw [List.lookup_cons] at h1 h2
      cases hx : x == ("__class__" : Str) with
      | false => rw [hx] at h1; cases h1
      | true =>
        cases hy : y == ("__class__" : Str) with
        | false => rw [hy] at h2; cases h2
        | true => rw [beq_iff_eq.mp hx, beq_iff_eq.mp hy]
    · cases i with
      | zero =>
        have e : some ("__class__" : Str) = some y := e
        cases e
        refine ⟨cc, by rw [List.lookup_cons, beq_self_eq_true], fun v hv => ?_⟩
        have hv : some (some (V.ref Dc)) = some (some v) := hv
        cases hv
        exact ⟨_, rfl, _, hat, rfl⟩
      | succ i => cases e
  refine ks_codeAny_call_defAt (fd := fd) (body := F.body) (binds := ps.zip us) hr.depth (kin _ _ lk) rfl (e0.mod.nolimit.keeps same) (by rw [efd]; exact PySem.W.codeRec_of kin U.cd) (by rw [efd]) bind (by rw [efd]; exact S.nocell) (fun p hp => by rw [efd]; exact S.par _ (List.of_mem_zip hp).1) (fun h₁ hns kp => ?_) (by rw [efd]; exact S.co) (by rw [efd]; exact S.gen) (by rw [efd]; exact S.kind)
  have eenv : callEnv fd s.heap.objs.size f = (NCx P wo K mg base N F f A out s H E).env := by rw [efd]; rfl
  rw [eenv]
  have inv := NdefX.inv_startN (CX := L2N.CX P wo) (P := P) (w := wo) (K := K) (mg := mg) (base := base) (N := N) (F := F) (f := f) (A := A) (outer := out) (E := E) (tk := s.toks + (ps.zip us).length) S hr.hd e0 nl rv C hns kp
  have body' := hb A out s H E (hr.deeper _) hg
  have rd : tS (cx (NCx P wo K mg base N F f A out s H E) (fun c d _ H => E c d H)) body { nx := fun _ H' => Q .non H', rt := Q } (NdefX.startF N vs [some (.ref Dc)]) H := by
    obtain ⟨hl, w, ds, rfl, ok, r, q⟩ := hsp
    have hlen := r.length
    have hpre := congrArg List.length S.pre
    rw [List.length_take, List.length_append] at hpre
    simp only [List.length_cons, List.length_nil] at hpre
    refine ⟨w, ds.map some ++ List.replicate (N.length - ds.length) none, rfl, ok, ⟨?_, fun i d e => ?_⟩, ?_⟩
    · unfold NdefX.startF
      simp only [List.length_append, List.length_map, List.length_replicate, List.length_cons, List.length_nil]
      omega
    · by_cases hi : i < ds.length
      · rw [List.getElem?_append_left (by rw [List.length_map]; exact hi), List.getElem?_map] at e
        cases ed : ds[i]? with
        | none => rw [ed] at e; cases e
        | some d' =>
          rw [ed] at e
          cases e
          obtain ⟨v, hv, rv'⟩ := r.get ed
          refine ⟨v, ?_, rv'⟩
          unfold NdefX.startF
          rw [List.getElem?_append_left (by rw [List.length_map, ← hlen]; exact hi), List.getElem?_map, hv]
          rfl
      · rw [List.getElem?_append_right (by rw [List.length_map]; omega), List.getElem?_replicate] at e
        split at e <;> cases e
    · have hd : ds.length = n := r.length.trans hl
      rw [arity_ok hd] at q
      unfold runDef at q
      rw [← hm] at q
      cases e : body (ds.map some ++ List.replicate (N.length - ds.length) none) w.st with
      | bad => rw [e] at q; exact q.elim
      | nx ρ st => rw [e] at q; exact fun w' g ok' es σ' _ => q w' g ok' es V.non rfl
      | rt d st => rw [e] at q; exact q
      | bk ρ st => rw [e] at q; exact q.elim
      | ct ρ st => rw [e] at q; exact q.elim
      | ex x ρ st => rw [e] at q; exact fun w' g ok' es σ' _ => q w' g ok' es
  refine PySem.wpAt_mono (body'.run [] _ _ H _ inv rd) (fun fl s1 h => ?_) fun _ _ h => h
  cases fl with
  | ret u => obtain ⟨v, _, H', J, r, q⟩ := h; exact ⟨v, H', J.os, J.bare, J.base, J.hok, r, q⟩
  | next => obtain ⟨_, H', J, q⟩ := h; exact ⟨.non, H', J.os, J.bare, J.base, J.hok, rfl, q⟩
  | brk => obtain ⟨_, _, _, q⟩ := h; exact q.elim
  | cont => obtain ⟨_, _, _, q⟩ := h; exact q.elim
end
end PL
/-! PL42: what stands in an except suite: isinstance of the exception, its field, tests, displays, several statements. -/
namespace PL
open PySem PySem.Spec PyProof.Rows L2
/-- what a suite knows, and that the exception's dict is out of reach -/
def PX2 (K : PySem.W.Frag) (mg : Str → Option Value) (i : Nat) (a : Addr) (cls : Value) (d : Option Addr) (e : Exc) : Wd → L2.St → Prop := fun w σ => PX K mg i a cls d e w σ ∧ ∀ p, d = some p → ¬ Lv w p
def MonoP (P : Wd → L2.St → Prop) : Prop := ∀ σ, Mono (fun w => P w σ)
theorem xd_far {K : PySem.W.Frag} {w : Wd} {p : Addr} {fs : List (Str × V)} (ok : WOk K w) (h : w.H p = some (.xd fs)) : ¬ Lv w p := fun l => by
  rcases l with ⟨n, ob, h1, h2⟩ | l
  · have q := ok.ob n ob h1
    rw [h2] at q
    cases ob with
    | lst xs => obtain ⟨vs, e, _⟩ := q; rw [h] at e; cases e
    | dct xs => obtain ⟨vs, e, _⟩ := q; rw [h] at e; cases e
    | dcT xs => obtain ⟨vs, e, _⟩ := q; rw [h] at e; cases e
    | ins C fs => obtain ⟨_, _, _, _, e, _⟩ := q; rw [h] at e; cases e
  · obtain ⟨vs, e⟩ := ok.hidL p l
    rw [h] at e
    cases e
theorem px2_of {K : PySem.W.Frag} {mg : Str → Option Value} {i : Nat} {a : Addr} {cls : Value} {d : Option Addr} {e : Exc} {w : Wd} {σ : L2.St} (ok : WOk K w) (h : PX K mg i a cls d e w σ) : PX2 K mg i a cls d e w σ := ⟨h, fun p hp => by
  obtain ⟨⟨_, h2, h3⟩, _⟩ := h
  cases ea : e.arg with
  | none => rw [h2 ea] at hp; cases hp
  | some q =>
    obtain ⟨n, x⟩ := q
    obtain ⟨v, p', e1, e2, _⟩ := h3 n x ea
    rw [hp] at e1
    cases e1
    exact xd_far ok e2⟩
theorem mono_px2 {K : PySem.W.Frag} {mg : Str → Option Value} {i : Nat} {a : Addr} {cls : Value} {d : Option Addr} {e : Exc} : MonoP (PX2 K mg i a cls d e) := fun σ w w' g h => by
  obtain ⟨⟨⟨h1, h2, h3⟩, h4⟩, h5⟩ := h
  refine ⟨⟨⟨h1, h2, fun n x ea => ?_⟩, h4⟩, fun p hp => ?_⟩
  · obtain ⟨v, p, e1, e2, e3⟩ := h3 n x ea
    exact ⟨v, p, e1, (g.keep p _ e2 (h5 p e1)).1, Rep.grow g _ _ e3⟩
  · cases ea : e.arg with
    | none => rw [h2 ea] at hp; cases hp
    | some q =>
      obtain ⟨n, x⟩ := q
      obtain ⟨v, p', e1, e2, _⟩ := h3 n x ea
      have e3 := e1
      rw [hp] at e3
      cases e3
      exact (g.keep p _ e2 (h5 p e1)).2
abbrev XEd (X : Cx) (W : WX) (P : Wd → L2.St → Prop) (e : Expr) (f : Env → M D) : Prop := PE X e (tXs (cx X W) P f)
def tXa (C : Ctx) (P : Wd → L2.St → Prop) (f : Env → M (List D)) : TA := fun σ H Q => tX C (Reps C.K) (fun w => P w σ) f σ H Q
def tXt (C : Ctx) (P : Wd → L2.St → Prop) (f : Env → M Bool) : TT := fun σ H Q => tX C (fun _ (a b : Bool) => a = b) (fun w => P w σ) f σ H Q
abbrev XAd (X : Cx) (W : WX) (P : Wd → L2.St → Prop) (e : List Expr) (f : Env → M (List D)) : Prop := PA X e (tXa (cx X W) P f)
abbrev XTd (X : Cx) (W : WX) (P : Wd → L2.St → Prop) (e : Expr) (f : Env → M Bool) : Prop := PT X e (tXt (cx X W) P f)
abbrev XSd (X : Cx) (W : WX) (P : Wd → L2.St → Prop) (s : Stmt) (f : SM) : Prop := PS X s (tSs (cx X W) P f)
abbrev XSs (X : Cx) (W : WX) (P : Wd → L2.St → Prop) (s : List Stmt) (f : SM) : Prop := PSs X s (tSs (cx X W) P f)
section
variable {X : Cx} {W : WX} {P : Wd → L2.St → Prop}
theorem xd_of {e : Expr} {f : Env → M D} (h : DE X W e f) : XEd X W P e f := xs_of h
theorem xe_imp {P' : Wd → L2.St → Prop} {e : Expr} {f : Env → M D} (h : XEd X W P' e f) (k : ∀ w σ, P w σ → P' w σ) : XEd X W P e f := h.imp fun σ H Q ⟨w, ρ, e1, ok, re, p, q⟩ => ⟨w, ρ, e1, ok, re, k _ _ p, q⟩
theorem xa_nil : XAd X W P [] sNil := pa_nil.imp fun σ H Q h => by
  obtain ⟨w, ρ, rfl, ok, re, _, q⟩ := h
  exact q w (Grow.refl w) ok rfl [] reps_nil
theorem xa_cons (hP : MonoP P) {e : Expr} {es : List Expr} {f : Env → M D} {g : Env → M (List D)} (ha : XEd X W P e f) (hr : XAd X W P es g) (hs : starEach (e :: es) X.env = (false, eval e X.env) :: starEach es X.env := by rfl) : XAd X W P (e :: es) (sCons f g) := by
  refine (pa_cons ha hr hs).imp fun σ H Q h => ?_
  obtain ⟨w0, ρ0, e0, ok0, re0, p0, q0⟩ := h
  refine ⟨w0, ρ0, e0, ok0, re0, p0, ?_⟩
  have q0 : Post (cx X W) (Reps X.K) w0 ((f ρ0 w0.st).bnd fun a => bnd (g ρ0) fun as => ret (a :: as)) Q _ := q0
  cases hf : f ρ0 w0.st with
  | bad => rw [hf] at q0; exact q0
  | exc e st => rw [hf] at q0; exact q0
  | ok a st =>
    rw [hf] at q0
    intro w4 g4 ok4 es4 x r4
    have q4 : Post (cx X W) (Reps X.K) w4 ((g ρ0 w4.st).bnd fun as => ret (a :: as)) Q ((cx X W).we σ) := by rw [es4]; exact Post.grow g4 q0
    refine ⟨w4, ρ0, rfl, ok4, re0.grow g4, hP σ _ _ g4 p0, ?_⟩
    cases hg : g ρ0 w4.st with
    | bad => rw [hg] at q4; exact q4
    | exc e st => rw [hg] at q4; exact q4
    | ok b st =>
      rw [hg] at q4
      exact fun w' g' ok' es y hy => q4 w' g' ok' es _ (reps_cons (Rep.grow g' _ _ r4) hy)
theorem xs_lst {es : List Expr} {f : Env → M (List D)} {pos : Pos} (h : XAd X W P es f) : XEd X W P (.List es pos) (sLst false f) := by
  refine (pe_lst h).imp fun σ H Q hq => ?_
  obtain ⟨w, ρ, rfl, ok, re, p, q⟩ := hq
  refine ⟨w, ρ, rfl, ok, re, p, ?_⟩
  have q : Post (cx X W) (Rep X.K) w ((f ρ w.st).bnd fun xs st => if xs.length ≤ sizeLine then mkL false xs st else .bad) Q _ := q
  cases hf : f ρ w.st with
  | bad => rw [hf] at q; exact q
  | exc e st => rw [hf] at q; exact q
  | ok xs st =>
    rw [hf] at q
    have q : Post (cx X W) (Rep X.K) w (if xs.length ≤ sizeLine then mkL false xs st else .bad) Q _ := q
    intro w' g' ok' es vs hx
    by_cases hz : xs.length ≤ sizeLine
    · rw [if_pos hz] at q
      have q : ∀ w', Grow w w' → WOk X.K w' → w'.st = st → ∀ v, Rep X.K w' (.lst xs) v → Q v w'.H := q
      refine ⟨by rw [← Reps.length hx]; exact hz, fun pp np => ?_⟩
      exact q (w'.put pp (.lst vs)) (g'.trans (Grow.new ok' np)) (ok'.new np) es _ (rep_newL ok' np hx)
    · rw [if_neg hz] at q
      exact q.elim
theorem xt_tru (hP : MonoP P) {e : Expr} {f : Env → M D} (h : XEd X W P e f) (he : ∀ whole, isTrue e X.env whole = (do let v ← whole; standAt e.pos; holding [v] (truthy v)) := by intro _; rfl) : XTd X W P e (sTru f) :=
  (pt_truth h he).imp fun σ H Q hq => by
    obtain ⟨w, ρ, rfl, ok, re, p, q⟩ := hq
    refine ⟨w, ρ, rfl, ok, re, p, ?_⟩
    have q : Post (cx X W) (fun _ (a b : Bool) => a = b) w ((f ρ w.st).bnd fun a st => ofO (truD st a) st) Q _ := q
    cases hf : f ρ w.st with
    | bad => rw [hf] at q; exact q
    | exc e st => rw [hf] at q; exact q
    | ok a st =>
      rw [hf] at q
      have q : Post (cx X W) (fun _ (a b : Bool) => a = b) w (ofO (truD st a) st) Q _ := q
      cases et : truD st a with
      | none => rw [et] at q; exact q.elim
      | some b =>
        rw [et] at q
        exact fun w' g' ok' es x hx => ⟨b, tru_rep ok' hx (by rw [es]; exact et), q w' g' ok' es b rfl⟩
theorem xs_if (hP : MonoP P) {c a b : Expr} {fc : Env → M Bool} {f g : Env → M D} {pos : Pos} (hc : XTd X W P c fc) (ha : XEd X W P a f) (hb : XEd X W P b g) : XEd X W P (.IfExp c a b pos) (sIf fc f g) :=
  (pe_ifExp hc ha hb).imp fun σ H Q hq => by
    obtain ⟨w, ρ, rfl, ok, re, p, q⟩ := hq
    refine ⟨w, ρ, rfl, ok, re, p, ?_⟩
    have q : Post (cx X W) (Rep X.K) w ((fc ρ w.st).bnd fun k => if k then f ρ else g ρ) Q _ := q
    cases hf : fc ρ w.st with
    | bad => rw [hf] at q; exact q
    | exc e st => rw [hf] at q; exact q
    | ok k st =>
      rw [hf] at q
      intro w' g' ok' es x hx
      have hx : k = x := hx
      subst hx
      cases k with
      | true => exact ⟨w', ρ, rfl, ok', re.grow g', hP σ _ _ g' p, by rw [es]; exact Post.grow g' q⟩
      | false => exact ⟨w', ρ, rfl, ok', re.grow g', hP σ _ _ g' p, by rw [es]; exact Post.grow g' q⟩
theorem ss_if (hP : MonoP P) {c : Expr} {a b : List Stmt} {fc : Env → M Bool} {f g : SM} {pos : Pos} (hc : XTd X W P c fc) (ha : XSs X W P a f) (hb : XSs X W P b g) : XSd X W P (.If c a b pos) (sIfS fc f g) :=
  PS.imp (ps_if hc ha hb) fun D σ H hq => by
    obtain ⟨w, ρ, rfl, ok, re, p, q⟩ := hq
    refine ⟨w, ρ, rfl, ok, re, p, ?_⟩
    unfold sIfS sThen at q
    cases hf : fc ρ w.st with
    | bad => rw [hf] at q; exact q
    | exc e st => rw [hf] at q; exact fun w' g' ok' es => q w' g' ok' es σ (re.grow g')
    | ok k st =>
      rw [hf] at q
      intro w' g' ok' es x hx
      have hx : k = x := hx
      subst hx
      cases k with
      | true => exact ⟨w', ρ, rfl, ok', re.grow g', hP σ _ _ g' p, by rw [es]; exact SPost.grow g' q⟩
      | false => exact ⟨w', ρ, rfl, ok', re.grow g', hP σ _ _ g' p, by rw [es]; exact SPost.grow g' q⟩
theorem sss_nil : XSs X W P [] sSkip := PSs.imp pss_nil fun D σ H ⟨w, ρ, e, ok, re, _, q⟩ => by
  subst e
  exact q w (Grow.refl w) ok rfl σ re
/-- if c: (a suite that leaves); rest: the slots behind the if are those ahead -/
theorem sss_if_then (hP : MonoP P) {c : Expr} {a r : List Stmt} {fc : Env → M Bool} {f g : SM} {pos : Pos} (hc : XTd X W P c fc) (ha : XSs X W P a f) (hr : XSs X W P r g) (hf : ∀ ρ st ρ' st', f ρ st ≠ .nx ρ' st') : XSs X W P (.If c a [] pos :: r) (sSeq (sIfS fc f sSkip) g) :=
  PSs.imp (pss_cons (ps_if hc ha pss_nil) hr) fun D σ H hq => by
    obtain ⟨w, ρ, rfl, ok, re, p, q⟩ := hq
    refine ⟨w, ρ, rfl, ok, re, p, ?_⟩
    unfold sSeq sIfS sThen at q
    cases hc' : fc ρ w.st with
    | bad => rw [hc'] at q; exact q
    | exc e st => rw [hc'] at q; exact fun w' g' ok' es => q w' g' ok' es σ (re.grow g')
    | ok k st =>
      rw [hc'] at q
      intro w' g' ok' es x hx
      have hx : k = x := hx
      subst hx
      cases k with
      | true =>
        refine ⟨w', ρ, rfl, ok', re.grow g', hP σ _ _ g' p, ?_⟩
        rw [es]
        simp only [if_true] at q
        cases ef : f ρ st with
        | nx ρ1 st1 => exact absurd ef (hf _ _ _ _)
        | bad => rw [ef] at q; exact q
        | rt d1 st1 => rw [ef] at q; exact SPost.grow (C := cx X W) (r := .rt d1 st1) (D := { D with nx := _ }) g' q
        | bk d1 st1 => rw [ef] at q; exact SPost.grow (C := cx X W) (r := .bk d1 st1) (D := { D with nx := _ }) g' q
        | ct d1 st1 => rw [ef] at q; exact SPost.grow (C := cx X W) (r := .ct d1 st1) (D := { D with nx := _ }) g' q
        | ex e1 d1 st1 => rw [ef] at q; exact SPost.grow (C := cx X W) (r := .ex e1 d1 st1) (D := { D with nx := _ }) g' q
      | false => exact ⟨w', ρ, rfl, ok', re.grow g', hP σ _ _ g' p, by rw [es]; exact SPost.grow g' q⟩

/-! ### isinstance(e, T), e the exception -/
def sIsX (e : Exc) (l : List (String × Bool)) : Env → M D := fun _ st => match l.lookup e.cls with
  | some b => .ok (.bl b) st
  | none => .bad
def KX (K : PySem.W.Frag) (mg : Str → Option Value) (T : Addr) (l : List (String × Bool)) : Prop := ∀ nm b, l.lookup nm = some b → ∃ C, mg (Str.ofString nm) = some (.ref C) ∧ ExcC K C ∧ PySem.W.kitOne K (.ref C) (.ref T) = some b
theorem kx_nil {K : PySem.W.Frag} {mg : Str → Option Value} {T : Addr} : KX K mg T [] := fun C b h => by cases h
theorem kx_cons {K : PySem.W.Frag} {mg : Str → Option Value} {T C : Addr} {x : String} {b : Bool} {l : List (String × Bool)} (h1 : mg (Str.ofString x) = some (.ref C)) (h2 : ExcC K C) (h3 : PySem.W.kitOne K (.ref C) (.ref T) = some b) (t : KX K mg T l) : KX K mg T ((x, b) :: l) := fun D c hc => by
  rw [List.lookup_cons] at hc
  by_cases e : D = x
  · subst e
    rw [beq_self_eq_true] at hc
    cases hc
    exact ⟨C, h1, h2, h3⟩
  · rw [beq_eq_false_iff_ne.mpr e] at hc
    exact t D c hc
theorem call_isX {a : Addr} {oe : Obj} {cls : Value} {d : Option Addr} {T : Addr} (hz : L2N.Zn cls d oe) (hf : ∃ vs, oe.data = .fields vs) (hpn : (a, oe) ∈ X.pn) : CallR X (.builtin "isinstance") (fun xs H Q => ∃ C b, xs = [.ref a, .ref T] ∧ cls = .ref C ∧ ExcC X.K C ∧ PySem.W.kitOne X.K (.ref C) (.ref T) = some b ∧ (∀ p, d = some p → ∃ fs, H p = some (.xd fs)) ∧ Q (.bl b) H) := by
  intro pins s σ H xs us Q I r h
  obtain ⟨C, b, rfl, rfl, EC, e, hd, q⟩ := h
  obtain ⟨u1, u2, rfl, r1, r2⟩ := vals2 r
  cases (show u1 = Value.ref a from r1)
  cases (show u2 = Value.ref T from r2)
  obtain ⟨hget, _⟩ := I.pin (a, oe) (List.mem_append.mpr (.inl hpn))
  obtain ⟨vs, hv⟩ := hf
  have hcl : (PySem.W.clsIn X.K C).isSome = true := by
    obtain ⟨cd, hc, _⟩ := PySem.W.any_some EC.hd
    rw [hc]; rfl
  obtain ⟨oc, od, oda, osl⟩ := oe
  obtain ⟨z1, z2, _⟩ := hz
  dsimp only at z1 z2 hv
  subst z1 z2 hv
  have J : ∃ odo, PySem.W.InstAt s.heap a ⟨.ref C, od, .fields vs, osl⟩ C odo := by
    cases od with
    | none => exact ⟨none, hget, rfl, rfl, trivial⟩
    | some p =>
      obtain ⟨fs, hp⟩ := hd p rfl
      obtain ⟨mA, ⟨o, es, ep, ho, _⟩, _⟩ := (show ObjOk X.prog X.w H s.heap p (.xd fs) from I.hok p _ hp)
      exact ⟨some o, hget, rfl, rfl, ho⟩
  obtain ⟨odo, J⟩ := J
  exact PySem.W.kia_one (PySem.W.kitx_exc hcl EC.hg EC.hk EC.hs EC.ha EC.hn EC.ht EC.hm) I.kIn J e (fun z => nomatch z) fun tk => ⟨.bl b, H, I.tok tk, rfl, q⟩
theorem xs_isX {i : Nat} {a : Addr} {oe : Obj} {cls : Value} {d : Option Addr} {e : Exc} {T : Addr} {l : List (String × Bool)} {n x : Str} {p p1 p2 pos : Pos} (hz : L2N.Zn cls d oe) (hf : ∃ vs, oe.data = .fields vs) (hpn : (a, oe) ∈ X.pn) (hl : KX X.K X.mg T l) (hT : X.mg x = some (.ref T)) (hzi : X.mg "isinstance" = none) (hN : X.N[i]? = some n) (hv : Vis X.env.scope n)
    (hgl : Gl X x := by rfl) (hgi : Gl X "isinstance" := by rfl) (hdb : (x == ("__debug__" : Str)) = false := by decide) (hd1 : (n == ("__debug__" : Str)) = false := by decide) (hd2 : (n == ("__classdict__" : Str)) = false := by decide)
    (he : starEach [.Name n p1, .Name x p2] X.env = (false, eval (.Name n p1) X.env) :: starEach [.Name x p2] X.env := by rfl) (hs : starEach [.Name x p2] X.env = (false, eval (.Name x p2) X.env) :: starEach [] X.env := by rfl) (hpl : (backTo pos (starEach [.Name x p2] X.env)).any (·.1) = false := by rfl) :
    XEd X W (PX2 X.K X.mg i a cls d e) (.Call (.Name "isinstance" p) [.Name n p1, .Name x p2] [] pos) (sIsX e l) :=
  ⟨fun pins s σ H Q I hq => (pe_callB (call_isX (T := T) hz hf hpn) hgi hzi boot_isinstance (pa_cons (pe_var hN hv hd1 hd2) (pa_cons (pe_glob (v := .ref T) hgl hT rfl hdb) pa_nil hs) he) (by decide) (by decide) he hpl).run pins s σ H Q I (by
    obtain ⟨w, ρ, rfl, ok, re, ⟨⟨hx, hσ⟩, _⟩, q⟩ := hq
    unfold sIsX at q
    cases eb : l.lookup e.cls with
    | none => simp only [eb] at q; exact q.elim
    | some b =>
      simp only [eb] at q
      obtain ⟨C, hm, EC, ki⟩ := hl _ _ eb
      have hcls : cls = .ref C := by
        rcases hx.1 with ⟨u, h1, h2⟩ | ⟨h1, _⟩
        · rw [h2]; rw [hm] at h1; exact (Option.some.inj h1).symm
        · rw [hm] at h1; cases h1
      refine ⟨.ref a, hσ (by rw [I.len]; exact (List.getElem?_eq_some_iff.1 hN).1), C, b, rfl, hcls, EC, ki, fun p' hp' => ?_, q w (Grow.refl w) ok rfl _ rfl⟩
      cases ea : e.arg with
      | none => rw [hx.2.1 ea] at hp'; cases hp'
      | some qq =>
        obtain ⟨nn, y⟩ := qq
        obtain ⟨v, p3, e1, e2, _⟩ := hx.2.2 nn y ea
        rw [hp'] at e1
        cases e1
        exact ⟨_, e2⟩)⟩
/-- the suite of «except .. as n», from its reading with what is known -/
theorem suite_of {C : Ctx} {i : Nat} {a : Addr} {cls : Value} {d : Option Addr} {e : Exc} {mg : Str → Option Value} {st : List Stmt} {f : SM} (h : PSs X st (tSs C (PX2 C.K mg i a cls d e) f)) : PSs X st (tSs C (PX C.K mg i a cls d e) f) :=
  PSs.imp h fun D σ H ⟨w, ρ, e1, ok, re, p, q⟩ => ⟨w, ρ, e1, ok, re, px2_of ok p, q⟩
end
end PL
/-! PL43: sorted(texts). -/
namespace PL
open PySem PySem.Spec PyProof.Rows L2
abbrev LeL (a b : List Nat) : Prop := ¬ b < a
def insT (w : List Nat) : List (List Nat) → List (List Nat)
  | [] => [w]
  | x :: l => if x < w then x :: insT w l else w :: x :: l
def sot (ts : List (List Nat)) : List (List Nat) := ts.foldr insT []
theorem insT_perm (w : List Nat) : ∀ l, (insT w l).Perm (w :: l)
  | [] => List.Perm.refl _
  | x :: l => by
    unfold insT
    split
    · exact ((insT_perm w l).cons x).trans (List.Perm.swap w x l)
    · exact List.Perm.refl _
theorem sot_perm (ts : List (List Nat)) : (sot ts).Perm ts := by
  induction ts with
  | nil => exact List.Perm.refl _
  | cons t ts ih => exact (insT_perm t (sot ts)).trans (ih.cons t)
theorem sot_mem (ts : List (List Nat)) (v : List Nat) : v ∈ sot ts ↔ v ∈ ts := (sot_perm ts).mem_iff
theorem sot_len (ts : List (List Nat)) : (sot ts).length = ts.length := (sot_perm ts).length_eq
theorem leL_trans {a b c : List Nat} (h1 : LeL a b) (h2 : LeL b c) : LeL a c := List.not_lt.mpr (List.le_trans (List.not_lt.mp h1) (List.not_lt.mp h2))
theorem insT_asc (w : List Nat) : ∀ l, l.Pairwise LeL → (insT w l).Pairwise LeL
  | [], _ => List.pairwise_singleton _ _
  | x :: l, h => by
    obtain ⟨h1, h2⟩ := List.pairwise_cons.1 h
    unfold insT
    split
    · rename_i hx
      refine List.pairwise_cons.2 ⟨fun v hv => ?_, insT_asc w l h2⟩
      rcases List.mem_cons.1 ((insT_perm w l).mem_iff.1 hv) with rfl | hv
      · exact List.not_lt.mpr (List.le_of_lt hx)
      · exact h1 v hv
    · rename_i hx
      refine List.pairwise_cons.2 ⟨fun v hv => ?_, h⟩
      rcases List.mem_cons.1 hv with rfl | hv
      · exact hx
      · exact leL_trans hx (h1 v hv)
theorem sot_asc (ts : List (List Nat)) : (sot ts).Pairwise LeL := by
  induction ts with
  | nil => exact List.Pairwise.nil
  | cons t ts ih => exact insT_asc t _ ih
theorem leL_uniq : ∀ {xs ys : List (List Nat)}, xs.Perm ys → xs.Pairwise LeL → ys.Pairwise LeL → xs = ys
  | [], ys, p, _, _ => p.symm.eq_nil.symm
  | x :: xs, [], p, _, _ => p.eq_nil
  | x :: xs, y :: ys, p, h, k => by
    obtain ⟨h1, h2⟩ := List.pairwise_cons.1 h
    obtain ⟨k1, k2⟩ := List.pairwise_cons.1 k
    have e : x = y := by
      rcases List.mem_cons.1 (p.mem_iff.1 List.mem_cons_self) with e | hx
      · exact e
      · rcases List.mem_cons.1 (p.mem_iff.2 (List.mem_cons_self (a := y) (l := ys))) with e | hy
        · exact e.symm
        · exact lt_tri (k1 x hx) (h1 y hy)
    subst e
    rw [leL_uniq (List.Perm.cons_inv p) h2 k2]
theorem sorted_leL : ∀ {ys : List Str}, sortedS ys = true → (ys.map fun y => y.cps.toList).Pairwise LeL
  | [], _ => List.Pairwise.nil
  | x :: ys, h => by
    have step : ∀ (ys : List Str) (x : Str), risingS x ys = true → (x.cps.toList :: ys.map fun y => y.cps.toList).Pairwise LeL := by
      intro ys
      induction ys with
      | nil => exact fun x _ => List.pairwise_singleton _ _
      | cons y ys ih =>
        intro x hr
        have hr : (!ltCps y.cps.toList x.cps.toList && risingS y ys) = true := hr
        rw [Bool.and_eq_true, Bool.not_eq_true', ltCps_eq, decide_eq_false_iff_not] at hr
        have q := ih y hr.2
        refine List.pairwise_cons.2 ⟨fun v hv => ?_, q⟩
        rw [List.map_cons] at hv
        rcases List.mem_cons.1 hv with rfl | hv
        · exact hr.1
        · exact leL_trans hr.1 ((List.pairwise_cons.1 q).1 v hv)
    exact step ys x h
section
variable {X : Cx} {W : WX}
/-- sorted(e), a list of less than 64 texts -/
noncomputable def sSo1 (m : Bool) (f : Env → M D) : Env → M D := fun ρ => bnd (f ρ) fun d st => match (viewL st d).bind asStrs with
  | some ts => if ts.length < 64 then mkL m ((sot ts).map .str) st else .bad
  | none => .bad
theorem de_sortS (m : Bool) {f : Env → M D} {x : Str} {e : Expr} {p pos : Pos} (hx : x = "sorted") (hg : Gl X x) (hm : X.mg x = none) (he : DE X W e f) (h1 : starEach [e] X.env = (false, eval e X.env) :: starEach [] X.env := by rfl) :
    DE X W (.Call (.Name x p) [e] [] pos) (sSo1 m f) := by
  subst hx
  refine (pe_callB cr_sortedS hg hm (by decide +kernel) (pa_cons he pa_nil h1) (p := p) (pos := pos) (by decide) (by decide) h1).imp fun σ H Q h => ?_
  refine (tX.seq0 (R1 := Rep X.K) h).imp fun v H1 ⟨d, h1⟩ => ?_
  obtain ⟨w, ρ, rfl, ok, re, ⟨_, r1⟩, q⟩ := h1
  cases ev : (viewL w.st d).bind asStrs with
  | none => simp only [ev] at q; exact q.elim
  | some ts =>
    simp only [ev] at q
    obtain ⟨ds, ed, es⟩ := Option.bind_eq_some_iff.1 ev
    have ex := asStrs_eq es
    subst ex
    obtain ⟨a, vs, rfl, h2, h3⟩ := view_rep ok ed r1
    rw [Reps.strs h3] at h2
    by_cases hz : ts.length < 64
    · rw [if_pos hz] at q
      refine ⟨a, ts.map toS, rfl, SqL.of h2, by rw [List.length_map]; exact hz, fun ys p2 hp hs hp2 => ?_⟩
      have eys : ys = (sot ts).map toS := by
        have hpm : (ys.map fun y => y.cps.toList).Perm ts := by
          have := hp.map fun y : Str => y.cps.toList
          rw [List.map_map] at this
          have e2 : ts.map ((fun y : Str => y.cps.toList) ∘ toS) = ts := List.map_id'' (fun t => toS_list t) ts
          rw [e2] at this
          exact this
        have : (ys.map fun y => y.cps.toList) = sot ts := leL_uniq (hpm.trans (sot_perm ts).symm) (sorted_leL hs) (sot_asc ts)
        rw [← this, List.map_map]
        refine (List.map_id'' (fun y => ?_) ys).symm
        exact toS_cps y
      rw [eys]
      refine mk_list (X := X) (W := W) (w := w) ok (xs := (sot ts).map D.str) ?_ q p2 hp2
      have : ∀ l : List (List Nat), Reps X.K w (l.map D.str) ((l.map toS).map V.str) := fun l => by
        induction l with
        | nil => exact reps_nil
        | cons t l ih => exact reps_cons (show V.str (toS t) = V.str (toS t) from rfl) ih
      exact this _
    · rw [if_neg hz] at q
      exact q.elim
@[simp] theorem wp_sortS {X : Exc → Store → Prop} {ρ : Env} {st : Store} {Q : D → Store → Prop} (m : Bool) (f : Env → M D) : wp (sSo1 m f ρ st) X Q = wp (f ρ st) X fun d st1 => wo ((viewL st1 d).bind asStrs) fun ts => ts.length < 64 ∧ wp (mkL m ((sot ts).map .str) st1) X Q := by
  unfold sSo1 bnd
  cases f ρ st with
  | bad => rfl
  | exc e st1 => rfl
  | ok d st1 =>
    show wp (match (viewL st1 d).bind asStrs with | some ts => if ts.length < 64 then mkL m ((sot ts).map .str) st1 else .bad | none => .bad) X Q = wo ((viewL st1 d).bind asStrs) fun ts => ts.length < 64 ∧ wp (mkL m ((sot ts).map .str) st1) X Q
    cases (viewL st1 d).bind asStrs with
    | none => rfl
    | some ts =>
      simp only [wo_some_]
      exact wp_ite _ _ _
end
end PL
/-! PL44: defs with defaults; what generated walks of classes need. -/
namespace PL
open PySem PySem.Spec PyProof.Rows L2
/-- a def with defaults as it stands behind the top -/
structure FunV (K : PySem.W.Frag) (x qual : Str) (st : Stmt) (f : Addr) (fd : FuncData) : Prop where
  ex : ∃ oc od dV kV doc pm an cdv ct osl, fd = PySem.W.fnOf x qual (defArgs st) (defBody st) (defScope st) dV kV doc pm an cdv ct ∧ K.lookup f = some ⟨oc, od, .func fd, osl⟩ ∧ PySem.W.codeIn K cdv qual = true
section
variable {P : Program} {wo : World} {K : PySem.W.Frag} {mg : Str → Option Value} {base : Heap} {k : Nat} {f : Addr} {fd : FuncData} {ps : List Str}
theorem fg_bodyV {sp : Sp} {x qual : Str} {st : Stmt} {N : List Str} (F : FunV K x qual st f fd) (S : FnScope N ps (defScope st)) (hlen : ∀ vs H Q E, sp vs H Q E → vs.length = ps.length)
    (hb : ∀ (cdv : Value) (A : Around) (out : List PySem.Env) (s : Shared) (H : Hp) (vs : List V) (Q : VK) (E : XK), Room k (A.deeper (envOfC qual (defScope st) s.heap.objs.size f cdv)) → A.guards = some [] → sp vs H Q E →
      ∃ t, PSs (cxOf (L2N.CX P wo) P wo K mg base N qual (defScope st) f cdv A out s H E) (defBody st) t ∧ t { nx := fun _ H' => Q .non H', rt := Q } (start N vs) H) :
    FG P wo K mg base (k + 1) f fd ps sp := by
  obtain ⟨oc, od, dV, kV, doc, pm, an, cdv, ct, osl, efd, lk, hcd⟩ := F.ex
  subst efd
  refine ⟨hlen, ?_⟩
  intro A out s H args us vs Q E hr hg e0 bind rv hs
  have same : ∀ b o, base.get? b = some o → s.heap.get? b = some o := fun b o e => (e0.bs b o e).1
  have kin := e0.mod.kin.keeps same
  have nolim := e0.mod.nolimit.keeps same
  have nv : vs.length = ps.length := hlen _ _ _ _ hs
  have parK : ∀ y ∈ ps.zip us, (defScope st).names.lookup y.1 = some .local ∨
      ((defScope st).names.lookup y.1 = some .cell ∧ ((cellsFrom (s.heap.objs.size + 1) (defScope st).names []).lookup y.1).isSome = true) := by
    rintro ⟨z, u⟩ hz
    have hm : z ∈ ps := (List.of_mem_zip hz).1
    cases S.par z hm with
    | inl h => exact Or.inl h
    | inr h => exact Or.inr ⟨h, PySem.W.cellsFrom_some _ _ _ (Or.inl h)⟩
  refine codeAny_call_function hr.depth (kin _ _ lk) rfl S.co S.gen rfl (PySem.W.codeRec_of kin hcd) (bind _ _ _ _ ?_)
  refine wpAny_newFunctionEnv_cells S.kind parK ?_
  intro env he s1 inC
  subst he
  have room := hr.deeper (envOfC qual (defScope st) s.heap.objs.size f cdv)
  obtain ⟨t, body, reading⟩ := hb cdv A out s H vs Q E room hg hs
  have inv := inv_start (CX := L2N.CX P wo) (mg := mg) (E := E) S hr.hd e0 nv rv inC
  refine ⟨nolim.keeps inC.toInCall.keep, codeAny_func (wpAny_mono (body.run [] s1 _ H _ inv reading) ?_ fun _ _ h => h)⟩
  intro fl s' h
  cases fl with
  | ret u => obtain ⟨v, _, H', J, r, q⟩ := h; exact ⟨v, H', J.os, J.bare, J.base, J.hok, r, q⟩
  | next => obtain ⟨_, H', J, q⟩ := h; exact ⟨.non, H', J.os, J.bare, J.base, J.hok, rfl, q⟩
  | brk => obtain ⟨_, _, _, q⟩ := h; exact q.elim
  | cont => obtain ⟨_, _, _, q⟩ := h; exact q.elim
theorem fg_defV {x qual : Str} {st : Stmt} {N : List Str} {body : SM} (n : Nat) (m : Nat) (F : FunV K x qual st f fd) (S : FnScope N ps (defScope st))
    (hb : ∀ (cdv : Value) (A : Around) (out : List PySem.Env) (s : Shared) (H : Hp) (E : XK), Room k (A.deeper (envOfC qual (defScope st) s.heap.objs.size f cdv)) → A.guards = some [] →
      DSs (cxOf (L2N.CX P wo) P wo K mg base N qual (defScope st) f cdv A out s H E) (fun c d _ H => E c d H) (defBody st) body) (hn : ps.length = n := by rfl) (hm : N.length = m := by rfl) :
    FG P wo K mg base (k + 1) f fd ps (spF K mg n (arity n (runDef m body))) := by
  refine fg_bodyV F S (fun vs H Q E h => by rw [h.1, hn]) fun cdv A out s H vs Q E hr hg hsp => ?_
  refine ⟨_, hb cdv A out s H E hr hg, ?_⟩
  obtain ⟨hl, w, ds, rfl, ok, r, q⟩ := hsp
  refine ⟨w, ds.map some ++ List.replicate (N.length - ds.length) none, rfl, ok, repE_start r, ?_⟩
  have hd : ds.length = n := r.length.trans hl
  rw [arity_ok hd] at q
  unfold runDef at q
  rw [← hm] at q
  cases e : body (ds.map some ++ List.replicate (N.length - ds.length) none) w.st with
  | bad => rw [e] at q; exact q.elim
  | nx ρ st => rw [e] at q; exact fun w' g ok' es σ' _ => q w' g ok' es V.non rfl
  | rt d st => rw [e] at q; exact q
  | bk ρ st => rw [e] at q; exact q.elim
  | ct ρ st => rw [e] at q; exact q.elim
  | ex x ρ st => rw [e] at q; exact fun w' g ok' es σ' _ => q w' g ok' es
end
/-! ### binding where a def has defaults -/
section
variable {K : PySem.W.Frag} {fd : FuncData} {ps : List Str} {T : Addr} {o : Obj} {its : List Value} {m : Nat}
theorem bi_dflt (lT : K.lookup T = some o) (oT : o.data = .seq its.toArray m) (e : ∀ us : List Value, us.length = ps.length → ∃ k, bindArgs fd ⟨us, []⟩ = seqItems? (.ref T) >>= k ∧ k (some its.toArray) = pure (ps.zip us)) : Binds K fd ps [] := fun s us X hl => by
  rw [List.append_nil] at hl ⊢
  obtain ⟨k, e1, e2⟩ := e us hl
  refine BindsTo.of_looks fun M => ?_
  rw [e1]
  exact looks_items X lT oT (.of_pure e2)
theorem mk_bi {ks : List Str} {idx : List Nat} {a : Nat} {dv : List Value} (lT : K.lookup T = some o) (oT : o.data = .seq its.toArray m)
    (e : ∀ us ws : List Value, us.length = a + 1 → ws.length = ks.length → ∃ k, bindArgs fd ⟨us, ks.zip ws⟩ = seqItems? (.ref T) >>= k ∧ k (some its.toArray) = pure (ps.zip (permL idx (us ++ (ws ++ dv))))) :
    ∀ (s : Shared) (us ws : List Value), K.In s.heap → us.length = a + 1 → ws.length = ks.length → BindsTo s fd ⟨us, ks.zip ws⟩ (ps.zip (permL idx (us ++ (ws ++ dv)))) := fun s us ws X h1 h2 => by
  obtain ⟨k, e1, e2⟩ := e us ws h1 h2
  refine BindsTo.of_looks fun M => ?_
  rw [e1]
  exact looks_items X lT oT (.of_pure e2)
theorem rep_tupK {w : Wd} {ds : List D} {vs : List V} (lT : K.lookup T = some o) (hc : o.cls = .type "tuple") (oT : o.data = .seq its.toArray m) (hz : its.length ≤ sizeLine) (hv : Vals vs its) (r : Reps K w ds vs) : Rep K w (.tup ds) (.ref T) :=
  ⟨T, vs, rfl, .inr ⟨o, _, m, lT, hc, oT, by simpa using hz, by simpa using hv⟩, r⟩
end
theorem vr_ref {v : Value} {a : Addr} (e : v = .ref a) : L2.RelV (.ref a) v := e
theorem vr_str {v : Value} {x : Str} {t : Tok} (e : v = .str x t) : L2.RelV (.str x) v := ⟨t, e⟩
theorem vr_int {v : Value} {x : Int} {t : Tok} (e : v = .int x t) : L2.RelV (.int x) v := ⟨t, e⟩
/-- a class that is called with a values by place and the keywords ks -/
def KMkE (P : Program) (wo : World) (K : PySem.W.Frag) (mg : Str → Option Value) (base : Heap) (j : Nat) (C : String) (ks : List Str) (a : Nat) (idx : List Nat) (dd : List D) (F : List D → M D) : Prop :=
  ∃ ca f fd ps n G k, F = arity n G ∧ KMk P wo K mg base k C ca f fd ps ks a n idx dd G ∧ mg (Str.ofString C) = some (.ref ca) ∧ k + 1 ≤ j
section
variable {X : Cx} {W : WX} {j : Nat} {C : String} {ks : List Str} {a b : Nat} {idx : List Nat} {dd : List D} {F : List D → M D}
theorem KMkE.mono {P : Program} {wo : World} {K : PySem.W.Frag} {mg : Str → Option Value} {base : Heap} {i : Nat} (h : KMkE P wo K mg base i C ks a idx dd F) (hij : i ≤ j) : KMkE P wo K mg base j C ks a idx dd F := by
  obtain ⟨ca, f, fd, ps, n, G, k, h1, h2, h3, h4⟩ := h
  exact ⟨ca, f, fd, ps, n, G, k, h1, h2, h3, Nat.le_trans h4 hij⟩
theorem de_mkE {g : Env → M (List D)} {x : Str} {e : Expr} {es : List Expr} {p pos : Pos} (hx : x = Str.ofString C) (M : KMkE X.prog X.w X.K X.mg X.base j C [] a idx dd F) (hr : Room j X.A) (hg : X.A.guards = some []) (tk : L2N.Takes X W) (ha : DA X W (e :: es) g) (hgl : Gl X x := by rfl)
    (hdb : (x == ("__debug__" : Str)) = false := by decide) (he : starEach (e :: es) X.env = (false, eval e X.env) :: starEach es X.env := by rfl) (hpl : (backTo pos (starEach es X.env)).any (·.1) = false := by rfl) :
    DE X W (.Call (.Name x p) (e :: es) [] pos) (sMk C a 0 idx dd F g sNil) := by
  subst hx
  obtain ⟨ca, f, fd, ps, n, G, k, rfl, M, hm, hk⟩ := M
  exact de_mk M hm hr hk hg tk ha hgl hdb he hpl
theorem de_mkE0 {x : Str} {p pos : Pos} (hx : x = Str.ofString C) (M : KMkE X.prog X.w X.K X.mg X.base j C [] 0 idx dd F) (hr : Room j X.A) (hg : X.A.guards = some []) (tk : L2N.Takes X W) (hgl : Gl X x := by rfl) (hdb : (x == ("__debug__" : Str)) = false := by decide) :
    DE X W (.Call (.Name x p) [] [] pos) (sMk C 0 0 idx dd F sNil sNil) := by
  subst hx
  obtain ⟨ca, f, fd, ps, n, G, k, rfl, M, hm, hk⟩ := M
  exact de_mk0 M hm hr hk hg tk hgl hdb
theorem de_mkEK0 {h : Env → M (List D)} {x : Str} {kws : List Keyword} {p pos : Pos} (hx : x = Str.ofString C) (M : KMkE X.prog X.w X.K X.mg X.base j C ks 0 idx dd F) (hr : Room j X.A) (hg : X.A.guards = some []) (tk : L2N.Takes X W) (hk : DK X W kws h) (hb : ks.length = b := by rfl) (hgl : Gl X x := by rfl)
    (hall : (backToKw pos (keywordEach kws X.env)).all (·.1.isSome) = true := by rfl) (hks : (backToKw pos (keywordEach kws X.env)).filterMap (·.1) = ks := by rfl) (hdb : (x == ("__debug__" : Str)) = false := by decide)
    (hpl : ((backTo pos (starEach [] X.env)).any (·.1) || (backToKw pos (keywordEach kws X.env)).any (·.1.isNone)) = false := by rfl) :
    DE X W (.Call (.Name x p) [] kws pos) (sMk C 0 b idx dd F sNil h) := by
  subst hx
  obtain ⟨ca, f, fd, ps, n, G, k, rfl, M, hm, hkk⟩ := M
  exact de_mkK0 M hm hr hkk hg tk hk hb hgl hall hks hdb hpl
theorem de_mkEK {g h : Env → M (List D)} {x : Str} {e : Expr} {es : List Expr} {kws : List Keyword} {p pos : Pos} (hx : x = Str.ofString C) (M : KMkE X.prog X.w X.K X.mg X.base j C ks a idx dd F) (hr : Room j X.A) (hg : X.A.guards = some []) (tk : L2N.Takes X W) (ha : DA X W (e :: es) g) (hk : DK X W kws h) (hb : ks.length = b := by rfl) (hgl : Gl X x := by rfl)
    (hall : (backToKw pos (keywordEach kws X.env)).all (·.1.isSome) = true := by rfl) (hks : (backToKw pos (keywordEach kws X.env)).filterMap (·.1) = ks := by rfl) (hdb : (x == ("__debug__" : Str)) = false := by decide)
    (he : starEach (e :: es) X.env = (false, eval e X.env) :: starEach es X.env := by rfl) (hpl : ((backTo pos (starEach (e :: es) X.env)).any (·.1) || (backToKw pos (keywordEach kws X.env)).any (·.1.isNone)) = false := by rfl) :
    DE X W (.Call (.Name x p) (e :: es) kws pos) (sMk C a b idx dd F g h) := by
  subst hx
  obtain ⟨ca, f, fd, ps, n, G, k, rfl, M, hm, hkk⟩ := M
  exact de_mkK M hm hr hkk hg tk ha hk hb hgl hall hks hdb he hpl
/-- isinstance with the class T -/
def KIsE (K : PySem.W.Frag) (mg : Str → Option Value) (T : String) (l : List (String × Bool)) : Prop := ∃ ta, mg (Str.ofString T) = some (.ref ta) ∧ KIss K ta l
theorem de_isOE {T : String} {l : List (String × Bool)} {x : Str} {e : Expr} {fo : Env → M D} {p p2 pos : Pos} (hx : x = Str.ofString T) (hl : KIsE X.K X.mg T l) (hz : X.mg "isinstance" = none) (ho : DE X W e fo) (hgl : Gl X x := by rfl) (hgi : Gl X "isinstance" := by rfl) (hdb : (x == ("__debug__" : Str)) = false := by decide)
    (he : starEach [e, .Name x p2] X.env = (false, eval e X.env) :: starEach [.Name x p2] X.env := by rfl) (hs : starEach [.Name x p2] X.env = (false, eval (.Name x p2) X.env) :: starEach [] X.env := by rfl) (hpl : (backTo pos (starEach [.Name x p2] X.env)).any (·.1) = false := by rfl) :
    DE X W (.Call (.Name "isinstance" p) [e, .Name x p2] [] pos) (sIsO l fo) := by
  subst hx
  obtain ⟨ta, h1, h2⟩ := hl
  exact de_isO h2 h1 hz ho hgl hgi hdb he hs hpl
def KXE (K : PySem.W.Frag) (mg : Str → Option Value) (T : String) (l : List (String × Bool)) : Prop := ∃ ta, mg (Str.ofString T) = some (.ref ta) ∧ KX K mg ta l
theorem xs_isXE {i : Nat} {a : Addr} {oe : Obj} {cls : Value} {d : Option Addr} {e : Exc} {T : String} {l : List (String × Bool)} {n x : Str} {p p1 p2 pos : Pos} (hx : x = Str.ofString T) (hz : L2N.Zn cls d oe) (hf : ∃ vs, oe.data = .fields vs) (hpn : (a, oe) ∈ X.pn) (hl : KXE X.K X.mg T l) (hzi : X.mg "isinstance" = none) (hN : X.N[i]? = some n) (hv : Vis X.env.scope n)
    (hgl : Gl X x := by rfl) (hgi : Gl X "isinstance" := by rfl) (hdb : (x == ("__debug__" : Str)) = false := by decide) (hd1 : (n == ("__debug__" : Str)) = false := by decide) (hd2 : (n == ("__classdict__" : Str)) = false := by decide)
    (he : starEach [.Name n p1, .Name x p2] X.env = (false, eval (.Name n p1) X.env) :: starEach [.Name x p2] X.env := by rfl) (hs : starEach [.Name x p2] X.env = (false, eval (.Name x p2) X.env) :: starEach [] X.env := by rfl) (hpl : (backTo pos (starEach [.Name x p2] X.env)).any (·.1) = false := by rfl) :
    XEd X W (PX2 X.K X.mg i a cls d e) (.Call (.Name "isinstance" p) [.Name n p1, .Name x p2] [] pos) (sIsX e l) := by
  subst hx
  obtain ⟨ta, h1, h2⟩ := hl
  exact xs_isX hz hf hpn h2 h1 hzi hN hv hgl hgi hdb hd1 hd2 he hs hpl
theorem ret_no {f : Env → M D} : ∀ ρ st ρ' st', sRet f ρ st ≠ .nx ρ' st' := fun ρ st ρ' st' h => by
  unfold sRet sThen at h
  cases e : f ρ st with
  | bad => rw [e] at h; cases h
  | exc x s => rw [e] at h; cases h
  | ok a s => rw [e] at h; cases h
theorem exmAny_nil {K : PySem.W.Frag} {c : Value} : PySem.W.exmAny K c [] = some false := rfl
theorem exmAny_mk {K : PySem.W.Frag} {cls c : Value} {r : List Value} {b d : Bool} (h : PySem.W.exmOne K cls c = some b) (t : PySem.W.exmAny K cls r = some d) : PySem.W.exmAny K cls (c :: r) = some (b || d) := by
  unfold PySem.W.exmAny
  rw [h, t]
end
theorem hs2_nil {mg : Str → Option Value} {m : Value → Option Bool} : ∀ nm b, ([] : List (String × Bool)).lookup nm = some b → ∃ C, mg (Str.ofString nm) = some (.ref C) ∧ m (.ref C) = some b := fun _ _ h => by cases h
theorem hs2_cons {mg : Str → Option Value} {m : Value → Option Bool} {x : String} {k : Bool} {l : List (String × Bool)} {C : Addr} (g : mg (Str.ofString x) = some (.ref C)) (e : m (.ref C) = some k)
    (h : ∀ nm b, l.lookup nm = some b → ∃ C, mg (Str.ofString nm) = some (.ref C) ∧ m (.ref C) = some b) : ∀ nm b, ((x, k) :: l).lookup nm = some b → ∃ C, mg (Str.ofString nm) = some (.ref C) ∧ m (.ref C) = some b := fun nm b hb => by
  rw [List.lookup_cons] at hb
  by_cases z : nm = x
  · subst z
    rw [beq_self_eq_true] at hb
    cases hb
    exact ⟨C, g, e⟩
  · rw [beq_eq_false_iff_ne.mpr z] at hb
    exact h nm b hb
section
variable {P : Program} {wo : World} {K : PySem.W.Frag} {mg : Str → Option Value} {base : Heap} {i j : Nat}
theorem KMs.mono {m : Str} {tb : Tb} (h : KMs P wo K mg base i m tb) (hij : i ≤ j) : KMs P wo K mg base j m tb := fun C F e => by
  obtain ⟨ca, f, fd, ps, n, G, k, h1, h2, h3, h4, h5, h6⟩ := h C F e
  exact ⟨ca, f, fd, ps, n, G, k, h1, h2, h3, h4, h5, Nat.le_trans h6 hij⟩
theorem KP.mono {f : Str} {tb : Tb} (h : KP P wo K mg base i f tb) (hij : i ≤ j) : KP P wo K mg base j f tb := fun C F e => by
  obtain ⟨ca, p, g, fd, G, k, h1, h2, h3, h4, h5, h6⟩ := h C F e
  exact ⟨ca, p, g, fd, G, k, h1, h2, h3, h4, h5, Nat.le_trans h6 hij⟩
theorem KL.mono {tb : Tb} (h : KL P wo K mg base i tb) (hij : i ≤ j) : KL P wo K mg base j tb := fun C F e => by
  obtain ⟨ca, g, fd, G, k, h1, h2, h3, h4, h5, h6⟩ := h C F e
  exact ⟨ca, g, fd, G, k, h1, h2, h3, h4, h5, Nat.le_trans h6 hij⟩
end
end PL
/-! PL45: weakest conditions of instances' constructs; frames of the store. -/
namespace PL
open PySem PySem.Spec PyProof.Rows L2
section
variable {X : Exc → Store → Prop} {st : Store} {k : SK} {ρ : Env} {Q : D → Store → Prop} {QL : List D → Store → Prop}
@[simp] theorem wp_fld (cl : List String) (f : Str) (fo : Env → M D) : wp (sFld cl f fo ρ st) X Q = wp (fo ρ st) X fun o st1 => wo (fldD f o st1 cl) fun d => Q d st1 := by simp only [sFld, bnd, wp_bnd, wp_ofO]
@[simp] theorem ws_setFld (cl : List String) (f : Str) (fv fo : Env → M D) : ws (sSetFld cl f fv fo ρ st) k = wp (fv ρ st) (fun e st1 => k.ex e ρ st1) fun v st1 => wp (fo ρ st1) (fun e st2 => k.ex e ρ st2) fun o st2 => wo (putO cl f v o st2) fun st' => k.nx ρ st' := by
  unfold sSetFld
  rw [ws_then]
  simp only [bnd, wp_bnd]
  congr; funext v st1; congr; funext o st2
  cases putO cl f v o st2 <;> rfl
@[simp] theorem wp_meth (m : Str) (tb : Tb) (fo : Env → M D) (g : Env → M (List D)) : wp (sMeth m tb fo g ρ st) X Q = wp (fo ρ st) X fun o st1 => wo (methD m tb o st1) fun F => wp (g ρ st1) X fun ds st2 => wp (F (o :: ds) st2) X Q := by
  simp only [sMeth, bnd, wp_bnd, wp_ofO]
@[simp] theorem wp_prop (f : Str) (tb : Tb) (fo : Env → M D) : wp (sProp f tb fo ρ st) X Q = wp (fo ρ st) X fun o st1 => wo (sProp.methP tb o st1) fun F => wp (F [o] st1) (fun _ _ => False) Q := by
  simp only [sProp, bnd, wp_bnd]
  congr; funext o st1
  cases sProp.methP tb o st1 with
  | none => rfl
  | some F =>
    simp only [wo_some_]
    cases F [o] st1 <;> rfl
@[simp] theorem wp_lenO (tb : Tb) (fo : Env → M D) : wp (sLenO tb fo ρ st) X Q = wp (fo ρ st) X fun o st1 => wp (lenO tb o st1) X Q := by simp only [sLenO, bnd, wp_bnd]
@[simp] theorem wp_isO (l : List (String × Bool)) (fo : Env → M D) : wp (sIsO l fo ρ st) X Q = wp (fo ρ st) X fun o st1 => wo (isO l o st1) fun d => Q d st1 := by simp only [sIsO, bnd, wp_bnd, wp_ofO]
@[simp] theorem wp_star (f : Env → M D) (g : Env → M (List D)) : wp (sStar f g ρ st) X QL = wp (f ρ st) X fun a st1 => wo (seqD a st1) fun xs => wp (g ρ st1) X fun ys st2 => QL (xs ++ ys) st2 := by simp only [sStar, bnd, wp_bnd, wp_ofO, wp_ret]
@[simp] theorem wp_sup (tb : Tb) (g : Env → M (List D)) : wp (sSup tb g ρ st) X Q = wo (supD tb ρ st) fun p => wp (g ρ st) X fun ds st1 => wp (p.2 (p.1 :: ds) st1) X Q := by simp only [sSup, bnd, wp_bnd, wp_ofO]
@[simp] theorem wp_isX (e : Exc) (l : List (String × Bool)) : wp (sIsX e l ρ st) X Q = wo (l.lookup e.cls) fun b => Q (.bl b) st := by
  unfold sIsX
  cases l.lookup e.cls <;> rfl
theorem wp_mkD (C : String) (G : D → M D) : wp (mkD C G st) X Q = wp (G (.ref st.length) (st ++ [some (.ins C [])])) X fun r st1 => r = .non ∧ Q (.ref st.length) st1 := by
  unfold mkD
  rw [wp_bnd]
  congr; funext r st1
  cases r <;> simp [badM]
@[simp] theorem wp_mk (C : String) (a b : Nat) (idx : List Nat) (dd : List D) (F : List D → M D) (g h : Env → M (List D)) : wp (sMk C a b idx dd F g h ρ st) X Q = wp (g ρ st) X fun ds st1 => wp (h ρ st1) X fun es st2 => (ds.length = a ∧ es.length = b) ∧
    wp (F (permL idx (.ref st2.length :: (ds ++ (es ++ dd)))) (st2 ++ [some (.ins C [])])) X fun r st3 => r = .non ∧ Q (.ref st2.length) st3 := by
  simp only [sMk, bnd, wp_bnd]
  congr; funext ds st1; congr; funext es st2
  by_cases hl : ds.length = a ∧ es.length = b
  · rw [if_pos hl, wp_mkD]
    exact propext ⟨fun h => ⟨hl, h⟩, fun h => h.2⟩
  · rw [if_neg hl]
    exact propext ⟨fun h => h.elim, fun h => absurd h.1 hl⟩
theorem insD_at {n : Nat} {C : String} {fs : List (Str × D)} (h : st[n]? = some (some (.ins C fs))) : insD st (.ref n) = some (C, fs) := insD_of h
theorem fld_at {n : Nat} {C : String} {fs : List (Str × D)} {f : Str} {cl : List String} (h : st[n]? = some (some (.ins C fs))) (hc : C ∈ cl) : fldD f (.ref n) st cl = fs.lookup f := by
  unfold fldD
  rw [insD_of h]
  simp only [if_pos hc]
theorem put_at {n : Nat} {C : String} {fs : List (Str × D)} {f : Str} {v : D} {cl : List String} (h : st[n]? = some (some (.ins C fs))) (hc : C ∈ cl) (hl : fs.length < 1000) : putO cl f v (.ref n) st = some (st.set n (some (.ins C (putD f v fs)))) := by
  unfold putO
  simp only [h, if_pos (show C ∈ cl ∧ fs.length < 1000 from ⟨hc, hl⟩)]
theorem meth_at {n : Nat} {C : String} {fs : List (Str × D)} {m : Str} {tb : Tb} {F : List D → M D} (h : st[n]? = some (some (.ins C fs))) (hn : (fs.lookup m).isNone = true) (hF : tb.lookup C = some F) : methD m tb (.ref n) st = some F := by
  unfold methD
  rw [insD_of h]
  simp only [if_pos hn, hF]
theorem methP_at {n : Nat} {C : String} {fs : List (Str × D)} {tb : Tb} {F : List D → M D} (h : st[n]? = some (some (.ins C fs))) (hF : tb.lookup C = some F) : sProp.methP tb (.ref n) st = some F := by
  unfold sProp.methP
  rw [insD_of h]
  exact hF
theorem supD_at {n : Nat} {C : String} {fs : List (Str × D)} {tb : Tb} {F : List D → M D} (h0 : ρ[0]? = some (some (.ref n))) (h : st[n]? = some (some (.ins C fs))) (hF : tb.lookup C = some F) : supD tb ρ st = some (.ref n, F) := by
  unfold supD
  rw [h0]
  simp only [insD_of h, Option.bind, hF, Option.map]
theorem isO_at {n : Nat} {C : String} {fs : List (Str × D)} {l : List (String × Bool)} {b : Bool} (h : st[n]? = some (some (.ins C fs))) (hb : l.lookup C = some b) : isO l (.ref n) st = some (.bl b) := by
  unfold isO
  rw [insD_of h]
  simp only [hb, Option.map]
theorem lenO_at {n : Nat} {C : String} {fs : List (Str × D)} {tb : Tb} {F : List D → M D} {i : Nat} {st' : Store} (h : st[n]? = some (some (.ins C fs))) (hF : tb.lookup C = some F) (e : F [.ref n] st = .ok (.int (i : Int)) st') (hi : i < 2 ^ 62) : lenO tb (.ref n) st = .ok (.int (i : Int)) st' := by
  unfold lenO
  rw [insD_of h]
  simp only [Option.bind, hF, e]
  rw [if_pos ⟨by omega, by omega⟩]
/-! ### frames -/
/-- all cells but those of l stay -/
def Fw (l : List Nat) (st st' : Store) : Prop := st.length ≤ st'.length ∧ ∀ j, j < st.length → j ∉ l → st'[j]? = st[j]?
theorem Fw.refl (l : List Nat) (st : Store) : Fw l st st := ⟨Nat.le_refl _, fun _ _ _ => rfl⟩
theorem Fw.trans {l : List Nat} {a b c : Store} (h : Fw l a b) (g : Fw l b c) : Fw l a c := ⟨Nat.le_trans h.1 g.1, fun j hj hn => (g.2 j (Nat.lt_of_lt_of_le hj h.1) hn).trans (h.2 j hj hn)⟩
theorem Fw.mono {l l' : List Nat} {a b : Store} (h : Fw l a b) (hl : ∀ x ∈ l, x ∈ l') : Fw l' a b := ⟨h.1, fun j hj hn => h.2 j hj fun z => hn (hl j z)⟩
theorem Fw.set {l : List Nat} {n : Nat} (st : Store) (o : Option Ob) (h : n ∈ l) : Fw l st (st.set n o) := ⟨by rw [List.length_set]; exact Nat.le_refl _, fun j _ hn => List.getElem?_set_ne fun z => hn (by rw [← z]; exact h)⟩
theorem Fw.app (l : List Nat) (st t : Store) : Fw l st (st ++ t) := ⟨by rw [List.length_append]; exact Nat.le_add_right _ _, fun j hj _ => List.getElem?_append_left hj⟩
/-- a cell that was not there may be written -/
theorem Fw.new {l : List Nat} {a b c : Store} {n : Nat} (h : Fw l a b) (hn : a.length ≤ n) (g : Fw (n :: l) b c) : Fw l a c := ⟨Nat.le_trans h.1 g.1, fun j hj hl => (g.2 j (Nat.lt_of_lt_of_le hj h.1) fun z => by
  rcases List.mem_cons.1 z with z | z
  · omega
  · exact hl z).trans (h.2 j hj hl)⟩
theorem lt_of_get {n : Nat} {o : Option Ob} (h : st[n]? = some o) : n < st.length := (List.getElem?_eq_some_iff.1 h).1
theorem Fw.at {l : List Nat} {a b : Store} {n : Nat} {o : Option Ob} (h : Fw l a b) (e : a[n]? = some o) (hn : n ∉ l) : b[n]? = some o := (h.2 n (lt_of_get e) hn).trans e
theorem Tr.fw {n c : Nat} {l : List Nat} {a b : Store} (h : Tr n c a) (f : Fw l a b) (hn : n ∉ l) : Tr n c b := by
  obtain ⟨x, y, z, e, r⟩ := h
  exact ⟨x, y, z, f.at e hn, r⟩
theorem Tr.lt {n c : Nat} {a : Store} (h : Tr n c a) : n < a.length := by
  obtain ⟨x, y, z, e, r⟩ := h
  exact lt_of_get e
theorem isL_at {p : Nat} {xs : List D} (h : st[p]? = some (some (.lst xs))) : isLst (.ref p) st = true := by
  simp only [isLst, viewL, h]; rfl
end
end PL
/-! PL46: texts.index(text). -/
namespace PL
open PySem PySem.Spec PyProof.Rows L2
def rIndexS (K : PySem.W.Frag) : V → List V → Hp → VK → Prop := fun x xs H Q => ∃ (a : Addr) (ys : List Str) (k : Str), x = .ref a ∧ xs = [.str k] ∧ SqL K H a (ys.map V.str) ∧ k ∈ ys ∧ ys.length ≤ sizeLine ∧ Q (.int (ys.idxOf k : Nat)) H
section
variable {X : Cx}
theorem mt_indexS : MtR X "list.index" (rIndexS X.K) := by
  intro pins s σ H x xs v us Q I rx rs h
  obtain ⟨a, ys, k, rfl, rfl, hs, hk, hz, q⟩ := h
  cases rx
  obtain ⟨u, rfl, ru⟩ := rs.one
  obtain ⟨t, rfl⟩ : ∃ t, u = .str k t := ru
  obtain ⟨its, rv, hl, _⟩ := I.list hs
  exact PySem.SeqAt.list_index_strs hl.isList rv.strs hz hk ⟨.int (ys.idxOf k : Nat), H, I.tok _, ⟨_, rfl⟩, q⟩
def indexD : D → List D → Store → Option (D × Store)
  | d, [.str t], st => ((viewL st d).bind asStrs).bind fun ts => if t ∈ ts ∧ ts.length ≤ sizeLine then some (.int (ts.idxOf t : Nat), st) else none
  | _, _, _ => none
theorem idx_toS (t : List Nat) : ∀ ts : List (List Nat), (ts.map toS).idxOf (toS t) = ts.idxOf t
  | [] => rfl
  | x :: ts => by
    rw [List.map_cons, List.idxOf_cons, List.idxOf_cons, idx_toS t ts]
    by_cases h : x = t
    · subst h; simp
    · have h2 : toS x ≠ toS t := fun z => h (toS_inj z)
      rw [beq_eq_false_iff_ne.2 h, beq_eq_false_iff_ne.2 h2]
theorem mr_index : MtR X "list.index" (rMt X.K indexD) := by
  intro pins s σ H x xs v us Q I rx rs h
  obtain ⟨w, d0, ds, d, st, rfl, ok, h0, rd, hf, q⟩ := h
  unfold indexD at hf
  split at hf
  · rename_i t
    obtain ⟨ts, ev, hf⟩ := Option.bind_eq_some_iff.1 hf
    by_cases hc : t ∈ ts ∧ ts.length ≤ sizeLine
    · rw [if_pos hc] at hf
      cases hf
      obtain ⟨ds', ed, es⟩ := Option.bind_eq_some_iff.1 ev
      have ex := asStrs_eq es
      subst ex
      obtain ⟨a, vs, rfl, h2, h3⟩ := view_rep ok ed h0
      rw [Reps.strs h3] at h2
      have rd' : xs = [V.str (toS t)] := by
        obtain ⟨v1, r1, e1, q1, q2⟩ := rd
        have q1 : v1 = V.str (toS t) := q1
        have q2 : r1 = [] := q2
        subst q1 q2
        exact e1
      subst rd'
      refine mt_indexS pins s σ _ _ _ v us Q I rx rs ⟨a, ts.map toS, toS t, rfl, rfl, SqL.of h2, List.mem_map.2 ⟨t, hc.1, rfl⟩, by rw [List.length_map]; exact hc.2, ?_⟩
      rw [idx_toS]
      exact q _ (Grow.refl _) ok rfl _ rfl
    · rw [if_neg hc] at hf; cases hf
  · cases hf
end
theorem index_at {ts : List (List Nat)} {t : List Nat} {st : Store} (h : t ∈ ts) (hz : ts.length ≤ 16777216) : indexD (.lst (ts.map D.str)) [.str t] st = some (.int (ts.idxOf t : Nat), st) := by
  have e : asStrs (ts.map D.str) = some ts := by
    have := asStrs_m ts id
    simpa using this
  show ((viewL st (.lst (ts.map D.str))).bind asStrs).bind _ = _
  rw [show viewL st (.lst (ts.map D.str)) = some (ts.map D.str) from rfl]
  simp only [Option.bind, e]
  rw [if_pos ⟨h, hz⟩]
end PL
set_option maxHeartbeats 1000000
/-! PL47: zip of a tuple and a list. -/
namespace PL
open PySem PySem.Spec PyProof.Rows L2
/-- a tuple at a and a list at b, the items in new pairs -/
def ItzM (K : PySem.W.Frag) (a b : Addr) : It :=
  ⟨fun i H => ∃ (xs ys : List V) (x y : V), SqT K H a xs ∧ SqL K H b ys ∧ xs[i]? = some x ∧ ys[i]? = some y,
    fun i H v H' => ∃ T x y, v = .ref T ∧ H T = none ∧ H' = upd H T (.tup [x, y]) ∧ (∀ xs, SqT K H a xs → xs[i]? = some x) ∧ ∀ ys, SqL K H b ys → ys[i]? = some y,
    fun i H => ∃ xs ys : List V, SqT K H a xs ∧ SqL K H b ys ∧ i ≤ xs.length ∧ i ≤ ys.length ∧ (i = xs.length ∨ i = ys.length)⟩
theorem sepM {z TI TO i1 i2 a b : Addr} (D : ZipApart z TI TO i1 i2 a b) (h1 : a ≠ i2) (h2 : i1 ≠ b) : ZipSep2 z TI TO i1 i2 [i1, a] [i2, b] where
  TIz := D.TIz
  TOz := D.TOz
  TITO := D.TITO
  TIi1 := D.TIi1
  mem1 := by simp
  zf1 := by simp [D.i1z.symm, D.l1z.symm]
  Tf1 := by simp [D.TOi1, D.l1TO.symm]
  TIi2 := D.TIi2
  mem2 := by simp
  zf2 := by simp [D.i2z.symm, D.l2z.symm]
  Tf2 := by simp [D.TOi2, D.l2TO.symm]
  sep1_2 := by simp [D.i12, h2]
  sep2_1 := by simp [D.i12.symm, h1.symm]
def StM (z TI TO i1 i2 a b : Addr) (i : Nat) (h : Heap) : Prop := IsZip h z TI TO .none ∧ IsPair h TI (.ref i1) (.ref i2) ∧ (∃ x y, IsPair h TO x y) ∧ h.IsTupleIter i1 a i ∧ h.IsListIter i2 b i
theorem StM.obj {z TI TO i1 i2 a b : Addr} {i : Nat} {h : Heap} (st : StM z TI TO i1 i2 a b i h) : ∀ c ∈ [z, TI, TO, i1, i2], ∃ o, h.get? c = some o ∧ ∀ v, o.data ≠ .seq v ∨ True := fun c hc => by
  obtain ⟨hz, hTI, ⟨x, y, hTO⟩, ⟨o1, e1, _⟩, ⟨o2, e2, _⟩⟩ := st
  have e' : c = z ∨ c = TI ∨ c = TO ∨ c = i1 ∨ c = i2 := by simpa using hc
  rcases e' with q | q | q | q | q <;> subst q
  · exact ⟨_, hz, fun _ => .inr trivial⟩
  · exact ⟨_, hTI, fun _ => .inr trivial⟩
  · exact ⟨_, hTO, fun _ => .inr trivial⟩
  · exact ⟨_, e1, fun _ => .inr trivial⟩
  · exact ⟨_, e2, fun _ => .inr trivial⟩
theorem turn_zipM {P : Program} {w : World} {K : PySem.W.Frag} {elts : List Expr} {kk : Nat} {tpos : Pos} {a b z TI TO i1 i2 : Addr} (D : ZipApart z TI TO i1 i2 a b) :
    Turn P w K (.Tuple elts kk tpos) (ItzM K a b) [z, TI, TO, i1, i2] z (StM z TI TO i1 i2 a b) where
  mem := by simp
  obj := fun i h st c hc => by
    obtain ⟨hz, hTI, ⟨x, y, hTO⟩, ⟨o1, e1, _, d1⟩, ⟨o2, e2, _, d2⟩⟩ := st
    have e' : c = z ∨ c = TI ∨ c = TO ∨ c = i1 ∨ c = i2 := by simpa using hc
    rcases e' with q | q | q | q | q <;> rw [q]
    · exact ⟨_, hz, fun v q => nomatch q⟩
    · exact ⟨_, hTI, fun v q => nomatch q⟩
    · exact ⟨_, hTO, fun v q => nomatch q⟩
    · exact ⟨o1, e1, fun v q => by rw [d1] at q; cases q⟩
    · exact ⟨o2, e2, fun v q => by rw [d2] at q; cases q⟩
  keep := fun i h h' st k => by
    obtain ⟨hz, hTI, ⟨x, y, hTO⟩, h1, h2⟩ := st
    exact ⟨k z (by simp) _ hz, k TI (by simp) _ hTI, ⟨x, y, k TO (by simp) _ hTO⟩, h1.at fun o q => k i1 (by simp) o q, h2.at fun o q => k i2 (by simp) o q⟩
  item := by
    intro X hP hw hK hc i pins s σ H E I hf st hg
    subst hP hw hK
    have ob := st.obj
    obtain ⟨hz, hTI, ⟨x0, y0, hTO⟩, h1, h2⟩ := st
    obtain ⟨xs, ys, x, y, hqx, hqy, hx, hy⟩ := hg
    obtain ⟨its, rv, p, _⟩ := I.tuple hqx
    obtain ⟨its2, rv2, p2, _⟩ := I.list hqy
    obtain ⟨u, hu, ru⟩ := rv.get hx
    obtain ⟨u2, hu2, ru2⟩ := rv2.get hy
    have hh := I.ok.hd hc
    have hl1 : i < its.toArray.size := by rw [List.size_toArray]; exact (List.getElem?_eq_some_iff.1 hu).1
    have hl2 : i < its2.toArray.size := by rw [List.size_toArray]; exact (List.getElem?_eq_some_iff.1 hu2).1
    have hlt : ∀ c ∈ [z, TI, TO, i1, i2], c < s.heap.objs.size := fun c hc => by
      obtain ⟨o, e, _⟩ := ob c hc
      exact Heap.lt_size e
    refine wpAny_pyNext_zipD2_item (sepM D D.l1i2 D.l2i1.symm) (Draws.tuple (A := X.A.in1) hh i1 a D.l1i1 its.toArray) (Draws.list (A := X.A.in1) hh i2 b D.l2i2 its2.toArray) hz hTI hTO ⟨h1, p⟩ ⟨h2, p2.isList⟩ hl1 hl2 ?_
    intro x1 x2 h' tk P1 P2 z' TO' t1 t2 hT hsz hk
    have e1 : x1 = u := by
      have P1 : its.toArray[i]? = some x1 := P1
      rw [show its.toArray[i]? = some u by simpa using hu] at P1
      exact (Option.some.inj P1).symm
    have e2 : x2 = u2 := by
      have P2 : its2.toArray[i]? = some x2 := P2
      rw [show its2.toArray[i]? = some u2 by simpa using hu2] at P2
      exact (Option.some.inj P2).symm
    subst e1 e2
    refine ⟨_, rfl, wpAny_letOwnedTupleGo_zip (s := { s with heap := h', toks := tk }) z' fun h'' z'' sb => ?_⟩
    have hT2 : h''.get? s.heap.objs.size = some { cls := .type "tuple", data := .seq #[x1, x2] } := (sb.2 _ (Nat.ne_of_gt (hlt z (by simp)))).trans hT
    have nw : ObjOk X.prog X.w (upd H s.heap.objs.size (.tup [x, y])) h'' s.heap.objs.size (.tup [x, y]) := ⟨by show 2 ≤ sizeLine; decide, [x1, x2], .cons ru (.cons ru2 .nil), ⟨_, hT2, rfl, _, rfl⟩⟩
    have J : Inv X pins σ (upd H s.heap.objs.size (.tup [x, y])) { s with heap := h'', toks := tk } :=
      I.turnedNew (t' := tk) (ch := [z, TI, TO, i1, i2]) (fun c o hb q => by
        have hb : ¬ (c = z ∨ c = TI ∨ c = TO ∨ c = i1 ∨ c = i2) := by simpa using hb
        exact (sb.2 c fun e => hb (.inl e)).trans (hk c o (fun e => hb (.inl e)) (fun e => hb (.inr (.inr (.inl e)))) (fun e => hb (.inr (.inr (.inr (.inl e))))) (fun e => hb (.inr (.inr (.inr (.inr e))))) q)) hf (Nat.le_refl _) nw
    refine ⟨.ref s.heap.objs.size, _, J, rfl, ⟨_, x, y, rfl, I.hok.fresh (Nat.le_refl _), rfl, fun l hl => by rw [I.tuple_inj hl hqx]; exact hx, fun l hl => by rw [I.list_inj hl hqy]; exact hy⟩, ⟨z'', ?_, ⟨x1, x2, ?_⟩, ?_, ?_⟩, fun c hcm => ?_⟩
    · exact (sb.2 _ D.TIz).trans (hk _ _ D.TIz D.TITO D.TIi1 D.TIi2 hTI)
    · exact (sb.2 _ D.TOz).trans TO'
    · exact t1.1.at fun o q => (sb.2 _ D.i1z).trans q
    · exact t2.1.at fun o q => (sb.2 _ D.i2z).trans q
    · rw [upd_ne (Nat.ne_of_lt (hlt c hcm))]
      exact (hf c hcm).1
  done := by
    intro X hP hw hK hc i pins s σ H E I hf st hg
    subst hP hw hK
    obtain ⟨hz, hTI, ⟨x0, y0, hTO⟩, h1, h2⟩ := st
    obtain ⟨xs, ys, hqx, hqy, hx, hy, hend⟩ := hg
    obtain ⟨its, rv, p, _⟩ := I.tuple hqx
    obtain ⟨its2, rv2, p2, _⟩ := I.list hqy
    have hh := I.ok.hd hc
    rw [rv.length] at hx hend
    rw [rv2.length] at hy hend
    refine wpAny_pyNext_zipD2_end (sepM D D.l1i2 D.l2i1.symm) (Draws.tuple (A := X.A.in1) hh i1 a D.l1i1 its.toArray) (Draws.list (A := X.A.in1) hh i2 b D.l2i2 its2.toArray) hz hTI hTO ⟨h1, p⟩ ⟨h2, p2.isList⟩ (by rw [List.size_toArray]; exact hx) (by rw [List.size_toArray]; exact hy) (by rw [List.size_toArray, List.size_toArray]; exact hend) fun h' tk hk => ⟨rfl, ?_⟩
    exact I.turnedL (t' := tk) (ch := [z, TI, TO, i1, i2]) (fun c o hb q => by
      have hb : ¬ (c = z ∨ c = TI ∨ c = TO ∨ c = i1 ∨ c = i2) := by simpa using hb
      exact hk c o (fun e => hb (.inl e)) (fun e => hb (.inr (.inr (.inl e)))) (fun e => hb (.inr (.inr (.inr (.inl e))))) (fun e => hb (.inr (.inr (.inr (.inr e))))) q) hf
  self := fun A i s Q E st h => wpAny_pyIter_zip st.1 h
abbrev zM1 (h : Heap) (a : Addr) : Heap := h.push { cls := .type "tuple_iterator", data := .fields #[.ref a, .int 0 0] }
abbrev zM2 (h : Heap) (a b : Addr) : Heap := (zM1 h a).push { cls := .type "list_iterator", data := .fields #[.ref b, .int 0 0] }
abbrev zM3 (h : Heap) (a b : Addr) : Heap := (zM2 h a b).push { cls := .type "tuple", data := .seq #[.ref h.objs.size, .ref (zM1 h a).objs.size] }
abbrev zM4 (h : Heap) (a b : Addr) : Heap := (zM3 h a b).push { cls := .type "tuple", data := .seq #[.none, .none] }
abbrev zM5 (h : Heap) (a b : Addr) : Heap := (zM4 h a b).push { cls := .type "zip", data := .fields #[.none, .bool false, .bool false, .ref (zM2 h a b).objs.size, .ref (zM3 h a b).objs.size] }
theorem meets_zipM (a b : Addr) (xs ys : Array Value) :
    Meets (Builtin.«zip.__new__» ⟨[.type "zip", .ref a, .ref b], []⟩) (fun _ R s => s.heap.IsTuple a xs ∧ s.heap.IsList b ys ∧ R (.ok (.ret (.ref (zM4 s.heap a b).objs.size))) { s with heap := zM5 s.heap a b }) :=
  .of_wp fun prog w A R s h => by
    obtain ⟨hp, g, d, tk, os⟩ := s
    obtain ⟨h1, h2, h⟩ := h
    have hsub := sub_zip
    have k1 : Heap.IsTuple (Shared.heap ⟨hp, g, d, tk, os⟩) a xs := h1
    have k2 : Heap.IsList (Shared.heap ⟨hp.push { cls := .type "tuple_iterator", data := .fields #[.ref a, .int 0 0] }, g, d, tk, os⟩) b ys := Heap.IsList.push h2 _
    wp_walk using wpAny_pyIter_tuple k1, wpAny_pyIter_list k2
    exact ⟨_, rfl, h⟩
theorem call_zipM {prog : Program} {w : World} {A : Around} {E : Value → Shared → Prop} {s : Shared} {a b : Addr} {xs ys : Array Value} {Q : Value → Shared → Prop} (h1 : s.heap.IsTuple a xs) (h2 : s.heap.IsList b ys)
    (h : ∀ h', StM (s.heap.objs.size + 4) (s.heap.objs.size + 2) (s.heap.objs.size + 3) s.heap.objs.size (s.heap.objs.size + 1) a b 0 h' → (∀ c o, s.heap.get? c = some o → h'.get? c = some o) → Q (.ref (s.heap.objs.size + 4)) { s with heap := h' }) :
    wpAny (model prog w) A (call (.type "zip") [.ref a, .ref b]) Q E s := by
  refine callType_new F.called_zip (by decide) (F.typeCall_zip_2 _ _) (F.newCall_zip_2 _ _) (fun obj => F.args_object_init_3 obj _ _) F.entry_zip_new (meets_zipM a b xs ys) ⟨h1, h2, ?_⟩
  generalize hs : s.heap = hp at h ⊢
  have n1 : (zM1 hp a).objs.size = hp.objs.size + 1 := Heap.size_push ..
  have n2 : (zM2 hp a b).objs.size = hp.objs.size + 2 := by rw [Heap.size_push, n1]
  have n3 : (zM3 hp a b).objs.size = hp.objs.size + 3 := by rw [Heap.size_push, n2]
  have n4 : (zM4 hp a b).objs.size = hp.objs.size + 4 := by rw [Heap.size_push, n3]
  have up4 : ∀ c o, (zM4 hp a b).get? c = some o → (zM5 hp a b).get? c = some o := fun c o e => Heap.get?_push_of_some _ e
  have up3 : ∀ c o, (zM3 hp a b).get? c = some o → (zM5 hp a b).get? c = some o := fun c o e => up4 c o (Heap.get?_push_of_some _ e)
  have up2 : ∀ c o, (zM2 hp a b).get? c = some o → (zM5 hp a b).get? c = some o := fun c o e => up3 c o (Heap.get?_push_of_some _ e)
  have up1 : ∀ c o, (zM1 hp a).get? c = some o → (zM5 hp a b).get? c = some o := fun c o e => up2 c o (Heap.get?_push_of_some _ e)
  have up0 : ∀ c o, hp.get? c = some o → (zM5 hp a b).get? c = some o := fun c o e => up1 c o (Heap.get?_push_of_some _ e)
  have g5 : (zM5 hp a b).get? (zM4 hp a b).objs.size = some _ := Heap.get?_push_size _ rfl
  have g4 : (zM5 hp a b).get? (zM3 hp a b).objs.size = some _ := up4 _ _ (Heap.get?_push_size _ rfl)
  have g3 : (zM5 hp a b).get? (zM2 hp a b).objs.size = some _ := up3 _ _ (Heap.get?_push_size _ rfl)
  have g2 : (zM5 hp a b).get? (zM1 hp a).objs.size = some _ := up2 _ _ (Heap.get?_push_size _ rfl)
  have g1 : (zM5 hp a b).get? hp.objs.size = some _ := up1 _ _ (Heap.get?_push_size _ rfl)
  show _ ∧ _
  rw [n2, n3, n4] at g5
  rw [n3] at g4
  rw [n1, n2] at g3
  rw [n1] at g2
  rw [n4]
  exact ⟨⟨_, g5, rfl⟩, h _ ⟨g5, g3, ⟨_, _, g4⟩, ⟨_, g1, rfl, rfl⟩, ⟨_, g2, rfl, rfl⟩⟩ up0⟩
def iZipM (K : PySem.W.Frag) (ta : TA) : TI := fun σ H R => ta σ H fun vs H1 => ∃ a b xs ys, vs = [.ref a, .ref b] ∧ SqT K H1 a xs ∧ SqL K H1 b ys ∧ R (ItzM K a b) H1
theorem pi_zipM {X : Cx} {e e2 : Expr} {ta : TA} {p pos tpos : Pos} {elts : List Expr} {kk : Nat} (hg : Gl X "zip") (hm : X.mg "zip" = none) (ha : PA X [e, e2] ta)
    (hs : starEach [e, e2] X.env = (false, eval e X.env) :: starEach [e2] X.env := by rfl) (hpl : (backTo pos (starEach [e2] X.env)).any (·.1) = false := by rfl) :
    PI X (.Tuple elts kk tpos) (.Call (.Name "zip" p) [e, e2] [] pos) (iZipM X.K ta) := by
  refine ⟨fun pins s σ H R I h => ?_⟩
  refine Call_ (ld_blt I hg hm PyProof.Rows.boot_zip (PyProof.Rows.callWith_type1 (thn (ha.run pos pins s σ H _ I h) fun us s1 ⟨vs, H1, I1, r1, q1⟩ => ?_) hs hpl))
  obtain ⟨a, b, xs, ys, ex, hqx, hqy, q⟩ := q1
  subst ex
  obtain ⟨u1, u2, rfl, q1, q2⟩ := vals2 r1
  cases q1
  cases q2
  have fresh : ∀ c, c ∈ [s1.heap.objs.size + 4, s1.heap.objs.size + 2, s1.heap.objs.size + 3, s1.heap.objs.size, s1.heap.objs.size + 1] → FpOk X pins H1 c := fun c hcm => by
    have hle : s1.heap.objs.size ≤ c := by
      simp only [List.mem_cons, List.not_mem_nil, or_false] at hcm
      rcases hcm with z | z | z | z | z <;> rw [z]
      · exact Nat.le_add_right _ _
      · exact Nat.le_add_right _ _
      · exact Nat.le_add_right _ _
      · exact Nat.le_refl _
      · exact Nat.le_add_right _ _
    exact I1.fpOk hle (I1.hok.fresh hle)
  obtain ⟨its, rv, p1, _⟩ := I1.tuple hqx
  obtain ⟨its2, rv2, p2, _⟩ := I1.list hqy
  obtain ⟨o1, ho1, _⟩ := id p1
  refine call_zipM (show s1.heap.IsTuple a its.toArray from p1) p2.isList fun h' st hk => wpAny_pyIter_zip st.1 ?_
  have I2 : Inv X pins σ H1 { s1 with heap := h' } := I1.kept (t' := s1.toks) hk
  exact ⟨s1.heap.objs.size + 4, [s1.heap.objs.size + 4, s1.heap.objs.size + 2, s1.heap.objs.size + 3, s1.heap.objs.size, s1.heap.objs.size + 1], _, _, H1, rfl, I2, turn_zipM (PySem.W.ktu_apart s1.heap.objs.size a b (Heap.lt_size ho1) p2.lt), st, fresh, q⟩
def zipM : List D → Option (List D)
  | [.tup xs, .lst ys] => some (xs.zipWith (fun x y => .tup [x, y]) ys)
  | _ => none
def sZipM (g : Env → M (List D)) : Env → M (List D) := fun ρ => bnd (g ρ) fun ds st => ofO (zipM ds) st
theorem itok_zipM {K : PySem.W.Frag} {w : Wd} {xs ys : List D} {a b : Addr} (r : Rep K w (.tup xs) (.ref a)) (r2 : Rep K w (.lst ys) (.ref b)) : ItOk K w (xs.zipWith (fun x y => .tup [x, y]) ys) (ItzM K a b) := by
  intro w1 g ok1
  obtain ⟨a', vs, ea, hq, h3⟩ := Rep.ext g _ _ r
  obtain ⟨b', us, eb, k1, _, k3⟩ := Rep.ext g _ _ r2
  obtain rfl : a = a' := V.ref.inj ea
  obtain rfl : b = b' := V.ref.inj eb
  have kq : SqL K w1.H b us := SqL.of k1
  refine ⟨fun i d hd => ?_, ⟨vs, us, hq, kq, ?_⟩⟩
  · obtain ⟨x, y, e1, e2, rfl⟩ := zip_get hd
    obtain ⟨v, hv, rv⟩ := h3.get e1
    obtain ⟨u, hu, ru⟩ := k3.get e2
    refine ⟨⟨vs, us, v, u, hq, kq, hv, hu⟩, fun z H' ⟨T, v', u', ez, hT, eH, f1, f2⟩ => ?_⟩
    have e3 := f1 vs hq
    have e4 := f2 us kq
    rw [hv] at e3
    rw [hu] at e4
    cases e3
    cases e4
    subst ez eH
    exact ⟨w1.put T (.tup [v, u]), rfl, Grow.new ok1 hT, ok1.new hT, rfl, rep_newT ok1 hT (reps_cons rv (reps_cons ru reps_nil))⟩
  · rw [← h3.length, ← k3.length, List.length_zipWith]
    omega
section
variable {X : Cx} {W : WX}
theorem di_zipM {elts : List Expr} {kk : Nat} {tpos : Pos} {e e2 : Expr} {p pos : Pos} {f : Env → M (List D)} (hm : X.mg "zip" = none) (ha : DA X W [e, e2] f) (hg : Gl X "zip" := by rfl) (hs : starEach [e, e2] X.env = (false, eval e X.env) :: starEach [e2] X.env := by rfl) (hpl : (backTo pos (starEach [e2] X.env)).any (·.1) = false := by rfl) :
    DI X W (.Tuple elts kk tpos) (.Call (.Name "zip" p) [e, e2] [] pos) (sZipM f) := by
  refine pi_imp (pi_zipM hg hm ha hs hpl) fun σ H R h => ?_
  refine (tIx.seq (R1 := Reps X.K) h).imp fun vs H1 ⟨ds, w, items, e1, ok, r, hk, q⟩ => ?_
  subst e1
  unfold zipM at hk
  split at hk
  · rename_i xs ys
    cases hk
    obtain ⟨v, _, rfl, rv, u, _, rfl, ru, rfl⟩ := r
    obtain ⟨a, z1, ea, h1, k1⟩ := id rv
    obtain ⟨b, z2, eb, h2, k2⟩ := id ru
    subst ea eb
    exact ⟨a, b, z1, z2, rfl, h1, SqL.of h2, q w (Grow.refl w) ok rfl _ (itok_zipM rv ru)⟩
  · cases hk
@[simp] theorem wp_zipM {X : Exc → Store → Prop} {ρ : Env} {st : Store} {Q : List D → Store → Prop} (f : Env → M (List D)) : wp (sZipM f ρ st) X Q = wp (f ρ st) X fun a st1 => wo (zipM a) fun d => Q d st1 := by simp only [sZipM, bnd, wp_bnd, wp_ofO]
end
end PL
set_option maxHeartbeats 1000000
/-! PL48: walks over lists while an exception is handled. -/
namespace PL
open PySem PySem.Spec PyProof.Rows L2 HotX L2H
section
variable {prog : Program} {w : World} {A : Around} {E : Value → Shared → Prop} {s : Shared}
theorem list_end_hot {it l x1 : Addr} {i : Nat} {items : Array Value} {Q : Option Value → Shared → Prop} (hot : HotAt A x1 s.heap) (hne : x1 ≠ it) (hit : s.heap.IsListIter it l i) (hl : s.heap.IsList l items) (hx : items[i]? = none)
    (hQ : ∀ h', (∀ b o, b ≠ it → s.heap.get? b = some o → h'.get? b = some o) → Q none { s with heap := h' }) : wpAny (model prog w) A (pyNext (.ref it)) Q E s := by
  obtain ⟨hh, o1, vs1, h1, d1, c1⟩ := hot
  obtain ⟨o, ho, hc, hd⟩ := id hit
  obtain ⟨ol, hol, _, nl, hdl⟩ := hl
  unfold pyNext
  refine wpAny_bind (wpAny_attempt (wpAny_callSpecial?_slot (name := Str.ofString "__next__") hit.typeIs slot_listiter_next
    (wpAny_call_entry slot_listiter_next hit.typeIs entry_listiter_next ?_ (args_listiter_next _))))
  show wpAny _ _ (field (.ref it) 0 >>= _) _ _ s
  refine wpAny_bind (wpAny_field ho hd (x := .ref l) rfl ?_)
  show wpAny _ _ (if (Value.ref l == Value.none) = true then _ else _) _ _ s
  rw [if_neg (show ¬ ((Value.ref l == Value.none) = true) from Bool.false_ne_true)]
  show wpAny _ _ (field (.ref it) 1 >>= _) _ _ s
  refine wpAny_bind (wpAny_field ho hd (x := .int i 0) rfl ?_)
  show wpAny _ _ (seqItems? (.ref l) >>= _) _ _ s
  refine wpAny_bind (wpAny_seqItems hol hdl ?_)
  simp only [Int.toNat_natCast, hx]
  refine wpAny_bind (wpAny_rule (wpAny_bind (wpAny_setField ho hd (by simp) ?_)))
  show wpAny _ _ (newExc (.type "StopIteration") [] >>= _) _ _ _
  refine wpAny_bind ?_
  simp only [newExc, newTuple]
  refine wpAny_bind (wpAny_newObj_type ?_ (by size_fits))
  refine wpAny_bind (m := firstArgMember _ _) (wpAny_of_eq (a := Value.none) (by first | rfl | (simp only [firstArgMember]; rfl)) ?_)
  refine wpAny_newObj_type ?_ (by size_fits)
  generalize hu : s.heap.update it _ = hp
  have up : ∀ b ob, b ≠ it → s.heap.get? b = some ob → hp.get? b = some ob := fun b ob hb e => by
    rw [← hu, Heap.get?_update_other _ _ hb.symm]
    exact e
  have k1 := up x1 o1 hne h1
  refine raiseNew_hot ⟨hh, o1, vs1, Heap.get?_push_of_some _ (Heap.get?_push_of_some _ k1), d1, c1⟩ (Nat.ne_of_lt (Heap.lt_size (Heap.get?_push_of_some _ k1))) (Heap.get?_push_size _ rfl) rfl (by first | (simp; done) | (simp; omega) | (simp only [Array.size_append]; simp; omega)) ?_
  refine wpAny_bind (wpAny_isInstance (T := "StopIteration") (b := true) ⟨_, Heap.get?_update_self _ (Heap.get?_push_size _ rfl) rfl, rfl⟩ isSubtype_stop ?_)
  refine wpAny_pure (hQ _ fun b ob hb e => ?_)
  have k2 := up b ob hb e
  rw [Heap.get?_update_other _ _ (Nat.ne_of_gt (Heap.lt_size (Heap.get?_push_of_some _ k2)))]
  exact Heap.get?_push_of_some _ (Heap.get?_push_of_some _ k2)
end
theorem hot_at {X : Cx} {pins : List (Addr × Obj)} {σ : L2.St} {H : Hp} {s : Shared} (c : HotC X) (I : Inv X pins σ H s) : ∃ p : Addr × Obj, p ∈ X.pn ∧ HotAt X.A p.1 s.heap := by
  obtain ⟨p, ⟨hh, v1, e1, c1⟩, hp⟩ := c
  exact ⟨p, hp, hh, p.2, v1, (I.pin p (List.mem_append_left _ hp)).1, e1, c1⟩
theorem turn_listH {P : Program} {w : World} {K : PySem.W.Frag} {tg : Expr} (a it : Addr) : TurnH P w K tg (Itl K a) [it] it (fun i h => h.IsListIter it a i) where
  mem := List.mem_cons_self
  obj := fun i h st b hb => by
    obtain rfl : b = it := List.mem_singleton.1 hb
    obtain ⟨o, e, c, d⟩ := st
    exact ⟨o, e, fun v z => by rw [d] at z; cases z⟩
  keep := fun i h h' st k => st.at fun o e => k it List.mem_cons_self o e
  item := by
    intro X hP hw hK hc i pins s σ H E I hf st hg
    subst hP hw hK
    obtain ⟨xs, x, hq, hx⟩ := hg
    obtain ⟨its, rv, p, hz⟩ := I.list hq
    obtain ⟨u, hu, ru⟩ := rv.get hx
    obtain ⟨f0, f1, f2, f3, f4, f5⟩ := hf it List.mem_cons_self
    refine wpAny_pyNext_list_item st p.isList (x := u) (by simpa using hu) fun h' st' sb => ?_
    have J : Inv X pins σ H { s with heap := h' } := I.turned (t' := s.toks) (fun b o hb e => (sb.2 b hb).trans e) f0 f1 f3 f4 f5
    obtain ⟨o, e, c, d⟩ := id st'
    exact ⟨u, rfl, go_of (s := { s with heap := h' }) e c d (by decide) ⟨x, H, J, ru, ⟨rfl, fun ys hy => by rw [I.list_inj hy hq]; exact hx⟩, st', fun b hb => (hf b hb).1⟩⟩
  done := by
    intro X hP hw hK hc i pins s σ H E I hf st hg
    subst hP hw hK
    obtain ⟨xs, hq, hx⟩ := hg
    obtain ⟨its, rv, p, hz⟩ := I.list hq
    obtain ⟨f0, f1, f2, f3, f4, f5⟩ := hf it List.mem_cons_self
    obtain ⟨q, hqp, hot⟩ := hot_at hc I
    have hl := rv.length
    exact list_end_hot hot (f5 q (List.mem_append_left _ hqp)) st p.isList (by simp; omega) fun h' eb => ⟨rfl, I.turned (t' := s.toks) eb f0 f1 f3 f4 f5⟩
  self := fun _ _ _ _ _ st h => wpAny_pyIter_listiter st h
theorem pi_listH {X : Cx} {tg l : Expr} {tl : TE} (hl : PE X l tl) : PIH X tg l (iList X.K tl) := by
  refine ⟨fun pins s σ H R I h => ?_⟩
  refine thn (hl.run pins s σ H _ I h) fun v s1 ⟨x, H1, I1, r1, q1⟩ => ?_
  obtain ⟨a, e, ⟨xs, hq⟩, q⟩ := q1
  subst e
  cases r1
  obtain ⟨its, rv, p, hz⟩ := I1.list hq
  refine wpAny_pyIter_list p.isList ?_
  refine ⟨s1.heap.objs.size, [s1.heap.objs.size], _, _, H1, rfl, I1.kept (t' := s1.toks) fun b o e => Heap.get?_push_of_some _ e, turn_listH a _, ⟨_, Heap.get?_push_size _ rfl, rfl, rfl⟩, fun b hb => ?_, q⟩
  obtain rfl : b = s1.heap.objs.size := List.mem_singleton.1 hb
  exact I1.fpOk (Nat.le_refl _) (I1.hok.fresh (Nat.le_refl _))
section
variable {X : Cx} {W : WX}
theorem pih_imp {tg iter : Expr} {wi wi' : TI} (h : PIH X tg iter wi) (k : ∀ σ H R, wi' σ H R → wi σ H R) : PIH X tg iter wi' := ⟨fun pins s σ H R I q => h.run pins s σ H R I (k σ H R q)⟩
abbrev DIH (X : Cx) (W : WX) (tg iter : Expr) (f : Env → M (List D)) : Prop := PIH X tg iter (tIx (cx X W) f)
theorem di_listH {tg e : Expr} {f : Env → M D} (he : DE X W e f) : DIH X W tg e (sWalkL f) := by
  refine pih_imp (pi_listH he) fun σ H R q => ?_
  refine (tIx.seq (R1 := Rep X.K) q).imp fun x H1 ⟨a, w, items, e1, ok, r, hk, q⟩ => ?_
  subst e1
  cases a with
  | lst xs =>
    cases hk
    obtain ⟨b, vs, eb, h1, h2, h3⟩ := id r
    subst eb
    exact ⟨b, rfl, ⟨vs, SqL.of h1⟩, q w (Grow.refl w) ok rfl _ (itok_list r)⟩
  | _ => cases hk
theorem ds_forH {tg iter : Expr} {bd : List Stmt} {sl : List Nat} {g : D → Env → Option Env} {it : Env → M (List D)} {body : SM} {pos : Pos} (hp : PassesOwn (model X.prog X.w) X.A X.env X.xe) (hc : HotC X) (hi : DIH X W tg iter it) (hg : DG X tg sl g) (hb : DSs X W bd body)
    (hs : ∀ x, foldedSetIterable iter X.env x = pure x := by intro _; rfl) : DS X W (.For tg iter bd [] pos) (sFor g it body) :=
  PS.imp (ps_forH hp hc hi hg hb hs) fun D σ H h => for_imp h
end
end PL
set_option maxHeartbeats 1000000
/-! PL49: tuples unpacked, tuples walked while an exception is handled. -/
namespace PL
open PySem PySem.Spec PyProof.Rows L2 HotX L2H
section
variable {prog : Program} {w : World} {A : Around} {E : Value → Shared → Prop} {s : Shared}
theorem tuple_end_hot {it l x1 : Addr} {i : Nat} {items : Array Value} {Q : Option Value → Shared → Prop} (hot : HotAt A x1 s.heap) (hne : x1 ≠ it) (hit : s.heap.IsTupleIter it l i) (hl : s.heap.IsTuple l items) (hx : items[i]? = none)
    (hQ : ∀ h', (∀ b o, b ≠ it → s.heap.get? b = some o → h'.get? b = some o) → Q none { s with heap := h' }) : wpAny (model prog w) A (pyNext (.ref it)) Q E s := by
  obtain ⟨hh, o1, vs1, h1, d1, c1⟩ := hot
  obtain ⟨o, ho, hc, hd⟩ := id hit
  obtain ⟨ol, hol, _, nl, hdl⟩ := hl
  unfold pyNext
  refine wpAny_bind (wpAny_attempt (wpAny_callSpecial?_slot (name := Str.ofString "__next__") hit.typeIs F.slot_tuple_iterator_next
    (wpAny_call_entry F.slot_tuple_iterator_next hit.typeIs F.entry_tuple_iterator_next ?_ (F.args_tuple_iterator_next_1 _))))
  show wpAny _ _ (field (.ref it) 0 >>= _) _ _ s
  refine wpAny_bind (wpAny_field ho hd (x := .ref l) rfl ?_)
  show wpAny _ _ (if (Value.ref l == Value.none) = true then _ else _) _ _ s
  rw [if_neg (show ¬ ((Value.ref l == Value.none) = true) from Bool.false_ne_true)]
  show wpAny _ _ (field (.ref it) 1 >>= _) _ _ s
  refine wpAny_bind (wpAny_field ho hd (x := .int i 0) rfl ?_)
  show wpAny _ _ (seqItems? (.ref l) >>= _) _ _ s
  refine wpAny_bind (wpAny_seqItems hol hdl ?_)
  simp only [Int.toNat_natCast, hx]
  refine wpAny_bind (wpAny_rule (wpAny_bind (wpAny_setField ho hd (by simp) ?_)))
  show wpAny _ _ (newExc (.type "StopIteration") [] >>= _) _ _ _
  refine wpAny_bind ?_
  simp only [newExc, newTuple]
  refine wpAny_bind (wpAny_newObj_type ?_ (by size_fits))
  refine wpAny_bind (m := firstArgMember _ _) (wpAny_of_eq (a := Value.none) (by first | rfl | (simp only [firstArgMember]; rfl)) ?_)
  refine wpAny_newObj_type ?_ (by size_fits)
  generalize hu : s.heap.update it _ = hp
  have up : ∀ b ob, b ≠ it → s.heap.get? b = some ob → hp.get? b = some ob := fun b ob hb e => by
    rw [← hu, Heap.get?_update_other _ _ hb.symm]
    exact e
  have k1 := up x1 o1 hne h1
  refine raiseNew_hot ⟨hh, o1, vs1, Heap.get?_push_of_some _ (Heap.get?_push_of_some _ k1), d1, c1⟩ (Nat.ne_of_lt (Heap.lt_size (Heap.get?_push_of_some _ k1))) (Heap.get?_push_size _ rfl) rfl (by first | (simp; done) | (simp; omega) | (simp only [Array.size_append]; simp; omega)) ?_
  refine wpAny_bind (wpAny_isInstance (T := "StopIteration") (b := true) ⟨_, Heap.get?_update_self _ (Heap.get?_push_size _ rfl) rfl, rfl⟩ isSubtype_stop ?_)
  refine wpAny_pure (hQ _ fun b ob hb e => ?_)
  have k2 := up b ob hb e
  rw [Heap.get?_update_other _ _ (Nat.ne_of_gt (Heap.lt_size (Heap.get?_push_of_some _ k2)))]
  exact Heap.get?_push_of_some _ (Heap.get?_push_of_some _ k2)
theorem hot_keep {x1 : Addr} {h h' : Heap} (hot : HotAt A x1 h) (k : ∀ o, h.get? x1 = some o → h'.get? x1 = some o) : HotAt A x1 h' := by
  obtain ⟨hh, o, vs, e, d, c⟩ := hot
  exact ⟨hh, o, vs, k o e, d, c⟩
theorem hot_lt {x1 : Addr} {h : Heap} (hot : HotAt A x1 h) : x1 < h.objs.size := by
  obtain ⟨hh, o, vs, e, d, c⟩ := hot
  exact Heap.lt_size e
theorem unpack_hot {t x1 : Addr} {items : Array Value} {Q : List Value → Shared → Prop} (hot : HotAt A x1 s.heap) (ht : s.heap.IsTuple t items)
    (hQ : ∀ h', (∀ b o, s.heap.get? b = some o → h'.get? b = some o) → Q items.toList { s with heap := h' }) : wpAny (model prog w) A (unpackItems (.ref t) items.size none) Q E s := by
  have hlt : t ≠ s.heap.objs.size := by obtain ⟨o, ho, _⟩ := ht; exact Nat.ne_of_lt (Heap.lt_size ho)
  have hx1 : x1 ≠ s.heap.objs.size := Nat.ne_of_lt (hot_lt hot)
  unfold unpackItems
  refine wpAny_bind ?_
  unfold notIterableAtAll
  refine wpAny_bind (wpAny_specialOf ht.typeIs F.slot_tuple_iter.lookup ?_)
  refine wpAny_pure ?_
  simp only [Bool.false_eq_true, if_false]
  refine wpAny_bind (wpAny_holding (wpAny_pyIter_tuple ht ?_))
  refine wpAny_bind (wpAny_holding (wpAny_draw_tuple hlt items.size 0 _ _ ⟨_, Heap.get?_push_size _ rfl, rfl, rfl⟩ (ht.push _) (by omega) fun h₁ hit₁ hs₁ => ?_))
  have hall : List.take items.size (List.drop 0 items.toList) = items.toList := by
    rw [List.drop_zero]; exact List.take_of_length_le (by simp)
  rw [hall, if_neg (by simp)]
  have ht₁ : h₁.IsTuple t items := (ht.push _).extBut hs₁.extBut hlt
  have k1 : ∀ b o, s.heap.get? b = some o → h₁.get? b = some o := fun b o e => hs₁.extBut b o (Nat.ne_of_lt (Heap.lt_size e)) (Heap.get?_push_of_some _ e)
  have hot1 : HotAt A x1 h₁ := hot_keep hot fun o e => k1 _ o e
  refine wpAny_bind (wpAny_holding (tuple_end_hot (s := { s with heap := h₁ }) hot1 hx1 hit₁ ht₁ (by simp) fun h₂ k2 => ?_))
  simp only [Option.isSome_none, Bool.false_eq_true, if_false]
  exact wpAny_pure (hQ h₂ fun b o e => k2 b o (Nat.ne_of_lt (Heap.lt_size e)) (k1 b o e))
theorem assign_hot {env : PySem.Env} {elts : List Expr} {x0} {pos : Pos} {t x1 : Addr} {items : Array Value} {Q : Unit → Shared → Prop} (hot : HotAt A x1 s.heap) (ht : s.heap.IsTuple t items)
    (hn : (assignEach elts env).length = items.size) (hstar : (assignEach elts env).findIdx? (·.1) = none)
    (h : ∀ h', (∀ b o, s.heap.get? b = some o → h'.get? b = some o) → wpAny (model prog w) A (assignInOrder ((assignEach elts env).map (·.2)) items.toList) Q E { s with heap := h' }) :
    wpAny (model prog w) A (assign (.Tuple elts x0 pos) env (.ref t)) Q E s := by
  rw [arm_assign_Tuple]
  refine wpAny_bind (wpAny_standAt ?_)
  unfold unpack
  rw [hn, hstar]
  exact wpAny_bind (wpAny_holding (unpack_hot hot ht h))
end
section
variable {X : Cx} {W : WX}
theorem pg_tupH {es : List Expr} {k : Nat} {t : TGs} {n : Nat} {pos : Pos} (hc : HotC X) (h : PGs X es t)
    (hn : (assignEach es X.env).length = n := by rfl) (hst : (assignEach es X.env).findIdx? (·.1) = none := by rfl) : PG X (.Tuple es k pos) (gTup X.K n t) := by
  refine ⟨fun pins s σ H v u Q I r hw => ?_⟩
  obtain ⟨a, xs, e1, hq, hl, hw⟩ := hw
  subst e1
  cases r
  obtain ⟨its, rv, ht, hz⟩ := I.tuple hq
  obtain ⟨q, hqp, hot⟩ := hot_at hc I
  refine assign_hot hot ht (by simp [hn, ← hl, rv.length]) hst fun h' hx => ?_
  have J : Inv X pins σ H { s with heap := h' } := I.kept (t' := s.toks) hx
  exact h.run pins _ σ H xs _ Q J (by simpa using rv) hw
theorem dg_tupH {es : List Expr} {k n : Nat} {sl : List Nat} {g : List D → Env → Option Env} {pos : Pos} (hc : HotC X) (h : DGs X es sl g) (hn : (assignEach es X.env).length = n := by rfl) (hst : (assignEach es X.env).findIdx? (·.1) = none := by rfl) :
    DG X (.Tuple es k pos) sl (gTu n g) := by
  refine pg_imp (pg_tupH hc h hn hst) fun v σ H Q q => ?_
  obtain ⟨w, ρ, d, ρ', rfl, ok, re, r, e1, q⟩ := q
  cases d with
  | tup xs =>
    have e1 : (if xs.length = n then g xs ρ else none) = some ρ' := e1
    by_cases hl : xs.length = n
    · rw [if_pos hl] at e1
      obtain ⟨a, vs, e2, h1, h2⟩ := r
      exact ⟨a, vs, e2, h1, by rw [← h2.length]; exact hl, w, ρ, xs, ρ', rfl, ok, re, h2, e1, q⟩
    · rw [if_neg hl] at e1
      cases e1
  | _ => cases e1
end
end PL
set_option maxHeartbeats 1000000
/-! PL50: defs that are called while an exception is handled, and are told which one. -/
namespace PL
open PySem PySem.Spec PyProof.Rows L2 HotX L2H
/-- what a def promises where p is the handled exception -/
structure FnP (P : Program) (w : World) (K : PySem.W.Frag) (mg : Str → Option Value) (base : Heap) (CX : CXT) (k : Nat) (f : Addr) (fd : FuncData) (ps : List Str) (sp : Addr × Obj → Sp) : Prop where
  len : ∀ p vs H Q E, sp p vs H Q E → vs.length = ps.length
  run : ∀ (A : Around) (outer : List PySem.Env) (s : Shared) (H : Hp) (args : Args) (us : List Value) (vs : List V) (Q : VK) (E : XK) (p : Addr × Obj), RoomH k A → Hot1 A p → PinOk outer H s p → Env0 P w K mg base A outer s H → BindsTo s fd args (ps.zip us) → Vals vs us → sp p vs H Q E →
    codeAny (model P w) A (.call (.ref f) args) (CR CX outer P w H s Q E) s
theorem fn_ofP {CX : CXT} {P : Program} {w : World} {K : PySem.W.Frag} {mg : Str → Option Value} {base : Heap} {k : Nat} {f : Addr} {name qual : Str} {params : Arguments} {body : List Stmt} {scope : Scope} {dV kV doc pm cdv ct oc : Value} {an od : Option Addr}
    {osl : Array (Option Value)} {N ps : List Str} {sp : Addr × Obj → Sp} (lk : K.lookup f = some ⟨oc, od, .func (PySem.W.fnOf name qual params body scope dV kV doc pm an cdv ct), osl⟩) (hcd : PySem.W.codeIn K cdv qual = true) (S : FnScope N ps scope)
    (len : ∀ p vs H Q E, sp p vs H Q E → vs.length = ps.length)
    (hbody : ∀ (A : Around) (outer : List PySem.Env) (s : Shared) (H : Hp) (vs : List V) (Q : VK) (E : XK) (p : Addr × Obj), Hot1 A p → RoomH k (A.deeper (envOfC qual scope s.heap.objs.size f cdv)) → sp p vs H Q E →
      ∃ t, PSs (cxH CX P w K mg base N qual scope f cdv A outer s H E p) body t ∧ t { nx := fun _ H' => Q .non H', rt := Q } (L2.start N vs) H) :
    FnP P w K mg base CX (k + 1) f (PySem.W.fnOf name qual params body scope dV kV doc pm an cdv ct) ps sp := by
  refine ⟨len, ?_⟩
  intro A outer s H args us vs Q E p room hot pin env bind vals told
  have tr := hbody A outer s H vs Q E p hot (room.deeper _) told
  have frag := env.mod.kin.keeps (h' := s.heap) fun b o e => (env.bs b o e).1
  have nolim := env.mod.nolimit.keeps (h' := s.heap) fun b o e => (env.bs b o e).1
  refine codeAny_call_function room.depth (frag _ _ lk) rfl S.co S.gen rfl (PySem.W.codeRec_of frag hcd) (bind _ _ _ _ (wpAny_newFunctionEnv_cells S.kind ?_ ?_))
  · intro y hy
    rcases S.par y.1 (List.of_mem_zip (a := y.1) (b := y.2) hy).1 with c | c
    · exact Or.inl c
    · exact Or.inr ⟨c, PySem.W.cellsFrom_some _ _ _ (Or.inl c)⟩
  · rintro _ rfl s1 inc
    refine ⟨nolim.keeps inc.toInCall.keep, codeAny_func ?_⟩
    obtain ⟨t, walk, post⟩ := tr
    refine wpAny_mono (walk.run [] s1 (L2.start N vs) H _ (inv_startH S pin env (len _ _ _ _ _ told) vals inc) post) ?_ (fun _ _ x => x)
    intro fl s' out
    match fl, out with
    | .ret u, ⟨v, _, H', J, rv, q⟩ => exact ⟨v, H', J.os, J.bare, J.base, J.hok, rv, q⟩
    | .next, ⟨_, H', J, q⟩ => exact ⟨V.non, H', J.os, J.bare, J.base, J.hok, rfl, q⟩
    | .brk, ⟨_, _, _, q⟩ => exact q.elim
    | .cont, ⟨_, _, _, q⟩ => exact q.elim
/-- the promise of a def that is not told: the library's, for every p -/
theorem FnP.ofH {P : Program} {w : World} {K : PySem.W.Frag} {mg : Str → Option Value} {base : Heap} {CX : CXT} {k : Nat} {f : Addr} {fd : FuncData} {ps : List Str} {sp : Sp} (F : FnH P w K mg base CX k f fd ps sp) : FnP P w K mg base CX k f fd ps (fun _ => sp) :=
  ⟨fun _ => F.len, F.run⟩
section
variable {X : Cx} {CX : CXT} {k : Nat} {f : Addr} {fd : FuncData} {ps : List Str} {sp : Addr × Obj → Sp} {E : L2.St → XK} {x : Str} {q pos : Pos} {e : Expr} {es : List Expr} {t : TA} {p : Addr × Obj}
theorem run_fnP {pins : List (Addr × Obj)} {σ : L2.St} {H : Hp} {s : Shared} {Q : VK} {us : List Value} {vs : List V} (F : FnP X.prog X.w X.K X.mg X.base CX k f fd ps sp) (hr : RoomH k X.A) (hot : Hot1 X.A p) (hp : p ∈ X.pn) (hb : Binds X.K fd ps []) (hx : PassesAt CX X σ (E σ))
    (I : Inv X pins σ H s) (r : Vals vs us) (h : sp p vs H Q (E σ)) : wpAny (model X.prog X.w) X.A (call (.ref f) us) (EP X pins σ Q) X.xe s := by
  have n : us.length = (ps ++ []).length := by rw [← r.length, F.len _ _ _ _ _ h, List.append_nil]
  have b := hb s us I.kIn (by simpa using n)
  have z := I.pin p (List.mem_append_left _ hp)
  have pin : PinOk X.stack H s p := ⟨z.1, z.2.1, fun hm => by
    rcases List.mem_cons.mp (I.stkSub p.1 hm) with c | c
    · exact z.2.2.1 c
    · exact z.2.2.2.1 c, z.2.2.2.2⟩
  simp only [List.append_nil] at b
  refine wpAny_call (codeAny_mono (F.run X.A X.stack s H ⟨us, []⟩ us vs Q (E σ) p hr hot pin I.env0 b r h) ?_)
  intro rr s' out
  match rr, out with
  | .error e, o => exact hx pins H s e s' I o
  | .ok (.ret u), o => exact I.after o
  | .ok .next, o => exact o.elim
  | .ok .brk, o => exact o.elim
  | .ok .cont, o => exact o.elim
theorem pe_callP (F : FnP X.prog X.w X.K X.mg X.base CX k f fd ps sp) (hr : RoomH k X.A) (hot : Hot1 X.A p) (hp : p ∈ X.pn) (hg : Gl X x) (hm : X.mg x = some (.ref f)) (hk : PySem.W.keepIn X.K (.ref f) = true) (hb : Binds X.K fd ps []) (hx : ∀ σ, PassesAt CX X σ (E σ))
    (ha : PA X (e :: es) t) (hdb : (x == ("__debug__" : Str)) = false := by decide) (he : starEach (e :: es) X.env = (false, eval e X.env) :: starEach es X.env := by rfl) (hpl : (backTo pos (starEach es X.env)).any (·.1) = false := by rfl) :
    PE X (.Call (.Name x q) (e :: es) [] pos) (tCallS (sp p) E t) := by
  constructor
  intro pins s σ H Q I h
  refine wpAny_Call_Name_kw (ld_glob I hg hm (PySem.W.callWith_K (h₀ := X.base) I.ok.mod.kin hk (thn (ha.run pos pins s σ H _ I h) ?_) he hpl) hdb)
  rintro us s1 ⟨vs, H1, I1, r, w⟩
  exact ⟨I1.kIn, run_fnP F hr hot hp hb (hx σ) I1 r w⟩
end
end PL
set_option maxHeartbeats 1000000
/-! PL51: defs as functions on data that are told which exception is handled. -/
namespace PL
open PySem PySem.Spec PyProof.Rows L2 HotX L2H
/-- what is known of the handled exception, the frame apart -/
def PXw (K : PySem.W.Frag) (mg : Str → Option Value) (cls : Value) (d : Option Addr) (e : Exc) : Wd → L2.St → Prop := fun w _ => xr K mg e cls d w ∧ ∀ p, d = some p → ¬ Lv w p
theorem pxw_of {K : PySem.W.Frag} {mg : Str → Option Value} {i : Nat} {a : Addr} {cls : Value} {d : Option Addr} {e : Exc} {w : Wd} {σ σ' : L2.St} (h : PX2 K mg i a cls d e w σ) : PXw K mg cls d e w σ' := ⟨h.1.1, h.2⟩
theorem mono_pxw {K : PySem.W.Frag} {mg : Str → Option Value} {cls : Value} {d : Option Addr} {e : Exc} : MonoP (PXw K mg cls d e) := fun σ w w' g h =>
  pxw_of (i := σ.length) (a := 0) (σ := σ) (mono_px2 (i := σ.length) (a := 0) σ w w' g ⟨⟨h.1, fun c => absurd c (Nat.lt_irrefl _)⟩, h.2⟩)
/-- the promise -/
def spP (K : PySem.W.Frag) (mg : Str → Option Value) (n : Nat) (F : Addr → Exc → List D → M D) : Addr × Obj → Sp := fun p vs H Q E => vs.length = n ∧ ∃ e cls d w ds, L2N.Zn cls d p.2 ∧ (∃ fv, p.2.data = .fields fv) ∧ PXw K mg cls d e w [] ∧ w.H = H ∧ WOk K w ∧ Reps K w ds vs ∧
  Post ⟨K, xr K mg, fun _ _ _ _ => False⟩ (Rep K) w (F p.1 e ds w.st) Q (fun e w' => ∀ c d, xr K mg e c d w' → E c d w'.H)
abbrev XHOf (P : Program) (wo : World) (K : PySem.W.Frag) (mg : Str → Option Value) (base : Heap) (N : List Str) (qual : Str) (sc : Scope) (f : Addr) (cdv : Value) (A : Around) (out : List PySem.Env) (s : Shared) (H : Hp) (E : XK) (p : Addr × Obj) : Cx := cxH (L2N.CX P wo) P wo K mg base N qual sc f cdv A out s H E p
theorem tkH {P : Program} {wo : World} {K : PySem.W.Frag} {mg : Str → Option Value} {base : Heap} {N : List Str} {qual : Str} {sc : Scope} {f : Addr} {cdv : Value} {A : Around} {out : List PySem.Env} {s : Shared} {H : Hp} {E : XK} {p : Addr × Obj} : L2N.Takes (XHOf P wo K mg base N qual sc f cdv A out s H E p) (fun c d _ H => E c d H) := L2N.takes_of rfl rfl rfl rfl
theorem hotH {P : Program} {wo : World} {K : PySem.W.Frag} {mg : Str → Option Value} {base : Heap} {N : List Str} {qual : Str} {sc : Scope} {f : Addr} {cdv : Value} {A : Around} {out : List PySem.Env} {s : Shared} {H : Hp} {E : XK} {p : Addr × Obj} (h : Hot1 A p) : HotC (XHOf P wo K mg base N qual sc f cdv A out s H E p) :=
  ⟨p, h, by first | exact List.mem_cons_self | exact List.mem_singleton.2 rfl⟩
section
variable {P : Program} {wo : World} {K : PySem.W.Frag} {mg : Str → Option Value} {base : Heap} {k : Nat} {f : Addr} {fd : FuncData} {ps : List Str}
/-- THE RULE for a def that is told -/
theorem fnp_def {x qual : Str} {st : Stmt} {N : List Str} {body : Addr → Exc → SM} (n : Nat) (m : Nat) (F : Fun K x qual st f fd) (S : FnScope N ps (defScope st))
    (hb : ∀ (cdv : Value) (A : Around) (out : List PySem.Env) (s : Shared) (H : Hp) (E : XK) (p : Addr × Obj) (e : Exc) (cls : Value) (d : Option Addr), L2N.Zn cls d p.2 → (∃ fv, p.2.data = .fields fv) → Hot1 A p → RoomH k (A.deeper (envOfC qual (defScope st) s.heap.objs.size f cdv)) →
      XSs (XHOf P wo K mg base N qual (defScope st) f cdv A out s H E p) (fun c d _ H => E c d H) (PXw K mg cls d e) (defBody st) (body p.1 e)) (hn : ps.length = n := by rfl) (hm : N.length = m := by rfl) :
    FnP P wo K mg base (L2N.CX P wo) (k + 1) f fd ps (spP K mg n (fun a e => arity n (runDef m (body a e)))) := by
  obtain ⟨oc, od, kV, doc, pm, an, cdv, ct, osl, efd, lk, hcd⟩ := F.ex
  subst efd
  refine fn_ofP lk hcd S (fun p vs H Q E h => by rw [h.1, hn]) fun A out s H vs Q E p hot hr hsp => ?_
  obtain ⟨hl, e, cls, d, w, ds, hz, hv, px, rfl, ok, r, q⟩ := hsp
  refine ⟨_, hb cdv A out s _ E p e cls d hz hv hot hr, ?_⟩
  refine ⟨w, ds.map some ++ List.replicate (N.length - ds.length) none, rfl, ok, repE_start r, px, ?_⟩
  have hd : ds.length = n := r.length.trans hl
  simp only at q
  rw [arity_ok hd] at q
  unfold runDef at q
  rw [← hm] at q
  cases eb : body p.1 e (ds.map some ++ List.replicate (N.length - ds.length) none) w.st with
  | bad => rw [eb] at q; exact q.elim
  | nx ρ st => rw [eb] at q; exact fun w' g ok' es σ' _ => q w' g ok' es V.non rfl
  | rt d st => rw [eb] at q; exact q
  | bk ρ st => rw [eb] at q; exact q.elim
  | ct ρ st => rw [eb] at q; exact q.elim
  | ex x ρ st => rw [eb] at q; exact fun w' g ok' es σ' _ => q w' g ok' es
end
/-! ### statements where something is known of the handled exception -/
section
variable {X : Cx} {W : WX} {P : Wd → L2.St → Prop}
/-- what is known does not look at the frame -/
def Free (P : Wd → L2.St → Prop) : Prop := ∀ w σ σ', P w σ → P w σ'
theorem free_pxw {K : PySem.W.Frag} {mg : Str → Option Value} {cls : Value} {d : Option Addr} {e : Exc} : Free (PXw K mg cls d e) := fun _ _ _ h => h
theorem thenP_imp {α β : Type} {R : Wd → α → β → Prop} {f : Env → M α} {k : α → SM} {D : Ends} {σ : L2.St} {H : Hp} (h : tSs (cx X W) P (sThen f k) D σ H) :
    tX (cx X W) R (fun w => P w σ) f σ H fun x H1 => ∃ w ρ a, w.H = H1 ∧ WOk X.K w ∧ RepE X.K w σ ρ ∧ R w a x ∧ SPost (cx X W) w (k a ρ w.st) D := by
  obtain ⟨w, ρ, rfl, ok, re, p, q⟩ := h
  refine ⟨w, ρ, rfl, ok, re, p, ?_⟩
  unfold sThen at q
  cases e : f ρ w.st with
  | bad => rw [e] at q; exact q
  | exc x st =>
    rw [e] at q
    exact fun w' g ok' es => q w' g ok' es σ (re.grow g)
  | ok a st =>
    rw [e] at q
    exact fun w' g ok' es x hx => ⟨w', ρ, a, rfl, ok', re.grow g, hx, by rw [es]; exact q.grow g⟩
theorem ss_set (i : Nat) {x : Str} {e : Expr} {f : Env → M D} {pos' pos : Pos} (hN : X.N.Nodup) (hi : X.N[i]? = some x) (hx : Loc X.env.scope x) (he : XEd X W P e f) (hs : swapsWith e (some (.Name x pos')) pos.line X.env = pure false := by rfl)
    (hf : X.fn x = true ∨ X.env.scope.names.lookup x = some .local := by first | exact .inl rfl | exact .inr rfl | assumption) : XSd X W P (.Assign [.Name x pos'] e pos) (sSet i f) :=
  PS.imp (ps_set hN hi hx he hs hf) fun D σ H h => (thenP_imp (R := Rep X.K) h).imp fun x H1 ⟨w, ρ, a, e1, ok, re, r, q⟩ => by
    subst e1
    exact q w (Grow.refl w) ok rfl _ (re.set i r)
theorem ss_expr {e : Expr} {f : Env → M D} {pos : Pos} (he : XEd X W P e f) (hs : swapsWith e none pos.line X.env = pure false := by rfl) : XSd X W P (.Expr e pos) (sExpr f) :=
  PS.imp (ps_expr he hs) fun D σ H h => (thenP_imp (R := Rep X.K) h).imp fun x H1 ⟨w, ρ, a, e1, ok, re, r, q⟩ => by
    subst e1
    exact q w (Grow.refl w) ok rfl _ re
theorem sss_of {s : List Stmt} {f : SM} (h : DSs X W s f) : XSs X W P s f := PSs.imp h fun D σ H ⟨w, ρ, e1, ok, re, _, q⟩ => ⟨w, ρ, e1, ok, re, q⟩
theorem seqP_imp (hP : MonoP P) (hF : Free P) {f g : SM} {D : Ends} {σ : L2.St} {H : Hp} (h : tSs (cx X W) P (sSeq f g) D σ H) : tSs (cx X W) P f { D with nx := tSs (cx X W) P g D } σ H := by
  obtain ⟨w, ρ, rfl, ok, re, p, q⟩ := h
  refine ⟨w, ρ, rfl, ok, re, p, ?_⟩
  unfold sSeq at q
  cases e : f ρ w.st with
  | bad => rw [e] at q; exact q
  | nx ρ' st =>
    rw [e] at q
    exact fun w' g' ok' es σ' re' => ⟨w', ρ', rfl, ok', re', hF _ _ _ (hP σ _ _ g' p), by rw [es]; exact q.grow g'⟩
  | rt d st => rw [e] at q; exact q
  | bk d st => rw [e] at q; exact q
  | ct d st => rw [e] at q; exact q
  | ex x ρ' st => rw [e] at q; exact q
theorem sss_cons (hP : MonoP P) (hF : Free P) {s : Stmt} {r : List Stmt} {f g : SM} (h1 : XSd X W P s f) (h2 : XSs X W P r g) : XSs X W P (s :: r) (sSeq f g) := PSs.imp (pss_cons h1 h2) fun D σ H h => seqP_imp hP hF h
end
end PL
set_option maxHeartbeats 1000000
/-! PL52: expressions where something is known of the handled exception: displays, methods of lists. -/
namespace PL
open PySem PySem.Spec PyProof.Rows L2 HotX L2H
section
variable {X : Cx} {W : WX} {P : Wd → L2.St → Prop}
theorem tX.seqP {C : Ctx} {α β γ δ : Type} {R : Wd → γ → δ → Prop} {R1 : Wd → α → β → Prop} {P : Wd → Prop} {f : Env → M α} {k : α → Env → M γ} {σ : L2.St} {H : Hp} {Q : δ → Hp → Prop} (hP : Mono P)
    (h : tX C R P (fun ρ => bnd (f ρ) fun a => k a ρ) σ H Q) : tX C R1 P f σ H (fun x H1 => ∃ a, tX C R (fun w => P w ∧ R1 w a x) (k a) σ H1 Q) := by
  obtain ⟨w, ρ, rfl, ok, re, p, q⟩ := h
  refine ⟨w, ρ, rfl, ok, re, p, ?_⟩
  have q : Post C R w ((f ρ w.st).bnd fun a => k a ρ) Q (C.we σ) := q
  cases hr : f ρ w.st with
  | bad => rw [hr] at q; exact q
  | exc x st => rw [hr] at q; exact q
  | ok a st =>
    rw [hr] at q
    have q : Post C R w (k a ρ st) Q (C.we σ) := q
    intro w' g ok' es x hx
    refine ⟨a, w', ρ, rfl, ok', re.grow g, ⟨hP _ _ g p, hx⟩, ?_⟩
    rw [es]
    exact q.grow g
theorem xs_tup (hP : MonoP P) {es : List Expr} {k : Nat} {f : Env → M (List D)} {pos : Pos} (h : XAd X W P es f) : XEd X W P (.Tuple es k pos) (sTup f) := by
  refine (pe_tup h).imp fun σ H Q h => ?_
  have h : tX (cx X W) (Rep X.K) (fun w => P w σ) (sTup f) σ H Q := h
  refine tX.imp (tX.seqP (R1 := Reps X.K) (hP σ) h) fun x H1 ⟨ds, h1⟩ => ?_
  obtain ⟨w, ρ, rfl, ok, re, ⟨_, r1⟩, q⟩ := h1
  obtain ⟨d, e1, q⟩ := at_of (K := X.K) rfl q
  split at e1
  · rename_i hz
    cases e1
    exact ⟨by rw [← r1.length]; exact hz, q.tup ok r1⟩
  · cases e1
theorem mthP_imp (hP : MonoP P) {isT : D → Store → Bool} {T : String} (hT : ∀ {w : Wd} {d : D} {v : V}, WOk X.K w → Rep X.K w d v → isT d w.st = true → tyV X.K T v w.H) {f : D → List D → Store → Option (D × Store)} {fo : Env → M D} {g : Env → M (List D)} {σ : L2.St} {H : Hp} {Q : VK}
    (h : tXs (cx X W) P (sMth isT f fo g) σ H Q) : tXs (cx X W) P fo σ H fun x H1 => tyV X.K T x H1 ∧ tXa (cx X W) P g σ H1 fun xs H2 => rMt X.K f x xs H2 Q := by
  have h : tX (cx X W) (Rep X.K) (fun w => P w σ) (sMth isT f fo g) σ H Q := h
  refine tX.imp (tX.seqP (R1 := Rep X.K) (hP σ) h) fun x H1 ⟨d0, h1⟩ => ?_
  obtain ⟨w, ρ, rfl, ok, re, ⟨p, r1⟩, q⟩ := h1
  have q : Post (cx X W) (Rep X.K) w (if isT d0 w.st = true then bnd (g ρ) (fun ds st1 => ofP (f d0 ds st1)) w.st else .bad) Q ((cx X W).we σ) := q
  by_cases hi : isT d0 w.st = true
  · rw [if_pos hi] at q
    refine ⟨hT ok r1 hi, ?_⟩
    have h2 : tX (cx X W) (Rep X.K) (fun w => P w σ ∧ Rep X.K w d0 x) (fun ρ => bnd (g ρ) (fun ds st1 => ofP (f d0 ds st1))) σ w.H Q := ⟨w, ρ, rfl, ok, re, ⟨p, r1⟩, q⟩
    obtain ⟨w1, ρ1, e1, ok1, re1, p1, q1⟩ := tX.imp (Q' := fun xs H2 => rMt X.K f x xs H2 Q) (tX.seqP (R1 := Reps X.K) (fun w w' g q => ⟨hP σ _ _ g q.1, Rep.grow g _ _ q.2⟩) h2) fun xs H2 ⟨ds, h3⟩ => by
      obtain ⟨w2, ρ2, rfl, ok2, re2, ⟨⟨_, r2⟩, r3⟩, q2⟩ := h3
      have q2 : Post (cx X W) (Rep X.K) w2 (ofP (f d0 ds w2.st)) Q _ := q2
      cases e : f d0 ds w2.st with
      | none => rw [e] at q2; exact q2.elim
      | some z =>
        obtain ⟨d, st⟩ := z
        rw [e] at q2
        exact ⟨w2, d0, ds, d, st, rfl, ok2, r2, r3, e, q2⟩
    exact ⟨w1, ρ1, e1, ok1, re1, p1.1, q1⟩
  · rw [if_neg hi] at q
    exact q.elim
theorem xs_mth (hP : MonoP P) {isT : D → Store → Bool} {T id : String} {name : Str} {o e : Expr} {es : List Expr} {apos cpos : Pos} {f : D → List D → Store → Option (D × Store)} {fo : Env → M D} {g : Env → M (List D)}
    (hT : ∀ {w : Wd} {d : D} {v : V}, WOk X.K w → Rep X.K w d v → isT d w.st = true → tyV X.K T v w.H) (pa : PlainAttrs T) (slot : Slot T name id) (hty : typeOf (.builtin id) = pure (.type "method_descriptor")) (hm : MtR X id (rMt X.K f)) (ho : XEd X W P o fo) (ha : XAd X W P (e :: es) g)
    (hbase : attributeBase o name X.env (eval o X.env) = eval o X.env := by rfl)
    (hfew : ((backTo cpos (starEach (e :: es) X.env)).all (fun x => !x.1) && (backToKw cpos (keywordEach [] X.env)).all (fun x => x.1.isSome)
      && decide ((e :: es).length + ([] : List Keyword).length + (if ([] : List Keyword).isEmpty then 0 else 1) < 30)) = true := by rfl)
    (hline : (apos.endLine == cpos.line) = true := by rfl) (hs : starEach (e :: es) X.env = (false, eval e X.env) :: starEach es X.env := by rfl) (hplain : (backTo cpos (starEach es X.env)).any (·.1) = false := by rfl) :
    XEd X W P (.Call (.Attribute o name apos) (e :: es) [] cpos) (sMth isT f fo g) :=
  (pe_bm pa slot hty hm ho ha hbase hfew hline hs hplain).imp fun σ H Q h => mthP_imp hP hT h
end
end PL
set_option maxHeartbeats 1000000
/-! PL53: isinstance of an exception that is told, the call of a told def in an except suite. -/
namespace PL
open PySem PySem.Spec PyProof.Rows L2 HotX L2H
def KXv (K : PySem.W.Frag) (mg : Str → Option Value) (T : Value) (l : List (String × Bool)) : Prop := ∀ nm b, l.lookup nm = some b → ∃ C, mg (Str.ofString nm) = some (.ref C) ∧ ExcC K C ∧ PySem.W.kitOne K (.ref C) T = some b
theorem kxv_nil {K : PySem.W.Frag} {mg : Str → Option Value} {T : Value} : KXv K mg T [] := fun C b h => by cases h
theorem kxv_cons {K : PySem.W.Frag} {mg : Str → Option Value} {T : Value} {C : Addr} {x : String} {b : Bool} {l : List (String × Bool)} (h1 : mg (Str.ofString x) = some (.ref C)) (h2 : ExcC K C) (h3 : PySem.W.kitOne K (.ref C) T = some b) (t : KXv K mg T l) : KXv K mg T ((x, b) :: l) := fun D c hc => by
  rw [List.lookup_cons] at hc
  by_cases e : D = x
  · subst e
    rw [beq_self_eq_true] at hc
    cases hc
    exact ⟨C, h1, h2, h3⟩
  · rw [beq_eq_false_iff_ne.mpr e] at hc
    exact t D c hc
def sIsV (a : Addr) (e : Exc) (i : Nat) (l : List (String × Bool)) : Env → M D := fun ρ st => match ρ[i]? with
  | some (some (.vv (.ref b))) => if b = a then (match l.lookup e.cls with
    | some k => .ok (.bl k) st
    | none => .bad) else .bad
  | _ => .bad
section
variable {X : Cx} {W : WX}
theorem call_isXv {a : Addr} {oe : Obj} {cls : Value} {d : Option Addr} {T : Value} {tv : V} (hT : ∀ u, RelV tv u → u = T) (hz : L2N.Zn cls d oe) (hf : ∃ vs, oe.data = .fields vs) (hpn : (a, oe) ∈ X.pn) : CallR X (.builtin "isinstance") (fun xs H Q => ∃ C b, xs = [.ref a, tv] ∧ cls = .ref C ∧ ExcC X.K C ∧ PySem.W.kitOne X.K (.ref C) T = some b ∧ (∀ p, d = some p → ∃ fs, H p = some (.xd fs)) ∧ Q (.bl b) H) := by
  intro pins s σ H xs us Q I r h
  obtain ⟨C, b, rfl, rfl, EC, e, hd, q⟩ := h
  obtain ⟨u1, u2, rfl, r1, r2⟩ := vals2 r
  cases (show u1 = Value.ref a from r1)
  cases hT u2 r2
  obtain ⟨hget, _⟩ := I.pin (a, oe) (List.mem_append.mpr (.inl hpn))
  obtain ⟨vs, hv⟩ := hf
  have hcl : (PySem.W.clsIn X.K C).isSome = true := by
    obtain ⟨cd, hc, _⟩ := PySem.W.any_some EC.hd
    rw [hc]; rfl
  obtain ⟨oc, od, oda, osl⟩ := oe
  obtain ⟨z1, z2, _⟩ := hz
  dsimp only at z1 z2 hv
  subst z1 z2 hv
  have J : ∃ odo, PySem.W.InstAt s.heap a ⟨.ref C, od, .fields vs, osl⟩ C odo := by
    cases od with
    | none => exact ⟨none, hget, rfl, rfl, trivial⟩
    | some p =>
      obtain ⟨fs, hp⟩ := hd p rfl
      obtain ⟨mA, ⟨o, es, ep, ho, _⟩, _⟩ := (show ObjOk X.prog X.w H s.heap p (.xd fs) from I.hok p _ hp)
      exact ⟨some o, hget, rfl, rfl, ho⟩
  obtain ⟨odo, J⟩ := J
  exact PySem.W.kia_one (PySem.W.kitx_exc hcl EC.hg EC.hk EC.hs EC.ha EC.hn EC.ht EC.hm) I.kIn J e (fun z => nomatch z) fun tk => ⟨.bl b, H, I.tok tk, rfl, q⟩
theorem xs_isV {i : Nat} {a : Addr} {oe : Obj} {cls : Value} {d : Option Addr} {e : Exc} {T : Value} {tv : V} {l : List (String × Bool)} {n : Str} {e2 : Expr} {p p1 pos : Pos} (hz : L2N.Zn cls d oe) (hf : ∃ vs, oe.data = .fields vs) (hpn : (a, oe) ∈ X.pn) (hl : KXv X.K X.mg T l) (hT : ∀ u, RelV tv u → u = T) (h2 : PE X e2 (tC tv)) (hzi : X.mg "isinstance" = none) (hN : X.N[i]? = some n) (hv : Vis X.env.scope n)
    (hgi : Gl X "isinstance" := by rfl) (hd1 : (n == ("__debug__" : Str)) = false := by decide) (hd2 : (n == ("__classdict__" : Str)) = false := by decide)
    (he : starEach [.Name n p1, e2] X.env = (false, eval (.Name n p1) X.env) :: starEach [e2] X.env := by rfl) (hs : starEach [e2] X.env = (false, eval e2 X.env) :: starEach [] X.env := by rfl) (hpl : (backTo pos (starEach [e2] X.env)).any (·.1) = false := by rfl) :
    XEd X W (PXw X.K X.mg cls d e) (.Call (.Name "isinstance" p) [.Name n p1, e2] [] pos) (sIsV a e i l) :=
  ⟨fun pins s σ H Q I hq => (pe_callB (call_isXv hT hz hf hpn) hgi hzi boot_isinstance (pa_cons (pe_var hN hv hd1 hd2) (pa_cons h2 pa_nil hs) he) (by decide) (by decide) he hpl).run pins s σ H Q I (by
    obtain ⟨w, ρ, rfl, ok, re, ⟨hx, _⟩, q⟩ := hq
    unfold sIsV at q
    split at q
    · rename_i b eb
      by_cases eba : b = a
      · subst eba
        rw [if_pos rfl] at q
        obtain ⟨v, hσ, rv⟩ := re.at_ i _ eb
        obtain rfl : v = .ref b := rv
        cases ek : l.lookup e.cls with
        | none => simp only [ek] at q; exact q.elim
        | some k =>
          simp only [ek] at q
          obtain ⟨C, hm, EC, ki⟩ := hl _ _ ek
          have hcls : cls = .ref C := by
            rcases hx.1 with ⟨u, h1, h2⟩ | ⟨h1, _⟩
            · rw [h2]; rw [hm] at h1; exact (Option.some.inj h1).symm
            · rw [hm] at h1; cases h1
          refine ⟨.ref b, hσ, C, k, rfl, hcls, EC, ki, fun p' hp' => ?_, q w (Grow.refl w) ok rfl _ rfl⟩
          cases ea : e.arg with
          | none => rw [hx.2.1 ea] at hp'; cases hp'
          | some qq =>
            obtain ⟨nn, y⟩ := qq
            obtain ⟨v, p3, e1, e2, _⟩ := hx.2.2 nn y ea
            rw [hp'] at e1
            cases e1
            exact ⟨_, e2⟩
      · rw [if_neg eba] at q
        exact q.elim
    · exact q.elim)⟩
end
end PL
set_option maxHeartbeats 1000000
/-! PL54: the call of a told def in an except suite (N layer alone). -/
namespace PL
open PySem PySem.Spec PyProof.Rows L2 HotX L2H
theorem hot1_suite {X : Cx} {a : Addr} {oe : Obj} {cls : Value} {d : Option Addr} {pn : List (Addr × Obj)} (hz : L2N.Zn cls d oe) (hf : ∃ vs, oe.data = .fields vs) : Hot1 (X.suite a pn).A (a, oe) := by
  obtain ⟨vs, hd⟩ := hf
  exact ⟨rfl, vs, hd, hz.2.2 vs hd⟩
theorem hot_suite {X : Cx} {a : Addr} {oe : Obj} {cls : Value} {d : Option Addr} {pn : List (Addr × Obj)} (hz : L2N.Zn cls d oe) (hf : ∃ vs, oe.data = .fields vs) : HotC (X.suite a ((a, oe) :: pn)) :=
  ⟨(a, oe), hot1_suite hz hf, List.mem_cons_self⟩
/-- a def that is told, as its callers know it -/
structure OwnP (P : Program) (wo : World) (K : PySem.W.Frag) (mg : Str → Option Value) (base : Heap) (x : Str) (k : Nat) (fd : FuncData) (f : Addr) (ps : List Str) (n : Nat) (F : Addr → Exc → List D → M D) : Prop where
  mgf : mg x = some (.ref f)
  kp : PySem.W.keepIn K (.ref f) = true
  ok : FnP P wo K mg base (L2N.CX P wo) k f fd ps (spP K mg n F)
  bi : Binds K fd ps []
section
variable {X : Cx} {W : WX} {x : Str} {k j : Nat} {f : Addr} {fd : FuncData} {ps : List Str}
/-- f(n), n the exception that is handled, in an except suite -/
theorem xs_callP {i : Nat} {a : Addr} {oe : Obj} {cls : Value} {d : Option Addr} {e : Exc} {n : Str} {p p1 pos : Pos} {F : Addr → Exc → List D → M D} {G : Exc → M D} (O : OwnP X.prog X.w X.K X.mg X.base x k fd f ps 1 F) (hG : ∀ st, F a e [.vv (.ref a)] st = G e st)
    (hr : RoomH k X.A) (hot : Hot1 X.A (a, oe)) (hz : L2N.Zn cls d oe) (hf : ∃ vs, oe.data = .fields vs) (hpn : (a, oe) ∈ X.pn) (tk : L2N.Takes X W) (hN : X.N[i]? = some n) (hv : Vis X.env.scope n)
    (hgl : Gl X x := by rfl) (hd1 : (n == ("__debug__" : Str)) = false := by decide) (hd2 : (n == ("__classdict__" : Str)) = false := by decide) (hdb : (x == ("__debug__" : Str)) = false := by decide)
    (he : starEach [.Name n p1] X.env = (false, eval (.Name n p1) X.env) :: starEach [] X.env := by rfl) (hpl : (backTo pos (starEach [] X.env)).any (·.1) = false := by rfl) :
    XEd X W (PX2 X.K X.mg i a cls d e) (.Call (.Name x p) [.Name n p1] [] pos) (fun _ => G e) :=
  ⟨fun pins s σ H Q I hq => (pe_callP O.ok hr hot hpn hgl O.mgf O.kp O.bi (fun σ => L2N.passAt tk σ) (pa_cons (pe_var hN hv hd1 hd2) pa_nil he) hdb he hpl).run pins s σ H Q I (by
    obtain ⟨w, ρ, rfl, ok, re, hpx, q⟩ := hq
    have hσ := hpx.1.2 (by rw [I.len]; exact (List.getElem?_eq_some_iff.1 hN).1)
    refine ⟨.ref a, hσ, rfl, e, cls, d, w, [.vv (.ref a)], hz, hf, pxw_of hpx, rfl, ok, reps_cons rfl reps_nil, ?_⟩
    show Post _ (Rep X.K) w (F a e [.vv (.ref a)] w.st) Q _
    rw [hG]
    exact post_ctx (C := cx X W) rfl q)⟩
end
end PL
set_option maxHeartbeats 1000000
/-! PL55: list.clear, methods called by keywords, isinstance of a tuple or an instance, a tuple of the module. -/
namespace PL
open PySem PySem.Spec PyProof.Rows L2
def clearD : D → List D → Store → Option (D × Store)
  | .ref n, [], st => match st[n]? with
    | some (some (.lst _)) => some (.non, st.set n (some (.lst [])))
    | _ => none
  | _, _, _ => none
/-! ### methods by keywords -/
def KMK (P : Program) (wo : World) (K : PySem.W.Frag) (mg : Str → Option Value) (base : Heap) (j : Nat) (m : Str) (ks : List Str) (idx : List Nat) (C : String) (F : List D → M D) : Prop :=
  ∃ ca f fd ps n G k, isC K C ca ∧ Cls K ca ∧ Meth K ca m f ∧ F = arity n G ∧ OwnM P wo K mg base k fd f ps n G ∧ KB fd ps ks 1 idx ∧ k ≤ j
def KMKs (P : Program) (wo : World) (K : PySem.W.Frag) (mg : Str → Option Value) (base : Heap) (j : Nat) (m : Str) (ks : List Str) (idx : List Nat) (tb : Tb) : Prop := ∀ C F, tb.lookup C = some F → KMK P wo K mg base j m ks idx C F
section
variable {P : Program} {wo : World} {K : PySem.W.Frag} {mg : Str → Option Value} {base : Heap} {i j k : Nat} {m : Str} {ks : List Str} {idx : List Nat}
theorem kmk_nil : KMKs P wo K mg base j m ks idx [] := fun C F h => by cases h
theorem kmk_cons {C : String} {ca f : Addr} {fd : FuncData} {ps : List Str} {n : Nat} {G : List D → M D} {tb : Tb} (c : isC K C ca) (cl : Cls K ca) (me : Meth K ca m f) (o : OwnM P wo K mg base k fd f ps n G) (kb : KB fd ps ks 1 idx) (t : KMKs P wo K mg base j m ks idx tb) (hk : k ≤ j := by decide) :
    KMKs P wo K mg base j m ks idx ((C, arity n G) :: tb) := fun D F h => by
  rw [List.lookup_cons] at h
  by_cases e : D = C
  · subst e
    rw [beq_self_eq_true] at h
    cases h
    exact ⟨ca, f, fd, ps, n, G, k, c, cl, me, rfl, o, kb, hk⟩
  · rw [beq_eq_false_iff_ne.mpr e] at h
    exact t D F h
theorem KMKs.mono {tb : Tb} (h : KMKs P wo K mg base i m ks idx tb) (hij : i ≤ j) : KMKs P wo K mg base j m ks idx tb := fun C F e => by
  obtain ⟨ca, f, fd, ps, n, G, k, h1, h2, h3, h4, h5, h6, h7⟩ := h C F e
  exact ⟨ca, f, fd, ps, n, G, k, h1, h2, h3, h4, h5, h6, Nat.le_trans h7 hij⟩
end
def sMethK (m : Str) (tb : Tb) (b : Nat) (idx : List Nat) (fo : Env → M D) (h : Env → M (List D)) : Env → M D := fun ρ => bnd (fo ρ) fun o => bnd (fun st => ofO (methD m tb o st) st) fun F => bnd (h ρ) fun es => if es.length = b then F (permL idx (o :: es)) else badM
section
variable {X : Cx} {W : WX} {j : Nat}
theorem mr_clear : MtR X "list.clear" (rMt X.K clearD) := by
  intro pins s σ H x xs v us Q I rx rs h
  obtain ⟨w, d0, ds, d, st, rfl, ok, h0, rd, hf, q⟩ := h
  unfold clearD at hf
  split at hf
  · rename_i n
    split at hf
    · rename_i ys hn
      cases hf
      obtain rfl : xs = [] := rd
      obtain ⟨vs, rfl, h2, h3⟩ := lref ok hn h0
      refine mt_clear pins s σ _ _ _ v us Q I rx rs ⟨_, vs, rfl, rfl, h2, ?_⟩
      have g := Grow.wr (o := .lst []) (ob' := .lst []) ok hn
      exact q _ g (ok.wr hn (obr_wrL ok hn reps_nil)) rfl V.non rfl
    · cases hf
  · cases hf
theorem methK_imp {m : Str} {tb : Tb} {ks : List Str} {idx : List Nat} {b : Nat} {fo : Env → M D} {g : Env → M (List D)} {σ : L2.St} {H : Hp} {Q : VK} (hk : KMKs X.prog X.w X.K X.mg X.base j m ks idx tb) (h : tX (cx X W) (Rep X.K) T0 (sMethK m tb b idx fo g) σ H Q) :
    tX (cx X W) (Rep X.K) T0 fo σ H fun x H1 => ∃ a C dx fs f fd ps n G k, x = .ref a ∧ H1 a = some (.ins C dx fs) ∧ Cls X.K C ∧ Meth X.K C m f ∧ fs.lookup m = none ∧ OwnM X.prog X.w X.K X.mg X.base k fd f ps n G ∧ KB fd ps ks 1 idx ∧ k ≤ j ∧
      tX (cx X W) (Reps X.K) T0 g σ H1 fun vs H2 => vs.length = b ∧ spF X.K X.mg n (arity n G) (permL idx (.ref a :: vs)) H2 Q (WE W σ) := by
  refine (tX.seq0 (R1 := Rep X.K) h).imp fun x H1 ⟨d, h1⟩ => ?_
  obtain ⟨w, ρ, rfl, ok, re, ⟨_, r1⟩, q⟩ := h1
  have q : Post (cx X W) (Rep X.K) w ((ofO (methD m tb d w.st) w.st : Res _).bnd fun F => bnd (g ρ) fun ds => if ds.length = b then F (permL idx (d :: ds)) else badM) Q ((cx X W).we σ) := q
  cases e : methD m tb d w.st with
  | none => rw [e] at q; exact q.elim
  | some F =>
    rw [e] at q
    have q : Post (cx X W) (Rep X.K) w ((fun ρ => bnd (g ρ) fun ds => if ds.length = b then F (permL idx (d :: ds)) else badM) ρ w.st) Q ((cx X W).we σ) := q
    unfold methD at e
    cases ei : insD w.st d with
    | none => rw [ei] at e; cases e
    | some p =>
      obtain ⟨C, fs⟩ := p
      rw [ei] at e
      simp only at e
      by_cases hn : (fs.lookup m).isNone = true
      · rw [if_pos hn] at e
        obtain ⟨ca, f, fd, ps, n, G, k, c, cl, me, rfl, O, kb, hkj⟩ := hk C F e
        have r1' := r1
        obtain ⟨n', dx, us, hd, hst, rfl, h1, h2, h3⟩ := ins_rep ok c ei r1
        refine ⟨_, ca, dx, us, f, fd, ps, n, G, k, rfl, h1, cl, me, (look_same h2 h3).2 (Option.isNone_iff_eq_none.mp hn), O, kb, hkj, ?_⟩
        have h4 : tX (cx X W) (Rep X.K) (fun w' => Rep X.K w' d (.ref (w.bet n'))) (fun ρ => bnd (g ρ) fun ds => if ds.length = b then arity n G (permL idx (d :: ds)) else badM) σ w.H Q := ⟨w, ρ, rfl, ok, re, r1', q⟩
        refine (h4.seq (R1 := Reps X.K) (fun w w' g' r => Rep.grow g' _ _ r)).imp fun vs H2 ⟨ds, h5⟩ => ?_
        obtain ⟨w2, ρ2, rfl, ok2, re2, ⟨r2, r3⟩, q2⟩ := h5
        have q2 : Post (cx X W) (Rep X.K) w2 ((if ds.length = b then arity n G (permL idx (d :: ds)) else badM) w2.st) Q ((cx X W).we σ) := q2
        by_cases hl : ds.length = b
        · rw [if_pos hl] at q2
          exact ⟨r3.length.symm.trans hl, spF_of ok2 (permL_reps (reps_cons r2 r3)) q2⟩
        · rw [if_neg hl] at q2
          exact q2.elim
      · rw [if_neg hn] at e
        cases e
/-- o.m(k = v, ..) -/
theorem de_methK0 {m : Str} {tb : Tb} {ks : List Str} {idx : List Nat} {b : Nat} {pl : Sem Bool} {o : Expr} {kws : List Keyword} {apos pos : Pos} {fo : Env → M D} {h : Env → M (List D)} (hk : KMKs X.prog X.w X.K X.mg X.base j m ks idx tb) (hr : Room j X.A) (hg : X.A.guards = some []) (tk : L2N.Takes X W) (ho : DE X W o fo) (hkw : DK X W kws h) (hb : ks.length = b := by rfl)
    (hall : (backToKw pos (keywordEach kws X.env)).all (·.1.isSome) = true := by rfl) (hks : (backToKw pos (keywordEach kws X.env)).filterMap (·.1) = ks := by rfl)
    (hpl : ((backTo pos (starEach [] X.env)).any (·.1) || (backToKw pos (keywordEach kws X.env)).any (·.1.isNone)) = false := by rfl)
    (ht : eval (.Call (.Attribute o m apos) [] kws pos) X.env = (do
      let ov ← eval o X.env
      standAt apos.atName
      let (f, first) ← holding [ov] (getMethod ov m pl)
      callWith pos f first (backTo pos (starEach [] X.env)) (backToKw pos (keywordEach kws X.env))) := by rfl) : DE X W (.Call (.Attribute o m apos) [] kws pos) (sMethK m tb b idx fo h) := by
  subst hb
  refine ⟨fun pins s σ H Q I h => PySem.W.methodCall_KW (pl := pl) (thn (ho.run pins s σ H _ I (methK_imp hk h)) fun u s1 hh => ?_) ht⟩
  obtain ⟨x, H1, I1, rx, a, C, dx, fs, f, fd, ps, n, G, k, rfl, ea, cl, me, l, O, kb, hkj, q⟩ := hh
  cases (show u = Value.ref a from rx)
  refine getmeth_ok I1 ea cl me l ?_
  refine PySem.W.callWith_KW0 (first := [.ref a]) (h₀ := X.base) I1.ok.mod.kin me.kp hall (thn (hkw.run pos pins s1 σ H1 _ I1 q) fun ws s2 hh => ?_) hpl
  obtain ⟨zs, H2, I2, r, q2, q3⟩ := hh
  rw [hks]
  have vals : Vals (permL idx (V.ref a :: zs)) (permL idx (Value.ref a :: ws)) := permL_vals (.cons rfl r)
  exact ⟨I2.kIn, run_fg (args := ⟨[.ref a], ks.zip ws⟩) O.ok (hr.mono hkj) hg tk (fun _ => kb s2 [.ref a] ws rfl (r.length.symm.trans q2)) I2 vals q3⟩
/-! ### isinstance of a tuple or an instance -/
def isG (l : List (String × Bool)) (o : D) (st : Store) : Option D := match o with
  | .tup _ => some (.bl false)
  | _ => isO l o st
def sIsG (l : List (String × Bool)) (fo : Env → M D) : Env → M D := fun ρ => bnd (fo ρ) fun o st => ofO (isG l o st) st
def KIsG (K : PySem.W.Frag) (mg : Str → Option Value) (T : String) (l : List (String × Bool)) : Prop := ∃ ta, mg (Str.ofString T) = some (.ref ta) ∧ KIss K ta l ∧ PySem.W.kitOne K (.type "tuple") (.ref ta) = some false
theorem call_isG {T : Addr} : CallR X (.builtin "isinstance") (fun xs H Q => ∃ x t b, xs = [x, .ref T] ∧ TyX X.K H x t ∧ PySem.W.kitOne X.K t (.ref T) = some b ∧ Q (.bl b) H) := by
  intro pins s σ H xs us Q I r h
  obtain ⟨x, t, b, rfl, ty, e, q⟩ := h
  obtain ⟨u1, u2, rfl, r1, r2⟩ := vals2 r
  cases (show u2 = Value.ref T from r2)
  obtain ⟨P, Z, p, hx⟩ := kit_of I r1 ty
  exact PySem.W.kia_one Z I.kIn p e hx fun tk => ⟨.bl b, H, I.tok tk, rfl, q⟩
theorem de_isG {T : String} {l : List (String × Bool)} {x : Str} {e : Expr} {fo : Env → M D} {p p2 pos : Pos} (hx : x = Str.ofString T) (hl : KIsG X.K X.mg T l) (hz : X.mg "isinstance" = none) (ho : DE X W e fo) (hgl : Gl X x := by rfl) (hgi : Gl X "isinstance" := by rfl) (hdb : (x == ("__debug__" : Str)) = false := by decide)
    (he : starEach [e, .Name x p2] X.env = (false, eval e X.env) :: starEach [.Name x p2] X.env := by rfl) (hs : starEach [.Name x p2] X.env = (false, eval (.Name x p2) X.env) :: starEach [] X.env := by rfl) (hpl : (backTo pos (starEach [.Name x p2] X.env)).any (·.1) = false := by rfl) :
    DE X W (.Call (.Name "isinstance" p) [e, .Name x p2] [] pos) (sIsG l fo) := by
  subst hx
  obtain ⟨ta, hT, hl, htu⟩ := hl
  refine (pe_callB (call_isG (T := ta)) hgi hz boot_isinstance (pa_cons ho (pa_cons (pe_glob (v := .ref ta) hgl hT rfl hdb) pa_nil hs) he) (by decide) (by decide) he hpl).imp fun σ H Q h => ?_
  refine (tX.seq0 (R1 := Rep X.K) h).imp fun y H1 ⟨d, h1⟩ => ?_
  obtain ⟨w, ρ, rfl, ok, re, ⟨_, r1⟩, q⟩ := h1
  obtain ⟨z, hz, qq⟩ := at_of (K := X.K) (o := isG l d w.st) rfl q
  clear q
  have inst : isO l d w.st = some z → ∃ y', y' = y ∧ ∃ t b, TyX X.K w.H y t ∧ PySem.W.kitOne X.K t (.ref ta) = some b ∧ z = .bl b := by
    intro hz
    unfold isO at hz
    cases ei : insD w.st d with
    | none => rw [ei] at hz; cases hz
    | some pr =>
      obtain ⟨C, fs⟩ := pr
      rw [ei] at hz
      cases eb : l.lookup C with
      | none => simp only [eb] at hz; cases hz
      | some b =>
        simp only [eb] at hz
        cases hz
        obtain ⟨ca, k⟩ := hl C b eb
        obtain ⟨n', dx, us, hd, hst, rfl, h1, h2, h3⟩ := ins_rep ok k.c ei r1
        exact ⟨_, rfl, _, b, .base (.ins h1 k.cl k.ha k.hn k.ht k.hm), k.ki, rfl⟩
  have fin : (∃ y', y' = y ∧ ∃ t b, TyX X.K w.H y t ∧ PySem.W.kitOne X.K t (.ref ta) = some b ∧ z = .bl b) → ∃ x t b, [y, V.ref ta] = [x, .ref ta] ∧ TyX X.K w.H x t ∧ PySem.W.kitOne X.K t (.ref ta) = some b ∧ Q (.bl b) w.H := by
    rintro ⟨_, rfl, t, b, h1, h2, rfl⟩
    exact ⟨_, t, b, rfl, h1, h2, qq.now ok rfl⟩
  have fin2 := fun hh => fin hh
  cases d with
  | tup xs =>
    cases hz
    obtain ⟨k1, _⟩ := ty_rep (d := .tup xs) ok rfl r1
    exact fin ⟨_, rfl, _, false, k1, htu, rfl⟩
  | _ => exact fin (inst hz)
/-! ### a constant tuple of the module -/
def KGt (K : PySem.W.Frag) (mg : Str → Option Value) (x : Str) (d : D) : Prop := ∃ T, mg x = some (.ref T) ∧ ∀ w, Rep K w d (.ref T)
theorem de_gloT {x : Str} {d : D} {pos : Pos} (h : KGt X.K X.mg x d) (hg : Gl X x := by rfl) (hd : (x == ("__debug__" : Str)) = false := by decide) : DE X W (.Name x pos) (sCon d) := by
  obtain ⟨T, hm, hr⟩ := h
  exact de_glo (v := .ref T) hg hm rfl hr hd
end
/-! ### weakest conditions -/
section
variable {X : Exc → Store → Prop} {st : Store} {k : SK} {ρ : Env} {Q : D → Store → Prop}
@[simp] theorem wp_isG (l : List (String × Bool)) (fo : Env → M D) : wp (sIsG l fo ρ st) X Q = wp (fo ρ st) X fun o st1 => wo (isG l o st1) fun d => Q d st1 := by simp only [sIsG, bnd, wp_bnd, wp_ofO]
@[simp] theorem isG_tup (l : List (String × Bool)) (xs : List D) : isG l (.tup xs) st = some (.bl false) := rfl
@[simp] theorem isG_ref (l : List (String × Bool)) (n : Nat) : isG l (.ref n) st = isO l (.ref n) st := rfl
@[simp] theorem wp_methK (m : Str) (tb : Tb) (b : Nat) (idx : List Nat) (fo : Env → M D) (g : Env → M (List D)) : wp (sMethK m tb b idx fo g ρ st) X Q = wp (fo ρ st) X fun o st1 => wo (methD m tb o st1) fun F => wp (g ρ st1) X fun ds st2 => ds.length = b ∧ wp (F (permL idx (o :: ds)) st2) X Q := by
  simp only [sMethK, bnd, wp_bnd, wp_ofO]
  congr; funext o st1; congr; funext F; congr; funext ds st2
  by_cases hl : ds.length = b
  · rw [if_pos hl]; exact propext ⟨fun h => ⟨hl, h⟩, fun h => h.2⟩
  · rw [if_neg hl]; exact propext ⟨fun h => h.elim, fun h => absurd h.1 hl⟩
theorem clear_at {n : Nat} {xs : List D} (h : st[n]? = some (some (.lst xs))) : clearD (.ref n) [] st = some (.non, st.set n (some (.lst []))) := by
  unfold clearD
  simp only [h]
end
end PL
set_option maxHeartbeats 1000000
/-! PL56: the handled exception as a value; defs that are called while an exception is handled. -/
namespace PL
open PySem PySem.Spec PyProof.Rows L2 HotX L2H
/-- the handled exception is held in the heap, its context is None -/
def HotE (A : Around) (H : Hp) : Prop := ∃ (a : Addr) (oe : Obj) (vs : Array Value), A.handled = some (.ref a) ∧ H a = some (.frz oe (exH a oe)) ∧ oe.data = .fields vs ∧ vs[2]? = some .none
abbrev HotF (X : Cx) : Prop := HotE X.A X.H_0
theorem HotE.un {A : Around} {H H' : Hp} {fs ex : List Addr} {h h' : Heap} (c : HotE A H) (u : Un fs ex H H' h h') : HotE A H' := by
  obtain ⟨a, oe, vs, h1, h2, h3, h4⟩ := c
  exact ⟨a, oe, vs, h1, u.frzs _ _ _ h2, h3, h4⟩
theorem HotF.now {X : Cx} {pins : List (Addr × Obj)} {σ : L2.St} {H : Hp} {s : Shared} (c : HotF X) (I : Inv X pins σ H s) : HotE X.A H := HotE.un c I.base
theorem hot_look {X : Cx} {pins : List (Addr × Obj)} {σ : L2.St} {H : Hp} {s : Shared} (c : HotF X) (I : Inv X pins σ H s) : ∃ a, HotAt X.A a s.heap ∧ ∀ b, H b = none → a ≠ b := by
  obtain ⟨a, oe, vs, h1, h2, h3, h4⟩ := c.now I
  obtain ⟨e, _⟩ := I.hok a _ h2
  exact ⟨a, ⟨h1, oe, vs, e, h3, h4⟩, fun b hb z => by rw [z, hb] at h2; cases h2⟩
/-- the same state read in a context that is not calm -/
theorem inv_reA {X : Cx} {A : Around} {xe : Value → Shared → Prop} {pins : List (Addr × Obj)} {σ : L2.St} {H : Hp} {s : Shared} (I : Inv X pins σ H s) (hf : A.frames = X.A.frames) : Inv { X with A := A, calm := false, xe := xe } pins σ H s := by
  obtain ⟨⟨o1, o2, o3, o4, o5, o6, o7, o8, o9, o10, o11, o12, o13, o14, o15, o16, o17, o18⟩, i2, i3, i4, i5, i6, i7, i8, i9, i10, i11⟩ := I
  refine ⟨⟨o1, o2, o3, o4, o5, o6, o7, o8, ?_, ?_, o11, o12, o13, o14, o15, o16, o17, o18⟩, i2, i3, i4, i5, i6, i7, i8, i9, i10, i11⟩
  · exact fun z => nomatch z
  · exact hf.trans o10
/-- the context of a def's body there -/
abbrev XFOf (P : Program) (wo : World) (K : PySem.W.Frag) (mg : Str → Option Value) (base : Heap) (N : List Str) (qual : Str) (sc : Scope) (f : Addr) (cdv : Value) (A : Around) (out : List PySem.Env) (s : Shared) (H : Hp) (E : XK) : Cx :=
  { cxOf (L2N.CX P wo) P wo K mg base N qual sc f cdv A out s H E with A := A.deeper (envOfC qual sc s.heap.objs.size f cdv), calm := false }
structure FGH (P : Program) (wo : World) (K : PySem.W.Frag) (mg : Str → Option Value) (base : Heap) (k : Nat) (f : Addr) (fd : FuncData) (ps : List Str) (sp : Sp) : Prop where
  ln : ∀ vs H Q E, sp vs H Q E → vs.length = ps.length
  go : ∀ (A : Around) (out : List PySem.Env) (s : Shared) (H : Hp) (args : Args) (us : List Value) (vs : List V) (Q : VK) (E : XK),
    RoomH k A → HotE A H → A.guards = some [] → Env0 P wo K mg base A out s H → BindsTo s fd args (ps.zip us) → Vals vs us → sp vs H Q E →
      codeAny (model P wo) A (.call (.ref f) args) (CR (L2N.CX P wo) out P wo H s Q E) s
section
variable {P : Program} {wo : World} {K : PySem.W.Frag} {mg : Str → Option Value} {base : Heap} {k : Nat} {f : Addr} {fd : FuncData} {ps : List Str} {sp : Sp}
theorem fgh_body {x qual : Str} {st : Stmt} {N : List Str} (F : Fun K x qual st f fd) (S : FnScope N ps (defScope st)) (hln : ∀ vs H Q E, sp vs H Q E → vs.length = ps.length)
    (hb : ∀ (cdv : Value) (A : Around) (out : List PySem.Env) (s : Shared) (H : Hp) (vs : List V) (Q : VK) (E : XK), RoomH k (A.deeper (envOfC qual (defScope st) s.heap.objs.size f cdv)) → HotE A H → A.guards = some [] → sp vs H Q E →
      ∃ t, PSs (XFOf P wo K mg base N qual (defScope st) f cdv A out s H E) (defBody st) t ∧ t { nx := fun _ H' => Q .non H', rt := Q } (start N vs) H) :
    FGH P wo K mg base (k + 1) f fd ps sp := by
  obtain ⟨oc, od, kV, doc, pm, an, cdv, ct, osl, efd, lk, hcd⟩ := F.ex
  subst efd
  refine ⟨hln, ?_⟩
  intro A out s H args us vs Q E hr hot hg e0 bind rv hs
  have kin := e0.mod.kin.keeps fun b o e => (e0.bs b o e).1
  have lim := e0.mod.nolimit.keeps fun b o e => (e0.bs b o e).1
  have parK : ∀ y ∈ ps.zip us, (defScope st).names.lookup y.1 = some .local ∨
      ((defScope st).names.lookup y.1 = some .cell ∧ ((cellsFrom (s.heap.objs.size + 1) (defScope st).names []).lookup y.1).isSome = true) := by
    rintro ⟨z, u⟩ hz
    rcases S.par z (List.of_mem_zip hz).1 with h | h
    · exact Or.inl h
    · exact Or.inr ⟨h, PySem.W.cellsFrom_some _ _ _ (Or.inl h)⟩
  refine codeAny_call_function hr.depth (kin _ _ lk) rfl S.co S.gen rfl (PySem.W.codeRec_of kin hcd) (bind _ _ _ _ (wpAny_newFunctionEnv_cells S.kind parK ?_))
  rintro _ rfl s1 inC
  obtain ⟨t, body, reading⟩ := hb cdv A out s H vs Q E (hr.deeper _) hot hg hs
  -- the start in a context that is calm, then as it is
  have e1 : Env0 P wo K mg base { A with handled := none } out s H := ⟨e0.frames, e0.mod, e0.bs, e0.bsz, e0.funs, e0.frf, e0.hok, e0.bare⟩
  have i0 := inv_start (CX := L2N.CX P wo) (mg := mg) (E := E) (f := f) (cd := cdv) (qual := qual) S (show ({ A with handled := none } : Around).handled = none from rfl) e1 (hln _ _ _ _ hs) rv inC
  have i2 := inv_reA (A := A.deeper (envOfC qual (defScope st) s.heap.objs.size f cdv)) (xe := (cxOf (L2N.CX P wo) P wo K mg base N qual (defScope st) f cdv A out s H E).xe) i0 rfl
  have i1 : Inv (XFOf P wo K mg base N qual (defScope st) f cdv A out s H E) [] (start N vs) H s1 := i2
  refine ⟨lim.keeps inC.toInCall.keep, codeAny_func (wpAny_mono (body.run [] s1 _ H _ i1 reading) ?_ fun _ _ h => h)⟩
  intro fl s' h
  cases fl with
  | ret u => obtain ⟨v, _, H', J, r, q⟩ := h; exact ⟨v, H', J.os, J.bare, J.base, J.hok, r, q⟩
  | next => obtain ⟨_, H', J, q⟩ := h; exact ⟨.non, H', J.os, J.bare, J.base, J.hok, rfl, q⟩
  | brk => obtain ⟨_, _, _, q⟩ := h; exact q.elim
  | cont => obtain ⟨_, _, _, q⟩ := h; exact q.elim
/-- THE RULE for a def as a function on data, called while an exception is handled -/
theorem fgh_def {x qual : Str} {st : Stmt} {N : List Str} {body : SM} (n : Nat) (m : Nat) (F : Fun K x qual st f fd) (S : FnScope N ps (defScope st))
    (hb : ∀ (cdv : Value) (A : Around) (out : List PySem.Env) (s : Shared) (H : Hp) (E : XK), RoomH k (A.deeper (envOfC qual (defScope st) s.heap.objs.size f cdv)) → A.guards = some [] → HotF (XFOf P wo K mg base N qual (defScope st) f cdv A out s H E) →
      DSs (XFOf P wo K mg base N qual (defScope st) f cdv A out s H E) (fun c d _ H => E c d H) (defBody st) body) (hn : ps.length = n := by rfl) (hm : N.length = m := by rfl) :
    FGH P wo K mg base (k + 1) f fd ps (spF K mg n (arity n (runDef m body))) := by
  refine fgh_body F S (fun vs H Q E h => by rw [h.1, hn]) fun cdv A out s H vs Q E hr hot hg hsp => ?_
  refine ⟨_, hb cdv A out s H E hr hg hot, ?_⟩
  obtain ⟨hl, w, ds, rfl, ok, r, q⟩ := hsp
  refine ⟨w, ds.map some ++ List.replicate (N.length - ds.length) none, rfl, ok, repE_start r, ?_⟩
  have hd : ds.length = n := r.length.trans hl
  rw [arity_ok hd] at q
  unfold runDef at q
  rw [← hm] at q
  cases e : body (ds.map some ++ List.replicate (N.length - ds.length) none) w.st with
  | bad => rw [e] at q; exact q.elim
  | nx ρ st => rw [e] at q; exact fun w' g ok' es σ' _ => q w' g ok' es V.non rfl
  | rt d st => rw [e] at q; exact q
  | bk ρ st => rw [e] at q; exact q.elim
  | ct ρ st => rw [e] at q; exact q.elim
  | ex x ρ st => rw [e] at q; exact fun w' g ok' es σ' _ => q w' g ok' es
theorem tkF {N : List Str} {qual : Str} {sc : Scope} {f : Addr} {cdv : Value} {A : Around} {out : List PySem.Env} {s : Shared} {H : Hp} {E : XK} : L2N.Takes (XFOf P wo K mg base N qual sc f cdv A out s H E) (fun c d _ H => E c d H) := L2N.takes_of rfl rfl rfl rfl
theorem paF {N : List Str} {qual : Str} {sc : Scope} {f : Addr} {cdv : Value} {A : Around} {out : List PySem.Env} {s : Shared} {H : Hp} {E : XK} : PassesOwn (model (XFOf P wo K mg base N qual sc f cdv A out s H E).prog (XFOf P wo K mg base N qual sc f cdv A out s H E).w) (XFOf P wo K mg base N qual sc f cdv A out s H E).A (XFOf P wo K mg base N qual sc f cdv A out s H E).env (XFOf P wo K mg base N qual sc f cdv A out s H E).xe := passes_of rfl
theorem huH {k : Nat} {A : Around} (hr : RoomH k A) : A.units + 65 < cLine := by have := hr.un; omega
end
/-- a def of the text as its callers there know it -/
structure OwnH (P : Program) (wo : World) (K : PySem.W.Frag) (mg : Str → Option Value) (base : Heap) (x : Str) (k : Nat) (fd : FuncData) (f : Addr) (ps : List Str) (n : Nat) (F : List D → M D) : Prop where
  mgf : mg x = some (.ref f)
  kp : PySem.W.keepIn K (.ref f) = true
  ok : FGH P wo K mg base k f fd ps (spF K mg n (arity n F))
  bi : Binds K fd ps []
section
variable {X : Cx} {W : WX} {x : Str} {k j : Nat} {f : Addr} {fd : FuncData} {ps : List Str} {n : Nat} {F : List D → M D} {sp : Sp}
theorem run_fgh {pins : List (Addr × Obj)} {σ : L2.St} {H : Hp} {s : Shared} {Q : VK} {us : List Value} {vs : List V} (F : FGH X.prog X.w X.K X.mg X.base k f fd ps sp) (hr : RoomH k X.A) (hot : HotF X) (hg : X.A.guards = some []) (tk : L2N.Takes X W) (hb : Binds X.K fd ps [])
    (I : Inv X pins σ H s) (r : Vals vs us) (h : sp vs H Q (WE W σ)) : wpAny (model X.prog X.w) X.A (call (.ref f) us) (EP X pins σ Q) X.xe s := by
  have nl : (us ++ []).length = ps.length := by rw [List.append_nil, ← r.length]; exact F.ln _ _ _ _ h
  have b := hb s us I.kIn nl
  rw [List.append_nil] at b
  have go := F.go X.A X.stack s H ⟨us, []⟩ us vs Q (WE W σ) hr (hot.now I) hg I.env0 b r h
  refine wpAny_call (codeAny_mono go fun rs s' hq => ?_)
  cases rs with
  | error e => exact L2N.passAt tk σ pins H s e s' I hq
  | ok fl =>
    cases fl with
    | ret u => exact I.after hq
    | next => exact hq.elim
    | brk => exact hq.elim
    | cont => exact hq.elim
theorem de_ownH {g : Env → M (List D)} {e : Expr} {es : List Expr} {p pos : Pos} (O : OwnH X.prog X.w X.K X.mg X.base x k fd f ps n F) (hr : RoomH j X.A) (hj : k ≤ j) (hot : HotF X) (hg : X.A.guards = some []) (tk : L2N.Takes X W) (ha : DA X W (e :: es) g) (hgl : Gl X x := by rfl)
    (hdb : (x == ("__debug__" : Str)) = false := by decide) (he : starEach (e :: es) X.env = (false, eval e X.env) :: starEach es X.env := by rfl) (hpl : (backTo pos (starEach es X.env)).any (·.1) = false := by rfl) :
    DE X W (.Call (.Name x p) (e :: es) [] pos) (sCall (arity n F) g) := by
  refine ⟨fun pins s σ H Q I hq => wpAny_Call_Name_kw (ld_glob I hgl O.mgf ?_ hdb)⟩
  have h0 : tX (cx X W) (Reps X.K) T0 g σ H fun vs H1 => spF X.K X.mg n (arity n F) vs H1 Q (WE W σ) := by
    have hq' : tX (cx X W) (Rep X.K) T0 (fun ρ => bnd (g ρ) (arity n F)) σ H Q := hq
    refine (tX.seq0 (R1 := Reps X.K) hq').imp fun y H1 ⟨ds, h1⟩ => ?_
    obtain ⟨w, ρ, rfl, ok, re, ⟨_, r1⟩, q⟩ := h1
    exact spF_of ok r1 q
  refine PySem.W.callWith_K (h₀ := X.base) I.ok.mod.kin O.kp (thn (ha.run pos pins s σ H _ I h0) fun us s1 hh => ?_) he hpl
  obtain ⟨vs, H1, I1, r, q⟩ := hh
  exact ⟨I1.kIn, run_fgh O.ok (hr.mono hj) hot hg tk O.bi I1 r q⟩
end
end PL
set_option maxHeartbeats 1000000
/-! PL57: loops and unpacking while an exception is handled. -/
namespace PL
open PySem PySem.Spec PyProof.Rows L2 HotX L2H
/-- an iterator it that is drawn from while an exception is handled; J: what it yields, tn i: how it stands -/
structure TurnF (P : Program) (w : World) (K : PySem.W.Frag) (tg : Expr) (J : It) (it : Addr) (tn : Nat → Heap → Prop) : Prop where
  ob : ∀ i h, tn i h → ∃ o, h.get? it = some o ∧ ∀ v, o.data ≠ .cell v
  stay : ∀ i h h', tn i h → (∀ o, h.get? it = some o → h'.get? it = some o) → tn i h'
  nx : ∀ (X : Cx), X.prog = P ∧ X.w = w ∧ X.K = K → HotF X → ∀ (i : Nat) (pins : List (Addr × Obj)) (s : Shared) (σ : L2.St) (H : Hp) (E : Value → Shared → Prop), Inv X pins σ H s → FpOk X pins H it → tn i s.heap → J.go i H →
    wpAny (model P w) X.A (pyNext (.ref it)) (fun r s1 => ∃ u, r = some u ∧ wpAny (model P w) X.A (letOwnedTupleGo tg (.ref it) u) (fun _ s2 => ∃ x H', (Inv X pins σ H' s2 ∧ RelV x u) ∧ J.yld i H x H' ∧ tn (i + 1) s2.heap ∧ H' it = none) E s1) E s
  dn : ∀ (X : Cx), X.prog = P ∧ X.w = w ∧ X.K = K → HotF X → ∀ (i : Nat) (pins : List (Addr × Obj)) (s : Shared) (σ : L2.St) (H : Hp) (E : Value → Shared → Prop), Inv X pins σ H s → FpOk X pins H it → tn i s.heap → J.stop i H →
    wpAny (model P w) X.A (pyNext (.ref it)) (fun r s1 => r = none ∧ Inv X pins σ H s1) E s
  me : ∀ (A : Around) (i : Nat) (s : Shared) (Q : Value → Shared → Prop) (E : Value → Shared → Prop), tn i s.heap → Q (.ref it) s → wpAny (model P w) A (pyIter (.ref it)) Q E s
theorem turn_listF {P : Program} {w : World} {K : PySem.W.Frag} {tg : Expr} (a it : Addr) : TurnF P w K tg (Itl K a) it (fun i h => h.IsListIter it a i) where
  ob := fun i h ⟨o, e, c, d⟩ => ⟨o, e, fun v z => by rw [d] at z; cases z⟩
  stay := fun i h h' q k => q.at fun o e => k o e
  nx := by
    rintro X ⟨rfl, rfl, rfl⟩ hot i pins s σ H E I ⟨f0, f1, f2, f3, f4, f5⟩ q ⟨xs, x, hq, hx⟩
    obtain ⟨its, rv, p, hz⟩ := I.list hq
    obtain ⟨u, hu, ru⟩ := rv.get hx
    refine wpAny_pyNext_list_item q p.isList (x := u) (by simpa using hu) fun h' q' sb => ?_
    have J : Inv X pins σ H { s with heap := h' } := I.turned (t' := s.toks) (fun b o hb e => (sb.2 b hb).trans e) f0 f1 f3 f4 f5
    obtain ⟨o, e, c, d⟩ := id q'
    exact ⟨u, rfl, go_of (s := { s with heap := h' }) e c d (by decide) ⟨x, H, ⟨J, ru⟩, ⟨rfl, fun ys hy => by rw [I.list_inj hy hq]; exact hx⟩, q', f0⟩⟩
  dn := by
    rintro X ⟨rfl, rfl, rfl⟩ hot i pins s σ H E I ⟨f0, f1, f2, f3, f4, f5⟩ q ⟨xs, hq, hx⟩
    obtain ⟨its, rv, p, hz⟩ := I.list hq
    obtain ⟨x1, ha, hne⟩ := hot_look hot I
    have hl := rv.length
    exact list_end_hot ha (hne it f0) q p.isList (by simp; omega) fun h' eb => ⟨rfl, I.turned (t' := s.toks) eb f0 f1 f3 f4 f5⟩
  me := fun _ _ _ _ _ q h => wpAny_pyIter_listiter q h
theorem turn_rangeF {P : Program} {w : World} {K : PySem.W.Frag} {tg : Expr} (it : Addr) (lo : Int) (n : Nat) : TurnF P w K tg (Itr lo n) it (fun i h => IsRangeIter h it (lo + (i : Nat) * 1) ((n : Int) - (i : Nat)) 1) where
  ob := fun i h q => ⟨_, q, fun v z => by
    have z : Data.fields _ = Data.cell v := z
    cases z⟩
  stay := fun i h h' q k => k _ q
  nx := by
    rintro X ⟨rfl, rfl, rfl⟩ hot i pins s σ H E I ⟨f0, f1, f2, f3, f4, f5⟩ q hlt
    have hlt : i < n := hlt
    refine wpAny_pyNext_range_item q (by omega) fun h' q' sb => ?_
    have q2 : IsRangeIter h' it (lo + ((i + 1 : Nat) : Int) * 1) ((n : Int) - ((i + 1 : Nat) : Int)) 1 := by
      have a1 : lo + ((i : Nat) : Int) * 1 + 1 = lo + ((i + 1 : Nat) : Int) * 1 := by omega
      have a2 : (n : Int) - ((i : Nat) : Int) - 1 = (n : Int) - ((i + 1 : Nat) : Int) := by omega
      rw [← a1, ← a2]
      exact q'
    have J : Inv X pins σ H { s with heap := h', toks := s.toks + 1 } := I.turned (fun b o hb e => (sb.2 b hb).trans e) f0 f1 f3 f4 f5
    refine ⟨_, rfl, go_of (s := { s with heap := h', toks := s.toks + 1 }) (n := "range_iterator") q2 rfl rfl (by decide) ⟨.int (lo + i), H, ⟨J, s.toks, ?_⟩, ⟨rfl, rfl⟩, q2, f0⟩⟩
    rw [Int.mul_one]
  dn := by
    rintro X ⟨rfl, rfl, rfl⟩ hot i pins s σ H E I ⟨f0, f1, f2, f3, f4, f5⟩ q hle
    obtain ⟨x1, ha, hne⟩ := hot_look hot I
    exact pyNext_range_end_hot ha q (by have : n ≤ i := hle; omega) fun h' eb => ⟨rfl, I.turned (t' := s.toks) (fun b o _ e => eb b o e) f0 f1 f3 f4 f5⟩
  me := fun _ _ _ _ _ q h => wpAny_pyIter_rangeiter q h
/-- an iterator has come -/
def ArrF (X : Cx) (pins : List (Addr × Obj)) (σ : L2.St) (tg : Expr) (R : It → Hp → Prop) (v : Value) (s : Shared) : Prop :=
  ∃ (it : Addr) (tn : Nat → Heap → Prop) (J : It) (H : Hp), v = .ref it ∧ Inv X pins σ H s ∧ TurnF X.prog X.w X.K tg J it tn ∧ tn 0 s.heap ∧ FpOk X pins H it ∧ R J H
structure PIF (X : Cx) (tg iter : Expr) (wi : TI) : Prop where
  go : ∀ (pins : List (Addr × Obj)) (s : Shared) (σ : L2.St) (H : Hp) (R : It → Hp → Prop), Inv X pins σ H s → wi σ H R →
    wpAny (model X.prog X.w) X.A (eval iter X.env) (fun v s1 => wpAny (model X.prog X.w) X.A (pyIter v) (ArrF X pins σ tg R) X.xe s1) X.xe s
theorem pif_imp {X : Cx} {tg iter : Expr} {wi wi' : TI} (h : PIF X tg iter wi) (k : ∀ σ H R, wi' σ H R → wi σ H R) : PIF X tg iter wi' := ⟨fun pins s σ H R I q => h.go pins s σ H R I (k σ H R q)⟩
theorem pi_listF {X : Cx} {tg l : Expr} {tl : TE} (hl : PE X l tl) : PIF X tg l (iList X.K tl) := by
  constructor
  intro pins s σ H R I h
  refine thn (hl.run pins s σ H _ I h) ?_
  rintro v s1 ⟨x, H1, I1, r1, a, rfl, ⟨xs, hq⟩, q⟩
  cases r1
  obtain ⟨its, rv, p, hz⟩ := I1.list hq
  refine wpAny_pyIter_list p.isList ?_
  refine ⟨s1.heap.objs.size, _, _, H1, rfl, ?_, turn_listF a _, ⟨_, Heap.get?_push_size _ rfl, rfl, rfl⟩, I1.fpOk (Nat.le_refl _) (I1.hok.fresh (Nat.le_refl _)), q⟩
  exact I1.kept (t' := s1.toks) fun b o e => Heap.get?_push_of_some _ e
theorem range_arrF {X : Cx} {tg : Expr} {pins : List (Addr × Obj)} {σ : L2.St} {H : Hp} {s : Shared} {R : It → Hp → Prop} {E : Value → Shared → Prop} {lo hi : Int} {t u v : Tok} {tk : Nat} (I : Inv X pins σ H s) (hb : (-(2 ^ 62) ≤ lo ∧ lo < 2 ^ 62) ∧ -(2 ^ 62) ≤ hi ∧ hi < 2 ^ 62) (q : R (Itr lo (hi - lo).toNat) H) :
    wpAny (model X.prog X.w) X.A (pyIter (.ref s.heap.objs.size)) (ArrF X pins σ tg R) E { s with heap := s.heap.push { cls := .type "range", data := .fields #[.int lo t, .int hi u, .int 1 v] }, toks := tk } := by
  obtain ⟨⟨h1, h2⟩, h3, h4⟩ := hb
  refine wpAny_pyIter_range (IsRange.new ..) (small_one h1 h2 h3 h4) ?_
  generalize hp : s.heap.push { cls := .type "range", data := .fields #[.int lo t, .int hi u, .int 1 v] } = hh
  have I1 : Inv X pins σ H { s with heap := hh, toks := tk } := I.kept fun b o e => by rw [← hp]; exact Heap.get?_push_of_some _ e
  refine ⟨hh.objs.size, _, _, H, rfl, I1.kept (t' := tk) fun b o e => Heap.get?_push_of_some _ e, turn_rangeF _ lo (hi - lo).toNat, ?_, I1.fpOk (Nat.le_refl _) (I1.hok.fresh (Nat.le_refl _)), q⟩
  have a1 : lo + ((0 : Nat) : Int) * 1 = lo := by simp
  have a2 : (((hi - lo).toNat : Nat) : Int) - ((0 : Nat) : Int) = Builtin.Range.rangeSize lo hi 1 := by rw [rangeSize_one]; split <;> omega
  show IsRangeIter _ _ (lo + ((0 : Nat) : Int) * 1) ((((hi - lo).toNat : Nat) : Int) - ((0 : Nat) : Int)) 1
  rw [a1, a2]
  exact Heap.get?_push_size _ rfl
theorem pi_rangeF {X : Cx} {tg a : Expr} {ta : TA} {p pos : Pos} (hg : Gl X "range") (hm : X.mg "range" = none) (ha : PA X [a] ta) (hs : starEach [a] X.env = [(false, eval a X.env)] := by rfl) : PIF X tg (.Call (.Name "range" p) [a] [] pos) (iRng1 ta) := by
  constructor
  intro pins s σ H R I h
  refine Call_ (ld_blt I hg hm boot_range (PyProof.Rows.callWith_type1 (thn (ha.run pos pins s σ H _ I h) ?_) hs rfl))
  rintro us s1 ⟨vs, H1, I1, r1, j, rfl, q1, q2, q⟩
  cases r1 with
  | cons r rr =>
    cases rr
    obtain ⟨t, rfl⟩ := r
    exact call_range_1 (range_arrF I1 ⟨⟨by omega, by omega⟩, q1, q2⟩ (by simpa using q))
section
variable {X : Cx} {tg : Expr}
/-- for .. in .. -/
theorem ps_forF {iter : Expr} {body : List Stmt} {wi : TI} {g : TG} {tb : TS} {pos : Pos} (hp : PassesOwn (model X.prog X.w) X.A X.env X.xe) (hot : HotF X) (hi : PIF X tg iter wi) (hg : PG X tg g) (hb : PSs X body tb)
    (hs : ∀ x, foldedSetIterable iter X.env x = pure x := by intro _; rfl) : PS X (.For tg iter body [] pos) (tFor wi g tb) := by
  constructor
  intro pins s σ H D I h
  refine wpAny_For (thn (hi.go pins s σ H _ I h) fun v s1 h1 => thn h1 ?_) hs
  rintro _ s2 ⟨it, tn, J, H2, rfl, I2, T, st2, f2, W, ⟨m0, w0⟩, turn⟩
  have there : ∀ {H' : Hp}, H' it = none → FpOk X pins H' it := fun {H'} z => ⟨z, f2.2⟩
  refine codeAny_forLoop_any (fun n s' => ∃ i σ' H', (Inv X pins σ' H' s' ∧ H' it = none) ∧ tn i s'.heap ∧ W i n σ' H') ?_ m0 ⟨0, σ, H2, ⟨I2, f2.1⟩, st2, w0⟩
  rintro n s3 ⟨i, σ3, H3, ⟨I3, z3⟩, st3, w3⟩
  rcases turn i n σ3 H3 w3 with ⟨stop, qn⟩ | ⟨go, N, hN, step⟩
  · refine wpAny_passesOwn hp (thn (T.dn X ⟨rfl, rfl, rfl⟩ hot i pins s3 σ3 H3 X.xe I3 (there z3) st3 stop) ?_)
    rintro _ s4 ⟨rfl, I4⟩
    exact wpAny_execs_nil ⟨σ3, H3, I4, qn⟩
  · refine wpAny_passesOwn hp (thn (T.nx X ⟨rfl, rfl, rfl⟩ hot i pins s3 σ3 H3 X.xe I3 (there z3) st3 go) ?_)
    rintro _ s4 ⟨u, rfl, h4⟩
    refine wpAny_passesOwn hp (thn h4 ?_)
    rintro _ s5 ⟨x, H5, ⟨I5, r5⟩, y5, st5, z5⟩
    have ob5 : ∀ b ∈ [it], ∃ o, s5.heap.get? b = some o ∧ ∀ v, o.data ≠ .cell v := fun b hb => by
      rw [List.mem_singleton.1 hb]
      exact T.ob _ _ st5
    have I6 := I5.pinned (fp := [it]) (fun b hb => by rw [List.mem_singleton.1 hb]; exact there z5) ob5
    -- behind a turn
    have again : ∀ {σ' : L2.St} {H' : Hp} {s' : Shared}, Inv X (pins ++ pinsAt [it] s5.heap) σ' H' s' → N σ' H' → ∃ m, m < n ∧ ∃ i σ'' H'', (Inv X pins σ'' H'' s' ∧ H'' it = none) ∧ tn i s'.heap ∧ W i m σ'' H'' := fun {σ' H' s'} I' n' => by
      obtain ⟨m', hm, w'⟩ := hN σ' H' n'
      have pinned : ∀ o, s5.heap.get? it = some o → s'.heap.get? it = some o ∧ H' it = none := fun o e =>
        have z := I'.pin (it, o) (List.mem_append_right _ (List.mem_append_right _ (mem_pinsAt List.mem_cons_self e)))
        ⟨z.1, z.2.1⟩
      obtain ⟨o, e, _⟩ := T.ob _ _ st5
      exact ⟨m', hm, i + 1, σ', H', ⟨I'.unpinned, (pinned o e).2⟩, T.stay _ _ _ st5 fun o e => (pinned o e).1, w'⟩
    refine wpAny_passesOwn hp (thn (hg.run _ s5 σ3 H5 x u _ I6 r5 (step x H5 y5)) ?_)
    rintro _ s7 ⟨σ7, H7, I7, q7⟩
    refine wpAny_passesOwn hp (thn (hb.run _ s7 σ7 H7 _ I7 q7) ?_)
    intro f s8 q8
    cases f with
    | ret v => obtain ⟨y, σ8, H8, I8, r8, q⟩ := q8; exact ⟨y, σ8, H8, I8.unpinned, r8, q⟩
    | brk => obtain ⟨σ8, H8, I8, q⟩ := q8; exact ⟨σ8, H8, I8.unpinned, q⟩
    | next => obtain ⟨σ8, H8, I8, q⟩ := q8; exact again I8 q
    | cont => obtain ⟨σ8, H8, I8, q⟩ := q8; exact again I8 q
theorem pg_tupF {es : List Expr} {k : Nat} {t : TGs} {n : Nat} {pos : Pos} (hot : HotF X) (h : PGs X es t)
    (hn : (assignEach es X.env).length = n := by rfl) (hst : (assignEach es X.env).findIdx? (·.1) = none := by rfl) : PG X (.Tuple es k pos) (gTup X.K n t) := by
  constructor
  rintro pins s σ H v u Q I r ⟨a, xs, rfl, hq, hl, hw⟩
  cases r
  obtain ⟨its, rv, ht, hz⟩ := I.tuple hq
  obtain ⟨x1, ha, _⟩ := hot_look hot I
  refine assign_hot ha ht (by simp [hn, ← hl, rv.length]) hst fun h' hx => ?_
  exact h.run pins _ σ H xs _ Q (I.kept (t' := s.toks) hx) (by simpa using rv) hw
end
section
variable {X : Cx} {W : WX}
abbrev DIF (X : Cx) (W : WX) (tg iter : Expr) (f : Env → M (List D)) : Prop := PIF X tg iter (tIx (cx X W) f)
theorem di_listF {tg e : Expr} {f : Env → M D} (he : DE X W e f) : DIF X W tg e (sWalkL f) := by
  refine pif_imp (pi_listF he) fun σ H R q => ?_
  refine (tIx.seq (R1 := Rep X.K) q).imp fun x H1 ⟨a, w, items, e1, ok, r, hk, q⟩ => ?_
  subst e1
  cases a with
  | lst xs =>
    cases hk
    obtain ⟨b, vs, eb, h1, h2, h3⟩ := id r
    subst eb
    exact ⟨b, rfl, ⟨vs, SqL.of h1⟩, q w (Grow.refl w) ok rfl _ (itok_list r)⟩
  | _ => cases hk
theorem di_rng1F {tg e : Expr} {p pos : Pos} {f : Env → M (List D)} (hm : X.mg "range" = none) (ha : DA X W [e] f) (hg : Gl X "range" := by rfl) (hs : starEach [e] X.env = [(false, eval e X.env)] := by rfl) :
    DIF X W tg (.Call (.Name "range" p) [e] [] pos) (sRng1 f) := by
  refine pif_imp (pi_rangeF hg hm ha hs) fun σ H R q => ?_
  refine (tIx.seq (R1 := Reps X.K) q).imp fun x H1 ⟨a, w, items, e1, ok, r, hk, q⟩ => ?_
  subst e1
  unfold rng1 at hk
  split at hk
  · split at hk
    · rename_i j hz
      cases hk
      obtain ⟨v, rfl, h1⟩ := reps1 r
      have h1 : v = V.int j := h1
      subst h1
      exact ⟨j, rfl, hz.1, hz.2, q w (Grow.refl w) ok rfl _ (itok_rng 0 _)⟩
    · cases hk
  · cases hk
theorem ds_forF {tg iter : Expr} {bd : List Stmt} {sl : List Nat} {g : D → Env → Option Env} {it : Env → M (List D)} {body : SM} {pos : Pos} (hp : PassesOwn (model X.prog X.w) X.A X.env X.xe) (hot : HotF X) (hi : DIF X W tg iter it) (hg : DG X tg sl g) (hb : DSs X W bd body)
    (hs : ∀ x, foldedSetIterable iter X.env x = pure x := by intro _; rfl) : DS X W (.For tg iter bd [] pos) (sFor g it body) :=
  PS.imp (ps_forF hp hot hi hg hb hs) fun D σ H h => for_imp h
theorem dg_tupF {es : List Expr} {k n : Nat} {sl : List Nat} {g : List D → Env → Option Env} {pos : Pos} (hot : HotF X) (h : DGs X es sl g) (hn : (assignEach es X.env).length = n := by rfl) (hst : (assignEach es X.env).findIdx? (·.1) = none := by rfl) :
    DG X (.Tuple es k pos) sl (gTu n g) := by
  refine pg_imp (pg_tupF hot h hn hst) fun v σ H Q q => ?_
  obtain ⟨w, ρ, d, ρ', rfl, ok, re, r, e1, q⟩ := q
  cases d with
  | tup xs =>
    have e1 : (if xs.length = n then g xs ρ else none) = some ρ' := e1
    by_cases hl : xs.length = n
    · rw [if_pos hl] at e1
      obtain ⟨a, vs, e2, h1, h2⟩ := r
      exact ⟨a, vs, e2, h1, by rw [← h2.length]; exact hl, w, ρ, xs, ρ', rfl, ok, re, h2, e1, q⟩
    · rw [if_neg hl] at e1
      cases e1
  | _ => cases e1
end
end PL
set_option maxHeartbeats 1000000
/-! PL58: exceptions as values: isinstance, fields. -/
namespace PL
open PySem PySem.Spec PyProof.Rows L2 HotX L2H
/-- what the classes say for isinstance with T -/
def KN (K : PySem.W.Frag) (T : Value) (l : List (String × Bool)) : Prop := ∀ nm b, l.lookup nm = some b → ∃ C, isC K nm C ∧ ExcC K C ∧ PySem.W.kitOne K (.ref C) T = some b
theorem kn_nil {K : PySem.W.Frag} {T : Value} : KN K T [] := fun C b h => by cases h
theorem kn_cons {K : PySem.W.Frag} {T : Value} {C : Addr} {x : String} {b : Bool} {l : List (String × Bool)} (h1 : isC K x C) (h2 : ExcC K C) (h3 : PySem.W.kitOne K (.ref C) T = some b) (t : KN K T l) : KN K T ((x, b) :: l) := fun D c hc => by
  rw [List.lookup_cons] at hc
  by_cases e : D = x
  · subst e
    rw [beq_self_eq_true] at hc
    cases hc
    exact ⟨C, h1, h2, h3⟩
  · rw [beq_eq_false_iff_ne.mpr e] at hc
    exact t D c hc
/-- the class T by its name: of the module, or built in -/
def KNE (K : PySem.W.Frag) (mg : Str → Option Value) (T : String) (l : List (String × Bool)) : Prop := ∃ u : Addr, mg (Str.ofString T) = some (.ref u) ∧ KN K (.ref u) l
def KNB (K : PySem.W.Frag) (T : String) (l : List (String × Bool)) : Prop := KN K (.type T) l
def isE (l : List (String × Bool)) : D → Option D
  | .exn C _ _ => (l.lookup C).map D.bl
  | _ => none
def sIsE (l : List (String × Bool)) (fo : Env → M D) : Env → M D := fun ρ => bnd (fo ρ) fun o => ofO (isE l o)
section
variable {X : Cx} {W : WX}
/-- how such a value stands in the state -/
theorem exn_at {pins : List (Addr × Obj)} {σ : L2.St} {s : Shared} {w : Wd} {C n : String} {x : D} {v : V} {u : Value} {ca : Addr} (I : Inv X pins σ w.H s) (r : Rep X.K w (.exn C n x) v) (hc : isC X.K C ca) (rv : RelV v u) :
    ∃ (a : Addr) (oe : Obj) (odo : Option Obj), u = .ref a ∧ v = .ref a ∧ PySem.W.InstAt s.heap a oe ca odo := by
  obtain ⟨a, cb, oe, rfl, h1, h2, h3, ⟨vs, h4⟩, h5⟩ := r
  have hcb : cb = ca := by
    have z : PySem.W.nsIn X.K mainGlobals (Str.ofString C) = some (some (.ref ca)) := hc
    rw [h1] at z
    cases z
    rfl
  subst hcb
  cases rv
  obtain ⟨hget, _⟩ := I.hok a _ h2
  rcases h5 with ⟨_, h5⟩ | ⟨p, y, h5, h6, h7, h8⟩
  · exact ⟨a, oe, none, rfl, rfl, hget, h3, by unfold PySem.W.notCls; rw [h4] <;> rfl, by rw [h5]; trivial⟩
  · obtain ⟨mA, ⟨o, es, ep, ho, _⟩, _⟩ := (show ObjOk X.prog X.w w.H s.heap p (.xd _) from I.hok p _ h6)
    exact ⟨a, oe, some o, rfl, rfl, hget, h3, by unfold PySem.W.notCls; rw [h4] <;> rfl, by rw [h5]; exact ho⟩
theorem kitx_of {a C : Addr} {oe : Obj} {odo : Option Obj} (EC : ExcC X.K C) : PySem.W.KitX X.K (.ref a) (.ref C) (fun h => PySem.W.InstAt h a oe C odo) :=
  PySem.W.kitx_exc (by
    obtain ⟨cd, hc, _⟩ := PySem.W.any_some EC.hd
    rw [hc]; rfl) EC.hg EC.hk EC.hs EC.ha EC.hn EC.ht EC.hm
theorem call_isEv {T : Value} {tv : V} {l : List (String × Bool)} (hT : ∀ u, RelV tv u → u = T) (hl : KN X.K T l) : CallR X (.builtin "isinstance") (fun xs H Q => ∃ x w d b, xs = [x, tv] ∧ w.H = H ∧ Rep X.K w d x ∧ isE l d = some (.bl b) ∧ Q (.bl b) H) := by
  intro pins s σ H xs us Q I r h
  obtain ⟨x, w, d, b, rfl, rfl, rd, e, q⟩ := h
  obtain ⟨u1, u2, rfl, r1, r2⟩ := vals2 r
  cases hT u2 r2
  cases d with
  | exn C n y =>
    have e : (l.lookup C).map D.bl = some (.bl b) := e
    cases ek : l.lookup C with
    | none => rw [ek] at e; cases e
    | some k =>
      rw [ek] at e
      cases e
      obtain ⟨ca, hc, EC, ki⟩ := hl C b ek
      obtain ⟨a, oe, odo, rfl, rfl, J⟩ := exn_at I rd hc r1
      exact PySem.W.kia_one (kitx_of EC) I.kIn J ki (fun z => nomatch z) fun tk => ⟨.bl b, w.H, I.tok tk, rfl, q⟩
  | _ => cases e
theorem isE_bl {l : List (String × Bool)} {d z : D} (h : isE l d = some z) : ∃ b, z = .bl b := by
  cases d with
  | exn C n y =>
    have h : (l.lookup C).map D.bl = some z := h
    cases ek : l.lookup C with
    | none => rw [ek] at h; cases h
    | some k => rw [ek] at h; cases h; exact ⟨_, rfl⟩
  | _ => cases h
theorem isE_imp {l : List (String × Bool)} {fo : Env → M D} {tv : V} {σ : L2.St} {H : Hp} {Q : VK} (h : tX (cx X W) (Rep X.K) T0 (sIsE l fo) σ H Q) :
    tX (cx X W) (Rep X.K) T0 fo σ H fun y H1 => ∃ x w d b, [y, tv] = [x, tv] ∧ w.H = H1 ∧ Rep X.K w d x ∧ isE l d = some (.bl b) ∧ Q (.bl b) H1 := by
  refine (tX.seq0 (R1 := Rep X.K) h).imp fun y H1 ⟨d, h1⟩ => ?_
  obtain ⟨w, ρ, rfl, ok, re, ⟨_, r1⟩, q⟩ := h1
  obtain ⟨z, hz, qq⟩ := at_of (K := X.K) (o := isE l d) rfl q
  obtain ⟨b, rfl⟩ := isE_bl hz
  exact ⟨y, w, d, b, rfl, rfl, r1, hz, qq.now ok rfl⟩
/-- isinstance(e, T), T a class of the module -/
theorem de_isE {T : String} {l : List (String × Bool)} {x : Str} {e : Expr} {fo : Env → M D} {p p2 pos : Pos} (hx : x = Str.ofString T) (hl : KNE X.K X.mg T l) (hz : X.mg "isinstance" = none) (ho : DE X W e fo) (hgl : Gl X x := by rfl) (hgi : Gl X "isinstance" := by rfl) (hdb : (x == ("__debug__" : Str)) = false := by decide)
    (he : starEach [e, .Name x p2] X.env = (false, eval e X.env) :: starEach [.Name x p2] X.env := by rfl) (hs : starEach [.Name x p2] X.env = (false, eval (.Name x p2) X.env) :: starEach [] X.env := by rfl) (hpl : (backTo pos (starEach [.Name x p2] X.env)).any (·.1) = false := by rfl) :
    DE X W (.Call (.Name "isinstance" p) [e, .Name x p2] [] pos) (sIsE l fo) := by
  subst hx
  obtain ⟨ta, hT, hl⟩ := hl
  exact (pe_callB (call_isEv (tv := .ref ta) (fun _ r => r) hl) hgi hz boot_isinstance (pa_cons ho (pa_cons (pe_glob (v := .ref ta) hgl hT rfl hdb) pa_nil hs) he) (by decide) (by decide) he hpl).imp fun σ H Q h => isE_imp h
/-- isinstance(e, T), T built in -/
theorem de_isEB {T : String} {l : List (String × Bool)} {x : Str} {e : Expr} {fo : Env → M D} {p p2 pos : Pos} (hm : X.mg x = none) (hv : bootBuiltins x = some (.type T)) (hl : KNB X.K T l) (hz : X.mg "isinstance" = none) (ho : DE X W e fo) (hn : x ≠ "__name__" := by decide) (hgl : Gl X x := by rfl) (hgi : Gl X "isinstance" := by rfl) (hdb : (x == ("__debug__" : Str)) = false := by decide)
    (he : starEach [e, .Name x p2] X.env = (false, eval e X.env) :: starEach [.Name x p2] X.env := by rfl) (hs : starEach [.Name x p2] X.env = (false, eval (.Name x p2) X.env) :: starEach [] X.env := by rfl) (hpl : (backTo pos (starEach [.Name x p2] X.env)).any (·.1) = false := by rfl) :
    DE X W (.Call (.Name "isinstance" p) [e, .Name x p2] [] pos) (sIsE l fo) :=
  (pe_callB (call_isEv (tv := .ty T) (fun _ r => r) hl) hgi hz boot_isinstance (pa_cons ho (pa_cons (pe_bltn (v := .ty T) hgl hm hv rfl hn hdb) pa_nil hs) he) (by decide) (by decide) he hpl).imp fun σ H Q h => isE_imp h
/-! ### a tuple of classes -/
def isET : List (List (String × Bool)) → String → Option Bool
  | [], _ => some false
  | l :: ls, C => match l.lookup C with
    | some true => some true
    | some false => isET ls C
    | none => none
def isETd (ls : List (List (String × Bool))) : D → Option D
  | .exn C _ _ => (isET ls C).map D.bl
  | _ => none
def sIsET (ls : List (List (String × Bool))) (fo : Env → M D) : Env → M D := fun ρ => bnd (fo ρ) fun o => ofO (isETd ls o)
/-- the classes of the tuple -/
inductive Kns (K : PySem.W.Frag) (mg : Str → Option Value) : List String → List Addr → List (List (String × Bool)) → Prop
  | nil : Kns K mg [] [] []
  | cons {T : String} {u : Addr} {l : List (String × Bool)} {Ts : List String} {us : List Addr} {ls : List (List (String × Bool))} (h : mg (Str.ofString T) = some (.ref u)) (k : KN K (.ref u) l) (t : Kns K mg Ts us ls) : Kns K mg (T :: Ts) (u :: us) (l :: ls)
def KNT (K : PySem.W.Frag) (mg : Str → Option Value) (Ts : List String) (ls : List (List (String × Bool))) : Prop := ∃ us, Kns K mg Ts us ls
theorem knt_nil {K : PySem.W.Frag} {mg : Str → Option Value} : KNT K mg [] [] := ⟨[], .nil⟩
theorem knt_cons {K : PySem.W.Frag} {mg : Str → Option Value} {T : String} {l : List (String × Bool)} {Ts : List String} {ls : List (List (String × Bool))} (h : KNE K mg T l) (t : KNT K mg Ts ls) : KNT K mg (T :: Ts) (l :: ls) := by
  obtain ⟨u, h1, h2⟩ := h
  obtain ⟨us, t⟩ := t
  exact ⟨u :: us, .cons h1 h2 t⟩
theorem kns_any {K : PySem.W.Frag} {mg : Str → Option Value} {Ts : List String} {us : List Addr} {ls : List (List (String × Bool))} (h : Kns K mg Ts us ls) {C : String} {ca : Addr} (hc : isC K C ca) : ∀ {b : Bool}, isET ls C = some b → PySem.W.kitAny K (.ref ca) (us.map Value.ref) = some b ∧ (us ≠ [] → ExcC K ca) := by
  induction h with
  | nil => intro b e; cases e; exact ⟨rfl, fun z => absurd rfl z⟩
  | @cons T u l Ts us ls h k t ih =>
    intro b e
    unfold isET at e
    cases ek : l.lookup C with
    | none => rw [ek] at e; cases e
    | some k' =>
      rw [ek] at e
      obtain ⟨cb, hcb, EC, ki⟩ := k C k' ek
      have ecb : cb = ca := by
        have z : PySem.W.nsIn K mainGlobals (Str.ofString C) = some (some (.ref ca)) := hc
        rw [show PySem.W.nsIn K mainGlobals (Str.ofString C) = some (some (.ref cb)) from hcb] at z
        cases z
        rfl
      subst ecb
      refine ⟨?_, fun _ => EC⟩
      show PySem.W.kitAny K (.ref cb) (.ref u :: us.map Value.ref) = some b
      unfold PySem.W.kitAny
      rw [ki]
      cases k' with
      | true => cases e; rfl
      | false => exact (ih e).1
theorem clsv_all : ∀ us : List Addr, Paired ClsV (us.map V.ref) (us.map Value.ref)
  | [] => .nil
  | u :: us => .cons (.own u) (clsv_all us)
/-- the names of a tuple's classes are read -/
inductive NmT (X : Cx) : List Expr → List String → Prop
  | nil : NmT X [] []
  | cons {T : String} {x : Str} {p : Pos} {es : List Expr} {Ts : List String} (hx : x = Str.ofString T) (hg : Gl X x) (hd : (x == ("__debug__" : Str)) = false) (hs : starEach (.Name x p :: es) X.env = (false, eval (.Name x p) X.env) :: starEach es X.env) (t : NmT X es Ts) : NmT X (.Name x p :: es) (T :: Ts)
theorem pa_names {es : List Expr} {Ts : List String} {us : List Addr} {ls : List (List (String × Bool))} (h : NmT X es Ts) (k : Kns X.K X.mg Ts us ls) : PA X es (fun _ H Q => Q (us.map V.ref) H) := by
  induction h generalizing us ls with
  | nil =>
    cases k
    exact PA.imp pa_nil fun σ H Q q => q
  | @cons T x p es Ts hx hg hd hs t ih =>
    subst hx
    cases k with
    | @cons _ u _ _ us' _ h1 h2 h3 =>
      exact PA.imp (pa_cons (pe_glob (v := .ref u) hg h1 rfl hd) (ih h3) hs) fun σ H Q q => q
theorem de_isET {ls : List (List (String × Bool))} {Ts : List String} {e : Expr} {es : List Expr} {k : Nat} {fo : Env → M D} {p p2 pos : Pos} (hl : KNT X.K X.mg Ts ls) (hn : NmT X es Ts) (h0 : Ts ≠ []) (hz : X.mg "isinstance" = none) (ho : DE X W e fo) (h9 : Ts.length ≤ 1000 := by decide) (hgi : Gl X "isinstance" := by rfl)
    (he : starEach [e, .Tuple es k p2] X.env = (false, eval e X.env) :: starEach [.Tuple es k p2] X.env := by rfl) (hs : starEach [.Tuple es k p2] X.env = (false, eval (.Tuple es k p2) X.env) :: starEach [] X.env := by rfl) (hpl : (backTo pos (starEach [.Tuple es k p2] X.env)).any (·.1) = false := by rfl) :
    DE X W (.Call (.Name "isinstance" p) [e, .Tuple es k p2] [] pos) (sIsET ls fo) := by
  obtain ⟨us, hk⟩ := hl
  have hlen : us.length = Ts.length := by
    clear hn h0 h9
    induction hk with
    | nil => rfl
    | cons _ _ _ ih => simp [ih]
  have call : CallR X (.builtin "isinstance") (fun xs H Q => ∃ x w d b tp, xs = [x, .ref tp] ∧ w.H = H ∧ H tp = some (.tup (us.map V.ref)) ∧ Rep X.K w d x ∧ isETd ls d = some (.bl b) ∧ Q (.bl b) H) := by
    intro pins s σ H xs vs Q I r h
    obtain ⟨x, w, d, b, tp, rfl, rfl, htp, rd, e, q⟩ := h
    obtain ⟨u1, u2, rfl, r1, r2⟩ := vals2 r
    cases (show u2 = Value.ref tp from r2)
    cases d with
    | exn C n y =>
      have e : (isET ls C).map D.bl = some (.bl b) := e
      cases ek : isET ls C with
      | none => rw [ek] at e; cases e
      | some b' =>
        rw [ek] at e
        cases e
        obtain ⟨_, cb, _, _, hcb, _⟩ := id rd
        obtain ⟨ha, hEC⟩ := kns_any hk (ca := cb) hcb ek
        obtain ⟨a, oe, odo, rfl, rfl, J⟩ := exn_at I rd hcb r1
        obtain ⟨_, its, rv, o, g1, g2, n, g3⟩ := (show ObjOk X.prog X.w w.H s.heap tp (.tup (us.map V.ref)) from I.hok tp _ htp)
        have e3 := ClsV.all (clsv_all us) rv
        subst e3
        obtain ⟨oc, od, dt, sl⟩ := o
        simp only at g2 g3
        subst g2 g3
        have hne : us ≠ [] := fun z => by
          rw [z] at hlen
          exact h0 (List.length_eq_zero_iff.1 hlen.symm)
        exact PySem.W.kia_tup (kitx_of (hEC hne)) I.kIn J g1 ha (fun z => nomatch z) fun tk => ⟨.bl b, w.H, I.tok tk, rfl, q⟩
    | _ => cases e
  refine (pe_callB call hgi hz boot_isinstance (pa_cons ho (pa_cons (pe_tup (pa_names hn hk)) pa_nil hs) he) (by decide) (by decide) he hpl).imp fun σ H Q h => ?_
  refine (tX.seq0 (R1 := Rep X.K) h).imp fun y H1 ⟨d, h1⟩ => ?_
  obtain ⟨w, ρ, rfl, ok, re, ⟨_, r1⟩, q⟩ := h1
  obtain ⟨z, hz, qq⟩ := at_of (K := X.K) (o := isETd ls d) rfl q
  have hb : ∃ b, z = .bl b := by
    cases d with
    | exn C n y =>
      have hz : (isET ls C).map D.bl = some z := hz
      cases ek : isET ls C with
      | none => rw [ek] at hz; cases hz
      | some k => rw [ek] at hz; cases hz; exact ⟨_, rfl⟩
    | _ => cases hz
  obtain ⟨b, rfl⟩ := hb
  refine ⟨by rw [List.length_map, hlen, show sizeLine = 16777216 from sizeLine_eq]; omega, fun p0 np => ?_⟩
  have g := Grow.new (o := .tup (us.map V.ref)) ok np
  exact ⟨y, w.put p0 (.tup (us.map V.ref)), d, b, p0, rfl, rfl, upd_same, Rep.grow g _ _ r1, hz, qq (w.put p0 (.tup (us.map V.ref))) g (ok.new np) rfl _ rfl⟩
/-! ### fields -/
/-- what a class says of its field f -/
structure XFd (K : PySem.W.Frag) (C : Addr) (f : Str) : Prop where
  ga : PySem.W.findIn K (.ref C) "__getattribute__" = some (some (.builtin "BaseException.__getattribute__"))
  gg : PySem.W.findIn K (.ref C) "__getattr__" = some none
  sb : PySem.W.subIn K (.ref C) (.type "BaseException") = some true
  hd : PySem.W.hasDictIn K C = true
  no : PySem.W.findIn K (.ref C) f = some none
def KFd (K : PySem.W.Frag) (c : String) (f : String) : Prop := ∃ C, isC K c C ∧ XFd K C (Str.ofString f)
def fldX (c f : String) : D → Option D
  | .exn C n x => if C = c ∧ n = f ∧ f ≠ "" then some x else none
  | _ => none
def sFldX (c f : String) (fo : Env → M D) : Env → M D := fun ρ => bnd (fo ρ) fun o => ofO (fldX c f o)
theorem de_fldX {c f : String} {x : Str} {e : Expr} {fo : Env → M D} {pos : Pos} (hx : x = Str.ofString f) (hk : KFd X.K c f) (he : DE X W e fo) (hb : attributeBase e x X.env (eval e X.env) = eval e X.env := by rfl) : DE X W (.Attribute e x pos) (sFldX c f fo) := by
  subst hx
  obtain ⟨C, hc, T⟩ := hk
  refine ⟨fun pins s σ H Q I h => attr_of hb (thn (he.run pins s σ H _ I ((tX.seq0 (R1 := Rep X.K) h).imp fun x H1 hh => hh)) fun u s1 hh => ?_)⟩
  obtain ⟨y, H1, I1, rx, d, w, ρ, rfl, ok, re, ⟨_, r1⟩, q⟩ := hh
  obtain ⟨z, hz, qq⟩ := at_of (K := X.K) (o := fldX c f d) rfl q
  cases d with
  | exn C' n v =>
    have hz : (if C' = c ∧ n = f ∧ f ≠ "" then some v else none) = some z := hz
    by_cases hh : C' = c ∧ n = f ∧ f ≠ ""
    · rw [if_pos hh] at hz
      cases hz
      obtain ⟨rfl, rfl, hne⟩ := hh
      have r0 := r1
      obtain ⟨a, cb, oe, rfl, h1, h2, h3, ⟨vs, h4⟩, h5⟩ := r1
      have hcb : cb = C := by
        have z : PySem.W.nsIn X.K mainGlobals (Str.ofString C') = some (some (.ref C)) := hc
        rw [h1] at z
        cases z
        rfl
      subst hcb
      cases rx
      obtain ⟨hget, _⟩ := I1.hok a _ h2
      rcases h5 with ⟨z, _⟩ | ⟨p, y, h5, h6, h7, h8⟩
      · exact absurd z hne
      · obtain ⟨mA, hns, hr⟩ := (show ObjOk X.prog X.w w.H s1.heap p (.xd [(Str.ofString n, y)]) from I1.hok p _ h6)
        obtain ⟨od, ho, hl⟩ := lookIn_ns hns
        have l : List.lookup (Str.ofString n) [(Str.ofString n, y)] = some y := by simp [List.lookup]
        obtain ⟨u, hu, ru⟩ := RelO.some_of (v := y) (o := mA (Str.ofString n)) (by rw [← l]; exact hr (Str.ofString n))
        have J : PySem.W.InstAt s1.heap a oe cb (some od) := ⟨hget, h3, by unfold PySem.W.notCls; rw [h4] <;> rfl, by rw [h5]; exact ho⟩
        exact HandSPX.exc_get I1.kIn J T.ga T.gg T.sb (PySem.W.findObj_own T.hd T.no rfl (by rw [hl, hu])) (handed_of ru) ⟨y, w.H, I1.tok _, ru, qq.now ok h8⟩
    · rw [if_neg hh] at hz
      cases hz
  | _ => cases hz
end
section
variable {X : Exc → Store → Prop} {st : Store} {ρ : Env} {Q : D → Store → Prop}
@[simp] theorem wp_isE (l : List (String × Bool)) (fo : Env → M D) : wp (sIsE l fo ρ st) X Q = wp (fo ρ st) X fun o st1 => wo (isE l o) fun d => Q d st1 := by simp only [sIsE, bnd, wp_bnd, wp_ofO]
@[simp] theorem wp_isET (ls : List (List (String × Bool))) (fo : Env → M D) : wp (sIsET ls fo ρ st) X Q = wp (fo ρ st) X fun o st1 => wo (isETd ls o) fun d => Q d st1 := by simp only [sIsET, bnd, wp_bnd, wp_ofO]
@[simp] theorem wp_fldX (c f : String) (fo : Env → M D) : wp (sFldX c f fo ρ st) X Q = wp (fo ρ st) X fun o st1 => wo (fldX c f o) fun d => Q d st1 := by simp only [sFldX, bnd, wp_bnd, wp_ofO]
@[simp] theorem isE_exn (l : List (String × Bool)) (C n : String) (x : D) : isE l (.exn C n x) = (l.lookup C).map D.bl := rfl
@[simp] theorem isETd_exn (ls : List (List (String × Bool))) (C n : String) (x : D) : isETd ls (.exn C n x) = (isET ls C).map D.bl := rfl
end
end PL
set_option maxHeartbeats 1000000
/-! PL59: try .. except T as n: the exception is a value in the suite. -/
namespace PL
open PySem PySem.Spec PyProof.Rows L2 HotX L2H
/-- the context of such a suite -/
abbrev XSu (X : Cx) (a : Addr) (oe : Obj) (pn : List (Addr × Obj)) : Cx := { X.suite a pn with H_0 := upd X.H_0 a (.frz oe (exH a oe)) }
theorem exh_ok {P : Program} {w : World} {H : Hp} {h : Heap} {a : Addr} {oe : Obj} (e : h.get? a = some oe) : ObjOk P w H h a (.frz oe (exH a oe)) :=
  ⟨e, e, ⟨oe, e⟩, fun h1 h2 p k => k oe p⟩
section
variable {X : Cx} {pins : List (Addr × Obj)} {σ : L2.St} {H : Hp} {s : Shared}
/-- into the suite: the exception's object is new -/
theorem Inv.toSu {a : Addr} {oe : Obj} {vs : Array Value} {pn : List (Addr × Obj)} (I : Inv X pins σ H s) (he : s.heap.get? a = some oe) (hd : oe.data = .fields vs) (na : H a = none) (nL : a ≠ X.env.locals) (hex : X.ex = [])
    (n0 : X.s_0.heap.get? a = none) (hpn : ∀ p ∈ pn, p ∈ X.pn ++ pins) (npn : ∀ p ∈ pn, p.1 ≠ a) : Inv (XSu X a oe pn) [] σ (upd H a (.frz oe (exH a oe))) s := by
  have nb : ∀ b o, X.s_0.heap.get? b = some o → b ≠ a := fun b o e z => by rw [z, n0] at e; cases e
  have ok := I.ok
  refine ⟨⟨ok.mod, ok.kind, ok.glob, ok.blt, ok.above, ok.inj, ok.has, ok.cab, (fun z => nomatch (show false = true from z)), ok.frames, ok.stk, ok.exf, fun b o e => ?_, ok.bsz, ok.noex, ok.exfs, ok.funs, fun b hb => ?_⟩, I.os, I.bare, ?_, I.loc, I.cell, ?_, fun x c e => ?_, fun p hp => ?_, fun b u e => ?_, I.len⟩
  · obtain ⟨h1, h2⟩ := ok.bs b o e
    exact ⟨h1, by show upd X.H_0 a _ b = none; rw [upd_ne (nb b o h1)]; exact h2⟩
  · obtain ⟨_, o, ho, _⟩ := ok.funs.mem hb
    show upd X.H_0 a _ b = none
    rw [upd_ne (nb b o ho)]
    exact ok.frf b hb
  · have h0 : ∀ {b : Addr}, b ≠ a → upd X.H_0 a (HO.frz oe (exH a oe)) b = X.H_0 b := fun h => upd_ne h
    refine ⟨fun b o e n hb hx => I.base.keep b o e ((h0 (nb b o e)).symm.trans n) hb hx, fun b o e n hb hx => I.base.slot b o e ((h0 (nb b o e)).symm.trans n) hb hx, fun b o e n hx => ?_, I.base.there, fun b xs q => ?_, fun b o u q => ?_, fun b ps q => ?_⟩
    · show upd H a _ b = none
      rw [upd_ne (nb b o e)]
      exact I.base.free b o e ((h0 (nb b o e)).symm.trans n) hx
    · by_cases z : b = a
      · subst z
        have q := (show upd X.H_0 b (HO.frz oe (exH b oe)) b = _ from upd_same).symm.trans q
        cases q
      · rw [upd_ne z]
        exact I.base.tups b xs ((h0 z).symm.trans q)
    · by_cases z : b = a
      · subst z
        rw [upd_same]
        exact (show upd X.H_0 b (HO.frz oe (exH b oe)) b = _ from upd_same).symm.trans q
      · rw [upd_ne z]
        exact I.base.frzs b o u ((h0 z).symm.trans q)
    · by_cases z : b = a
      · subst z
        have q := (show upd X.H_0 b (HO.frz oe (exH b oe)) b = _ from upd_same).symm.trans q
        cases q
      · rw [upd_ne z]
        exact I.base.tbls b ps ((h0 z).symm.trans q)
  · show upd H a _ X.env.locals = none
    rw [upd_ne (Ne.symm nL)]
    exact I.free
  · have nc : c ≠ a := fun z => by
      obtain ⟨v, o, ho, hc⟩ := I.cell x c e
      rw [z, he] at ho
      cases ho
      rw [hd] at hc
      cases hc
    show upd H a _ c = none
    rw [upd_ne nc]
    exact I.freeC x c e
  · have hp : p ∈ pn := by
      have hp : p ∈ pn ++ [] := hp
      rwa [List.append_nil] at hp
    obtain ⟨h1, h2, h3, h4, h5⟩ := I.pin p (hpn p hp)
    refine ⟨h1, ?_, h3, h4, h5⟩
    show upd H a _ p.1 = none
    rw [upd_ne (npn p hp)]
    exact h2
  · by_cases z : b = a
    · subst z
      rw [upd_same] at e
      cases e
      exact exh_ok he
    · rw [upd_ne z] at e
      refine (I.hok b u e).stay (fun c w' hc q => q) (fun c q => ?_) fun c xs q => ?_
      · exact (upd_ne (fun y => by rw [y, na] at q; cases q)).trans q
      · exact (upd_ne (fun y => by rw [y, na] at q; cases q)).trans q
/-- .. and out of it -/
theorem Inv.ofSu {a : Addr} {oe : Obj} {pn pn' : List (Addr × Obj)} {σ' : L2.St} {H' : Hp} {s' : Shared} (I : Inv X pins σ H s) (J : Inv (XSu X a oe pn) pn' σ' H' s') (na : H a = none) (n0 : X.s_0.heap.get? a = none) (hpn : ∀ p ∈ X.pn ++ pins, p ∈ pn) : Inv X pins σ' H' s' := by
  have nb : ∀ b o, X.s_0.heap.get? b = some o → b ≠ a := fun b o e z => by rw [z, n0] at e; cases e
  have h0 : ∀ {b : Addr}, b ≠ a → upd X.H_0 a (HO.frz oe (exH a oe)) b = X.H_0 b := fun h => upd_ne h
  refine ⟨I.ok, J.os, J.bare, ⟨fun b o e n hb hx => J.base.keep b o e ((h0 (nb b o e)).trans n) hb hx, fun b o e n hb hx => J.base.slot b o e ((h0 (nb b o e)).trans n) hb hx, fun b o e n hx => J.base.free b o e ((h0 (nb b o e)).trans n) hx, J.base.there, fun b xs q => ?_, fun b o u q => ?_, fun b ps q => ?_⟩, J.loc, J.cell, J.free, J.freeC, fun p hp => J.pin p (List.mem_append_left _ (hpn p hp)), J.hok, J.len⟩
  · exact J.base.tups b xs ((h0 fun z => by rw [z] at q; have := I.base.tups _ _ q; rw [na] at this; cases this).trans q)
  · exact J.base.frzs b o u ((h0 fun z => by rw [z] at q; have := I.base.frzs _ _ _ q; rw [na] at this; cases this).trans q)
  · exact J.base.tbls b ps ((h0 fun z => by rw [z] at q; obtain ⟨m, this⟩ := I.base.tbls _ _ q; rw [na] at this; cases this).trans q)
/-- the suite is hot -/
theorem hot_su {a : Addr} {oe : Obj} {pn : List (Addr × Obj)} {cls : Value} {d : Option Addr} (hz : L2N.Zn cls d oe) (hd : ∃ vs, oe.data = .fields vs) : HotF (XSu X a oe pn) := by
  obtain ⟨vs, hd⟩ := hd
  exact ⟨a, oe, vs, rfl, upd_same, hd, hz.2.2 vs hd⟩
end
/-- what a clause «except t as n» wishes of an exception that its suite knows as a value -/
def wVal (m : Value → Option Bool) (i : Nat) (ts : Addr → Obj → Value → Option Addr → TS) (Wo : WX) (D : Ends) : WX := fun cls d σ H => ∃ b, m cls = some b ∧
  (b = true → ∀ a oe, H a = none → L2N.Zn cls d oe → (∃ vs, oe.data = .fields vs) → ts a oe cls d { nx := fun σ' H' => D.nx (σ'.set i none) H', rt := D.rt, bk := fun σ' H' => D.bk (σ'.set i none) H', ct := fun σ' H' => D.ct (σ'.set i none) H' } (σ.set i (some (.ref a))) (upd H a (.frz oe (exH a oe)))) ∧ (b = false → Wo cls d σ H)
section
variable {X : Cx} {W : WX}
theorem ps_try_val {t : Expr} {m : Value → Option Bool} {n : Str} {i : Nat} {body suite : List Stmt} {b₀ : Stmt} {pos pos' : Pos} {tb : WX → TS} {ts : Addr → Obj → Value → Option Addr → TS} {Wo : WX} (ht : HTest X t m) (hs : X.stack = X.env :: X.outer) (hf : X.env.frame = some X.env.locals) (hN : X.N.Nodup) (hi : X.N[i]? = some n) (hln : X.env.kindOf n = some .local) (hex : X.ex = []) (tk : L2N.Takes X Wo)
    (hb : ∀ (W : WX) (pn : List (Addr × Obj)) (xe : Value → Shared → Prop), L2N.Takes (X.tr pn xe) W → PassesOwn (model X.prog X.w) X.A X.env xe → PSs (X.tr pn xe) body (tb W))
    (hsu : ∀ (a : Addr) (oe : Obj) (cls : Value) (d : Option Addr) (pn : List (Addr × Obj)), L2N.Zn cls d oe → (∃ vs, oe.data = .fields vs) → PSs (XSu X a oe pn) (b₀ :: suite) (ts a oe cls d)) :
    PS X (.Try body [.ExceptHandler (some t) (some n) (b₀ :: suite) pos'] [] [] pos) (fun D σ H => tb (wVal m i ts Wo D) D σ H) := by
  refine ⟨fun pins s σ H D J h => ?_⟩
  have hok := J.ok
  have hfr : X.A.frames = some (X.env :: X.outer) := hok.frames.trans (congrArg some hs)
  refine wpAny_Try_except (wpAny_mono ((hb (wVal m i ts Wo D) (X.pn ++ pins) (fun e z₁ => wpAny (model X.prog X.w) X.A (noteFrame e X.env) (fun _ z₂ => wpAny (model X.prog X.w) X.A (setFlight e none) (fun _ z₃ => wpAny (model X.prog X.w) X.A (handleBy e X.env [.ExceptHandler (some t) (some n) (b₀ :: suite) pos']) (SP X pins D) X.xe z₃) X.xe z₂) X.xe z₁) (fun u z xx => ?_) PassesOwn.looking).run [] s σ H D (J.toTry _) h) (fun f z hsp => ?_) fun _ _ he => he)
  · obtain ⟨a, B, s0, _, σ1, H1, cls, d, rfl, G0, nb, up, sky, na, os, ag, b, hm, hyes, hno⟩ := xx
    have G : Inv X pins σ1 H1 s0 := G0.ofTry hok
    show wpAny (model X.prog X.w) X.A (noteFrame (.ref a) X.env) _ _ _
    refine L2N.Sky.land L2N.Zn.steady hfr hf (by rw [← hs]; exact sky) fun h3 fl3 up3 => ?_
    have G3 : Inv X pins σ1 H1 { z with heap := h3 } := G.landed nb fl3.1 (up.trans up3) os ag
    obtain ⟨oe, vs, he, hz, hd⟩ := fl3.there
    have nfr := far_frames fl3.2.2.1 he hd
    have nL : a ≠ X.env.locals := fun q => nfr (List.mem_filterMap.mpr ⟨X.env, List.mem_cons_self, by rw [hf, q]⟩)
    have nF : a ∉ X.fs := fun q => let ⟨e, h1, h2⟩ := List.mem_filterMap.mp q; nfr (List.mem_filterMap.mpr ⟨e, List.mem_cons_of_mem _ h1, h2⟩)
    have look : PySem.W.Looks (model X.prog X.w) h3 (typeOf (.ref a)) cls := fun A Q E s k q => wpAny_typeOf_ref (k _ _ he) (hz.1.symm ▸ q)
    refine wpAny_handleBy_cons (codeAny_handlers_test (ht a _ [] σ1 H1 { z with heap := h3 } cls b _ _ (G3.suite he hd na nL nF) hm look fun h5 k5 => ?_)) (by intro q; cases q)
    have fl5 := fly_keeps fl3 k5
    have up5 : z.heap.UpToSlots h5 := up3.trans (Heap.UpToSlots.of_keeps k5)
    cases b with
    | true =>
      refine codeAny_handlers_suite_as (HandSPX.lands_againZ (s := { z with heap := h5 }) fl5 fun h4 fl4 up4 => ?_)
      have G4 : Inv X pins σ1 H1 { z with heap := h4 } := G.landed nb fl4.1 ((up.trans up5).trans up4) os ag
      obtain ⟨o4, v4, he4, hz4, hd4⟩ := fl4.there
      -- it is new
      have new : ∀ o, s0.heap.get? a ≠ some o := fun o e => by
        have q := nb a o e (by rw [hs]; exact nfr)
        rw [fl4.2.1] at q
        cases q
      have n0 : X.s_0.heap.get? a = none := by
        cases q : X.s_0.heap.get? a with
        | none => rfl
        | some o =>
          obtain ⟨o', e⟩ := G.base.there a o q (by rw [hex]; exact fun z => nomatch z)
          exact absurd e (new o')
      have npn : ∀ p ∈ X.pn ++ pins, p.1 ≠ a := fun p hp q => new p.2 (by rw [← q]; exact (G.pin p hp).1)
      have S4 := Inv.toSu (pn := X.pn ++ pins) G4 he4 hd4 na nL hex n0 (fun p hp => hp) npn
      refine store_ok (X := XSu X a o4 (X.pn ++ pins)) (v := .ref a) S4 hN hi (.inl hln) rfl (fun s5 I5 => ?_) (.inr hln)
      refine wpAny_mono ((hsu a o4 cls d (X.pn ++ pins) hz4 ⟨_, hd4⟩).run [] s5 _ _ _ I5 (hyes rfl a o4 na hz4 ⟨_, hd4⟩)) (fun f s6 hsp => ?_) fun _ _ q => q.elim
      have done : ∀ {σ6 : L2.St} {H6 : Hp} {Q : Shared → Prop}, Inv (XSu X a o4 (X.pn ++ pins)) [] σ6 H6 s6 → (∀ s7, Inv X pins (σ6.set i none) H6 s7 → Q s7) → wpAny (model X.prog X.w) X.A (do bindName X.env n .none; unbindBehindTheSuite X.env n pos') (fun _ s7 => Q s7) X.xe s6 := fun I6 hq => gone_ok (Inv.ofSu G4 I6 na n0 fun p hp => hp) hN hi hln hq
      cases f with
      | next => exact let ⟨_, _, I6, q6⟩ := hsp; done I6 fun _ I7 => ⟨_, _, I7, q6⟩
      | brk => exact let ⟨_, _, I6, q6⟩ := hsp; done I6 fun _ I7 => ⟨_, _, I7, q6⟩
      | cont => exact let ⟨_, _, I6, q6⟩ := hsp; done I6 fun _ I7 => ⟨_, _, I7, q6⟩
      | ret u => exact let ⟨_, _, _, I6, r6, q6⟩ := hsp; done I6 fun _ I7 => ⟨_, _, _, I7, r6, q6⟩
    | false =>
      show wpAny _ X.A (handleBy (.ref a) X.env []) _ _ _
      obtain ⟨_, _, _, o5, v5, T, oT, t5, e5, _, d5, i5, _⟩ := id fl5
      refine wpAny_handleBy_nil ?_
      unfold PySem.passOn
      refine wpAny_bind (wpAny_field e5 d5 i5 ?_)
      rw [if_neg (show ¬((Value.ref T == Value.none) = true) by simp)]
      have fin : wpAny (model X.prog X.w) X.A (setFlight (.ref a) X.env.frame) (fun _ z4 => wpAny (model X.prog X.w) X.A (throw (.ref a) : Sem Flow) (SP X pins D) X.xe z4) X.xe { z with heap := h5 } := by
        rw [hf]
        exact HandSPX.setFlight_upZ (s := { z with heap := h5 }) fl5 fun h4 hh4 up4 => wpAny_throw (tk _ _ ⟨a, B, s0, pins, σ1, H1, cls, d, rfl, G, nb, (up.trans up5).trans up4, .inr (.inr (by rw [hs]; exact hh4)), na, os, ag, hno rfl⟩)
      first | exact wpAny_bind (wpAny_pure (wpAny_bind fin)) | exact wpAny_bind fin
  · cases f with
    | next => exact let ⟨_, _, G, q⟩ := hsp; wpAny_execs_nil ⟨_, _, G.ofTry hok, q⟩
    | brk => exact let ⟨_, _, G, q⟩ := hsp; ⟨_, _, G.ofTry hok, q⟩
    | cont => exact let ⟨_, _, G, q⟩ := hsp; ⟨_, _, G.ofTry hok, q⟩
    | ret u => exact let ⟨_, _, _, G, r, q⟩ := hsp; ⟨_, _, _, G.ofTry hok, r, q⟩
/-! ### as a function on data -/
def exnD (e : Exc) : D := match e.arg with
  | none => .exn e.cls "" .non
  | some (n, x) => .exn e.cls n x
def sTryV (f : SM) (sub : String → Option Bool) (i : Nat) (su : SM) : SM := sTry f sub i fun e ρ st => su (ρ.set i (some (exnD e))) st
theorem no_xd {K : PySem.W.Frag} {w : Wd} (ok : WOk K w) {p : Addr} {fs : List (Str × V)} (h : w.H p = some (.xd fs)) : ¬ Lv w p := by
  rintro (⟨n, ob, e1, e2⟩ | hm)
  · have q := ok.ob n ob e1
    rw [e2] at q
    cases ob with
    | lst xs => obtain ⟨_, z, _⟩ := q; rw [h] at z; cases z
    | dct xs => obtain ⟨_, z, _⟩ := q; rw [h] at z; cases z
    | dcT xs => obtain ⟨_, z, _⟩ := q; rw [h] at z; cases z
    | ins C xs => obtain ⟨_, _, _, _, z, _⟩ := q; rw [h] at z; cases z
  · obtain ⟨_, z⟩ := ok.hidL p hm
    rw [h] at z
    cases z
/-- sub: which classes the clause takes; all are classes of the module -/
def Subs (X : Cx) (m : Value → Option Bool) (sub : String → Option Bool) : Prop := ∀ nm b, sub nm = some b → ∃ C, X.mg (Str.ofString nm) = some (.ref C) ∧ isC X.K nm C ∧ m (.ref C) = some b
theorem ds_try_val {t : Expr} {m : Value → Option Bool} {n : Str} {i : Nat} {body suite : List Stmt} {b₀ : Stmt} {pos pos' : Pos} {f su : SM} (sub : String → Option Bool) (ht : HTest X t m) (hsub : Subs X m sub) (tk : L2N.Takes X W) (hi : X.N[i]? = some n) (hN : X.N.Nodup)
    (hb : ∀ (W : WX) (pn : List (Addr × Obj)) (xe : Value → Shared → Prop), L2N.Takes (X.tr pn xe) W → PassesOwn (model X.prog X.w) X.A X.env xe → DSs (X.tr pn xe) W body f)
    (hsu : ∀ (a : Addr) (oe : Obj) (pn : List (Addr × Obj)), HotF (XSu X a oe pn) → DSs (XSu X a oe pn) W0 (b₀ :: suite) su)
    (hs : X.stack = X.env :: X.outer := by rfl) (hf : X.env.frame = some X.env.locals := by rfl) (hln : X.env.kindOf n = some .local := by rfl) (hex : X.ex = [] := by rfl) :
    DS X W (.Try body [.ExceptHandler (some t) (some n) (b₀ :: suite) pos'] [] [] pos) (sTryV f sub i su) := by
  refine PS.imp (ps_try_val (tb := fun W => tS (cx X W) f) (ts := fun a oe cls d => tS (cx X W0) su) (Wo := W) ht hs hf hN hi hln hex tk hb (fun a oe cls d pn hz hv => hsu a oe pn (hot_su hz hv))) fun D σ H h => ?_
  obtain ⟨w, ρ, rfl, ok, re, q⟩ := h
  refine ⟨w, ρ, rfl, ok, re, ?_⟩
  unfold sTryV sTry at q
  cases er : f ρ w.st with
  | bad => rw [er] at q; exact q
  | nx ρ' st => rw [er] at q; exact q
  | rt d st => rw [er] at q; exact q
  | bk d st => rw [er] at q; exact q
  | ct d st => rw [er] at q; exact q
  | ex e ρ1 st1 =>
    rw [er] at q
    intro w' g ok' es σ' re' cls d hx
    cases eb : sub e.cls with
    | none => simp only [eb] at q; exact q.elim
    | some b =>
      obtain ⟨C, hm, hic, hmm⟩ := hsub _ _ eb
      have hcls : cls = .ref C := by
        rcases hx.1 with ⟨u, h1, h2⟩ | ⟨h1, _⟩
        · rw [h2]; rw [hm] at h1; exact (Option.some.inj h1).symm
        · rw [hm] at h1; cases h1
      refine ⟨b, by rw [hcls]; exact hmm, fun hbt a oe ha hz hv => ?_, fun hbf => ?_⟩
      · subst hbt
        simp only [eb] at q
        have gn : Grow w' (w'.put a (.frz oe (exH a oe))) := Grow.new ok' ha
        have okn : WOk X.K (w'.put a (.frz oe (exH a oe))) := ok'.new ha
        have rx : Rep X.K (w'.put a (.frz oe (exH a oe))) (exnD e) (.ref a) := by
          have hcl : oe.cls = .ref C := hz.1.trans hcls
          unfold exnD
          cases ea : e.arg with
          | none => exact ⟨a, C, oe, rfl, hic, upd_same, hcl, hv, .inl ⟨rfl, hz.2.1.trans (hx.2.1 ea)⟩⟩
          | some p =>
            obtain ⟨nm, x⟩ := p
            obtain ⟨v, p, h1, h2, h3⟩ := hx.2.2 nm x ea
            obtain ⟨h4, h5⟩ := gn.keep p _ h2 (no_xd ok' h2)
            exact ⟨a, C, oe, rfl, hic, upd_same, hcl, hv, .inr ⟨p, v, hz.2.1.trans h1, h4, h5, Rep.grow gn _ _ h3⟩⟩
        have re2 : RepE X.K (w'.put a (.frz oe (exH a oe))) (σ'.set i (some (.ref a))) (ρ1.set i (some (exnD e))) := (re'.grow gn).set i rx
        refine ⟨w'.put a (.frz oe (exH a oe)), _, rfl, okn, re2, ?_⟩
        have q : (match su ((ρ1.set i none).set i (some (exnD e))) st1 with
          | .nx ρ2 st2 => .nx (ρ2.set i none) st2
          | .bk ρ2 st2 => .bk (ρ2.set i none) st2
          | .ct ρ2 st2 => .ct (ρ2.set i none) st2
          | .rt d st2 => .rt d st2
          | _ => SRes.bad) |> fun r => SPost (cx X W) w r D := q
        simp only [List.set_set] at q
        have es' : (w'.put a (.frz oe (exH a oe))).st = st1 := es
        rw [es']
        cases eu : su (ρ1.set i (some (exnD e))) st1 with
        | bad => rw [eu] at q; exact q.elim
        | ex e2 ρ2 st2 => rw [eu] at q; exact q.elim
        | nx ρ2 st2 => rw [eu] at q; exact fun w2 g2 ok2 es2 σ2 r2 => q w2 ((g.trans gn).trans g2) ok2 es2 _ (r2.kill i)
        | bk ρ2 st2 => rw [eu] at q; exact fun w2 g2 ok2 es2 σ2 r2 => q w2 ((g.trans gn).trans g2) ok2 es2 _ (r2.kill i)
        | ct ρ2 st2 => rw [eu] at q; exact fun w2 g2 ok2 es2 σ2 r2 => q w2 ((g.trans gn).trans g2) ok2 es2 _ (r2.kill i)
        | rt d2 st2 => rw [eu] at q; exact fun w2 g2 ok2 es2 v r2 => q w2 ((g.trans gn).trans g2) ok2 es2 v r2
      · subst hbf
        simp only [eb] at q
        exact q w' g ok' es σ' re' cls d hx
theorem pa_su {a : Addr} {oe : Obj} {pn : List (Addr × Obj)} : PassesOwn (model (XSu X a oe pn).prog (XSu X a oe pn).w) (XSu X a oe pn).A (XSu X a oe pn).env (XSu X a oe pn).xe := fun _ _ z => nomatch z
/-! ### which classes a clause takes -/
theorem subs_nil {m : Value → Option Bool} : Subs X m (fun z => ([] : List (String × Bool)).lookup z) := fun _ _ h => by cases h
theorem subs_cons {m : Value → Option Bool} {x : String} {k : Bool} {l : List (String × Bool)} {C : Addr} (g : X.mg (Str.ofString x) = some (.ref C)) (ic : isC X.K x C) (e : m (.ref C) = some k) (h : Subs X m fun z => l.lookup z) : Subs X m fun z => ((x, k) :: l).lookup z := fun nm b hb => by
  have hb : ((x, k) :: l).lookup nm = some b := hb
  by_cases z : nm = x
  · subst z
    rw [List.lookup_cons_self] at hb
    cases hb
    exact ⟨C, g, ic, e⟩
  · have : (nm == x) = false := by simpa using z
    rw [List.lookup_cons, this] at hb
    exact h nm b hb
end
section
variable {Xp : Exc → Store → Prop} {st : Store} {k : SK} {ρ : Env}
theorem ws_tryV (f : SM) (sub : String → Option Bool) (i : Nat) (su : SM) : ws (sTryV f sub i su ρ st) k = ws (f ρ st) ⟨k.nx, k.rt, k.bk, k.ct, fun e ρ1 st1 => match sub e.cls with
    | some true => ws (su (ρ1.set i (some (exnD e))) st1) ⟨fun ρ2 st2 => k.nx (ρ2.set i none) st2, k.rt, fun ρ2 st2 => k.bk (ρ2.set i none) st2, fun ρ2 st2 => k.ct (ρ2.set i none) st2, fun _ _ _ => False⟩
    | some false => k.ex e ρ1 st1
    | none => False⟩ := by
  unfold sTryV
  rw [ws_try]
  simp only [List.set_set]
  try rfl
end
end PL
set_option maxHeartbeats 1000000
/-! PL60: names of built in classes. -/
namespace PL
open PySem PySem.Spec PyProof.Rows L2
theorem boot_ValueError : bootBuiltins "ValueError" = some (.type "ValueError") := by first | rfl | kernel_rfl
theorem roomH_mk {k : Nat} {A : Around} (r : Room k A) (h : Option Value) : L2H.RoomH k (A.mark h) := ⟨r.dp, r.un⟩
end PL
set_option maxHeartbeats 4000000
/-! PL61: a tuple, repeated once or more often. -/
namespace PL
open PySem PySem.Spec PyProof.Rows L2
theorem tuple_mul1 (l : Addr) (items : Array Value) (n : Nat) (dd : Option Addr) (sl : Array (Option Value)) (u : Tok) :
    Meets (Builtin.«tuple.__mul__» ⟨[.ref l, .int 1 u], []⟩) (fun _ R s => s.heap.get? l = some { cls := .type "tuple", dict := dd, data := .seq items n, slots := sl } ∧ R (.ok (.ret (Value.ref l))) s) :=
  .of_wp fun prog w A R s h => by
    obtain ⟨hp, g, d, tk, os⟩ := s
    obtain ⟨hl, h⟩ := h
    have f1 := AutoSeq1.idx_int
    have c1 : (items.isEmpty || ((1 : Int) == 1)) = true := by simp
    wp_walk using wpAny_loadPart' hl
    exact ⟨_, rfl, h⟩
def mulU : D → D → Store → Option D
  | .tup xs, .int k, st => if k = 1 then some (.tup xs) else mulD (.tup xs) (.int k) st
  | _, _, _ => none
section
variable {X : Cx} {W : WX}
theorem op_mulU : OpR X (binaryOp .Mult) (rB X.K mulU) := by
  intro pins s σ H x y v u Q I rx ry h
  obtain ⟨w, dx, dy, d, rfl, ok, hx, hy, hf, q⟩ := h
  cases dx with
  | tup ds =>
    cases dy with
    | int k =>
      have hf : (if k = 1 then some (D.tup ds) else mulD (.tup ds) (.int k) w.st) = some d := hf
      by_cases hk : k = 1
      · rw [if_pos hk] at hf
        cases hf
        subst hk
        have hx0 := hx
        obtain ⟨l, vs, rfl, hT, hr⟩ := hx
        obtain rfl : y = V.int 1 := hy
        cases rx
        obtain ⟨t, rfl⟩ := ry
        obtain ⟨its, r, ⟨⟨cls, dd, data, sl⟩, ho, hc, n, hd⟩, _⟩ := I.tuple hT
        simp only at hc hd
        subst hc hd
        refine wpAny_binaryOp_repeat_ref (T := "tuple") (U := "int") (by decide) ⟨_, ho, rfl⟩ (fun s' => typeIs_int s' 1 t) noFill_tuple_mul F.fills_int_mul F.slot_int_rmul repeat_tuple F.slot_int_index.lookup ?_
        refine call_meets F.slot_int_rmul (typeIs_int s 1 t) F.entry_int_rmul (F.args_int_rmul_2 _ _) (int_rmul_tuple 1 t l its.toArray n dd sl) ⟨ho, rfl, ⟨_, ho, rfl⟩, ?_⟩
        refine call_meets F.slot_tuple_mul ⟨_, ho, rfl⟩ F.entry_tuple_mul (F.args_tuple_mul_2 _ _) (tuple_mul1 l its.toArray n dd sl t) ⟨ho, ?_⟩
        exact ⟨.ref l, _, I, rfl, q.now ok hx0⟩
      · rw [if_neg hk] at hf
        exact ord_mul pins s σ _ x y v u Q I rx ry ⟨w, .tup ds, .int k, d, rfl, ok, hx, hy, hf, q⟩
    | _ => cases hf
  | _ => cases hf
theorem de_mulU {a b : Expr} {f g : Env → M D} {pos : Pos} (ha : DE X W a f) (hb : DE X W b g) : DE X W (.BinOp a .Mult b pos) (sBinF mulU f g) := by
  refine (pe_op op_mulU ha hb).imp fun σ H Q h => ?_
  refine (tX.seq0 (R1 := Rep X.K) h).imp fun x H1 ⟨da, h1⟩ => ?_
  refine ((tX.seq (R1 := Rep X.K) (mono_and mono0 monoRep) h1).weak).imp fun y H2 ⟨db, h2⟩ => ?_
  obtain ⟨w, ρ, e, ok, re, ⟨⟨_, r1⟩, r2⟩, q⟩ := h2
  obtain ⟨d, e1, q⟩ := at_of rfl q
  exact ⟨w, da, db, d, e, ok, r1, r2, e1, q⟩
theorem mulU_tup {xs : List D} {k : Int} {st : Store} (h0 : xs ≠ []) (h1 : xs.length ≤ 1000) (h2 : 1 ≤ k) (h3 : k ≤ 1000) : mulU (.tup xs) (.int k) st = some (.tup (repN xs k)) := by
  show (if k = 1 then some (D.tup xs) else mulD (.tup xs) (.int k) st) = _
  by_cases hk : k = 1
  · subst hk
    rw [if_pos rfl]
    simp [repN]
  · rw [if_neg hk]
    show (if 0 < xs.length ∧ xs.length ≤ 1000 ∧ 2 ≤ k ∧ k ≤ 1000 then some (D.tup (repN xs k)) else none) = _
    rw [if_pos ⟨List.length_pos_iff.2 h0, h1, by omega, h3⟩]
end
end PL
set_option maxHeartbeats 4000000
-- OWN: 
namespace LK33
open PySem PySem.Spec PyProof.Rows L2 PL
noncomputable section
def topS (i : Nat) : Stmt := PySem.Challenge.pw_braceloops_k33_brace_text_errors.main.body.getD i (.Pass ⟨0, 0, 0, 0⟩)
def fuel : Nat := 20000000
/-- what the globals are -/
structure Fx (mg : Str → Option Value) : Prop where
  z_ValueError : mg "ValueError" = none
  z_all : mg "all" = none
  z_isinstance : mg "isinstance" = none
  z_len : mg "len" = none
  z_list : mg "list" = none
  z_max : mg "max" = none
  z_min : mg "min" = none
  z_range : mg "range" = none
  z_repr : mg "repr" = none
  z_str : mg "str" = none
  z_tuple : mg "tuple" = none
  c_CLOSE : ∃ t, mg "CLOSE" = some (.str (toS [125]) t)
  c_COMMA : ∃ t, mg "COMMA" = some (.str (toS [44]) t)
  c_LETTERS : ∃ t, mg "LETTERS" = some (.str (toS [97, 98, 99, 100, 101, 102, 103, 104, 105, 106, 107, 108, 109, 110, 111, 112, 113, 114, 115, 116, 117, 118, 119, 120, 121, 122]) t)
  c_OPEN : ∃ t, mg "OPEN" = some (.str (toS [123]) t)
abbrev s_is_word : Stmt := topS 10
theorem sc_is_word : FnScope ["value", "letter"] ["value"] (defScope s_is_word) := ⟨rfl, rfl, rfl, by decide +kernel, rfl, by decide +kernel, by decide +kernel⟩
def b_is_word : SM := sRet (sAnd (sBlt isiD (sCons (sVar 0) (sCons (sCon (.vv (.ty "str"))) (sNil)))) (sBlt allD (sCons (sComp false [1] (gNm 1) (sYes) (sOfB (tCmpS .isin (sVar 1) (sCon (.str [97, 98, 99, 100, 101, 102, 103, 104, 105, 106, 107, 108, 109, 110, 111, 112, 113, 114, 115, 116, 117, 118, 119, 120, 121, 122])))) (sWalkA (sVar 0))) (sNil))))
def F_is_word : List D → M D := runDef 2 b_is_word
abbrev s_is_row : Stmt := topS 11
theorem sc_is_row : FnScope ["value", "word"] ["value"] (defScope s_is_row) := ⟨rfl, rfl, rfl, by decide +kernel, rfl, by decide +kernel, by decide +kernel⟩
def b_is_row : SM := sRet (sAnd (sBlt isiD (sCons (sVar 0) (sCons (sCon (.vv (.ty "tuple"))) (sNil)))) (sAnd (sOfB (tCmpF neE (sVar 0) (sTup (sNil)))) (sBlt allD (sCons (sComp false [1] (gNm 1) (sYes) (sCall (arity 1 F_is_word) (sCons (sVar 1) (sNil))) (sWalkA (sVar 0))) (sNil)))))
def F_is_row : List D → M D := runDef 2 b_is_row
abbrev s_is_product : Stmt := topS 12
theorem sc_is_product : FnScope ["value", "row"] ["value"] (defScope s_is_product) := ⟨rfl, rfl, rfl, by decide +kernel, rfl, by decide +kernel, by decide +kernel⟩
def b_is_product : SM := sRet (sAnd (sBlt isiD (sCons (sVar 0) (sCons (sCon (.vv (.ty "tuple"))) (sNil)))) (sAnd (sOfB (tCmpF neE (sVar 0) (sTup (sNil)))) (sBlt allD (sCons (sComp false [1] (gNm 1) (sYes) (sCall (arity 1 F_is_row) (sCons (sVar 1) (sNil))) (sWalkA (sVar 0))) (sNil)))))
def F_is_product : List D → M D := runDef 2 b_is_product
abbrev s_check_product : Stmt := topS 13
theorem sc_check_product : FnScope ["product"] ["product"] (defScope s_check_product) := ⟨rfl, rfl, rfl, by decide +kernel, rfl, by decide +kernel, by decide +kernel⟩
def b_check_product : SM := sIfS (tNotB (sTru (sCall (arity 1 F_is_product) (sCons (sVar 0) (sNil))))) (sRaise0 "InvalidProduct") (sSkip)
def F_check_product : List D → M D := runDef 1 b_check_product
abbrev s_is_brace_text : Stmt := topS 18
theorem sc_is_brace_text : FnScope ["value", "commas", "sign"] ["value"] (defScope s_is_brace_text) := ⟨rfl, rfl, rfl, by decide +kernel, rfl, by decide +kernel, by decide +kernel⟩
def b_is_brace_text : SM := sSeq (sIfS (tNotB (sTru (sBlt isiD (sCons (sVar 0) (sCons (sCon (.vv (.ty "str"))) (sNil)))))) (sRet (sCon (.bl false))) (sSkip))
    (sSeq (sSet 1 (sLst true (sNil)))
    (sSeq (sFor (gNm 2) (sWalkA (sVar 0))
    (sIfS (tCmpS .eq (sVar 2) (sCon (.str [123]))) (sExpr (sMth isLst appendD (sVar 1) (sCons (sCon (.bl false)) (sNil)))) (sIfS (tAndB (tCmpS .eq (sVar 2) (sCon (.str [44]))) (tCmpF neE (sVar 1) (sLst false (sNil)))) (sSetIx (sCon (.bl true)) (sVar 1) (sNeg (sCon (.int 1)))) (sIfS (tAndB (tCmpS .eq (sVar 2) (sCon (.str [125]))) (tAndB (tCmpF neE (sVar 1) (sLst false (sNil))) (sTru (sIx (sVar 1) (sNeg (sCon (.int 1))))))) (sExpr (sMth0 isLst popD (sVar 1))) (sIfS (tCmpS .notin (sVar 2) (sCon (.str [97, 98, 99, 100, 101, 102, 103, 104, 105, 106, 107, 108, 109, 110, 111, 112, 113, 114, 115, 116, 117, 118, 119, 120, 121, 122]))) (sRet (sCon (.bl false))) (sSkip))))))
    (sRet (sOfB (tCmpF empD (sVar 1) (sLst false (sNil)))))))
def F_is_brace_text : List D → M D := runDef 3 b_is_brace_text
abbrev s_check_text : Stmt := topS 19
theorem sc_check_text : FnScope ["text"] ["text"] (defScope s_check_text) := ⟨rfl, rfl, rfl, by decide +kernel, rfl, by decide +kernel, by decide +kernel⟩
def b_check_text : SM := sIfS (tNotB (sTru (sCall (arity 1 F_is_brace_text) (sCons (sVar 0) (sNil))))) (sRaise0 "InvalidText") (sSkip)
def F_check_text : List D → M D := runDef 1 b_check_text
abbrev s_expand : Stmt := topS 24
theorem sc_expand : FnScope ["text"] ["text"] (defScope s_expand) := ⟨rfl, rfl, rfl, by decide +kernel, rfl, by decide +kernel, by decide +kernel⟩
def b_expand : SM := sSeq (sExpr (sCall (arity 1 F_check_text) (sCons (sVar 0) (sNil))))
    (sSeq (sBad)
    (sBad))
def F_expand : List D → M D := runDef 1 b_expand
abbrev s_parse_product : Stmt := topS 25
theorem sc_parse_product : FnScope ["text", "parts", "part"] ["text"] (defScope s_parse_product) := ⟨rfl, rfl, rfl, by decide +kernel, rfl, by decide +kernel, by decide +kernel⟩
def b_parse_product : SM := sSeq (sExpr (sCall (arity 1 F_check_text) (sCons (sVar 0) (sNil))))
    (sSeq (sBad)
    (sSeq (sBad)
    (sBad)))
def F_parse_product : List D → M D := runDef 3 b_parse_product
abbrev s_format_product : Stmt := topS 26
theorem sc_format_product : FnScope ["product", "found", "row"] ["product"] (defScope s_format_product) := ⟨rfl, rfl, rfl, by decide +kernel, rfl, by decide +kernel, by decide +kernel⟩
def b_format_product : SM := sSeq (sExpr (sCall (arity 1 F_check_product) (sCons (sVar 0) (sNil))))
    (sSeq (sSet 1 (sCon (.str [])))
    (sSeq (sFor (gNm 2) (sWalkA (sVar 0))
    (sAug 1 .add (sIf (tCmpS .eq (sBlt lenD (sCons (sVar 2) (sNil))) (sCon (.int 1))) (sIx (sVar 2) (sCon (.int 0))) (sBin .add (sBin .add (sCon (.str [123])) (sMth isStr joinD (sCon (.str [44])) (sCons (sVar 2) (sNil)))) (sCon (.str [125]))))))
    (sRet (sVar 1))))
def F_format_product : List D → M D := runDef 3 b_format_product
abbrev s_law_cell_at : Stmt := topS 28
theorem sc_law_cell_at : FnScope ["script", "k"] ["script", "k"] (defScope s_law_cell_at) := ⟨rfl, rfl, rfl, by decide +kernel, rfl, by decide +kernel, by decide +kernel⟩
def b_law_cell_at : SM := sSeq (sIfS (tCmpS .lt (sVar 1) (sBlt lenD (sCons (sVar 0) (sNil)))) (sRet (sIx (sVar 0) (sVar 1))) (sSkip))
    (sRet (sCon (.int 0)))
def F_law_cell_at : List D → M D := runDef 2 b_law_cell_at
abbrev s_law_source : Stmt := topS 29
theorem sc_law_source : FnScope ["cell", "k"] ["cell", "k"] (defScope s_law_source) := ⟨rfl, rfl, rfl, by decide +kernel, rfl, by decide +kernel, by decide +kernel⟩
def b_law_source : SM := sRet (sLst true (sCons (sBlt maxD (sCons (sCon (.int 0)) (sCons (sBin .sub (sVar 0) (sBin .pow (sCon (.int 10)) (sCon (.int 18)))) (sNil)))) (sCons (sBin .add (sBin .mod (sVar 0) (sCon (.int 162259276829213363391578010288127))) (sBin .mul (sCon (.int 7919)) (sBin .add (sVar 1) (sCon (.int 1))))) (sCons (sCon (.int 0)) (sNil)))))
def F_law_source : List D → M D := runDef 2 b_law_source
abbrev s_law_draw : Stmt := topS 30
theorem sc_law_draw : FnScope ["source", "count", "found", "mixed"] ["source", "count"] (defScope s_law_draw) := ⟨rfl, rfl, rfl, by decide +kernel, rfl, by decide +kernel, by decide +kernel⟩
def b_law_draw : SM := sSeq (sIfS (tCmpS .gt (sIx (sVar 0) (sCon (.int 0))) (sCon (.int 1))) (sSeq (sSet 2 (sBin .mod (sIx (sVar 0) (sCon (.int 0))) (sVar 1)))
    (sSeq (sSetIx (sBin .fdiv (sIx (sVar 0) (sCon (.int 0))) (sVar 1)) (sVar 0) (sCon (.int 0)))
    (sRet (sVar 2)))) (sSkip))
    (sSeq (sSetIx (sBin .add (sIx (sVar 0) (sCon (.int 2))) (sCon (.int 1))) (sVar 0) (sCon (.int 2)))
    (sSeq (sSet 3 (sBin .mod (sBin .pow (sBin .add (sIx (sVar 0) (sCon (.int 1))) (sBin .mul (sCon (.int 1299709)) (sIx (sVar 0) (sCon (.int 2))))) (sCon (.int 3))) (sCon (.int 162259276829213363391578010288127))))
    (sSeq (sSet 3 (sBin .mod (sBin .pow (sBin .add (sVar 3) (sBin .mul (sCon (.int 15485863)) (sIx (sVar 0) (sCon (.int 2))))) (sCon (.int 5))) (sCon (.int 618970019642690137449562111))))
    (sRet (sBin .mod (sBin .fdiv (sVar 3) (sCon (.int 1048576))) (sVar 1))))))
def F_law_draw : List D → M D := runDef 4 b_law_draw
abbrev s_law_word : Stmt := topS 32
theorem sc_law_word : FnScope ["source", "most", "found", "k"] ["source", "most"] (defScope s_law_word) := ⟨rfl, rfl, rfl, by decide +kernel, rfl, by decide +kernel, by decide +kernel⟩
def b_law_word : SM := sSeq (sSet 2 (sCon (.str [])))
    (sSeq (sFor (gNm 3) (sRng1 (sCons (sCall (arity 2 F_law_draw) (sCons (sVar 0) (sCons (sBin .add (sVar 1) (sCon (.int 1))) (sNil)))) (sNil)))
    (sSet 2 (sBin .add (sVar 2) (sIx (sCon (.str [97, 98, 120])) (sCall (arity 2 F_law_draw) (sCons (sVar 0) (sCons (sIx (sLst false (sCons (sCon (.int 1)) (sCons (sCon (.int 2)) (sCons (sCon (.int 3)) (sNil))))) (sCall (arity 2 F_law_draw) (sCons (sVar 0) (sCons (sCon (.int 3)) (sNil))))) (sNil))))))))
    (sRet (sVar 2)))
def F_law_word : List D → M D := runDef 4 b_law_word
abbrev s_law_row : Stmt := topS 33
theorem sc_law_row : FnScope ["source", "most", "most_letters", "way", "many", "word", "tail", "k"] ["source", "most", "most_letters"] (defScope s_law_row) := ⟨rfl, rfl, rfl, by decide +kernel, rfl, by decide +kernel, by decide +kernel⟩
def b_law_row : SM := sSeq (sSet 3 (sCall (arity 2 F_law_draw) (sCons (sVar 0) (sCons (sCon (.int 5)) (sNil)))))
    (sSeq (sSet 4 (sBin .add (sCon (.int 1)) (sCall (arity 2 F_law_draw) (sCons (sVar 0) (sCons (sVar 1) (sNil))))))
    (sSeq (sSet 5 (sCall (arity 2 F_law_word) (sCons (sVar 0) (sCons (sVar 2) (sNil)))))
    (sSeq (sIfS (tCmpS .eq (sVar 3) (sCon (.int 0))) (sRet (sBinF mulU (sTup (sCons (sCon (.str [])) (sNil))) (sVar 4))) (sSkip))
    (sSeq (sIfS (tCmpS .eq (sVar 3) (sCon (.int 1))) (sSeq (sSet 6 (sCall (arity 2 F_law_word) (sCons (sVar 0) (sCons (sCon (.int 1)) (sNil)))))
    (sRet (sBlt tupleD (sCons (sComp false [7] (gNm 7) (sYes) (sBin .add (sBin .mul (sSli (sVar 5) (sNo) (sSo (sCon (.int 1)))) (sVar 7)) (sVar 6)) (sRng1 (sCons (sBlt minD (sCons (sVar 4) (sCons (sCon (.int 19)) (sNil)))) (sNil)))) (sNil))))) (sSkip))
    (sRet (sBlt tupleD (sCons (sComp false [7] (gNm 7) (sYes) (sCall (arity 2 F_law_word) (sCons (sVar 0) (sCons (sVar 2) (sNil)))) (sRng1 (sCons (sVar 4) (sNil)))) (sNil))))))))
def F_law_row : List D → M D := runDef 8 b_law_row
abbrev s_law_classes : Stmt := topS 35
theorem sc_law_classes : FnScope ["caught", "found", "pairs", "word", "holds"] ["caught"] (defScope s_law_classes) := ⟨rfl, rfl, rfl, by decide +kernel, rfl, by decide +kernel, by decide +kernel⟩
def b_law_classes : SM := sSeq (sSet 1 (sLst true (sNil)))
    (sSeq (sSet 2 (sLst true (sCons (sTup (sCons (sCon (.str [73, 110, 118, 97, 108, 105, 100, 80, 114, 111, 100, 117, 99, 116])) (sCons (sIsE [("InvalidText", false), ("InvalidProduct", true)] (sVar 0)) (sNil)))) (sNil))))
    (sSeq (sExpr (sMth isLst appendD (sVar 2) (sCons (sTup (sCons (sCon (.str [73, 110, 118, 97, 108, 105, 100, 82, 111, 119])) (sCons (sIsE [("InvalidText", false), ("InvalidProduct", false)] (sVar 0)) (sNil)))) (sNil))))
    (sSeq (sExpr (sMth isLst appendD (sVar 2) (sCons (sTup (sCons (sCon (.str [73, 110, 118, 97, 108, 105, 100, 84, 101, 120, 116])) (sCons (sIsE [("InvalidText", true), ("InvalidProduct", false)] (sVar 0)) (sNil)))) (sNil))))
    (sSeq (sExpr (sMth isLst appendD (sVar 2) (sCons (sTup (sCons (sCon (.str [73, 110, 118, 97, 108, 105, 100, 87, 111, 114, 100])) (sCons (sIsE [("InvalidText", false), ("InvalidProduct", false)] (sVar 0)) (sNil)))) (sNil))))
    (sSeq (sExpr (sMth isLst appendD (sVar 2) (sCons (sTup (sCons (sCon (.str [84, 111, 111, 77, 97, 110, 121])) (sCons (sIsE [("InvalidText", false), ("InvalidProduct", false)] (sVar 0)) (sNil)))) (sNil))))
    (sSeq (sExpr (sMth isLst appendD (sVar 2) (sCons (sTup (sCons (sCon (.str [86, 97, 108, 117, 101, 69, 114, 114, 111, 114])) (sCons (sIsE [("InvalidText", true), ("InvalidProduct", true)] (sVar 0)) (sNil)))) (sNil))))
    (sSeq (sFrzS 2)
    (sSeq (sFor (gTu 2 (gCo (gNm 3) (gCo (gNm 4) (gNi)))) (sWalkL (sVar 2))
    (sIfS (sTru (sVar 4)) (sExpr (sMth isLst appendD (sVar 1) (sCons (sVar 3) (sNil)))) (sSkip)))
    (sRet (sFrz (sVar 1)))))))))))
def F_law_classes : List D → M D := runDef 5 b_law_classes
abbrev s_law_tried : Stmt := topS 36
theorem sc_law_tried : FnScope ["pick", "thing", "caught"] ["pick", "thing"] (defScope s_law_tried) := ⟨rfl, rfl, rfl, by decide +kernel, rfl, by decide +kernel, by decide +kernel⟩
def b_law_tried : SM := sSeq (sTryV (sSeq (sIfS (tCmpS .eq (sVar 0) (sCon (.int 0))) (sExpr (sCall (arity 1 F_expand) (sCons (sVar 1) (sNil)))) (sSkip))
    (sSeq (sIfS (tCmpS .eq (sVar 0) (sCon (.int 1))) (sExpr (sCallK 0 1 [0] (arity 1 F_expand) sNil (sCons (sVar 1) (sNil)))) (sSkip))
    (sSeq (sIfS (tCmpS .eq (sVar 0) (sCon (.int 2))) (sExpr (sCall (arity 1 F_parse_product) (sCons (sVar 1) (sNil)))) (sSkip))
    (sSeq (sIfS (tCmpS .eq (sVar 0) (sCon (.int 3))) (sExpr (sCallK 0 1 [0] (arity 1 F_parse_product) sNil (sCons (sVar 1) (sNil)))) (sSkip))
    (sSeq (sIfS (tCmpS .eq (sVar 0) (sCon (.int 4))) (sExpr (sCall (arity 1 F_format_product) (sCons (sVar 1) (sNil)))) (sSkip))
    (sIfS (tCmpS .eq (sVar 0) (sCon (.int 5))) (sExpr (sCallK 0 1 [0] (arity 1 F_format_product) sNil (sCons (sVar 1) (sNil)))) (sSkip))))))) (fun nm => List.lookup nm [("InvalidText", true), ("InvalidProduct", true)]) 2 (sRet (sCall (arity 1 F_law_classes) (sCons (sVar 2) (sNil)))))
    (sRet (sLst false (sNil)))
def F_law_tried : List D → M D := runDef 3 b_law_tried
abbrev s_law_wrong_text : Stmt := topS 37
theorem sc_law_wrong_text : FnScope ["source", "good", "front", "back", "faults"] ["source"] (defScope s_law_wrong_text) := ⟨rfl, rfl, rfl, by decide +kernel, rfl, by decide +kernel, by decide +kernel⟩
def b_law_wrong_text : SM := sSeq (sSet 1 (sLst false (sCons (sCon (.str [])) (sCons (sCon (.str [97, 98])) (sCons (sCon (.str [123, 97, 44, 98, 125])) (sCons (sBin .mul (sCon (.str [123, 44, 125])) (sCon (.int 12))) (sCons (sBin .mul (sCon (.str [120, 123, 97, 44, 123, 98, 44, 99, 125, 100, 125])) (sCon (.int 9))) (sCons (sBin .mul (sCon (.str [123, 44, 125])) (sCon (.int 500))) (sNil)))))))))
    (sSeq (sSet 2 (sIx (sVar 1) (sCall (arity 2 F_law_draw) (sCons (sVar 0) (sCons (sCon (.int 6)) (sNil))))))
    (sSeq (sSet 3 (sIx (sVar 1) (sCall (arity 2 F_law_draw) (sCons (sVar 0) (sCons (sCon (.int 5)) (sNil))))))
    (sSeq (sSet 4 (sLst false (sCons (sCon (.str [123, 97, 125])) (sCons (sCon (.str [123, 125])) (sCons (sCon (.str [123, 123, 97, 44, 98, 125, 125])) (sCons (sCon (.str [44])) (sCons (sCon (.str [97, 44, 98])) (sCons (sCon (.str [125])) (sCons (sCon (.str [123, 97, 44, 98])) (sCons (sCon (.str [97, 44, 98, 125])) (sCons (sCon (.str [123, 97, 44, 123, 98, 125, 125])) (sCons (sCon (.str [65])) (sCons (sCon (.str [49])) (sNil))))))))))))))
    (sSeq (sSet 4 (sBin .add (sVar 4) (sLst false (sCons (sCon (.str [32])) (sCons (sCon (.str [45])) (sCons (sCon (.str [123, 97, 32, 98, 44, 99, 125])) (sCons (sCon (.str [123, 97, 44, 98, 125, 125])) (sCons (sCon (.str [123, 123, 97, 44, 98, 125])) (sCons (sCon (.str [123, 97, 44, 98, 125, 44])) (sCons (sCon (.str [123, 97, 59, 98, 125])) (sCons (sCon (.str [10])) (sCons (sCon (.str [91, 97, 44, 98, 93])) (sCons (sCon (.str [40, 97, 44, 98, 41])) (sCons (sCon (.str [123, 97, 44, 66, 125])) (sNil)))))))))))))))
    (sRet (sBin .add (sBin .add (sVar 2) (sIx (sVar 4) (sCall (arity 2 F_law_draw) (sCons (sVar 0) (sCons (sCon (.int 22)) (sNil)))))) (sVar 3)))))))
def F_law_wrong_text : List D → M D := runDef 5 b_law_wrong_text
abbrev s_law_wrong_product : Stmt := topS 38
theorem sc_law_wrong_product : FnScope ["source", "product_here", "way", "spot", "bad", "row_here", "place"] ["source", "product_here"] (defScope s_law_wrong_product) := ⟨rfl, rfl, rfl, by decide +kernel, rfl, by decide +kernel, by decide +kernel⟩
def b_law_wrong_product : SM := sSeq (sSet 2 (sCall (arity 2 F_law_draw) (sCons (sVar 0) (sCons (sCon (.int 3)) (sNil)))))
    (sSeq (sIfS (tCmpS .eq (sVar 2) (sCon (.int 0))) (sRet (sIx (sLst false (sCons (sCon .non) (sCons (sTup (sNil)) (sCons (sLst false (sNil)) (sCons (sBlt listS (sCons (sVar 1) (sNil))) (sCons (sCon (.str [97, 98])) (sCons (sCon (.int 5)) (sCons (sIx (sVar 1) (sCon (.int 0))) (sCons (sCon .emp) (sNil)))))))))) (sCall (arity 2 F_law_draw) (sCons (sVar 0) (sCons (sCon (.int 8)) (sNil)))))) (sSkip))
    (sSeq (sSet 3 (sCall (arity 2 F_law_draw) (sCons (sVar 0) (sCons (sBlt lenD (sCons (sVar 1) (sNil))) (sNil)))))
    (sSeq (sIfS (tCmpS .eq (sVar 2) (sCon (.int 1))) (sSeq (sSet 4 (sIx (sLst false (sCons (sCon .non) (sCons (sTup (sNil)) (sCons (sLst false (sNil)) (sCons (sCon (.str [97, 98])) (sCons (sLst false (sCons (sCon (.str [97])) (sNil))) (sCons (sCon (.int 5)) (sCons (sTup (sCons (sCon (.str [97])) (sCons (sCon .non) (sNil)))) (sCons (sTup (sCons (sTup (sNil)) (sNil))) (sNil)))))))))) (sCall (arity 2 F_law_draw) (sCons (sVar 0) (sCons (sCon (.int 8)) (sNil))))))
    (sRet (sBin .add (sBin .add (sSli (sVar 1) (sNo) (sSo (sVar 3))) (sTup (sCons (sVar 4) (sNil)))) (sSli (sVar 1) (sSo (sBin .add (sVar 3) (sCon (.int 1)))) (sNo))))) (sSkip))
    (sSeq (sSet 5 (sIx (sVar 1) (sVar 3)))
    (sSeq (sSet 6 (sCall (arity 2 F_law_draw) (sCons (sVar 0) (sCons (sBin .add (sBlt lenD (sCons (sVar 5) (sNil))) (sCon (.int 1))) (sNil)))))
    (sSeq (sSet 4 (sIx (sLst false (sCons (sCon .non) (sCons (sCon (.str [65])) (sCons (sCon (.str [97, 32, 98])) (sCons (sCon (.int 5)) (sCons (sTup (sCons (sCon (.str [97])) (sNil))) (sCons (sCon (.str [49])) (sCons (sCon (.str [97, 44])) (sCons (sCon (.str [123])) (sCons (sLst false (sCons (sCon (.str [97])) (sNil))) (sCons (sCon (.str [45])) (sNil)))))))))))) (sCall (arity 2 F_law_draw) (sCons (sVar 0) (sCons (sCon (.int 10)) (sNil))))))
    (sSeq (sSet 5 (sBin .add (sBin .add (sSli (sVar 5) (sNo) (sSo (sVar 6))) (sTup (sCons (sVar 4) (sNil)))) (sSli (sVar 5) (sSo (sVar 6)) (sNo))))
    (sRet (sBin .add (sBin .add (sSli (sVar 1) (sNo) (sSo (sVar 3))) (sTup (sCons (sVar 5) (sNil)))) (sSli (sVar 1) (sSo (sBin .add (sVar 3) (sCon (.int 1)))) (sNo)))))))))))
def F_law_wrong_product : List D → M D := runDef 7 b_law_wrong_product
abbrev s_law : Stmt := topS 39
theorem sc_law : FnScope ["script", "k", "source", "pick", "expected", "thing", "some", "before", "j"] ["script"] (defScope s_law) := ⟨rfl, rfl, rfl, by decide +kernel, rfl, by decide +kernel, by decide +kernel⟩
def b_law : SM := sSeq (sFor (gNm 1) (sRng1 (sCons (sBlt maxD (sCons (sCon (.int 16)) (sCons (sBlt minD (sCons (sCon (.int 32)) (sCons (sBlt lenD (sCons (sVar 0) (sNil))) (sNil)))) (sNil)))) (sNil)))
    (sSeq (sSet 2 (sCall (arity 2 F_law_source) (sCons (sCall (arity 2 F_law_cell_at) (sCons (sVar 0) (sCons (sVar 1) (sNil)))) (sCons (sVar 1) (sNil)))))
    (sSeq (sSet 3 (sCall (arity 2 F_law_draw) (sCons (sVar 2) (sCons (sCon (.int 6)) (sNil)))))
    (sSeq (sSet 4 (sLst false (sCons (sCon (.str [73, 110, 118, 97, 108, 105, 100, 84, 101, 120, 116])) (sCons (sCon (.str [86, 97, 108, 117, 101, 69, 114, 114, 111, 114])) (sNil)))))
    (sSeq (sIfS (tCmpS .lt (sVar 3) (sCon (.int 4))) (sSeq (sSet 5 (sCall (arity 1 F_law_wrong_text) (sCons (sVar 2) (sNil))))
    (sIfS (tCmpS .eq (sCall (arity 2 F_law_draw) (sCons (sVar 2) (sCons (sCon (.int 4)) (sNil)))) (sCon (.int 0))) (sSeq (sSet 6 (sLst false (sCons (sCon .non) (sCons (sCon (.int 5)) (sCons (sCon (.bl true)) (sCons (sLst false (sCons (sCon (.str [97])) (sNil))) (sCons (sTup (sCons (sCon (.str [97])) (sCons (sCon (.str [98])) (sNil)))) (sCons (sTup (sCons (sCon (.str [97, 98])) (sNil))) (sCons (sCon .emp) (sCons (sTup (sCons (sTup (sCons (sCon (.str [97])) (sNil))) (sNil))) (sNil)))))))))))
    (sSet 5 (sIx (sVar 6) (sCall (arity 2 F_law_draw) (sCons (sVar 2) (sCons (sCon (.int 8)) (sNil))))))) (sSkip))) (sSeq (sSet 5 (sBlt tupleD (sCons (sComp false [8] (gNm 8) (sYes) (sCall (arity 3 F_law_row) (sCons (sVar 2) (sCons (sCon (.int 6)) (sCons (sCon (.int 3)) (sNil))))) (sRng1 (sCons (sBin .add (sCon (.int 1)) (sCall (arity 2 F_law_draw) (sCons (sVar 2) (sCons (sCon (.int 9)) (sNil))))) (sNil)))) (sNil))))
    (sSeq (sIfS (tCmpF neE (sCall (arity 2 F_law_tried) (sCons (sVar 3) (sCons (sVar 5) (sNil)))) (sLst false (sNil))) (sRet (sCon (.bl false))) (sSkip))
    (sSeq (sSet 5 (sCall (arity 2 F_law_wrong_product) (sCons (sVar 2) (sCons (sVar 5) (sNil)))))
    (sSet 4 (sLst false (sCons (sCon (.str [73, 110, 118, 97, 108, 105, 100, 80, 114, 111, 100, 117, 99, 116])) (sCons (sCon (.str [86, 97, 108, 117, 101, 69, 114, 114, 111, 114])) (sNil)))))))))
    (sSeq (sSet 7 (sBlt reprE (sCons (sVar 5) (sNil))))
    (sIfS (tOrB (tCmpS .ne (sCall (arity 2 F_law_tried) (sCons (sVar 3) (sCons (sVar 5) (sNil)))) (sVar 4)) (tCmpS .ne (sBlt reprE (sCons (sVar 5) (sNil))) (sVar 7))) (sRet (sCon (.bl false))) (sSkip))))))))
    (sRet (sCon (.bl true)))
def F_law : List D → M D := runDef 9 b_law
section
variable {P : Program} {wo : World} {K : PySem.W.Frag} {mg : Str → Option Value} {base : Heap}
theorem g_is_word {f : Addr} {fd : FuncData} (F : Fun K "is_word" "is_word" s_is_word f fd) (B : Fx mg)      : FG P wo K mg base 1 f fd ["value"] (spF K mg 1 (arity 1 F_is_word)) :=
  fg_def 1 2 F sc_is_word fun cdv A out s H E hr hg => by
    have hu := huOf hr
    have nd := sc_is_word.nd
    exact (dss_one (ds_ret (de_and (de_blt cr_isiD rfl B.z_isinstance boot_isinstance (da_cons (de_var 0 rfl (.inl rfl)) (da_cons (de_tyv rfl B.z_str boot_str) da_nil))) (de_one (de_blt (cr_allD rfl) rfl B.z_all boot_all (da_cons (de_comp false (own := [("letter", 1)]) rfl nd (di_any (de_var 0 rfl (.inl rfl))) (blkOk_by rfl) (fun _ _ _ _ _ => (dg_name 1 nd rfl (.inl rfl))) (fun _ _ _ _ _ => dq_nil) (fun _ _ _ _ _ => (de_cmp .isin hu (de_var 1 rfl (.inl rfl)) (de_gloS [97, 98, 99, 100, 101, 102, 103, 104, 105, 106, 107, 108, 109, 110, 111, 112, 113, 114, 115, 116, 117, 118, 119, 120, 121, 122] rfl B.c_LETTERS)))) da_nil))))))
theorem g_is_row {f : Addr} {fd : FuncData} (F : Fun K "is_row" "is_row" s_is_row f fd) (B : Fx mg)  {f_is_word : Addr} {fd_is_word : FuncData} (O_is_word : Own P wo K mg base "is_word" 1 fd_is_word f_is_word ["value"] 1 F_is_word)    : FG P wo K mg base 2 f fd ["value"] (spF K mg 1 (arity 1 F_is_row)) :=
  fg_def 1 2 F sc_is_row fun cdv A out s H E hr hg => by
    have hu := huOf hr
    have nd := sc_is_row.nd
    exact (dss_one (ds_ret (de_and (de_blt cr_isiD rfl B.z_isinstance boot_isinstance (da_cons (de_var 0 rfl (.inl rfl)) (da_cons (de_tyv rfl B.z_tuple boot_tuple) da_nil))) (de_and (de_neE hu (de_var 0 rfl (.inl rfl)) (de_tup da_nil)) (de_one (de_blt (cr_allD rfl) rfl B.z_all boot_all (da_cons (de_comp false (own := [("word", 1)]) rfl nd (di_any (de_var 0 rfl (.inl rfl))) (blkOk_by rfl) (fun _ _ _ _ _ => (dg_name 1 nd rfl (.inl rfl))) (fun _ _ _ _ _ => dq_nil) (fun _ _ _ _ _ => (de_own O_is_word hr (by decide) hg tk0 (da_cons (de_var 1 rfl (.inl rfl)) da_nil)))) da_nil)))))))
theorem g_is_product {f : Addr} {fd : FuncData} (F : Fun K "is_product" "is_product" s_is_product f fd) (B : Fx mg)  {f_is_row : Addr} {fd_is_row : FuncData} (O_is_row : Own P wo K mg base "is_row" 2 fd_is_row f_is_row ["value"] 1 F_is_row)    : FG P wo K mg base 3 f fd ["value"] (spF K mg 1 (arity 1 F_is_product)) :=
  fg_def 1 2 F sc_is_product fun cdv A out s H E hr hg => by
    have hu := huOf hr
    have nd := sc_is_product.nd
    exact (dss_one (ds_ret (de_and (de_blt cr_isiD rfl B.z_isinstance boot_isinstance (da_cons (de_var 0 rfl (.inl rfl)) (da_cons (de_tyv rfl B.z_tuple boot_tuple) da_nil))) (de_and (de_neE hu (de_var 0 rfl (.inl rfl)) (de_tup da_nil)) (de_one (de_blt (cr_allD rfl) rfl B.z_all boot_all (da_cons (de_comp false (own := [("row", 1)]) rfl nd (di_any (de_var 0 rfl (.inl rfl))) (blkOk_by rfl) (fun _ _ _ _ _ => (dg_name 1 nd rfl (.inl rfl))) (fun _ _ _ _ _ => dq_nil) (fun _ _ _ _ _ => (de_own O_is_row hr (by decide) hg tk0 (da_cons (de_var 1 rfl (.inl rfl)) da_nil)))) da_nil)))))))
theorem g_check_product {f : Addr} {fd : FuncData} (F : Fun K "check_product" "check_product" s_check_product f fd) (B : Fx mg) {C_InvalidProduct : Addr} (T_InvalidProduct : Ex0 K mg "InvalidProduct" C_InvalidProduct) {f_is_product : Addr} {fd_is_product : FuncData} (O_is_product : Own P wo K mg base "is_product" 3 fd_is_product f_is_product ["value"] 1 F_is_product)    : FG P wo K mg base 4 f fd ["product"] (spF K mg 1 (arity 1 F_check_product)) :=
  fg_def 1 1 F sc_check_product fun cdv A out s H E hr hg => by
    have hu := huOf hr
    have nd := sc_check_product.nd
    exact (dss_one (ds_if (dt_not (dt_tru (de_own O_is_product hr (by decide) hg tkOf (da_cons (de_var 0 rfl (.inl rfl)) da_nil)))) (dss_one (ds_raise0 "InvalidProduct" rfl T_InvalidProduct rfl tkOf rfl)) dss_nil))
theorem g_is_brace_text {f : Addr} {fd : FuncData} (F : Fun K "is_brace_text" "is_brace_text" s_is_brace_text f fd) (B : Fx mg)      : FG P wo K mg base 1 f fd ["value"] (spF K mg 1 (arity 1 F_is_brace_text)) :=
  fg_def 1 3 F sc_is_brace_text fun cdv A out s H E hr hg => by
    have hu := huOf hr
    have nd := sc_is_brace_text.nd
    exact (dss_cons (ds_if (dt_not (dt_tru (de_blt cr_isiD rfl B.z_isinstance boot_isinstance (da_cons (de_var 0 rfl (.inl rfl)) (da_cons (de_tyv rfl B.z_str boot_str) da_nil))))) (dss_one (ds_ret de_bl)) dss_nil)
    (dss_cons (ds_set 1 nd rfl (.inl rfl) (de_lst true da_nil))
    (dss_cons (ds_for paOf rfl (di_any (de_var 0 rfl (.inl rfl))) (dg_name 2 nd rfl (.inl rfl)) (dss_one (ds_if (dt_cmp .eq hu (de_var 2 rfl (.inl rfl)) (de_gloS [123] rfl B.c_OPEN)) (dss_one (ds_expr (de_mth ty_lst PySem.F.plainAttrs_list PySem.F.slot_list_append PySem.F.type_list_append mr_append (de_var 1 rfl (.inl rfl)) (da_cons de_bl da_nil)))) (dss_one (ds_if (dt_w (dw_and (dt_cmp .eq hu (de_var 2 rfl (.inl rfl)) (de_gloS [44] rfl B.c_COMMA)) (dw_one_and (dt_neE hu (de_var 1 rfl (.inl rfl)) (de_lst false da_nil))))) (dss_one (ds_setIx de_bl (de_var 1 rfl (.inl rfl)) (de_neg de_int))) (dss_one (ds_if (dt_w (dw_and (dt_cmp .eq hu (de_var 2 rfl (.inl rfl)) (de_gloS [125] rfl B.c_CLOSE)) (dw_and (dt_neE hu (de_var 1 rfl (.inl rfl)) (de_lst false da_nil)) (dw_one_and (dt_tru (de_ix (de_var 1 rfl (.inl rfl)) (de_neg de_int))))))) (dss_one (ds_expr (de_mth0 ty_lst PySem.F.plainAttrs_list PySem.F.slot_list_pop PySem.F.type_list_pop mr_pop (de_var 1 rfl (.inl rfl))))) (dss_one (ds_if (dt_cmp .notin hu (de_var 2 rfl (.inl rfl)) (de_gloS [97, 98, 99, 100, 101, 102, 103, 104, 105, 106, 107, 108, 109, 110, 111, 112, 113, 114, 115, 116, 117, 118, 119, 120, 121, 122] rfl B.c_LETTERS)) (dss_one (ds_ret de_bl)) dss_nil)))))))))
    (dss_one (ds_ret (de_eqE hu (de_var 1 rfl (.inl rfl)) (de_lst false da_nil)))))))
theorem g_check_text {f : Addr} {fd : FuncData} (F : Fun K "check_text" "check_text" s_check_text f fd) (B : Fx mg) {C_InvalidText : Addr} (T_InvalidText : Ex0 K mg "InvalidText" C_InvalidText) {f_is_brace_text : Addr} {fd_is_brace_text : FuncData} (O_is_brace_text : Own P wo K mg base "is_brace_text" 1 fd_is_brace_text f_is_brace_text ["value"] 1 F_is_brace_text)    : FG P wo K mg base 2 f fd ["text"] (spF K mg 1 (arity 1 F_check_text)) :=
  fg_def 1 1 F sc_check_text fun cdv A out s H E hr hg => by
    have hu := huOf hr
    have nd := sc_check_text.nd
    exact (dss_one (ds_if (dt_not (dt_tru (de_own O_is_brace_text hr (by decide) hg tkOf (da_cons (de_var 0 rfl (.inl rfl)) da_nil)))) (dss_one (ds_raise0 "InvalidText" rfl T_InvalidText rfl tkOf rfl)) dss_nil))
theorem g_expand {f : Addr} {fd : FuncData} (F : Fun K "expand" "expand" s_expand f fd) (B : Fx mg)  {f_check_text : Addr} {fd_check_text : FuncData} (O_check_text : Own P wo K mg base "check_text" 2 fd_check_text f_check_text ["text"] 1 F_check_text)    : FG P wo K mg base 3 f fd ["text"] (spF K mg 1 (arity 1 F_expand)) :=
  fg_def 1 1 F sc_expand fun cdv A out s H E hr hg => by
    have hu := huOf hr
    have nd := sc_expand.nd
    exact (dss_cons (ds_expr (de_own O_check_text hr (by decide) hg tkOf (da_cons (de_var 0 rfl (.inl rfl)) da_nil)))
    (dss_cons ds_never
    (dss_one ds_never)))
theorem g_parse_product {f : Addr} {fd : FuncData} (F : Fun K "parse_product" "parse_product" s_parse_product f fd) (B : Fx mg)  {f_check_text : Addr} {fd_check_text : FuncData} (O_check_text : Own P wo K mg base "check_text" 2 fd_check_text f_check_text ["text"] 1 F_check_text)    : FG P wo K mg base 3 f fd ["text"] (spF K mg 1 (arity 1 F_parse_product)) :=
  fg_def 1 3 F sc_parse_product fun cdv A out s H E hr hg => by
    have hu := huOf hr
    have nd := sc_parse_product.nd
    exact (dss_cons (ds_expr (de_own O_check_text hr (by decide) hg tkOf (da_cons (de_var 0 rfl (.inl rfl)) da_nil)))
    (dss_cons ds_never
    (dss_cons ds_never
    (dss_one ds_never))))
theorem g_format_product {f : Addr} {fd : FuncData} (F : Fun K "format_product" "format_product" s_format_product f fd) (B : Fx mg)  {f_check_product : Addr} {fd_check_product : FuncData} (O_check_product : Own P wo K mg base "check_product" 4 fd_check_product f_check_product ["product"] 1 F_check_product)    : FG P wo K mg base 5 f fd ["product"] (spF K mg 1 (arity 1 F_format_product)) :=
  fg_def 1 3 F sc_format_product fun cdv A out s H E hr hg => by
    have hu := huOf hr
    have nd := sc_format_product.nd
    exact (dss_cons (ds_expr (de_own O_check_product hr (by decide) hg tkOf (da_cons (de_var 0 rfl (.inl rfl)) da_nil)))
    (dss_cons (ds_set 1 nd rfl (.inl rfl) (de_str []))
    (dss_cons (ds_for paOf rfl (di_any (de_var 0 rfl (.inl rfl))) (dg_name 2 nd rfl (.inl rfl)) (dss_one (ds_aug 1 .add nd rfl (.inl rfl) (de_if (dt_cmp .eq hu (de_blt cr_len rfl B.z_len boot_len (da_cons (de_var 2 rfl (.inl rfl)) da_nil)) de_int) (de_ix (de_var 2 rfl (.inl rfl)) de_int) (de_bin .add (de_bin .add (de_gloS [123] rfl B.c_OPEN) (de_mth ty_str PySem.F.plainAttrs_str PySem.F.slot_str_join PySem.F.type_str_join mr_join (de_gloS [44] rfl B.c_COMMA) (da_cons (de_var 2 rfl (.inl rfl)) da_nil))) (de_gloS [125] rfl B.c_CLOSE))))))
    (dss_one (ds_ret (de_var 1 rfl (.inl rfl)))))))
theorem g_law_cell_at {f : Addr} {fd : FuncData} (F : Fun K "_law_cell_at" "_law_cell_at" s_law_cell_at f fd) (B : Fx mg)      : FG P wo K mg base 1 f fd ["script", "k"] (spF K mg 2 (arity 2 F_law_cell_at)) :=
  fg_def 2 2 F sc_law_cell_at fun cdv A out s H E hr hg => by
    have hu := huOf hr
    have nd := sc_law_cell_at.nd
    exact (dss_cons (ds_if (dt_cmp .lt hu (de_var 1 rfl (.inl rfl)) (de_blt cr_len rfl B.z_len boot_len (da_cons (de_var 0 rfl (.inl rfl)) da_nil))) (dss_one (ds_ret (de_ix (de_var 0 rfl (.inl rfl)) (de_var 1 rfl (.inl rfl))))) dss_nil)
    (dss_one (ds_ret de_int)))
theorem g_law_source {f : Addr} {fd : FuncData} (F : Fun K "_law_source" "_law_source" s_law_source f fd) (B : Fx mg)      : FG P wo K mg base 1 f fd ["cell", "k"] (spF K mg 2 (arity 2 F_law_source)) :=
  fg_def 2 2 F sc_law_source fun cdv A out s H E hr hg => by
    have hu := huOf hr
    have nd := sc_law_source.nd
    exact (dss_one (ds_ret (de_lst true (da_cons (de_blt (cr_maxD rfl) rfl B.z_max boot_max (da_cons de_int (da_cons (de_bin .sub (de_var 0 rfl (.inl rfl)) (de_bin .pow de_int de_int)) da_nil))) (da_cons (de_bin .add (de_bin .mod (de_var 0 rfl (.inl rfl)) de_int) (de_bin .mul de_int (de_bin .add (de_var 1 rfl (.inl rfl)) de_int))) (da_cons de_int da_nil))))))
theorem g_law_draw {f : Addr} {fd : FuncData} (F : Fun K "_law_draw" "_law_draw" s_law_draw f fd) (B : Fx mg)      : FG P wo K mg base 1 f fd ["source", "count"] (spF K mg 2 (arity 2 F_law_draw)) :=
  fg_def 2 4 F sc_law_draw fun cdv A out s H E hr hg => by
    have hu := huOf hr
    have nd := sc_law_draw.nd
    exact (dss_cons (ds_if (dt_cmp .gt hu (de_ix (de_var 0 rfl (.inl rfl)) de_int) de_int) (dss_cons (ds_set 2 nd rfl (.inl rfl) (de_bin .mod (de_ix (de_var 0 rfl (.inl rfl)) de_int) (de_var 1 rfl (.inl rfl))))
    (dss_cons (ds_setIx (de_bin .fdiv (de_ix (de_var 0 rfl (.inl rfl)) de_int) (de_var 1 rfl (.inl rfl))) (de_var 0 rfl (.inl rfl)) de_int)
    (dss_one (ds_ret (de_var 2 rfl (.inl rfl)))))) dss_nil)
    (dss_cons (ds_setIx (de_bin .add (de_ix (de_var 0 rfl (.inl rfl)) de_int) de_int) (de_var 0 rfl (.inl rfl)) de_int)
    (dss_cons (ds_set 3 nd rfl (.inl rfl) (de_bin .mod (de_bin .pow (de_bin .add (de_ix (de_var 0 rfl (.inl rfl)) de_int) (de_bin .mul de_int (de_ix (de_var 0 rfl (.inl rfl)) de_int))) de_int) de_int))
    (dss_cons (ds_set 3 nd rfl (.inl rfl) (de_bin .mod (de_bin .pow (de_bin .add (de_var 3 rfl (.inl rfl)) (de_bin .mul de_int (de_ix (de_var 0 rfl (.inl rfl)) de_int))) de_int) de_int))
    (dss_one (ds_ret (de_bin .mod (de_bin .fdiv (de_var 3 rfl (.inl rfl)) de_int) (de_var 1 rfl (.inl rfl)))))))))
theorem g_law_word {f : Addr} {fd : FuncData} (F : Fun K "_law_word" "_law_word" s_law_word f fd) (B : Fx mg)  {f_law_draw : Addr} {fd_law_draw : FuncData} (O_law_draw : Own P wo K mg base "_law_draw" 1 fd_law_draw f_law_draw ["source", "count"] 2 F_law_draw)    : FG P wo K mg base 2 f fd ["source", "most"] (spF K mg 2 (arity 2 F_law_word)) :=
  fg_def 2 4 F sc_law_word fun cdv A out s H E hr hg => by
    have hu := huOf hr
    have nd := sc_law_word.nd
    exact (dss_cons (ds_set 2 nd rfl (.inl rfl) (de_str []))
    (dss_cons (ds_for paOf rfl (di_rng1 B.z_range (da_cons (de_own O_law_draw hr (by decide) hg tkOf (da_cons (de_var 0 rfl (.inl rfl)) (da_cons (de_bin .add (de_var 1 rfl (.inl rfl)) de_int) da_nil))) da_nil)) (dg_name 3 nd rfl (.inl rfl)) (dss_one (ds_set 2 nd rfl (.inl rfl) (de_bin .add (de_var 2 rfl (.inl rfl)) (de_ix (de_str [97, 98, 120]) (de_own O_law_draw hr (by decide) hg tkOf (da_cons (de_var 0 rfl (.inl rfl)) (da_cons (de_ix (de_lst false (da_cons de_int (da_cons de_int (da_cons de_int da_nil)))) (de_own O_law_draw hr (by decide) hg tkOf (da_cons (de_var 0 rfl (.inl rfl)) (da_cons de_int da_nil)))) da_nil))))))))
    (dss_one (ds_ret (de_var 2 rfl (.inl rfl))))))
theorem g_law_row {f : Addr} {fd : FuncData} (F : Fun K "_law_row" "_law_row" s_law_row f fd) (B : Fx mg)  {f_law_draw : Addr} {fd_law_draw : FuncData} (O_law_draw : Own P wo K mg base "_law_draw" 1 fd_law_draw f_law_draw ["source", "count"] 2 F_law_draw) {f_law_word : Addr} {fd_law_word : FuncData} (O_law_word : Own P wo K mg base "_law_word" 2 fd_law_word f_law_word ["source", "most"] 2 F_law_word)    : FG P wo K mg base 3 f fd ["source", "most", "most_letters"] (spF K mg 3 (arity 3 F_law_row)) :=
  fg_def 3 8 F sc_law_row fun cdv A out s H E hr hg => by
    have hu := huOf hr
    have nd := sc_law_row.nd
    exact (dss_cons (ds_set 3 nd rfl (.inl rfl) (de_own O_law_draw hr (by decide) hg tkOf (da_cons (de_var 0 rfl (.inr (.inl rfl))) (da_cons de_int da_nil))))
    (dss_cons (ds_set 4 nd rfl (.inl rfl) (de_bin .add de_int (de_own O_law_draw hr (by decide) hg tkOf (da_cons (de_var 0 rfl (.inr (.inl rfl))) (da_cons (de_var 1 rfl (.inl rfl)) da_nil)))))
    (dss_cons (ds_set 5 nd rfl (.inr rfl) (de_own O_law_word hr (by decide) hg tkOf (da_cons (de_var 0 rfl (.inr (.inl rfl))) (da_cons (de_var 2 rfl (.inr (.inl rfl))) da_nil))))
    (dss_cons (ds_if (dt_cmp .eq hu (de_var 3 rfl (.inl rfl)) de_int) (dss_one (ds_ret (de_mulU (de_tup (da_cons (de_str []) da_nil)) (de_var 4 rfl (.inl rfl))))) dss_nil)
    (dss_cons (ds_if (dt_cmp .eq hu (de_var 3 rfl (.inl rfl)) de_int) (dss_cons (ds_set 6 nd rfl (.inr rfl) (de_own O_law_word hr (by decide) hg tkOf (da_cons (de_var 0 rfl (.inr (.inl rfl))) (da_cons de_int da_nil))))
    (dss_one (ds_ret (de_bty cr_tupleD rfl B.z_tuple boot_tuple (da_cons (de_comp false (own := [("k", 7)]) rfl nd (di_rng1 B.z_range (da_cons (de_blt (cr_minD rfl) rfl B.z_min boot_min (da_cons (de_var 4 rfl (.inl rfl)) (da_cons de_int da_nil))) da_nil)) (blkOk_by rfl) (fun _ _ _ _ _ => (dg_name 7 nd rfl (.inl rfl))) (fun _ _ _ _ _ => dq_nil) (fun _ _ _ _ _ => (de_bin .add (de_bin .mul (de_sli (de_var 5 rfl (.inr (.inl rfl))) do_none (do_some de_int)) (de_var 7 rfl (.inl rfl))) (de_var 6 rfl (.inr (.inl rfl)))))) da_nil))))) dss_nil)
    (dss_one (ds_ret (de_bty cr_tupleD rfl B.z_tuple boot_tuple (da_cons (de_comp false (own := [("k", 7)]) rfl nd (di_rng1 B.z_range (da_cons (de_var 4 rfl (.inl rfl)) da_nil)) (blkOk_by rfl) (fun _ _ _ _ _ => (dg_name 7 nd rfl (.inl rfl))) (fun _ _ _ _ _ => dq_nil) (fun _ _ _ _ _ => (de_own O_law_word hr (by decide) hg tk0 (da_cons (de_var 0 rfl (.inr (.inl rfl))) (da_cons (de_var 2 rfl (.inr (.inl rfl))) da_nil))))) da_nil)))))))))
theorem h_law_classes {f : Addr} {fd : FuncData} (F : Fun K "_law_classes" "_law_classes" s_law_classes f fd) (B : Fx mg)   (XN_InvalidProduct : KNE K mg "InvalidProduct" [("InvalidText", false), ("InvalidProduct", true)]) (XN_InvalidRow : KNE K mg "InvalidRow" [("InvalidText", false), ("InvalidProduct", false)]) (XN_InvalidText : KNE K mg "InvalidText" [("InvalidText", true), ("InvalidProduct", false)]) (XN_InvalidWord : KNE K mg "InvalidWord" [("InvalidText", false), ("InvalidProduct", false)]) (XN_TooMany : KNE K mg "TooMany" [("InvalidText", false), ("InvalidProduct", false)]) (XB_ValueError : KNB K "ValueError" [("InvalidText", true), ("InvalidProduct", true)]) : FGH P wo K mg base 1 f fd ["caught"] (spF K mg 1 (arity 1 F_law_classes)) :=
  fgh_def 1 5 F sc_law_classes fun cdv A out s H E hr hg hot => by
    have hu := huH hr
    have nd := sc_law_classes.nd
    exact (dss_cons (ds_set 1 nd rfl (.inl rfl) (de_lst true da_nil))
    (dss_cons (ds_set 2 nd rfl (.inl rfl) (de_lst true (da_cons (de_tup (da_cons (de_str [73, 110, 118, 97, 108, 105, 100, 80, 114, 111, 100, 117, 99, 116]) (da_cons (de_isE (T := "InvalidProduct") rfl XN_InvalidProduct B.z_isinstance (de_var 0 rfl (.inl rfl))) da_nil))) da_nil)))
    (dss_cons (ds_expr (de_mth ty_lst PySem.F.plainAttrs_list PySem.F.slot_list_append PySem.F.type_list_append mr_append (de_var 2 rfl (.inl rfl)) (da_cons (de_tup (da_cons (de_str [73, 110, 118, 97, 108, 105, 100, 82, 111, 119]) (da_cons (de_isE (T := "InvalidRow") rfl XN_InvalidRow B.z_isinstance (de_var 0 rfl (.inl rfl))) da_nil))) da_nil)))
    (dss_cons (ds_expr (de_mth ty_lst PySem.F.plainAttrs_list PySem.F.slot_list_append PySem.F.type_list_append mr_append (de_var 2 rfl (.inl rfl)) (da_cons (de_tup (da_cons (de_str [73, 110, 118, 97, 108, 105, 100, 84, 101, 120, 116]) (da_cons (de_isE (T := "InvalidText") rfl XN_InvalidText B.z_isinstance (de_var 0 rfl (.inl rfl))) da_nil))) da_nil)))
    (dss_cons (ds_expr (de_mth ty_lst PySem.F.plainAttrs_list PySem.F.slot_list_append PySem.F.type_list_append mr_append (de_var 2 rfl (.inl rfl)) (da_cons (de_tup (da_cons (de_str [73, 110, 118, 97, 108, 105, 100, 87, 111, 114, 100]) (da_cons (de_isE (T := "InvalidWord") rfl XN_InvalidWord B.z_isinstance (de_var 0 rfl (.inl rfl))) da_nil))) da_nil)))
    (dss_cons (ds_expr (de_mth ty_lst PySem.F.plainAttrs_list PySem.F.slot_list_append PySem.F.type_list_append mr_append (de_var 2 rfl (.inl rfl)) (da_cons (de_tup (da_cons (de_str [84, 111, 111, 77, 97, 110, 121]) (da_cons (de_isE (T := "TooMany") rfl XN_TooMany B.z_isinstance (de_var 0 rfl (.inl rfl))) da_nil))) da_nil)))
    (dss_cons (ds_expr (de_mth ty_lst PySem.F.plainAttrs_list PySem.F.slot_list_append PySem.F.type_list_append mr_append (de_var 2 rfl (.inl rfl)) (da_cons (de_tup (da_cons (de_str [86, 97, 108, 117, 101, 69, 114, 114, 111, 114]) (da_cons (de_isEB (T := "ValueError") B.z_ValueError boot_ValueError XB_ValueError B.z_isinstance (de_var 0 rfl (.inl rfl))) da_nil))) da_nil)))
    (dss_frz 2
    (dss_cons (ds_forF paF hot (di_listF (de_var 2 rfl (.inl rfl))) (dg_tupF hot (dgs_cons (dg_name 3 nd rfl (.inl rfl)) (dgs_cons (dg_name 4 nd rfl (.inl rfl)) dgs_nil))) (dss_one (ds_if (dt_tru (de_var 4 rfl (.inl rfl))) (dss_one (ds_expr (de_mth ty_lst PySem.F.plainAttrs_list PySem.F.slot_list_append PySem.F.type_list_append mr_append (de_var 1 rfl (.inl rfl)) (da_cons (de_var 3 rfl (.inl rfl)) da_nil)))) dss_nil)))
    (dss_one (ds_ret (de_frz (de_var 1 rfl (.inl rfl))))))))))))))
theorem g_law_tried {f : Addr} {fd : FuncData} (F : Fun K "_law_tried" "_law_tried" s_law_tried f fd) (B : Fx mg) {C_BraceError : Addr} (T_BraceError : Ex0 K mg "BraceError" C_BraceError) {C_InvalidText : Addr} (T_InvalidText : Ex0 K mg "InvalidText" C_InvalidText) {C_InvalidProduct : Addr} (T_InvalidProduct : Ex0 K mg "InvalidProduct" C_InvalidProduct) (x_InvalidText_BraceError : PySem.W.exmOne K (.ref C_InvalidText) (.ref C_BraceError) = some true) (x_InvalidProduct_BraceError : PySem.W.exmOne K (.ref C_InvalidProduct) (.ref C_BraceError) = some true) {f_expand : Addr} {fd_expand : FuncData} (O_expand : Own P wo K mg base "expand" 3 fd_expand f_expand ["text"] 1 F_expand) {f_parse_product : Addr} {fd_parse_product : FuncData} (O_parse_product : Own P wo K mg base "parse_product" 3 fd_parse_product f_parse_product ["text"] 1 F_parse_product) {f_format_product : Addr} {fd_format_product : FuncData} (O_format_product : Own P wo K mg base "format_product" 5 fd_format_product f_format_product ["product"] 1 F_format_product) {g_law_classes : Addr} {gd_law_classes : FuncData} (H_law_classes : OwnH P wo K mg base "_law_classes" 1 gd_law_classes g_law_classes ["caught"] 1 F_law_classes) (kb_expand_text_0 : KB fd_expand ["text"] ["text"] 0 [0]) (kb_format_product_product_0 : KB fd_format_product ["product"] ["product"] 0 [0]) (kb_parse_product_text_0 : KB fd_parse_product ["text"] ["text"] 0 [0]) (IC_InvalidText : isC K "InvalidText" C_InvalidText) (IC_InvalidProduct : isC K "InvalidProduct" C_InvalidProduct) : FG P wo K mg base 6 f fd ["pick", "thing"] (spF K mg 2 (arity 2 F_law_tried)) :=
  fg_def 2 3 F sc_law_tried fun cdv A out s H E hr hg => by
    have hu := huOf hr
    have nd := sc_law_tried.nd
    exact (dss_cons (ds_try_val (i := 2) (fun nm => List.lookup nm [("InvalidText", true), ("InvalidProduct", true)]) (htest_name ⟨rfl, by decide, .inl T_BraceError.g⟩) (subs_cons (m := fun cls => PySem.W.exmOne K cls (.ref C_BraceError)) T_InvalidText.g IC_InvalidText x_InvalidText_BraceError (subs_cons (m := fun cls => PySem.W.exmOne K cls (.ref C_BraceError)) T_InvalidProduct.g IC_InvalidProduct x_InvalidProduct_BraceError (subs_nil (m := fun cls => PySem.W.exmOne K cls (.ref C_BraceError))))) tkOf rfl nd (fun W pn xe tk pa => (dss_cons (ds_if (dt_cmp .eq hu (de_var 0 rfl (.inl rfl)) de_int) (dss_one (ds_expr (de_own O_expand hr (by decide) hg tk (da_cons (de_var 1 rfl (.inl rfl)) da_nil)))) dss_nil)
    (dss_cons (ds_if (dt_cmp .eq hu (de_var 0 rfl (.inl rfl)) de_int) (dss_one (ds_expr (de_ownK0 1 [0] O_expand kb_expand_text_0 hr (by decide) hg tk (dk_cons (de_var 1 rfl (.inl rfl)) dk_nil)))) dss_nil)
    (dss_cons (ds_if (dt_cmp .eq hu (de_var 0 rfl (.inl rfl)) de_int) (dss_one (ds_expr (de_own O_parse_product hr (by decide) hg tk (da_cons (de_var 1 rfl (.inl rfl)) da_nil)))) dss_nil)
    (dss_cons (ds_if (dt_cmp .eq hu (de_var 0 rfl (.inl rfl)) de_int) (dss_one (ds_expr (de_ownK0 1 [0] O_parse_product kb_parse_product_text_0 hr (by decide) hg tk (dk_cons (de_var 1 rfl (.inl rfl)) dk_nil)))) dss_nil)
    (dss_cons (ds_if (dt_cmp .eq hu (de_var 0 rfl (.inl rfl)) de_int) (dss_one (ds_expr (de_own O_format_product hr (by decide) hg tk (da_cons (de_var 1 rfl (.inl rfl)) da_nil)))) dss_nil)
    (dss_one (ds_if (dt_cmp .eq hu (de_var 0 rfl (.inl rfl)) de_int) (dss_one (ds_expr (de_ownK0 1 [0] O_format_product kb_format_product_product_0 hr (by decide) hg tk (dk_cons (de_var 1 rfl (.inl rfl)) dk_nil)))) dss_nil)))))))) (fun a oe pn hot => by have hr := roomH_mk hr (some (.ref a)); exact (dss_one (ds_ret (de_ownH H_law_classes hr (by decide) hot hg tk0 (da_cons (de_var 2 rfl (.inl rfl)) da_nil))))))
    (dss_one (ds_ret (de_lst false da_nil))))
theorem g_law_wrong_text {f : Addr} {fd : FuncData} (F : Fun K "_law_wrong_text" "_law_wrong_text" s_law_wrong_text f fd) (B : Fx mg)  {f_law_draw : Addr} {fd_law_draw : FuncData} (O_law_draw : Own P wo K mg base "_law_draw" 1 fd_law_draw f_law_draw ["source", "count"] 2 F_law_draw)    : FG P wo K mg base 2 f fd ["source"] (spF K mg 1 (arity 1 F_law_wrong_text)) :=
  fg_def 1 5 F sc_law_wrong_text fun cdv A out s H E hr hg => by
    have hu := huOf hr
    have nd := sc_law_wrong_text.nd
    exact (dss_cons (ds_set 1 nd rfl (.inl rfl) (de_lst false (da_cons (de_str []) (da_cons (de_str [97, 98]) (da_cons (de_str [123, 97, 44, 98, 125]) (da_cons (de_bin .mul (de_str [123, 44, 125]) de_int) (da_cons (de_bin .mul (de_str [120, 123, 97, 44, 123, 98, 44, 99, 125, 100, 125]) de_int) (da_cons (de_bin .mul (de_str [123, 44, 125]) de_int) da_nil))))))))
    (dss_cons (ds_set 2 nd rfl (.inl rfl) (de_ix (de_var 1 rfl (.inl rfl)) (de_own O_law_draw hr (by decide) hg tkOf (da_cons (de_var 0 rfl (.inl rfl)) (da_cons de_int da_nil)))))
    (dss_cons (ds_set 3 nd rfl (.inl rfl) (de_ix (de_var 1 rfl (.inl rfl)) (de_own O_law_draw hr (by decide) hg tkOf (da_cons (de_var 0 rfl (.inl rfl)) (da_cons de_int da_nil)))))
    (dss_cons (ds_set 4 nd rfl (.inl rfl) (de_lst false (da_cons (de_str [123, 97, 125]) (da_cons (de_str [123, 125]) (da_cons (de_str [123, 123, 97, 44, 98, 125, 125]) (da_cons (de_str [44]) (da_cons (de_str [97, 44, 98]) (da_cons (de_str [125]) (da_cons (de_str [123, 97, 44, 98]) (da_cons (de_str [97, 44, 98, 125]) (da_cons (de_str [123, 97, 44, 123, 98, 125, 125]) (da_cons (de_str [65]) (da_cons (de_str [49]) da_nil)))))))))))))
    (dss_cons (ds_set 4 nd rfl (.inl rfl) (de_bin .add (de_var 4 rfl (.inl rfl)) (de_lst false (da_cons (de_str [32]) (da_cons (de_str [45]) (da_cons (de_str [123, 97, 32, 98, 44, 99, 125]) (da_cons (de_str [123, 97, 44, 98, 125, 125]) (da_cons (de_str [123, 123, 97, 44, 98, 125]) (da_cons (de_str [123, 97, 44, 98, 125, 44]) (da_cons (de_str [123, 97, 59, 98, 125]) (da_cons (de_str [10]) (da_cons (de_str [91, 97, 44, 98, 93]) (da_cons (de_str [40, 97, 44, 98, 41]) (da_cons (de_str [123, 97, 44, 66, 125]) da_nil))))))))))))))
    (dss_one (ds_ret (de_bin .add (de_bin .add (de_var 2 rfl (.inl rfl)) (de_ix (de_var 4 rfl (.inl rfl)) (de_own O_law_draw hr (by decide) hg tkOf (da_cons (de_var 0 rfl (.inl rfl)) (da_cons de_int da_nil))))) (de_var 3 rfl (.inl rfl))))))))))
theorem g_law_wrong_product {f : Addr} {fd : FuncData} (F : Fun K "_law_wrong_product" "_law_wrong_product" s_law_wrong_product f fd) (B : Fx mg)  {f_law_draw : Addr} {fd_law_draw : FuncData} (O_law_draw : Own P wo K mg base "_law_draw" 1 fd_law_draw f_law_draw ["source", "count"] 2 F_law_draw)    : FG P wo K mg base 2 f fd ["source", "product_here"] (spF K mg 2 (arity 2 F_law_wrong_product)) :=
  fg_def 2 7 F sc_law_wrong_product fun cdv A out s H E hr hg => by
    have hu := huOf hr
    have nd := sc_law_wrong_product.nd
    exact (dss_cons (ds_set 2 nd rfl (.inl rfl) (de_own O_law_draw hr (by decide) hg tkOf (da_cons (de_var 0 rfl (.inl rfl)) (da_cons de_int da_nil))))
    (dss_cons (ds_if (dt_cmp .eq hu (de_var 2 rfl (.inl rfl)) de_int) (dss_one (ds_ret (de_ix (de_lst false (da_cons de_non (da_cons (de_tup da_nil) (da_cons (de_lst false da_nil) (da_cons (de_bty (cr_listS rfl) rfl B.z_list boot_list (da_cons (de_var 1 rfl (.inl rfl)) da_nil)) (da_cons (de_str [97, 98]) (da_cons de_int (da_cons (de_ix (de_var 1 rfl (.inl rfl)) de_int) (da_cons de_emp da_nil))))))))) (de_own O_law_draw hr (by decide) hg tkOf (da_cons (de_var 0 rfl (.inl rfl)) (da_cons de_int da_nil)))))) dss_nil)
    (dss_cons (ds_set 3 nd rfl (.inl rfl) (de_own O_law_draw hr (by decide) hg tkOf (da_cons (de_var 0 rfl (.inl rfl)) (da_cons (de_blt cr_len rfl B.z_len boot_len (da_cons (de_var 1 rfl (.inl rfl)) da_nil)) da_nil))))
    (dss_cons (ds_if (dt_cmp .eq hu (de_var 2 rfl (.inl rfl)) de_int) (dss_cons (ds_set 4 nd rfl (.inl rfl) (de_ix (de_lst false (da_cons de_non (da_cons (de_tup da_nil) (da_cons (de_lst false da_nil) (da_cons (de_str [97, 98]) (da_cons (de_lst false (da_cons (de_str [97]) da_nil)) (da_cons de_int (da_cons (de_tup (da_cons (de_str [97]) (da_cons de_non da_nil))) (da_cons (de_tup (da_cons (de_tup da_nil) da_nil)) da_nil))))))))) (de_own O_law_draw hr (by decide) hg tkOf (da_cons (de_var 0 rfl (.inl rfl)) (da_cons de_int da_nil)))))
    (dss_one (ds_ret (de_bin .add (de_bin .add (de_sli (de_var 1 rfl (.inl rfl)) do_none (do_some (de_var 3 rfl (.inl rfl)))) (de_tup (da_cons (de_var 4 rfl (.inl rfl)) da_nil))) (de_sli (de_var 1 rfl (.inl rfl)) (do_some (de_bin .add (de_var 3 rfl (.inl rfl)) de_int)) do_none))))) dss_nil)
    (dss_cons (ds_set 5 nd rfl (.inl rfl) (de_ix (de_var 1 rfl (.inl rfl)) (de_var 3 rfl (.inl rfl))))
    (dss_cons (ds_set 6 nd rfl (.inl rfl) (de_own O_law_draw hr (by decide) hg tkOf (da_cons (de_var 0 rfl (.inl rfl)) (da_cons (de_bin .add (de_blt cr_len rfl B.z_len boot_len (da_cons (de_var 5 rfl (.inl rfl)) da_nil)) de_int) da_nil))))
    (dss_cons (ds_set 4 nd rfl (.inl rfl) (de_ix (de_lst false (da_cons de_non (da_cons (de_str [65]) (da_cons (de_str [97, 32, 98]) (da_cons de_int (da_cons (de_tup (da_cons (de_str [97]) da_nil)) (da_cons (de_str [49]) (da_cons (de_str [97, 44]) (da_cons (de_str [123]) (da_cons (de_lst false (da_cons (de_str [97]) da_nil)) (da_cons (de_str [45]) da_nil))))))))))) (de_own O_law_draw hr (by decide) hg tkOf (da_cons (de_var 0 rfl (.inl rfl)) (da_cons de_int da_nil)))))
    (dss_cons (ds_set 5 nd rfl (.inl rfl) (de_bin .add (de_bin .add (de_sli (de_var 5 rfl (.inl rfl)) do_none (do_some (de_var 6 rfl (.inl rfl)))) (de_tup (da_cons (de_var 4 rfl (.inl rfl)) da_nil))) (de_sli (de_var 5 rfl (.inl rfl)) (do_some (de_var 6 rfl (.inl rfl))) do_none)))
    (dss_one (ds_ret (de_bin .add (de_bin .add (de_sli (de_var 1 rfl (.inl rfl)) do_none (do_some (de_var 3 rfl (.inl rfl)))) (de_tup (da_cons (de_var 5 rfl (.inl rfl)) da_nil))) (de_sli (de_var 1 rfl (.inl rfl)) (do_some (de_bin .add (de_var 3 rfl (.inl rfl)) de_int)) do_none))))))))))))
theorem g_law {f : Addr} {fd : FuncData} (F : Fun K "law" "law" s_law f fd) (B : Fx mg)  {f_law_source : Addr} {fd_law_source : FuncData} (O_law_source : Own P wo K mg base "_law_source" 1 fd_law_source f_law_source ["cell", "k"] 2 F_law_source) {f_law_cell_at : Addr} {fd_law_cell_at : FuncData} (O_law_cell_at : Own P wo K mg base "_law_cell_at" 1 fd_law_cell_at f_law_cell_at ["script", "k"] 2 F_law_cell_at) {f_law_draw : Addr} {fd_law_draw : FuncData} (O_law_draw : Own P wo K mg base "_law_draw" 1 fd_law_draw f_law_draw ["source", "count"] 2 F_law_draw) {f_law_wrong_text : Addr} {fd_law_wrong_text : FuncData} (O_law_wrong_text : Own P wo K mg base "_law_wrong_text" 2 fd_law_wrong_text f_law_wrong_text ["source"] 1 F_law_wrong_text) {f_law_row : Addr} {fd_law_row : FuncData} (O_law_row : Own P wo K mg base "_law_row" 3 fd_law_row f_law_row ["source", "most", "most_letters"] 3 F_law_row) {f_law_tried : Addr} {fd_law_tried : FuncData} (O_law_tried : Own P wo K mg base "_law_tried" 6 fd_law_tried f_law_tried ["pick", "thing"] 2 F_law_tried) {f_law_wrong_product : Addr} {fd_law_wrong_product : FuncData} (O_law_wrong_product : Own P wo K mg base "_law_wrong_product" 2 fd_law_wrong_product f_law_wrong_product ["source", "product_here"] 2 F_law_wrong_product)    : FG P wo K mg base 7 f fd ["script"] (spF K mg 1 (arity 1 F_law)) :=
  fg_def 1 9 F sc_law fun cdv A out s H E hr hg => by
    have hu := huOf hr
    have nd := sc_law.nd
    exact (dss_cons (ds_for paOf rfl (di_rng1 B.z_range (da_cons (de_blt (cr_maxD rfl) rfl B.z_max boot_max (da_cons de_int (da_cons (de_blt (cr_minD rfl) rfl B.z_min boot_min (da_cons de_int (da_cons (de_blt cr_len rfl B.z_len boot_len (da_cons (de_var 0 rfl (.inl rfl)) da_nil)) da_nil))) da_nil))) da_nil)) (dg_name 1 nd rfl (.inl rfl)) (dss_cons (ds_set 2 nd rfl (.inr rfl) (de_own O_law_source hr (by decide) hg tkOf (da_cons (de_own O_law_cell_at hr (by decide) hg tkOf (da_cons (de_var 0 rfl (.inl rfl)) (da_cons (de_var 1 rfl (.inl rfl)) da_nil))) (da_cons (de_var 1 rfl (.inl rfl)) da_nil))))
    (dss_cons (ds_set 3 nd rfl (.inl rfl) (de_own O_law_draw hr (by decide) hg tkOf (da_cons (de_var 2 rfl (.inr (.inl rfl))) (da_cons de_int da_nil))))
    (dss_cons (ds_set 4 nd rfl (.inl rfl) (de_lst false (da_cons (de_str [73, 110, 118, 97, 108, 105, 100, 84, 101, 120, 116]) (da_cons (de_str [86, 97, 108, 117, 101, 69, 114, 114, 111, 114]) da_nil))))
    (dss_cons (ds_if (dt_cmp .lt hu (de_var 3 rfl (.inl rfl)) de_int) (dss_cons (ds_set 5 nd rfl (.inl rfl) (de_own O_law_wrong_text hr (by decide) hg tkOf (da_cons (de_var 2 rfl (.inr (.inl rfl))) da_nil)))
    (dss_one (ds_if (dt_cmp .eq hu (de_own O_law_draw hr (by decide) hg tkOf (da_cons (de_var 2 rfl (.inr (.inl rfl))) (da_cons de_int da_nil))) de_int) (dss_cons (ds_set 6 nd rfl (.inl rfl) (de_lst false (da_cons de_non (da_cons de_int (da_cons de_bl (da_cons (de_lst false (da_cons (de_str [97]) da_nil)) (da_cons (de_tup (da_cons (de_str [97]) (da_cons (de_str [98]) da_nil))) (da_cons (de_tup (da_cons (de_str [97, 98]) da_nil)) (da_cons de_emp (da_cons (de_tup (da_cons (de_tup (da_cons (de_str [97]) da_nil)) da_nil)) da_nil))))))))))
    (dss_one (ds_set 5 nd rfl (.inl rfl) (de_ix (de_var 6 rfl (.inl rfl)) (de_own O_law_draw hr (by decide) hg tkOf (da_cons (de_var 2 rfl (.inr (.inl rfl))) (da_cons de_int da_nil))))))) dss_nil))) (dss_cons (ds_set 5 nd rfl (.inl rfl) (de_bty cr_tupleD rfl B.z_tuple boot_tuple (da_cons (de_comp false (own := [("j", 8)]) rfl nd (di_rng1 B.z_range (da_cons (de_bin .add de_int (de_own O_law_draw hr (by decide) hg tkOf (da_cons (de_var 2 rfl (.inr (.inl rfl))) (da_cons de_int da_nil)))) da_nil)) (blkOk_by rfl) (fun _ _ _ _ _ => (dg_name 8 nd rfl (.inl rfl))) (fun _ _ _ _ _ => dq_nil) (fun _ _ _ _ _ => (de_own O_law_row hr (by decide) hg tk0 (da_cons (de_var 2 rfl (.inr (.inl rfl))) (da_cons de_int (da_cons de_int da_nil)))))) da_nil)))
    (dss_cons (ds_if (dt_neE hu (de_own O_law_tried hr (by decide) hg tkOf (da_cons (de_var 3 rfl (.inl rfl)) (da_cons (de_var 5 rfl (.inl rfl)) da_nil))) (de_lst false da_nil)) (dss_one (ds_ret de_bl)) dss_nil)
    (dss_cons (ds_set 5 nd rfl (.inl rfl) (de_own O_law_wrong_product hr (by decide) hg tkOf (da_cons (de_var 2 rfl (.inr (.inl rfl))) (da_cons (de_var 5 rfl (.inl rfl)) da_nil))))
    (dss_one (ds_set 4 nd rfl (.inl rfl) (de_lst false (da_cons (de_str [73, 110, 118, 97, 108, 105, 100, 80, 114, 111, 100, 117, 99, 116]) (da_cons (de_str [86, 97, 108, 117, 101, 69, 114, 114, 111, 114]) da_nil)))))))))
    (dss_cons (ds_set 7 nd rfl (.inl rfl) (de_blt (cr_reprE ⟨_, hr⟩ hg) rfl B.z_repr boot_repr (da_cons (de_var 5 rfl (.inl rfl)) da_nil)))
    (dss_one (ds_if (dt_w (dw_or (dt_cmp .ne hu (de_own O_law_tried hr (by decide) hg tkOf (da_cons (de_var 3 rfl (.inl rfl)) (da_cons (de_var 5 rfl (.inl rfl)) da_nil))) (de_var 4 rfl (.inl rfl))) (dw_one_or (dt_cmp .ne hu (de_blt (cr_reprE ⟨_, hr⟩ hg) rfl B.z_repr boot_repr (da_cons (de_var 5 rfl (.inl rfl)) da_nil)) (de_var 7 rfl (.inl rfl)))))) (dss_one (ds_ret de_bl)) dss_nil))))))))
    (dss_one (ds_ret de_bl)))
end
/-! what the top has written -/
set_option linter.unusedVariables false in
theorem all_mk {P : Program} {w : World} {K : PySem.W.Frag} {h : Heap} {mg : Str → Option Value} {fa : Addr} (X : K.In h) (G : h.Ns mainGlobals mg) (hfa : mg "law" = some (.ref fa))
    {f0 : Addr} {od0 an0 : Option Addr} {sl0 : Array (Option Value)} {oc0 kV0 dc0 pm0 cd0 ct0 : Value}
    (a0 : PySem.W.nsIn K mainGlobals "is_word" = some (some (.ref f0))) (l0 : K.lookup f0 = some ⟨oc0, od0, .func (PySem.W.fnOf "is_word" "is_word" (defArgs s_is_word) (defBody s_is_word) (defScope s_is_word) .none kV0 dc0 pm0 an0 cd0 ct0), sl0⟩) (c0 : PySem.W.codeIn K cd0 "is_word" = true) (k0 : PySem.W.keepIn K (.ref f0) = true)
    {f1 : Addr} {od1 an1 : Option Addr} {sl1 : Array (Option Value)} {oc1 kV1 dc1 pm1 cd1 ct1 : Value}
    (a1 : PySem.W.nsIn K mainGlobals "is_row" = some (some (.ref f1))) (l1 : K.lookup f1 = some ⟨oc1, od1, .func (PySem.W.fnOf "is_row" "is_row" (defArgs s_is_row) (defBody s_is_row) (defScope s_is_row) .none kV1 dc1 pm1 an1 cd1 ct1), sl1⟩) (c1 : PySem.W.codeIn K cd1 "is_row" = true) (k1 : PySem.W.keepIn K (.ref f1) = true)
    {f2 : Addr} {od2 an2 : Option Addr} {sl2 : Array (Option Value)} {oc2 kV2 dc2 pm2 cd2 ct2 : Value}
    (a2 : PySem.W.nsIn K mainGlobals "is_product" = some (some (.ref f2))) (l2 : K.lookup f2 = some ⟨oc2, od2, .func (PySem.W.fnOf "is_product" "is_product" (defArgs s_is_product) (defBody s_is_product) (defScope s_is_product) .none kV2 dc2 pm2 an2 cd2 ct2), sl2⟩) (c2 : PySem.W.codeIn K cd2 "is_product" = true) (k2 : PySem.W.keepIn K (.ref f2) = true)
    {f3 : Addr} {od3 an3 : Option Addr} {sl3 : Array (Option Value)} {oc3 kV3 dc3 pm3 cd3 ct3 : Value}
    (a3 : PySem.W.nsIn K mainGlobals "check_product" = some (some (.ref f3))) (l3 : K.lookup f3 = some ⟨oc3, od3, .func (PySem.W.fnOf "check_product" "check_product" (defArgs s_check_product) (defBody s_check_product) (defScope s_check_product) .none kV3 dc3 pm3 an3 cd3 ct3), sl3⟩) (c3 : PySem.W.codeIn K cd3 "check_product" = true) (k3 : PySem.W.keepIn K (.ref f3) = true)
    {f4 : Addr} {od4 an4 : Option Addr} {sl4 : Array (Option Value)} {oc4 kV4 dc4 pm4 cd4 ct4 : Value}
    (a4 : PySem.W.nsIn K mainGlobals "is_brace_text" = some (some (.ref f4))) (l4 : K.lookup f4 = some ⟨oc4, od4, .func (PySem.W.fnOf "is_brace_text" "is_brace_text" (defArgs s_is_brace_text) (defBody s_is_brace_text) (defScope s_is_brace_text) .none kV4 dc4 pm4 an4 cd4 ct4), sl4⟩) (c4 : PySem.W.codeIn K cd4 "is_brace_text" = true) (k4 : PySem.W.keepIn K (.ref f4) = true)
    {f5 : Addr} {od5 an5 : Option Addr} {sl5 : Array (Option Value)} {oc5 kV5 dc5 pm5 cd5 ct5 : Value}
    (a5 : PySem.W.nsIn K mainGlobals "check_text" = some (some (.ref f5))) (l5 : K.lookup f5 = some ⟨oc5, od5, .func (PySem.W.fnOf "check_text" "check_text" (defArgs s_check_text) (defBody s_check_text) (defScope s_check_text) .none kV5 dc5 pm5 an5 cd5 ct5), sl5⟩) (c5 : PySem.W.codeIn K cd5 "check_text" = true) (k5 : PySem.W.keepIn K (.ref f5) = true)
    {f6 : Addr} {od6 an6 : Option Addr} {sl6 : Array (Option Value)} {oc6 kV6 dc6 pm6 cd6 ct6 : Value}
    (a6 : PySem.W.nsIn K mainGlobals "expand" = some (some (.ref f6))) (l6 : K.lookup f6 = some ⟨oc6, od6, .func (PySem.W.fnOf "expand" "expand" (defArgs s_expand) (defBody s_expand) (defScope s_expand) .none kV6 dc6 pm6 an6 cd6 ct6), sl6⟩) (c6 : PySem.W.codeIn K cd6 "expand" = true) (k6 : PySem.W.keepIn K (.ref f6) = true)
    {f7 : Addr} {od7 an7 : Option Addr} {sl7 : Array (Option Value)} {oc7 kV7 dc7 pm7 cd7 ct7 : Value}
    (a7 : PySem.W.nsIn K mainGlobals "parse_product" = some (some (.ref f7))) (l7 : K.lookup f7 = some ⟨oc7, od7, .func (PySem.W.fnOf "parse_product" "parse_product" (defArgs s_parse_product) (defBody s_parse_product) (defScope s_parse_product) .none kV7 dc7 pm7 an7 cd7 ct7), sl7⟩) (c7 : PySem.W.codeIn K cd7 "parse_product" = true) (k7 : PySem.W.keepIn K (.ref f7) = true)
    {f8 : Addr} {od8 an8 : Option Addr} {sl8 : Array (Option Value)} {oc8 kV8 dc8 pm8 cd8 ct8 : Value}
    (a8 : PySem.W.nsIn K mainGlobals "format_product" = some (some (.ref f8))) (l8 : K.lookup f8 = some ⟨oc8, od8, .func (PySem.W.fnOf "format_product" "format_product" (defArgs s_format_product) (defBody s_format_product) (defScope s_format_product) .none kV8 dc8 pm8 an8 cd8 ct8), sl8⟩) (c8 : PySem.W.codeIn K cd8 "format_product" = true) (k8 : PySem.W.keepIn K (.ref f8) = true)
    {f9 : Addr} {od9 an9 : Option Addr} {sl9 : Array (Option Value)} {oc9 kV9 dc9 pm9 cd9 ct9 : Value}
    (a9 : PySem.W.nsIn K mainGlobals "_law_cell_at" = some (some (.ref f9))) (l9 : K.lookup f9 = some ⟨oc9, od9, .func (PySem.W.fnOf "_law_cell_at" "_law_cell_at" (defArgs s_law_cell_at) (defBody s_law_cell_at) (defScope s_law_cell_at) .none kV9 dc9 pm9 an9 cd9 ct9), sl9⟩) (c9 : PySem.W.codeIn K cd9 "_law_cell_at" = true) (k9 : PySem.W.keepIn K (.ref f9) = true)
    {f10 : Addr} {od10 an10 : Option Addr} {sl10 : Array (Option Value)} {oc10 kV10 dc10 pm10 cd10 ct10 : Value}
    (a10 : PySem.W.nsIn K mainGlobals "_law_source" = some (some (.ref f10))) (l10 : K.lookup f10 = some ⟨oc10, od10, .func (PySem.W.fnOf "_law_source" "_law_source" (defArgs s_law_source) (defBody s_law_source) (defScope s_law_source) .none kV10 dc10 pm10 an10 cd10 ct10), sl10⟩) (c10 : PySem.W.codeIn K cd10 "_law_source" = true) (k10 : PySem.W.keepIn K (.ref f10) = true)
    {f11 : Addr} {od11 an11 : Option Addr} {sl11 : Array (Option Value)} {oc11 kV11 dc11 pm11 cd11 ct11 : Value}
    (a11 : PySem.W.nsIn K mainGlobals "_law_draw" = some (some (.ref f11))) (l11 : K.lookup f11 = some ⟨oc11, od11, .func (PySem.W.fnOf "_law_draw" "_law_draw" (defArgs s_law_draw) (defBody s_law_draw) (defScope s_law_draw) .none kV11 dc11 pm11 an11 cd11 ct11), sl11⟩) (c11 : PySem.W.codeIn K cd11 "_law_draw" = true) (k11 : PySem.W.keepIn K (.ref f11) = true)
    {f12 : Addr} {od12 an12 : Option Addr} {sl12 : Array (Option Value)} {oc12 kV12 dc12 pm12 cd12 ct12 : Value}
    (a12 : PySem.W.nsIn K mainGlobals "_law_word" = some (some (.ref f12))) (l12 : K.lookup f12 = some ⟨oc12, od12, .func (PySem.W.fnOf "_law_word" "_law_word" (defArgs s_law_word) (defBody s_law_word) (defScope s_law_word) .none kV12 dc12 pm12 an12 cd12 ct12), sl12⟩) (c12 : PySem.W.codeIn K cd12 "_law_word" = true) (k12 : PySem.W.keepIn K (.ref f12) = true)
    {f13 : Addr} {od13 an13 : Option Addr} {sl13 : Array (Option Value)} {oc13 kV13 dc13 pm13 cd13 ct13 : Value}
    (a13 : PySem.W.nsIn K mainGlobals "_law_row" = some (some (.ref f13))) (l13 : K.lookup f13 = some ⟨oc13, od13, .func (PySem.W.fnOf "_law_row" "_law_row" (defArgs s_law_row) (defBody s_law_row) (defScope s_law_row) .none kV13 dc13 pm13 an13 cd13 ct13), sl13⟩) (c13 : PySem.W.codeIn K cd13 "_law_row" = true) (k13 : PySem.W.keepIn K (.ref f13) = true)
    {f14 : Addr} {od14 an14 : Option Addr} {sl14 : Array (Option Value)} {oc14 kV14 dc14 pm14 cd14 ct14 : Value}
    (a14 : PySem.W.nsIn K mainGlobals "_law_classes" = some (some (.ref f14))) (l14 : K.lookup f14 = some ⟨oc14, od14, .func (PySem.W.fnOf "_law_classes" "_law_classes" (defArgs s_law_classes) (defBody s_law_classes) (defScope s_law_classes) .none kV14 dc14 pm14 an14 cd14 ct14), sl14⟩) (c14 : PySem.W.codeIn K cd14 "_law_classes" = true) (k14 : PySem.W.keepIn K (.ref f14) = true)
    {f15 : Addr} {od15 an15 : Option Addr} {sl15 : Array (Option Value)} {oc15 kV15 dc15 pm15 cd15 ct15 : Value}
    (a15 : PySem.W.nsIn K mainGlobals "_law_tried" = some (some (.ref f15))) (l15 : K.lookup f15 = some ⟨oc15, od15, .func (PySem.W.fnOf "_law_tried" "_law_tried" (defArgs s_law_tried) (defBody s_law_tried) (defScope s_law_tried) .none kV15 dc15 pm15 an15 cd15 ct15), sl15⟩) (c15 : PySem.W.codeIn K cd15 "_law_tried" = true) (k15 : PySem.W.keepIn K (.ref f15) = true)
    {f16 : Addr} {od16 an16 : Option Addr} {sl16 : Array (Option Value)} {oc16 kV16 dc16 pm16 cd16 ct16 : Value}
    (a16 : PySem.W.nsIn K mainGlobals "_law_wrong_text" = some (some (.ref f16))) (l16 : K.lookup f16 = some ⟨oc16, od16, .func (PySem.W.fnOf "_law_wrong_text" "_law_wrong_text" (defArgs s_law_wrong_text) (defBody s_law_wrong_text) (defScope s_law_wrong_text) .none kV16 dc16 pm16 an16 cd16 ct16), sl16⟩) (c16 : PySem.W.codeIn K cd16 "_law_wrong_text" = true) (k16 : PySem.W.keepIn K (.ref f16) = true)
    {f17 : Addr} {od17 an17 : Option Addr} {sl17 : Array (Option Value)} {oc17 kV17 dc17 pm17 cd17 ct17 : Value}
    (a17 : PySem.W.nsIn K mainGlobals "_law_wrong_product" = some (some (.ref f17))) (l17 : K.lookup f17 = some ⟨oc17, od17, .func (PySem.W.fnOf "_law_wrong_product" "_law_wrong_product" (defArgs s_law_wrong_product) (defBody s_law_wrong_product) (defScope s_law_wrong_product) .none kV17 dc17 pm17 an17 cd17 ct17), sl17⟩) (c17 : PySem.W.codeIn K cd17 "_law_wrong_product" = true) (k17 : PySem.W.keepIn K (.ref f17) = true)
    {f18 : Addr} {od18 an18 : Option Addr} {sl18 : Array (Option Value)} {oc18 kV18 dc18 pm18 cd18 ct18 : Value}
    (a18 : PySem.W.nsIn K mainGlobals "law" = some (some (.ref f18))) (l18 : K.lookup f18 = some ⟨oc18, od18, .func (PySem.W.fnOf "law" "law" (defArgs s_law) (defBody s_law) (defScope s_law) .none kV18 dc18 pm18 an18 cd18 ct18), sl18⟩) (c18 : PySem.W.codeIn K cd18 "law" = true) (k18 : PySem.W.keepIn K (.ref f18) = true)
    (z_ValueError : PySem.W.nsIn K mainGlobals "ValueError" = some none)
    (z_all : PySem.W.nsIn K mainGlobals "all" = some none)
    (z_isinstance : PySem.W.nsIn K mainGlobals "isinstance" = some none)
    (z_len : PySem.W.nsIn K mainGlobals "len" = some none)
    (z_list : PySem.W.nsIn K mainGlobals "list" = some none)
    (z_max : PySem.W.nsIn K mainGlobals "max" = some none)
    (z_min : PySem.W.nsIn K mainGlobals "min" = some none)
    (z_range : PySem.W.nsIn K mainGlobals "range" = some none)
    (z_repr : PySem.W.nsIn K mainGlobals "repr" = some none)
    (z_str : PySem.W.nsIn K mainGlobals "str" = some none)
    (z_tuple : PySem.W.nsIn K mainGlobals "tuple" = some none)
    {t_CLOSE : Tok} (v_CLOSE : PySem.W.nsIn K mainGlobals "CLOSE" = some (some (.str "}" t_CLOSE)))
    {t_COMMA : Tok} (v_COMMA : PySem.W.nsIn K mainGlobals "COMMA" = some (some (.str "," t_COMMA)))
    {t_LETTERS : Tok} (v_LETTERS : PySem.W.nsIn K mainGlobals "LETTERS" = some (some (.str "abcdefghijklmnopqrstuvwxyz" t_LETTERS)))
    {t_OPEN : Tok} (v_OPEN : PySem.W.nsIn K mainGlobals "OPEN" = some (some (.str "{" t_OPEN)))
    {C_InvalidProduct : Addr} (a_InvalidProduct : PySem.W.nsIn K mainGlobals "InvalidProduct" = some (some (.ref C_InvalidProduct))) (q_InvalidProduct : PySem.W.excIn K C_InvalidProduct veB "ValueError.__new__" = true) (k_InvalidProduct : PySem.W.keepIn K (.ref C_InvalidProduct) = true) (s_InvalidProduct : PySem.W.subIn K (.ref C_InvalidProduct) (.type "BaseException") = some true) (t_InvalidProduct : PySem.W.typeIn K (.ref C_InvalidProduct) = some (.type "type")) (i_InvalidProduct : PySem.W.isClsIn K C_InvalidProduct = true)
    {C_InvalidText : Addr} (a_InvalidText : PySem.W.nsIn K mainGlobals "InvalidText" = some (some (.ref C_InvalidText))) (q_InvalidText : PySem.W.excIn K C_InvalidText veB "ValueError.__new__" = true) (k_InvalidText : PySem.W.keepIn K (.ref C_InvalidText) = true) (s_InvalidText : PySem.W.subIn K (.ref C_InvalidText) (.type "BaseException") = some true) (t_InvalidText : PySem.W.typeIn K (.ref C_InvalidText) = some (.type "type")) (i_InvalidText : PySem.W.isClsIn K C_InvalidText = true)
    {C_BraceError : Addr} (a_BraceError : PySem.W.nsIn K mainGlobals "BraceError" = some (some (.ref C_BraceError))) (q_BraceError : PySem.W.excIn K C_BraceError veB "ValueError.__new__" = true) (k_BraceError : PySem.W.keepIn K (.ref C_BraceError) = true) (s_BraceError : PySem.W.subIn K (.ref C_BraceError) (.type "BaseException") = some true) (t_BraceError : PySem.W.typeIn K (.ref C_BraceError) = some (.type "type")) (i_BraceError : PySem.W.isClsIn K C_BraceError = true)
    (y_InvalidText_BraceError : PySem.W.subIn K (.ref C_InvalidText) (.ref C_BraceError) = some true)
    (y_InvalidProduct_BraceError : PySem.W.subIn K (.ref C_InvalidProduct) (.ref C_BraceError) = some true)
    {E_InvalidProduct : Addr}
    (ea_InvalidProduct : PySem.W.nsIn K mainGlobals "InvalidProduct" = some (some (.ref E_InvalidProduct)))
    {E_InvalidRow : Addr}
    (ea_InvalidRow : PySem.W.nsIn K mainGlobals "InvalidRow" = some (some (.ref E_InvalidRow)))
    {E_InvalidText : Addr}
    (ea_InvalidText : PySem.W.nsIn K mainGlobals "InvalidText" = some (some (.ref E_InvalidText)))
    {E_InvalidWord : Addr}
    (ea_InvalidWord : PySem.W.nsIn K mainGlobals "InvalidWord" = some (some (.ref E_InvalidWord)))
    {E_TooMany : Addr}
    (ea_TooMany : PySem.W.nsIn K mainGlobals "TooMany" = some (some (.ref E_TooMany)))
    (sp_ : PySem.W.specialIn K (.builtin "object.__class__") "__get__" = some (some (.builtin "getset_descriptor.__get__")))
    (tk_ : PySem.W.takesIn K (.builtin "object.__class__") = some true)
    (xd_InvalidText : PySem.W.hasDictIn K C_InvalidText = true)
    (xg_InvalidText : PySem.W.findIn K (.ref C_InvalidText) "__getattribute__" = some (some (.builtin "BaseException.__getattribute__")))
    (xk_InvalidText : PySem.W.findIn K (.ref C_InvalidText) "__getattr__" = some none)
    (xa_InvalidText : PySem.W.findIn K (.ref C_InvalidText) "__class__" = some (some (.builtin "object.__class__")))
    (xm_InvalidText : PySem.W.mroIn K C_InvalidText (.type "object") = some true)
    (ei_InvalidText_InvalidProduct : PySem.W.kitOne K (.ref C_InvalidText) (.ref E_InvalidProduct) = some false)
    (ei_InvalidText_InvalidRow : PySem.W.kitOne K (.ref C_InvalidText) (.ref E_InvalidRow) = some false)
    (ei_InvalidText_InvalidText : PySem.W.kitOne K (.ref C_InvalidText) (.ref E_InvalidText) = some true)
    (ei_InvalidText_InvalidWord : PySem.W.kitOne K (.ref C_InvalidText) (.ref E_InvalidWord) = some false)
    (ei_InvalidText_TooMany : PySem.W.kitOne K (.ref C_InvalidText) (.ref E_TooMany) = some false)
    (ei_InvalidText_ValueError : PySem.W.kitOne K (.ref C_InvalidText) (.type "ValueError") = some true)
    (xd_InvalidProduct : PySem.W.hasDictIn K C_InvalidProduct = true)
    (xg_InvalidProduct : PySem.W.findIn K (.ref C_InvalidProduct) "__getattribute__" = some (some (.builtin "BaseException.__getattribute__")))
    (xk_InvalidProduct : PySem.W.findIn K (.ref C_InvalidProduct) "__getattr__" = some none)
    (xa_InvalidProduct : PySem.W.findIn K (.ref C_InvalidProduct) "__class__" = some (some (.builtin "object.__class__")))
    (xm_InvalidProduct : PySem.W.mroIn K C_InvalidProduct (.type "object") = some true)
    (ei_InvalidProduct_InvalidProduct : PySem.W.kitOne K (.ref C_InvalidProduct) (.ref E_InvalidProduct) = some true)
    (ei_InvalidProduct_InvalidRow : PySem.W.kitOne K (.ref C_InvalidProduct) (.ref E_InvalidRow) = some false)
    (ei_InvalidProduct_InvalidText : PySem.W.kitOne K (.ref C_InvalidProduct) (.ref E_InvalidText) = some false)
    (ei_InvalidProduct_InvalidWord : PySem.W.kitOne K (.ref C_InvalidProduct) (.ref E_InvalidWord) = some false)
    (ei_InvalidProduct_TooMany : PySem.W.kitOne K (.ref C_InvalidProduct) (.ref E_TooMany) = some false)
    (ei_InvalidProduct_ValueError : PySem.W.kitOne K (.ref C_InvalidProduct) (.type "ValueError") = some true)
    : ∃ fd : FuncData, (∀ (s : Shared) (v : Value), BindsTo s fd ⟨[v], []⟩ [("script", v)]) ∧ ∀ base : Heap, K.In base → base.Ns mainGlobals mg → FG P w K mg base 7 fa fd ["script"] (spF K mg 1 (arity 1 F_law)) := by
  have e := hfa.symm.trans (PySem.W.mg_of X G a18)
  cases e
  have B : Fx mg := ⟨PySem.W.mg_none_of X G z_ValueError, PySem.W.mg_none_of X G z_all, PySem.W.mg_none_of X G z_isinstance, PySem.W.mg_none_of X G z_len, PySem.W.mg_none_of X G z_list, PySem.W.mg_none_of X G z_max, PySem.W.mg_none_of X G z_min, PySem.W.mg_none_of X G z_range, PySem.W.mg_none_of X G z_repr, PySem.W.mg_none_of X G z_str, PySem.W.mg_none_of X G z_tuple, ⟨_, (PySem.W.mg_of X G v_CLOSE).trans (by first | rfl | (refine congrArg some (congrArg (fun z => Value.str z _) ?_); decide +kernel))⟩, ⟨_, (PySem.W.mg_of X G v_COMMA).trans (by first | rfl | (refine congrArg some (congrArg (fun z => Value.str z _) ?_); decide +kernel))⟩, ⟨_, (PySem.W.mg_of X G v_LETTERS).trans (by first | rfl | (refine congrArg some (congrArg (fun z => Value.str z _) ?_); decide +kernel))⟩, ⟨_, (PySem.W.mg_of X G v_OPEN).trans (by first | rfl | (refine congrArg some (congrArg (fun z => Value.str z _) ?_); decide +kernel))⟩⟩
  have T_InvalidProduct : Ex0 K mg "InvalidProduct" C_InvalidProduct := ⟨PySem.W.mg_of X G a_InvalidProduct, q_InvalidProduct, k_InvalidProduct, s_InvalidProduct, t_InvalidProduct⟩
  have T_InvalidText : Ex0 K mg "InvalidText" C_InvalidText := ⟨PySem.W.mg_of X G a_InvalidText, q_InvalidText, k_InvalidText, s_InvalidText, t_InvalidText⟩
  have T_BraceError : Ex0 K mg "BraceError" C_BraceError := ⟨PySem.W.mg_of X G a_BraceError, q_BraceError, k_BraceError, s_BraceError, t_BraceError⟩
  have x_InvalidText_BraceError := exm_of s_BraceError i_BraceError t_BraceError y_InvalidText_BraceError
  have x_InvalidProduct_BraceError := exm_of s_BraceError i_BraceError t_BraceError y_InvalidProduct_BraceError
  have R0 := fun_mk (st := s_is_word) l0 c0 k0
  have R1 := fun_mk (st := s_is_row) l1 c1 k1
  have R2 := fun_mk (st := s_is_product) l2 c2 k2
  have R3 := fun_mk (st := s_check_product) l3 c3 k3
  have R4 := fun_mk (st := s_is_brace_text) l4 c4 k4
  have R5 := fun_mk (st := s_check_text) l5 c5 k5
  have R6 := fun_mk (st := s_expand) l6 c6 k6
  have R7 := fun_mk (st := s_parse_product) l7 c7 k7
  have R8 := fun_mk (st := s_format_product) l8 c8 k8
  have R9 := fun_mk (st := s_law_cell_at) l9 c9 k9
  have R10 := fun_mk (st := s_law_source) l10 c10 k10
  have R11 := fun_mk (st := s_law_draw) l11 c11 k11
  have R12 := fun_mk (st := s_law_word) l12 c12 k12
  have R13 := fun_mk (st := s_law_row) l13 c13 k13
  have R14 := fun_mk (st := s_law_classes) l14 c14 k14
  have R15 := fun_mk (st := s_law_tried) l15 c15 k15
  have R16 := fun_mk (st := s_law_wrong_text) l16 c16 k16
  have R17 := fun_mk (st := s_law_wrong_product) l17 c17 k17
  have R18 := fun_mk (st := s_law) l18 c18 k18
  have kb_expand_text_0 : KB (PySem.W.fnOf "expand" "expand" (defArgs s_expand) (defBody s_expand) (defScope s_expand) .none kV6 dc6 pm6 an6 cd6 ct6) ["text"] ["text"] 0 [0] := fun _ us ws h1 h2 => match us, ws, h1, h2 with | [], [_], _, _ => .of_eq rfl
  have kb_parse_product_text_0 : KB (PySem.W.fnOf "parse_product" "parse_product" (defArgs s_parse_product) (defBody s_parse_product) (defScope s_parse_product) .none kV7 dc7 pm7 an7 cd7 ct7) ["text"] ["text"] 0 [0] := fun _ us ws h1 h2 => match us, ws, h1, h2 with | [], [_], _, _ => .of_eq rfl
  have kb_format_product_product_0 : KB (PySem.W.fnOf "format_product" "format_product" (defArgs s_format_product) (defBody s_format_product) (defScope s_format_product) .none kV8 dc8 pm8 an8 cd8 ct8) ["product"] ["product"] 0 [0] := fun _ us ws h1 h2 => match us, ws, h1, h2 with | [], [_], _, _ => .of_eq rfl
  refine ⟨PySem.W.fnOf "law" "law" (defArgs s_law) (defBody s_law) (defScope s_law) .none kV18 dc18 pm18 an18 cd18 ct18, fun s v => .of_eq rfl, fun base _ _ => ?_⟩
  have O_is_word : Own P w K mg base "is_word" 1 _ _ ["value"] 1 F_is_word := ⟨PySem.W.mg_of X G a0, k0, g_is_word R0 B     , R0.binds (ps := ["value"]) fun _ _ _ _ _ _ us hl => match us, hl with | [_], _ => rfl⟩
  have O_is_row : Own P w K mg base "is_row" 2 _ _ ["value"] 1 F_is_row := ⟨PySem.W.mg_of X G a1, k1, g_is_row R1 B  O_is_word   , R1.binds (ps := ["value"]) fun _ _ _ _ _ _ us hl => match us, hl with | [_], _ => rfl⟩
  have O_is_product : Own P w K mg base "is_product" 3 _ _ ["value"] 1 F_is_product := ⟨PySem.W.mg_of X G a2, k2, g_is_product R2 B  O_is_row   , R2.binds (ps := ["value"]) fun _ _ _ _ _ _ us hl => match us, hl with | [_], _ => rfl⟩
  have O_check_product : Own P w K mg base "check_product" 4 _ _ ["product"] 1 F_check_product := ⟨PySem.W.mg_of X G a3, k3, g_check_product R3 B T_InvalidProduct O_is_product   , R3.binds (ps := ["product"]) fun _ _ _ _ _ _ us hl => match us, hl with | [_], _ => rfl⟩
  have O_is_brace_text : Own P w K mg base "is_brace_text" 1 _ _ ["value"] 1 F_is_brace_text := ⟨PySem.W.mg_of X G a4, k4, g_is_brace_text R4 B     , R4.binds (ps := ["value"]) fun _ _ _ _ _ _ us hl => match us, hl with | [_], _ => rfl⟩
  have O_check_text : Own P w K mg base "check_text" 2 _ _ ["text"] 1 F_check_text := ⟨PySem.W.mg_of X G a5, k5, g_check_text R5 B T_InvalidText O_is_brace_text   , R5.binds (ps := ["text"]) fun _ _ _ _ _ _ us hl => match us, hl with | [_], _ => rfl⟩
  have O_expand : Own P w K mg base "expand" 3 _ _ ["text"] 1 F_expand := ⟨PySem.W.mg_of X G a6, k6, g_expand R6 B  O_check_text   , R6.binds (ps := ["text"]) fun _ _ _ _ _ _ us hl => match us, hl with | [_], _ => rfl⟩
  have O_parse_product : Own P w K mg base "parse_product" 3 _ _ ["text"] 1 F_parse_product := ⟨PySem.W.mg_of X G a7, k7, g_parse_product R7 B  O_check_text   , R7.binds (ps := ["text"]) fun _ _ _ _ _ _ us hl => match us, hl with | [_], _ => rfl⟩
  have O_format_product : Own P w K mg base "format_product" 5 _ _ ["product"] 1 F_format_product := ⟨PySem.W.mg_of X G a8, k8, g_format_product R8 B  O_check_product   , R8.binds (ps := ["product"]) fun _ _ _ _ _ _ us hl => match us, hl with | [_], _ => rfl⟩
  have O_law_cell_at : Own P w K mg base "_law_cell_at" 1 _ _ ["script", "k"] 2 F_law_cell_at := ⟨PySem.W.mg_of X G a9, k9, g_law_cell_at R9 B     , R9.binds (ps := ["script", "k"]) fun _ _ _ _ _ _ us hl => match us, hl with | [_, _], _ => rfl⟩
  have O_law_source : Own P w K mg base "_law_source" 1 _ _ ["cell", "k"] 2 F_law_source := ⟨PySem.W.mg_of X G a10, k10, g_law_source R10 B     , R10.binds (ps := ["cell", "k"]) fun _ _ _ _ _ _ us hl => match us, hl with | [_, _], _ => rfl⟩
  have O_law_draw : Own P w K mg base "_law_draw" 1 _ _ ["source", "count"] 2 F_law_draw := ⟨PySem.W.mg_of X G a11, k11, g_law_draw R11 B     , R11.binds (ps := ["source", "count"]) fun _ _ _ _ _ _ us hl => match us, hl with | [_, _], _ => rfl⟩
  have O_law_word : Own P w K mg base "_law_word" 2 _ _ ["source", "most"] 2 F_law_word := ⟨PySem.W.mg_of X G a12, k12, g_law_word R12 B  O_law_draw   , R12.binds (ps := ["source", "most"]) fun _ _ _ _ _ _ us hl => match us, hl with | [_, _], _ => rfl⟩
  have O_law_row : Own P w K mg base "_law_row" 3 _ _ ["source", "most", "most_letters"] 3 F_law_row := ⟨PySem.W.mg_of X G a13, k13, g_law_row R13 B  O_law_draw O_law_word   , R13.binds (ps := ["source", "most", "most_letters"]) fun _ _ _ _ _ _ us hl => match us, hl with | [_, _, _], _ => rfl⟩
  have XN_InvalidProduct : KNE K mg "InvalidProduct" [("InvalidText", false), ("InvalidProduct", true)] := ⟨_, PySem.W.mg_of X G ea_InvalidProduct, (kn_cons a_InvalidText ⟨xg_InvalidText, xk_InvalidText, s_InvalidText, xd_InvalidText, xa_InvalidText, sp_, tk_, xm_InvalidText⟩ ei_InvalidText_InvalidProduct (kn_cons a_InvalidProduct ⟨xg_InvalidProduct, xk_InvalidProduct, s_InvalidProduct, xd_InvalidProduct, xa_InvalidProduct, sp_, tk_, xm_InvalidProduct⟩ ei_InvalidProduct_InvalidProduct kn_nil))⟩
  have XN_InvalidRow : KNE K mg "InvalidRow" [("InvalidText", false), ("InvalidProduct", false)] := ⟨_, PySem.W.mg_of X G ea_InvalidRow, (kn_cons a_InvalidText ⟨xg_InvalidText, xk_InvalidText, s_InvalidText, xd_InvalidText, xa_InvalidText, sp_, tk_, xm_InvalidText⟩ ei_InvalidText_InvalidRow (kn_cons a_InvalidProduct ⟨xg_InvalidProduct, xk_InvalidProduct, s_InvalidProduct, xd_InvalidProduct, xa_InvalidProduct, sp_, tk_, xm_InvalidProduct⟩ ei_InvalidProduct_InvalidRow kn_nil))⟩
  have XN_InvalidText : KNE K mg "InvalidText" [("InvalidText", true), ("InvalidProduct", false)] := ⟨_, PySem.W.mg_of X G ea_InvalidText, (kn_cons a_InvalidText ⟨xg_InvalidText, xk_InvalidText, s_InvalidText, xd_InvalidText, xa_InvalidText, sp_, tk_, xm_InvalidText⟩ ei_InvalidText_InvalidText (kn_cons a_InvalidProduct ⟨xg_InvalidProduct, xk_InvalidProduct, s_InvalidProduct, xd_InvalidProduct, xa_InvalidProduct, sp_, tk_, xm_InvalidProduct⟩ ei_InvalidProduct_InvalidText kn_nil))⟩
  have XN_InvalidWord : KNE K mg "InvalidWord" [("InvalidText", false), ("InvalidProduct", false)] := ⟨_, PySem.W.mg_of X G ea_InvalidWord, (kn_cons a_InvalidText ⟨xg_InvalidText, xk_InvalidText, s_InvalidText, xd_InvalidText, xa_InvalidText, sp_, tk_, xm_InvalidText⟩ ei_InvalidText_InvalidWord (kn_cons a_InvalidProduct ⟨xg_InvalidProduct, xk_InvalidProduct, s_InvalidProduct, xd_InvalidProduct, xa_InvalidProduct, sp_, tk_, xm_InvalidProduct⟩ ei_InvalidProduct_InvalidWord kn_nil))⟩
  have XN_TooMany : KNE K mg "TooMany" [("InvalidText", false), ("InvalidProduct", false)] := ⟨_, PySem.W.mg_of X G ea_TooMany, (kn_cons a_InvalidText ⟨xg_InvalidText, xk_InvalidText, s_InvalidText, xd_InvalidText, xa_InvalidText, sp_, tk_, xm_InvalidText⟩ ei_InvalidText_TooMany (kn_cons a_InvalidProduct ⟨xg_InvalidProduct, xk_InvalidProduct, s_InvalidProduct, xd_InvalidProduct, xa_InvalidProduct, sp_, tk_, xm_InvalidProduct⟩ ei_InvalidProduct_TooMany kn_nil))⟩
  have XB_ValueError : KNB K "ValueError" [("InvalidText", true), ("InvalidProduct", true)] := (kn_cons a_InvalidText ⟨xg_InvalidText, xk_InvalidText, s_InvalidText, xd_InvalidText, xa_InvalidText, sp_, tk_, xm_InvalidText⟩ ei_InvalidText_ValueError (kn_cons a_InvalidProduct ⟨xg_InvalidProduct, xk_InvalidProduct, s_InvalidProduct, xd_InvalidProduct, xa_InvalidProduct, sp_, tk_, xm_InvalidProduct⟩ ei_InvalidProduct_ValueError kn_nil))
  have H_law_classes : OwnH P w K mg base "_law_classes" 1 _ _ ["caught"] 1 F_law_classes := ⟨PySem.W.mg_of X G a14, k14, h_law_classes R14 B   XN_InvalidProduct XN_InvalidRow XN_InvalidText XN_InvalidWord XN_TooMany XB_ValueError, R14.binds (ps := ["caught"]) fun _ _ _ _ _ _ us hl => match us, hl with | [_], _ => rfl⟩
  have IC_InvalidText : isC K "InvalidText" C_InvalidText := a_InvalidText
  have IC_InvalidProduct : isC K "InvalidProduct" C_InvalidProduct := a_InvalidProduct
  have O_law_tried : Own P w K mg base "_law_tried" 6 _ _ ["pick", "thing"] 2 F_law_tried := ⟨PySem.W.mg_of X G a15, k15, g_law_tried R15 B T_BraceError T_InvalidText T_InvalidProduct x_InvalidText_BraceError x_InvalidProduct_BraceError O_expand O_parse_product O_format_product H_law_classes kb_expand_text_0 kb_format_product_product_0 kb_parse_product_text_0 IC_InvalidText IC_InvalidProduct, R15.binds (ps := ["pick", "thing"]) fun _ _ _ _ _ _ us hl => match us, hl with | [_, _], _ => rfl⟩
  have O_law_wrong_text : Own P w K mg base "_law_wrong_text" 2 _ _ ["source"] 1 F_law_wrong_text := ⟨PySem.W.mg_of X G a16, k16, g_law_wrong_text R16 B  O_law_draw   , R16.binds (ps := ["source"]) fun _ _ _ _ _ _ us hl => match us, hl with | [_], _ => rfl⟩
  have O_law_wrong_product : Own P w K mg base "_law_wrong_product" 2 _ _ ["source", "product_here"] 2 F_law_wrong_product := ⟨PySem.W.mg_of X G a17, k17, g_law_wrong_product R17 B  O_law_draw   , R17.binds (ps := ["source", "product_here"]) fun _ _ _ _ _ _ us hl => match us, hl with | [_, _], _ => rfl⟩
  exact g_law R18 B  O_law_source O_law_cell_at O_law_draw O_law_wrong_text O_law_row O_law_tried O_law_wrong_product   
end
end LK33
namespace LK33
open PySem PySem.Spec PyProof.Rows L2 PL
variable {X : Exc → Store → Prop}
def lettersL : Wo := [97, 98, 99, 100, 101, 102, 103, 104, 105, 106, 107, 108, 109, 110, 111, 112, 113, 114, 115, 116, 117, 118, 119, 120, 121, 122]
def isW : D → Bool
  | .str s => s.all fun c => decide (c ∈ lettersL)
  | _ => false
def isR : D → Bool
  | .tup xs => !xs.isEmpty && xs.all isW
  | _ => false
def isP : D → Bool
  | .tup xs => !xs.isEmpty && xs.all isR
  | _ => false
def S0 : D → Prop
  | .str s => s.length ≤ 16000000
  | .tup xs => xs.length ≤ 16000000
  | .scr _ => False
  | .ref _ => False
  | .vv _ => False
  | .exn _ _ _ => False
  | _ => True
def isStrB : D → Bool
  | .str _ => true
  | _ => false
def isTupB : D → Bool
  | .tup _ => true
  | _ => false
def len0 : D → Nat
  | .str s => s.length
  | _ => 0
def txt : List D → Nat
  | [] => 0
  | d :: r => len0 d + txt r
def S1 (d : D) : Prop := S0 d ∧ ∀ xs, d = .tup xs → (∀ x ∈ xs, S0 x) ∧ txt xs ≤ 16000000
def S2 (d : D) : Prop := S1 d ∧ ∀ xs, d = .tup xs → ∀ x ∈ xs, S1 x
theorem isi_str {d : D} (h : S0 d) (st : Store) : isiD [d, .vv (.ty "str")] st = some (.bl (isStrB d)) := by
  cases d <;> first | exact False.elim h | simp [isiD, tyD, isTy, viewL, isStrB]
theorem isi_tup {d : D} (h : S0 d) (st : Store) : isiD [d, .vv (.ty "tuple")] st = some (.bl (isTupB d)) := by
  cases d <;> first | exact False.elim h | simp [isiD, tyD, isTy, viewL, isTupB]
theorem all_bls {α : Type} (l : List α) (p : α → Bool) (st : Store) : allD [.lst (l.map fun x => D.bl (p x))] st = some (.bl (l.all p)) := by
  show (viewL st (.lst (l.map fun x => D.bl (p x)))).bind (fun xs => (asBls xs).map fun ns => D.bl (ns.all id)) = _
  have := asBls_m l p
  simp only [viewL, Option.bind, this, Option.map]
  rw [List.all_map]; rfl
theorem word_gen {d : D} (h : S0 d) (st : Store) : F_is_word [d] st = .ok (.bl (isW d)) st := ok_is (by
  unfold F_is_word
  rw [wp_run]
  simp only [b_is_word, ws_ret, wp_and, wp_blt, wp_cons, wp_nil, wp_con, wp_var, List.map_cons, List.map_nil, List.cons_append, List.nil_append, List.length_cons, List.length_nil, List.replicate, List.getElem?_cons_zero, List.getElem?_cons_succ, wv_some_, isi_str h, wo_some_, tru_bl]
  cases d with
  | str s =>
    have h : s.length ≤ 16000000 := h
    simp only [isStrB, if_true, wp_compF, wp_walkA, wp_var, List.getElem?_cons_zero, wv_some_, walk_str, wo_some_]
    have hc := comp_mapA (st := st) (gNm 1) (sOfB (tCmpS .isin (sVar 1) (sCon (.str lettersL)))) [some (.str s), none] (fun c => D.str [c]) (fun c => .bl (decide (c ∈ lettersL))) s [] (by
      intro c _
      exact ⟨[some (.str s), some (.str [c])], rfl, rfl⟩) (by simp; omega)
    show wp (compGo (gNm 1) sYes (sOfB (tCmpS .isin (sVar 1) (sCon (.str lettersL)))) [some (.str s), none] (s.map fun c => D.str [c]) [] st) _ _
    rw [hc]
    simp only [wp_ok_, List.nil_append, all_bls, wo_some_]
    exact ⟨rfl, trivial⟩
  | _ => simp [isStrB, isW])
theorem row_gen {d : D} (h : S1 d) (st : Store) : F_is_row [d] st = .ok (.bl (isR d)) st := ok_is (by
  unfold F_is_row
  rw [wp_run]
  simp only [b_is_row, ws_ret, wp_and, wp_blt, wp_ofB, wp_cons, wp_nil, wp_con, wp_var, List.map_cons, List.map_nil, List.cons_append, List.nil_append, List.length_cons, List.length_nil, List.replicate, List.getElem?_cons_zero, List.getElem?_cons_succ, wv_some_, isi_tup h.1, wo_some_, tru_bl]
  cases d with
  | tup xs =>
    have h1 := h.2 xs rfl
    have h0 : xs.length ≤ 16000000 := h.1
    have en : ∀ st, neE (.tup xs) (.tup []) st = some (!xs.isEmpty) := fun st => by show (empD _ _ _).map _ = _; simp
    simp only [isTupB, if_true, wp_cmpF, wp_tup, wp_nil, wp_var, List.getElem?_cons_zero, wv_some_, List.length_nil, en, wo_some_, tru_bl]
    refine ⟨by simp, ?_⟩
    cases xs with
    | nil => simp [isR]
    | cons x r =>
      simp only [List.isEmpty_cons, Bool.not_false, if_true, wp_compF, wp_walkA, wp_var, List.getElem?_cons_zero, wv_some_, walk_tup, wo_some_]
      have hc := comp_map (st := st) (gNm 1) (sCall (arity 1 F_is_word) (sCons (sVar 1) sNil)) [some (.tup (x :: r)), none] (fun d => .bl (isW d)) (x :: r) [] (by
        intro d hd
        exact ⟨[some (.tup (x :: r)), some d], rfl, word_gen (h1.1 d hd) st⟩) (by show 0 + _ ≤ 16777216; omega)
      show wp (compGo _ _ _ [some (.tup (x :: r)), none] _ _ _) _ _
      rw [hc]
      simp only [wp_ok_, List.nil_append, all_bls, wo_some_]
      exact ⟨rfl, trivial⟩
  | _ => simp [isTupB, isR])
theorem prod_gen {d : D} (h : S2 d) (st : Store) : F_is_product [d] st = .ok (.bl (isP d)) st := ok_is (by
  unfold F_is_product
  rw [wp_run]
  simp only [b_is_product, ws_ret, wp_and, wp_blt, wp_ofB, wp_cons, wp_nil, wp_con, wp_var, List.map_cons, List.map_nil, List.cons_append, List.nil_append, List.length_cons, List.length_nil, List.replicate, List.getElem?_cons_zero, List.getElem?_cons_succ, wv_some_, isi_tup h.1.1, wo_some_, tru_bl]
  cases d with
  | tup xs =>
    have h1 := h.2 xs rfl
    have h0 : xs.length ≤ 16000000 := h.1.1
    have en : ∀ st, neE (.tup xs) (.tup []) st = some (!xs.isEmpty) := fun st => by show (empD _ _ _).map _ = _; simp
    simp only [isTupB, if_true, wp_cmpF, wp_tup, wp_nil, wp_var, List.getElem?_cons_zero, wv_some_, List.length_nil, en, wo_some_, tru_bl]
    refine ⟨by simp, ?_⟩
    cases xs with
    | nil => simp [isP]
    | cons x r =>
      simp only [List.isEmpty_cons, Bool.not_false, if_true, wp_compF, wp_walkA, wp_var, List.getElem?_cons_zero, wv_some_, walk_tup, wo_some_]
      have hc := comp_map (st := st) (gNm 1) (sCall (arity 1 F_is_row) (sCons (sVar 1) sNil)) [some (.tup (x :: r)), none] (fun d => .bl (isR d)) (x :: r) [] (by
        intro d hd
        exact ⟨[some (.tup (x :: r)), some d], rfl, row_gen (h1 d hd) st⟩) (by show 0 + _ ≤ 16777216; omega)
      show wp (compGo _ _ _ [some (.tup (x :: r)), none] _ _ _) _ _
      rw [hc]
      simp only [wp_ok_, List.nil_append, all_bls, wo_some_]
      exact ⟨rfl, trivial⟩
  | _ => simp [isTupB, isP])
/-- braces that close: the stack of the open ones, the last first -/
def btx : List Nat → List Bool → Bool
  | [], s => s.isEmpty
  | c :: r, s => if c = 123 then btx r (false :: s) else if c = 44 ∧ s ≠ [] then btx r (true :: s.tail) else if c = 125 ∧ s.head? = some true then btx r s.tail
    else if c ∈ lettersL then btx r s else false
def isT : D → Bool
  | .str s => btx s []
  | _ => false
theorem forGo_cons {k : SK} (g : D → PL.Env → Option PL.Env) (body : SM) (d : D) (r : List D) (ρ : PL.Env) (st : Store) : ws (forGo g body (d :: r) ρ st) k = wo (g d ρ) fun ρ1 => ws (body ρ1 st) ⟨fun ρ2 st2 => ws (forGo g body r ρ2 st2) k, k.rt, k.nx, fun ρ2 st2 => ws (forGo g body r ρ2 st2) k, k.ex⟩ := by
  cases eg : g d ρ with
  | none => simp only [forGo, eg]; rfl
  | some ρ1 =>
    simp only [forGo, eg, wo_some_]
    cases body ρ1 st <;> rfl
def stkO (s : List Bool) : Option Ob := some (.lst (s.reverse.map D.bl))
theorem stk_at (st : Store) (s : List Bool) : (st ++ [stkO s])[st.length]? = some (stkO s) := by simp
theorem stk_set (st : Store) (s : List Bool) (o : Option Ob) : (st ++ [stkO s]).set st.length o = st ++ [o] := by
  rw [List.set_append_right _ _ (Nat.le_refl _)]
  simp
def btBody : SM := sIfS (tCmpS .eq (sVar 2) (sCon (.str [123]))) (sExpr (sMth isLst appendD (sVar 1) (sCons (sCon (.bl false)) (sNil)))) (sIfS (tAndB (tCmpS .eq (sVar 2) (sCon (.str [44]))) (tCmpF neE (sVar 1) (sLst false (sNil)))) (sSetIx (sCon (.bl true)) (sVar 1) (sNeg (sCon (.int 1)))) (sIfS (tAndB (tCmpS .eq (sVar 2) (sCon (.str [125]))) (tAndB (tCmpF neE (sVar 1) (sLst false (sNil))) (sTru (sIx (sVar 1) (sNeg (sCon (.int 1))))))) (sExpr (sMth0 isLst popD (sVar 1))) (sIfS (tCmpS .notin (sVar 2) (sCon (.str lettersL))) (sRet (sCon (.bl false))) (sSkip))))
theorem ixlast {α : Type} (x : α) (s : List α) : atI ((x :: s).reverse) (-1) = some x := by
  have e : (x :: s).reverse = s.reverse ++ [x] := List.reverse_cons
  rw [e]
  show (ixN (s.reverse ++ [x]).length (-1)).bind _ = _
  have : ixN (s.reverse ++ [x]).length (-1) = some s.length := by
    unfold ixN
    simp
    omega
  rw [this]
  simp
theorem bt_loop (v : Option D) (st : Store) : ∀ (r : List Nat) (s : List Bool) (sg : Option D), s.length + r.length ≤ 16000000 →
    ws (forGo (gNm 2) btBody (chars r) [v, some (.ref st.length), sg] (st ++ [stkO s])) ⟨fun ρ1 st1 => ∃ s' sg', ρ1 = [v, some (.ref st.length), sg'] ∧ st1 = st ++ [stkO s'] ∧ btx r s = s'.isEmpty, fun d st1 => d = .bl false ∧ btx r s = false ∧ Sx st st1, fun _ _ => False, fun _ _ => False, fun _ _ _ => False⟩
  | [], s, sg, _ => ⟨s, sg, rfl, rfl, rfl⟩
  | c :: r, s, sg, hz => by
    have hl : s.length + 1 + r.length ≤ 16000000 := by simp at hz; omega
    have vw : viewL (st ++ [stkO s]) (.ref st.length) = some (s.reverse.map D.bl) := by
      simp only [viewL, stk_at]; rfl
    have isl : isLst (.ref st.length) (st ++ [stkO s]) = true := by
      simp only [isLst, vw]; rfl
    show ws (forGo (gNm 2) btBody (D.str [c] :: chars r) _ _) _
    rw [forGo_cons]
    simp only [g_nm, wo_some_, List.set_cons_succ, List.set_cons_zero]
    unfold btBody
    have ee : ∀ (a : Nat) st, cmpS .eq (.str [c]) (.str [a]) st = some (decide (c = a)) := fun a _ => by
      show some (decide ([c] = [a])) = _
      congr 1
      simp
    have en : ∀ st, cmpS .notin (.str [c]) (.str lettersL) st = some (!decide (c ∈ lettersL)) := fun _ => rfl
    rw [ws_if]
    simp only [wp_cmpB, wp_var, wp_con, List.getElem?_cons_zero, List.getElem?_cons_succ, wv_some_, ee, wo_some_, decide_eq_true_eq]
    unfold btx
    by_cases h1 : c = 123
    · rw [if_pos h1, if_pos h1]
      simp only [ws_expr, wp_mth, wp_var, wp_cons, wp_nil, wp_con, List.getElem?_cons_zero, List.getElem?_cons_succ, wv_some_, isl, true_and]
      have ap : appendD (.ref st.length) [.bl false] (st ++ [stkO s]) = some (.non, st ++ [stkO (false :: s)]) := by
        rw [app_at (stk_at st s) _ (by simp; omega), stk_set]
        simp [stkO]
      rw [ap, wo_some_]
      exact bt_loop v st r (false :: s) _ (by simp; omega)
    rw [if_neg h1, if_neg h1]
    have en0 : neE (.ref st.length) (.lst []) (st ++ [stkO s]) = some (!s.isEmpty) := by
      show ((viewL (st ++ [stkO s]) (.ref st.length)).map fun xs => xs.isEmpty).map (!·) = _
      rw [vw]
      cases s <;> simp
    rw [ws_if]
    simp only [wp_andB, wp_cmpB, wp_var, wp_con, List.getElem?_cons_zero, List.getElem?_cons_succ, wv_some_, ee, wo_some_, decide_eq_true_eq, wp_cmpF, wp_lstF, wp_nil, en0, List.length_nil, Nat.zero_le, true_and]
    by_cases h2 : c = 44 ∧ s ≠ []
    · rw [if_pos h2]
      obtain ⟨x, s', rfl⟩ : ∃ x s', s = x :: s' := by
        cases s with
        | nil => exact absurd rfl h2.2
        | cons x s' => exact ⟨x, s', rfl⟩
      have sd : setD (.ref st.length) (.int (-1)) (.bl true) (st ++ [stkO (x :: s')]) = some (st ++ [stkO (true :: s')]) := by
        rw [setD_at (j := s'.length) (stk_at st (x :: s')) (by unfold ixN; simp; omega), stk_set]
        simp [stkO]
      simp only [h2.1, if_true, List.isEmpty_cons, Bool.not_false, ws_setIx, wp_con, wp_var, List.getElem?_cons_zero, List.getElem?_cons_succ, wv_some_, wp_neg, PL.neg_int, wo_some_, sd]
      exact bt_loop v st r (true :: s') _ (by simp at hl ⊢; omega)
    rw [if_neg h2]
    have step3 : ws ((sIfS (tAndB (tCmpS .eq (sVar 2) (sCon (.str [125]))) (tAndB (tCmpF neE (sVar 1) (sLst false (sNil))) (sTru (sIx (sVar 1) (sNeg (sCon (.int 1))))))) (sExpr (sMth0 isLst popD (sVar 1))) (sIfS (tCmpS .notin (sVar 2) (sCon (.str lettersL))) (sRet (sCon (.bl false))) (sSkip))) [v, some (.ref st.length), some (.str [c])] (st ++ [stkO s]))
        ⟨fun ρ2 st2 => ws (forGo (gNm 2) btBody (chars r) ρ2 st2) ⟨fun ρ1 st1 => ∃ s' sg', ρ1 = [v, some (.ref st.length), sg'] ∧ st1 = st ++ [stkO s'] ∧ (if c = 125 ∧ s.head? = some true then btx r s.tail else if c ∈ lettersL then btx r s else false) = s'.isEmpty, fun d st1 => d = .bl false ∧ (if c = 125 ∧ s.head? = some true then btx r s.tail else if c ∈ lettersL then btx r s else false) = false ∧ Sx st st1, fun _ _ => False, fun _ _ => False, fun _ _ _ => False⟩,
          fun d st1 => d = .bl false ∧ (if c = 125 ∧ s.head? = some true then btx r s.tail else if c ∈ lettersL then btx r s else false) = false ∧ Sx st st1, fun _ _ => False, fun ρ2 st2 => ws (forGo (gNm 2) btBody (chars r) ρ2 st2) ⟨fun ρ1 st1 => ∃ s' sg', ρ1 = [v, some (.ref st.length), sg'] ∧ st1 = st ++ [stkO s'] ∧ (if c = 125 ∧ s.head? = some true then btx r s.tail else if c ∈ lettersL then btx r s else false) = s'.isEmpty, fun d st1 => d = .bl false ∧ (if c = 125 ∧ s.head? = some true then btx r s.tail else if c ∈ lettersL then btx r s else false) = false ∧ Sx st st1, fun _ _ => False, fun _ _ => False, fun _ _ _ => False⟩, fun _ _ _ => False⟩ := by
      rw [ws_if]
      simp only [wp_andB, wp_cmpB, wp_var, wp_con, List.getElem?_cons_zero, List.getElem?_cons_succ, wv_some_, ee, wo_some_, decide_eq_true_eq, wp_cmpF, wp_lstF, wp_nil, en0, List.length_nil, Nat.zero_le, true_and, wp_tru, wp_ix, wp_neg, PL.neg_int]
      have last : ws ((sIfS (tCmpS .notin (sVar 2) (sCon (.str lettersL))) (sRet (sCon (.bl false))) (sSkip)) [v, some (.ref st.length), some (.str [c])] (st ++ [stkO s]))
        ⟨fun ρ2 st2 => ws (forGo (gNm 2) btBody (chars r) ρ2 st2) ⟨fun ρ1 st1 => ∃ s' sg', ρ1 = [v, some (.ref st.length), sg'] ∧ st1 = st ++ [stkO s'] ∧ (if c ∈ lettersL then btx r s else false) = s'.isEmpty, fun d st1 => d = .bl false ∧ (if c ∈ lettersL then btx r s else false) = false ∧ Sx st st1, fun _ _ => False, fun _ _ => False, fun _ _ _ => False⟩,
          fun d st1 => d = .bl false ∧ (if c ∈ lettersL then btx r s else false) = false ∧ Sx st st1, fun _ _ => False, fun ρ2 st2 => ws (forGo (gNm 2) btBody (chars r) ρ2 st2) ⟨fun ρ1 st1 => ∃ s' sg', ρ1 = [v, some (.ref st.length), sg'] ∧ st1 = st ++ [stkO s'] ∧ (if c ∈ lettersL then btx r s else false) = s'.isEmpty, fun d st1 => d = .bl false ∧ (if c ∈ lettersL then btx r s else false) = false ∧ Sx st st1, fun _ _ => False, fun _ _ => False, fun _ _ _ => False⟩, fun _ _ _ => False⟩ := by
        simp only [ws_if, wp_cmpB, wp_var, wp_con, List.getElem?_cons_zero, List.getElem?_cons_succ, wv_some_, en, wo_some_]
        by_cases h4 : c ∈ lettersL
        · simp only [h4, decide_true, Bool.not_true, Bool.false_eq_true, if_false, ws_skip, if_true]
          exact bt_loop v st r s _ (by omega)
        · simp only [h4, decide_false, Bool.not_false, if_true, if_false, ws_ret, wp_con]
          exact ⟨trivial, trivial, Sx.app _ _⟩
      by_cases h3 : c = 125
      · subst h3
        simp only [if_true, true_and]
        cases s with
        | nil =>
          simp only [List.isEmpty_nil, Bool.not_true, Bool.false_eq_true, if_false, List.head?_nil, reduceCtorEq]
          exact last
        | cons x s' =>
          have ix : ixD (.ref st.length) (.int (-1)) (st ++ [stkO (x :: s')]) = some (.bl x) := by
            show (match viewL (st ++ [stkO (x :: s')]) (.ref st.length) with | some xs => atI xs (-1) | none => none) = _
            rw [vw]
            show atI ((x :: s').reverse.map D.bl) (-1) = _
            rw [List.map_reverse, List.map_cons]
            exact ixlast (D.bl x) (s'.map D.bl)
          simp only [List.isEmpty_cons, Bool.not_false, if_true, ix, wo_some_, tru_bl, List.head?_cons, Option.some.injEq]
          cases x with
          | true =>
            have pp : popD (.ref st.length) [] (st ++ [stkO (true :: s')]) = some (.bl true, st ++ [stkO s']) := by
              show (match (st ++ [stkO (true :: s')])[st.length]? with
                | some (some (Ob.lst xs)) => (xs[xs.length - 1]?).map fun d => (d, (st ++ [stkO (true :: s')]).set st.length (some (.lst xs.dropLast)))
                | _ => none) = _
              rw [stk_at]
              show ((((true :: s').reverse.map D.bl)[((true :: s').reverse.map D.bl).length - 1]?).map fun d => (d, (st ++ [stkO (true :: s')]).set st.length (some (.lst ((true :: s').reverse.map D.bl).dropLast)))) = _
              rw [stk_set]
              simp [stkO]
            simp only [if_true, ws_expr, wp_mth0, wp_var, List.getElem?_cons_zero, List.getElem?_cons_succ, wv_some_, isl, true_and, pp, wo_some_, List.tail_cons]
            exact bt_loop v st r s' _ (by simp at hl; omega)
          | false =>
            simp only [Bool.false_eq_true, if_false]
            exact last
      · simp only [h3, if_false, false_and, Bool.false_eq_true]
        exact last
    by_cases h3 : c = 44
    · have hs : s = [] := Classical.not_not.1 fun z => h2 ⟨h3, z⟩
      subst hs
      simp only [h3, if_true, List.isEmpty_nil, Bool.not_true, Bool.false_eq_true, if_false]
      rw [h3] at step3
      exact ws_imp step3 (fun _ _ h => h) (fun _ _ h => h) (fun _ _ z => z.elim) (fun _ _ h => h) (fun _ _ _ h => h)
    · simp only [h3, if_false, Bool.false_eq_true]
      exact ws_imp step3 (fun _ _ h => h) (fun _ _ h => h) (fun _ _ z => z.elim) (fun _ _ h => h) (fun _ _ _ h => h)
theorem text_gen {d : D} (h : S0 d) : Gv F_is_brace_text [d] (.bl (isT d)) := gv_of fun st => by
  unfold F_is_brace_text
  rw [wp_run]
  simp only [b_is_brace_text, ws_seq, ws_if, wp_notB, wp_tru, wp_blt, wp_cons, wp_nil, wp_con, wp_var, List.map_cons, List.map_nil, List.cons_append, List.nil_append, List.length_cons, List.length_nil, List.replicate, List.getElem?_cons_zero, List.getElem?_cons_succ, wv_some_, isi_str h, wo_some_, tru_bl]
  cases d with
  | str s =>
    have h : s.length ≤ 16000000 := h
    simp only [isStrB, Bool.not_true, Bool.false_eq_true, if_false, ws_skip, ws_set, wp_lstT, wp_nil, List.length_nil, Nat.zero_le, true_and, List.set_cons_succ, List.set_cons_zero, ws_for, wp_walkA, wp_var, List.getElem?_cons_zero, wv_some_, walk_str, wo_some_]
    refine ws_imp (bt_loop (some (.str s)) st s [] none (by simpa using h)) ?_ ?_ (fun _ _ z => z.elim) (fun _ _ z => z.elim) (fun _ _ _ z => z.elim)
    · rintro ρ1 st1 ⟨s', sg', rfl, rfl, e⟩
      have ve : empD (.ref st.length) (.lst []) (st ++ [stkO s']) = some s'.isEmpty := by
        show ((viewL (st ++ [stkO s']) (.ref st.length)).map fun xs => xs.isEmpty) = _
        have vw : viewL (st ++ [stkO s']) (.ref st.length) = some (s'.reverse.map D.bl) := by
          simp only [viewL, stk_at]; rfl
        rw [vw]
        cases s' <;> simp
      simp only [ws_ret, wp_ofB, wp_cmpF, wp_var, wp_lstF, wp_nil, List.getElem?_cons_zero, List.getElem?_cons_succ, wv_some_, List.length_nil, Nat.zero_le, true_and, ve, wo_some_]
      exact ⟨by show _ = D.bl (btx s []); rw [e], Sx.app _ _⟩
    · rintro d st1 ⟨rfl, e, hs⟩
      exact ⟨by show _ = D.bl (btx s []); rw [e], hs⟩
  | _ => simp [isStrB, isT]; exact Sx.refl st
/-- what raises -/
def Gx (F : List D → M D) (a : List D) (e : Exc) : Prop := ∀ st, ∃ t, F a st = .exc e (st ++ t)
theorem Gx.wp {F : List D → M D} {a : List D} {e : Exc} (h : Gx F a e) {st : Store} {Q : D → Store → Prop} (q : ∀ t, X e (st ++ t)) : wp (F a st) X Q := by
  obtain ⟨t, he⟩ := h st
  rw [he]
  exact q t
theorem gx_of {F : List D → M D} {a : List D} {e : Exc} (h : ∀ st, wp (F a st) (fun x st' => x = e ∧ Sx st st') (fun _ _ => False)) : Gx F a e := fun st => by
  have := h st
  cases q : F a st with
  | ok d st1 => rw [q] at this; exact this.elim
  | bad => rw [q] at this; exact this.elim
  | exc x st1 =>
    rw [q] at this
    obtain ⟨rfl, t, rfl⟩ := this
    exact ⟨t, rfl⟩
theorem check_text_x {d : D} (h : S0 d) (hf : isT d = false) : Gx F_check_text [d] ⟨"InvalidText", none⟩ := gx_of fun st => by
  unfold F_check_text
  rw [wp_run]
  simp only [b_check_text, ws_if, wp_notB, wp_tru, wp_call, wp_cons, wp_nil, wp_var, wp_arity, List.map_cons, List.map_nil, List.cons_append, List.nil_append, List.length_cons, List.length_nil, List.replicate, List.getElem?_cons_zero, wv_some_, true_and, Nat.sub_self]
  refine (text_gen h).wp fun t => ?_
  simp only [tru_bl, wo_some_, hf, Bool.not_false, if_true, ws_raise0]
  first | exact ⟨trivial, Sx.app _ _⟩ | exact Sx.app _ _
theorem expand_x {d : D} (h : S0 d) (hf : isT d = false) : Gx F_expand [d] ⟨"InvalidText", none⟩ := gx_of fun st => by
  unfold F_expand
  rw [wp_run]
  simp only [b_expand, ws_seq, ws_expr, wp_call, wp_cons, wp_nil, wp_var, wp_arity, List.map_cons, List.map_nil, List.cons_append, List.nil_append, List.length_cons, List.length_nil, List.replicate, List.getElem?_cons_zero, wv_some_, true_and]
  exact (check_text_x h hf).wp fun t => ⟨rfl, Sx.app _ _⟩
theorem parse_x {d : D} (h : S0 d) (hf : isT d = false) : Gx F_parse_product [d] ⟨"InvalidText", none⟩ := gx_of fun st => by
  unfold F_parse_product
  rw [wp_run]
  simp only [b_parse_product, ws_seq, ws_expr, wp_call, wp_cons, wp_nil, wp_var, wp_arity, List.map_cons, List.map_nil, List.cons_append, List.nil_append, List.length_cons, List.length_nil, List.replicate, List.getElem?_cons_zero, wv_some_, true_and]
  exact (check_text_x h hf).wp fun t => ⟨rfl, Sx.app _ _⟩
theorem check_product_x {d : D} (h : S2 d) (hf : isP d = false) : Gx F_check_product [d] ⟨"InvalidProduct", none⟩ := gx_of fun st => by
  unfold F_check_product
  rw [wp_run]
  simp only [b_check_product, ws_if, wp_notB, wp_tru, wp_call, wp_cons, wp_nil, wp_var, wp_arity, List.map_cons, List.map_nil, List.cons_append, List.nil_append, List.length_cons, List.length_nil, List.replicate, List.getElem?_cons_zero, wv_some_, true_and, Nat.sub_self, prod_gen h, wp_ok_]
  simp only [tru_bl, wo_some_, hf, Bool.not_false, if_true, ws_raise0]
  first | exact ⟨trivial, Sx.refl _⟩ | exact Sx.refl _
theorem check_product_ok {d : D} (h : S2 d) (hf : isP d = true) : Gv F_check_product [d] .non := gv_of fun st => by
  unfold F_check_product
  rw [wp_run]
  simp only [b_check_product, ws_if, wp_notB, wp_tru, wp_call, wp_cons, wp_nil, wp_var, wp_arity, List.map_cons, List.map_nil, List.cons_append, List.nil_append, List.length_cons, List.length_nil, List.replicate, List.getElem?_cons_zero, wv_some_, true_and, Nat.sub_self, prod_gen h, wp_ok_]
  simp only [tru_bl, wo_some_, hf, Bool.not_true, Bool.false_eq_true, if_false, ws_skip]
  first | exact ⟨trivial, Sx.refl _⟩ | exact Sx.refl _
end LK33
namespace LK33
open PySem PySem.Spec PyProof.Rows L2 PL
variable {X : Exc → Store → Prop}
theorem mem_lettersL (c : Nat) : c ∈ lettersL ↔ 97 ≤ c ∧ c ≤ 122 := by
  simp [lettersL]; omega
theorem isW_low {s : Wo} : isW (.str s) = true ↔ Low s := by
  show (s.all fun c => decide (c ∈ lettersL)) = true ↔ _
  rw [List.all_eq_true]
  exact ⟨fun h c hc => (mem_lettersL c).1 (of_decide_eq_true (h c hc)), fun h c hc => decide_eq_true ((mem_lettersL c).2 (h c hc))⟩
theorem isR_rw {m l : Nat} {ws : List Wo} (h : Rw m l ws) : isR (rowD ws) = true := by
  show (!(ws.map D.str).isEmpty && (ws.map D.str).all isW) = true
  obtain ⟨h1, h2, h3⟩ := h
  rw [Bool.and_eq_true]
  refine ⟨by cases ws with | nil => exact absurd rfl h1 | cons _ _ => rfl, ?_⟩
  rw [List.all_eq_true]
  intro x hx
  obtain ⟨w, hw, rfl⟩ := List.mem_map.1 hx
  exact isW_low.2 (h3 w hw).1
theorem isP_pr {r m l : Nat} {ps : List (List Wo)} (h : Pr r m l ps) : isP (prodD ps) = true := by
  show (!(ps.map rowD).isEmpty && (ps.map rowD).all isR) = true
  obtain ⟨h1, h2, h3⟩ := h
  rw [Bool.and_eq_true]
  refine ⟨by cases ps with | nil => exact absurd rfl h1 | cons _ _ => rfl, ?_⟩
  rw [List.all_eq_true]
  intro x hx
  obtain ⟨w, hw, rfl⟩ := List.mem_map.1 hx
  exact isR_rw (h3 w hw)
theorem txt_le {l : Nat} : ∀ xs : List D, (∀ x ∈ xs, len0 x ≤ l) → txt xs ≤ xs.length * l
  | [], _ => Nat.zero_le _
  | x :: r, h => by
    have h1 := h x List.mem_cons_self
    have h2 := txt_le r fun y hy => h y (List.mem_cons_of_mem _ hy)
    rw [List.length_cons, Nat.succ_mul]
    show len0 x + txt r ≤ _
    omega
theorem S1_rw {m l : Nat} {ws : List Wo} (h : Rw m l ws) (hm : m ≤ 1000) (hl : l ≤ 1000) : S1 (rowD ws) := by
  refine ⟨?_, fun xs e => ?_⟩
  · show (ws.map D.str).length ≤ 16000000
    rw [List.length_map]; have := h.2.1; omega
  · cases e
    refine ⟨fun x hx => ?_, ?_⟩
    · obtain ⟨w, hw, rfl⟩ := List.mem_map.1 hx
      have := (h.2.2 w hw).2
      show w.length ≤ 16000000
      omega
    · have h1 := txt_le (l := l) (ws.map D.str) fun x hx => by
        obtain ⟨w, hw, rfl⟩ := List.mem_map.1 hx
        exact (h.2.2 w hw).2
      rw [List.length_map] at h1
      have h2 : ws.length * l ≤ 1000 * 1000 := Nat.mul_le_mul (by have := h.2.1; omega) hl
      omega
theorem S2_pr {r m l : Nat} {ps : List (List Wo)} (h : Pr r m l ps) (hr : r ≤ 1000) (hm : m ≤ 1000) (hl : l ≤ 1000) : S2 (prodD ps) := by
  refine ⟨⟨?_, fun xs e => ?_⟩, fun xs e x hx => ?_⟩
  · show (ps.map rowD).length ≤ 16000000
    rw [List.length_map]; have := h.2.1; omega
  · cases e
    refine ⟨fun x hx => ?_, ?_⟩
    · obtain ⟨w, hw, rfl⟩ := List.mem_map.1 hx
      exact (S1_rw (h.2.2 w hw) hm hl).1
    · have h1 := txt_le (l := 0) (ps.map rowD) fun x hx => by
        obtain ⟨w, hw, rfl⟩ := List.mem_map.1 hx
        exact Nat.le_refl _
      omega
  · cases e
    obtain ⟨w, hw, rfl⟩ := List.mem_map.1 hx
    exact S1_rw (h.2.2 w hw) hm hl
theorem sum_len {l : Nat} : ∀ ws : List (List Nat), (∀ w ∈ ws, w.length ≤ l) → (ws.map (·.length)).sum ≤ ws.length * l
  | [], _ => Nat.zero_le _
  | w :: r, h => by
    have h1 := h w List.mem_cons_self
    have h2 := sum_len r fun y hy => h y (List.mem_cons_of_mem _ hy)
    rw [List.length_cons, Nat.succ_mul, List.map_cons, List.sum_cons]
    omega
theorem joinG_len (s : List Nat) : ∀ ys : List (List Nat), (joinG s ys).length ≤ (ys.map (·.length)).sum + ys.length * s.length
  | [] => by simp [joinG]
  | [y] => by simp [joinG]
  | x :: y :: r => by
    have := joinG_len s (y :: r)
    simp only [joinG, List.length_append, List.map_cons, List.sum_cons, List.length_cons, Nat.succ_mul] at this ⊢
    omega
theorem format_ok {r m l : Nat} {ps : List (List Wo)} (h : Pr r m l ps) (hr : r ≤ 100) (hm : m ≤ 100) (hl : l ≤ 100) {st : Store} : wp (F_format_product [prodD ps] st) X fun _ st1 => Sx st st1 := by
  unfold F_format_product
  rw [wp_run]
  unfold b_format_product
  refine ws_seq_of (fun ρ st1 => ρ = [some (prodD ps), none, none] ∧ Sx st st1) ?_ ?_
  · simp only [ws_expr, wp_call, wp_cons, wp_nil, wp_var, wp_arity, List.map_cons, List.map_nil, List.cons_append, List.nil_append, List.length_cons, List.length_nil, List.replicate, List.getElem?_cons_zero, wv_some_, true_and]
    exact (check_product_ok (S2_pr h (by omega) (by omega) (by omega)) (isP_pr h)).wp fun t => by first | exact ⟨rfl, Sx.app _ _⟩ | exact Sx.app _ _
  rintro _ st1 ⟨rfl, h1⟩
  simp only [ws_seq, ws_set, wp_con, List.set_cons_succ, List.set_cons_zero, ws_for, wp_walkA, wp_var, List.getElem?_cons_zero, wv_some_, prodD, walk_tup, wo_some_]
  refine ws_forGo _ _ (fun i ρ st2 => st2 = st1 ∧ ∃ (t : List Nat) (x : Option D), ρ = [some (.tup (ps.map rowD)), some (.str t), x] ∧ t.length ≤ i * 20000) _ _ _ ⟨rfl, [], none, rfl, by simp⟩ ?_ ?_
  · rintro i d ρ st2 hd ⟨rfl, t, x, rfl, ht⟩
    obtain ⟨hi, rfl⟩ := List.getElem?_eq_some_iff.1 hd
    rw [List.length_map] at hi
    have hi2 : i < 100 := by have := h.2.1; omega
    rw [List.getElem_map]
    have hw : Rw m l ps[i] := h.2.2 _ (List.getElem_mem hi)
    generalize ps[i] = ws at hw
    obtain ⟨w1, w2, w3⟩ := hw
    have hs := sum_len ws fun w hw => (w3 w hw).2
    have hs2 : ws.length * l ≤ 100 * 100 := Nat.mul_le_mul (by omega) hl
    have jn : joinD (.str [44]) [.tup (ws.map D.str)] st2 = some (.str (joinG [44] ws), st2) := by
      show ((viewS st2 (.tup (ws.map D.str))).bind fun xs => (asStrs xs).bind fun ys => if (ys.map (·.length)).sum + ys.length * ([44] : List Nat).length ≤ 16777216 then some (D.str (joinG [44] ys), st2) else none) = _
      rw [show viewS st2 (.tup (ws.map D.str)) = some (ws.map D.str) from rfl]
      have ea : asStrs (ws.map D.str) = some ws := by
        have := asStrs_m ws fun w => w
        simpa using this
      simp only [Option.bind, ea]
      rw [if_pos (by simp; omega)]
    have jl := joinG_len [44] ws
    have aug : ∀ u : List Nat, u.length ≤ 20000 → augOp .add (.str t) (.str u) st2 = some (.str (t ++ u)) := fun u hu => by
      show (if t.length + u.length ≤ sizeLine then _ else none) = _
      rw [if_pos (by show _ ≤ 16777216; have := Nat.mul_le_mul_right 20000 (Nat.le_of_lt hi2); omega)]
    simp only [g_nm, wo_some_, List.set_cons_succ, List.set_cons_zero, ws_aug, List.getElem?_cons_zero, List.getElem?_cons_succ, wv_some_, wp_ifE, wp_cmpB, wp_blt, wp_cons, wp_nil, wp_var, wp_con, rowD, PL.len_tup, PL.eq_int, wp_ix, wp_bin, wp_mth, isStr, jn, decide_eq_true_eq, List.length_map]
    by_cases h1 : (ws.length : Int) = 1
    · rw [if_pos h1]
      obtain ⟨w, rfl⟩ : ∃ w, ws = [w] := List.length_eq_one_iff.1 (by omega)
      have e0 : ixD (.tup ([w].map D.str)) (.int 0) st2 = some (.str w) := at0 _ _
      have hwl := (w3 w List.mem_cons_self).2
      simp only [e0, wo_some_, aug w (by omega)]
      exact ⟨trivial, _, _, rfl, by rw [List.length_append, Nat.succ_mul]; omega⟩
    · rw [if_neg h1]
      simp only [true_and, PL.add_str, wo_some_]
      have l2 : ([123] ++ joinG [44] ws ++ [125]).length ≤ 20000 := by simp at jl ⊢; omega
      refine ⟨by simp at jl ⊢; omega, by simp at jl ⊢; omega, ?_⟩
      simp only [aug _ l2, wo_some_]
      exact ⟨_, _, rfl, by rw [List.length_append, Nat.succ_mul]; omega⟩
  · rintro ρ st2 ⟨rfl, t, x, rfl, ht⟩
    simp only [ws_ret, wp_var, List.getElem?_cons_zero, List.getElem?_cons_succ, wv_some_]
    exact h1
end LK33
namespace LK33
open PySem PySem.Spec PyProof.Rows L2 PL
variable {X : Exc → Store → Prop}
def sx (s : String) : D := .str (s.toList.map (·.toNat))
def wX (C : String) : D := .lst [if C = "InvalidText" then .str [73, 110, 118, 97, 108, 105, 100, 84, 101, 120, 116] else .str [73, 110, 118, 97, 108, 105, 100, 80, 114, 111, 100, 117, 99, 116], .str [86, 97, 108, 117, 101, 69, 114, 114, 111, 114]]
section
variable (st : Store) (a b : Option Ob) (xs : List D)
theorem two_at0 : (st ++ [a, b])[st.length]? = some a := by simp
theorem two_at1 : (st ++ [a, b])[st.length + 1]? = some b := by
  rw [List.getElem?_append_right (by omega)]
  simp
theorem two_set0 (o : Option Ob) : (st ++ [a, b]).set st.length o = st ++ [o, b] := by
  rw [List.set_append_right _ _ (Nat.le_refl _)]
  simp
theorem two_set1 (o : Option Ob) : (st ++ [a, b]).set (st.length + 1) o = st ++ [a, o] := by
  rw [List.set_append_right _ _ (by omega)]
  simp
theorem two_app1 (d : D) (hz : xs.length < 100) : appendD (.ref (st.length + 1)) [d] (st ++ [a, some (.lst xs)]) = some (.non, st ++ [a, some (.lst (xs ++ [d]))]) := by
  rw [app_at (two_at1 st a _) d (by omega), two_set1]
theorem two_app0 (d : D) (hz : xs.length < 100) : appendD (.ref st.length) [d] (st ++ [some (.lst xs), b]) = some (.non, st ++ [some (.lst (xs ++ [d])), b]) := by
  rw [app_at (two_at0 st _ b) d (by omega), two_set0]
theorem two_isL0 : isLst (.ref st.length) (st ++ [some (.lst xs), b]) = true := by
  simp only [isLst, viewL, two_at0]; rfl
theorem two_isL1 : isLst (.ref (st.length + 1)) (st ++ [a, some (.lst xs)]) = true := by
  simp only [isLst, viewL, two_at1]; rfl
theorem two_frz0 : frz (.ref st.length) (st ++ [some (.lst xs), b]) = .ok (.lst xs) (st ++ [none, b]) := by
  simp only [frz, two_at0, two_set0]
theorem two_new : (st ++ [a]) ++ [b] = st ++ [a, b] := by simp
theorem two_len : (st ++ [a]).length = st.length + 1 := by simp
end
theorem wp_walkL {X : Exc → Store → Prop} {ρ : PL.Env} {st : Store} {QL : List D → Store → Prop} (f : PL.Env → M D) : wp (sWalkL f ρ st) X QL = wp (f ρ st) X fun a st1 => wo (match a with | .lst xs => some xs | _ => none) fun xs => QL xs st1 := by
  simp only [sWalkL, bnd, wp_bnd, wp_ofO]
  try rfl
theorem ws_frzS1 {k : SK} (x0 x1 : Option D) (x3 x4 : Option D) (st : Store) (a : Option Ob) (xs : List D) : ws (sFrzS 2 [x0, x1, some (.ref (st.length + 1)), x3, x4] (st ++ [a, some (.lst xs)])) k = k.nx [x0, x1, some (.lst xs), x3, x4] (st ++ [a, none]) := by
  unfold sFrzS
  simp [frz, two_at1, two_set1]
theorem forGo_nil {k : SK} (g : D → PL.Env → Option PL.Env) (body : SM) (ρ : PL.Env) (st : Store) : ws (forGo g body [] ρ st) k = k.nx ρ st := rfl
theorem classes_eq {C : String} (hC : C = "InvalidText" ∨ C = "InvalidProduct") : Gv F_law_classes [.exn C "" .non] (wX C) := gv_of fun st => by
  unfold F_law_classes
  rw [wp_run]
  have l1 : ∀ (xs : List D) (a : Option Ob), isLst (.ref (st.length + 1)) (st ++ [a, some (.lst xs)]) = true := fun xs a => two_isL1 st a xs
  have l0 : ∀ (xs : List D) (b : Option Ob), isLst (.ref st.length) (st ++ [some (.lst xs), b]) = true := fun xs b => two_isL0 st b xs
  rcases hC with rfl | rfl <;>
  · simp [b_law_classes, two_new, two_len, l0, l1, two_app1, two_app0, List.lookup, ws_frzS1, wp_walkL, forGo_cons, forGo_nil, two_frz0, wX]
    exact Sx.app _ _
theorem format_x {d : D} (h : S2 d) (hf : isP d = false) : Gx F_format_product [d] ⟨"InvalidProduct", none⟩ := gx_of fun st => by
  unfold F_format_product
  rw [wp_run]
  simp only [b_format_product, ws_seq, ws_expr, wp_call, wp_cons, wp_nil, wp_var, wp_arity, List.map_cons, List.map_nil, List.cons_append, List.nil_append, List.length_cons, List.length_nil, List.replicate, List.getElem?_cons_zero, wv_some_, true_and]
  exact (check_product_x h hf).wp fun t => ⟨rfl, Sx.app _ _⟩
theorem after_x {C : String} (hC : C = "InvalidText" ∨ C = "InvalidProduct") {p : Int} {d : D} {st st1 : Store} (hs : Sx st st1) : wp (F_law_classes [.exn C "" .non] st1) X fun x st' => x = wX C ∧ Sx st st' :=
  (classes_eq hC).wp fun t => ⟨rfl, hs.trans (Sx.app _ _)⟩
theorem exnD0 (C : String) : exnD ⟨C, none⟩ = .exn C "" .non := rfl
theorem tried_x {p : Int} {d : D} (hp : p = 0 ∨ p = 1 ∨ p = 2 ∨ p = 3) (h : S0 d) (hf : isT d = false) : Gv F_law_tried [.int p, d] (wX "InvalidText") := gv_of fun st => by
  unfold F_law_tried
  rw [wp_run]
  rcases hp with rfl | rfl | rfl | rfl
  · simp [b_law_tried, ws_tryV, permL]
    refine (expand_x h hf).wp fun t => ?_
    simp [exnD0]
    exact after_x (p := 0) (d := d) (.inl rfl) (Sx.app _ _)
  · simp [b_law_tried, ws_tryV, permL]
    refine (expand_x h hf).wp fun t => ?_
    simp [exnD0]
    exact after_x (p := 0) (d := d) (.inl rfl) (Sx.app _ _)
  · simp [b_law_tried, ws_tryV, permL]
    refine (parse_x h hf).wp fun t => ?_
    simp [exnD0]
    exact after_x (p := 0) (d := d) (.inl rfl) (Sx.app _ _)
  · simp [b_law_tried, ws_tryV, permL]
    refine (parse_x h hf).wp fun t => ?_
    simp [exnD0]
    exact after_x (p := 0) (d := d) (.inl rfl) (Sx.app _ _)
theorem tried_p {p : Int} {d : D} (hp : p = 4 ∨ p = 5) (h : S2 d) (hf : isP d = false) : Gv F_law_tried [.int p, d] (wX "InvalidProduct") := gv_of fun st => by
  unfold F_law_tried
  rw [wp_run]
  rcases hp with rfl | rfl
  · simp [b_law_tried, ws_tryV, permL]
    refine (format_x h hf).wp fun t => ?_
    simp [exnD0, List.lookup]
    exact after_x (p := 0) (d := d) (.inr rfl) (Sx.app _ _)
  · simp [b_law_tried, ws_tryV, permL]
    refine (format_x h hf).wp fun t => ?_
    simp [exnD0, List.lookup]
    exact after_x (p := 0) (d := d) (.inr rfl) (Sx.app _ _)
theorem tried_ok {p : Int} {r m l : Nat} {ps : List (List Wo)} (hp : p = 4 ∨ p = 5) (h : Pr r m l ps) (hr : r ≤ 100) (hm : m ≤ 100) (hl : l ≤ 100) : Gv F_law_tried [.int p, prodD ps] (.lst []) := gv_of fun st => by
  unfold F_law_tried
  rw [wp_run]
  rcases hp with rfl | rfl
  · simp [b_law_tried, ws_tryV, permL]
    exact wp_imp (format_ok h hr hm hl) fun _ _ q => by simpa using q
  · simp [b_law_tried, ws_tryV, permL]
    exact wp_imp (format_ok h hr hm hl) fun _ _ q => by simpa using q
end LK33
namespace LK33
open PySem PySem.Spec PyProof.Rows L2 PL
variable {X : Exc → Store → Prop}
theorem draw_spec0 {n c : Nat} {m : Int} {st : Store} (h : Tr n c st) (hc : c < 1000000) (hm : 0 < m) (hm2 : m < 2 ^ 256) : wp (F_law_draw [.ref n, .int m] st) X fun d st' => (∃ r, d = .int r ∧ 0 ≤ r ∧ r < m) ∧ Tr n (c + 1) st' ∧ ∃ x, st' = st.set n x := by
  obtain ⟨a, b, k, e, ha, hb, hb2, hk, hk2⟩ := h
  have hlog := log_lt hm hm2
  have s0 : ∀ v, setD (.ref n) (.int 0) v st = some (st.set n (some (.lst [v, .int b, .int k]))) := fun v => setD_at (j := 0) e rfl
  have s2 : ∀ v, setD (.ref n) (.int 2) v st = some (st.set n (some (.lst [.int a, .int b, v]))) := fun v => setD_at (j := 2) e rfl
  unfold F_law_draw
  rw [wp_run]
  simp [b_law_draw, ix_ref e, at0, at1, at2, s0, s2, ix_ref (set_lst e), hm, hlog]
  split
  · refine ⟨⟨Int.emod_nonneg _ (by omega), Int.emod_lt_of_pos _ hm⟩, ?_⟩
    exact ⟨⟨_, _, _, set_lst e, Int.ediv_nonneg ha (by omega), hb, hb2, hk, by omega⟩, _, rfl⟩
  · refine ⟨bits_le (by omega) (by omega), ?_⟩
    have y0 : 0 ≤ (b + 1299709 * (k + 1)) ^ 3 % 162259276829213363391578010288127 := Int.emod_nonneg _ (by decide)
    have y1 : (b + 1299709 * (k + 1)) ^ 3 % 162259276829213363391578010288127 < 162259276829213363391578010288127 := Int.emod_lt_of_pos _ (by decide)
    generalize (b + 1299709 * (k + 1)) ^ 3 % 162259276829213363391578010288127 = y at y0 y1 ⊢
    refine ⟨bits_le5 (by omega) (by omega), by decide, ⟨Int.emod_nonneg _ (by omega), Int.emod_lt_of_pos _ hm⟩, ?_⟩
    exact ⟨⟨_, _, _, set_lst e, ha, hb, hb2, by omega, by omega⟩, _, rfl⟩
theorem draw_spec {fk : Nat} {fo : Option (Option Ob)} {n c : Nat} {m : Int} {st : Store} (h : Tk fk fo n c st) (hc : c < 1000000) (hm : 0 < m) (hm2 : m < 2 ^ 256) : wp (F_law_draw [.ref n, .int m] st) X fun d st' => (∃ r, d = .int r ∧ 0 ≤ r ∧ r < m) ∧ Tk fk fo n (c + 1) st' := by
  refine wp_imp (draw_spec0 h.1 hc hm hm2) ?_
  rintro d st' ⟨h1, h2, x, rfl⟩
  exact ⟨h1, h2, h.2.1, by rw [List.getElem?_set_ne h.2.1.symm]; exact h.2.2⟩
theorem source_spec {v : Int} {i : Nat} {st : Store} (hi : i < 64) : wp (F_law_source [.int v, .int i] st) X fun d st' => ∃ n, d = .ref n ∧ Tr n 0 st' := by
  unfold F_law_source
  rw [wp_run]
  have b1 : (bitsOf 10 : Int) * 18 ≤ 134217728 := by decide
  simp [b_law_source, sizeLine, b1]
  refine ⟨_, _, _, List.getElem?_concat_length, by omega, ?_, ?_, by omega, by omega⟩ <;> omega
theorem cell_spec {ns : List Int} {i : Nat} {st : Store} : wp (F_law_cell_at [.scr ns, .int i] st) X fun d st' => ∃ v : Int, d = .int v ∧ st' = st := by
  unfold F_law_cell_at
  rw [wp_run]
  simp [b_law_cell_at]
  intro h
  simp [atI_nat (List.getElem?_eq_getElem h)]
theorem word_spec {fk : Nat} {fo : Option (Option Ob)} {n c : Nat} {m : Nat} {st : Store} (h : Tk fk fo n c st) (hc : c < 900000) (hm : m ≤ 20) :
    wp (F_law_word [.ref n, .int m] st) X fun d st' => (∃ t, d = .str t ∧ Low t ∧ t.length ≤ m) ∧ Tk fk fo n (c + 61) st' := by
  unfold F_law_word
  rw [wp_run]
  simp [b_law_word]
  refine wp_imp (draw_spec h (by omega) (by omega) (by omega)) ?_
  rintro _ st1 ⟨⟨r, rfl, hr, hr2⟩, h1⟩
  rw [rng1_nat hr (by omega), wo_some_]
  refine ws_forGo _ _ (fun i ρ st2 => Tk fk fo n (c + 1 + 3 * i) st2 ∧ ∃ t x, ρ = [some (.ref n), some (.int m), some (.str t), x] ∧ Low t ∧ t.length ≤ i) _ _ _ ⟨h1, [], none, rfl, (fun _ z => by cases z), by simp⟩ ?_ ?_
  · rintro i d ρ st2 hd ⟨h2, t, x, rfl, ht, hl⟩
    obtain ⟨rfl, hi⟩ := rng_gt hd
    simp
    refine wp_imp (draw_spec h2 (by omega) (by omega) (by omega)) ?_
    rintro _ st3 ⟨⟨q, rfl, hq, hq2⟩, h3⟩
    simp
    refine at_any hq (by simp; omega) fun x hx => ?_
    obtain ⟨z, rfl, hz1, hz2⟩ : ∃ z : Int, x = .int z ∧ 1 ≤ z ∧ z ≤ 3 := by
      simp at hx
      rcases hx with rfl | rfl | rfl
      · exact ⟨1, rfl, by omega, by omega⟩
      · exact ⟨2, rfl, by omega, by omega⟩
      · exact ⟨3, rfl, by omega, by omega⟩
    have zz : ∀ x, x ∈ [(1 : Int)] → True := fun _ _ => trivial
    refine wp_imp (draw_spec h3 (by omega) (by omega) (by omega)) ?_
    rintro _ st4 ⟨⟨q4, rfl, hq4, hq42⟩, h4⟩
    simp
    refine at_any hq4 (by simp; omega) fun x hx => ?_
    have hx2 : 97 ≤ x ∧ x ≤ 122 := by
      simp at hx
      rcases hx with rfl | rfl | rfl <;> omega
    exact ⟨by omega, h4.mono (by omega), ht.app fun y hy => by rw [List.mem_singleton.1 hy]; exact hx2, hl⟩
  · rintro ρ st2 ⟨h2, t, x, rfl, ht, hl⟩
    rw [rng_ln] at h2 hl
    simp
    exact ⟨⟨ht, by omega⟩, h2.mono (by omega)⟩
theorem row_spec {fk : Nat} {fo : Option (Option Ob)} {n c : Nat} {st : Store} (h : Tk fk fo n c st) (hc : c < 800000) :
    wp (F_law_row [.ref n, .int 6, .int 3] st) X fun d st' => (∃ ws, d = rowD ws ∧ Rw 6 20 ws) ∧ Tk fk fo n (c + 500) st' := by
  unfold F_law_row
  rw [wp_run]
  have rw_of : ∀ (xs : List D), xs ≠ [] → xs.length ≤ 6 → (∀ (i : Nat) x, xs[i]? = some x → ∃ w, x = .str w ∧ Low w ∧ w.length ≤ 20) → ∃ ws : List Wo, D.tup xs = rowD ws ∧ Rw 6 20 ws := fun xs h0 hl hR => by
    obtain ⟨ws, rfl, hws, hwl⟩ := strs_of xs hR
    exact ⟨ws, rfl, fun z => h0 (by rw [z]; rfl), by omega, hws⟩
  have nel : ∀ (xs : List D), 0 < xs.length → xs ≠ [] := fun xs h z => by rw [z] at h; simp at h
  simp [b_law_row]
  refine wp_imp (draw_spec h (by omega) (by omega) (by omega)) ?_
  rintro _ st1 ⟨⟨w, rfl, hw, hw2⟩, h1⟩
  refine wp_imp (draw_spec h1 (by omega) (by omega) (by omega)) ?_
  rintro _ st2 ⟨⟨k, rfl, hk, hk2⟩, h2⟩
  simp
  refine wp_imp (word_spec (m := 3) h2 (by omega) (by omega)) ?_
  rintro _ st3 ⟨⟨a, rfl, ha, ha2⟩, h3⟩
  try simp
  by_cases w0 : w = 0
  · subst w0
    simp
    rw [mulU_tup (by simp) (by simp) (by omega) (by omega), wo_some_]
    refine ⟨⟨List.replicate (1 + k).toNat [], ?_, ?_, by simp; omega, fun w hw => ?_⟩, h3.mono (by omega)⟩
    · simp [repN, rowD, List.map_replicate, List.flatten_replicate_singleton]
    · intro z
      have := congrArg List.length z
      simp at this
      omega
    · rw [List.eq_of_mem_replicate hw]
      exact ⟨(fun _ z => nomatch z), Nat.zero_le _⟩
  simp [w0]
  by_cases w1 : w = 1
  · subst w1
    simp
    refine wp_imp (word_spec (m := 1) h3 (by omega) (by omega)) ?_
    rintro _ st4 ⟨⟨b, rfl, hb, hb2⟩, h4⟩
    try simp
    rw [rng1_nat (by omega) (by omega), wo_some_]
    refine wp_compGo _ _ _ (fun _ st => Tk fk fo n (c + 200) st) (fun _ x => ∃ w, x = .str w ∧ Low w ∧ w.length ≤ 20) _ _ _ _ (h4.mono (by omega)) (by simp [rng_ln]; omega) ?_ ?_
    · intro i d st hd hi
      obtain ⟨kk, rfl, hkk, hi2⟩ := rng_gi hd
      have hk6 : kk ≤ 6 := by omega
      have e1 := cut_to a 1
      simp [wipeE]
      have e1 : cutG a none (some 1) = a.take 1 := cut_to a 1
      rw [e1]
      have l1 : (a.take 1).length ≤ 1 := by simp; omega
      have l2 : (a.take 1).length * kk.toNat ≤ 1 * 6 := Nat.mul_le_mul l1 (by omega)
      have l3 : (repN (a.take 1) kk).length ≤ 6 := by rw [repN_len, Nat.mul_comm]; omega
      refine ⟨by omega, ⟨by omega, by omega, by simpa using (by omega : (a.take 1).length * kk.toNat ≤ 16777216)⟩, by simpa using (by omega : (repN (a.take 1) kk).length + b.length ≤ 16777216), ⟨((ha.take 1).rep kk).app hb, ?_⟩, hi⟩
      simpa using (by omega : (repN (a.take 1) kk).length + b.length ≤ 20)
    · intro xs st3 hx hR hI
      rw [rng_ln] at hx
      exact ⟨rw_of xs (nel _ (by omega)) (by omega) hR, hI.mono (by omega)⟩
  simp [w1]
  rw [rng1_nat (by omega) (by omega), wo_some_]
  refine wp_compGo _ _ _ (fun i st => Tk fk fo n (c + 70 + 61 * i) st) (fun _ x => ∃ w, x = .str w ∧ Low w ∧ w.length ≤ 20) _ _ _ _ (h3.mono (by omega)) (by simp [rng_ln]; omega) ?_ ?_
  · intro i d st hd hi
    obtain ⟨rfl, hi2⟩ := rng_gt hd
    simp [wipeE]
    refine wp_imp (word_spec (m := 3) hi (by omega) (by omega)) ?_
    rintro _ st9 ⟨⟨w, rfl, hw, hwl⟩, h9⟩
    exact ⟨⟨w, rfl, hw, by omega⟩, h9.mono (by omega)⟩
  · intro xs st3 hx hR hI
    rw [rng_ln] at hx hI
    exact ⟨rw_of xs (nel _ (by omega)) (by omega) hR, hI.mono (by omega)⟩
end LK33
namespace LK33
open PySem PySem.Spec PyProof.Rows L2 PL
variable {X : Exc → Store → Prop}
theorem flats_all {k : Nat} : ∀ {xs : List D}, flats k xs = true → ∀ x ∈ xs, flat k x = true
  | y :: r, h, x, hx => by
    have h : (flat k y && flats k r) = true := h
    rw [Bool.and_eq_true] at h
    rcases List.mem_cons.1 hx with rfl | hx
    · exact h.1
    · exact flats_all h.2 x hx
theorem flEs_all {k : Nat} : ∀ {xs : List D}, flEs k xs = true → ∀ x ∈ xs, flE k x = true
  | y :: r, h, x, hx => by
    have h : (flE k y && flEs k r) = true := h
    rw [Bool.and_eq_true] at h
    rcases List.mem_cons.1 hx with rfl | hx
    · exact h.1
    · exact flEs_all h.2 x hx
theorem rszs_all : ∀ {xs : List D}, (∀ x ∈ xs, rsz x ≤ rszs xs) ∧ 2 * xs.length ≤ rszs xs ∧ txt xs ≤ rszs xs
  | [] => ⟨fun x hx => (by cases hx), by simp, by simp [txt]⟩
  | y :: r => by
    obtain ⟨h1, h2, h3⟩ := rszs_all (xs := r)
    have e : rszs (y :: r) = rsz y + 2 + rszs r := rfl
    have hl : len0 y ≤ rsz y := by
      cases y with
      | str s => show s.length ≤ 10 * s.length + 2; omega
      | _ => exact Nat.zero_le _
    refine ⟨fun x hx => ?_, ?_, ?_⟩
    · rcases List.mem_cons.1 hx with rfl | hx
      · omega
      · have := h1 x hx; omega
    · rw [List.length_cons]; omega
    · show len0 y + txt r ≤ _; omega
theorem rszEs_all : ∀ {xs : List D}, (∀ x ∈ xs, rszE x ≤ rszEs xs) ∧ 2 * xs.length ≤ rszEs xs ∧ txt xs ≤ rszEs xs
  | [] => ⟨fun x hx => (by cases hx), by simp, by simp [txt]⟩
  | y :: r => by
    obtain ⟨h1, h2, h3⟩ := rszEs_all (xs := r)
    have e : rszEs (y :: r) = rszE y + 2 + rszEs r := rfl
    have hl : len0 y ≤ rszE y := by
      cases y with
      | str s => show s.length ≤ 10 * s.length + 2; omega
      | _ => exact Nat.zero_le _
    refine ⟨fun x hx => ?_, ?_, ?_⟩
    · rcases List.mem_cons.1 hx with rfl | hx
      · omega
      · have := h1 x hx; omega
    · rw [List.length_cons]; omega
    · show len0 y + txt r ≤ _; omega
/-- flat data (b: with empty dicts, no lists), small in its writing -/
def P2 (b : Bool) (k n : Nat) (d : D) : Prop := (if b then flE k d else flat k d) = true ∧ intsOk d = true ∧ (if b then rszE d else rsz d) ≤ n
theorem p2_s0 {b : Bool} {k n : Nat} {d : D} (h : P2 b k n d) (hn : n ≤ 16000000) : S0 d := by
  obtain ⟨h1, _, h3⟩ := h
  cases d with
  | str s =>
    show s.length ≤ 16000000
    have : 10 * s.length + 2 ≤ n := by cases b <;> exact h3
    omega
  | tup xs =>
    show xs.length ≤ 16000000
    cases b with
    | false =>
      have h3 : rszs xs + 3 ≤ n := h3
      have := (rszs_all (xs := xs)).2.1
      omega
    | true =>
      have h3 : rszEs xs + 3 ≤ n := h3
      have := (rszEs_all (xs := xs)).2.1
      omega
  | scr ns => cases b <;> cases k <;> cases h1
  | ref m => cases b <;> cases k <;> cases h1
  | vv v => cases b <;> cases k <;> cases h1
  | exn _ _ _ => cases b <;> cases k <;> cases h1
  | _ => trivial
theorem p2_sub {b : Bool} {k n : Nat} {xs : List D} (h : P2 b k n (.tup xs)) : ∃ j, (∀ x ∈ xs, P2 b j n x) ∧ txt xs ≤ n := by
  obtain ⟨h1, h2, h3⟩ := h
  have hi : ∀ {ys : List D}, intsOks ys = true → ∀ y ∈ ys, intsOk y = true := fun {ys} => by
    induction ys with
    | nil => intro _ y hy; cases hy
    | cons z r ih =>
      intro h y hy
      have h : (intsOk z && intsOks r) = true := h
      rw [Bool.and_eq_true] at h
      rcases List.mem_cons.1 hy with rfl | hy
      · exact h.1
      · exact ih h.2 y hy
  cases k with
  | zero => cases b <;> cases h1
  | succ k =>
    refine ⟨k, fun x hx => ?_, ?_⟩
    · cases b with
      | false =>
        have h3 : rszs xs + 3 ≤ n := h3
        have := (rszs_all (xs := xs)).1 x hx
        exact ⟨flats_all h1 x hx, hi h2 x hx, by show rsz x ≤ n; omega⟩
      | true =>
        have h3 : rszEs xs + 3 ≤ n := h3
        have := (rszEs_all (xs := xs)).1 x hx
        exact ⟨flEs_all h1 x hx, hi h2 x hx, by show rszE x ≤ n; omega⟩
    · cases b with
      | false =>
        have h3 : rszs xs + 3 ≤ n := h3
        have := (rszs_all (xs := xs)).2.2
        omega
      | true =>
        have h3 : rszEs xs + 3 ≤ n := h3
        have := (rszEs_all (xs := xs)).2.2
        omega
theorem p2_s1 {b : Bool} {k n : Nat} {d : D} (h : P2 b k n d) (hn : n ≤ 16000000) : S1 d := ⟨p2_s0 h hn, fun xs e => by
  subst e
  obtain ⟨j, h1, h2⟩ := p2_sub h
  exact ⟨fun x hx => p2_s0 (h1 x hx) hn, by omega⟩⟩
theorem p2_s2 {b : Bool} {k n : Nat} {d : D} (h : P2 b k n d) (hn : n ≤ 16000000) : S2 d := ⟨p2_s1 h hn, fun xs e => by
  subst e
  obtain ⟨j, h1, _⟩ := p2_sub h
  exact fun x hx => p2_s1 (h1 x hx) hn⟩
theorem plainE_s2 {d : D} (h : PlainE d) : S2 d := by
  rcases h with ⟨h1, h2, h3⟩ | ⟨_, h1, h2, h3⟩
  · exact p2_s2 (b := false) (k := 40) ⟨h1, h2, h3⟩ (Nat.le_refl _)
  · exact p2_s2 (b := true) (k := 40) ⟨h1, h2, h3⟩ (Nat.le_refl _)
theorem p2_plain {b : Bool} {n : Nat} {d : D} (h : P2 b 40 n d) (hn : n ≤ 16000000) (hb : b = true → isTE d = true) : PlainE d := by
  cases b with
  | false => exact .inl ⟨h.1, h.2.1, Nat.le_trans h.2.2 hn⟩
  | true => exact .inr ⟨hb rfl, h.1, h.2.1, Nat.le_trans h.2.2 hn⟩
theorem p2_str (b : Bool) (k : Nat) {s : Wo} (h : Low s) {l : Nat} (hl : s.length ≤ l) : P2 b k (10 * l + 2) (.str s) := by
  have hf : flat k (.str s) = true := flat_low h k
  have hs : (s.all fun c => decide (c < 1114112)) = true := by cases k <;> exact hf
  refine ⟨?_, rfl, ?_⟩
  · cases b
    · exact hf
    · cases k <;> exact hs
  · cases b <;> (show 10 * s.length + 2 ≤ _; omega)
theorem P2.mono {b : Bool} {k n n' : Nat} {d : D} (h : P2 b k n d) (hn : n ≤ n') : P2 b k n' d := ⟨h.1, h.2.1, Nat.le_trans h.2.2 hn⟩
theorem flEs_of {k : Nat} : ∀ {xs : List D}, (∀ x ∈ xs, flE k x = true) → flEs k xs = true
  | [], _ => rfl
  | y :: r, h => by
    show (flE k y && flEs k r) = true
    rw [h y List.mem_cons_self, flEs_of fun x hx => h x (List.mem_cons_of_mem _ hx)]; rfl
theorem flats_of {k : Nat} : ∀ {xs : List D}, (∀ x ∈ xs, flat k x = true) → flats k xs = true
  | [], _ => rfl
  | y :: r, h => by
    show (flat k y && flats k r) = true
    rw [h y List.mem_cons_self, flats_of fun x hx => h x (List.mem_cons_of_mem _ hx)]; rfl
theorem intsOks_of : ∀ {xs : List D}, (∀ x ∈ xs, intsOk x = true) → intsOks xs = true
  | [], _ => rfl
  | y :: r, h => by
    show (intsOk y && intsOks r) = true
    rw [h y List.mem_cons_self, intsOks_of fun x hx => h x (List.mem_cons_of_mem _ hx)]; rfl
theorem rszs_le {n : Nat} : ∀ {xs : List D}, (∀ x ∈ xs, rsz x ≤ n) → rszs xs ≤ xs.length * (n + 2)
  | [], _ => Nat.zero_le _
  | y :: r, h => by
    have h1 := h y List.mem_cons_self
    have h2 := rszs_le fun x hx => h x (List.mem_cons_of_mem _ hx)
    rw [List.length_cons, Nat.succ_mul]
    show rsz y + 2 + rszs r ≤ _
    omega
theorem rszEs_le {n : Nat} : ∀ {xs : List D}, (∀ x ∈ xs, rszE x ≤ n) → rszEs xs ≤ xs.length * (n + 2)
  | [], _ => Nat.zero_le _
  | y :: r, h => by
    have h1 := h y List.mem_cons_self
    have h2 := rszEs_le fun x hx => h x (List.mem_cons_of_mem _ hx)
    rw [List.length_cons, Nat.succ_mul]
    show rszE y + 2 + rszEs r ≤ _
    omega
theorem p2_tup {b : Bool} {k n m N : Nat} {xs : List D} (h : ∀ x ∈ xs, P2 b k n x) (hm : xs.length ≤ m) (hN : m * (n + 2) + 3 ≤ N) : P2 b (k + 1) N (.tup xs) := by
  have := Nat.mul_le_mul_right (n + 2) hm
  cases b with
  | false =>
    have h3 := rszs_le fun x hx => (h x hx).2.2
    refine ⟨flats_of fun x hx => (h x hx).1, intsOks_of fun x hx => (h x hx).2.1, ?_⟩
    show rszs xs + 3 ≤ N
    omega
  | true =>
    have h3 := rszEs_le fun x hx => (h x hx).2.2
    refine ⟨flEs_of fun x hx => (h x hx).1, intsOks_of fun x hx => (h x hx).2.1, ?_⟩
    show rszEs xs + 3 ≤ N
    omega
theorem p2_lst {k n m N : Nat} {xs : List D} (h : ∀ x ∈ xs, P2 false k n x) (hm : xs.length ≤ m) (hN : m * (n + 2) + 3 ≤ N) : P2 false (k + 1) N (.lst xs) := by
  have := Nat.mul_le_mul_right (n + 2) hm
  have h3 := rszs_le fun x hx => (h x hx).2.2
  refine ⟨flats_of fun x hx => (h x hx).1, intsOks_of fun x hx => (h x hx).2.1, ?_⟩
  show rszs xs + 3 ≤ N
  omega
theorem p2_words (b : Bool) (k : Nat) {ws : List Wo} (h : Rw 60 200 ws) : ∀ x ∈ ws.map D.str, P2 b k 2002 x := fun x hx => by
  obtain ⟨w, hw, rfl⟩ := List.mem_map.1 hx
  exact p2_str b k (h.2.2 w hw).1 (h.2.2 w hw).2
theorem p2_row (b : Bool) (k : Nat) {ws : List Wo} (h : Rw 60 200 ws) : P2 b (k + 1) 120243 (rowD ws) := p2_tup (m := 60) (p2_words b k h) (by rw [List.length_map]; exact h.2.1) (by omega)
/-- the stack behind a text -/
def brun : List Nat → List Bool → Option (List Bool)
  | [], s => some s
  | c :: r, s => if c = 123 then brun r (false :: s) else if c = 44 ∧ s ≠ [] then brun r (true :: s.tail) else if c = 125 ∧ s.head? = some true then brun r s.tail
    else if c ∈ lettersL then brun r s else none
theorem btx_app : ∀ (a r : List Nat) (s s' : List Bool), brun a s = some s' → btx (a ++ r) s = btx r s'
  | [], r, s, s', h => by cases h; rfl
  | c :: a, r, s, s', h => by
    show btx (c :: (a ++ r)) s = _
    unfold brun at h
    conv => lhs; unfold btx
    by_cases h1 : c = 123
    · rw [if_pos h1] at h ⊢
      exact btx_app a r _ _ h
    rw [if_neg h1] at h ⊢
    by_cases h2 : c = 44 ∧ s ≠ []
    · rw [if_pos h2] at h ⊢
      exact btx_app a r _ _ h
    rw [if_neg h2] at h ⊢
    by_cases h3 : c = 125 ∧ s.head? = some true
    · rw [if_pos h3] at h ⊢
      exact btx_app a r _ _ h
    rw [if_neg h3] at h ⊢
    by_cases h4 : c ∈ lettersL
    · rw [if_pos h4] at h ⊢
      exact btx_app a r _ _ h
    · rw [if_neg h4] at h
      cases h
def goodL : List (List Nat) := [[], [97, 98], [123, 97, 44, 98, 125], repN [123, 44, 125] 12, repN [120, 123, 97, 44, 123, 98, 44, 99, 125, 100, 125] 9, repN [123, 44, 125] 500]
def faultL : List (List Nat) := [[123, 97, 125], [123, 125], [123, 123, 97, 44, 98, 125, 125], [44], [97, 44, 98], [125], [123, 97, 44, 98], [97, 44, 98, 125], [123, 97, 44, 123, 98, 125, 125], [65], [49], [32], [45], [123, 97, 32, 98, 44, 99, 125], [123, 97, 44, 98, 125, 125], [123, 123, 97, 44, 98, 125], [123, 97, 44, 98, 125, 44], [123, 97, 59, 98, 125], [10], [91, 97, 44, 98, 93], [40, 97, 44, 98, 41], [123, 97, 44, 66, 125]]
theorem good_run : ∀ g ∈ goodL, brun g [] = some [] := by decide +kernel
theorem good_len : ∀ g ∈ goodL, g.length ≤ 1500 ∧ (g.all fun c => decide (c < 1114112)) = true := by decide +kernel
theorem fault_len : ∀ g ∈ faultL, g.length ≤ 10 ∧ (g.all fun c => decide (c < 1114112)) = true := by decide +kernel
theorem fault_bad : ∀ x ∈ faultL, ∀ b ∈ goodL, btx (x ++ b) [] = false := by decide +kernel
theorem wrong_at {g x b : List Nat} (hg : g ∈ goodL) (hx : x ∈ faultL) (hb : b ∈ goodL) : isT (.str (g ++ x ++ b)) = false ∧ PlainE (.str (g ++ x ++ b)) := by
  obtain ⟨g1, g2⟩ := good_len g hg
  obtain ⟨x1, x2⟩ := fault_len x hx
  obtain ⟨b1, b2⟩ := good_len b hb
  refine ⟨?_, .inl ⟨?_, rfl, ?_⟩⟩
  · show btx (g ++ x ++ b) [] = false
    rw [List.append_assoc, btx_app g _ [] [] (good_run g hg)]
    exact fault_bad x hx b hb
  · show ((g ++ x ++ b).all fun c => decide (c < 1114112)) = true
    rw [List.all_append, List.all_append, g2, x2, b2]
    rfl
  · show 10 * (g ++ x ++ b).length + 2 ≤ 16000000
    simp only [List.length_append]
    omega
theorem mem_strs {l : List (List Nat)} {x : D} (h : x ∈ l.map D.str) : ∃ g, x = .str g ∧ g ∈ l := by
  obtain ⟨g, hg, rfl⟩ := List.mem_map.1 h
  exact ⟨g, rfl, hg⟩
theorem wrong_text_spec {fk : Nat} {fo : Option (Option Ob)} {n c : Nat} {st : Store} (h : Tk fk fo n c st) (hc : c < 900000) :
    wp (F_law_wrong_text [.ref n] st) X (fun d st' => (PlainE d ∧ isT d = false) ∧ Tk fk fo n (c + 3) st') := by
  unfold F_law_wrong_text
  rw [wp_run]
  unfold b_law_wrong_text
  refine ws_seq_of (fun ρ st1 => st1 = st ∧ ρ = [some (.ref n), some (.lst (goodL.map D.str)), none, none, none]) ?_ ?_
  · simp [goodL]
  rintro _ _ ⟨rfl, rfl⟩
  refine ws_seq_of (fun ρ st1 => Tk fk fo n (c + 1) st1 ∧ ∃ g, g ∈ goodL ∧ ρ = [some (.ref n), some (.lst (goodL.map D.str)), some (.str g), none, none]) ?_ ?_
  · simp
    refine wp_imp (draw_spec h (by omega) (by omega) (by omega)) ?_
    rintro _ st1 ⟨⟨q, rfl, hq, hq2⟩, h1⟩
    simp
    refine at_any hq (by simp [goodL]; omega) fun x hx => ?_
    obtain ⟨g, rfl, hg⟩ := mem_strs hx
    simp
    exact ⟨h1, hg⟩
  rintro _ st1 ⟨h1, g, hg, rfl⟩
  refine ws_seq_of (fun ρ st1 => Tk fk fo n (c + 2) st1 ∧ ∃ b, b ∈ goodL ∧ ρ = [some (.ref n), some (.lst (goodL.map D.str)), some (.str g), some (.str b), none]) ?_ ?_
  · simp
    refine wp_imp (draw_spec h1 (by omega) (by omega) (by omega)) ?_
    rintro _ st1 ⟨⟨q, rfl, hq, hq2⟩, h1⟩
    simp
    refine at_any hq (by simp [goodL]; omega) fun x hx => ?_
    obtain ⟨g, rfl, hg⟩ := mem_strs hx
    simp
    exact ⟨h1, hg⟩
  rintro _ st2 ⟨h2, b, hb, rfl⟩
  simp
  refine wp_imp (draw_spec h2 (by omega) (by omega) (by omega)) ?_
  rintro _ st3 ⟨⟨q, rfl, hq, hq2⟩, h3⟩
  show wo (atI (faultL.map D.str) q) _
  refine at_any hq (by simp [faultL]; omega) fun y hy => ?_
  obtain ⟨x, rfl, hx⟩ := mem_strs hy
  obtain ⟨g1, g2⟩ := good_len g hg
  obtain ⟨x1, x2⟩ := fault_len x hx
  obtain ⟨b1, b2⟩ := good_len b hb
  obtain ⟨w1, w2⟩ := wrong_at hg hx hb
  simp only [PL.add_str, sizeLine_num]
  refine ⟨by omega, by rw [List.length_append]; omega, ⟨w2, w1⟩, h3⟩
end LK33
namespace LK33
open PySem PySem.Spec PyProof.Rows L2 PL
variable {X : Exc → Store → Prop}
theorem rw60 {ws : List Wo} (h : Rw 6 20 ws) : Rw 60 200 ws := ⟨h.1, by have := h.2.1; omega, fun w hw => ⟨(h.2.2 w hw).1, by have := (h.2.2 w hw).2; omega⟩⟩
theorem isP_bad {A B : List D} {x : D} (h : isR x = false) : isP (.tup (A ++ x :: B)) = false := by
  show (!(A ++ x :: B).isEmpty && (A ++ x :: B).all isR) = false
  rw [List.all_append, List.all_cons, h]
  simp
theorem isR_bad {A B : List D} {x : D} (h : isW x = false) : isR (.tup (A ++ x :: B)) = false := by
  show (!(A ++ x :: B).isEmpty && (A ++ x :: B).all isW) = false
  rw [List.all_append, List.all_cons, h]
  simp
def badRows : List D := [.non, .tup [], .lst [], .str [97, 98], .lst [.str [97]], .int 5, .tup [.str [97], .non], .tup [.tup []]]
def badWords : List D := [.non, .str [65], .str [97, 32, 98], .int 5, .tup [.str [97]], .str [49], .str [97, 44], .str [123], .lst [.str [97]], .str [45]]
theorem badRows_ok : ∀ x ∈ badRows, isR x = false ∧ ∀ k, P2 false (k + 3) 5000 x := by
  intro x hx
  simp only [badRows, List.mem_cons, List.not_mem_nil, or_false] at hx
  rcases hx with rfl | rfl | rfl | rfl | rfl | rfl | rfl | rfl <;> exact ⟨rfl, fun k => ⟨rfl, rfl, by decide⟩⟩
theorem badWords_ok : ∀ x ∈ badWords, isW x = false ∧ ∀ k, P2 false (k + 3) 5000 x := by
  intro x hx
  simp only [badWords, List.mem_cons, List.not_mem_nil, or_false] at hx
  rcases hx with rfl | rfl | rfl | rfl | rfl | rfl | rfl | rfl | rfl | rfl <;> exact ⟨by decide, fun k => ⟨rfl, rfl, by decide⟩⟩
theorem wrong_product_spec {fk : Nat} {fo : Option (Option Ob)} {n c : Nat} {st : Store} {ps : List (List Wo)} (h : Tk fk fo n c st) (hc : c < 900000) (hp : Pr 9 6 20 ps) :
    wp (F_law_wrong_product [.ref n, prodD ps] st) X (fun d st' => (PlainE d ∧ isP d = false) ∧ Tk fk fo n (c + 4) st') := by
  obtain ⟨p1, p2, p3⟩ := hp
  have rows : ∀ k, ∀ x ∈ ps.map rowD, P2 false (k + 1) 120243 x := fun k x hx => by
    obtain ⟨w, hw, rfl⟩ := List.mem_map.1 hx
    exact p2_row false k (rw60 (p3 w hw))
  have hl0 : 0 < ps.length := List.length_pos_iff.2 p1
  unfold F_law_wrong_product
  rw [wp_run]
  unfold b_law_wrong_product
  refine ws_seq_of (fun ρ st1 => Tk fk fo n (c + 1) st1 ∧ ∃ w : Int, ρ = [some (.ref n), some (prodD ps), some (.int w), none, none, none, none]) ?_ ?_
  · simp
    refine wp_imp (draw_spec h (by omega) (by omega) (by omega)) ?_
    rintro _ st1 ⟨⟨q, rfl, hq, hq2⟩, h1⟩
    exact ⟨h1, q, rfl⟩
  rintro _ st1 ⟨h1, w, rfl⟩
  refine ws_seq_of (fun ρ st2 => st2 = st1 ∧ w ≠ 0 ∧ ρ = [some (.ref n), some (prodD ps), some (.int w), none, none, none, none]) ?_ ?_
  · simp only [ws_if, wp_cmpB, wp_var, wp_con, List.getElem?_cons_succ, List.getElem?_cons_zero, wv_some_, PL.eq_int, wo_some_, decide_eq_true_eq]
    by_cases hw : w = 0
    · rw [if_pos hw]
      obtain ⟨r0, rs, hrs⟩ : ∃ r0 rs, ps = r0 :: rs := by
        cases ps with
        | nil => exact absurd rfl p1
        | cons a b => exact ⟨a, b, rfl⟩
      have e0 : ∀ st, ixD (prodD ps) (.int 0) st = some (rowD r0) := fun st => by rw [hrs]; exact at0 _ _
      have el : ∀ st, listS [prodD ps] st = some (.lst (ps.map rowD)) := fun st => rfl
      simp [el, e0]
      refine wp_imp (draw_spec h1 (by omega) (by omega) (by omega)) ?_
      rintro _ st2 ⟨⟨q, rfl, hq, hq2⟩, h2⟩
      show wo (atI [D.non, .tup [], .lst [], .lst (ps.map rowD), .str [97, 98], .int 5, rowD r0, .emp] q) _
      refine at_any hq (by simp; omega) fun x hx => ⟨?_, h2.mono (by omega)⟩
      simp only [List.mem_cons, List.not_mem_nil, or_false] at hx
      rcases hx with rfl | rfl | rfl | rfl | rfl | rfl | rfl | rfl
      · exact ⟨.inl ⟨rfl, rfl, by decide⟩, rfl⟩
      · exact ⟨.inl ⟨rfl, rfl, by decide⟩, rfl⟩
      · exact ⟨.inl ⟨rfl, rfl, by decide⟩, rfl⟩
      · exact ⟨p2_plain (b := false) (p2_lst (k := 39) (m := 9) (n := 120243) (N := 2000000) (fun x hx => rows 38 x hx) (by rw [List.length_map]; omega) (by omega)) (by omega) (fun z => by cases z), rfl⟩
      · exact ⟨.inl ⟨rfl, rfl, by decide⟩, rfl⟩
      · exact ⟨.inl ⟨rfl, rfl, by decide⟩, rfl⟩
      · refine ⟨p2_plain (b := false) (rows 39 _ (by rw [hrs]; exact List.mem_cons_self)) (by omega) (fun z => by cases z), ?_⟩
        obtain ⟨w0, ws, e⟩ : ∃ w0 ws, r0 = w0 :: ws := by
          have := (p3 r0 (by rw [hrs]; exact List.mem_cons_self)).1
          cases r0 with
          | nil => exact absurd rfl this
          | cons a b => exact ⟨a, b, rfl⟩
        rw [e]
        rfl
      · exact ⟨.inr ⟨rfl, rfl, rfl, by decide⟩, rfl⟩
    · rw [if_neg hw]
      exact ⟨rfl, hw, rfl⟩
  rintro _ _ ⟨rfl, hw0, rfl⟩
  refine ws_seq_of (fun ρ st2 => Tk fk fo n (c + 2) st2 ∧ ∃ j : Nat, j < ps.length ∧ ρ = [some (.ref n), some (prodD ps), some (.int w), some (.int j), none, none, none]) ?_ ?_
  · have el : ∀ st, lenD [prodD ps] st = some (.int ps.length) := fun st => by show some (D.int _) = _; rw [List.length_map]
    simp [el]
    refine wp_imp (draw_spec h1 (by omega) (by omega) (by omega)) ?_
    rintro _ st2 ⟨⟨q, rfl, hq, hq2⟩, h2⟩
    exact ⟨h2, q.toNat, by omega, by rw [Int.toNat_of_nonneg hq]⟩
  rintro _ st2 ⟨h2, j, hj, rfl⟩
  have cutL : cutG (ps.map rowD) none (some (j : Int)) = (ps.map rowD).take j := cut_to _ _
  have cutR : cutG (ps.map rowD) (some ((j : Int) + 1)) none = (ps.map rowD).drop (j + 1) := by
    have := cut_from (ps.map rowD) (j + 1)
    rw [← this]; rfl
  have mk : ∀ x, isR x = false → (∀ k, P2 false (k + 4) 320000 x) → PlainE (.tup ((ps.map rowD).take j ++ x :: (ps.map rowD).drop (j + 1))) ∧ isP (.tup ((ps.map rowD).take j ++ x :: (ps.map rowD).drop (j + 1))) = false := fun x hx hx2 => by
    refine ⟨p2_plain (b := false) (p2_tup (k := 39) (m := 20) (n := 320000) (N := 8000000) (fun y hy => ?_) ?_ (by omega)) (by omega) (fun z => by cases z), isP_bad hx⟩
    · rcases List.mem_append.1 hy with hy | hy
      · exact (rows 38 y (List.mem_of_mem_take hy)).mono (by omega)
      · rcases List.mem_cons.1 hy with rfl | hy
        · exact hx2 35
        · exact (rows 38 y (List.mem_of_mem_drop hy)).mono (by omega)
    · rw [List.length_append, List.length_cons, List.length_take, List.length_drop, List.length_map]
      omega
  have lenL : ((ps.map rowD).take j).length ≤ 9 := by rw [List.length_take, List.length_map]; omega
  have lenR : ((ps.map rowD).drop (j + 1)).length ≤ 9 := by rw [List.length_drop, List.length_map]; omega
  refine ws_seq_of (fun ρ st3 => st3 = st2 ∧ ρ = [some (.ref n), some (prodD ps), some (.int w), some (.int j), none, none, none]) ?_ ?_
  · simp only [ws_if, wp_cmpB, wp_var, wp_con, List.getElem?_cons_succ, List.getElem?_cons_zero, wv_some_, PL.eq_int, wo_some_, decide_eq_true_eq]
    by_cases hw : w = 1
    · rw [if_pos hw]
      simp
      refine wp_imp (draw_spec h2 (by omega) (by omega) (by omega)) ?_
      rintro _ st3 ⟨⟨q, rfl, hq, hq2⟩, h3⟩
      show wo (atI badRows q) _
      refine at_any hq (by simp [badRows]; omega) fun x hx => ?_
      obtain ⟨x1, x2⟩ := badRows_ok x hx
      obtain ⟨m1, m2⟩ := mk x x1 fun k => (x2 (k + 1)).mono (by omega)
      simp [prodD, cutL, cutR]
      refine ⟨by omega, by omega, ⟨m1, m2⟩, h3.mono (by omega)⟩
    · rw [if_neg hw]
      exact ⟨rfl, rfl⟩
  rintro _ _ ⟨rfl, rfl⟩
  have hrow : ∀ st, ixD (prodD ps) (.int j) st = some (rowD ps[j]) := fun st => by
    show atI (ps.map rowD) (j : Int) = _
    rw [atI_nat (j := j) (v := rowD ps[j]) (by rw [List.getElem?_map, List.getElem?_eq_getElem hj]; rfl)]
  have hR := p3 ps[j] (List.getElem_mem hj)
  generalize ps[j] = row at hrow hR
  obtain ⟨q1, q2, q3⟩ := hR
  have el : ∀ st, lenD [rowD row] st = some (.int row.length) := fun st => by show some (D.int _) = _; rw [List.length_map]
  simp [hrow, el]
  refine wp_imp (draw_spec h2 (by omega) (by omega) (by omega)) ?_
  rintro _ st3 ⟨⟨q, rfl, hq, hq2⟩, h3⟩
  obtain ⟨i, rfl⟩ : ∃ i : Nat, q = i := ⟨q.toNat, by omega⟩
  try simp
  refine wp_imp (draw_spec h3 (by omega) (by omega) (by omega)) ?_
  rintro _ st4 ⟨⟨q, rfl, hq, hq2⟩, h4⟩
  show wo (atI badWords q) _
  refine at_any hq (by simp [badWords]; omega) fun x hx => ?_
  obtain ⟨x1, x2⟩ := badWords_ok x hx
  have cl : cutG (row.map D.str) none (some (i : Int)) = (row.map D.str).take i := cut_to _ _
  have cr : cutG (row.map D.str) (some (i : Int)) none = (row.map D.str).drop i := cut_from _ _
  have l1 : ((row.map D.str).take i).length ≤ 6 := by rw [List.length_take, List.length_map]; omega
  have l2 : ((row.map D.str).drop i).length ≤ 6 := by rw [List.length_drop, List.length_map]; omega
  have words := p2_words false
  have hr60 := rw60 ⟨q1, q2, q3⟩
  obtain ⟨m1, m2⟩ := mk (.tup ((row.map D.str).take i ++ x :: (row.map D.str).drop i)) (isR_bad x1) fun k => p2_tup (k := k + 3) (m := 20) (n := 5000) (N := 320000) (fun y hy => by
    rcases List.mem_append.1 hy with hy | hy
    · exact (p2_words false (k + 3) hr60 y (List.mem_of_mem_take hy)).mono (by omega)
    · rcases List.mem_cons.1 hy with rfl | hy
      · exact x2 k
      · exact (p2_words false (k + 3) hr60 y (List.mem_of_mem_drop hy)).mono (by omega)) (by rw [List.length_append, List.length_cons]; omega) (by omega)
  simp [prodD, rowD, cutL, cutR, cl, cr]
  refine ⟨by omega, by omega, by omega, by omega, ⟨m1, m2⟩, h4.mono (by omega)⟩
end LK33
namespace LK33
open PySem PySem.Spec PyProof.Rows L2 PL
variable {X : Exc → Store → Prop}
def someL : List D := [.non, .int 5, .bl true, .lst [.str [97]], .tup [.str [97], .str [98]], .tup [.str [97, 98]], .emp, .tup [.tup [.str [97]]]]
theorem someL_ok : ∀ x ∈ someL, PlainE x ∧ isT x = false := by
  intro x hx
  simp only [someL, List.mem_cons, List.not_mem_nil, or_false] at hx
  rcases hx with rfl | rfl | rfl | rfl | rfl | rfl | rfl | rfl
  all_goals first | exact ⟨.inl ⟨rfl, rfl, by decide⟩, rfl⟩ | exact ⟨.inr ⟨rfl, rfl, rfl, by decide⟩, rfl⟩
theorem wX_flat (C : String) : flat 60 (wX C) = true := by
  unfold wX
  split <;> rfl
noncomputable def lawBody : SM := (sSeq (sSet 2 (sCall (arity 2 F_law_source) (sCons (sCall (arity 2 F_law_cell_at) (sCons (sVar 0) (sCons (sVar 1) (sNil)))) (sCons (sVar 1) (sNil)))))
    (sSeq (sSet 3 (sCall (arity 2 F_law_draw) (sCons (sVar 2) (sCons (sCon (.int 6)) (sNil)))))
    (sSeq (sSet 4 (sLst false (sCons (sCon (.str [73, 110, 118, 97, 108, 105, 100, 84, 101, 120, 116])) (sCons (sCon (.str [86, 97, 108, 117, 101, 69, 114, 114, 111, 114])) (sNil)))))
    (sSeq (sIfS (tCmpS .lt (sVar 3) (sCon (.int 4))) (sSeq (sSet 5 (sCall (arity 1 F_law_wrong_text) (sCons (sVar 2) (sNil))))
    (sIfS (tCmpS .eq (sCall (arity 2 F_law_draw) (sCons (sVar 2) (sCons (sCon (.int 4)) (sNil)))) (sCon (.int 0))) (sSeq (sSet 6 (sLst false (sCons (sCon .non) (sCons (sCon (.int 5)) (sCons (sCon (.bl true)) (sCons (sLst false (sCons (sCon (.str [97])) (sNil))) (sCons (sTup (sCons (sCon (.str [97])) (sCons (sCon (.str [98])) (sNil)))) (sCons (sTup (sCons (sCon (.str [97, 98])) (sNil))) (sCons (sCon .emp) (sCons (sTup (sCons (sTup (sCons (sCon (.str [97])) (sNil))) (sNil))) (sNil)))))))))))
    (sSet 5 (sIx (sVar 6) (sCall (arity 2 F_law_draw) (sCons (sVar 2) (sCons (sCon (.int 8)) (sNil))))))) (sSkip))) (sSeq (sSet 5 (sBlt tupleD (sCons (sComp false [8] (gNm 8) (sYes) (sCall (arity 3 F_law_row) (sCons (sVar 2) (sCons (sCon (.int 6)) (sCons (sCon (.int 3)) (sNil))))) (sRng1 (sCons (sBin .add (sCon (.int 1)) (sCall (arity 2 F_law_draw) (sCons (sVar 2) (sCons (sCon (.int 9)) (sNil))))) (sNil)))) (sNil))))
    (sSeq (sIfS (tCmpF neE (sCall (arity 2 F_law_tried) (sCons (sVar 3) (sCons (sVar 5) (sNil)))) (sLst false (sNil))) (sRet (sCon (.bl false))) (sSkip))
    (sSeq (sSet 5 (sCall (arity 2 F_law_wrong_product) (sCons (sVar 2) (sCons (sVar 5) (sNil)))))
    (sSet 4 (sLst false (sCons (sCon (.str [73, 110, 118, 97, 108, 105, 100, 80, 114, 111, 100, 117, 99, 116])) (sCons (sCon (.str [86, 97, 108, 117, 101, 69, 114, 114, 111, 114])) (sNil)))))))))
    (sSeq (sSet 7 (sBlt reprE (sCons (sVar 5) (sNil))))
    (sIfS (tOrB (tCmpS .ne (sCall (arity 2 F_law_tried) (sCons (sVar 3) (sCons (sVar 5) (sNil)))) (sVar 4)) (tCmpS .ne (sBlt reprE (sCons (sVar 5) (sNil))) (sVar 7))) (sRet (sCon (.bl false))) (sSkip)))))))
def OkP (ns : List Int) (ρ : PL.Env) : Prop := ∃ x1 x2 x3 x4 x5 x6 x7 x8, ρ = [some (D.scr ns), x1, x2, x3, x4, x5, x6, x7, x8]
theorem law_one (ns : List Int) (i : Nat) (hi : i < 32) {x2 x3 x4 x5 x6 x7 x8 : Option D} {st : Store} : ws (lawBody [some (.scr ns), some (.int i), x2, x3, x4, x5, x6, x7, x8] st) ⟨fun ρ _ => OkP ns ρ, fun _ _ => False, fun _ _ => False, fun ρ _ => OkP ns ρ, fun _ _ _ => False⟩ := by
  unfold lawBody
  refine ws_seq_of (fun ρ st1 => ∃ n, Tr n 0 st1 ∧ ρ = [some (.scr ns), some (.int i), some (.ref n), x3, x4, x5, x6, x7, x8]) ?_ ?_
  · simp
    refine wp_imp cell_spec ?_
    rintro _ st1 ⟨v, rfl, rfl⟩
    try simp
    refine wp_imp (source_spec (i := i) (by omega)) ?_
    rintro _ st1 ⟨n, rfl, h1⟩
    exact ⟨n, h1, rfl⟩
  rintro _ st1 ⟨n, h1, rfl⟩
  refine ws_seq_of (fun ρ st2 => Tr n 1 st2 ∧ ∃ p : Int, (0 ≤ p ∧ p < 6) ∧ ρ = [some (.scr ns), some (.int i), some (.ref n), some (.int p), x4, x5, x6, x7, x8]) ?_ ?_
  · simp
    refine wp_imp (draw_spec h1.tk (by omega) (by omega) (by omega)) ?_
    rintro _ st2 ⟨⟨q, rfl, hq, hq2⟩, h2⟩
    exact ⟨h2.1, q, ⟨hq, hq2⟩, rfl⟩
  rintro _ st2 ⟨h2, p, ⟨hp0, hp1⟩, rfl⟩
  refine ws_seq_of (fun ρ st3 => st3 = st2 ∧ ρ = [some (.scr ns), some (.int i), some (.ref n), some (.int p), some (wX "InvalidText"), x5, x6, x7, x8]) ?_ ?_
  · simp [wX]
  rintro _ _ ⟨rfl, rfl⟩
  refine ws_seq_of (fun ρ st3 => ∃ C d y6 y8, PlainE d ∧ Gv F_law_tried [.int p, d] (wX C) ∧ ρ = [some (.scr ns), some (.int i), some (.ref n), some (.int p), some (wX C), some d, y6, x7, y8]) ?_ ?_
  · have lt : ∀ st, cmpS .lt (.int p) (.int 4) st = some (decide (p < 4)) := fun _ => rfl
    rw [ws_if]
    simp only [wp_cmpB, wp_var, wp_con, List.getElem?_cons_succ, List.getElem?_cons_zero, wv_some_, lt, wo_some_, decide_eq_true_eq]
    by_cases hp : p < 4
    · rw [if_pos hp]
      have hp4 : p = 0 ∨ p = 1 ∨ p = 2 ∨ p = 3 := by omega
      simp only [ws_seq, ws_set, wp_call, wp_cons, wp_nil, wp_var, List.getElem?_cons_succ, List.getElem?_cons_zero, wv_some_, wp_arity, List.length_cons, List.length_nil, true_and]
      refine wp_imp (wrong_text_spec h2.tk (by omega)) ?_
      rintro d st3 ⟨⟨d1, d2⟩, h3⟩
      simp
      refine wp_imp (draw_spec h3 (by omega) (by omega) (by omega)) ?_
      rintro _ st4 ⟨⟨q, rfl, hq, hq2⟩, h4⟩
      simp
      by_cases hq0 : q = 0
      · rw [if_pos hq0]
        refine wp_imp (draw_spec h4 (by omega) (by omega) (by omega)) ?_
        rintro _ st5 ⟨⟨q, rfl, hq, hq2⟩, h5⟩
        show wo (atI someL q) _
        refine at_any hq (by simp [someL]; omega) fun x hx => ?_
        obtain ⟨e1, e2⟩ := someL_ok x hx
        exact ⟨"InvalidText", x, e1, tried_x hp4 (plainE_s2 e1).1.1 e2, rfl, rfl⟩
      · rw [if_neg hq0]
        exact ⟨"InvalidText", d, d1, tried_x hp4 (plainE_s2 d1).1.1 d2, rfl, rfl⟩
    · rw [if_neg hp]
      have hp4 : p = 4 ∨ p = 5 := by omega
      refine ws_seq_of (fun ρ st3 => Tr n 6000 st3 ∧ ∃ ps, Pr 9 6 20 ps ∧ ρ = [some (.scr ns), some (.int i), some (.ref n), some (.int p), some (wX "InvalidText"), some (prodD ps), x6, x7, x8]) ?_ ?_
      · simp
        refine wp_imp (draw_spec h2.tk (by omega) (by omega) (by omega)) ?_
        rintro _ st3 ⟨⟨q, rfl, hq, hq2⟩, h3⟩
        simp
        rw [rng1_nat (by omega) (by omega), wo_some_]
        refine wp_compGo _ _ _ (fun i st => Tr n (2 + 500 * i) st) (fun _ x => ∃ ws, x = rowD ws ∧ Rw 6 20 ws) _ _ _ _ h3.1 (by simp [rng_ln]; omega) ?_ ?_
        · intro i d st hd hi
          obtain ⟨rfl, hi2⟩ := rng_gt hd
          simp [wipeE]
          refine wp_imp (row_spec hi.tk (by omega)) ?_
          rintro _ st9 ⟨h8, h9⟩
          exact ⟨h8, h9.1.mono (by omega)⟩
        · intro xs st3 hx hR hI
          rw [rng_ln] at hx hI
          obtain ⟨ps, rfl, hps⟩ : ∃ ps : List (List Wo), xs = ps.map rowD ∧ ∀ w ∈ ps, Rw 6 20 w := by
            clear hI hx
            induction xs with
            | nil => exact ⟨[], rfl, fun w hw => nomatch hw⟩
            | cons y r ih =>
              obtain ⟨w, rfl, hw⟩ := hR 0 y rfl
              obtain ⟨ps, rfl, hps⟩ := ih fun i x e => hR (i + 1) x e
              exact ⟨w :: ps, rfl, fun v hv => (List.mem_cons.1 hv).elim (fun e => e ▸ hw) (hps v)⟩
          rw [List.length_map] at hx
          simp
          refine ⟨hI.mono (by omega), ps, ⟨fun z => by rw [z] at hx; simp at hx; omega, by omega, hps⟩, rfl⟩
      rintro _ st3 ⟨h3, ps, hps, rfl⟩
      have e0 : ∀ st, neE (.lst []) (.lst []) st = some false := fun _ => rfl
      simp
      refine (tried_ok hp4 hps (by omega) (by omega) (by omega)).wp fun t => ?_
      simp [e0]
      refine wp_imp (wrong_product_spec (h3.app t).tk (by omega) hps) ?_
      rintro d st4 ⟨⟨d1, d2⟩, h4⟩
      exact ⟨"InvalidProduct", d, d1, tried_p hp4 (plainE_s2 d1) d2, by simp [wX], rfl⟩
  rintro _ st3 ⟨C, d, y6, y8, hd, ht, rfl⟩
  have ee : ∀ (x : List Nat) st, cmpS .ne (.str x) (.str x) st = some false := fun x st => by
    show (some (decide (x = x))).map (!·) = _
    rw [decide_eq_true rfl]; rfl
  have en : ∀ st, cmpS .ne (wX C) (wX C) st = some false := fun st => ne_refl_plain (wX_flat C) (fun v z => by unfold wX at z; cases z)
  simp [reprE_plain hd]
  refine ht.wp fun t => ?_
  simp [en, ee, reprE_plain hd, OkP]
theorem law_true : ∀ ns : List Int, ns.length ≤ 63 → ∃ st, F_law [.scr ns] [] = .ok (.bl true) st := by
  intro ns _
  obtain ⟨d, st, e, rfl⟩ := ok_of_wp (r := F_law [.scr ns] []) (Q := fun d _ => d = .bl true) (by
    unfold F_law
    rw [wp_run]
    show ws (sSeq (sFor (gNm 1) _ lawBody) _ _ _) _
    simp
    obtain ⟨m, hm, hm2⟩ : ∃ m : Nat, max (16 : Int) (min 32 (ns.length : Int)) = (m : Int) ∧ m ≤ 32 := ⟨(max (16 : Int) (min 32 (ns.length : Int))).toNat, by omega, by omega⟩
    rw [hm, rng1_nat (by omega) (by omega), wo_some_]
    refine ws_forGo _ _ (fun _ ρ _ => OkP ns ρ) _ _ _ ⟨_, _, _, _, _, _, _, _, rfl⟩ ?_ (fun _ _ _ => trivial)
    rintro i d ρ st hd ⟨x1, x2, x3, x4, x5, x6, x7, x8, rfl⟩
    obtain ⟨rfl, hi⟩ := rng_gt hd
    simp only [g_nm, wo_some_, List.set_cons_succ, List.set_cons_zero, Int.zero_add]
    exact ws_imp (law_one ns i (by omega)) (fun _ _ h => h) (fun _ _ z => z.elim) (fun _ _ z => z.elim) (fun _ _ h => h) (fun _ _ _ z => z.elim))
  exact ⟨st, e⟩
end LK33
open PySem PySem.W PyProof.Rows
set_option maxHeartbeats 0 in
theorem PySem.Challenge.cw_braceloops_k33_brace_text_errors_holds : PySem.Challenge.rw_braceloops_k33_brace_text_errors.Holds := by
  w_on; o_law; k_head; (case hw => w_witness2)
  k_fill
  refine PL.walk_fg (l := PySem.Challenge.rw_braceloops_k33_brace_text_errors) (n := 63) (k := 7) (x := "script") (F := LK33.F_law) rfl (by decide) rfl ⟨rfl, by decide, by decide⟩ (fun w h Y => PySem.W.kIn_of Y) ?F LK33.law_true
  case F =>
    intro w mg fa h KX G hmg
    refine' LK33.all_mk KX G hmg ?a0 ?l0 ?c0 ?k0 ?a1 ?l1 ?c1 ?k1 ?a2 ?l2 ?c2 ?k2 ?a3 ?l3 ?c3 ?k3 ?a4 ?l4 ?c4 ?k4 ?a5 ?l5 ?c5 ?k5 ?a6 ?l6 ?c6 ?k6 ?a7 ?l7 ?c7 ?k7 ?a8 ?l8 ?c8 ?k8 ?a9 ?l9 ?c9 ?k9 ?a10 ?l10 ?c10 ?k10 ?a11 ?l11 ?c11 ?k11 ?a12 ?l12 ?c12 ?k12 ?a13 ?l13 ?c13 ?k13 ?a14 ?l14 ?c14 ?k14 ?a15 ?l15 ?c15 ?k15 ?a16 ?l16 ?c16 ?k16 ?a17 ?l17 ?c17 ?k17 ?a18 ?l18 ?c18 ?k18 ?z_ValueError ?z_all ?z_isinstance ?z_len ?z_list ?z_max ?z_min ?z_range ?z_repr ?z_str ?z_tuple ?v_CLOSE ?v_COMMA ?v_LETTERS ?v_OPEN ?a_InvalidProduct ?q_InvalidProduct ?k_InvalidProduct ?s_InvalidProduct ?t_InvalidProduct ?i_InvalidProduct ?a_InvalidText ?q_InvalidText ?k_InvalidText ?s_InvalidText ?t_InvalidText ?i_InvalidText ?a_BraceError ?q_BraceError ?k_BraceError ?s_BraceError ?t_BraceError ?i_BraceError ?y_InvalidText_BraceError ?y_InvalidProduct_BraceError ?ea_InvalidProduct ?ea_InvalidRow ?ea_InvalidText ?ea_InvalidWord ?ea_TooMany ?sp_ ?tk_ ?xd_InvalidText ?xg_InvalidText ?xk_InvalidText ?xa_InvalidText ?xm_InvalidText ?ei_InvalidText_InvalidProduct ?ei_InvalidText_InvalidRow ?ei_InvalidText_InvalidText ?ei_InvalidText_InvalidWord ?ei_InvalidText_TooMany ?ei_InvalidText_ValueError ?xd_InvalidProduct ?xg_InvalidProduct ?xk_InvalidProduct ?xa_InvalidProduct ?xm_InvalidProduct ?ei_InvalidProduct_InvalidProduct ?ei_InvalidProduct_InvalidRow ?ei_InvalidProduct_InvalidText ?ei_InvalidProduct_InvalidWord ?ei_InvalidProduct_TooMany ?ei_InvalidProduct_ValueError
    (case a0 => k_is); (case l0 => k_is); (case c0 => k_is); (case k0 => k_is); (case a1 => k_is); (case l1 => k_is); (case c1 => k_is); (case k1 => k_is); (case a2 => k_is); (case l2 => k_is); (case c2 => k_is); (case k2 => k_is); (case a3 => k_is); (case l3 => k_is); (case c3 => k_is); (case k3 => k_is); (case a4 => k_is); (case l4 => k_is); (case c4 => k_is); (case k4 => k_is); (case a5 => k_is); (case l5 => k_is); (case c5 => k_is); (case k5 => k_is); (case a6 => k_is); (case l6 => k_is); (case c6 => k_is); (case k6 => k_is); (case a7 => k_is); (case l7 => k_is); (case c7 => k_is); (case k7 => k_is); (case a8 => k_is); (case l8 => k_is); (case c8 => k_is); (case k8 => k_is); (case a9 => k_is); (case l9 => k_is); (case c9 => k_is); (case k9 => k_is); (case a10 => k_is); (case l10 => k_is); (case c10 => k_is); (case k10 => k_is); (case a11 => k_is); (case l11 => k_is); (case c11 => k_is); (case k11 => k_is); (case a12 => k_is); (case l12 => k_is); (case c12 => k_is); (case k12 => k_is); (case a13 => k_is); (case l13 => k_is); (case c13 => k_is); (case k13 => k_is); (case a14 => k_is); (case l14 => k_is); (case c14 => k_is); (case k14 => k_is); (case a15 => k_is); (case l15 => k_is); (case c15 => k_is); (case k15 => k_is); (case a16 => k_is); (case l16 => k_is); (case c16 => k_is); (case k16 => k_is); (case a17 => k_is); (case l17 => k_is); (case c17 => k_is); (case k17 => k_is); (case a18 => k_is); (case l18 => k_is); (case c18 => k_is); (case k18 => k_is); (case z_ValueError => first | k_is | rfl | decide +kernel); (case z_all => first | k_is | rfl | decide +kernel); (case z_isinstance => first | k_is | rfl | decide +kernel); (case z_len => first | k_is | rfl | decide +kernel); (case z_list => first | k_is | rfl | decide +kernel); (case z_max => first | k_is | rfl | decide +kernel); (case z_min => first | k_is | rfl | decide +kernel); (case z_range => first | k_is | rfl | decide +kernel); (case z_repr => first | k_is | rfl | decide +kernel); (case z_str => first | k_is | rfl | decide +kernel); (case z_tuple => first | k_is | rfl | decide +kernel); (case v_CLOSE => first | k_is | rfl | decide +kernel); (case v_COMMA => first | k_is | rfl | decide +kernel); (case v_LETTERS => first | k_is | rfl | decide +kernel); (case v_OPEN => first | k_is | rfl | decide +kernel); (case a_InvalidProduct => first | k_is | rfl | decide +kernel); (case q_InvalidProduct => k_exc); (case k_InvalidProduct => first | k_is | rfl | decide +kernel); (case s_InvalidProduct => first | k_is | rfl | decide +kernel); (case t_InvalidProduct => first | k_is | rfl | decide +kernel); (case i_InvalidProduct => first | k_is | rfl | decide +kernel); (case a_InvalidText => first | k_is | rfl | decide +kernel); (case q_InvalidText => k_exc); (case k_InvalidText => first | k_is | rfl | decide +kernel); (case s_InvalidText => first | k_is | rfl | decide +kernel); (case t_InvalidText => first | k_is | rfl | decide +kernel); (case i_InvalidText => first | k_is | rfl | decide +kernel); (case a_BraceError => first | k_is | rfl | decide +kernel); (case q_BraceError => k_exc); (case k_BraceError => first | k_is | rfl | decide +kernel); (case s_BraceError => first | k_is | rfl | decide +kernel); (case t_BraceError => first | k_is | rfl | decide +kernel); (case i_BraceError => first | k_is | rfl | decide +kernel); (case y_InvalidText_BraceError => first | k_is | rfl | decide +kernel); (case y_InvalidProduct_BraceError => first | k_is | rfl | decide +kernel); (case ea_InvalidProduct => first | k_is | rfl | decide +kernel); (case ea_InvalidRow => first | k_is | rfl | decide +kernel); (case ea_InvalidText => first | k_is | rfl | decide +kernel); (case ea_InvalidWord => first | k_is | rfl | decide +kernel); (case ea_TooMany => first | k_is | rfl | decide +kernel); (case sp_ => first | k_is | rfl | decide +kernel); (case tk_ => first | k_is | rfl | decide +kernel); (case xd_InvalidText => first | k_is | rfl | decide +kernel); (case xg_InvalidText => first | k_is | rfl | decide +kernel); (case xk_InvalidText => first | k_is | rfl | decide +kernel); (case xa_InvalidText => first | k_is | rfl | decide +kernel); (case xm_InvalidText => first | k_is | rfl | decide +kernel); (case ei_InvalidText_InvalidProduct => first | k_is | rfl | decide +kernel); (case ei_InvalidText_InvalidRow => first | k_is | rfl | decide +kernel); (case ei_InvalidText_InvalidText => first | k_is | rfl | decide +kernel); (case ei_InvalidText_InvalidWord => first | k_is | rfl | decide +kernel); (case ei_InvalidText_TooMany => first | k_is | rfl | decide +kernel); (case ei_InvalidText_ValueError => first | k_is | rfl | decide +kernel); (case xd_InvalidProduct => first | k_is | rfl | decide +kernel); (case xg_InvalidProduct => first | k_is | rfl | decide +kernel); (case xk_InvalidProduct => first | k_is | rfl | decide +kernel); (case xa_InvalidProduct => first | k_is | rfl | decide +kernel); (case xm_InvalidProduct => first | k_is | rfl | decide +kernel); (case ei_InvalidProduct_InvalidProduct => first | k_is | rfl | decide +kernel); (case ei_InvalidProduct_InvalidRow => first | k_is | rfl | decide +kernel); (case ei_InvalidProduct_InvalidText => first | k_is | rfl | decide +kernel); (case ei_InvalidProduct_InvalidWord => first | k_is | rfl | decide +kernel); (case ei_InvalidProduct_TooMany => first | k_is | rfl | decide +kernel); (case ei_InvalidProduct_ValueError => first | k_is | rfl | decide +kernel)

