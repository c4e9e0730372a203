import PyProof.Rows.All
import Wide.All
import OpenK.AllK
import Wide.FinOn
import HandS.ForMost
import HandS.Exc
import HandS.Flow
import HandS.Wide
import HandS.TupAny
import HandS.TupMul
import HandS.Deep
import PyProof.Rows.RuleB_pow
import PyProof.StrBlock2
import PyProof.ReprRoads
import HandS.CallSlots
import HandS.WordsExc
import HandS.EndBits
import HandS.IsInst
import PyProof.ReprLen
import PyProof.StrLawsRepr
import PyProof.Rows.FactsN_abs
import PyProof.Rows.FactsN_isinstance
import PyProof.Rows.SeqGen
import PyProof.Rows.FactsT3
import HandS.NoneIn
import HandS.Style
import PySem.Challenge.RW_braceloops_k07_steps_of_words
set_option Elab.async false
set_option linter.all false
set_option maxRecDepth 100000
/-! PL1: pure data D, the own store, how both lie in the abstract heap; growth of worlds. -/
namespace PL
open PySem PySem.Spec PyProof.Rows L2

/-- data: immutable trees; ref n: the n-th object of the own store -/
inductive D where
  | non | bl (b : Bool) | int (i : Int) | str (s : List Nat) | tup (xs : List D) | lst (xs : List D)
  | scr (ns : List Int) | ref (n : Nat) | vv (v : V)
/-- an object of the store -/
inductive Ob where
  | lst (xs : List D)
abbrev Store := List (Option Ob)
abbrev Env := List (Option D)
structure Wd where
  bet : Nat → Addr
  st : Store
  hid : List Addr
  H : Hp
/-- what may be written: the store's objects, and lists that are being made -/
def Lv (w : Wd) (a : Addr) : Prop := (∃ n ob, w.st[n]? = some (some ob) ∧ w.bet n = a) ∨ a ∈ w.hid
abbrev toS (s : List Nat) : Str := ⟨s.toArray⟩

/-- a list that nobody writes: known to the object, or of the module -/
def SqK (K : PySem.W.Frag) (H : Hp) (a : Addr) (xs : List V) : Prop := (∃ o, H a = some (.frz o (.lst xs))) ∨
  ∃ (o : Obj) (its : Array Value) (n : Nat), K.lookup a = some o ∧ o.cls = .type "list" ∧ o.dict = none ∧ o.data = .seq its n ∧ its.size ≤ sizeLine ∧ Vals xs its.toList
theorem SqK.sql {K : PySem.W.Frag} {H : Hp} {a : Addr} {xs : List V} (h : SqK K H a xs) : SqL K H a xs := by
  rcases h with h | h
  · exact .inl (.inr h)
  · exact .inr h
mutual
def Rep (K : PySem.W.Frag) (w : Wd) : D → V → Prop
  | .non, v => v = .non
  | .bl b, v => v = .bl b
  | .int i, v => v = .int i
  | .str s, v => v = .str (toS s)
  | .tup xs, v => ∃ a vs, v = .ref a ∧ SqT K w.H a vs ∧ Reps K w xs vs
  | .lst xs, v => ∃ a vs, v = .ref a ∧ w.H a = some (.lst vs) ∧ ¬ Lv w a ∧ Reps K w xs vs
  | .scr ns, v => ∃ a, v = .ref a ∧ SqK K w.H a (ns.map V.int)
  | .ref n, v => n < w.st.length ∧ v = .ref (w.bet n)
  | .vv u, v => v = u
def Reps (K : PySem.W.Frag) (w : Wd) : List D → List V → Prop
  | [], vs => vs = []
  | x :: xs, vs => ∃ v r, vs = v :: r ∧ Rep K w x v ∧ Reps K w xs r
end

def ObR (K : PySem.W.Frag) (w : Wd) : Ob → Addr → Prop
  | .lst xs, a => ∃ vs, w.H a = some (.lst vs) ∧ Reps K w xs vs
structure WOk (K : PySem.W.Frag) (w : Wd) : Prop where
  ob : ∀ n ob, w.st[n]? = some (some ob) → ObR K w ob (w.bet n)
  inj : ∀ m n o p, w.st[m]? = some (some o) → w.st[n]? = some (some p) → w.bet m = w.bet n → m = n
  hidL : ∀ a, a ∈ w.hid → ∃ vs, w.H a = some (.lst vs)
  hidN : ∀ a, a ∈ w.hid → ∀ n ob, w.st[n]? = some (some ob) → w.bet n ≠ a
/-- what data asks of a change of worlds -/
structure Ext (w w' : Wd) : Prop where
  len : w.st.length ≤ w'.st.length
  bet : ∀ n, n < w.st.length → w'.bet n = w.bet n
  keep : ∀ a o, w.H a = some o → ¬ Lv w a → w'.H a = some o ∧ ¬ Lv w' a
  tups : ∀ a xs, w.H a = some (.tup xs) → w'.H a = some (.tup xs)
  frzs : ∀ a o u, w.H a = some (.frz o u) → w'.H a = some (.frz o u)
/-- the world grows -/
structure Grow (w w' : Wd) : Prop extends Ext w w' where
  hid : w'.hid = w.hid
  hids : ∀ a, a ∈ w.hid → w'.H a = w.H a
theorem Ext.refl (w : Wd) : Ext w w := ⟨Nat.le_refl _, fun _ _ => rfl, fun _ _ h n => ⟨h, n⟩, fun _ _ h => h, fun _ _ _ h => h⟩
theorem Ext.trans {w w1 w2 : Wd} (a : Ext w w1) (b : Ext w1 w2) : Ext w w2 where
  len := Nat.le_trans a.len b.len
  bet := fun n h => (b.bet n (Nat.lt_of_lt_of_le h a.len)).trans (a.bet n h)
  keep := fun c o h n => let ⟨h1, n1⟩ := a.keep c o h n; b.keep c o h1 n1
  tups := fun c xs h => b.tups c xs (a.tups c xs h)
  frzs := fun c o u h => b.frzs c o u (a.frzs c o u h)
theorem Grow.ext {w w' : Wd} (a : Grow w w') : Ext w w' := a.toExt
theorem Grow.refl (w : Wd) : Grow w w := ⟨Ext.refl w, rfl, fun _ _ => rfl⟩
theorem Grow.trans {w w1 w2 : Wd} (a : Grow w w1) (b : Grow w1 w2) : Grow w w2 where
  toExt := a.ext.trans b.ext
  hid := b.hid.trans a.hid
  hids := fun c h => (b.hids c (by rw [a.hid]; exact h)).trans (a.hids c h)
theorem Ext.sqT {K : PySem.W.Frag} {w w' : Wd} (g : Ext w w') {a : Addr} {vs : List V} (h : SqT K w.H a vs) : SqT K w'.H a vs := by
  rcases h with (h | ⟨o, h⟩) | h
  · exact .inl (.inl (g.tups _ _ h))
  · exact .inl (.inr ⟨o, g.frzs _ _ _ h⟩)
  · exact .inr h
mutual
theorem Rep.ext {K : PySem.W.Frag} {w w' : Wd} (g : Ext w w') : ∀ (d : D) (v : V), Rep K w d v → Rep K w' d v
  | .non, v, h => h
  | .bl b, v, h => h
  | .int i, v, h => h
  | .str s, v, h => h
  | .tup xs, v, h => by
    obtain ⟨a, vs, e, h1, h2⟩ := h
    exact ⟨a, vs, e, g.sqT h1, Reps.ext g xs vs h2⟩
  | .lst xs, v, h => by
    obtain ⟨a, vs, e, h1, h2, h3⟩ := h
    obtain ⟨k1, k2⟩ := g.keep a _ h1 h2
    exact ⟨a, vs, e, k1, k2, Reps.ext g xs vs h3⟩
  | .scr ns, v, h => by
    obtain ⟨a, e, h1⟩ := h
    refine ⟨a, e, ?_⟩
    rcases h1 with ⟨o, h1⟩ | h1
    · exact .inl ⟨o, g.frzs _ _ _ h1⟩
    · exact .inr h1
  | .ref n, v, h => ⟨Nat.lt_of_lt_of_le h.1 g.len, by rw [g.bet n h.1]; exact h.2⟩
  | .vv u, v, h => h
theorem Reps.ext {K : PySem.W.Frag} {w w' : Wd} (g : Ext w w') : ∀ (ds : List D) (vs : List V), Reps K w ds vs → Reps K w' ds vs
  | [], vs, h => h
  | x :: xs, vs, h => by
    obtain ⟨v, r, e, h1, h2⟩ := h
    exact ⟨v, r, e, Rep.ext g x v h1, Reps.ext g xs r h2⟩
end
theorem Rep.grow {K : PySem.W.Frag} {w w' : Wd} (g : Grow w w') (d : D) (v : V) (h : Rep K w d v) : Rep K w' d v := Rep.ext g.ext d v h
theorem Reps.grow {K : PySem.W.Frag} {w w' : Wd} (g : Grow w w') (d : List D) (v : List V) (h : Reps K w d v) : Reps K w' d v := Reps.ext g.ext d v h
section
variable {K : PySem.W.Frag} {w w' : Wd}
theorem reps_nil : Reps K w [] [] := by show ([] : List V) = []; rfl
theorem reps_cons {d : D} {ds : List D} {v : V} {vs : List V} (h : Rep K w d v) (t : Reps K w ds vs) : Reps K w (d :: ds) (v :: vs) := ⟨v, vs, rfl, h, t⟩
theorem Reps.length : ∀ {ds : List D} {vs : List V}, Reps K w ds vs → ds.length = vs.length
  | [], vs, h => by
    have h : vs = [] := h
    rw [h]
    rfl
  | x :: xs, vs, h => by
    obtain ⟨v, r, e, _, h2⟩ := h
    rw [e, List.length_cons, List.length_cons, Reps.length h2]
theorem Reps.get : ∀ {ds : List D} {vs : List V} {i : Nat} {d : D}, Reps K w ds vs → ds[i]? = some d → ∃ v, vs[i]? = some v ∧ Rep K w d v
  | [], vs, i, d, _, e => by simp at e
  | x :: xs, vs, 0, d, h, e => by
    obtain ⟨v, r, e1, h1, h2⟩ := h
    have : x = d := by simpa using e
    subst this
    exact ⟨v, by rw [e1]; rfl, h1⟩
  | x :: xs, vs, i + 1, d, h, e => by
    obtain ⟨v, r, e1, h1, h2⟩ := h
    obtain ⟨u, h3, h4⟩ := Reps.get (i := i) (d := d) h2 (by simpa using e)
    exact ⟨u, by rw [e1]; simpa using h3, h4⟩
theorem Reps.app : ∀ {ds es : List D} {vs us : List V}, Reps K w ds vs → Reps K w es us → Reps K w (ds ++ es) (vs ++ us)
  | [], es, vs, us, h, t => by
    have h : vs = [] := h
    subst h
    exact t
  | x :: xs, es, vs, us, h, t => by
    obtain ⟨v, r, e1, h1, h2⟩ := h
    subst e1
    exact ⟨v, r ++ us, rfl, h1, Reps.app h2 t⟩
theorem Reps.take : ∀ {ds : List D} {vs : List V} (n : Nat), Reps K w ds vs → Reps K w (ds.take n) (vs.take n)
  | _, _, 0, _ => by rw [List.take_zero, List.take_zero]; exact reps_nil
  | [], vs, n + 1, h => by
    have h : vs = [] := h
    subst h
    exact reps_nil
  | x :: xs, vs, n + 1, h => by
    obtain ⟨v, r, e1, h1, h2⟩ := h
    subst e1
    exact ⟨v, r.take n, rfl, h1, Reps.take n h2⟩
theorem Reps.drop : ∀ {ds : List D} {vs : List V} (n : Nat), Reps K w ds vs → Reps K w (ds.drop n) (vs.drop n)
  | _, _, 0, h => h
  | [], vs, n + 1, h => by
    have h : vs = [] := h
    subst h
    exact reps_nil
  | x :: xs, vs, n + 1, h => by
    obtain ⟨v, r, e1, h1, h2⟩ := h
    subst e1
    exact Reps.drop n h2
theorem Reps.set : ∀ {ds : List D} {vs : List V} {d : D} {v : V} (i : Nat), Reps K w ds vs → Rep K w d v → Reps K w (ds.set i d) (vs.set i v)
  | [], vs, d, v, i, h, t => by
    have h : vs = [] := h
    subst h
    exact reps_nil
  | x :: xs, vs, d, v, 0, h, t => by
    obtain ⟨u, r, e1, h1, h2⟩ := h
    subst e1
    exact ⟨v, r, rfl, t, h2⟩
  | x :: xs, vs, d, v, i + 1, h, t => by
    obtain ⟨u, r, e1, h1, h2⟩ := h
    subst e1
    exact ⟨u, r.set i v, rfl, h1, Reps.set i h2 t⟩
theorem Reps.reverse {ds : List D} {vs : List V} (h : Reps K w ds vs) : Reps K w ds.reverse vs.reverse := by
  induction ds generalizing vs with
  | nil =>
    have h : vs = [] := h
    subst h
    exact reps_nil
  | cons x xs ih =>
    obtain ⟨v, r, e1, h1, h2⟩ := h
    subst e1
    rw [List.reverse_cons, List.reverse_cons]
    exact (ih h2).app (reps_cons h1 reps_nil)
theorem Reps.ints : ∀ {ns : List Int} {vs : List V}, Reps K w (ns.map D.int) vs → vs = ns.map V.int
  | [], vs, h => h
  | n :: ns, vs, h => by
    obtain ⟨v, r, e1, h1, h2⟩ := h
    rw [e1, Reps.ints h2, show v = V.int n from h1]
    rfl
theorem Reps.strs : ∀ {ns : List (List Nat)} {vs : List V}, Reps K w (ns.map D.str) vs → vs = (ns.map toS).map V.str
  | [], vs, h => h
  | n :: ns, vs, h => by
    obtain ⟨v, r, e1, h1, h2⟩ := h
    rw [e1, Reps.strs h2, show v = V.str (toS n) from h1]
    rfl
theorem Reps.bls : ∀ {ns : List Bool} {vs : List V}, Reps K w (ns.map D.bl) vs → vs = ns.map V.bl
  | [], vs, h => h
  | n :: ns, vs, h => by
    obtain ⟨v, r, e1, h1, h2⟩ := h
    rw [e1, Reps.bls h2, show v = V.bl n from h1]
    rfl
theorem reps_of_ints (ns : List Int) : Reps K w (ns.map D.int) (ns.map V.int) := by
  induction ns with
  | nil => exact reps_nil
  | cons n ns ih => exact reps_cons (show V.int n = V.int n from rfl) ih
/-- a live address is no free one; it bears no tuple, nothing locked -/
theorem WOk.live {a : Addr} (ok : WOk K w) (l : Lv w a) : ∃ o, w.H a = some o ∧ (∀ xs, o ≠ .tup xs) ∧ ∀ ob u, o ≠ .frz ob u := by
  rcases l with ⟨n, ob, h, e⟩ | h
  · have q := ok.ob n ob h
    cases ob with
    | lst xs =>
      obtain ⟨vs, h1, _⟩ := q
      rw [e] at h1
      exact ⟨_, h1, (fun xs z => by cases z), fun ob u z => by cases z⟩
  · obtain ⟨vs, h1⟩ := ok.hidL a h
    exact ⟨_, h1, (fun xs z => by cases z), fun ob u z => by cases z⟩
theorem WOk.free {a : Addr} (ok : WOk K w) (h : w.H a = none) : ¬ Lv w a := fun l => by
  obtain ⟨o, e, _⟩ := ok.live l
  rw [h] at e
  cases e
theorem WOk.noT {a : Addr} {xs : List V} (ok : WOk K w) (h : w.H a = some (.tup xs)) : ¬ Lv w a := fun l => by
  obtain ⟨o, e, h1, _⟩ := ok.live l
  rw [h] at e
  exact h1 xs (Option.some.inj e).symm
theorem WOk.noF {a : Addr} {ob : Obj} {u : HO} (ok : WOk K w) (h : w.H a = some (.frz ob u)) : ¬ Lv w a := fun l => by
  obtain ⟨o, e, _, h1⟩ := ok.live l
  rw [h] at e
  exact h1 ob u (Option.some.inj e).symm
/-- a new object, no part of the store -/
abbrev Wd.put (w : Wd) (p : Addr) (o : HO) : Wd := { w with H := upd w.H p o }
theorem lv_put {p a : Addr} {o : HO} : Lv (w.put p o) a ↔ Lv w a := Iff.rfl
theorem Grow.new {p : Addr} {o : HO} (ok : WOk K w) (h : w.H p = none) : Grow w (w.put p o) where
  hid := rfl
  hids := fun a m => by
    obtain ⟨vs, e⟩ := ok.hidL a m
    show upd w.H p o a = _; rw [upd_ne (ne_of_none e h)]
  len := Nat.le_refl _
  bet := fun _ _ => rfl
  keep := fun a u e n => ⟨by show upd w.H p o a = _; rw [upd_ne (ne_of_none e h)]; exact e, n⟩
  tups := fun a u e => by show upd w.H p o a = _; rw [upd_ne (ne_of_none e h)]; exact e
  frzs := fun a u v e => by show upd w.H p o a = _; rw [upd_ne (ne_of_none e h)]; exact e
theorem ObR.ext {ob : Ob} {a : Addr} (g : Ext w w') (k : ∀ o, w.H a = some o → w'.H a = some o) (h : ObR K w ob a) : ObR K w' ob a := by
  cases ob with
  | lst xs =>
    obtain ⟨vs, h1, h2⟩ := h
    exact ⟨vs, k _ h1, Reps.ext g _ _ h2⟩
theorem ObR.grow {ob : Ob} {a : Addr} (g : Grow w w') (k : ∀ o, w.H a = some o → w'.H a = some o) (h : ObR K w ob a) : ObR K w' ob a := h.ext g.ext k
theorem WOk.new {p : Addr} {o : HO} (ok : WOk K w) (h : w.H p = none) : WOk K (w.put p o) where
  ob := fun n ob e => (ok.ob n ob e).grow (Grow.new ok h) fun u q => by show upd w.H p o _ = _; rw [upd_ne (ne_of_none q h)]; exact q
  inj := ok.inj
  hidL := fun a m => let ⟨vs, e⟩ := ok.hidL a m; ⟨vs, by show upd w.H p o a = _; rw [upd_ne (ne_of_none e h)]; exact e⟩
  hidN := ok.hidN
theorem rep_newL {p : Addr} {ds : List D} {vs : List V} (ok : WOk K w) (h : w.H p = none) (r : Reps K w ds vs) : Rep K (w.put p (.lst vs)) (.lst ds) (.ref p) :=
  ⟨p, vs, rfl, upd_same, fun l => ok.free h (lv_put.mp l), Reps.grow (Grow.new ok h) _ _ r⟩
theorem rep_newT {p : Addr} {ds : List D} {vs : List V} (ok : WOk K w) (h : w.H p = none) (r : Reps K w ds vs) : Rep K (w.put p (.tup vs)) (.tup ds) (.ref p) :=
  ⟨p, vs, rfl, SqT.of upd_same, Reps.grow (Grow.new ok h) _ _ r⟩
/-- a new object of the store -/
def Wd.alloc (w : Wd) (p : Addr) (o : HO) (ob : Ob) : Wd := ⟨fun n => if n = w.st.length then p else w.bet n, w.st ++ [some ob], w.hid, upd w.H p o⟩
theorem st_app {st : Store} {ob : Ob} {n : Nat} {b : Ob} (h : (st ++ [some ob])[n]? = some (some b)) : (n < st.length ∧ st[n]? = some (some b)) ∨ (n = st.length ∧ b = ob) := by
  by_cases hn : n < st.length
  · rw [List.getElem?_append_left hn] at h
    exact .inl ⟨hn, h⟩
  · rw [List.getElem?_append_right (Nat.le_of_not_lt hn)] at h
    by_cases e : n - st.length = 0
    · rw [e] at h
      have h : some (some ob) = some (some b) := h
      cases h
      exact .inr ⟨by omega, rfl⟩
    · obtain ⟨k, hk⟩ : ∃ k, n - st.length = k + 1 := ⟨n - st.length - 1, by omega⟩
      rw [hk] at h
      simp at h
theorem lv_alloc {p a : Addr} {o : HO} {ob : Ob} (h : Lv (w.alloc p o ob) a) : a = p ∨ Lv w a := by
  rcases h with ⟨m, b, hm, hb⟩ | h
  · have hm : (w.st ++ [some ob])[m]? = some (some b) := hm
    have hb : (if m = w.st.length then p else w.bet m) = a := hb
    rcases st_app hm with ⟨h1, h2⟩ | ⟨h1, h2⟩
    · rw [if_neg (Nat.ne_of_lt h1)] at hb
      exact .inr (.inl ⟨m, b, h2, hb⟩)
    · rw [if_pos h1] at hb
      exact .inl hb.symm
  · exact .inr (.inr h)
theorem Grow.alloc {p : Addr} {o : HO} {ob : Ob} (ok : WOk K w) (h : w.H p = none) : Grow w (w.alloc p o ob) where
  hid := rfl
  hids := fun a m => by
    obtain ⟨vs, e⟩ := ok.hidL a m
    show upd w.H p o a = _; rw [upd_ne (ne_of_none e h)]
  len := by show w.st.length ≤ (w.st ++ [some ob]).length; rw [List.length_append]; exact Nat.le_add_right _ _
  bet := fun n hn => by show (if n = w.st.length then p else w.bet n) = _; rw [if_neg (Nat.ne_of_lt hn)]
  keep := fun a u e n => by
    refine ⟨by show upd w.H p o a = _; rw [upd_ne (ne_of_none e h)]; exact e, fun l => ?_⟩
    rcases lv_alloc l with z | z
    · exact ne_of_none e h z
    · exact n z
  tups := fun a u e => by show upd w.H p o a = _; rw [upd_ne (ne_of_none e h)]; exact e
  frzs := fun a u v e => by show upd w.H p o a = _; rw [upd_ne (ne_of_none e h)]; exact e
theorem WOk.alloc {p : Addr} {o : HO} {ob : Ob} (ok : WOk K w) (h : w.H p = none) (r : ObR K (w.alloc p o ob) ob p) : WOk K (w.alloc p o ob) where
  ob := fun n b e => by
    have e : (w.st ++ [some ob])[n]? = some (some b) := e
    show ObR K _ b (if n = w.st.length then p else w.bet n)
    rcases st_app e with ⟨h1, h2⟩ | ⟨h1, h2⟩
    · rw [if_neg (Nat.ne_of_lt h1)]
      exact (ok.ob n b h2).grow (Grow.alloc ok h) fun u q => by show upd w.H p o _ = _; rw [upd_ne (ne_of_none q h)]; exact q
    · rw [if_pos h1, h2]
      exact r
  inj := fun m n b c e1 e2 e => by
    have e1 : (w.st ++ [some ob])[m]? = some (some b) := e1
    have e2 : (w.st ++ [some ob])[n]? = some (some c) := e2
    have e : (if m = w.st.length then p else w.bet m) = (if n = w.st.length then p else w.bet n) := e
    rcases st_app e1 with ⟨h1, h2⟩ | ⟨h1, h2⟩ <;> rcases st_app e2 with ⟨k1, k2⟩ | ⟨k1, k2⟩
    · rw [if_neg (Nat.ne_of_lt h1), if_neg (Nat.ne_of_lt k1)] at e
      exact ok.inj m n b c h2 k2 e
    · rw [if_neg (Nat.ne_of_lt h1), if_pos k1] at e
      exact absurd (.inl ⟨m, b, h2, e⟩) (ok.free h)
    · rw [if_pos h1, if_neg (Nat.ne_of_lt k1)] at e
      exact absurd (.inl ⟨n, c, k2, e.symm⟩) (ok.free h)
    · omega
  hidL := fun a m => let ⟨vs, e⟩ := ok.hidL a m; ⟨vs, by show upd w.H p o a = _; rw [upd_ne (ne_of_none e h)]; exact e⟩
  hidN := fun a m n b e z => by
    have e : (w.st ++ [some ob])[n]? = some (some b) := e
    have z : (if n = w.st.length then p else w.bet n) = a := z
    rcases st_app e with ⟨h1, h2⟩ | ⟨h1, h2⟩
    · rw [if_neg (Nat.ne_of_lt h1)] at z
      exact ok.hidN a m n b h2 z
    · rw [if_pos h1] at z
      obtain ⟨vs, e2⟩ := ok.hidL a m
      exact ne_of_none e2 h z.symm
theorem rep_alloc {p : Addr} {o : HO} {ob : Ob} : Rep K (w.alloc p o ob) (.ref w.st.length) (.ref p) :=
  ⟨by show w.st.length < (w.st ++ [some ob]).length; rw [List.length_append]; exact Nat.lt_succ_self _, by show _ = V.ref (if w.st.length = w.st.length then p else _); rw [if_pos rfl]⟩
theorem obr_allocL {p : Addr} {ds : List D} {vs : List V} (ok : WOk K w) (h : w.H p = none) (r : Reps K w ds vs) : ObR K (w.alloc p (.lst vs) (.lst ds)) (.lst ds) p := ⟨vs, upd_same, Reps.grow (Grow.alloc ok h) _ _ r⟩
/-- an object of the store is written -/
def Wd.wr (w : Wd) (n : Nat) (o : HO) (ob : Ob) : Wd := ⟨w.bet, w.st.set n (some ob), w.hid, upd w.H (w.bet n) o⟩
theorem set_some {st : Store} {n m : Nat} {ob b : Ob} (h : (st.set n (some ob))[m]? = some (some b)) : (m = n ∧ b = ob ∧ n < st.length) ∨ (m ≠ n ∧ st[m]? = some (some b)) := by
  by_cases e : m = n
  · subst e
    by_cases hl : m < st.length
    · rw [List.getElem?_set_self hl] at h
      cases h
      exact .inl ⟨rfl, rfl, hl⟩
    · rw [List.getElem?_eq_none (by simpa using hl)] at h
      cases h
  · rw [List.getElem?_set_ne (Ne.symm e)] at h
    exact .inr ⟨e, h⟩
theorem lv_wr {n : Nat} {ob ob' : Ob} {o : HO} {a : Addr} (hn : w.st[n]? = some (some ob)) (h : Lv (w.wr n o ob') a) : Lv w a := by
  rcases h with ⟨m, b, hm, hb⟩ | h
  · have hm : (w.st.set n (some ob'))[m]? = some (some b) := hm
    rcases set_some hm with ⟨h1, h2, _⟩ | ⟨h1, h2⟩
    · subst h1
      exact .inl ⟨m, ob, hn, hb⟩
    · exact .inl ⟨m, b, h2, hb⟩
  · exact .inr h
theorem Grow.wr {n : Nat} {ob ob' : Ob} {o : HO} (ok : WOk K w) (hn : w.st[n]? = some (some ob)) : Grow w (w.wr n o ob') where
  hid := rfl
  hids := fun a m => by show upd w.H _ o a = _; rw [upd_ne (ok.hidN a m n ob hn).symm]
  len := by show _ ≤ (w.st.set n _).length; rw [List.length_set]; exact Nat.le_refl _
  bet := fun _ _ => rfl
  keep := fun a u e nl => by
    have ne : a ≠ w.bet n := fun z => nl (.inl ⟨n, ob, hn, z.symm⟩)
    exact ⟨by show upd w.H _ o a = _; rw [upd_ne ne]; exact e, fun l => nl (lv_wr hn l)⟩
  tups := fun a u e => by
    have ne : a ≠ w.bet n := fun z => ok.noT e (.inl ⟨n, ob, hn, z.symm⟩)
    show upd w.H _ o a = _; rw [upd_ne ne]; exact e
  frzs := fun a u v e => by
    have ne : a ≠ w.bet n := fun z => ok.noF e (.inl ⟨n, ob, hn, z.symm⟩)
    show upd w.H _ o a = _; rw [upd_ne ne]; exact e
theorem WOk.wr {n : Nat} {ob ob' : Ob} {o : HO} (ok : WOk K w) (hn : w.st[n]? = some (some ob)) (r : ObR K (w.wr n o ob') ob' (w.bet n)) : WOk K (w.wr n o ob') where
  ob := fun m b e => by
    have e : (w.st.set n (some ob'))[m]? = some (some b) := e
    show ObR K _ b (w.bet m)
    rcases set_some e with ⟨h1, h2, _⟩ | ⟨h1, h2⟩
    · rw [h1, h2]
      exact r
    · have ne : w.bet m ≠ w.bet n := fun z => h1 (ok.inj m n b ob h2 hn z)
      exact (ok.ob m b h2).grow (Grow.wr ok hn) fun u q => by show upd w.H _ o _ = _; rw [upd_ne ne]; exact q
  inj := fun m k b c e1 e2 e => by
    have e1 : (w.st.set n (some ob'))[m]? = some (some b) := e1
    have e2 : (w.st.set n (some ob'))[k]? = some (some c) := e2
    have e : w.bet m = w.bet k := e
    rcases set_some e1 with ⟨h1, h2, _⟩ | ⟨h1, h2⟩ <;> rcases set_some e2 with ⟨k1, k2, _⟩ | ⟨k1, k2⟩
    · omega
    · exact ok.inj m k ob c (by rw [h1]; exact hn) k2 e
    · exact ok.inj m k b ob h2 (by rw [k1]; exact hn) e
    · exact ok.inj m k b c h2 k2 e
  hidL := fun a m => let ⟨vs, e⟩ := ok.hidL a m; ⟨vs, by show upd w.H _ o a = _; rw [upd_ne (ok.hidN a m n ob hn).symm]; exact e⟩
  hidN := fun a m k b e => by
    have e : (w.st.set n (some ob'))[k]? = some (some b) := e
    rcases set_some e with ⟨h1, h2, _⟩ | ⟨h1, h2⟩
    · subst h1
      exact ok.hidN a m k ob hn
    · exact ok.hidN a m k b h2
theorem obr_wrL {n : Nat} {ob : Ob} {ds : List D} {vs : List V} (ok : WOk K w) (hn : w.st[n]? = some (some ob)) (r : Reps K w ds vs) : ObR K (w.wr n (.lst vs) (.lst ds)) (.lst ds) (w.bet n) :=
  ⟨vs, upd_same, Reps.grow (Grow.wr ok hn) _ _ r⟩
/-- an object of the store becomes frozen data -/
def Wd.kill (w : Wd) (n : Nat) : Wd := { w with st := w.st.set n none }
theorem kill_some {st : Store} {n m : Nat} {b : Ob} (h : (st.set n none)[m]? = some (some b)) : m ≠ n ∧ st[m]? = some (some b) := by
  by_cases e : m = n
  · subst e
    by_cases hl : m < st.length
    · rw [List.getElem?_set_self hl] at h; cases h
    · rw [List.getElem?_eq_none (by simpa using hl)] at h; cases h
  · rw [List.getElem?_set_ne (Ne.symm e)] at h
    exact ⟨e, h⟩
theorem lv_kill {n : Nat} {a : Addr} (h : Lv (w.kill n) a) : Lv w a := by
  rcases h with ⟨m, b, hm, hb⟩ | h
  · have hm : (w.st.set n none)[m]? = some (some b) := hm
    exact .inl ⟨m, b, (kill_some hm).2, hb⟩
  · exact .inr h
theorem Grow.kill (n : Nat) : Grow w (w.kill n) where
  hid := rfl
  hids := fun _ _ => rfl
  len := by show _ ≤ (w.st.set n none).length; rw [List.length_set]; exact Nat.le_refl _
  bet := fun _ _ => rfl
  keep := fun a u e nl => ⟨e, fun l => nl (lv_kill l)⟩
  tups := fun a u e => e
  frzs := fun a u v e => e
theorem WOk.kill (n : Nat) (ok : WOk K w) : WOk K (w.kill n) where
  ob := fun m b e => by
    have e : (w.st.set n none)[m]? = some (some b) := e
    exact (ok.ob m b (kill_some e).2).grow (Grow.kill n) fun _ q => q
  inj := fun m k b c e1 e2 e => by
    have e1 : (w.st.set n none)[m]? = some (some b) := e1
    have e2 : (w.st.set n none)[k]? = some (some c) := e2
    exact ok.inj m k b c (kill_some e1).2 (kill_some e2).2 e
  hidL := ok.hidL
  hidN := fun a m k b e => by
    have e : (w.st.set n none)[k]? = some (some b) := e
    exact ok.hidN a m k b (kill_some e).2
theorem rep_kill {n : Nat} {ds : List D} (ok : WOk K w) (hn : w.st[n]? = some (some (.lst ds))) : Rep K (w.kill n) (.lst ds) (.ref (w.bet n)) := by
  obtain ⟨vs, h1, h2⟩ := ok.ob n _ hn
  refine ⟨_, vs, rfl, h1, fun l => ?_, Reps.grow (Grow.kill n) _ _ h2⟩
  rcases l with ⟨m, b, hm, hb⟩ | l
  · have hm : (w.st.set n none)[m]? = some (some b) := hm
    obtain ⟨h3, h4⟩ := kill_some hm
    exact h3 (ok.inj m n b _ h4 hn hb)
  · exact ok.hidN _ l n _ hn rfl
/-- slots -/
structure RepE (K : PySem.W.Frag) (w : Wd) (σ : L2.St) (ρ : Env) : Prop where
  len : σ.length = ρ.length
  at_ : ∀ (i : Nat) (d : D), ρ[i]? = some (some d) → ∃ v, σ[i]? = some (some v) ∧ Rep K w d v
theorem RepE.ext {σ : L2.St} {ρ : Env} (g : Ext w w') (h : RepE K w σ ρ) : RepE K w' σ ρ :=
  ⟨h.len, fun i d q => let ⟨v, h1, h2⟩ := h.at_ i d q; ⟨v, h1, Rep.ext g _ _ h2⟩⟩
theorem RepE.grow {σ : L2.St} {ρ : Env} (g : Grow w w') (h : RepE K w σ ρ) : RepE K w' σ ρ := h.ext g.ext
theorem RepE.set {σ : L2.St} {ρ : Env} {d : D} {v : V} (i : Nat) (h : RepE K w σ ρ) (r : Rep K w d v) : RepE K w (σ.set i (some v)) (ρ.set i (some d)) := by
  refine ⟨by rw [List.length_set, List.length_set]; exact h.len, fun j e hj => ?_⟩
  by_cases hij : i = j
  · subst hij
    by_cases hl : i < ρ.length
    · rw [List.getElem?_set_self hl] at hj
      cases hj
      exact ⟨v, List.getElem?_set_self (by rw [h.len]; exact hl), r⟩
    · rw [List.getElem?_eq_none (by simpa using hl)] at hj; cases hj
  · rw [List.getElem?_set_ne hij] at hj
    obtain ⟨u, h1, h2⟩ := h.at_ j e hj
    exact ⟨u, by rw [List.getElem?_set_ne hij]; exact h1, h2⟩
theorem RepE.forget {σ : L2.St} {ρ : Env} (i : Nat) (h : RepE K w σ ρ) : RepE K w σ (ρ.set i none) := by
  refine ⟨by rw [List.length_set]; exact h.len, fun j e hj => ?_⟩
  by_cases hij : i = j
  · subst hij
    by_cases hl : i < ρ.length
    · rw [List.getElem?_set_self hl] at hj; cases hj
    · rw [List.getElem?_eq_none (by simpa using hl)] at hj; cases hj
  · rw [List.getElem?_set_ne hij] at hj
    exact h.at_ j e hj
def wipeE (ρ : Env) : List Nat → Env
  | [] => ρ
  | v :: vs => (wipeE ρ vs).set v none
theorem RepE.wipe {σ : L2.St} {ρ : Env} (h : RepE K w σ ρ) : ∀ vs : List Nat, RepE K w (wipe σ vs) (wipeE ρ vs)
  | [] => h
  | v :: vs => by
    have ih := RepE.wipe h vs
    refine ⟨by show ((L2.wipe σ vs).set v none).length = ((wipeE ρ vs).set v none).length; rw [List.length_set, List.length_set]; exact ih.len, fun j e hj => ?_⟩
    have hj : ((wipeE ρ vs).set v none)[j]? = some (some e) := hj
    show ∃ u, ((L2.wipe σ vs).set v none)[j]? = _ ∧ _
    by_cases hij : v = j
    · subst hij
      by_cases hl : v < (wipeE ρ vs).length
      · rw [List.getElem?_set_self hl] at hj; cases hj
      · rw [List.getElem?_eq_none (by simpa using hl)] at hj; cases hj
    · rw [List.getElem?_set_ne hij] at hj ⊢
      exact ih.at_ j e hj
end
end PL
/-! PL2: results, the posts, sequencing of readings; operators by values. -/
namespace PL
open PySem PySem.Spec PyProof.Rows L2

/-- an exception: its class by name, its arguments -/
structure Exc where
  cls : String
  arg : List D
inductive Res (α : Type) where
  | ok (a : α) (st : Store)
  | exc (e : Exc) (st : Store)
  | bad
abbrev M (α : Type) := Store → Res α
def ret {α : Type} (a : α) : M α := fun st => .ok a st
def Res.bnd {α β : Type} (r : Res α) (f : α → M β) : Res β := match r with
  | .ok a st => f a st
  | .exc e st => .exc e st
  | .bad => .bad
def bnd {α β : Type} (m : M α) (f : α → M β) : M β := fun st => (m st).bnd f
def ofO {α : Type} (o : Option α) : M α := fun st => match o with
  | some a => .ok a st
  | none => .bad
@[simp] theorem ret_ok {α : Type} (a : α) (st : Store) : ret a st = .ok a st := rfl
@[simp] theorem bnd_ok {α β : Type} (a : α) (st : Store) (f : α → M β) : (Res.ok a st).bnd f = f a st := rfl
@[simp] theorem bnd_exc {α β : Type} (e : Exc) (st : Store) (f : α → M β) : (Res.exc e st).bnd f = .exc e st := rfl
@[simp] theorem bnd_bad {α β : Type} (f : α → M β) : (Res.bad : Res α).bnd f = .bad := rfl
@[simp] theorem ofO_some {α : Type} (a : α) (st : Store) : ofO (some a) st = .ok a st := rfl
@[simp] theorem ofO_none {α : Type} (st : Store) : (ofO none : M α) st = .bad := rfl

/-- what is fixed: the written part, how an exception lies, what is wanted of one -/
structure Ctx where
  K : PySem.W.Frag
  XR : Exc → Value → Option Addr → Wd → Prop
  W : WX
def Ctx.we (C : Ctx) (σ : L2.St) (e : Exc) (w : Wd) : Prop := ∀ c d, C.XR e c d w → C.W c d σ w.H
section
variable {α β γ δ : Type}
/-- behind a result r from the world w -/
def Post (C : Ctx) (R : Wd → α → β → Prop) (w : Wd) (r : Res α) (Q : β → Hp → Prop) (E : Exc → Wd → Prop) : Prop := match r with
  | .ok a st => ∀ w', Grow w w' → WOk C.K w' → w'.st = st → ∀ x, R w' a x → Q x w'.H
  | .exc e st => ∀ w', Grow w w' → WOk C.K w' → w'.st = st → E e w'
  | .bad => False
theorem Post.grow {C : Ctx} {R : Wd → α → β → Prop} {w w1 : Wd} {r : Res α} {Q : β → Hp → Prop} {E : Exc → Wd → Prop} (g : Grow w w1) (h : Post C R w r Q E) : Post C R w1 r Q E := by
  cases r with
  | ok a st => exact fun w' g' ok e x hx => h w' (g.trans g') ok e x hx
  | exc e st => exact fun w' g' ok e => h w' (g.trans g') ok e
  | bad => exact h
theorem Post.imp {C : Ctx} {R : Wd → α → β → Prop} {w : Wd} {r : Res α} {Q Q' : β → Hp → Prop} {E : Exc → Wd → Prop} (h : Post C R w r Q E) (k : ∀ x H, Q x H → Q' x H) : Post C R w r Q' E := by
  cases r with
  | ok a st => exact fun w' g' ok e x hx => k _ _ (h w' g' ok e x hx)
  | exc e st => exact h
  | bad => exact h
/-- THE READING of a semantic function f; P: what is known of the world besides -/
def tX (C : Ctx) (R : Wd → α → β → Prop) (P : Wd → Prop) (f : Env → M α) : L2.St → Hp → (β → Hp → Prop) → Prop := fun σ H Q =>
  ∃ w ρ, w.H = H ∧ WOk C.K w ∧ RepE C.K w σ ρ ∧ P w ∧ Post C R w (f ρ w.st) Q (C.we σ)
theorem tX.imp {C : Ctx} {R : Wd → α → β → Prop} {P : Wd → Prop} {f : Env → M α} {σ : L2.St} {H : Hp} {Q Q' : β → Hp → Prop} (h : tX C R P f σ H Q) (k : ∀ x H, Q x H → Q' x H) : tX C R P f σ H Q' := by
  obtain ⟨w, ρ, e, ok, re, p, q⟩ := h
  exact ⟨w, ρ, e, ok, re, p, q.imp k⟩
def Mono (P : Wd → Prop) : Prop := ∀ w w', Grow w w' → P w → P w'
def MonoR (R : Wd → α → β → Prop) : Prop := ∀ w w' a x, Grow w w' → R w a x → R w' a x
abbrev T0 : Wd → Prop := fun _ => True
theorem mono0 : Mono T0 := fun _ _ _ h => h
theorem mono_and {P : Wd → Prop} {R : Wd → α → β → Prop} {a : α} {x : β} (h : Mono P) (r : MonoR R) : Mono (fun w => P w ∧ R w a x) := fun w w' g q => ⟨h w w' g q.1, r w w' a x g q.2⟩
theorem monoRep {K : PySem.W.Frag} : MonoR (Rep K) := fun w w' a x g h => Rep.grow g a x h
theorem monoReps {K : PySem.W.Frag} : MonoR (Reps K) := fun w w' a x g h => Reps.grow g a x h
theorem monoB : MonoR (fun (_ : Wd) (a b : Bool) => a = b) := fun _ _ _ _ _ h => h
/-- first f, then k of its value -/
theorem tX.seq {C : Ctx} {R : Wd → γ → δ → Prop} {R1 : Wd → α → β → Prop} {P : Wd → Prop} {f : Env → M α} {k : α → Env → M γ} {σ : L2.St} {H : Hp} {Q : δ → Hp → Prop} (hP : Mono P)
    (h : tX C R P (fun ρ => bnd (f ρ) fun a => k a ρ) σ H Q) : tX C R1 T0 f σ H (fun x H1 => ∃ a, tX C R (fun w => P w ∧ R1 w a x) (k a) σ H1 Q) := by
  obtain ⟨w, ρ, e, ok, re, p, q⟩ := h
  refine ⟨w, ρ, e, ok, re, trivial, ?_⟩
  have q : Post C R w ((f ρ w.st).bnd fun a => k a ρ) Q (C.we σ) := q
  cases hr : f ρ w.st with
  | ok a st =>
    rw [hr] at q
    have q : Post C R w (k a ρ st) Q (C.we σ) := q
    intro w' g ok' es x hx
    refine ⟨a, w', ρ, rfl, ok', re.grow g, ⟨hP _ _ g p, hx⟩, ?_⟩
    rw [es]
    exact q.grow g
  | exc e' st =>
    rw [hr] at q
    exact q
  | bad =>
    rw [hr] at q
    exact q
/-- .. where nothing else is known -/
theorem tX.seq0 {C : Ctx} {R : Wd → γ → δ → Prop} {R1 : Wd → α → β → Prop} {f : Env → M α} {k : α → Env → M γ} {σ : L2.St} {H : Hp} {Q : δ → Hp → Prop}
    (h : tX C R T0 (fun ρ => bnd (f ρ) fun a => k a ρ) σ H Q) : tX C R1 T0 f σ H (fun x H1 => ∃ a, tX C R (fun w => True ∧ R1 w a x) (k a) σ H1 Q) := h.seq mono0
theorem tX.weak {C : Ctx} {R : Wd → α → β → Prop} {P : Wd → Prop} {f : Env → M α} {σ : L2.St} {H : Hp} {Q : β → Hp → Prop} (h : tX C R P f σ H Q) : tX C R T0 f σ H Q := by
  obtain ⟨w, ρ, e, ok, re, p, q⟩ := h
  exact ⟨w, ρ, e, ok, re, trivial, q⟩
/-- a value at hand: f is a pure function of the store -/
def At (K : PySem.W.Frag) (w : Wd) (d : D) (Q : VK) : Prop := ∀ w', Grow w w' → WOk K w' → w'.st = w.st → ∀ v, Rep K w' d v → Q v w'.H
theorem At.now {K : PySem.W.Frag} {w : Wd} {d : D} {Q : VK} (h : At K w d Q) (ok : WOk K w) {v : V} (r : Rep K w d v) : Q v w.H := h w (Grow.refl w) ok rfl v r
theorem At.lst {K : PySem.W.Frag} {w : Wd} {ds : List D} {vs : List V} {Q : VK} (h : At K w (.lst ds) Q) (ok : WOk K w) (r : Reps K w ds vs) : ∀ p, w.H p = none → Q (.ref p) (upd w.H p (.lst vs)) :=
  fun p np => h (w.put p (.lst vs)) (Grow.new ok np) (ok.new np) rfl _ (rep_newL ok np r)
theorem At.tup {K : PySem.W.Frag} {w : Wd} {ds : List D} {vs : List V} {Q : VK} (h : At K w (.tup ds) Q) (ok : WOk K w) (r : Reps K w ds vs) : ∀ p, w.H p = none → Q (.ref p) (upd w.H p (.tup vs)) :=
  fun p np => h (w.put p (.tup vs)) (Grow.new ok np) (ok.new np) rfl _ (rep_newT ok np r)
end

/-! ### operators by values -/
/-- the reading of a binary operation that is f on data -/
def rB (K : PySem.W.Frag) (f : D → D → Store → Option D) : R2 := fun x y H Q => ∃ w dx dy d, w.H = H ∧ WOk K w ∧ Rep K w dx x ∧ Rep K w dy y ∧ f dx dy w.st = some d ∧ At K w d Q
/-- the items of a list, frozen or in the store -/
def viewL (st : Store) : D → Option (List D)
  | .lst xs => some xs
  | .ref n => match st[n]? with
    | some (some (.lst xs)) => some xs
    | _ => none
  | _ => none
section
variable {K : PySem.W.Frag} {w : Wd}
theorem view_rep {d : D} {v : V} {xs : List D} (ok : WOk K w) (h : viewL w.st d = some xs) (r : Rep K w d v) : ∃ a vs, v = .ref a ∧ w.H a = some (.lst vs) ∧ Reps K w xs vs := by
  cases d with
  | lst ys =>
    have h : some ys = some xs := h
    cases h
    obtain ⟨a, vs, e, h1, _, h3⟩ := r
    exact ⟨a, vs, e, h1, h3⟩
  | ref n =>
    have h : (match w.st[n]? with | some (some (.lst xs)) => some xs | _ => none) = some xs := h
    have e : v = V.ref (w.bet n) := r.2
    cases hn : w.st[n]? with
    | none => rw [hn] at h; cases h
    | some o =>
      rw [hn] at h
      cases o with
      | none => cases h
      | some ob =>
        cases ob with
        | lst ys =>
          cases h
          obtain ⟨vs, h1, h2⟩ := ok.ob n _ hn
          exact ⟨_, vs, e, h1, h2⟩
  | non => cases h
  | bl b => cases h
  | int i => cases h
  | str s => cases h
  | tup ys => cases h
  | scr ns => cases h
  | vv u => cases h
end
/-- bits of an int, as the model counts them -/
abbrev bitsOf (i : Int) : Nat := Builtin.Int.intBits i
def addD : D → D → Store → Option D
  | .int i, .int j, _ => some (.int (i + j))
  | .str s, .str t, _ => if s.length + t.length ≤ sizeLine then some (.str (s ++ t)) else none
  | .tup xs, .tup ys, _ => if xs.length + ys.length ≤ sizeLine then some (.tup (xs ++ ys)) else none
  | x, y, st => match viewL st x, viewL st y with
    | some xs, some ys => if xs.length + ys.length ≤ sizeLine then some (.lst (xs ++ ys)) else none
    | _, _ => none
def subD : D → D → Store → Option D
  | .int i, .int j, _ => some (.int (i - j))
  | _, _, _ => none
def repN {α : Type} (xs : List α) (k : Int) : List α := (List.replicate k.toNat xs).flatten
def mulD : D → D → Store → Option D
  | .int i, .int j, _ => if i.natAbs < 2 ^ 64 ∨ j.natAbs < 2 ^ 64 ∨ i.natAbs.log2 + j.natAbs.log2 < 1000000 then some (.int (i * j)) else none
  | .str s, .int k, _ => if -1000000 < k ∧ k < 1000000000 ∧ s.length * k.toNat ≤ sizeLine then some (.str (repN s k)) else none
  | .tup xs, .int k, _ => if 0 < xs.length ∧ xs.length ≤ 1000 ∧ 2 ≤ k ∧ k ≤ 1000 then some (.tup (repN xs k)) else none
  | x, .int k, st => match viewL st x with
    | some xs => if -1000000 < k ∧ k < 1000000000 ∧ xs.length * k.toNat ≤ sizeLine then some (.lst (repN xs k)) else none
    | none => none
  | _, _, _ => none
def fdivD : D → D → Store → Option D
  | .int i, .int j, _ => if 0 < j ∧ j.natAbs.log2 < 9000 then some (.int (i / j)) else none
  | _, _, _ => none
def modD : D → D → Store → Option D
  | .int i, .int j, _ => if 0 < j then some (.int (i % j)) else none
  | _, _, _ => none
def powD : D → D → Store → Option D
  | .int i, .int j, _ => if 0 ≤ j ∧ (bitsOf i : Int) * j ≤ 2 ^ 27 then some (.int (i ^ j.toNat)) else none
  | _, _, _ => none
inductive BOp where
  | add | sub | mul | fdiv | mod | pow
def BOp.ast : BOp → Operator
  | .add => .Add | .sub => .Sub | .mul => .Mult | .fdiv => .FloorDiv | .mod => .Mod | .pow => .Pow
def BOp.sem : BOp → D → D → Store → Option D
  | .add => addD | .sub => subD | .mul => mulD | .fdiv => fdivD | .mod => modD | .pow => powD
section
variable {X : Cx}
theorem toS_app (s t : List Nat) : toS s ++ toS t = toS (s ++ t) := by
  show Str.append _ _ = _
  unfold Str.append
  show (⟨s.toArray ++ t.toArray⟩ : Str) = ⟨(s ++ t).toArray⟩
  rw [List.append_toArray]
theorem toS_len (s : List Nat) : (toS s).length = s.length := rfl
theorem toS_inj {s t : List Nat} (h : toS s = toS t) : s = t := by
  have e : s.toArray = t.toArray := congrArg Str.cps h
  simpa using congrArg Array.toList e
theorem ord_add : OpR X (binaryOp .Add) (rB X.K addD) := by
  intro pins s σ H x y v u Q I rx ry h
  obtain ⟨w, dx, dy, d, rfl, ok, hx, hy, hf, q⟩ := h
  have lists : ∀ xs ys, viewL w.st dx = some xs → viewL w.st dy = some ys → xs.length + ys.length ≤ sizeLine → d = .lst (xs ++ ys) → wpAny (model X.prog X.w) X.A (binaryOp .Add v u) (EP X pins σ Q) X.xe s := by
    intro xs ys e1 e2 hz ed
    obtain ⟨a, vs, ea, h1, r1⟩ := view_rep ok e1 hx
    obtain ⟨b, us, eb, h2, r2⟩ := view_rep ok e2 hy
    subst ed
    exact op_cat pins s σ _ x y v u Q I rx ry ⟨a, b, vs, us, ea, eb, h1, h2, by rw [← r1.length, ← r2.length]; exact hz, q.lst ok (r1.app r2)⟩
  unfold addD at hf
  split at hf
  · cases hf
    exact op_add pins s σ _ x y v u Q I rx ry ⟨_, _, hx, hy, q.now ok rfl⟩
  · split at hf
    · rename_i hz
      cases hf
      refine op_add_str pins s σ _ x y v u Q I rx ry ⟨_, _, hx, hy, hz, ?_⟩
      rw [toS_app]
      exact q.now ok rfl
    · cases hf
  · split at hf
    · rename_i xs ys st hz
      cases hf
      obtain ⟨a, vs, ea, h1, r1⟩ := hx
      obtain ⟨b, us, eb, h2, r2⟩ := hy
      refine op_catA pins s σ _ x y v u Q I rx ry ⟨a, b, vs, us, ea, eb, h1, h2, by rw [← r1.length, ← r2.length]; exact hz, fun e => ?_, fun _ e => ?_, fun _ _ => q.tup ok (r1.app r2)⟩
      · refine q.now ok ?_
        have : vs ++ us = us := by rw [e]; rfl
        exact ⟨b, vs ++ us, rfl, by rw [this]; exact h2, r1.app r2⟩
      · refine q.now ok ?_
        have : vs ++ us = vs := by rw [e, List.append_nil]
        exact ⟨a, vs ++ us, rfl, by rw [this]; exact h1, r1.app r2⟩
    · cases hf
  · split at hf
    · rename_i e1 e2
      split at hf
      · rename_i hz
        cases hf
        exact lists _ _ e1 e2 hz rfl
      · cases hf
    · cases hf
theorem ord_sub : OpR X (binaryOp .Sub) (rB X.K subD) := by
  intro pins s σ H x y v u Q I rx ry h
  obtain ⟨w, dx, dy, d, rfl, ok, hx, hy, hf, q⟩ := h
  unfold subD at hf
  split at hf
  · cases hf
    exact op_sub pins s σ _ x y v u Q I rx ry ⟨_, _, hx, hy, q.now ok rfl⟩
  · cases hf
theorem mul_text (s : List Nat) (k : Int) : Txt.mul (toS s) k = toS (repN s k) := by
  unfold Txt.mul repN
  by_cases h1 : k < 1
  · rw [if_pos h1]
    have e : k.toNat = 0 := by omega
    rw [e]
    rfl
  · rw [if_neg h1]
    have key : ∀ (n : Nat) (acc : List Nat), (List.replicate n (toS s).cps).foldl (· ++ ·) acc.toArray = (acc ++ (List.replicate n s).flatten).toArray := by
      intro n
      induction n with
      | zero => intro acc; simp
      | succ n ih =>
        intro acc
        rw [List.replicate_succ, List.foldl_cons, List.replicate_succ, List.flatten_cons]
        rw [show acc.toArray ++ (toS s).cps = (acc ++ s).toArray from List.append_toArray ..]
        rw [ih, List.append_assoc]
    by_cases h2 : (k == 1 || (toS s).length == 0) = true
    · rw [if_pos h2]
      simp only [Bool.or_eq_true, beq_iff_eq] at h2
      rcases h2 with h2 | h2
      · subst h2
        show toS s = toS ([s].flatten)
        rw [List.flatten_cons, List.flatten_nil, List.append_nil]
      · have e : s = [] := List.eq_nil_of_length_eq_zero h2
        subst e
        have : (List.replicate k.toNat ([] : List Nat)).flatten = [] := by simp
        rw [this]
    · rw [if_neg h2]
      show (⟨_⟩ : Str) = ⟨_⟩
      congr 1
      have := key k.toNat []
      rw [List.nil_append] at this
      exact this
theorem op_mul_str : OpR X (binaryOp .Mult) (fun x y H Q => ∃ s k, x = .str (toS s) ∧ y = .int k ∧ -1000000 < k ∧ k < 1000000000 ∧ s.length * k.toNat ≤ sizeLine ∧ Q (.str (toS (repN s k))) H) := by
  intro pins s σ H x y v u Q I rx ry h
  obtain ⟨z, k, rfl, rfl, h1, h2, h3, q⟩ := h
  obtain ⟨t, rfl⟩ := rx
  obtain ⟨t', rfl⟩ := ry
  have hz : sizeLine = 16777216 := sizeLine_eq
  rw [hz] at h3
  refine SB.mul ⟨?_, fun h4 h5 => ?_, fun h4 h5 => ?_⟩ fun t2 k2 => ⟨.str (toS (repN z k)), H, I.tok _, ⟨t2, by rw [mul_text]⟩, q⟩
  · rw [decide_eq_false (by omega), decide_eq_false (by omega)]
    rfl
  · rw [toS_len]
    have e : ((z.length * k.toNat : Nat) : Int) = (z.length : Int) * k := by
      rw [Int.natCast_mul, Int.toNat_of_nonneg (by omega)]
    have h6 : (z.length : Int) * k ≤ 2 ^ 63 - 1 := by omega
    have := Int.le_ediv_of_mul_le (a := (z.length : Int)) (b := 2 ^ 63 - 1) (c := k) (by omega) h6
    omega
  · rw [toS_len]
    unfold Builtin.Str.tooLong
    first
      | exact decide_eq_false (by omega)
      | (simp; omega)
theorem ord_mul : OpR X (binaryOp .Mult) (rB X.K mulD) := by
  intro pins s σ H x y v u Q I rx ry h
  obtain ⟨w, dx, dy, d, rfl, ok, hx, hy, hf, q⟩ := h
  have rr : ∀ {xs : List D} {vs : List V} {k : Int}, Reps X.K w xs vs → Reps X.K w (repN xs k) (repN vs k) := fun {xs vs k} r => by
    unfold repN
    induction k.toNat with
    | zero => exact reps_nil
    | succ n ih => rw [List.replicate_succ, List.flatten_cons, List.replicate_succ, List.flatten_cons]; exact r.app ih
  unfold mulD at hf
  split at hf
  · split at hf
    · rename_i hz
      cases hf
      rcases hz with hz | hz | hz
      · exact op_mul pins s σ _ x y v u Q I rx ry ⟨_, _, hx, hy, .inl (by omega), q.now ok rfl⟩
      · exact op_mul pins s σ _ x y v u Q I rx ry ⟨_, _, hx, hy, .inr (by omega), q.now ok rfl⟩
      · exact op_mulW pins s σ _ x y v u Q I rx ry ⟨_, _, hx, hy, hz, q.now ok rfl⟩
    · cases hf
  · split at hf
    · rename_i hz
      cases hf
      exact op_mul_str pins s σ _ x y v u Q I rx ry ⟨_, _, hx, hy, hz.1, hz.2.1, hz.2.2, q.now ok rfl⟩
    · cases hf
  · split at hf
    · rename_i hz
      cases hf
      obtain ⟨a, vs, ea, h1, r1⟩ := hx
      obtain ⟨z1, z2, z3, z4⟩ := hz
      have el := r1.length
      exact op_repT pins s σ _ x y v u Q I rx ry ⟨a, _, vs, ea, hy, h1, (fun e => by rw [e] at el; simp only [List.length_nil] at el; omega), z3, z4, by omega, q.tup ok (rr r1)⟩
    · cases hf
  · split at hf
    · rename_i e1
      split at hf
      · rename_i hz
        cases hf
        obtain ⟨a, vs, ea, h1, r1⟩ := view_rep ok e1 hx
        obtain ⟨z1, z2, z3⟩ := hz
        refine op_rep pins s σ _ x y v u Q I rx ry ⟨a, _, vs, ea, hy, h1, by omega, by omega, by rw [← r1.length]; exact z3, ?_⟩
        exact q.lst ok (rr r1)
      · cases hf
    · cases hf
  · cases hf
theorem ord_fdiv : OpR X (binaryOp .FloorDiv) (rB X.K fdivD) := by
  intro pins s σ H x y v u Q I rx ry h
  obtain ⟨w, dx, dy, d, rfl, ok, hx, hy, hf, q⟩ := h
  unfold fdivD at hf
  split at hf
  · split at hf
    · rename_i hz
      cases hf
      exact op_fdivW pins s σ _ x y v u Q I rx ry ⟨_, _, hx, hy, hz, q.now ok rfl⟩
    · cases hf
  · cases hf
theorem ord_mod : OpR X (binaryOp .Mod) (rB X.K modD) := by
  intro pins s σ H x y v u Q I rx ry h
  obtain ⟨w, dx, dy, d, rfl, ok, hx, hy, hf, q⟩ := h
  unfold modD at hf
  split at hf
  · split at hf
    · rename_i hz
      cases hf
      exact op_mod pins s σ _ x y v u Q I rx ry ⟨_, _, hx, hy, hz, q.now ok rfl⟩
    · cases hf
  · cases hf
theorem op_powW : OpR X (binaryOp .Pow) (rI (fun i j => 0 ≤ j ∧ (bitsOf i : Int) * j ≤ 2 ^ 27) fun i j => .int (i ^ j.toNat)) := opI fun _ _ _ _ _ _ _ hc q => pow_int hc.1 hc.2 q
theorem ord_pow : OpR X (binaryOp .Pow) (rB X.K powD) := by
  intro pins s σ H x y v u Q I rx ry h
  obtain ⟨w, dx, dy, d, rfl, ok, hx, hy, hf, q⟩ := h
  unfold powD at hf
  split at hf
  · split at hf
    · rename_i hz
      cases hf
      exact op_powW pins s σ _ x y v u Q I rx ry ⟨_, _, hx, hy, hz, q.now ok rfl⟩
    · cases hf
  · cases hf
theorem ord_bin (op : BOp) : OpR X (binaryOp op.ast) (rB X.K op.sem) := by
  cases op with
  | add => exact ord_add
  | sub => exact ord_sub
  | mul => exact ord_mul
  | fdiv => exact ord_fdiv
  | mod => exact ord_mod
  | pow => exact ord_pow
end
end PL
/-! PL3: rules for expressions. -/
namespace L2
open PySem PySem.Spec PyProof.Rows
section
variable {X : Cx}
theorem PE.imp {e : Expr} {t t' : TE} (h : PE X e t) (k : ∀ σ H Q, t' σ H Q → t σ H Q) : PE X e t' := ⟨fun pins s σ H Q I q => h.run pins s σ H Q I (k σ H Q q)⟩
theorem PT.imp {e : Expr} {t t' : TT} (h : PT X e t) (k : ∀ σ H Q, t' σ H Q → t σ H Q) : PT X e t' := ⟨fun pins s σ H Q I q => h.run pins s σ H Q I (k σ H Q q)⟩
theorem PW.imp {e : Expr} {t t' : TT} (h : PW X e t) (k : ∀ σ H Q, t' σ H Q → t σ H Q) : PW X e t' := ⟨fun wh pins s σ H Q I q => h.run wh pins s σ H Q I (k σ H Q q)⟩
theorem PA.imp {e : List Expr} {t t' : TA} (h : PA X e t) (k : ∀ σ H Q, t' σ H Q → t σ H Q) : PA X e t' := ⟨fun pos pins s σ H Q I q => h.run pos pins s σ H Q I (k σ H Q q)⟩
end
end L2
namespace PL
open PySem PySem.Spec PyProof.Rows L2

/-- how an exception lies: its class by the module's name (or a built-in's), its fields in its own dict -/
def xr (K : PySem.W.Frag) (mg : Str → Option Value) : Exc → Value → Option Addr → Wd → Prop := fun e c d w =>
  ((∃ u, mg (Str.ofString e.cls) = some u ∧ c = u) ∨ (mg (Str.ofString e.cls) = none ∧ c = Value.type e.cls)) ∧ (e.arg = [] → d = none) ∧
    (∀ a, e.arg = [a] → ∃ n v p, d = some p ∧ w.H p = some (.xd [(n, v)]) ∧ Rep K w a v)
abbrev cx (X : Cx) (W : WX) : Ctx := ⟨X.K, xr X.K X.mg, W⟩
/-- e gives what f says -/
abbrev DE (X : Cx) (W : WX) (e : Expr) (f : Env → M D) : Prop := PE X e (tX (cx X W) (Rep X.K) T0 f)
abbrev DT (X : Cx) (W : WX) (e : Expr) (f : Env → M Bool) : Prop := PT X e (tX (cx X W) (fun _ (a b : Bool) => a = b) T0 f)
abbrev DA (X : Cx) (W : WX) (es : List Expr) (f : Env → M (List D)) : Prop := PA X es (tX (cx X W) (Reps X.K) T0 f)

section
variable {X : Cx} {W : WX}
/-! ### names, constants -/
def sVar (i : Nat) : Env → M D := fun ρ st => match ρ[i]? with
  | some (some d) => .ok d st
  | _ => .bad
def sCon (d : D) : Env → M D := fun _ => ret d
theorem de_var (i : Nat) {x : Str} {pos : Pos} (hN : X.N[i]? = some x) (hv : Vis X.env.scope x) (hd : (x == ("__debug__" : Str)) = false := by decide) (hcd : (x == ("__classdict__" : Str)) = false := by decide) : DE X W (.Name x pos) (sVar i) := by
  refine (pe_var hN hv hd hcd).imp fun σ H Q h => ?_
  obtain ⟨w, ρ, rfl, ok, re, _, q⟩ := h
  unfold sVar at q
  cases e : ρ[i]? with
  | none => rw [e] at q; exact q.elim
  | some o =>
    rw [e] at q
    cases o with
    | none => exact q.elim
    | some d =>
      obtain ⟨v, h1, h2⟩ := re.at_ i d e
      exact ⟨v, h1, q w (Grow.refl w) ok rfl v h2⟩
theorem con_imp {d : D} {v : V} (r : ∀ w, Rep X.K w d v) : ∀ σ H Q, tX (cx X W) (Rep X.K) T0 (sCon d) σ H Q → tC v σ H Q := fun σ H Q h => by
  obtain ⟨w, ρ, rfl, ok, re, _, q⟩ := h
  exact q w (Grow.refl w) ok rfl v (r w)
theorem de_int {i : Int} {j pos} : DE X W (.Constant (.int i) j pos) (sCon (.int i)) := pe_int.imp (con_imp fun _ => rfl)
theorem de_bl {b : Bool} {j pos} : DE X W (.Constant (.bool b) j pos) (sCon (.bl b)) := pe_bl.imp (con_imp fun _ => rfl)
theorem de_non {j pos} : DE X W (.Constant .none j pos) (sCon .non) := pe_non.imp (con_imp fun _ => rfl)
theorem de_str {x : Str} {j pos} (l : List Nat) (h : x.cps.toList = l := by first | rfl | decide +kernel) : DE X W (.Constant (.str x) j pos) (sCon (.str l)) := by
  have e : x = toS l := by
    rw [← h]
  subst e
  exact pe_str.imp (con_imp fun _ => rfl)
/-- a constant of the module -/
theorem de_glo {x : Str} {d : D} {v : V} {u : Value} {pos : Pos} (hg : Gl X x) (hm : X.mg x = some u) (r : RelV v u) (hr : ∀ w, Rep X.K w d v) (hd : (x == ("__debug__" : Str)) = false := by decide) : DE X W (.Name x pos) (sCon d) :=
  (pe_glob hg hm r hd).imp (con_imp hr)

/-! ### operators -/
def sBin (op : BOp) (f g : Env → M D) : Env → M D := fun ρ => bnd (f ρ) fun a => bnd (g ρ) fun b => fun st => ofO (op.sem a b st) st
theorem at_of {K : PySem.W.Frag} {C : Ctx} {w : Wd} {o : Option D} {Q : VK} {E : Exc → Wd → Prop} (hK : C.K = K) (h : Post C (Rep K) w (ofO o w.st) Q E) : ∃ d, o = some d ∧ At K w d Q := by
  cases o with
  | none => exact h.elim
  | some d => exact ⟨d, rfl, fun w' g ok e v r => h w' g (by rw [hK]; exact ok) e v r⟩
theorem de_bin {a b : Expr} {f g : Env → M D} {o : Operator} {pos : Pos} (op : BOp) (ha : DE X W a f) (hb : DE X W b g) (ho : op.ast = o := by rfl) : DE X W (.BinOp a o b pos) (sBin op f g) := by
  subst ho
  refine (pe_op (ord_bin op) ha hb).imp fun σ H Q h => ?_
  refine (tX.seq0 (R1 := Rep X.K) h).imp fun x H1 ⟨da, h1⟩ => ?_
  refine ((tX.seq (R1 := Rep X.K) (mono_and mono0 monoRep) h1).weak).imp fun y H2 ⟨db, h2⟩ => ?_
  obtain ⟨w, ρ, e, ok, re, ⟨⟨_, r1⟩, r2⟩, q⟩ := h2
  obtain ⟨d, e1, q⟩ := at_of rfl q
  exact ⟨w, da, db, d, e, ok, r1, r2, e1, q⟩
def negD : D → Option D
  | .int i => some (.int (-i))
  | _ => none
def sNeg (f : Env → M D) : Env → M D := fun ρ => bnd (f ρ) fun a => ofO (negD a)
theorem de_neg {a : Expr} {f : Env → M D} {pos : Pos} (ha : DE X W a f) : DE X W (.UnaryOp .USub a pos) (sNeg f) := by
  refine (pe_un un_neg ha).imp fun σ H Q h => ?_
  refine (tX.seq0 (R1 := Rep X.K) h).imp fun x H1 ⟨da, h1⟩ => ?_
  obtain ⟨w, ρ, rfl, ok, re, ⟨_, r1⟩, q⟩ := h1
  obtain ⟨d, e1, q⟩ := at_of (K := X.K) rfl q
  cases da with
  | int i =>
    cases e1
    exact ⟨i, r1, q.now ok rfl⟩
  | _ => cases e1

/-! ### truth -/
def truD (st : Store) : D → Option Bool
  | .non => some false
  | .bl b => some b
  | .int i => some (i != 0)
  | .str s => if s.length ≤ sizeLine then some (!s.isEmpty) else none
  | .tup xs => some (!xs.isEmpty)
  | d => match viewL st d with
    | some xs => some (!xs.isEmpty)
    | none => none
theorem reps_empty {K : PySem.W.Frag} {w : Wd} {xs : List D} {vs : List V} (r : Reps K w xs vs) : xs.isEmpty = vs.isEmpty := by
  have := r.length
  cases xs <;> cases vs <;> simp_all
theorem tru_rep {K : PySem.W.Frag} {w : Wd} {d : D} {v : V} {b : Bool} (ok : WOk K w) (r : Rep K w d v) (h : truD w.st d = some b) : TruV K v w.H b := by
  have lists : ∀ xs, viewL w.st d = some xs → b = !xs.isEmpty → TruV K v w.H b := fun xs e1 e2 => by
    obtain ⟨a, vs, ea, h1, r1⟩ := view_rep ok e1 r
    subst ea
    exact .inl ⟨vs, SqL.of h1, by rw [e2, reps_empty r1]⟩
  cases d with
  | non => cases h; rw [show v = V.non from r]; rfl
  | bl c =>
    cases h
    rw [show v = V.bl b from r]
    rfl
  | int i => cases h; rw [show v = V.int i from r]; rfl
  | str s =>
    rw [show v = V.str (toS s) from r]
    have h : (if s.length ≤ sizeLine then some (!s.isEmpty) else none) = some b := h
    by_cases hz : s.length ≤ sizeLine
    · rw [if_pos hz] at h
      cases h
      refine ⟨hz, ?_⟩
      rw [toS_len]
      cases s with
      | nil => rfl
      | cons c t =>
        have : ((((c :: t).length : Nat) : Int) != 0) = true := by
          rw [bne_iff_ne, List.length_cons]
          omega
        rw [this]
        rfl
    · rw [if_neg hz] at h
      cases h
  | tup xs =>
    obtain ⟨a, vs, ea, h1, r1⟩ := r
    subst ea
    cases h
    exact .inr (.inl ⟨vs, h1, by rw [reps_empty r1]⟩)
  | lst xs => cases h; exact lists xs rfl rfl
  | ref n =>
    have h : (match viewL w.st (.ref n) with | some xs => some (!xs.isEmpty) | none => none) = some b := h
    cases e : viewL w.st (.ref n) with
    | none => rw [e] at h; cases h
    | some xs => rw [e] at h; cases h; exact lists xs e rfl
  | scr ns => cases h
  | vv u => cases h
def sTru (f : Env → M D) : Env → M Bool := fun ρ => bnd (f ρ) fun a st => ofO (truD st a) st
theorem seq_tru {f : Env → M D} {σ : L2.St} {H : Hp} {Q : Bool → Hp → Prop} (h : tX (cx X W) (fun _ (a b : Bool) => a = b) T0 (sTru f) σ H Q) :
    tX (cx X W) (Rep X.K) T0 f σ H fun x H1 => ∃ k, TruV X.K x H1 k ∧ Q k H1 := by
  refine (tX.seq0 (R1 := Rep X.K) h).imp fun x H1 ⟨da, h1⟩ => ?_
  obtain ⟨w, ρ, rfl, ok, re, ⟨_, r1⟩, q⟩ := h1
  have q : Post (cx X W) (fun _ (a b : Bool) => a = b) w (ofO (truD w.st da) w.st) Q _ := q
  cases e : truD w.st da with
  | none => rw [e] at q; exact q.elim
  | some b =>
    rw [e] at q
    exact ⟨b, tru_rep ok r1 e, q w (Grow.refl w) ok rfl b rfl⟩
/-- any expression but a comparison, and, or, not, if-else -/
theorem dt_tru {e : Expr} {f : Env → M D} (h : DE X W e f) (he : ∀ whole, isTrue e X.env whole = (do let v ← whole; standAt e.pos; holding [v] (truthy v)) := by intro _; rfl) : DT X W e (sTru f) :=
  (pt_truth h he).imp fun σ H Q q => seq_tru q
def tNotB (f : Env → M Bool) : Env → M Bool := fun ρ => bnd (f ρ) fun a => ret (!a)
def sOfB (f : Env → M Bool) : Env → M D := fun ρ => bnd (f ρ) fun a => ret (.bl a)
theorem dt_not {e : Expr} {f : Env → M Bool} {pos : Pos} (h : DT X W e f) : DT X W (.UnaryOp .Not e pos) (tNotB f) := by
  refine (pt_not h).imp fun σ H Q q => ?_
  refine (tX.seq0 (R1 := fun _ (a b : Bool) => a = b) q).imp fun x H1 ⟨a, h1⟩ => ?_
  obtain ⟨w, ρ, rfl, ok, re, ⟨_, r1⟩, q⟩ := h1
  exact q w (Grow.refl w) ok rfl _ (by rw [r1])
theorem de_not {e : Expr} {f : Env → M D} {pos : Pos} (h : DE X W e f) : DE X W (.UnaryOp .Not e pos) (sOfB (tNotB (sTru f))) := by
  refine (pe_notT h).imp fun σ H Q q => ?_
  obtain ⟨w, ρ, rfl, ok, re, _, q⟩ := q
  refine ⟨w, ρ, rfl, ok, re, trivial, ?_⟩
  unfold sOfB tNotB sTru bnd at q
  cases hf : f ρ w.st with
  | bad => rw [hf] at q; exact q
  | exc e st => rw [hf] at q; exact q
  | ok d st =>
    rw [hf] at q
    intro w' g ok' es x hx
    have q : Post (cx X W) (Rep X.K) w (((ofO (truD st d) st : Res Bool).bnd fun a => ret (!a)).bnd fun a => ret (D.bl a)) Q _ := q
    cases e : truD st d with
    | none => rw [e] at q; exact q.elim
    | some b =>
      rw [e] at q
      refine ⟨b, tru_rep ok' hx (by rw [es]; exact e), ?_⟩
      exact q w' g ok' es _ rfl
def tAndB (f g : Env → M Bool) : Env → M Bool := fun ρ => bnd (f ρ) fun a => if a then g ρ else ret false
def tOrB (f g : Env → M Bool) : Env → M Bool := fun ρ => bnd (f ρ) fun a => if a then ret true else g ρ
abbrev DW (X : Cx) (W : WX) (e : Expr) (f : Env → M Bool) : Prop := PW X e (tX (cx X W) (fun _ (a b : Bool) => a = b) T0 f)
theorem dw_one_and {a : Expr} {f : Env → M Bool} {pos : Pos} (h : DT X W a f) : DW X W (.BoolOp .And [a] pos) f := pw_and1 h
theorem dw_one_or {a : Expr} {f : Env → M Bool} {pos : Pos} (h : DT X W a f) : DW X W (.BoolOp .Or [a] pos) f := pw_or1 h
theorem dw_and {a b : Expr} {rest : List Expr} {f g : Env → M Bool} {pos : Pos} (ha : DT X W a f) (hb : DW X W (.BoolOp .And (b :: rest) pos) g) : DW X W (.BoolOp .And (a :: b :: rest) pos) (tAndB f g) := by
  refine PW.imp (pw_and ha hb) fun σ H Q q => ?_
  refine (tX.seq0 (R1 := fun _ (a b : Bool) => a = b) q).imp fun x H1 ⟨c, h1⟩ => ?_
  obtain ⟨w, ρ, rfl, ok, re, ⟨_, r1⟩, q⟩ := h1
  subst r1
  cases c with
  | true => rw [if_pos rfl]; exact ⟨w, ρ, rfl, ok, re, trivial, q⟩
  | false => rw [if_neg Bool.false_ne_true]; exact q w (Grow.refl w) ok rfl false rfl
theorem dw_or {a b : Expr} {rest : List Expr} {f g : Env → M Bool} {pos : Pos} (ha : DT X W a f) (hb : DW X W (.BoolOp .Or (b :: rest) pos) g) : DW X W (.BoolOp .Or (a :: b :: rest) pos) (tOrB f g) := by
  refine PW.imp (pw_or ha hb) fun σ H Q q => ?_
  refine (tX.seq0 (R1 := fun _ (a b : Bool) => a = b) q).imp fun x H1 ⟨c, h1⟩ => ?_
  obtain ⟨w, ρ, rfl, ok, re, ⟨_, r1⟩, q⟩ := h1
  subst r1
  cases c with
  | false => rw [if_neg Bool.false_ne_true]; exact ⟨w, ρ, rfl, ok, re, trivial, q⟩
  | true => rw [if_pos rfl]; exact q w (Grow.refl w) ok rfl true rfl
theorem dt_w {e : Expr} {f : Env → M Bool} (h : DW X W e f) : DT X W e f := PW.pt h
/-- a and b, a or b as values -/
def sAnd (f g : Env → M D) : Env → M D := fun ρ => bnd (f ρ) fun a => bnd (fun st => ofO (truD st a) st) fun k => if k then g ρ else ret a
def sOr (f g : Env → M D) : Env → M D := fun ρ => bnd (f ρ) fun a => bnd (fun st => ofO (truD st a) st) fun k => if k then ret a else g ρ
theorem de_one {a : Expr} {op : BoolOp} {f : Env → M D} {pos : Pos} (h : DE X W a f) : DE X W (.BoolOp op [a] pos) f := pe_one h
theorem de_and {a b : Expr} {rest : List Expr} {f g : Env → M D} {pos : Pos} (ha : DE X W a f) (hb : DE X W (.BoolOp .And (b :: rest) pos) g) : DE X W (.BoolOp .And (a :: b :: rest) pos) (sAnd f g) := by
  refine (pe_andT ha hb).imp fun σ H Q q => ?_
  refine (tX.seq0 (R1 := Rep X.K) q).imp fun x H1 ⟨da, h1⟩ => ?_
  obtain ⟨w, ρ, rfl, ok, re, ⟨_, r1⟩, q⟩ := h1
  have q : Post (cx X W) (Rep X.K) w ((ofO (truD w.st da) w.st : Res Bool).bnd fun k => if k then g ρ else ret da) Q _ := q
  cases e : truD w.st da with
  | none => rw [e] at q; exact q.elim
  | some b =>
    rw [e] at q
    refine ⟨b, tru_rep ok r1 e, ?_⟩
    cases b with
    | true => rw [if_pos rfl]; exact ⟨w, ρ, rfl, ok, re, trivial, q⟩
    | false => rw [if_neg Bool.false_ne_true]; exact q w (Grow.refl w) ok rfl _ r1
theorem de_or {a b : Expr} {rest : List Expr} {f g : Env → M D} {pos : Pos} (ha : DE X W a f) (hb : DE X W (.BoolOp .Or (b :: rest) pos) g) : DE X W (.BoolOp .Or (a :: b :: rest) pos) (sOr f g) := by
  refine (pe_orT ha hb).imp fun σ H Q q => ?_
  refine (tX.seq0 (R1 := Rep X.K) q).imp fun x H1 ⟨da, h1⟩ => ?_
  obtain ⟨w, ρ, rfl, ok, re, ⟨_, r1⟩, q⟩ := h1
  have q : Post (cx X W) (Rep X.K) w ((ofO (truD w.st da) w.st : Res Bool).bnd fun k => if k then ret da else g ρ) Q _ := q
  cases e : truD w.st da with
  | none => rw [e] at q; exact q.elim
  | some b =>
    rw [e] at q
    refine ⟨b, tru_rep ok r1 e, ?_⟩
    cases b with
    | false => rw [if_neg Bool.false_ne_true]; exact ⟨w, ρ, rfl, ok, re, trivial, q⟩
    | true => rw [if_pos rfl]; exact q w (Grow.refl w) ok rfl _ r1
def sIf (c : Env → M Bool) (f g : Env → M D) : Env → M D := fun ρ => bnd (c ρ) fun k => if k then f ρ else g ρ
theorem de_if {c a b : Expr} {fc : Env → M Bool} {f g : Env → M D} {pos : Pos} (hc : DT X W c fc) (ha : DE X W a f) (hb : DE X W b g) : DE X W (.IfExp c a b pos) (sIf fc f g) := by
  refine (pe_ifExp hc ha hb).imp fun σ H Q q => ?_
  refine (tX.seq0 (R1 := fun _ (a b : Bool) => a = b) q).imp fun x H1 ⟨k, h1⟩ => ?_
  obtain ⟨w, ρ, rfl, ok, re, ⟨_, r1⟩, q⟩ := h1
  subst r1
  cases k with
  | true => rw [if_pos rfl]; exact ⟨w, ρ, rfl, ok, re, trivial, q⟩
  | false => rw [if_neg Bool.false_ne_true]; exact ⟨w, ρ, rfl, ok, re, trivial, q⟩

/-! ### argument lists, displays -/
def sNil : Env → M (List D) := fun _ => ret []
def sCons (f : Env → M D) (g : Env → M (List D)) : Env → M (List D) := fun ρ => bnd (f ρ) fun a => bnd (g ρ) fun as => ret (a :: as)
theorem da_nil : DA X W [] sNil := pa_nil.imp fun σ H Q h => by
  obtain ⟨w, ρ, rfl, ok, re, _, q⟩ := h
  exact q w (Grow.refl w) ok rfl [] reps_nil
theorem da_cons {e : Expr} {es : List Expr} {f : Env → M D} {g : Env → M (List D)} (ha : DE X W e f) (hr : DA X W es g) (hs : starEach (e :: es) X.env = (false, eval e X.env) :: starEach es X.env := by rfl) : DA X W (e :: es) (sCons f g) := by
  refine (pa_cons ha hr hs).imp fun σ H Q h => ?_
  refine (tX.seq0 (R1 := Rep X.K) h).imp fun x H1 ⟨da, h1⟩ => ?_
  refine ((tX.seq (R1 := Reps X.K) (mono_and mono0 monoRep) h1).weak).imp fun y H2 ⟨db, h2⟩ => ?_
  obtain ⟨w, ρ, rfl, ok, re, ⟨⟨_, r1⟩, r2⟩, q⟩ := h2
  exact q w (Grow.refl w) ok rfl (x :: y) (reps_cons r1 r2)
/-- a fresh list: frozen, or an object of the store -/
def mkL (m : Bool) (xs : List D) : M D := fun st => if m then .ok (.ref st.length) (st ++ [some (.lst xs)]) else .ok (.lst xs) st
theorem mk_list {m : Bool} {w : Wd} {xs : List D} {vs : List V} {Q : VK} {E : Exc → Wd → Prop} (ok : WOk X.K w) (r : Reps X.K w xs vs) (q : Post (cx X W) (Rep X.K) w (mkL m xs w.st) Q E) : ∀ p, w.H p = none → Q (.ref p) (upd w.H p (.lst vs)) := fun p np => by
  unfold mkL at q
  cases m with
  | false => exact q (w.put p (.lst vs)) (Grow.new ok np) (ok.new np) rfl _ (rep_newL ok np r)
  | true => exact q (w.alloc p (.lst vs) (.lst xs)) (Grow.alloc ok np) (ok.alloc np (obr_allocL ok np r)) rfl _ rep_alloc
def sTup (f : Env → M (List D)) : Env → M D := fun ρ => bnd (f ρ) fun xs => ofO (if xs.length ≤ sizeLine then some (.tup xs) else none)
def sLst (m : Bool) (f : Env → M (List D)) : Env → M D := fun ρ => bnd (f ρ) fun xs st => if xs.length ≤ sizeLine then mkL m xs st else .bad
theorem de_tup {es : List Expr} {k : Nat} {f : Env → M (List D)} {pos : Pos} (h : DA X W es f) : DE X W (.Tuple es k pos) (sTup f) := by
  refine (pe_tup h).imp fun σ H Q h => ?_
  refine (tX.seq0 (R1 := Reps X.K) h).imp fun x H1 ⟨ds, h1⟩ => ?_
  obtain ⟨w, ρ, rfl, ok, re, ⟨_, r1⟩, q⟩ := h1
  obtain ⟨d, e1, q⟩ := at_of (K := X.K) rfl q
  split at e1
  · rename_i hz
    cases e1
    exact ⟨by rw [← r1.length]; exact hz, q.tup ok r1⟩
  · cases e1
theorem de_lst (m : Bool) {es : List Expr} {f : Env → M (List D)} {pos : Pos} (h : DA X W es f) : DE X W (.List es pos) (sLst m f) := by
  refine (pe_lst h).imp fun σ H Q h => ?_
  refine (tX.seq0 (R1 := Reps X.K) h).imp fun x H1 ⟨ds, h1⟩ => ?_
  obtain ⟨w, ρ, rfl, ok, re, ⟨_, r1⟩, q⟩ := h1
  have q : Post (cx X W) (Rep X.K) w (if ds.length ≤ sizeLine then mkL m ds w.st else .bad) Q _ := q
  by_cases hz : ds.length ≤ sizeLine
  · rw [if_pos hz] at q
    exact ⟨by rw [← r1.length]; exact hz, mk_list ok r1 q⟩
  · rw [if_neg hz] at q
    exact q.elim

/-! ### calls of built-ins -/
/-- the reading of an operation on values that is f on data and the store -/
def AtS (K : PySem.W.Frag) (w : Wd) (d : D) (st : Store) (Q : VK) : Prop := ∀ w', Grow w w' → WOk K w' → w'.st = st → ∀ v, Rep K w' d v → Q v w'.H
def rC (K : PySem.W.Frag) (f : List D → Store → Option D) : List V → Hp → VK → Prop := fun xs H Q => ∃ w ds d, w.H = H ∧ WOk K w ∧ Reps K w ds xs ∧ f ds w.st = some d ∧ At K w d Q
def rMt (K : PySem.W.Frag) (f : D → List D → Store → Option (D × Store)) : V → List V → Hp → VK → Prop := fun x xs H Q => ∃ w d0 ds d st, w.H = H ∧ WOk K w ∧ Rep K w d0 x ∧ Reps K w ds xs ∧ f d0 ds w.st = some (d, st) ∧ AtS K w d st Q
def sBlt (f : List D → Store → Option D) (g : Env → M (List D)) : Env → M D := fun ρ => bnd (g ρ) fun ds st => ofO (f ds st) st
theorem blt_imp {f : List D → Store → Option D} {g : Env → M (List D)} : ∀ σ H Q, tX (cx X W) (Rep X.K) T0 (sBlt f g) σ H Q → tCB (rC X.K f) (tX (cx X W) (Reps X.K) T0 g) σ H Q := fun σ H Q h => by
  refine (tX.seq0 (R1 := Reps X.K) h).imp fun x H1 ⟨ds, h1⟩ => ?_
  obtain ⟨w, ρ, rfl, ok, re, ⟨_, r1⟩, q⟩ := h1
  obtain ⟨d, e1, q⟩ := at_of (K := X.K) rfl q
  exact ⟨w, ds, d, rfl, ok, r1, e1, q⟩
theorem de_blt {f : List D → Store → Option D} {g : Env → M (List D)} {id : String} {x : Str} {e : Expr} {es : List Expr} {p pos : Pos} (hc : CallR X (.builtin id) (rC X.K f)) (hg : Gl X x) (hm : X.mg x = none) (hv : bootBuiltins x = some (.builtin id)) (ha : DA X W (e :: es) g)
    (hn : x ≠ "__name__" := by decide) (hdb : (x == ("__debug__" : Str)) = false := by decide)
    (he : starEach (e :: es) X.env = (false, eval e X.env) :: starEach es X.env := by rfl) (hpl : (backTo pos (starEach es X.env)).any (·.1) = false := by rfl) : DE X W (.Call (.Name x p) (e :: es) [] pos) (sBlt f g) :=
  (pe_callB hc hg hm hv ha hn hdb he hpl).imp blt_imp
theorem de_bty {f : List D → Store → Option D} {g : Env → M (List D)} {T : String} {x : Str} {e : Expr} {es : List Expr} {p pos : Pos} (hc : CallR X (.type T) (rC X.K f)) (hg : Gl X x) (hm : X.mg x = none) (hv : bootBuiltins x = some (.type T)) (ha : DA X W (e :: es) g)
    (hn : x ≠ "__name__" := by decide) (hdb : (x == ("__debug__" : Str)) = false := by decide)
    (he : starEach (e :: es) X.env = (false, eval e X.env) :: starEach es X.env := by rfl) (hpl : (backTo pos (starEach es X.env)).any (·.1) = false := by rfl) : DE X W (.Call (.Name x p) (e :: es) [] pos) (sBlt f g) :=
  (pe_callTy hc hg hm hv ha hn hdb he hpl).imp blt_imp
/-- a method of a built-in type: T's receivers are told by isT -/
def ofP : Option (D × Store) → Res D
  | some (d, st) => .ok d st
  | none => .bad
@[simp] theorem ofP_some (d : D) (st : Store) : ofP (some (d, st)) = .ok d st := rfl
def sMth (isT : D → Store → Bool) (f : D → List D → Store → Option (D × Store)) (fo : Env → M D) (g : Env → M (List D)) : Env → M D := fun ρ => bnd (fo ρ) fun o st => if isT o st then bnd (g ρ) (fun ds st1 => ofP (f o ds st1)) st else .bad
def isStr : D → Store → Bool
  | .str _, _ => true
  | _, _ => false
def isLst : D → Store → Bool := fun d st => (viewL st d).isSome
theorem ty_str {K : PySem.W.Frag} {w : Wd} {d : D} {v : V} (ok : WOk K w) (r : Rep K w d v) (h : isStr d w.st = true) : tyV K "str" v w.H := by
  cases d with
  | str s => rw [show v = V.str (toS s) from r]; exact rfl
  | _ => cases h
theorem ty_lst {K : PySem.W.Frag} {w : Wd} {d : D} {v : V} (ok : WOk K w) (r : Rep K w d v) (h : isLst d w.st = true) : tyV K "list" v w.H := by
  obtain ⟨xs, e⟩ := Option.isSome_iff_exists.mp h
  obtain ⟨a, vs, ea, h1, r1⟩ := view_rep ok e r
  subst ea
  exact .inl ⟨rfl, vs, SqL.of h1⟩
theorem mth_imp {isT : D → Store → Bool} {T : String} (hT : ∀ {w : Wd} {d : D} {v : V}, WOk X.K w → Rep X.K w d v → isT d w.st = true → tyV X.K T v w.H) {f : D → List D → Store → Option (D × Store)} {fo : Env → M D} {g : Env → M (List D)} {σ : L2.St} {H : Hp} {Q : VK}
    (h : tX (cx X W) (Rep X.K) T0 (sMth isT f fo g) σ H Q) : tX (cx X W) (Rep X.K) T0 fo σ H fun x H1 => tyV X.K T x H1 ∧ tX (cx X W) (Reps X.K) T0 g σ H1 fun xs H2 => rMt X.K f x xs H2 Q := by
  refine (tX.seq0 (R1 := Rep X.K) h).imp fun x H1 ⟨d0, h1⟩ => ?_
  obtain ⟨w, ρ, rfl, ok, re, ⟨_, r1⟩, q⟩ := h1
  have q : Post (cx X W) (Rep X.K) w (if isT d0 w.st = true then bnd (g ρ) (fun ds st1 => ofP (f d0 ds st1)) w.st else .bad) Q ((cx X W).we σ) := q
  by_cases hi : isT d0 w.st = true
  · rw [if_pos hi] at q
    refine ⟨hT ok r1 hi, ?_⟩
    have h2 : tX (cx X W) (Rep X.K) (fun w => Rep X.K w d0 x) (fun ρ => bnd (g ρ) (fun ds st1 => ofP (f d0 ds st1))) σ w.H Q := ⟨w, ρ, rfl, ok, re, r1, q⟩
    refine ((tX.seq (R1 := Reps X.K) (fun w w' g q => Rep.grow g _ _ q) h2).weak).imp fun xs H2 ⟨ds, h3⟩ => ?_
    obtain ⟨w2, ρ2, rfl, ok2, re2, ⟨r2, r3⟩, q2⟩ := h3
    have q2 : Post (cx X W) (Rep X.K) w2 (ofP (f d0 ds w2.st)) Q _ := q2
    cases e : f d0 ds w2.st with
    | none => rw [e] at q2; exact q2.elim
    | some z =>
      obtain ⟨d, st⟩ := z
      rw [e] at q2
      exact ⟨w2, d0, ds, d, st, rfl, ok2, r2, r3, e, q2⟩
  · rw [if_neg hi] at q
    exact q.elim
theorem de_mth {isT : D → Store → Bool} {T id : String} {name : Str} {o e : Expr} {es : List Expr} {apos cpos : Pos} {f : D → List D → Store → Option (D × Store)} {fo : Env → M D} {g : Env → M (List D)}
    (hT : ∀ {w : Wd} {d : D} {v : V}, WOk X.K w → Rep X.K w d v → isT d w.st = true → tyV X.K T v w.H) (pa : PlainAttrs T) (slot : Slot T name id) (hty : typeOf (.builtin id) = pure (.type "method_descriptor")) (hm : MtR X id (rMt X.K f)) (ho : DE X W o fo) (ha : DA X W (e :: es) g)
    (hbase : attributeBase o name X.env (eval o X.env) = eval o X.env := by rfl)
    (hfew : ((backTo cpos (starEach (e :: es) X.env)).all (fun x => !x.1) && (backToKw cpos (keywordEach [] X.env)).all (fun x => x.1.isSome)
      && decide ((e :: es).length + ([] : List Keyword).length + (if ([] : List Keyword).isEmpty then 0 else 1) < 30)) = true := by rfl)
    (hline : (apos.endLine == cpos.line) = true := by rfl) (hs : starEach (e :: es) X.env = (false, eval e X.env) :: starEach es X.env := by rfl) (hplain : (backTo cpos (starEach es X.env)).any (·.1) = false := by rfl) :
    DE X W (.Call (.Attribute o name apos) (e :: es) [] cpos) (sMth isT f fo g) :=
  (pe_bm pa slot hty hm ho ha hbase hfew hline hs hplain).imp fun σ H Q h => mth_imp hT h
def sMth0 (isT : D → Store → Bool) (f : D → List D → Store → Option (D × Store)) (fo : Env → M D) : Env → M D := sMth isT f fo sNil
theorem de_mth0 {isT : D → Store → Bool} {T id : String} {name : Str} {o : Expr} {apos cpos : Pos} {f : D → List D → Store → Option (D × Store)} {fo : Env → M D}
    (hT : ∀ {w : Wd} {d : D} {v : V}, WOk X.K w → Rep X.K w d v → isT d w.st = true → tyV X.K T v w.H) (pa : PlainAttrs T) (slot : Slot T name id) (hty : typeOf (.builtin id) = pure (.type "method_descriptor")) (hm : MtR X id (rMt X.K f)) (ho : DE X W o fo)
    (hbase : attributeBase o name X.env (eval o X.env) = eval o X.env := by rfl) (hline : (apos.endLine == cpos.line) = true := by rfl) :
    DE X W (.Call (.Attribute o name apos) [] [] cpos) (sMth0 isT f fo) :=
  (pe_bm0 pa slot hty hm ho hbase hline).imp fun σ H Q h => (mth_imp hT h).imp fun x H1 ⟨h1, h2⟩ => ⟨h1, by
    obtain ⟨w, ρ, rfl, ok, re, _, q⟩ := h2
    exact q w (Grow.refl w) ok rfl [] reps_nil⟩

/-! ### subscripts -/
def ixD : D → D → Store → Option D
  | .str s, .int i, _ => if s.length ≤ sizeLine then (atI s i).map fun c => .str [c] else none
  | .tup xs, .int i, _ => atI xs i
  | .scr ns, .int i, _ => (atI ns i).map D.int
  | d, .int i, st => match viewL st d with
    | some xs => atI xs i
    | none => none
  | _, _, _ => none
def sIx (f g : Env → M D) : Env → M D := fun ρ => bnd (f ρ) fun a => bnd (g ρ) fun b => fun st => ofO (ixD a b st) st
theorem reps_atI {K : PySem.W.Frag} {w : Wd} {xs : List D} {vs : List V} {i : Int} {d : D} (r : Reps K w xs vs) (h : atI xs i = some d) : ∃ v, atI vs i = some v ∧ Rep K w d v := by
  unfold atI at h ⊢
  rw [← r.length]
  cases e : ixN xs.length i with
  | none => rw [e] at h; cases h
  | some j =>
    rw [e] at h
    exact r.get h
theorem ixr_D : IxR X (rB X.K ixD) := by
  intro value slice pins s σ H x y v u Q I rx ry h hs
  obtain ⟨w, dx, dy, d, rfl, ok, hx, hy, hf, q⟩ := h
  have lists : ∀ xs i, viewL w.st dx = some xs → dy = .int i → atI xs i = some d → wpAny (model X.prog X.w) X.A (subscriptTail value slice v u) (EP X pins σ Q) X.xe s := by
    intro xs i e1 e2 e3
    subst e2
    obtain ⟨a, vs, ea, h1, r1⟩ := view_rep ok e1 hx
    obtain ⟨z, h2, h3⟩ := reps_atI r1 e3
    exact ix_list value slice pins s σ _ x y v u Q I rx ry ⟨a, vs, i, z, ea, hy, SqL.of h1, h2, q.now ok h3⟩ hs
  unfold ixD at hf
  split at hf
  · split at hf
    · rename_i t i hz
      cases e : atI t i with
      | none => rw [e] at hf; cases hf
      | some c =>
        rw [e] at hf
        cases hf
        exact ix_str value slice pins s σ _ x y v u Q I rx ry ⟨toS t, i, c, hx, hy, hz, e, q.now ok rfl⟩ hs
    · cases hf
  · obtain ⟨a, vs, ea, h1, r1⟩ := hx
    obtain ⟨z, h2, h3⟩ := reps_atI r1 hf
    exact ix_tup value slice pins s σ _ x y v u Q I rx ry ⟨a, vs, _, z, ea, hy, h1, h2, q.now ok h3⟩ hs
  · rename_i ns i
    obtain ⟨a, ea, h1⟩ := hx
    cases e : atI ns i with
    | none => rw [e] at hf; cases hf
    | some c =>
      rw [e] at hf
      cases hf
      have e2 : atI (ns.map V.int) i = some (V.int c) := by
        unfold atI at e ⊢
        rw [List.length_map]
        cases e3 : ixN ns.length i with
        | none => rw [e3] at e; cases e
        | some j =>
          rw [e3] at e
          have e : ns[j]? = some c := e
          show (ns.map V.int)[j]? = _
          rw [List.getElem?_map, e]
          rfl
      exact ix_list value slice pins s σ _ x y v u Q I rx ry ⟨a, _, i, .int c, ea, hy, h1.sql, e2, q.now ok rfl⟩ hs
  · split at hf
    · rename_i e1
      exact lists _ _ e1 rfl hf
    · cases hf
  · cases hf
theorem de_ix {a b : Expr} {f g : Env → M D} {pos : Pos} (ha : DE X W a f) (hb : DE X W b g) (hs : PlainIx b := by exact fun _ _ => rfl) : DE X W (.Subscript a b pos) (sIx f g) := by
  refine (pe_ix ixr_D ha hb hs).imp fun σ H Q h => ?_
  refine (tX.seq0 (R1 := Rep X.K) h).imp fun x H1 ⟨da, h1⟩ => ?_
  refine ((tX.seq (R1 := Rep X.K) (mono_and mono0 monoRep) h1).weak).imp fun y H2 ⟨db, h2⟩ => ?_
  obtain ⟨w, ρ, e, ok, re, ⟨⟨_, r1⟩, r2⟩, q⟩ := h2
  obtain ⟨d, e1, q⟩ := at_of (K := X.K) rfl q
  exact ⟨w, da, db, d, e, ok, r1, r2, e1, q⟩
end
end PL
/-! PL4: a def's promise where no repr is under way (FG), calls of own defs. -/
namespace PL
open PySem PySem.Spec PyProof.Rows L2

structure FG (P : Program) (wo : World) (K : PySem.W.Frag) (mg : Str → Option Value) (base : Heap) (k : Nat) (f : Addr) (fd : FuncData) (ps : List Str) (sp : Sp) : Prop where
  len : ∀ vs H Q E, sp vs H Q E → vs.length = ps.length
  run : ∀ (A : Around) (out : List PySem.Env) (s : Shared) (H : Hp) (args : Args) (us : List Value) (vs : List V) (Q : VK) (E : XK),
    Room k A → A.guards = some [] → Env0 P wo K mg base A out s H → BindsTo s fd args (ps.zip us) → Vals vs us → sp vs H Q E →
      codeAny (model P wo) A (.call (.ref f) args) (CR (CX P wo) out P wo H s Q E) s
section
variable {P : Program} {wo : World} {K : PySem.W.Frag} {mg : Str → Option Value} {base : Heap} {k : Nat} {f : Addr} {fd : FuncData} {ps : List Str} {sp : Sp}
theorem FG.mono {j : Nat} (F : FG P wo K mg base j f fd ps sp) (h : j ≤ k) : FG P wo K mg base k f fd ps sp where
  len := F.len
  run := fun A out s H args us vs Q E hr => F.run A out s H args us vs Q E (hr.mono h)
theorem FG.imp {sp' : Sp} (F : FG P wo K mg base k f fd ps sp) (h : ∀ vs H Q E, sp' vs H Q E → sp vs H Q E) : FG P wo K mg base k f fd ps sp' where
  len := fun vs H Q E q => F.len vs H Q E (h _ _ _ _ q)
  run := fun A out s H args us vs Q E hr hg e0 hb hv hs => F.run A out s H args us vs Q E hr hg e0 hb hv (h _ _ _ _ hs)
theorem FG.of (F : FnOk P wo K mg base (CX P wo) k f fd ps sp) : FG P wo K mg base k f fd ps sp where
  len := F.len
  run := fun A out s H args us vs Q E hr _ => F.run A out s H args us vs Q E hr

/-- THE RULE for a def, by its body -/
theorem fg_body {x qual : Str} {st : Stmt} {N : List Str} (F : Fun K x qual st f fd) (S : FnScope N ps (defScope st)) (hlen : ∀ vs H Q E, sp vs H Q E → vs.length = ps.length)
    (hb : ∀ (cdv : Value) (A : Around) (out : List PySem.Env) (s : Shared) (H : Hp) (vs : List V) (Q : VK) (E : XK), Room k (A.deeper (envOfC qual (defScope st) s.heap.objs.size f cdv)) → A.guards = some [] → sp vs H Q E →
      ∃ t, PSs (cxOf (CX P wo) P wo K mg base N qual (defScope st) f cdv A out s H E) (defBody st) t ∧ t { nx := fun _ H' => Q .non H', rt := Q } (start N vs) H) :
    FG P wo K mg base (k + 1) f fd ps sp := by
  obtain ⟨oc, od, kV, doc, pm, an, cdv, ct, osl, efd, lk, hcd⟩ := F.ex
  subst efd
  refine ⟨hlen, ?_⟩
  intro A out s H args us vs Q E hr hg e0 bind rv hs
  have same : ∀ b o, base.get? b = some o → s.heap.get? b = some o := fun b o e => (e0.bs b o e).1
  have kin := e0.mod.kin.keeps same
  have nolim := e0.mod.nolimit.keeps same
  have nv : vs.length = ps.length := hlen _ _ _ _ hs
  have parK : ∀ y ∈ ps.zip us, (defScope st).names.lookup y.1 = some .local ∨
      ((defScope st).names.lookup y.1 = some .cell ∧ ((cellsFrom (s.heap.objs.size + 1) (defScope st).names []).lookup y.1).isSome = true) := by
    rintro ⟨z, u⟩ hz
    have hm : z ∈ ps := (List.of_mem_zip hz).1
    cases S.par z hm with
    | inl h => exact Or.inl h
    | inr h => exact Or.inr ⟨h, PySem.W.cellsFrom_some _ _ _ (Or.inl h)⟩
  refine codeAny_call_function hr.depth (kin _ _ lk) rfl S.co S.gen rfl (PySem.W.codeRec_of kin hcd) (bind _ _ _ _ ?_)
  refine wpAny_newFunctionEnv_cells S.kind parK ?_
  intro env he s1 inC
  subst he
  have room := hr.deeper (envOfC qual (defScope st) s.heap.objs.size f cdv)
  obtain ⟨t, body, reading⟩ := hb cdv A out s H vs Q E room hg hs
  have inv := inv_start (CX := CX P wo) (mg := mg) (E := E) S hr.hd e0 nv rv inC
  refine ⟨nolim.keeps inC.toInCall.keep, codeAny_func (wpAny_mono (body.run [] s1 _ H _ inv reading) ?_ fun _ _ h => h)⟩
  intro fl s' h
  cases fl with
  | ret u => obtain ⟨v, _, H', J, r, q⟩ := h; exact ⟨v, H', J.os, J.bare, J.base, J.hok, r, q⟩
  | next => obtain ⟨_, H', J, q⟩ := h; exact ⟨.non, H', J.os, J.bare, J.base, J.hok, rfl, q⟩
  | brk => obtain ⟨_, _, _, q⟩ := h; exact q.elim
  | cont => obtain ⟨_, _, _, q⟩ := h; exact q.elim
end

/-- an own def, as its callers know it: its address, its promise -/
structure Knows (X : Cx) (x : Str) (k : Nat) (f : Addr) (fd : FuncData) (ps : List Str) (sp : Sp) : Prop where
  mgf : X.mg x = some (.ref f)
  kp : PySem.W.keepIn X.K (.ref f) = true
  ok : FG X.prog X.w X.K X.mg X.base k f fd ps sp
section
variable {X : Cx} {W : WX} {k : Nat} {f : Addr} {fd : FuncData} {ps : List Str} {sp : Sp} {x : Str}
/-- the callee runs -/
theorem run_fg {pins : List (Addr × Obj)} {σ : L2.St} {H : Hp} {s : Shared} {Q : VK} {args : Args} {us : List Value} {vs : List V} (F : FG X.prog X.w X.K X.mg X.base k f fd ps sp) (hr : Room k X.A) (hg : X.A.guards = some []) (tk : Takes X W)
    (hb : us.length = ps.length → BindsTo s fd args (ps.zip us)) (I : Inv X pins σ H s) (r : Vals vs us) (h : sp vs H Q (WE W σ)) :
    wpAny (model X.prog X.w) X.A (call (.ref f) args.pos args.kw) (EP X pins σ Q) X.xe s := by
  have nl : us.length = ps.length := r.length.symm.trans (F.len _ _ _ _ h)
  have go := F.run X.A X.stack s H args us vs Q (WE W σ) hr hg I.env0 (hb nl) r h
  refine wpAny_call (codeAny_mono (show codeAny (model X.prog X.w) X.A (.call (.ref f) args) _ s from go) ?_)
  intro rs s' hq
  cases rs with
  | error e => exact passAt tk σ pins H s e s' I hq
  | ok fl =>
    cases fl with
    | ret u => exact I.after hq
    | next => exact hq.elim
    | brk => exact hq.elim
    | cont => exact hq.elim
/-- f(e, ..), every parameter given by place -/
theorem pe_callF {e : Expr} {es : List Expr} {t : TA} {p pos : Pos} (G : Knows X x k f fd ps sp) (hr : Room k X.A) (hg : X.A.guards = some []) (tk : Takes X W) (hgl : Gl X x) (hb : Binds X.K fd ps []) (ha : PA X (e :: es) t)
    (hdb : (x == ("__debug__" : Str)) = false := by decide) (he : starEach (e :: es) X.env = (false, eval e X.env) :: starEach es X.env := by rfl) (hpl : (backTo pos (starEach es X.env)).any (·.1) = false := by rfl) :
    PE X (.Call (.Name x p) (e :: es) [] pos) (fun σ H Q => t σ H fun vs H1 => sp vs H1 Q (WE W σ)) := by
  refine ⟨fun pins s σ H Q I h => wpAny_Call_Name_kw (ld_glob I hgl G.mgf ?_ hdb)⟩
  refine PySem.W.callWith_K (h₀ := X.base) I.ok.mod.kin G.kp (thn (ha.run pos pins s σ H _ I h) ?_) he hpl
  intro us s1 hq
  obtain ⟨vs, H1, I1, r, q⟩ := hq
  refine ⟨I1.kIn, run_fg (args := ⟨us, []⟩) G.ok hr hg tk (fun nl => ?_) I1 r q⟩
  have := hb s1 us I1.kIn (by rw [List.append_nil]; exact nl)
  rw [List.append_nil] at this
  exact this
/-- f() -/
theorem pe_callF0 {p pos : Pos} (G : Knows X x k f fd ps sp) (hr : Room k X.A) (hg : X.A.guards = some []) (tk : Takes X W) (hgl : Gl X x) (hb : Binds X.K fd ps []) (hdb : (x == ("__debug__" : Str)) = false := by decide) :
    PE X (.Call (.Name x p) [] [] pos) (fun σ H Q => sp [] H Q (WE W σ)) := by
  refine ⟨fun pins s σ H Q I h => wpAny_Call_Name_kw (ld_glob I hgl G.mgf ?_ hdb)⟩
  refine PySem.W.callWith_K0 I.kIn G.kp (run_fg (args := ⟨[], []⟩) (us := []) (vs := []) G.ok hr hg tk (fun nl => ?_) I .nil h)
  exact hb s [] I.kIn (by simpa using nl)
/-- f(e, .., k = v, ..) -/
theorem pe_callFK {e : Expr} {es : List Expr} {kws : List Keyword} {ks : List Str} {g : List Value → List Value → List Value} {gV : List V → List V → List V} {t tk' : TA} {p pos : Pos} (G : Knows X x k f fd ps sp) (hr : Room k X.A) (hg : X.A.guards = some []) (tk : Takes X W)
    (hgl : Gl X x) (hb : KBinds X.K fd ps ks g gV) (ha : PA X (e :: es) t) (hkw : PK X kws tk')
    (hall : (backToKw pos (keywordEach kws X.env)).all (·.1.isSome) = true := by rfl) (hks : (backToKw pos (keywordEach kws X.env)).filterMap (·.1) = ks := by rfl)
    (hdb : (x == ("__debug__" : Str)) = false := by decide) (he : starEach (e :: es) X.env = (false, eval e X.env) :: starEach es X.env := by rfl)
    (hpl : ((backTo pos (starEach (e :: es) X.env)).any (·.1) || (backToKw pos (keywordEach kws X.env)).any (·.1.isNone)) = false := by rfl) :
    PE X (.Call (.Name x p) (e :: es) kws pos) (fun σ H Q => t σ H fun vs H1 => tk' σ H1 fun zs H2 => sp (gV vs zs) H2 Q (WE W σ)) := by
  refine ⟨fun pins s σ H Q I h => wpAny_Call_Name_kw (ld_glob I hgl G.mgf ?_ hdb)⟩
  refine PySem.W.callWith_KW (h₀ := X.base) I.ok.mod.kin G.kp hall (thn (ha.run pos pins s σ H _ I h) ?_) hpl he
  intro us s1 hq
  obtain ⟨vs, H1, I1, r, q⟩ := hq
  refine thn (hkw.run pos pins s1 σ H1 _ I1 q) ?_
  intro ws s2 hq2
  obtain ⟨zs, H2, I2, rz, q2⟩ := hq2
  rw [hks]
  exact ⟨I2.kIn, run_fg (args := ⟨us, ks.zip ws⟩) G.ok hr hg tk (hb.to s2 us ws I2.kIn) I2 (hb.rel r rz) q2⟩

/-- the promise of a def that is F on data -/
def spF (K : PySem.W.Frag) (mg : Str → Option Value) (n : Nat) (F : List D → M D) : Sp := fun vs H Q E => vs.length = n ∧ ∃ w ds, w.H = H ∧ WOk K w ∧ Reps K w ds vs ∧
  Post ⟨K, xr K mg, fun _ _ _ _ => False⟩ (Rep K) w (F ds w.st) Q (fun e w' => ∀ c d, xr K mg e c d w' → E c d w'.H)
theorem post_ctx {C C' : Ctx} {α β : Type} {R : Wd → α → β → Prop} {w : Wd} {r : Res α} {Q : β → Hp → Prop} {E : Exc → Wd → Prop} (e : C.K = C'.K) (h : Post C R w r Q E) : Post C' R w r Q E := by
  cases r with
  | ok a st => exact fun w' g ok => h w' g (by rw [e]; exact ok)
  | exc x st => exact fun w' g ok => h w' g (by rw [e]; exact ok)
  | bad => exact h
def sCall (F : List D → M D) (g : Env → M (List D)) : Env → M D := fun ρ => bnd (g ρ) F
theorem call_imp {n : Nat} {F : List D → M D} {g : Env → M (List D)} {σ : L2.St} {H : Hp} {Q : VK} (hn : ∀ ds st, ds.length ≠ n → F ds st = .bad) (h : tX (cx X W) (Rep X.K) T0 (sCall F g) σ H Q) :
    tX (cx X W) (Reps X.K) T0 g σ H fun vs H1 => spF X.K X.mg n F vs H1 Q (WE W σ) := by
  refine (tX.seq0 (R1 := Reps X.K) h).imp fun x H1 ⟨ds, h1⟩ => ?_
  obtain ⟨w, ρ, rfl, ok, re, ⟨_, r1⟩, q⟩ := h1
  refine ⟨?_, w, ds, rfl, ok, r1, post_ctx (C := cx X W) rfl q⟩
  by_cases e : ds.length = n
  · rw [← r1.length]; exact e
  · have q : Post (cx X W) (Rep X.K) w (F ds w.st) Q _ := q
    rw [hn ds w.st e] at q
    exact q.elim
/-- F for n arguments, anything else is not said -/
def arity (n : Nat) (F : List D → M D) : List D → M D := fun ds st => if ds.length = n then F ds st else .bad
theorem arity_bad {n : Nat} {F : List D → M D} : ∀ ds st, ds.length ≠ n → arity n F ds st = .bad := fun ds st h => if_neg h
theorem arity_ok {n : Nat} {F : List D → M D} {ds : List D} {st : Store} (h : ds.length = n) : arity n F ds st = F ds st := if_pos h
theorem de_call {n : Nat} {F : List D → M D} {g : Env → M (List D)} {e : Expr} {es : List Expr} {p pos : Pos} (G : Knows X x k f fd ps (spF X.K X.mg n (arity n F))) (hr : Room k X.A) (hg : X.A.guards = some []) (tk : Takes X W) (hb : Binds X.K fd ps []) (ha : DA X W (e :: es) g) (hgl : Gl X x := by rfl)
    (hdb : (x == ("__debug__" : Str)) = false := by decide) (he : starEach (e :: es) X.env = (false, eval e X.env) :: starEach es X.env := by rfl) (hpl : (backTo pos (starEach es X.env)).any (·.1) = false := by rfl) :
    DE X W (.Call (.Name x p) (e :: es) [] pos) (sCall (arity n F) g) :=
  (pe_callF G hr hg tk hgl hb ha hdb he hpl).imp fun σ H Q h => call_imp arity_bad h
end
end PL
/-! PL5: data as the library's PyData; comparisons; built-in functions. -/
namespace PL
open PySem PySem.Spec PyProof.Rows L2

mutual
def pyT : D → PyData
  | .non => .none
  | .bl b => .bool b
  | .int i => .int i
  | .str s => .str (toS s)
  | .tup xs => .tuple (pyTs xs)
  | .lst xs => .list (pyTs xs)
  | .scr _ => .none
  | .ref _ => .none
  | .vv _ => .none
def pyTs : List D → List PyData
  | [] => []
  | x :: xs => pyT x :: pyTs xs
end
mutual
/-- plain data of at most that depth -/
def flat : Nat → D → Bool
  | _, .non => true
  | _, .bl _ => true
  | _, .int _ => true
  | _, .str s => s.all fun c => decide (c < 1114112)
  | k + 1, .tup xs => flats k xs
  | k + 1, .lst xs => flats k xs
  | 0, .tup _ => false
  | 0, .lst _ => false
  | _, .scr _ => false
  | _, .ref _ => false
  | _, .vv _ => false
def flats : Nat → List D → Bool
  | _, [] => true
  | k, x :: xs => flat k x && flats k xs
end
mutual
/-- the store's lists written out -/
def rsv (st : Store) : D → D
  | .tup xs => .tup (rsvs st xs)
  | .lst xs => .lst (rsvs st xs)
  | .ref n => match st[n]? with
    | some (some (.lst xs)) => .lst xs
    | _ => .ref n
  | d => d
def rsvs (st : Store) : List D → List D
  | [] => []
  | x :: xs => rsv st x :: rsvs st xs
end
mutual
theorem rsv_flat (st : Store) : ∀ (k : Nat) (d : D), flat k d = true → rsv st d = d
  | _, .non, _ => rfl
  | _, .bl _, _ => rfl
  | _, .int _, _ => rfl
  | _, .str _, _ => rfl
  | k + 1, .tup xs, h => by show D.tup (rsvs st xs) = _; rw [rsvs_flat st k xs h]
  | k + 1, .lst xs, h => by show D.lst (rsvs st xs) = _; rw [rsvs_flat st k xs h]
  | 0, .tup _, h => by cases h
  | 0, .lst _, h => by cases h
  | _, .scr _, _ => rfl
  | k, .ref _, h => by cases k <;> cases h
  | _, .vv _, _ => rfl
theorem rsvs_flat (st : Store) : ∀ (k : Nat) (ds : List D), flats k ds = true → rsvs st ds = ds
  | _, [], _ => rfl
  | k, x :: xs, h => by
    have h : (flat k x && flats k xs) = true := h
    rw [Bool.and_eq_true] at h
    show rsv st x :: rsvs st xs = _
    rw [rsv_flat st k x h.1, rsvs_flat st k xs h.2]
end
theorem str_lay {s : List Nat} (h : (s.all fun c => decide (c < 1114112)) = true) : PyData.strOk (toS s) = true := by
  show (s.toArray.all fun c => decide (c < 1114112)) = true
  rw [List.all_toArray]
  exact h
mutual
theorem pyT_lay : ∀ (k : Nat) (d : D), flat k d = true → (pyT d).canLay0 = true ∧ (pyT d).depth ≤ k
  | _, .non, _ => ⟨rfl, Nat.zero_le _⟩
  | _, .bl _, _ => ⟨rfl, Nat.zero_le _⟩
  | _, .int _, _ => ⟨rfl, Nat.zero_le _⟩
  | k, .str s, h => ⟨by
      show (PyData.str (toS s)).canLay0 = true
      unfold PyData.canLay0
      exact str_lay (by cases k <;> exact h), Nat.zero_le _⟩
  | k + 1, .tup xs, h => by
    obtain ⟨h1, h2⟩ := pyTs_lay k xs h
    refine ⟨?_, ?_⟩
    · show (PyData.tuple (pyTs xs)).canLay0 = true
      unfold PyData.canLay0; exact h1
    · show (PyData.tuple (pyTs xs)).depth ≤ k + 1
      unfold PyData.depth; omega
  | k + 1, .lst xs, h => by
    obtain ⟨h1, h2⟩ := pyTs_lay k xs h
    refine ⟨?_, ?_⟩
    · show (PyData.list (pyTs xs)).canLay0 = true
      unfold PyData.canLay0; exact h1
    · show (PyData.list (pyTs xs)).depth ≤ k + 1
      unfold PyData.depth; omega
  | 0, .tup _, h => by cases h
  | 0, .lst _, h => by cases h
  | _, .scr _, _ => ⟨rfl, Nat.zero_le _⟩
  | _, .ref _, _ => ⟨rfl, Nat.zero_le _⟩
  | _, .vv _, _ => ⟨rfl, Nat.zero_le _⟩
theorem pyTs_lay : ∀ (k : Nat) (ds : List D), flats k ds = true → PyData.canLayAll0 (pyTs ds) = true ∧ PyData.depthAll (pyTs ds) ≤ k
  | _, [], _ => ⟨rfl, Nat.zero_le _⟩
  | k, x :: xs, h => by
    have h : (flat k x && flats k xs) = true := h
    rw [Bool.and_eq_true] at h
    obtain ⟨h1, h2⟩ := pyT_lay k x h.1
    obtain ⟨h3, h4⟩ := pyTs_lay k xs h.2
    refine ⟨?_, ?_⟩
    · show PyData.canLayAll0 (pyT x :: pyTs xs) = true
      unfold PyData.canLayAll0
      rw [h1, h3]
      rfl
    · show PyData.depthAll (pyT x :: pyTs xs) ≤ k
      unfold PyData.depthAll
      exact Nat.max_le.mpr ⟨h2, h4⟩
end
theorem flat_shaped {k : Nat} {d : D} (h : flat k d = true) (hk : k ≤ 64) : SeqAt.shaped (pyT d) = true := by
  obtain ⟨h1, h2⟩ := pyT_lay k d h
  unfold SeqAt.shaped
  rw [h1, decide_eq_true (Nat.le_trans h2 hk)]
  rfl
mutual
theorem dp_flat {K : PySem.W.Frag} {w : Wd} : ∀ (k : Nat) (d : D) (v : V), flat k d = true → Rep K w d v → Dp K w.H v (pyT d)
  | _, .non, v, _, r => by rw [show v = V.non from r]; exact .non
  | _, .bl b, v, _, r => by rw [show v = V.bl b from r]; exact .bl b
  | _, .int i, v, _, r => by rw [show v = V.int i from r]; exact .int i
  | _, .str s, v, _, r => by rw [show v = V.str (toS s) from r]; exact .str _
  | k + 1, .tup xs, v, h, r => by
    obtain ⟨a, vs, e, h1, h2⟩ := r
    subst e
    exact .tup h1 (dps_flat k xs vs h h2)
  | k + 1, .lst xs, v, h, r => by
    obtain ⟨a, vs, e, h1, _, h2⟩ := r
    subst e
    exact .lst (SqL.of h1) (dps_flat k xs vs h h2)
  | 0, .tup _, _, h, _ => by cases h
  | 0, .lst _, _, h, _ => by cases h
  | k, .scr _, _, h, _ => by cases k <;> cases h
  | k, .ref _, _, h, _ => by cases k <;> cases h
  | k, .vv _, _, h, _ => by cases k <;> cases h
theorem dps_flat {K : PySem.W.Frag} {w : Wd} : ∀ (k : Nat) (ds : List D) (vs : List V), flats k ds = true → Reps K w ds vs → DpAll K w.H vs (pyTs ds)
  | _, [], vs, _, r => by
    have r : vs = [] := r
    subst r
    exact .nil
  | k, x :: xs, vs, h, r => by
    have h : (flat k x && flats k xs) = true := h
    rw [Bool.and_eq_true] at h
    obtain ⟨v, t, e, h1, h2⟩ := r
    subst e
    exact .cons (dp_flat k x v h.1 h1) (dps_flat k xs t h.2 h2)
end
mutual
theorem dp_rsv {K : PySem.W.Frag} {w : Wd} (ok : WOk K w) : ∀ (k : Nat) (d : D) (v : V), flat k (rsv w.st d) = true → Rep K w d v → Dp K w.H v (pyT (rsv w.st d))
  | _, .non, v, _, r => by rw [show v = V.non from r]; exact .non
  | _, .bl b, v, _, r => by rw [show v = V.bl b from r]; exact .bl b
  | _, .int i, v, _, r => by rw [show v = V.int i from r]; exact .int i
  | _, .str s, v, _, r => by rw [show v = V.str (toS s) from r]; exact .str _
  | k + 1, .tup xs, v, h, r => by
    obtain ⟨a, vs, e, h1, h2⟩ := r
    subst e
    exact .tup h1 (dps_rsv ok k xs vs h h2)
  | k + 1, .lst xs, v, h, r => by
    obtain ⟨a, vs, e, h1, _, h2⟩ := r
    subst e
    exact .lst (SqL.of h1) (dps_rsv ok k xs vs h h2)
  | 0, .tup _, _, h, _ => by cases h
  | 0, .lst _, _, h, _ => by cases h
  | k, .scr _, _, h, _ => by cases k <;> cases h
  | k, .ref n, v, h, r => by
    have e2 : rsv w.st (.ref n) = (match w.st[n]? with | some (some (.lst xs)) => D.lst xs | _ => D.ref n) := by unfold rsv; rfl
    rw [e2] at h ⊢
    cases e : w.st[n]? with
    | none => rw [e] at h; cases k <;> cases h
    | some o =>
      rw [e] at h
      cases o with
      | none => cases k <;> cases h
      | some ob =>
        cases ob with
        | lst xs =>
          obtain ⟨vs, h1, h2⟩ := ok.ob n _ e
          rw [show v = V.ref (w.bet n) from r.2]
          cases k with
          | zero => cases h
          | succ k => exact .lst (SqL.of h1) (dps_flat k xs vs h h2)
  | k, .vv _, _, h, _ => by cases k <;> cases h
theorem dps_rsv {K : PySem.W.Frag} {w : Wd} (ok : WOk K w) : ∀ (k : Nat) (ds : List D) (vs : List V), flats k (rsvs w.st ds) = true → Reps K w ds vs → DpAll K w.H vs (pyTs (rsvs w.st ds))
  | _, [], vs, _, r => by
    have r : vs = [] := r
    subst r
    exact .nil
  | k, x :: xs, vs, h, r => by
    have h : (flat k (rsv w.st x) && flats k (rsvs w.st xs)) = true := h
    rw [Bool.and_eq_true] at h
    obtain ⟨v, t, e, h1, h2⟩ := r
    subst e
    exact .cons (dp_rsv ok k x v h.1 h1) (dps_rsv ok k xs t h.2 h2)
end
/-- Python's == on plain data -/
def deq (a b : D) : Bool := PyData.eqv (pyT a) (pyT b)
def eqD (a b : D) (st : Store) : Option Bool := match a, b with
  | .str s, .str t => some (decide (s = t))
  | .int i, .int j => some (decide (i = j))
  | .bl i, .bl j => some (decide (i = j))
  | a, b => if flat 60 (rsv st a) && flat 60 (rsv st b) then some (deq (rsv st a) (rsv st b)) else none
theorem deq_refl {k : Nat} {a : D} (h : flat k a = true) : deq a a = true := SeqAt.eqv_refl _ (pyT_lay k a h).1
theorem eqD_str (s t : List Nat) (st : Store) : eqD (.str s) (.str t) st = some (decide (s = t)) := rfl
theorem eqD_int (i j : Int) (st : Store) : eqD (.int i) (.int j) st = some (decide (i = j)) := rfl
theorem eqD_bl (i j : Bool) (st : Store) : eqD (.bl i) (.bl j) st = some (decide (i = j)) := rfl
theorem eqD_cases {a b : D} {st : Store} {c : Bool} (h : eqD a b st = some c) : (∃ s t, a = .str s ∧ b = .str t ∧ c = decide (s = t)) ∨ (∃ i j, a = .int i ∧ b = .int j ∧ c = decide (i = j)) ∨
    (∃ i j, a = .bl i ∧ b = .bl j ∧ c = decide (i = j)) ∨ (flat 60 (rsv st a) = true ∧ flat 60 (rsv st b) = true ∧ c = deq (rsv st a) (rsv st b)) := by
  unfold eqD at h
  split at h
  · cases h; exact .inl ⟨_, _, rfl, rfl, rfl⟩
  · cases h; exact .inr (.inl ⟨_, _, rfl, rfl, rfl⟩)
  · cases h; exact .inr (.inr (.inl ⟨_, _, rfl, rfl, rfl⟩))
  · split at h
    · rename_i hz
      rw [Bool.and_eq_true] at hz
      cases h
      exact .inr (.inr (.inr ⟨hz.1, hz.2, rfl⟩))
    · cases h
theorem eqD_refl {a : D} {st : Store} (h : flat 60 a = true) : eqD a a st = some true := by
  unfold eqD
  split
  · rw [decide_eq_true rfl]
  · rw [decide_eq_true rfl]
  · rw [decide_eq_true rfl]
  · rw [rsv_flat st 60 a h, h, deq_refl h]
    rfl

inductive COp where
  | eq | ne | lt | le | gt | ge | isn | ison | isin | notin
def COp.ast : COp → CmpOp
  | .eq => .Eq | .ne => .NotEq | .lt => .Lt | .le => .LtE | .gt => .Gt | .ge => .GtE | .isn => .Is | .ison => .IsNot | .isin => .In | .notin => .NotIn
def ltD : D → D → Option Bool
  | .int i, .int j => some (decide (i < j))
  | .str s, .str t => some (decide (s < t))
  | _, _ => none
def isNone : D → Bool
  | .non => true
  | _ => false
/-- x in y -/
def inD (a b : D) (st : Store) : Option Bool := match a, b with
  | .str [c], .str t => some (decide (c ∈ t))
  | a, b => match rsv st b with
    | .lst xs => if flat 60 (rsv st a) && flat 60 (.lst xs) then some (xs.any fun z => deq z (rsv st a)) else none
    | _ => none
def COp.sem : COp → D → D → Store → Option Bool
  | .eq, a, b, st => eqD a b st
  | .ne, a, b, st => (eqD a b st).map (!·)
  | .lt, a, b, _ => ltD a b
  | .ge, a, b, _ => (ltD a b).map (!·)
  | .gt, a, b, _ => ltD b a
  | .le, a, b, _ => (ltD b a).map (!·)
  | .isn, a, .non, _ => some (isNone a)
  | .ison, a, .non, _ => some (!isNone a)
  | .isn, _, _, _ => none
  | .ison, _, _, _ => none
  | .isin, a, b, st => inD a b st
  | .notin, a, b, st => (inD a b st).map (!·)
/-- the reading of a comparison -/
def rCmp (K : PySem.W.Frag) (f : D → D → Store → Option Bool) : R2 := fun x y H Q => ∃ w dx dy b, w.H = H ∧ WOk K w ∧ Rep K w dx x ∧ Rep K w dy y ∧ f dx dy w.st = some b ∧ Q (.bl b) H
section
variable {X : Cx}
theorem toS_list (s : List Nat) : (toS s).cps.toList = s := by
  show s.toArray.toList = s
  rfl
theorem isNone_rep {K : PySem.W.Frag} {w : Wd} {d : D} {v : V} {b : Bool} (hv : ∀ u, d ≠ .vv u) (r : Rep K w d v) : isNone d = decide (v = .non) := by
  cases d with
  | non => rw [show v = V.non from r]; rfl
  | bl c => rw [show v = V.bl c from r]; rfl
  | int i => rw [show v = V.int i from r]; rfl
  | str s => rw [show v = V.str (toS s) from r]; rfl
  | tup xs => obtain ⟨a, vs, e, _⟩ := r; rw [e]; rfl
  | lst xs => obtain ⟨a, vs, e, _⟩ := r; rw [e]; rfl
  | scr ns => obtain ⟨a, e, _⟩ := r; rw [e]; rfl
  | ref n => rw [r.2]; rfl
  | vv u => exact absurd rfl (hv u)
theorem dec_v {s t : List Nat} : decide (V.str (toS s) = V.str (toS t)) = decide (s = t) := by
  by_cases h : s = t
  · subst h; rw [decide_eq_true rfl, decide_eq_true rfl]
  · rw [decide_eq_false h, decide_eq_false fun e => h (toS_inj (V.str.inj e))]
theorem dec_vi {i j : Int} : decide (V.int i = V.int j) = decide (i = j) := by
  by_cases h : i = j
  · subst h; rw [decide_eq_true rfl, decide_eq_true rfl]
  · rw [decide_eq_false h, decide_eq_false fun e => h (V.int.inj e)]
theorem dec_vb {i j : Bool} : decide (V.bl i = V.bl j) = decide (i = j) := by cases i <;> cases j <;> rfl
theorem cmp_eq (hu : X.A.units + 65 < cLine) : OpR X (compareOp .Eq) (rCmp X.K eqD) := by
  intro pins s σ H x y v u Q I rx ry h
  obtain ⟨w, dx, dy, b, rfl, ok, hx, hy, hf, q⟩ := h
  rcases eqD_cases hf with ⟨z, t, rfl, rfl, rfl⟩ | ⟨i, j, rfl, rfl, rfl⟩ | ⟨i, j, rfl, rfl, rfl⟩ | ⟨z1, z2, rfl⟩
  · have hx : x = V.str (toS z) := hx
    have hy : y = V.str (toS t) := hy
    subst hx hy
    exact op_eq pins s σ _ _ _ v u Q I rx ry ⟨rfl, by rw [dec_v]; exact q⟩
  · have hx : x = V.int i := hx
    have hy : y = V.int j := hy
    subst hx hy
    exact op_eq pins s σ _ _ _ v u Q I rx ry ⟨rfl, by rw [dec_vi]; exact q⟩
  · have hx : x = V.bl i := hx
    have hy : y = V.bl j := hy
    subst hx hy
    exact op_eq pins s σ _ _ _ v u Q I rx ry ⟨rfl, by rw [dec_vb]; exact q⟩
  · exact op_eqD (by omega) pins s σ _ x y v u Q I rx ry ⟨_, _, dp_rsv ok 60 dx x z1 hx, dp_rsv ok 60 dy y z2 hy, flat_shaped z1 (by decide), flat_shaped z2 (by decide), q⟩
theorem cmp_ne (hu : X.A.units + 65 < cLine) : OpR X (compareOp .NotEq) (rCmp X.K fun a b st => (eqD a b st).map (!·)) := by
  intro pins s σ H x y v u Q I rx ry h
  obtain ⟨w, dx, dy, b, rfl, ok, hx, hy, hf, q⟩ := h
  have hf : (eqD dx dy w.st).map (!·) = some b := hf
  cases e : eqD dx dy w.st with
  | none => rw [e] at hf; cases hf
  | some c =>
    rw [e] at hf
    cases hf
    rcases eqD_cases e with ⟨z, t, rfl, rfl, rfl⟩ | ⟨i, j, rfl, rfl, rfl⟩ | ⟨i, j, rfl, rfl, rfl⟩ | ⟨z1, z2, rfl⟩
    · have hx : x = V.str (toS z) := hx
      have hy : y = V.str (toS t) := hy
      subst hx hy
      exact op_ne pins s σ _ _ _ v u Q I rx ry ⟨rfl, by rw [dec_v]; exact q⟩
    · have hx : x = V.int i := hx
      have hy : y = V.int j := hy
      subst hx hy
      exact op_ne pins s σ _ _ _ v u Q I rx ry ⟨rfl, by rw [dec_vi]; exact q⟩
    · have hx : x = V.bl i := hx
      have hy : y = V.bl j := hy
      subst hx hy
      exact op_ne pins s σ _ _ _ v u Q I rx ry ⟨rfl, by rw [dec_vb]; exact q⟩
    · exact op_neD (by omega) pins s σ _ x y v u Q I rx ry ⟨_, _, dp_rsv ok 60 dx x z1 hx, dp_rsv ok 60 dy y z2 hy, flat_shaped z1 (by decide), flat_shaped z2 (by decide), q⟩
theorem ltD_cases {a b : D} {c : Bool} (h : ltD a b = some c) : (∃ i j, a = .int i ∧ b = .int j ∧ c = decide (i < j)) ∨ (∃ s t, a = .str s ∧ b = .str t ∧ c = decide (s < t)) := by
  unfold ltD at h
  split at h
  · cases h; exact .inl ⟨_, _, rfl, rfl, rfl⟩
  · cases h; exact .inr ⟨_, _, rfl, rfl, rfl⟩
  · cases h
theorem cmp_lt : OpR X (compareOp .Lt) (rCmp X.K fun a b _ => ltD a b) := by
  intro pins s σ H x y v u Q I rx ry h
  obtain ⟨w, dx, dy, b, rfl, ok, hx, hy, hf, q⟩ := h
  rcases ltD_cases hf with ⟨i, j, rfl, rfl, rfl⟩ | ⟨z, t, rfl, rfl, rfl⟩
  · exact op_lt pins s σ _ x y v u Q I rx ry ⟨i, j, hx, hy, q⟩
  · exact op_lt_str pins s σ _ x y v u Q I rx ry ⟨_, _, hx, hy, by rw [toS_list, toS_list]; exact q⟩
theorem cmp_gt : OpR X (compareOp .Gt) (rCmp X.K fun a b _ => ltD b a) := by
  intro pins s σ H x y v u Q I rx ry h
  obtain ⟨w, dx, dy, b, rfl, ok, hx, hy, hf, q⟩ := h
  rcases ltD_cases hf with ⟨i, j, rfl, rfl, rfl⟩ | ⟨z, t, rfl, rfl, rfl⟩
  · exact op_gt pins s σ _ x y v u Q I rx ry ⟨j, i, hx, hy, q⟩
  · exact op_gt_str pins s σ _ x y v u Q I rx ry ⟨_, _, hx, hy, by rw [toS_list, toS_list]; exact q⟩
theorem not_lt_dec (i j : Int) : (!decide (i < j)) = decide (j ≤ i) := by
  by_cases h : i < j
  · rw [decide_eq_true h, decide_eq_false (by omega)]; rfl
  · rw [decide_eq_false h, decide_eq_true (by omega)]; rfl
theorem cmp_ge : OpR X (compareOp .GtE) (rCmp X.K fun a b _ => (ltD a b).map (!·)) := by
  intro pins s σ H x y v u Q I rx ry h
  obtain ⟨w, dx, dy, b, rfl, ok, hx, hy, hf, q⟩ := h
  have hf : (ltD dx dy).map (!·) = some b := hf
  cases e : ltD dx dy with
  | none => rw [e] at hf; cases hf
  | some c =>
    rw [e] at hf
    cases hf
    rcases ltD_cases e with ⟨i, j, rfl, rfl, rfl⟩ | ⟨z, t, rfl, rfl, rfl⟩
    · refine op_ge pins s σ _ x y v u Q I rx ry ⟨i, j, hx, hy, ?_⟩
      show Q (.bl (decide (j ≤ i))) _
      rw [← not_lt_dec]
      exact q
    · exact op_ge_str pins s σ _ x y v u Q I rx ry ⟨_, _, hx, hy, by rw [toS_list, toS_list]; exact q⟩
theorem cmp_le : OpR X (compareOp .LtE) (rCmp X.K fun a b _ => (ltD b a).map (!·)) := by
  intro pins s σ H x y v u Q I rx ry h
  obtain ⟨w, dx, dy, b, rfl, ok, hx, hy, hf, q⟩ := h
  have hf : (ltD dy dx).map (!·) = some b := hf
  cases e : ltD dy dx with
  | none => rw [e] at hf; cases hf
  | some c =>
    rw [e] at hf
    cases hf
    rcases ltD_cases e with ⟨i, j, rfl, rfl, rfl⟩ | ⟨z, t, rfl, rfl, rfl⟩
    · refine op_le pins s σ _ x y v u Q I rx ry ⟨j, i, hx, hy, ?_⟩
      show Q (.bl (decide (j ≤ i))) _
      rw [← not_lt_dec]
      exact q
    · exact op_le_str pins s σ _ x y v u Q I rx ry ⟨_, _, hx, hy, by rw [toS_list, toS_list]; exact q⟩
theorem any_pyT (z : PyData) : ∀ xs : List D, ((pyTs xs).any fun y => PyData.eqv y z) = xs.any fun y => PyData.eqv (pyT y) z
  | [] => rfl
  | x :: xs => by
    show ((pyT x :: pyTs xs).any _) = _
    rw [List.any_cons, List.any_cons, any_pyT z xs]
theorem inD_cases {a b : D} {st : Store} {c : Bool} (h : inD a b st = some c) : (∃ k t, a = .str [k] ∧ b = .str t ∧ c = decide (k ∈ t)) ∨
    (∃ xs, rsv st b = .lst xs ∧ flat 60 (rsv st a) = true ∧ flat 60 (.lst xs) = true ∧ c = xs.any fun z => deq z (rsv st a)) := by
  unfold inD at h
  split at h
  · cases h; exact .inl ⟨_, _, rfl, rfl, rfl⟩
  · split at h
    · rename_i xs e
      split at h
      · rename_i hz
        rw [Bool.and_eq_true] at hz
        cases h
        exact .inr ⟨xs, e, hz.1, hz.2, rfl⟩
      · cases h
    · cases h
theorem cmp_in (hu : X.A.units + 65 < cLine) : OpR X (compareOp .In) (rCmp X.K inD) := by
  intro pins s σ H x y v u Q I rx ry h
  obtain ⟨w, dx, dy, b, rfl, ok, hx, hy, hf, q⟩ := h
  rcases inD_cases hf with ⟨k, t, rfl, rfl, rfl⟩ | ⟨xs, e, h1, h2, rfl⟩
  · exact op_in_sign pins s σ _ x y v u Q I rx ry ⟨k, _, hx, hy, by rw [toS_list]; exact q⟩
  · refine op_inD hu pins s σ _ x y v u Q I rx ry ⟨_, pyTs xs, dp_rsv ok 60 dx x h1 hx, ?_, flat_shaped h1 (by decide), flat_shaped (d := .lst xs) h2 (by decide), ?_⟩
    · have := dp_rsv ok 60 dy y (by rw [e]; exact h2) hy
      rw [e] at this
      exact this
    · rw [any_pyT]; exact q
theorem cmp_notin (hu : X.A.units + 65 < cLine) : OpR X (compareOp .NotIn) (rCmp X.K fun a b st => (inD a b st).map (!·)) := by
  intro pins s σ H x y v u Q I rx ry h
  obtain ⟨w, dx, dy, b, rfl, ok, hx, hy, hf, q⟩ := h
  have hf : (inD dx dy w.st).map (!·) = some b := hf
  cases e0 : inD dx dy w.st with
  | none => rw [e0] at hf; cases hf
  | some c =>
    rw [e0] at hf
    cases hf
    rcases inD_cases e0 with ⟨k, t, rfl, rfl, rfl⟩ | ⟨xs, e, h1, h2, rfl⟩
    · exact op_notIn_sign pins s σ _ x y v u Q I rx ry ⟨k, _, hx, hy, by rw [toS_list]; exact q⟩
    · refine op_notInD hu pins s σ _ x y v u Q I rx ry ⟨_, pyTs xs, dp_rsv ok 60 dx x h1 hx, ?_, flat_shaped h1 (by decide), flat_shaped (d := .lst xs) h2 (by decide), ?_⟩
      · have := dp_rsv ok 60 dy y (by rw [e]; exact h2) hy
        rw [e] at this
        exact this
      · rw [any_pyT]; exact q
theorem is_cases {a b : D} {st : Store} {c : Bool} {f : Bool → Bool} (h : (match b with | .non => some (f (isNone a)) | _ => none) = some c) : b = .non ∧ c = f (isNone a) := by
  split at h
  · cases h; exact ⟨rfl, rfl⟩
  · cases h
theorem cmp_any (op : COp) (hu : X.A.units + 65 < cLine) : OpR X (compareOp op.ast) (rCmp X.K fun a b st => match a with | .vv _ => none | a => op.sem a b st) := by
  intro pins s σ H x y v u Q I rx ry h
  obtain ⟨w, dx, dy, b, rfl, ok, hx, hy, hf, q⟩ := h
  have hv : ∀ z, dx ≠ .vv z := fun z e => by
    subst e
    cases hf
  have hf : op.sem dx dy w.st = some b := by
    cases dx <;> first | exact hf | exact absurd rfl (hv _)
  cases op with
  | eq => exact cmp_eq hu pins s σ _ x y v u Q I rx ry ⟨w, dx, dy, b, rfl, ok, hx, hy, hf, q⟩
  | ne => exact cmp_ne hu pins s σ _ x y v u Q I rx ry ⟨w, dx, dy, b, rfl, ok, hx, hy, hf, q⟩
  | lt => exact cmp_lt pins s σ _ x y v u Q I rx ry ⟨w, dx, dy, b, rfl, ok, hx, hy, hf, q⟩
  | le => exact cmp_le pins s σ _ x y v u Q I rx ry ⟨w, dx, dy, b, rfl, ok, hx, hy, hf, q⟩
  | gt => exact cmp_gt pins s σ _ x y v u Q I rx ry ⟨w, dx, dy, b, rfl, ok, hx, hy, hf, q⟩
  | ge => exact cmp_ge pins s σ _ x y v u Q I rx ry ⟨w, dx, dy, b, rfl, ok, hx, hy, hf, q⟩
  | isin => exact cmp_in hu pins s σ _ x y v u Q I rx ry ⟨w, dx, dy, b, rfl, ok, hx, hy, hf, q⟩
  | notin => exact cmp_notin hu pins s σ _ x y v u Q I rx ry ⟨w, dx, dy, b, rfl, ok, hx, hy, hf, q⟩
  | isn =>
    obtain ⟨e1, e2⟩ : dy = .non ∧ b = isNone dx := by
      unfold COp.sem at hf
      cases dy <;> first | (cases hf; exact ⟨rfl, rfl⟩) | cases hf
    subst e1
    rw [e2, isNone_rep (b := true) hv hx] at q
    exact op_isN pins s σ _ x y v u Q I rx ry ⟨hy, q⟩
  | ison =>
    obtain ⟨e1, e2⟩ : dy = .non ∧ b = !isNone dx := by
      unfold COp.sem at hf
      cases dy <;> first | (cases hf; exact ⟨rfl, rfl⟩) | cases hf
    subst e1
    rw [e2, isNone_rep (b := true) hv hx] at q
    exact op_notN pins s σ _ x y v u Q I rx ry ⟨hy, q⟩
def cmpS (op : COp) (a b : D) (st : Store) : Option Bool := match a with
  | .vv _ => none
  | a => op.sem a b st
def tCmpS (op : COp) (f g : Env → M D) : Env → M Bool := fun ρ => bnd (f ρ) fun a => bnd (g ρ) fun b => fun st => ofO (cmpS op a b st) st
variable {W : WX}
theorem seq_cmp {op : COp} {f g : Env → M D} {σ : L2.St} {H : Hp} {Q : VK} (h : tX (cx X W) (Rep X.K) T0 (sOfB (tCmpS op f g)) σ H Q) :
    tX (cx X W) (Rep X.K) T0 f σ H fun x H1 => tX (cx X W) (Rep X.K) T0 g σ H1 fun y H2 => rCmp X.K (cmpS op) x y H2 Q := by
  have h' : tX (cx X W) (Rep X.K) T0 (fun ρ => bnd (f ρ) fun a => bnd (g ρ) fun b => bnd (fun st => ofO (cmpS op a b st) st) fun c => ret (D.bl c)) σ H Q := by
    obtain ⟨w, ρ, e, ok, re, p, q⟩ := h
    refine ⟨w, ρ, e, ok, re, p, ?_⟩
    unfold sOfB tCmpS bnd at q
    show Post (cx X W) (Rep X.K) w ((f ρ w.st).bnd fun a => bnd (g ρ) fun b => bnd (fun st => ofO (cmpS op a b st) st) fun c => ret (D.bl c)) Q _
    cases hf : f ρ w.st with
    | bad => rw [hf] at q; exact q
    | exc _ _ => rw [hf] at q; exact q
    | ok a st =>
      rw [hf] at q
      show Post (cx X W) (Rep X.K) w ((g ρ st).bnd fun b => bnd (fun st => ofO (cmpS op a b st) st) fun c => ret (D.bl c)) Q _
      have q : Post (cx X W) (Rep X.K) w (((g ρ st).bnd fun b st => ofO (cmpS op a b st) st).bnd fun a => ret (D.bl a)) Q _ := q
      cases hg : g ρ st with
      | bad => rw [hg] at q; exact q
      | exc _ _ => rw [hg] at q; exact q
      | ok b st2 => rw [hg] at q; exact q
  refine (tX.seq0 (R1 := Rep X.K) h').imp fun x H1 ⟨da, h1⟩ => ?_
  refine ((tX.seq (R1 := Rep X.K) (mono_and mono0 monoRep) h1).weak).imp fun y H2 ⟨db, h2⟩ => ?_
  obtain ⟨w, ρ, rfl, ok, re, ⟨⟨_, r1⟩, r2⟩, q⟩ := h2
  have q : Post (cx X W) (Rep X.K) w ((ofO (cmpS op da db w.st) w.st : Res Bool).bnd fun c => ret (D.bl c)) Q _ := q
  cases e : cmpS op da db w.st with
  | none => rw [e] at q; exact q.elim
  | some b =>
    rw [e] at q
    exact ⟨w, da, db, b, rfl, ok, r1, r2, e, q w (Grow.refl w) ok rfl _ rfl⟩
theorem de_cmp (op : COp) {a b : Expr} {f g : Env → M D} {o : CmpOp} {pos : Pos} (hu : X.A.units + 65 < cLine) (ha : DE X W a f) (hb : DE X W b g) (ho : op.ast = o := by rfl) (hm : behindInMarks o b = false := by first | rfl | exact nomark _) :
    DE X W (.Compare a [o] [b] pos) (sOfB (tCmpS op f g)) := by
  subst ho
  exact (pe_cmpR (cmp_any op hu) ha hb hm).imp fun σ H Q h => seq_cmp h
theorem dt_cmp (op : COp) {a b : Expr} {f g : Env → M D} {o : CmpOp} {pos : Pos} (hu : X.A.units + 65 < cLine) (ha : DE X W a f) (hb : DE X W b g) (ho : op.ast = o := by rfl) (hm : behindInMarks o b = false := by first | rfl | exact nomark _) :
    DT X W (.Compare a [o] [b] pos) (tCmpS op f g) := by
  subst ho
  refine (pt_cmpR (cmp_any op hu) ha hb hm).imp fun σ H Q h => ?_
  have h2 : tX (cx X W) (Rep X.K) T0 (sOfB (tCmpS op f g)) σ H fun x H1 => ∃ k, x = V.bl k ∧ Q k H1 := by
    obtain ⟨w, ρ, e, ok, re, p, q⟩ := h
    refine ⟨w, ρ, e, ok, re, p, ?_⟩
    unfold sOfB bnd
    cases hr : tCmpS op f g ρ w.st with
    | bad => rw [hr] at q; exact q
    | exc _ _ => rw [hr] at q; exact q
    | ok c st =>
      rw [hr] at q
      exact fun w' g' ok' es x hx => ⟨c, hx, q w' g' ok' es c rfl⟩
  exact seq_cmp h2
end
end PL
/-! PL6: built-in functions and methods on data. -/
namespace PL
open PySem PySem.Spec PyProof.Rows L2

/-! ### items of one kind -/
def asInts : List D → Option (List Int)
  | [] => some []
  | .int i :: r => (asInts r).map (i :: ·)
  | _ => none
def asStrs : List D → Option (List (List Nat))
  | [] => some []
  | .str i :: r => (asStrs r).map (i :: ·)
  | _ => none
def asBls : List D → Option (List Bool)
  | [] => some []
  | .bl i :: r => (asBls r).map (i :: ·)
  | _ => none
theorem asInts_eq : ∀ {xs : List D} {ns : List Int}, asInts xs = some ns → xs = ns.map D.int
  | [], ns, h => by cases h; rfl
  | .int i :: r, ns, h => by
    have h : (asInts r).map (i :: ·) = some ns := h
    cases e : asInts r with
    | none => rw [e] at h; cases h
    | some ms => rw [e] at h; cases h; rw [asInts_eq e]; rfl
  | .non :: _, _, h => by cases h
  | .bl _ :: _, _, h => by cases h
  | .str _ :: _, _, h => by cases h
  | .tup _ :: _, _, h => by cases h
  | .lst _ :: _, _, h => by cases h
  | .scr _ :: _, _, h => by cases h
  | .ref _ :: _, _, h => by cases h
  | .vv _ :: _, _, h => by cases h
theorem asStrs_eq : ∀ {xs : List D} {ns : List (List Nat)}, asStrs xs = some ns → xs = ns.map D.str
  | [], ns, h => by cases h; rfl
  | .str i :: r, ns, h => by
    have h : (asStrs r).map (i :: ·) = some ns := h
    cases e : asStrs r with
    | none => rw [e] at h; cases h
    | some ms => rw [e] at h; cases h; rw [asStrs_eq e]; rfl
  | .non :: _, _, h => by cases h
  | .bl _ :: _, _, h => by cases h
  | .int _ :: _, _, h => by cases h
  | .tup _ :: _, _, h => by cases h
  | .lst _ :: _, _, h => by cases h
  | .scr _ :: _, _, h => by cases h
  | .ref _ :: _, _, h => by cases h
  | .vv _ :: _, _, h => by cases h
theorem asBls_eq : ∀ {xs : List D} {ns : List Bool}, asBls xs = some ns → xs = ns.map D.bl
  | [], ns, h => by cases h; rfl
  | .bl i :: r, ns, h => by
    have h : (asBls r).map (i :: ·) = some ns := h
    cases e : asBls r with
    | none => rw [e] at h; cases h
    | some ms => rw [e] at h; cases h; rw [asBls_eq e]; rfl
  | .non :: _, _, h => by cases h
  | .str _ :: _, _, h => by cases h
  | .int _ :: _, _, h => by cases h
  | .tup _ :: _, _, h => by cases h
  | .lst _ :: _, _, h => by cases h
  | .scr _ :: _, _, h => by cases h
  | .ref _ :: _, _, h => by cases h
  | .vv _ :: _, _, h => by cases h
theorem asInts_map : ∀ ns : List Int, asInts (ns.map D.int) = some ns
  | [] => rfl
  | n :: ns => by show (asInts (ns.map D.int)).map (n :: ·) = _; rw [asInts_map ns]; rfl
theorem asStrs_map : ∀ ns : List (List Nat), asStrs (ns.map D.str) = some ns
  | [] => rfl
  | n :: ns => by show (asStrs (ns.map D.str)).map (n :: ·) = _; rw [asStrs_map ns]; rfl
theorem asBls_map : ∀ ns : List Bool, asBls (ns.map D.bl) = some ns
  | [] => rfl
  | n :: ns => by show (asBls (ns.map D.bl)).map (n :: ·) = _; rw [asBls_map ns]; rfl

section
variable {K : PySem.W.Frag} {w : Wd}
theorem reps1 {d : D} {vs : List V} (h : Reps K w [d] vs) : ∃ v, vs = [v] ∧ Rep K w d v := by
  obtain ⟨v, r, e, h1, h2⟩ := h
  have h2 : r = [] := h2
  subst h2
  exact ⟨v, e, h1⟩
theorem reps2 {d e : D} {vs : List V} (h : Reps K w [d, e] vs) : ∃ v u, vs = [v, u] ∧ Rep K w d v ∧ Rep K w e u := by
  obtain ⟨v, r, e1, h1, h2⟩ := h
  obtain ⟨u, rfl, h3⟩ := reps1 h2
  exact ⟨v, u, e1, h1, h3⟩
theorem reps3 {d e g : D} {vs : List V} (h : Reps K w [d, e, g] vs) : ∃ v u z, vs = [v, u, z] ∧ Rep K w d v ∧ Rep K w e u ∧ Rep K w g z := by
  obtain ⟨v, r, e1, h1, h2⟩ := h
  obtain ⟨u, z, rfl, h3, h4⟩ := reps2 h2
  exact ⟨v, u, z, e1, h1, h3, h4⟩
/-- a list or a tuple, as the library's rules want it -/
def viewS (st : Store) : D → Option (List D)
  | .tup xs => some xs
  | d => viewL st d
theorem viewS_rep {d : D} {v : V} {xs : List D} (ok : WOk K w) (h : viewS w.st d = some xs) (r : Rep K w d v) : ∃ a vs, v = .ref a ∧ (SqL K w.H a vs ∨ SqT K w.H a vs) ∧ Reps K w xs vs := by
  have lists : viewL w.st d = some xs → ∃ a vs, v = .ref a ∧ (SqL K w.H a vs ∨ SqT K w.H a vs) ∧ Reps K w xs vs := fun h => by
    obtain ⟨a, vs, e, h1, h2⟩ := view_rep ok h r
    exact ⟨a, vs, e, .inl (SqL.of h1), h2⟩
  cases d with
  | tup ys =>
    cases h
    obtain ⟨a, vs, e, h1, h2⟩ := r
    exact ⟨a, vs, e, .inr h1, h2⟩
  | lst ys => exact lists h
  | ref n => exact lists h
  | non => cases h
  | bl b => cases h
  | int i => cases h
  | str s => cases h
  | scr ns => cases h
  | vv u => cases h
end

/-! ### len, abs, max, min, sum, all, any -/
def lenD : List D → Store → Option D
  | [.str s], _ => if s.length ≤ sizeLine then some (.int s.length) else none
  | [.scr ns], _ => some (.int ns.length)
  | [d], st => (viewS st d).map fun xs => .int xs.length
  | _, _ => none
def absD : List D → Store → Option D
  | [.int i], _ => some (.int (if i < 0 then -i else i))
  | _, _ => none
def maxL : List Int → Option Int
  | [] => none
  | x :: r => some (r.foldl (fun a b => if a < b then b else a) x)
def minL : List Int → Option Int
  | [] => none
  | x :: r => some (r.foldl (fun a b => if b < a then b else a) x)
def maxD : List D → Store → Option D
  | [.int i, .int j], _ => some (.int (if j > i then j else i))
  | [d], st => (viewL st d).bind fun xs => (asInts xs).bind fun ns => (maxL ns).map D.int
  | _, _ => none
def minD : List D → Store → Option D
  | [.int i, .int j], _ => some (.int (if j < i then j else i))
  | [d], st => (viewL st d).bind fun xs => (asInts xs).bind fun ns => (minL ns).map D.int
  | _, _ => none
def sumD : List D → Store → Option D
  | [d], st => (viewL st d).bind fun xs => (asInts xs).map fun ns => .int ns.sum
  | _, _ => none
def allD : List D → Store → Option D
  | [d], st => (viewL st d).bind fun xs => (asBls xs).map fun ns => .bl (ns.all id)
  | _, _ => none
def anyD : List D → Store → Option D
  | [d], st => (viewL st d).bind fun xs => (asBls xs).map fun ns => .bl (ns.any id)
  | _, _ => none
theorem max_fold : ∀ (r : List Int) (x : Int), (r.foldl (fun a b => if a < b then b else a) x) ∈ x :: r ∧ ∀ y ∈ x :: r, y ≤ r.foldl (fun a b => if a < b then b else a) x
  | [], x => ⟨List.mem_cons_self, fun y hy => by
    rcases List.mem_cons.mp hy with h | h
    · rw [h]; exact Int.le_refl _
    · cases h⟩
  | b :: r, x => by
    rw [List.foldl_cons]
    obtain ⟨h1, h2⟩ := max_fold r (if x < b then b else x)
    have hx : x ≤ (if x < b then b else x) := by split <;> omega
    have hb : b ≤ (if x < b then b else x) := by split <;> omega
    refine ⟨?_, fun y hy => ?_⟩
    · rcases List.mem_cons.mp h1 with h | h
      · rw [h]
        split
        · exact List.mem_cons_of_mem _ List.mem_cons_self
        · exact List.mem_cons_self
      · exact List.mem_cons_of_mem _ (List.mem_cons_of_mem _ h)
    · have h3 := h2 _ List.mem_cons_self
      rcases List.mem_cons.mp hy with h | h
      · rw [h]; exact Int.le_trans hx h3
      · rcases List.mem_cons.mp h with h | h
        · rw [h]; exact Int.le_trans hb h3
        · exact h2 y (List.mem_cons_of_mem _ h)
theorem min_fold : ∀ (r : List Int) (x : Int), (r.foldl (fun a b => if b < a then b else a) x) ∈ x :: r ∧ ∀ y ∈ x :: r, r.foldl (fun a b => if b < a then b else a) x ≤ y
  | [], x => ⟨List.mem_cons_self, fun y hy => by
    rcases List.mem_cons.mp hy with h | h
    · rw [h]; exact Int.le_refl _
    · cases h⟩
  | b :: r, x => by
    rw [List.foldl_cons]
    obtain ⟨h1, h2⟩ := min_fold r (if b < x then b else x)
    have hx : (if b < x then b else x) ≤ x := by split <;> omega
    have hb : (if b < x then b else x) ≤ b := by split <;> omega
    refine ⟨?_, fun y hy => ?_⟩
    · rcases List.mem_cons.mp h1 with h | h
      · rw [h]
        split
        · exact List.mem_cons_of_mem _ List.mem_cons_self
        · exact List.mem_cons_self
      · exact List.mem_cons_of_mem _ (List.mem_cons_of_mem _ h)
    · have h3 := h2 _ List.mem_cons_self
      rcases List.mem_cons.mp hy with h | h
      · rw [h]; exact Int.le_trans h3 hx
      · rcases List.mem_cons.mp h with h | h
        · rw [h]; exact Int.le_trans h3 hb
        · exact h2 y (List.mem_cons_of_mem _ h)
section
variable {X : Cx}
theorem cr_len : CallR X (.builtin "len") (rC X.K lenD) := by
  intro pins s σ H xs us Q I r h
  obtain ⟨w, ds, d, rfl, ok, rd, hf, q⟩ := h
  unfold lenD at hf
  split at hf
  · split at hf
    · rename_i z hz
      cases hf
      obtain ⟨v, rfl, h1⟩ := reps1 rd
      have h1 : v = V.str (toS z) := h1
      subst h1
      exact call_len_str pins s σ _ _ us Q I r ⟨toS z, rfl, hz, q.now ok rfl⟩
    · cases hf
  · cases hf
    obtain ⟨v, rfl, a, rfl, h1⟩ := reps1 rd
    exact call_len_seq pins s σ _ _ us Q I r ⟨a, _, rfl, .inl h1.sql, by rw [List.length_map]; exact q.now ok rfl⟩
  · rename_i e _ _
    cases hv : viewS w.st e with
    | none => rw [hv] at hf; cases hf
    | some ys =>
      rw [hv] at hf
      cases hf
      obtain ⟨v, rfl, h1⟩ := reps1 rd
      obtain ⟨a, vs, rfl, h2, h3⟩ := viewS_rep ok hv h1
      exact call_len_seq pins s σ _ _ us Q I r ⟨a, vs, rfl, h2, by rw [← h3.length]; exact q.now ok rfl⟩
  · cases hf
theorem cr_abs : CallR X (.builtin "abs") (rC X.K absD) := by
  intro pins s σ H xs us Q I r h
  obtain ⟨w, ds, d, rfl, ok, rd, hf, q⟩ := h
  unfold absD at hf
  split at hf
  · cases hf
    obtain ⟨v, rfl, h1⟩ := reps1 rd
    have h1 : v = V.int _ := h1
    subst h1
    exact call_abs pins s σ _ _ us Q I r ⟨_, rfl, q.now ok rfl⟩
  · cases hf
theorem cr_maxD (hc : X.calm = true) : CallR X (.builtin "max") (rC X.K maxD) := by
  intro pins s σ H xs us Q I r h
  obtain ⟨w, ds, d, rfl, ok, rd, hf, q⟩ := h
  unfold maxD at hf
  split at hf
  · cases hf
    obtain ⟨v, u, rfl, h1, h2⟩ := reps2 rd
    have h1 : v = V.int _ := h1
    have h2 : u = V.int _ := h2
    subst h1 h2
    exact call_max2 hc pins s σ _ _ us Q I r ⟨_, _, rfl, q.now ok rfl⟩
  · rename_i e
    cases hv : viewL w.st e with
    | none => rw [hv] at hf; cases hf
    | some ys =>
      rw [hv] at hf
      have hf : (asInts ys).bind (fun ns => (maxL ns).map D.int) = some d := hf
      cases hi : asInts ys with
      | none => rw [hi] at hf; cases hf
      | some ns =>
        rw [hi] at hf
        have hf : (maxL ns).map D.int = some d := hf
        obtain ⟨v, rfl, h1⟩ := reps1 rd
        obtain ⟨a, vs, rfl, h2, h3⟩ := view_rep ok hv h1
        rw [asInts_eq hi] at h3
        have h3 := h3.ints
        subst h3
        cases ns with
        | nil => cases hf
        | cons n ns =>
          cases hf
          refine cr_max hc pins s σ _ _ us Q I r ⟨a, n :: ns, rfl, SqL.of h2, Nat.succ_pos _, fun m hm hmax => ?_⟩
          obtain ⟨k1, k2⟩ := max_fold ns n
          have e : m = ns.foldl (fun a b => if a < b then b else a) n := Int.le_antisymm (k2 m hm) (hmax _ k1)
          rw [e]
          exact q.now ok rfl
  · cases hf
theorem cr_minD (hc : X.calm = true) : CallR X (.builtin "min") (rC X.K minD) := by
  intro pins s σ H xs us Q I r h
  obtain ⟨w, ds, d, rfl, ok, rd, hf, q⟩ := h
  unfold minD at hf
  split at hf
  · cases hf
    obtain ⟨v, u, rfl, h1, h2⟩ := reps2 rd
    have h1 : v = V.int _ := h1
    have h2 : u = V.int _ := h2
    subst h1 h2
    exact call_min2 hc pins s σ _ _ us Q I r ⟨_, _, rfl, q.now ok rfl⟩
  · rename_i e
    cases hv : viewL w.st e with
    | none => rw [hv] at hf; cases hf
    | some ys =>
      rw [hv] at hf
      have hf : (asInts ys).bind (fun ns => (minL ns).map D.int) = some d := hf
      cases hi : asInts ys with
      | none => rw [hi] at hf; cases hf
      | some ns =>
        rw [hi] at hf
        have hf : (minL ns).map D.int = some d := hf
        obtain ⟨v, rfl, h1⟩ := reps1 rd
        obtain ⟨a, vs, rfl, h2, h3⟩ := view_rep ok hv h1
        rw [asInts_eq hi] at h3
        have h3 := h3.ints
        subst h3
        cases ns with
        | nil => cases hf
        | cons n ns =>
          cases hf
          refine cr_min hc pins s σ _ _ us Q I r ⟨a, n :: ns, rfl, SqL.of h2, Nat.succ_pos _, fun m hm hmin => ?_⟩
          obtain ⟨k1, k2⟩ := min_fold ns n
          have e : m = ns.foldl (fun a b => if b < a then b else a) n := Int.le_antisymm (hmin _ k1) (k2 m hm)
          rw [e]
          exact q.now ok rfl
  · cases hf
theorem cr_sumD (hc : X.calm = true) : CallR X (.builtin "sum") (rC X.K sumD) := by
  intro pins s σ H xs us Q I r h
  obtain ⟨w, ds, d, rfl, ok, rd, hf, q⟩ := h
  unfold sumD at hf
  split at hf
  · rename_i e
    cases hv : viewL w.st e with
    | none => rw [hv] at hf; cases hf
    | some ys =>
      rw [hv] at hf
      have hf : (asInts ys).map (fun ns => D.int ns.sum) = some d := hf
      cases hi : asInts ys with
      | none => rw [hi] at hf; cases hf
      | some ns =>
        rw [hi] at hf
        cases hf
        obtain ⟨v, rfl, h1⟩ := reps1 rd
        obtain ⟨a, vs, rfl, h2, h3⟩ := view_rep ok hv h1
        rw [asInts_eq hi] at h3
        have h3 := h3.ints
        subst h3
        exact cr_sum hc pins s σ _ _ us Q I r ⟨a, ns, rfl, SqL.of h2, q.now ok rfl⟩
  · cases hf
theorem cr_allD (hc : X.calm = true) : CallR X (.builtin "all") (rC X.K allD) := by
  intro pins s σ H xs us Q I r h
  obtain ⟨w, ds, d, rfl, ok, rd, hf, q⟩ := h
  unfold allD at hf
  split at hf
  · rename_i e
    cases hv : viewL w.st e with
    | none => rw [hv] at hf; cases hf
    | some ys =>
      rw [hv] at hf
      have hf : (asBls ys).map (fun ns => D.bl (ns.all id)) = some d := hf
      cases hi : asBls ys with
      | none => rw [hi] at hf; cases hf
      | some ns =>
        rw [hi] at hf
        cases hf
        obtain ⟨v, rfl, h1⟩ := reps1 rd
        obtain ⟨a, vs, rfl, h2, h3⟩ := view_rep ok hv h1
        rw [asBls_eq hi] at h3
        have h3 := h3.bls
        subst h3
        exact cr_all hc pins s σ _ _ us Q I r ⟨a, ns, rfl, SqL.of h2, q.now ok rfl⟩
  · cases hf
theorem cr_anyD (hc : X.calm = true) : CallR X (.builtin "any") (rC X.K anyD) := by
  intro pins s σ H xs us Q I r h
  obtain ⟨w, ds, d, rfl, ok, rd, hf, q⟩ := h
  unfold anyD at hf
  split at hf
  · rename_i e
    cases hv : viewL w.st e with
    | none => rw [hv] at hf; cases hf
    | some ys =>
      rw [hv] at hf
      have hf : (asBls ys).map (fun ns => D.bl (ns.any id)) = some d := hf
      cases hi : asBls ys with
      | none => rw [hi] at hf; cases hf
      | some ns =>
        rw [hi] at hf
        cases hf
        obtain ⟨v, rfl, h1⟩ := reps1 rd
        obtain ⟨a, vs, rfl, h2, h3⟩ := view_rep ok hv h1
        rw [asBls_eq hi] at h3
        have h3 := h3.bls
        subst h3
        exact cr_any hc pins s σ _ _ us Q I r ⟨a, ns, rfl, SqL.of h2, q.now ok rfl⟩
  · cases hf
end

/-! ### list, tuple, int, str of -/
def listD : List D → Store → Option D
  | [d], st => (viewS st d).map fun xs => .lst xs
  | _, _ => none
def tupleD : List D → Store → Option D
  | [d], st => (viewS st d).map fun xs => .tup xs
  | _, _ => none
def intD : List D → Store → Option D
  | [.int i], _ => some (.int i)
  | [.bl b], _ => some (.int (if b then 1 else 0))
  | _, _ => none
/-- the text of an int -/
def numT (i : Int) : List Nat := (Str.ofString (toString i)).cps.toList
def strD : List D → Store → Option D
  | [.int i], _ => if i.natAbs.log2 < 1920 then some (.str (numT i)) else none
  | _, _ => none
section
variable {X : Cx}
theorem cr_listD : CallR X (.type "list") (rC X.K listD) := by
  intro pins s σ H xs us Q I r h
  obtain ⟨w, ds, d, rfl, ok, rd, hf, q⟩ := h
  unfold listD at hf
  split at hf
  · rename_i e
    cases hv : viewS w.st e with
    | none => rw [hv] at hf; cases hf
    | some ys =>
      rw [hv] at hf
      cases hf
      obtain ⟨v, rfl, h1⟩ := reps1 rd
      obtain ⟨a, vs, rfl, h2, h3⟩ := viewS_rep ok hv h1
      exact call_list_of pins s σ _ _ us Q I r ⟨a, vs, rfl, h2, q.lst ok h3⟩
  · cases hf
theorem cr_tupleD : CallR X (.type "tuple") (rC X.K tupleD) := by
  intro pins s σ H xs us Q I r h
  obtain ⟨w, ds, d, rfl, ok, rd, hf, q⟩ := h
  unfold tupleD at hf
  split at hf
  · rename_i e
    cases hv : viewS w.st e with
    | none => rw [hv] at hf; cases hf
    | some ys =>
      rw [hv] at hf
      cases hf
      obtain ⟨v, rfl, h1⟩ := reps1 rd
      obtain ⟨a, vs, rfl, h2, h3⟩ := viewS_rep ok hv h1
      refine call_tuple_of pins s σ _ _ us Q I r ⟨a, vs, rfl, ?_⟩
      rcases h2 with h2 | h2
      · exact .inl ⟨h2, q.tup ok h3⟩
      · exact .inr ⟨h2, q.now ok ⟨a, vs, rfl, h2, h3⟩⟩
  · cases hf
theorem cr_intD : CallR X (.type "int") (rC X.K intD) := by
  intro pins s σ H xs us Q I r h
  obtain ⟨w, ds, d, rfl, ok, rd, hf, q⟩ := h
  unfold intD at hf
  split at hf
  · cases hf
    obtain ⟨v, rfl, h1⟩ := reps1 rd
    have h1 : v = V.int _ := h1
    subst h1
    exact call_int1 pins s σ _ _ us Q I r (.inl ⟨_, rfl, q.now ok rfl⟩)
  · cases hf
    obtain ⟨v, rfl, h1⟩ := reps1 rd
    have h1 : v = V.bl _ := h1
    subst h1
    exact call_int1 pins s σ _ _ us Q I r (.inr ⟨_, rfl, q.now ok rfl⟩)
  · cases hf
theorem toS_of (x : Str) : toS x.cps.toList = x := rfl
theorem cr_strD : CallR X (.type "str") (rC X.K strD) := by
  intro pins s σ H xs us Q I r h
  obtain ⟨w, ds, d, rfl, ok, rd, hf, q⟩ := h
  unfold strD at hf
  split at hf
  · split at hf
    · rename_i hz
      cases hf
      obtain ⟨v, rfl, h1⟩ := reps1 rd
      have h1 : v = V.int _ := h1
      subst h1
      exact call_str_int pins s σ _ _ us Q I r ⟨_, rfl, hz, q.now ok (show V.str _ = V.str (toS (numT _)) from rfl)⟩
    · cases hf
  · cases hf
end

/-! ### isinstance -/
def tyD (st : Store) : D → Option String
  | .non => some "NoneType"
  | .bl _ => some "bool"
  | .int _ => some "int"
  | .str _ => some "str"
  | .tup _ => some "tuple"
  | .scr _ => some "list"
  | d => (viewL st d).map fun _ => "list"
def isTy (a b : String) : Option Bool :=
  if b = "int" ∨ b = "bool" ∨ b = "str" ∨ b = "tuple" ∨ b = "list" then some (a == b || (a == "bool" && b == "int")) else none
def isiD : List D → Store → Option D
  | [d, .vv (.ty b)], st => (tyD st d).bind fun a => (isTy a b).map D.bl
  | _, _ => none
theorem ty_rep {K : PySem.W.Frag} {w : Wd} {d : D} {v : V} {a : String} (ok : WOk K w) (h : tyD w.st d = some a) (r : Rep K w d v) : TyX K w.H v (.type a) ∧ (a = "NoneType" ∨ a = "bool" ∨ a = "int" ∨ a = "str" ∨ a = "tuple" ∨ a = "list") := by
  have lists : (viewL w.st d).map (fun _ => "list") = some a → TyX K w.H v (.type a) ∧ (a = "NoneType" ∨ a = "bool" ∨ a = "int" ∨ a = "str" ∨ a = "tuple" ∨ a = "list") := fun h => by
    cases e : viewL w.st d with
    | none => rw [e] at h; cases h
    | some xs =>
      rw [e] at h
      cases h
      obtain ⟨p, vs, rfl, h1, _⟩ := view_rep ok e r
      exact ⟨.base (.lst h1), by simp⟩
  cases d with
  | non => cases h; rw [show v = V.non from r]; exact ⟨.base .non, by simp⟩
  | bl b => cases h; rw [show v = V.bl b from r]; exact ⟨.base (.bl b), by simp⟩
  | int i => cases h; rw [show v = V.int i from r]; exact ⟨.base (.int i), by simp⟩
  | str s => cases h; rw [show v = V.str (toS s) from r]; exact ⟨.base (.str _), by simp⟩
  | tup xs =>
    cases h
    obtain ⟨p, vs, rfl, h1, _⟩ := r
    refine ⟨?_, by simp⟩
    rcases h1 with (h1 | ⟨o, h1⟩) | ⟨o, its, n, h1, h2, _⟩
    · exact .base (.tup h1)
    · exact .fTuple h1
    · exact .kTuple h1 h2
  | lst xs => exact lists h
  | ref n => exact lists h
  | scr ns =>
    cases h
    obtain ⟨p, rfl, h1⟩ := r
    refine ⟨?_, by simp⟩
    rcases h1 with ⟨o, h1⟩ | ⟨o, its, n, h1, h2, _⟩
    · exact .base (.frz h1)
    · exact .kList h1 h2
  | vv u => cases h
theorem kit_all {a b : String} {r : Bool} (ha : a = "NoneType" ∨ a = "bool" ∨ a = "int" ∨ a = "str" ∨ a = "tuple" ∨ a = "list") (h : isTy a b = some r) : kitB a b = some r := by
  unfold isTy at h
  split at h
  · rename_i hb
    cases h
    rcases ha with rfl | rfl | rfl | rfl | rfl | rfl <;> rcases hb with rfl | rfl | rfl | rfl | rfl <;> decide +kernel
  · cases h
section
variable {X : Cx}
theorem cr_isiD : CallR X (.builtin "isinstance") (rC X.K isiD) := by
  intro pins s σ H xs us Q I r h
  obtain ⟨w, ds, d, rfl, ok, rd, hf, q⟩ := h
  unfold isiD at hf
  split at hf
  · rename_i e b
    cases ht : tyD w.st e with
    | none => rw [ht] at hf; cases hf
    | some a =>
      rw [ht] at hf
      have hf : (isTy a b).map D.bl = some d := hf
      cases hi : isTy a b with
      | none => rw [hi] at hf; cases hf
      | some c =>
        rw [hi] at hf
        cases hf
        obtain ⟨v, u, rfl, h1, h2⟩ := reps2 rd
        have h2 : u = V.ty b := h2
        subst h2
        obtain ⟨k1, k2⟩ := ty_rep ok ht h1
        exact call_isi pins s σ _ _ us Q I r ⟨v, _, _, _, c, rfl, .ty b, k1, kit_ty (kit_all k2 hi), q.now ok rfl⟩
  · cases hf
end

/-! ### repr -/
mutual
/-- a bound for the text of repr -/
def rsz : D → Nat
  | .non => 4
  | .bl _ => 5
  | .int _ => 1902
  | .str s => 10 * s.length + 2
  | .tup xs => rszs xs + 3
  | .lst xs => rszs xs + 3
  | _ => 0
def rszs : List D → Nat
  | [] => 0
  | x :: xs => rsz x + 2 + rszs xs
end
mutual
def intsOk : D → Bool
  | .int i => decide (i.natAbs.log2 < 1900)
  | .tup xs => intsOks xs
  | .lst xs => intsOks xs
  | _ => true
def intsOks : List D → Bool
  | [] => true
  | x :: xs => intsOk x && intsOks xs
end
mutual
theorem show_ok : ∀ (k : Nat) (d : D), flat k d = true → intsOk d = true → (pyT d).showable = true ∧ (pyT d).shown.length ≤ rsz d
  | _, .non, _, _ => ⟨rfl, by show (PyData.shown .none).length ≤ 4; unfold PyData.shown; decide +kernel⟩
  | _, .bl b, _, _ => ⟨rfl, by show (PyData.shown (.bool b)).length ≤ 5; unfold PyData.shown; cases b <;> decide +kernel⟩
  | _, .int i, _, h => by
    have h : decide (i.natAbs.log2 < 1900) = true := h
    have h := of_decide_eq_true h
    refine ⟨?_, ?_⟩
    · show PyData.showable (.int i) = true
      unfold PyData.showable
      exact decide_eq_true (by omega)
    · show (PyData.shown (.int i)).length ≤ 1902
      unfold PyData.shown
      have h2 := int_text_length_le (a := i) (k := 1900) (by decide) h
      have e : (Str.ofString (toString i)).length = (toString i).length := by
        unfold Str.length
        rw [← Array.length_toList]
        have := signs_ofString (toString i)
        rw [show (Str.ofString (toString i)).cps.toList = _ from this, List.length_map]
        exact String.length_toList
      show (Str.ofString (toString i)).length ≤ 1902
      rw [e]
      omega
  | k, .str s, hf, _ => by
    refine ⟨rfl, ?_⟩
    have hf : (s.all fun c => decide (c < 1114112)) = true := by cases k <;> exact hf
    show (PyData.shown (.str (toS s))).length ≤ 10 * s.length + 2
    unfold PyData.shown
    refine StrLaws.reprText_len (toS s) fun c hc => ?_
    rw [toS_list] at hc
    have := of_decide_eq_true (List.all_eq_true.mp hf c hc)
    omega
  | k + 1, .tup xs, hf, hi => by
    obtain ⟨h1, h2⟩ := shows_ok k xs hf hi
    refine ⟨?_, ?_⟩
    · show (PyData.tuple (pyTs xs)).showable = true
      unfold PyData.showable; exact h1
    · show (PyData.shown (.tuple (pyTs xs))).length ≤ rszs xs + 3
      unfold PyData.shown
      exact Nat.le_trans (tupleText_len_le _) (by omega)
  | k + 1, .lst xs, hf, hi => by
    obtain ⟨h1, h2⟩ := shows_ok k xs hf hi
    refine ⟨?_, ?_⟩
    · show (PyData.list (pyTs xs)).showable = true
      unfold PyData.showable; exact h1
    · show (PyData.shown (.list (pyTs xs))).length ≤ rszs xs + 3
      unfold PyData.shown
      exact Nat.le_trans (listText_len_le _) (by omega)
  | 0, .tup _, h, _ => by cases h
  | 0, .lst _, h, _ => by cases h
  | k, .scr _, h, _ => by cases k <;> cases h
  | k, .ref _, h, _ => by cases k <;> cases h
  | k, .vv _, h, _ => by cases k <;> cases h
theorem shows_ok : ∀ (k : Nat) (ds : List D), flats k ds = true → intsOks ds = true → PyData.showableAll (pyTs ds) = true ∧ ((PyData.shownAll (pyTs ds)).map (·.length)).sum + 2 * (PyData.shownAll (pyTs ds)).length ≤ rszs ds
  | _, [], _, _ => ⟨rfl, Nat.zero_le _⟩
  | k, x :: xs, hf, hi => by
    have hf : (flat k x && flats k xs) = true := hf
    have hi : (intsOk x && intsOks xs) = true := hi
    rw [Bool.and_eq_true] at hf hi
    obtain ⟨h1, h2⟩ := show_ok k x hf.1 hi.1
    obtain ⟨h3, h4⟩ := shows_ok k xs hf.2 hi.2
    refine ⟨?_, ?_⟩
    · show PyData.showableAll (pyT x :: pyTs xs) = true
      unfold PyData.showableAll
      rw [h1, h3]
      rfl
    · show ((PyData.shownAll (pyT x :: pyTs xs)).map (·.length)).sum + 2 * (PyData.shownAll (pyT x :: pyTs xs)).length ≤ rsz x + 2 + rszs xs
      unfold PyData.shownAll
      rw [List.map_cons, List.sum_cons, List.length_cons]
      omega
end
def reprOk (d : D) : Bool := flat 40 d && intsOk d && decide (rsz d ≤ 16000000)
def reprD : List D → Store → Option D
  | [d], st => if reprOk (rsv st d) then some (.str ((pyT (rsv st d)).shown).cps.toList) else none
  | _, _ => none
section
variable {X : Cx}
theorem cr_reprD (hr : ∃ k, Room k X.A) (hg : X.A.guards = some []) : CallR X (.builtin "repr") (rC X.K reprD) := by
  intro pins s σ H xs us Q I r h
  obtain ⟨w, ds, d, rfl, ok, rd, hf, q⟩ := h
  unfold reprD at hf
  split at hf
  · rename_i e
    split at hf
    · rename_i hz
      unfold reprOk at hz
      rw [Bool.and_eq_true, Bool.and_eq_true] at hz
      obtain ⟨⟨z1, z2⟩, z3⟩ := hz
      have z3 := of_decide_eq_true z3
      cases hf
      obtain ⟨v, rfl, h1⟩ := reps1 rd
      obtain ⟨u, rfl, rx⟩ := vals1 r
      obtain ⟨h3, h4⟩ := show_ok 40 _ z1 z2
      obtain ⟨h5, h6⟩ := pyT_lay 40 _ z1
      have dp := dp_rsv ok 40 e v z1 h1
      obtain ⟨as, rd2⟩ := Dp.reads I _ v u dp rx
      have q : At X.K w (D.str ((pyT (rsv w.st e)).shown).cps.toList) Q := q
      obtain ⟨k, hr⟩ := hr
      have hu := hr.units
      have sz : sizeLine = 16777216 := sizeLine_eq
      have fin : ∀ h' uu tk, (∀ b o, s.heap.get? b = some o → h'.get? b = some o) → EP X pins σ Q (.str (pyT (rsv w.st e)).shown uu) { s with heap := h', toks := tk } := fun h' uu tk hk =>
        ⟨.str (pyT (rsv w.st e)).shown, _, I.kept hk, ⟨uu, rfl⟩, q.now ok (show V.str _ = V.str (toS _) from rfl)⟩
      generalize pyT (rsv w.st e) = p at h3 h4 h5 h6 dp rd2 fin
      cases dp with
      | non =>
        have rx : u = Value.none := rx
        subst rx
        refine PySem.P.repr_of_none ?_
        have := fin s.heap s.toks (s.toks + 1) fun _ _ e => e
        unfold PyData.shown at this
        exact this
      | bl b =>
        have rx : u = Value.bool b := rx
        subst rx
        refine PySem.P.repr_of_bool ?_
        have := fin s.heap s.toks (s.toks + 1) fun _ _ e => e
        unfold PyData.shown at this
        exact this
      | int i =>
        obtain ⟨t, rfl⟩ := rx
        have h7 : i.natAbs.log2 < 1920 := by
          unfold PyData.showable at h3
          exact of_decide_eq_true h3
        refine PySem.P.repr_of_int h7 ?_
        have := fin s.heap s.toks (s.toks + 1) fun _ _ e => e
        unfold PyData.shown at this
        exact this
      | str x =>
        obtain ⟨t, rfl⟩ := rx
        have h4' : (reprText x).length ≤ rsz (rsv w.st e) := by unfold PyData.shown at h4; exact h4
        refine PySem.P.repr_of_str ?_ (by omega)
        have := fin s.heap s.toks (s.toks + 1) fun _ _ e => e
        unfold PyData.shown at this
        exact this
      | lst q1 q2 =>
        cases rx
        exact repr_of_reads' rd2 h3 (fun hd => by rw [PyData.hasDict_of_canLay _ h5] at hd; cases hd) hg (by omega) (fun _ _ e => e) fin (by omega)
      | tup q1 q2 =>
        cases rx
        exact repr_of_reads' rd2 h3 (fun hd => by rw [PyData.hasDict_of_canLay _ h5] at hd; cases hd) hg (by omega) (fun _ _ e => e) fin (by omega)
    · cases hf
  · cases hf
end
end PL
/-! PL7: slices, methods of texts and lists, what is walked, comprehensions. -/
namespace PL
open PySem PySem.Spec PyProof.Rows L2

/-! ### slices -/
def cutG {α : Type} (xs : List α) (lo hi : Option Int) : List α := (xs.drop (HT.sIx xs.length 0 lo)).take (HT.sIx xs.length xs.length hi - HT.sIx xs.length 0 lo)
def sliD (d : D) (lo hi : Option Int) (st : Store) : Option D := match d with
  | .str s => if s.length ≤ sizeLine then some (.str (cutG s lo hi)) else none
  | .tup xs => some (.tup (cutG xs lo hi))
  | d => (viewL st d).map fun xs => .lst (cutG xs lo hi)
def rSl (K : PySem.W.Frag) (f : D → Option Int → Option Int → Store → Option D) : V → Option Int → Option Int → Hp → VK → Prop := fun x lo hi H Q => ∃ w dx d, w.H = H ∧ WOk K w ∧ Rep K w dx x ∧ f dx lo hi w.st = some d ∧ At K w d Q
def optI : Wd → Option D → Option Int → Prop := fun _ a o => match a with
  | none => o = none
  | some (.int i) => o = some i
  | _ => False
abbrev DO (X : Cx) (W : WX) (e : Option Expr) (f : Env → M (Option D)) : Prop := PO X e (tX (cx X W) optI T0 f)
def sNo : Env → M (Option D) := fun _ => ret none
def sSo (f : Env → M D) : Env → M (Option D) := fun ρ => bnd (f ρ) fun a => match a with
  | .int i => ret (some (.int i))
  | _ => fun _ => .bad
def oInt : Option D → Option Int
  | some (.int i) => some i
  | _ => none
def sSli (f : Env → M D) (l h : Env → M (Option D)) : Env → M D := fun ρ => bnd (f ρ) fun a => bnd (l ρ) fun lo => bnd (h ρ) fun hi => fun st => ofO (sliD a (oInt lo) (oInt hi) st) st
section
variable {X : Cx} {W : WX}
theorem reps_cut {K : PySem.W.Frag} {w : Wd} {xs : List D} {vs : List V} (r : Reps K w xs vs) (lo hi : Option Int) : Reps K w (cutG xs lo hi) (cutV vs lo hi) := by
  unfold cutG cutV
  rw [← r.length]
  exact (r.drop _).take _
theorem slr_L : SlR X (rSl X.K fun d lo hi st => (viewL st d).map fun xs => .lst (cutG xs lo hi)) := by
  intro pins s σ H x v vl vu lo hi sl Q I rx hs pl pu h
  obtain ⟨w, dx, d, rfl, ok, hx, hf, q⟩ := h
  have hf : (viewL w.st dx).map (fun xs => D.lst (cutG xs lo hi)) = some d := hf
  cases e : viewL w.st dx with
  | none => rw [e] at hf; cases hf
  | some xs =>
    rw [e] at hf
    cases hf
    obtain ⟨a, vs, ea, h1, r1⟩ := view_rep ok e hx
    exact sl_list pins s σ _ x v vl vu lo hi sl Q I rx hs pl pu ⟨a, vs, ea, SqL.of h1, q.lst ok (reps_cut r1 lo hi)⟩
theorem slr_D : SlR X (rSl X.K sliD) := by
  intro pins s σ H x v vl vu lo hi sl Q I rx hs pl pu h
  obtain ⟨w, dx, d, rfl, ok, hx, hf, q⟩ := h
  cases dx with
  | str z =>
    have hf : (if z.length ≤ sizeLine then some (D.str (cutG z lo hi)) else none) = some d := hf
    by_cases hz : z.length ≤ sizeLine
    · rw [if_pos hz] at hf
      cases hf
      refine sl_str pins s σ _ x v vl vu lo hi sl Q I rx hs pl pu ⟨toS z, hx, hz, ?_⟩
      exact q.now ok (show V.str _ = V.str (toS (cutG z lo hi)) from rfl)
    · rw [if_neg hz] at hf
      cases hf
  | tup xs =>
    have hf : some (D.tup (cutG xs lo hi)) = some d := hf
    cases hf
    obtain ⟨a, vs, ea, h1, r1⟩ := hx
    refine sl_tupA pins s σ _ x v vl vu lo hi sl Q I rx hs pl pu ⟨a, vs, ea, h1, fun hw => ?_, fun _ => q.tup ok (reps_cut r1 lo hi)⟩
    refine q.now ok ⟨a, vs, rfl, h1, ?_⟩
    have e : cutV vs lo hi = vs := by
      unfold cutV
      rw [hw.1, hw.2, List.drop_zero, Nat.sub_zero, List.take_length]
    have := reps_cut r1 lo hi
    rw [e] at this
    exact this
  | lst xs => exact slr_L pins s σ _ x v vl vu lo hi sl Q I rx hs pl pu ⟨w, _, d, rfl, ok, hx, hf, q⟩
  | ref n => exact slr_L pins s σ _ x v vl vu lo hi sl Q I rx hs pl pu ⟨w, _, d, rfl, ok, hx, hf, q⟩
  | non => cases hf
  | bl b => cases hf
  | int i => cases hf
  | scr ns => cases hf
  | vv u => cases hf
theorem do_none : DO X W none sNo := by
  refine ⟨fun pins s σ H Q I h => ?_⟩
  obtain ⟨w, ρ, rfl, ok, re, _, q⟩ := h
  exact po_none.run pins s σ _ Q I (q w (Grow.refl w) ok rfl none rfl)
theorem do_some {e : Expr} {f : Env → M D} (h : DE X W e f) : DO X W (some e) (sSo f) := by
  refine ⟨fun pins s σ H Q I q => (po_some h).run pins s σ H Q I ?_⟩
  refine (tX.seq0 (R1 := Rep X.K) q).imp fun x H1 ⟨da, h1⟩ => ?_
  obtain ⟨w, ρ, rfl, ok, re, ⟨_, r1⟩, q⟩ := h1
  cases da with
  | int i =>
    have r1 : x = V.int i := r1
    exact ⟨i, r1, q w (Grow.refl w) ok rfl (some i) rfl⟩
  | _ => exact q.elim
theorem de_sli {e : Expr} {lo hi : Option Expr} {p2 pos : Pos} {f : Env → M D} {l h : Env → M (Option D)} (he : DE X W e f) (hl : DO X W lo l) (hh : DO X W hi h) : DE X W (.Subscript e (.Slice lo hi none p2) pos) (sSli f l h) := by
  refine (pe_slice slr_D he hl hh).imp fun σ H Q q => ?_
  refine (tX.seq0 (R1 := Rep X.K) q).imp fun x H1 ⟨da, h1⟩ => ?_
  have mo : MonoR optI := fun _ _ _ _ _ h => h
  refine ((tX.seq (R1 := optI) (mono_and mono0 monoRep) h1).weak).imp fun o H2 ⟨lo, h2⟩ => ?_
  refine ((tX.seq (R1 := optI) (mono_and (mono_and mono0 monoRep) mo) h2).weak).imp fun o2 H3 ⟨hi, h3⟩ => ?_
  obtain ⟨w, ρ, rfl, ok, re, ⟨⟨⟨_, r1⟩, r2⟩, r3⟩, q⟩ := h3
  have oi : ∀ {a : Option D} {b : Option Int}, optI w a b → oInt a = b := fun {a b} z => by
    cases a with
    | none => exact (show b = none from z).symm
    | some d => cases d <;> first | exact (show b = some _ from z).symm | exact z.elim
  rw [oi r2, oi r3] at q
  obtain ⟨d, e1, q⟩ := at_of (K := X.K) rfl q
  exact ⟨w, da, d, rfl, ok, r1, e1, q⟩
end

/-! ### methods -/
def joinG (S : List Nat) : List (List Nat) → List Nat
  | [] => []
  | [p] => p
  | p :: q :: r => p ++ (S ++ joinG S (q :: r))
def joinD : D → List D → Store → Option (D × Store)
  | .str s, [d], st => (viewS st d).bind fun xs => (asStrs xs).bind fun ys =>
      if (ys.map (·.length)).sum + ys.length * s.length ≤ 16777216 then some (.str (joinG s ys), st) else none
  | _, _, _ => none
def startsD : D → List D → Store → Option (D × Store)
  | .str s, [.str t], st => some (.bl (t.isPrefixOf s), st)
  | _, _, _ => none
/-- a list of the store becomes another one -/
def appendD : D → List D → Store → Option (D × Store)
  | .ref n, [d], st => match st[n]? with
    | some (some (.lst xs)) => if xs.length < sizeLine then some (.non, st.set n (some (.lst (xs ++ [d])))) else none
    | _ => none
  | _, _, _ => none
def extendD : D → List D → Store → Option (D × Store)
  | .ref n, [d], st => match st[n]? with
    | some (some (.lst xs)) => (viewL st d).bind fun ys => if xs.length + ys.length ≤ sizeLine then some (.non, st.set n (some (.lst (xs ++ ys)))) else none
    | _ => none
  | _, _, _ => none
def popD : D → List D → Store → Option (D × Store)
  | .ref n, [], st => match st[n]? with
    | some (some (.lst xs)) => (xs[xs.length - 1]?).map fun d => (d, st.set n (some (.lst xs.dropLast)))
    | _ => none
  | _, _, _ => none
theorem joinG_eq (s : List Nat) : ∀ ys : List (List Nat), (Str.join (toS s) (ys.map toS)).cps.toList = joinG s ys
  | [] => rfl
  | [y] => rfl
  | x :: y :: r => by
    show TL.tl ((toS x ++ toS s) ++ Str.join (toS s) (toS y :: r.map toS)) = x ++ (s ++ joinG s (y :: r))
    have ih : TL.tl (Str.join (toS s) (toS y :: r.map toS)) = joinG s (y :: r) := joinG_eq s (y :: r)
    rw [TL.tl_append (toS x ++ toS s) _, ih, TL.tl_append, List.append_assoc]
section
variable {X : Cx}
theorem AtS.now {K : PySem.W.Frag} {w : Wd} {d : D} {Q : VK} (h : AtS K w d w.st Q) (ok : WOk K w) {v : V} (r : Rep K w d v) : Q v w.H := h w (Grow.refl w) ok rfl v r
theorem mr_join : MtR X "str.join" (rMt X.K joinD) := by
  intro pins s σ H x xs v us Q I rx rs h
  obtain ⟨w, d0, ds, d, st, rfl, ok, h0, rd, hf, q⟩ := h
  unfold joinD at hf
  split at hf
  · rename_i z e
    cases hv : viewS w.st e with
    | none => rw [hv] at hf; cases hf
    | some ys =>
      rw [hv] at hf
      have hf : (asStrs ys).bind (fun ys => if (ys.map (·.length)).sum + ys.length * z.length ≤ 16777216 then some (D.str (joinG z ys), w.st) else none) = some (d, st) := hf
      cases hi : asStrs ys with
      | none => rw [hi] at hf; cases hf
      | some ts =>
        rw [hi] at hf
        have hf : (if (ts.map (·.length)).sum + ts.length * z.length ≤ 16777216 then some (D.str (joinG z ts), w.st) else none) = some (d, st) := hf
        by_cases hz : (ts.map (·.length)).sum + ts.length * z.length ≤ 16777216
        · rw [if_pos hz] at hf
          cases hf
          obtain ⟨u, rfl, h1⟩ := reps1 rd
          obtain ⟨a, vs, rfl, h2, h3⟩ := viewS_rep ok hv h1
          rw [asStrs_eq hi] at h3
          have h3 := h3.strs
          subst h3
          have e0 : (List.map (fun x : Str => x.length) (ts.map toS)) = ts.map (·.length) := by rw [List.map_map]; rfl
          refine mt_join pins s σ _ x _ v us Q I rx rs ⟨toS z, a, ts.map toS, h0, rfl, h2, by rw [e0, List.length_map]; exact hz, ?_⟩
          refine q.now ok ?_
          show V.str _ = V.str (toS _)
          rw [TL.join_eq, ← joinG_eq, toS_of]
        · rw [if_neg hz] at hf
          cases hf
  · cases hf
theorem lref {K : PySem.W.Frag} {w : Wd} {n : Nat} {v : V} {xs : List D} (ok : WOk K w) (h : w.st[n]? = some (some (.lst xs))) (r : Rep K w (.ref n) v) : ∃ vs, v = .ref (w.bet n) ∧ w.H (w.bet n) = some (.lst vs) ∧ Reps K w xs vs := by
  obtain ⟨vs, h1, h2⟩ := ok.ob n _ h
  exact ⟨vs, r.2, h1, h2⟩
theorem mr_append : MtR X "list.append" (rMt X.K appendD) := by
  intro pins s σ H x xs v us Q I rx rs h
  obtain ⟨w, d0, ds, d, st, rfl, ok, h0, rd, hf, q⟩ := h
  unfold appendD at hf
  split at hf
  · rename_i n e
    split at hf
    · rename_i ys hn
      split at hf
      · rename_i hz
        cases hf
        obtain ⟨u, rfl, h1⟩ := reps1 rd
        obtain ⟨vs, rfl, h2, h3⟩ := lref ok hn h0
        refine mt_append pins s σ _ _ _ v us Q I rx rs ⟨_, vs, u, rfl, rfl, h2, by rw [← h3.length]; exact hz, ?_⟩
        have g := Grow.wr (o := .lst (vs ++ [u])) (ob' := .lst (ys ++ [e])) ok hn
        exact q _ g (ok.wr hn (obr_wrL ok hn (h3.app (reps_cons h1 reps_nil)))) rfl V.non rfl
      · cases hf
    · cases hf
  · cases hf
theorem mr_extend : MtR X "list.extend" (rMt X.K extendD) := by
  intro pins s σ H x xs v us Q I rx rs h
  obtain ⟨w, d0, ds, d, st, rfl, ok, h0, rd, hf, q⟩ := h
  unfold extendD at hf
  split at hf
  · rename_i n e
    split at hf
    · rename_i ys hn
      cases hv : viewL w.st e with
      | none => rw [hv] at hf; cases hf
      | some zs =>
        rw [hv] at hf
        have hf : (if ys.length + zs.length ≤ sizeLine then some (D.non, w.st.set n (some (Ob.lst (ys ++ zs)))) else none) = some (d, st) := hf
        by_cases hz : ys.length + zs.length ≤ sizeLine
        · rw [if_pos hz] at hf
          cases hf
          obtain ⟨u, rfl, h1⟩ := reps1 rd
          obtain ⟨vs, rfl, h2, h3⟩ := lref ok hn h0
          obtain ⟨b, ws, rfl, h4, h5⟩ := view_rep ok hv h1
          refine mt_extend pins s σ _ _ _ v us Q I rx rs ⟨_, b, vs, ws, rfl, rfl, h2, h4, by rw [← h3.length, ← h5.length]; exact hz, ?_⟩
          have g := Grow.wr (o := .lst (vs ++ ws)) (ob' := .lst (ys ++ zs)) ok hn
          exact q _ g (ok.wr hn (obr_wrL ok hn (h3.app h5))) rfl V.non rfl
        · rw [if_neg hz] at hf
          cases hf
    · cases hf
  · cases hf
theorem Reps.dropLast {K : PySem.W.Frag} {w : Wd} {xs : List D} {vs : List V} (r : Reps K w xs vs) : Reps K w xs.dropLast vs.dropLast := by
  rw [List.dropLast_eq_take, List.dropLast_eq_take, r.length]
  exact r.take _
theorem mr_pop : MtR X "list.pop" (rMt X.K popD) := by
  intro pins s σ H x xs v us Q I rx rs h
  obtain ⟨w, d0, ds, d, st, rfl, ok, h0, rd, hf, q⟩ := h
  unfold popD at hf
  split at hf
  · rename_i n
    split at hf
    · rename_i ys hn
      cases hl : ys[ys.length - 1]? with
      | none => rw [hl] at hf; cases hf
      | some e =>
        rw [hl] at hf
        cases hf
        have rd : xs = [] := rd
        subst rd
        obtain ⟨vs, rfl, h2, h3⟩ := lref ok hn h0
        obtain ⟨u, hu, ru⟩ := h3.get hl
        have g := Grow.wr (o := .lst vs.dropLast) (ob' := .lst ys.dropLast) ok hn
        refine mt_pop pins s σ _ _ _ v us Q I rx rs ⟨_, vs, u, rfl, rfl, h2, by rw [← h3.length]; exact hu, ?_⟩
        exact q _ g (ok.wr hn (obr_wrL ok hn h3.dropLast)) rfl u (Rep.grow g _ _ ru)
    · cases hf
  · cases hf
end

/-! ### what is walked -/
/-- the iterator J gives the items from the world w on -/
def ItOk (K : PySem.W.Frag) (w : Wd) (items : List D) (J : It) : Prop := ∀ w1, Ext w w1 → WOk K w1 →
  (∀ (i : Nat) (d : D), items[i]? = some d → J.go i w1.H ∧ ∀ x H', J.yld i w1.H x H' → ∃ w2, w2.H = H' ∧ Grow w1 w2 ∧ WOk K w2 ∧ w2.st = w1.st ∧ Rep K w2 d x) ∧ J.stop items.length w1.H
def PostI (C : Ctx) (w : Wd) (r : Res (List D)) (R : It → Hp → Prop) (E : Exc → Wd → Prop) : Prop := match r with
  | .ok items st => ∀ w', Grow w w' → WOk C.K w' → w'.st = st → ∀ J, ItOk C.K w' items J → R J w'.H
  | .exc e st => ∀ w', Grow w w' → WOk C.K w' → w'.st = st → E e w'
  | .bad => False
def tIx (C : Ctx) (f : Env → M (List D)) : TI := fun σ H R => ∃ w ρ, w.H = H ∧ WOk C.K w ∧ RepE C.K w σ ρ ∧ PostI C w (f ρ w.st) R (C.we σ)
abbrev DI (X : Cx) (W : WX) (tg iter : Expr) (f : Env → M (List D)) : Prop := PI X tg iter (tIx (cx X W) f)
theorem pi_imp {X : Cx} {tg iter : Expr} {t t' : TI} (h : PI X tg iter t) (k : ∀ σ H R, t' σ H R → t σ H R) : PI X tg iter t' := ⟨fun pins s σ H R I q => h.run pins s σ H R I (k σ H R q)⟩
theorem tIx.seq {C : Ctx} {α β : Type} {R1 : Wd → α → β → Prop} {f : Env → M α} {k : α → Store → Option (List D)} {σ : L2.St} {H : Hp} {R : It → Hp → Prop}
    (h : tIx C (fun ρ => bnd (f ρ) fun a st => ofO (k a st) st) σ H R) : tX C R1 T0 f σ H (fun x H1 => ∃ a w items, w.H = H1 ∧ WOk C.K w ∧ R1 w a x ∧ k a w.st = some items ∧ ∀ w', Grow w w' → WOk C.K w' → w'.st = w.st → ∀ J, ItOk C.K w' items J → R J w'.H) := by
  obtain ⟨w, ρ, e, ok, re, q⟩ := h
  refine ⟨w, ρ, e, ok, re, trivial, ?_⟩
  have q : PostI C w ((f ρ w.st).bnd fun a st => ofO (k a st) st) R (C.we σ) := q
  cases hr : f ρ w.st with
  | bad => rw [hr] at q; exact q
  | exc e st => rw [hr] at q; exact q
  | ok a st =>
    rw [hr] at q
    intro w' g ok' es x hx
    have q : PostI C w (ofO (k a st) st) R (C.we σ) := q
    cases hk : k a st with
    | none => rw [hk] at q; exact q.elim
    | some items =>
      rw [hk] at q
      exact ⟨a, w', items, rfl, ok', hx, by rw [es]; exact hk, fun w2 g2 ok2 e2 => q w2 (g.trans g2) ok2 (e2.trans es)⟩
/-- what a for walks, by its kind: lists and tuples as they are, a text by its signs -/
def walkD (d : D) (st : Store) : Option (List D) := match d with
  | .tup xs => some xs
  | .lst xs => some xs
  | _ => none
def chars (s : List Nat) : List D := s.map fun c => .str [c]
def sWalk (f : Env → M D) : Env → M (List D) := fun ρ => bnd (f ρ) fun a st => ofO (walkD a st) st
def sWalkT (f : Env → M D) : Env → M (List D) := fun ρ => bnd (f ρ) fun a st => ofO (match a with | .tup xs => some xs | _ => none) st
def sWalkL (f : Env → M D) : Env → M (List D) := fun ρ => bnd (f ρ) fun a st => ofO (match a with | .lst xs => some xs | _ => none) st
def sWalkS (f : Env → M D) : Env → M (List D) := fun ρ => bnd (f ρ) fun a st => ofO (match a with | .str s => some (chars s) | _ => none) st
def rng (lo : Int) (n : Nat) : List D := (List.range n).map fun (i : Nat) => D.int (lo + (i : Int))
theorem rng_get {lo : Int} {n i : Nat} : (rng lo n)[i]? = if i < n then some (.int (lo + i)) else none := by
  unfold rng
  rw [List.getElem?_map]
  by_cases h : i < n
  · rw [if_pos h, List.getElem?_range h]; rfl
  · rw [if_neg h, List.getElem?_eq_none (by simpa using h)]; rfl
theorem rng_len {lo : Int} {n : Nat} : (rng lo n).length = n := by unfold rng; rw [List.length_map, List.length_range]
section
variable {X : Cx} {W : WX}
theorem itok_list {K : PySem.W.Frag} {w : Wd} {xs : List D} {a : Addr} (r : Rep K w (.lst xs) (.ref a)) : ItOk K w xs (Itl K a) := by
  intro w1 g ok1
  obtain ⟨b, vs, eb, h1, h2, h3⟩ := Rep.ext g _ _ r
  have : a = b := V.ref.inj eb
  subst this
  have hq : SqL K w1.H a vs := SqL.of h1
  refine ⟨fun i d hd => ?_, ⟨vs, hq, Nat.le_of_eq h3.length.symm⟩⟩
  obtain ⟨v, hv, rv⟩ := h3.get hd
  exact ⟨⟨vs, v, hq, hv⟩, fun x H' ⟨e1, e2⟩ => ⟨w1, e1.symm, Grow.refl w1, ok1, rfl, by
    have := e2 vs hq
    rw [hv] at this
    cases this
    exact rv⟩⟩
theorem itok_tup {K : PySem.W.Frag} {w : Wd} {xs : List D} {a : Addr} (r : Rep K w (.tup xs) (.ref a)) : ItOk K w xs (Itt K a) := by
  intro w1 g ok1
  obtain ⟨b, vs, eb, h1, h3⟩ := Rep.ext g _ _ r
  have : a = b := V.ref.inj eb
  subst this
  refine ⟨fun i d hd => ?_, ⟨vs, h1, Nat.le_of_eq h3.length.symm⟩⟩
  obtain ⟨v, hv, rv⟩ := h3.get hd
  exact ⟨⟨vs, v, h1, hv⟩, fun x H' ⟨e1, e2⟩ => ⟨w1, e1.symm, Grow.refl w1, ok1, rfl, by
    have := e2 vs h1
    rw [hv] at this
    cases this
    exact rv⟩⟩
theorem itok_rng {K : PySem.W.Frag} {w : Wd} (lo : Int) (n : Nat) : ItOk K w (rng lo n) (Itr lo n) := by
  intro w1 g ok1
  refine ⟨fun i d hd => ?_, by rw [rng_len]; exact Nat.le_refl _⟩
  rw [rng_get] at hd
  by_cases h : i < n
  · rw [if_pos h] at hd
    cases hd
    exact ⟨h, fun x H' ⟨e1, e2⟩ => ⟨w1, e1.symm, Grow.refl w1, ok1, rfl, e2⟩⟩
  · rw [if_neg h] at hd
    cases hd
theorem itok_str {K : PySem.W.Frag} {w : Wd} (s : List Nat) : ItOk K w (chars s) (Its (toS s)) := by
  intro w1 g ok1
  have hs : (toS s).cps.size = s.length := rfl
  refine ⟨fun i d hd => ?_, by show (toS s).cps.size ≤ _; unfold chars; rw [hs, List.length_map]; exact Nat.le_refl _⟩
  unfold chars at hd
  rw [List.getElem?_map] at hd
  cases hc : s[i]? with
  | none => rw [hc] at hd; cases hd
  | some c =>
    rw [hc] at hd
    cases hd
    have hi : i < s.length := by
      obtain ⟨h, _⟩ := List.getElem?_eq_some_iff.mp hc
      exact h
    refine ⟨hi, fun x H' ⟨e1, c', e2, e3⟩ => ⟨w1, e1.symm, Grow.refl w1, ok1, rfl, ?_⟩⟩
    have e2 : s.toArray[i]? = some c' := e2
    rw [List.getElem?_toArray, hc] at e2
    cases e2
    exact e3
theorem di_list {tg e : Expr} {f : Env → M D} (he : DE X W e f) : DI X W tg e (sWalkL f) := by
  refine pi_imp (pi_list he) fun σ H R q => ?_
  refine (tIx.seq (R1 := Rep X.K) q).imp fun x H1 ⟨a, w, items, e1, ok, r, hk, q⟩ => ?_
  subst e1
  cases a with
  | lst xs =>
    cases hk
    obtain ⟨b, vs, eb, h1, h2, h3⟩ := id r
    subst eb
    exact ⟨b, rfl, ⟨vs, SqL.of h1⟩, q w (Grow.refl w) ok rfl _ (itok_list r)⟩
  | _ => cases hk
theorem di_tup {tg e : Expr} {f : Env → M D} (he : DE X W e f) : DI X W tg e (sWalkT f) := by
  refine pi_imp (pi_tup he) fun σ H R q => ?_
  refine (tIx.seq (R1 := Rep X.K) q).imp fun x H1 ⟨a, w, items, e1, ok, r, hk, q⟩ => ?_
  subst e1
  cases a with
  | tup xs =>
    cases hk
    obtain ⟨b, vs, eb, h1, h3⟩ := id r
    subst eb
    exact ⟨b, rfl, ⟨vs, h1⟩, q w (Grow.refl w) ok rfl _ (itok_tup r)⟩
  | _ => cases hk
theorem di_str {tg e : Expr} {f : Env → M D} (he : DE X W e f) : DI X W tg e (sWalkS f) := by
  refine pi_imp (pi_str he) fun σ H R q => ?_
  refine (tIx.seq (R1 := Rep X.K) q).imp fun x H1 ⟨a, w, items, e1, ok, r, hk, q⟩ => ?_
  subst e1
  cases a with
  | str s =>
    cases hk
    exact ⟨toS s, r, q w (Grow.refl w) ok rfl _ (itok_str s)⟩
  | _ => cases hk
def rng1 : List D → Option (List D)
  | [.int j] => if -(2 ^ 62) ≤ j ∧ j < 2 ^ 62 then some (rng 0 j.toNat) else none
  | _ => none
def rng2 : List D → Option (List D)
  | [.int i, .int j] => if -(2 ^ 62) ≤ i ∧ i < 2 ^ 62 ∧ -(2 ^ 62) ≤ j ∧ j < 2 ^ 62 then some (rng i (j - i).toNat) else none
  | _ => none
def sRng1 (g : Env → M (List D)) : Env → M (List D) := fun ρ => bnd (g ρ) fun ds st => ofO (rng1 ds) st
def sRng2 (g : Env → M (List D)) : Env → M (List D) := fun ρ => bnd (g ρ) fun ds st => ofO (rng2 ds) st
theorem di_rng1 {tg e : Expr} {p pos : Pos} {f : Env → M (List D)} (hm : X.mg "range" = none) (ha : DA X W [e] f) (hg : Gl X "range" := by rfl) (hs : starEach [e] X.env = [(false, eval e X.env)] := by rfl) :
    DI X W tg (.Call (.Name "range" p) [e] [] pos) (sRng1 f) := by
  refine pi_imp (pi_range1 hg hm ha hs) fun σ H R q => ?_
  refine (tIx.seq (R1 := Reps X.K) q).imp fun x H1 ⟨a, w, items, e1, ok, r, hk, q⟩ => ?_
  subst e1
  unfold rng1 at hk
  split at hk
  · split at hk
    · rename_i j hz
      cases hk
      obtain ⟨v, rfl, h1⟩ := reps1 r
      have h1 : v = V.int j := h1
      subst h1
      exact ⟨j, rfl, hz.1, hz.2, q w (Grow.refl w) ok rfl _ (itok_rng 0 _)⟩
    · cases hk
  · cases hk
theorem di_rng2 {tg e e2 : Expr} {p pos : Pos} {f : Env → M (List D)} (hm : X.mg "range" = none) (ha : DA X W [e, e2] f) (hg : Gl X "range" := by rfl) (hs : starEach [e, e2] X.env = [(false, eval e X.env), (false, eval e2 X.env)] := by rfl) (hs2 : starEach [e2] X.env = [(false, eval e2 X.env)] := by rfl) :
    DI X W tg (.Call (.Name "range" p) [e, e2] [] pos) (sRng2 f) := by
  refine pi_imp (pi_range2 hg hm ha hs hs2) fun σ H R q => ?_
  refine (tIx.seq (R1 := Reps X.K) q).imp fun x H1 ⟨a, w, items, e1, ok, r, hk, q⟩ => ?_
  subst e1
  unfold rng2 at hk
  split at hk
  · split at hk
    · rename_i i j hz
      cases hk
      obtain ⟨v, u, rfl, h1, h2⟩ := reps2 r
      have h1 : v = V.int i := h1
      have h2 : u = V.int j := h2
      subst h1 h2
      exact ⟨i, j, rfl, hz, q w (Grow.refl w) ok rfl _ (itok_rng i _)⟩
    · cases hk
  · cases hk
end
end PL
/-! PL8: targets, comprehensions. -/
namespace PL
open PySem PySem.Spec PyProof.Rows L2

theorem wipe_get (σ : L2.St) (j : Nat) : ∀ vs : List Nat, (wipe σ vs)[j]? = if j ∈ vs ∧ j < σ.length then some none else σ[j]?
  | [] => by rw [if_neg (fun h => by cases h.1)]; rfl
  | v :: vs => by
    show ((wipe σ vs).set v none)[j]? = _
    have ih := wipe_get σ j vs
    by_cases hv : v = j
    · subst hv
      by_cases hl : v < σ.length
      · rw [List.getElem?_set_self (by rw [wipe_length]; exact hl), if_pos ⟨List.mem_cons_self, hl⟩]
      · rw [List.getElem?_eq_none (by rw [List.length_set, wipe_length]; omega), if_neg (fun h => hl h.2), List.getElem?_eq_none (by omega)]
    · rw [List.getElem?_set_ne hv, ih]
      by_cases h : j ∈ vs ∧ j < σ.length
      · rw [if_pos h, if_pos ⟨List.mem_cons_of_mem _ h.1, h.2⟩]
      · rw [if_neg h, if_neg]
        intro z
        rcases List.mem_cons.mp z.1 with q | q
        · exact hv q.symm
        · exact h ⟨q, z.2⟩
theorem wipe_set {σ : L2.St} {i : Nat} {x : Option V} {vs : List Nat} (hi : i ∈ vs) : wipe (σ.set i x) vs = wipe σ vs := by
  apply List.ext_getElem?
  intro j
  rw [wipe_get, wipe_get, List.length_set]
  by_cases h : j ∈ vs ∧ j < σ.length
  · rw [if_pos h, if_pos h]
  · rw [if_neg h, if_neg h]
    by_cases hj : i = j
    · subst hj
      have hl : ¬ i < σ.length := fun z => h ⟨hi, z⟩
      rw [List.getElem?_eq_none (by rw [List.length_set]; omega), List.getElem?_eq_none (by omega)]
    · rw [List.getElem?_set_ne hj]
theorem wipe_wipe (σ : L2.St) (vs : List Nat) : wipe (wipe σ vs) vs = wipe σ vs := by
  apply List.ext_getElem?
  intro j
  rw [wipe_get, wipe_length]
  by_cases h : j ∈ vs ∧ j < σ.length
  · rw [if_pos h, wipe_get, if_pos h]
  · rw [if_neg h]

/-! ### targets -/
/-- g binds; sl: the slots that it stores -/
def tGD (K : PySem.W.Frag) (sl : List Nat) (g : D → Env → Option Env) : TG := fun v σ H Q => ∃ w ρ d ρ', w.H = H ∧ WOk K w ∧ RepE K w σ ρ ∧ Rep K w d v ∧ g d ρ = some ρ' ∧
  ∀ σ', RepE K w σ' ρ' → (∀ vs, (∀ i, i ∈ sl → i ∈ vs) → wipe σ' vs = wipe σ vs) → Q σ' H
def tGsD (K : PySem.W.Frag) (sl : List Nat) (g : List D → Env → Option Env) : TGs := fun v σ H Q => ∃ w ρ d ρ', w.H = H ∧ WOk K w ∧ RepE K w σ ρ ∧ Reps K w d v ∧ g d ρ = some ρ' ∧
  ∀ σ', RepE K w σ' ρ' → (∀ vs, (∀ i, i ∈ sl → i ∈ vs) → wipe σ' vs = wipe σ vs) → Q σ' H
abbrev DG (X : Cx) (tg : Expr) (sl : List Nat) (g : D → Env → Option Env) : Prop := PG X tg (tGD X.K sl g)
abbrev DGs (X : Cx) (ts : List Expr) (sl : List Nat) (g : List D → Env → Option Env) : Prop := PGs X ts (tGsD X.K sl g)
theorem pg_imp {X : Cx} {tg : Expr} {t t' : TG} (h : PG X tg t) (k : ∀ v σ H Q, t' v σ H Q → t v σ H Q) : PG X tg t' := ⟨fun pins s σ H v u Q I r q => h.run pins s σ H v u Q I r (k v σ H Q q)⟩
theorem pgs_imp {X : Cx} {tg : List Expr} {t t' : TGs} (h : PGs X tg t) (k : ∀ v σ H Q, t' v σ H Q → t v σ H Q) : PGs X tg t' := ⟨fun pins s σ H v u Q I r q => h.run pins s σ H v u Q I r (k v σ H Q q)⟩
def gNm (i : Nat) : D → Env → Option Env := fun d ρ => some (ρ.set i (some d))
def gNi : List D → Env → Option Env := fun ds ρ => match ds with
  | [] => some ρ
  | _ => none
def gCo (g : D → Env → Option Env) (h : List D → Env → Option Env) : List D → Env → Option Env := fun ds ρ => match ds with
  | d :: r => (g d ρ).bind (h r)
  | [] => none
def gTu (n : Nat) (g : List D → Env → Option Env) : D → Env → Option Env := fun d ρ => match d with
  | .tup xs => if xs.length = n then g xs ρ else none
  | _ => none
def gLi (n : Nat) (g : List D → Env → Option Env) : D → Env → Option Env := fun d ρ => match d with
  | .lst xs => if xs.length = n then g xs ρ else none
  | _ => none
section
variable {X : Cx}
theorem dg_name (i : Nat) {x : Str} {pos : Pos} (hN : X.N.Nodup) (hi : X.N[i]? = some x) (hx : Loc X.env.scope x) (hf : X.fn x = true ∨ X.env.scope.names.lookup x = some .local := by first | exact .inl rfl | exact .inr rfl | assumption) : DG X (.Name x pos) [i] (gNm i) := by
  refine pg_imp (pg_name hN hi hx hf) fun v σ H Q h => ?_
  obtain ⟨w, ρ, d, ρ', rfl, ok, re, r, e, q⟩ := h
  cases e
  exact q _ (re.set i r) fun vs hv => wipe_set (hv i List.mem_cons_self)
theorem dgs_nil : DGs X [] [] gNi := by
  refine pgs_imp pgs_nil fun v σ H Q h => ?_
  obtain ⟨w, ρ, d, ρ', rfl, ok, re, r, e, q⟩ := h
  cases d with
  | nil =>
    cases e
    exact ⟨r, q σ re fun _ _ => rfl⟩
  | cons x xs => cases e
theorem dgs_cons {e : Expr} {es : List Expr} {sl sl' : List Nat} {g : D → Env → Option Env} {h : List D → Env → Option Env} (h1 : DG X e sl g) (h2 : DGs X es sl' h)
    (hs : (assignEach (e :: es) X.env).map (·.2) = assign e X.env :: (assignEach es X.env).map (·.2) := by rfl) : DGs X (e :: es) (sl ++ sl') (gCo g h) := by
  refine pgs_imp (pgs_cons h1 h2 hs) fun v σ H Q q => ?_
  obtain ⟨w, ρ, d, ρ', rfl, ok, re, r, e1, q⟩ := q
  cases d with
  | nil => cases e1
  | cons x xs =>
    obtain ⟨v1, vr, e2, r1, r2⟩ := r
    subst e2
    have e1 : (g x ρ).bind (h xs) = some ρ' := e1
    cases e3 : g x ρ with
    | none => rw [e3] at e1; cases e1
    | some ρ1 =>
      rw [e3] at e1
      refine ⟨v1, vr, rfl, w, ρ, x, ρ1, rfl, ok, re, r1, e3, fun σ' re' w1 => ⟨w, ρ1, xs, ρ', rfl, ok, re', r2, e1, fun σ2 re2 w2 => q σ2 re2 fun vs hv => ?_⟩⟩
      rw [w2 vs fun i hi => hv i (List.mem_append_right _ hi), w1 vs fun i hi => hv i (List.mem_append_left _ hi)]
theorem dg_tup {es : List Expr} {k n : Nat} {sl : List Nat} {g : List D → Env → Option Env} {pos : Pos} (hc : X.calm = true) (h : DGs X es sl g) (hn : (assignEach es X.env).length = n := by rfl) (hst : (assignEach es X.env).findIdx? (·.1) = none := by rfl) :
    DG X (.Tuple es k pos) sl (gTu n g) := by
  refine pg_imp (pg_tup hc h hn hst) fun v σ H Q q => ?_
  obtain ⟨w, ρ, d, ρ', rfl, ok, re, r, e1, q⟩ := q
  cases d with
  | tup xs =>
    have e1 : (if xs.length = n then g xs ρ else none) = some ρ' := e1
    by_cases hl : xs.length = n
    · rw [if_pos hl] at e1
      obtain ⟨a, vs, e2, h1, h2⟩ := r
      exact ⟨a, vs, e2, h1, by rw [← h2.length]; exact hl, w, ρ, xs, ρ', rfl, ok, re, h2, e1, q⟩
    · rw [if_neg hl] at e1
      cases e1
  | _ => cases e1
theorem dg_unl {es : List Expr} {k n : Nat} {sl : List Nat} {g : List D → Env → Option Env} {pos : Pos} (hc : X.calm = true) (h : DGs X es sl g) (hn : (assignEach es X.env).length = n := by rfl) (hst : (assignEach es X.env).findIdx? (·.1) = none := by rfl) :
    DG X (.Tuple es k pos) sl (gLi n g) := by
  refine pg_imp (pg_unl hc h hn hst) fun v σ H Q q => ?_
  obtain ⟨w, ρ, d, ρ', rfl, ok, re, r, e1, q⟩ := q
  cases d with
  | lst xs =>
    have e1 : (if xs.length = n then g xs ρ else none) = some ρ' := e1
    by_cases hl : xs.length = n
    · rw [if_pos hl] at e1
      obtain ⟨a, vs, e2, h1, _, h2⟩ := r
      exact ⟨a, vs, e2, SqL.of h1, by rw [← h2.length]; exact hl, w, ρ, xs, ρ', rfl, ok, re, h2, e1, q⟩
    · rw [if_neg hl] at e1
      cases e1
  | _ => cases e1
end

/-! ### comprehensions -/
def noX {α : Type} : Res α → Res α
  | .exc _ _ => .bad
  | r => r
def mN {α : Type} (m : M α) : M α := fun st => noX (m st)
@[simp] theorem noX_ok {α : Type} (a : α) (st : Store) : noX (.ok a st) = .ok a st := rfl
def badM {α : Type} : M α := fun _ => .bad
def compGo (g : D → Env → Option Env) (c : Env → M Bool) (f : Env → M D) (ρ₀ : Env) : List D → List D → M (List D)
  | [], acc => ret acc
  | d :: r, acc => match g d ρ₀ with
    | none => badM
    | some ρ₁ => bnd (mN (c ρ₁)) fun b => if b then bnd (mN (f ρ₁)) fun v => if acc.length < sizeLine then compGo g c f ρ₀ r (acc ++ [v]) else badM
      else compGo g c f ρ₀ r acc
def sComp (m : Bool) (vs : List Nat) (g : D → Env → Option Env) (c : Env → M Bool) (f : Env → M D) (it : Env → M (List D)) : Env → M D := fun ρ => bnd (it ρ) fun items => bnd (compGo g c f (wipeE ρ vs) items []) (mkL m)
def sYes : Env → M Bool := fun _ => ret true
abbrev W0 : WX := fun _ _ _ _ => False
abbrev DQ (X : Cx) (ifs : List Expr) (f : Env → M Bool) : Prop := PTs X ifs (tX (cx X W0) (fun _ (a b : Bool) => a = b) T0 f)
/-- a list in the making -/
def Wd.hide (w : Wd) (p : Addr) : Wd := { w with hid := p :: w.hid, H := upd w.H p (.lst []) }
section
variable {K : PySem.W.Frag} {w w' : Wd}
theorem lv_hide {p a : Addr} (h : Lv (w.hide p) a) : a = p ∨ Lv w a := by
  rcases h with h | h
  · exact .inr (.inl h)
  · rcases List.mem_cons.mp h with z | z
    · exact .inl z
    · exact .inr (.inr z)
theorem ext_hide {p : Addr} (h : w.H p = none) : Ext w (w.hide p) where
  len := Nat.le_refl _
  bet := fun _ _ => rfl
  keep := fun a o e n => by
    refine ⟨by show upd w.H p _ a = _; rw [upd_ne (ne_of_none e h)]; exact e, fun l => ?_⟩
    rcases lv_hide l with z | z
    · exact ne_of_none e h z
    · exact n z
  tups := fun a u e => by show upd w.H p _ a = _; rw [upd_ne (ne_of_none e h)]; exact e
  frzs := fun a u v e => by show upd w.H p _ a = _; rw [upd_ne (ne_of_none e h)]; exact e
theorem wok_hide {p : Addr} (ok : WOk K w) (h : w.H p = none) : WOk K (w.hide p) where
  ob := fun n ob e => (ok.ob n ob e).ext (ext_hide h) fun u q => by show upd w.H p _ _ = _; rw [upd_ne (ne_of_none q h)]; exact q
  inj := ok.inj
  hidL := fun a m => by
    rcases List.mem_cons.mp m with z | z
    · subst z; exact ⟨[], upd_same⟩
    · obtain ⟨vs, e⟩ := ok.hidL a z
      exact ⟨vs, by show upd w.H p _ a = _; rw [upd_ne (ne_of_none e h)]; exact e⟩
  hidN := fun a m n ob e => by
    rcases List.mem_cons.mp m with z | z
    · subst z
      exact fun z => ok.free h (.inl ⟨n, ob, e, z⟩)
    · exact ok.hidN a z n ob e
/-- an item more for the list in the making -/
theorem ext_more {p : Addr} {vs us : List V} (ok : WOk K w) (hp : p ∈ w.hid) (h : w.H p = some (.lst vs)) : Ext w (w.put p (.lst us)) where
  len := Nat.le_refl _
  bet := fun _ _ => rfl
  keep := fun a o e n => ⟨by show upd w.H p _ a = _; rw [upd_ne (fun z => n (.inr (by rw [z]; exact hp)))]; exact e, n⟩
  tups := fun a u e => by show upd w.H p _ a = _; rw [upd_ne (fun z => ok.noT e (.inr (by rw [z]; exact hp)))]; exact e
  frzs := fun a u v e => by show upd w.H p _ a = _; rw [upd_ne (fun z => ok.noF e (.inr (by rw [z]; exact hp)))]; exact e
theorem wok_more {p : Addr} {vs us : List V} (ok : WOk K w) (hp : p ∈ w.hid) (h : w.H p = some (.lst vs)) : WOk K (w.put p (.lst us)) where
  ob := fun n ob e => (ok.ob n ob e).ext (ext_more ok hp h) fun u q => by show upd w.H p _ _ = _; rw [upd_ne (ok.hidN p hp n ob e)]; exact q
  inj := ok.inj
  hidL := fun a m => by
    by_cases z : a = p
    · subst z; exact ⟨us, upd_same⟩
    · obtain ⟨ws, e⟩ := ok.hidL a m
      exact ⟨ws, by show upd w.H p _ a = _; rw [upd_ne z]; exact e⟩
  hidN := ok.hidN
/-- what stands behind a comprehension's loop -/
structure Made (K : PySem.W.Frag) (w w' : Wd) (p : Addr) (xs : List D) : Prop where
  fr : w.H p = none
  ok0 : WOk K w
  ok : WOk K w'
  ext : Ext w w'
  hid : w'.hid = p :: w.hid
  old : ∀ a, a ∈ w.hid → w'.H a = w.H a
  at_ : ∃ vs, w'.H p = some (.lst vs) ∧ Reps K w' xs vs
theorem Made.end_ {p : Addr} {xs : List D} (h : Made K w w' p xs) : Grow w { w' with hid := w.hid } ∧ WOk K { w' with hid := w.hid } ∧ Rep K { w' with hid := w.hid } (.lst xs) (.ref p) := by
  have np : p ∉ w.hid := fun z => by
    obtain ⟨vs, e⟩ := h.ok0.hidL p z
    rw [h.fr] at e
    cases e
  have sub : ∀ a, Lv { w' with hid := w.hid } a → Lv w' a := fun a l => by
    rcases l with l | l
    · exact .inl l
    · exact .inr (by rw [h.hid]; exact List.mem_cons_of_mem _ l)
  have ex : Ext w' { w' with hid := w.hid } := ⟨Nat.le_refl _, fun _ _ => rfl, fun a o e n => ⟨e, fun l => n (sub a l)⟩, fun _ _ e => e, fun _ _ _ e => e⟩
  have pm : p ∈ w'.hid := by rw [h.hid]; exact List.mem_cons_self
  refine ⟨⟨h.ext.trans ex, rfl, h.old⟩, ⟨fun n ob e => (h.ok.ob n ob e).ext ex fun _ q => q, h.ok.inj, fun a m => h.ok.hidL a (by rw [h.hid]; exact List.mem_cons_of_mem _ m), fun a m => h.ok.hidN a (by rw [h.hid]; exact List.mem_cons_of_mem _ m)⟩, ?_⟩
  obtain ⟨vs, e, r⟩ := h.at_
  refine ⟨p, vs, rfl, e, fun l => ?_, Reps.ext ex _ _ r⟩
  rcases l with ⟨n, ob, e1, e2⟩ | l
  · exact h.ok.hidN p pm n ob e1 e2
  · exact np l
theorem Made.endS {p : Addr} {xs : List D} (h : Made K w w' p xs) : ∃ w2, w2.H = w'.H ∧ w2.st = w'.st ++ [some (.lst xs)] ∧ Grow w w2 ∧ WOk K w2 ∧ Rep K w2 (.ref w'.st.length) (.ref p) := by
  have pm : p ∈ w'.hid := by rw [h.hid]; exact List.mem_cons_self
  have np : p ∉ w.hid := fun z => by
    obtain ⟨vs, e⟩ := h.ok0.hidL p z
    rw [h.fr] at e
    cases e
  obtain ⟨w2, hw2⟩ : ∃ w2 : Wd, w2 = ⟨fun n => if n = w'.st.length then p else w'.bet n, w'.st ++ [some (.lst xs)], w.hid, w'.H⟩ := ⟨_, rfl⟩
  have sub : ∀ a, Lv w2 a → Lv w' a := fun a l => by
    subst hw2
    rcases l with ⟨n, ob, e1, e2⟩ | l
    · have e1 : (w'.st ++ [some (Ob.lst xs)])[n]? = some (some ob) := e1
      have e2 : (if n = w'.st.length then p else w'.bet n) = a := e2
      rcases st_app e1 with ⟨h1, h2⟩ | ⟨h1, h2⟩
      · rw [if_neg (Nat.ne_of_lt h1)] at e2
        exact .inl ⟨n, ob, h2, e2⟩
      · rw [if_pos h1] at e2
        rw [← e2]
        exact .inr pm
    · exact .inr (by rw [h.hid]; exact List.mem_cons_of_mem _ l)
  have ex : Ext w' w2 := by
    refine ⟨?_, ?_, fun a o e n => ⟨?_, fun l => n (sub a l)⟩, ?_, ?_⟩
    · subst hw2; show _ ≤ (w'.st ++ [_]).length; rw [List.length_append]; exact Nat.le_add_right _ _
    · intro n hn; subst hw2; show (if n = w'.st.length then p else w'.bet n) = _; rw [if_neg (Nat.ne_of_lt hn)]
    · subst hw2; exact e
    · intro a u e; subst hw2; exact e
    · intro a u v e; subst hw2; exact e
  obtain ⟨vs, e, r⟩ := h.at_
  refine ⟨w2, by subst hw2; rfl, by subst hw2; rfl, ⟨h.ext.trans ex, by subst hw2; rfl, by subst hw2; exact h.old⟩, ⟨fun n ob e1 => ?_, fun m n b c e1 e2 ee => ?_, ?_, fun a m n b e1 z => ?_⟩, ?_⟩
  · have e1 : (w'.st ++ [some (Ob.lst xs)])[n]? = some (some ob) := by subst hw2; exact e1
    have hb : w2.bet n = if n = w'.st.length then p else w'.bet n := by subst hw2; rfl
    have hH : w2.H = w'.H := by subst hw2; rfl
    rw [hb]
    rcases st_app e1 with ⟨h1, h2⟩ | ⟨h1, h2⟩
    · rw [if_neg (Nat.ne_of_lt h1)]
      exact (h.ok.ob n ob h2).ext ex fun _ q => by rw [hH]; exact q
    · rw [if_pos h1, h2]
      exact ⟨vs, by rw [hH]; exact e, Reps.ext ex _ _ r⟩
  · have e1 : (w'.st ++ [some (Ob.lst xs)])[m]? = some (some b) := by subst hw2; exact e1
    have e2 : (w'.st ++ [some (Ob.lst xs)])[n]? = some (some c) := by subst hw2; exact e2
    have ee : (if m = w'.st.length then p else w'.bet m) = (if n = w'.st.length then p else w'.bet n) := by subst hw2; exact ee
    rcases st_app e1 with ⟨h1, h2⟩ | ⟨h1, h2⟩ <;> rcases st_app e2 with ⟨k1, k2⟩ | ⟨k1, k2⟩
    · rw [if_neg (Nat.ne_of_lt h1), if_neg (Nat.ne_of_lt k1)] at ee
      exact h.ok.inj m n b c h2 k2 ee
    · rw [if_neg (Nat.ne_of_lt h1), if_pos k1] at ee
      exact absurd ee (h.ok.hidN p pm m b h2)
    · rw [if_pos h1, if_neg (Nat.ne_of_lt k1)] at ee
      exact absurd ee.symm (h.ok.hidN p pm n c k2)
    · omega
  · intro a m
    have m : a ∈ w.hid := by subst hw2; exact m
    have hH : w2.H = w'.H := by subst hw2; rfl
    rw [hH]
    exact h.ok.hidL a (by rw [h.hid]; exact List.mem_cons_of_mem _ m)
  · have m : a ∈ w.hid := by subst hw2; exact m
    have e1 : (w'.st ++ [some (Ob.lst xs)])[n]? = some (some b) := by subst hw2; exact e1
    have z : (if n = w'.st.length then p else w'.bet n) = a := by subst hw2; exact z
    rcases st_app e1 with ⟨h1, h2⟩ | ⟨h1, h2⟩
    · rw [if_neg (Nat.ne_of_lt h1)] at z
      exact h.ok.hidN a (by rw [h.hid]; exact List.mem_cons_of_mem _ m) n b h2 z
    · rw [if_pos h1] at z
      exact np (by rw [z]; exact m)
  · subst hw2
    exact ⟨by show _ < (w'.st ++ [_]).length; rw [List.length_append]; exact Nat.lt_succ_self _, by show _ = V.ref (if w'.st.length = w'.st.length then p else _); rw [if_pos rfl]⟩
end
section
variable {X : Cx} {W : WX}
/-- the loop's reading -/
theorem comp_loop {C : Ctx} (hC : C.K = X.K) {m : Bool} {items : List D} {g : D → Env → Option Env} {sl vs : List Nat} {c : Env → M Bool} {f : Env → M D} {w : Wd} {ρ : Env} {σ : L2.St} {Q : VK} {E : Exc → Wd → Prop} {J : It} {p : Addr} {gT : TG} {tt : TT} {te : TE}
    (hgT : ∀ v σ H Q, tGD X.K sl g v σ H Q → gT v σ H Q) (htt : ∀ σ H Q, tX (cx X W0) (fun _ (a b : Bool) => a = b) T0 c σ H Q → tt σ H Q) (hte : ∀ σ H Q, tX (cx X W0) (Rep X.K) T0 f σ H Q → te σ H Q)
    (hsl : ∀ i, i ∈ sl → i ∈ vs) (ok : WOk X.K w) (re : RepE X.K w σ ρ) (jok : ItOk X.K w items J) (np : w.H p = none)
    (q : Post C (Rep X.K) w ((compGo g c f (wipeE ρ vs) items [] w.st).bnd (mkL m)) Q E) :
    ∃ Wv : Nat → Nat → Hp → Prop, (∃ m, Wv 0 m (upd w.H p (.lst []))) ∧ ∀ i m H, Wv i m H →
      (J.stop i H ∧ Q (.ref p) H) ∨ (J.go i H ∧ ∃ Nx : Hp → Prop, (∀ H', Nx H' → ∃ m', m' < m ∧ Wv (i + 1) m' H') ∧ ∀ x H', J.yld i H x H' → gT x (wipe σ vs) H' fun σ2 H2 => wipe σ2 vs = wipe σ vs ∧ tt σ2 H2 fun b H3 =>
        if b = true then te σ2 H3 fun y H4 => ∃ acc, H4 p = some (.lst acc) ∧ acc.length < sizeLine ∧ Nx (upd H4 p (.lst (acc ++ [y]))) else Nx H3) := by
  refine ⟨fun i m' H => ∃ w2 acc, w2.H = H ∧ Made X.K w w2 p acc ∧ i ≤ items.length ∧ m' = items.length - i ∧ Post C (Rep X.K) w ((compGo g c f (wipeE ρ vs) (items.drop i) acc w2.st).bnd (mkL m)) Q E,
    ⟨items.length, w.hide p, [], rfl, ⟨np, ok, wok_hide ok np, ext_hide np, rfl, fun a hm => ?_, [], upd_same, reps_nil⟩, Nat.zero_le _, by omega, by rw [List.drop_zero]; exact q⟩, ?_⟩
  · show upd w.H p _ a = _
    obtain ⟨us, e⟩ := ok.hidL a hm
    rw [upd_ne (ne_of_none e np)]
  rintro i m' H ⟨w2, acc, rfl, md, hi, rfl, q2⟩
  obtain ⟨jit, jst⟩ := jok w2 md.ext md.ok
  have pm : p ∈ w2.hid := by rw [md.hid]; exact List.mem_cons_self
  by_cases hlt : i < items.length
  · obtain ⟨jgo, jy⟩ := jit i items[i] (List.getElem?_eq_getElem hlt)
    refine .inr ⟨jgo, fun H' => ∃ w2 acc, w2.H = H' ∧ Made X.K w w2 p acc ∧ Post C (Rep X.K) w ((compGo g c f (wipeE ρ vs) (items.drop (i + 1)) acc w2.st).bnd (mkL m)) Q E, fun H' ⟨w5, acc5, e5, md5, q5⟩ => ⟨items.length - (i + 1), by omega, w5, acc5, e5, md5, hlt, rfl, q5⟩, fun x H' hy => ?_⟩
    obtain ⟨w3, rfl, g3, ok3, st3, rx⟩ := jy x H' hy
    rw [List.drop_eq_getElem_cons hlt] at q2
    have q2 : Post C (Rep X.K) w (((match g items[i] (wipeE ρ vs) with
      | none => badM
      | some ρ₁ => bnd (mN (c ρ₁)) fun b => if b then bnd (mN (f ρ₁)) fun v => if acc.length < sizeLine then compGo g c f (wipeE ρ vs) (items.drop (i + 1)) (acc ++ [v]) else badM
        else compGo g c f (wipeE ρ vs) (items.drop (i + 1)) acc) w2.st).bnd (mkL m)) Q E := q2
    cases eg : g items[i] (wipeE ρ vs) with
    | none => rw [eg] at q2; exact q2.elim
    | some ρ1 =>
      rw [eg] at q2
      have q2 : Post C (Rep X.K) w (((noX (c ρ1 w2.st)).bnd fun b => if b then bnd (mN (f ρ1)) fun v => if acc.length < sizeLine then compGo g c f (wipeE ρ vs) (items.drop (i + 1)) (acc ++ [v]) else badM
        else compGo g c f (wipeE ρ vs) (items.drop (i + 1)) acc).bnd (mkL m)) Q E := q2
      have md3 : ∀ {w4 : Wd}, Grow w3 w4 → WOk X.K w4 → Made X.K w w4 p acc := fun {w4} g4 ok4 => by
        have gg := g3.trans g4
        obtain ⟨us, e1, r1⟩ := md.at_
        refine ⟨np, ok, ok4, md.ext.trans gg.ext, gg.hid.trans md.hid, fun a ha => (gg.hids a (by rw [md.hid]; exact List.mem_cons_of_mem _ ha)).trans (md.old a ha), us, ?_, Reps.grow gg _ _ r1⟩
        rw [gg.hids p pm]
        exact e1
      refine hgT _ _ _ _ ⟨w3, wipeE ρ vs, items[i], ρ1, rfl, ok3, ((re.ext md.ext).ext g3.ext).wipe vs, rx, eg, fun σ2 re2 wi => ⟨(wi vs hsl).trans (wipe_wipe σ vs), htt _ _ _ ⟨w3, ρ1, rfl, ok3, re2, trivial, ?_⟩⟩⟩
      rw [st3]
      cases ec : c ρ1 w2.st with
      | bad => rw [ec] at q2; exact q2.elim
      | exc _ _ => rw [ec] at q2; exact q2.elim
      | ok b st1 =>
        rw [ec] at q2
        intro w4 g4 ok4 es4 b' eb
        subst eb
        cases b with
        | false =>
          rw [if_neg Bool.false_ne_true]
          exact ⟨w4, acc, rfl, md3 g4 ok4, by rw [es4]; exact q2⟩
        | true =>
          rw [if_pos rfl]
          have q2 : Post C (Rep X.K) w (((noX (f ρ1 st1)).bnd fun v => if acc.length < sizeLine then compGo g c f (wipeE ρ vs) (items.drop (i + 1)) (acc ++ [v]) else badM).bnd (mkL m)) Q E := q2
          refine hte _ _ _ ⟨w4, ρ1, rfl, ok4, re2.grow g4, trivial, ?_⟩
          rw [es4]
          cases ef : f ρ1 st1 with
          | bad => rw [ef] at q2; exact q2.elim
          | exc _ _ => rw [ef] at q2; exact q2.elim
          | ok d st2 =>
            rw [ef] at q2
            intro w5 g5 ok5 es5 y ry
            have q2 : Post C (Rep X.K) w (((if acc.length < sizeLine then compGo g c f (wipeE ρ vs) (items.drop (i + 1)) (acc ++ [d]) else badM) st2).bnd (mkL m)) Q E := q2
            by_cases hz : acc.length < sizeLine
            · rw [if_pos hz] at q2
              have md5 := md3 (g4.trans g5) ok5
              obtain ⟨us, e1, r1⟩ := md5.at_
              have pm5 : p ∈ w5.hid := by rw [md5.hid]; exact List.mem_cons_self
              have ex := ext_more (us := us ++ [y]) ok5 pm5 e1
              refine ⟨us, e1, by rw [← r1.length]; exact hz, w5.put p (.lst (us ++ [y])), acc ++ [d], rfl, ⟨np, ok, wok_more ok5 pm5 e1, md5.ext.trans ex, md5.hid, fun a ha => ?_, us ++ [y], upd_same, Reps.ext ex _ _ (r1.app (reps_cons ry reps_nil))⟩, ?_⟩
              · show upd w5.H p _ a = _
                have na : a ≠ p := fun z => by
                  obtain ⟨us2, e2⟩ := ok.hidL a ha
                  rw [z, np] at e2
                  cases e2
                rw [upd_ne na]
                exact md5.old a ha
              · show Post C (Rep X.K) w ((compGo g c f (wipeE ρ vs) (items.drop (i + 1)) (acc ++ [d]) w5.st).bnd (mkL m)) Q E
                rw [es5]
                exact q2
            · rw [if_neg hz] at q2
              exact q2.elim
  · have e : i = items.length := by omega
    subst e
    rw [List.drop_length] at q2
    refine .inl ⟨jst, ?_⟩
    have q2 : Post C (Rep X.K) w (mkL m acc w2.st) Q E := q2
    unfold mkL at q2
    cases m with
    | false =>
      obtain ⟨g1, ok1, r1⟩ := md.end_
      exact q2 _ g1 (by rw [hC]; exact ok1) rfl _ r1
    | true =>
      obtain ⟨w3, e1, e2, g1, ok1, r1⟩ := md.endS
      have := q2 w3 g1 (by rw [hC]; exact ok1) e2 _ r1
      rw [e1] at this
      exact this
theorem comp_imp {m : Bool} {own : List (Str × Nat)} {sl : List Nat} {g : D → Env → Option Env} {c : Env → M Bool} {f : Env → M D} {it : Env → M (List D)} {σ : L2.St} {H : Hp} {Q : VK} (hsl : ∀ i, i ∈ sl → i ∈ own.map (·.2))
    (h : tX (cx X W) (Rep X.K) T0 (sComp m (own.map (·.2)) g c f it) σ H Q) :
    tLc (tIx (cx X W) it) (tGD X.K sl g) (tX (cx X W0) (fun _ (a b : Bool) => a = b) T0 c) (tX (cx X W0) (Rep X.K) T0 f) (own.map (·.2)) σ H Q := by
  obtain ⟨w, ρ, rfl, ok, re, _, q⟩ := h
  refine ⟨w, ρ, rfl, ok, re, ?_⟩
  have q : Post (cx X W) (Rep X.K) w ((it ρ w.st).bnd fun items => bnd (compGo g c f (wipeE ρ (own.map (·.2))) items []) (mkL m)) Q _ := q
  cases e : it ρ w.st with
  | bad => rw [e] at q; exact q
  | exc _ _ => rw [e] at q; exact q
  | ok items st =>
    rw [e] at q
    intro w1 g1 ok1 es J jok p np
    have q : Post (cx X W) (Rep X.K) w ((compGo g c f (wipeE ρ (own.map (·.2))) items [] st).bnd (mkL m)) Q _ := q
    exact comp_loop (C := cx X W) rfl (fun _ _ _ _ h => h) (fun _ _ _ h => h) (fun _ _ _ h => h) hsl ok1 (re.grow g1) jok np (by rw [es]; exact q.grow g1)
theorem de_comp (m : Bool) {elt tg iter : Expr} {ifs : List Expr} {scope : Scope} {own : List (Str × Nat)} {sl : List Nat} {pos : Pos} {g : D → Env → Option Env} {c : Env → M Bool} {f : Env → M D} {it : Env → M (List D)} (hc : X.calm = true) (hN : X.N.Nodup) (hi : DI X W tg iter it) (ok : BlkOk X.N X.env.scope scope own)
    (hg : ∀ (s : Shared) (H : Hp) (Ca : Addr) (cl : List (Str × Addr)) (fp : List Addr), DG (X.blk s H scope (compEnvC scope cl Ca X.env) fp) tg sl g) (ht : ∀ (s : Shared) (H : Hp) (Ca : Addr) (cl : List (Str × Addr)) (fp : List Addr), DQ (X.blk s H scope (compEnvC scope cl Ca X.env) fp) ifs c)
    (he : ∀ (s : Shared) (H : Hp) (Ca : Addr) (cl : List (Str × Addr)) (fp : List Addr), DE (X.blk s H scope (compEnvC scope cl Ca X.env) fp) W0 elt f) (hsl : ∀ i, i ∈ sl → i ∈ own.map (·.2) := by decide) (hs : ∀ x, foldedSetIterable iter X.env x = pure x := by intro _; rfl) :
    DE X W (.ListComp elt [⟨tg, iter, ifs, 0⟩] scope pos) (sComp m (own.map (·.2)) g c f it) :=
  (pe_lc hc hN hi ok hg ht he hs).imp fun σ H Q h => comp_imp hsl h
theorem dq_nil : DQ X [] sYes := ⟨fun pins s σ H Q I h => by
  obtain ⟨w, ρ, rfl, ok, re, _, q⟩ := h
  exact pts_nil.run pins s σ _ Q I (q w (Grow.refl w) ok rfl true rfl)⟩
theorem dq_one {e : Expr} {f : Env → M Bool} (h : DT X W0 e f) : DQ X [e] f := pts_one h
end
end PL
/-! PL9: statements. -/
namespace L2
open PySem PySem.Spec PyProof.Rows
section
variable {X : Cx}
theorem PS.imp {e : Stmt} {t t' : TS} (h : PS X e t) (k : ∀ D σ H, t' D σ H → t D σ H) : PS X e t' := ⟨fun pins s σ H D I q => h.run pins s σ H D I (k D σ H q)⟩
theorem PSs.imp {e : List Stmt} {t t' : TS} (h : PSs X e t) (k : ∀ D σ H, t' D σ H → t D σ H) : PSs X e t' := ⟨fun pins s σ H D I q => h.run pins s σ H D I (k D σ H q)⟩
end
end L2
namespace PL
open PySem PySem.Spec PyProof.Rows L2

inductive SRes where
  | nx (ρ : Env) (st : Store)
  | rt (d : D) (st : Store)
  | bk (ρ : Env) (st : Store)
  | ct (ρ : Env) (st : Store)
  | ex (e : Exc) (ρ : Env) (st : Store)
  | bad
abbrev SM := Env → Store → SRes
def SPost (C : Ctx) (w : Wd) (r : SRes) (D : Ends) : Prop := match r with
  | .nx ρ' st => ∀ w', Grow w w' → WOk C.K w' → w'.st = st → ∀ σ', RepE C.K w' σ' ρ' → D.nx σ' w'.H
  | .rt d st => ∀ w', Grow w w' → WOk C.K w' → w'.st = st → ∀ v, Rep C.K w' d v → D.rt v w'.H
  | .bk ρ' st => ∀ w', Grow w w' → WOk C.K w' → w'.st = st → ∀ σ', RepE C.K w' σ' ρ' → D.bk σ' w'.H
  | .ct ρ' st => ∀ w', Grow w w' → WOk C.K w' → w'.st = st → ∀ σ', RepE C.K w' σ' ρ' → D.ct σ' w'.H
  | .ex e ρ' st => ∀ w', Grow w w' → WOk C.K w' → w'.st = st → ∀ σ', RepE C.K w' σ' ρ' → C.we σ' e w'
  | .bad => False
theorem SPost.grow {C : Ctx} {w w1 : Wd} {r : SRes} {D : Ends} (g : Grow w w1) (h : SPost C w r D) : SPost C w1 r D := by
  cases r with
  | bad => exact h
  | nx ρ st => exact fun w' g' => h w' (g.trans g')
  | rt ρ st => exact fun w' g' => h w' (g.trans g')
  | bk ρ st => exact fun w' g' => h w' (g.trans g')
  | ct ρ st => exact fun w' g' => h w' (g.trans g')
  | ex e ρ st => exact fun w' g' => h w' (g.trans g')
def tS (C : Ctx) (f : SM) : TS := fun D σ H => ∃ w ρ, w.H = H ∧ WOk C.K w ∧ RepE C.K w σ ρ ∧ SPost C w (f ρ w.st) D
abbrev DS (X : Cx) (W : WX) (st : Stmt) (f : SM) : Prop := PS X st (tS (cx X W) f)
abbrev DSs (X : Cx) (W : WX) (st : List Stmt) (f : SM) : Prop := PSs X st (tS (cx X W) f)

def sSkip : SM := fun ρ st => .nx ρ st
def sSeq (f g : SM) : SM := fun ρ st => match f ρ st with
  | .nx ρ' st' => g ρ' st'
  | r => r
/-- an expression, then a statement's rest -/
def sThen {α : Type} (f : Env → M α) (k : α → SM) : SM := fun ρ st => match f ρ st with
  | .ok a st' => k a ρ st'
  | .exc e st' => .ex e ρ st'
  | .bad => .bad
def sSet (i : Nat) (f : Env → M D) : SM := sThen f fun d ρ st => .nx (ρ.set i (some d)) st
def sAsg (g : D → Env → Option Env) (f : Env → M D) : SM := sThen f fun d ρ st => match g d ρ with
  | some ρ' => .nx ρ' st
  | none => .bad
def sExpr (f : Env → M D) : SM := sThen f fun _ ρ st => .nx ρ st
def sRet (f : Env → M D) : SM := sThen f fun d _ st => .rt d st
def sRetN : SM := fun _ st => .rt .non st
def sIfS (c : Env → M Bool) (f g : SM) : SM := sThen c fun b => if b then f else g
def sBrk : SM := fun ρ st => .bk ρ st
def sCnt : SM := fun ρ st => .ct ρ st
def sPar (i j : Nat) (f : Env → M (List D)) : SM := sThen f fun ds ρ st => match ds with
  | [a, b] => .nx ((ρ.set i (some a)).set j (some b)) st
  | _ => .bad
def sPar3 (i j l : Nat) (f : Env → M (List D)) : SM := sThen f fun ds ρ st => match ds with
  | [a, b, c] => .nx (((ρ.set i (some a)).set j (some b)).set l (some c)) st
  | _ => .bad
def forGo (g : D → Env → Option Env) (body : SM) : List D → SM
  | [], ρ, st => .nx ρ st
  | d :: r, ρ, st => match g d ρ with
    | none => .bad
    | some ρ1 => match body ρ1 st with
      | .nx ρ2 st2 => forGo g body r ρ2 st2
      | .ct ρ2 st2 => forGo g body r ρ2 st2
      | .bk ρ2 st2 => .nx ρ2 st2
      | x => x
def sFor (g : D → Env → Option Env) (it : Env → M (List D)) (body : SM) : SM := sThen it fun items => forGo g body items
def whileGo (c : Env → M Bool) (body : SM) : Nat → SM
  | 0, _, _ => .bad
  | n + 1, ρ, st => match c ρ st with
    | .bad => .bad
    | .exc e st1 => .ex e ρ st1
    | .ok false st1 => .nx ρ st1
    | .ok true st1 => match body ρ st1 with
      | .nx ρ2 st2 => whileGo c body n ρ2 st2
      | .ct ρ2 st2 => whileGo c body n ρ2 st2
      | .bk ρ2 st2 => .nx ρ2 st2
      | x => x
def sWhile (n : Nat) (c : Env → M Bool) (body : SM) : SM := whileGo c body n
/-- xs[i] = v -/
def setD (o i v : D) (st : Store) : Option Store := match o, i with
  | .ref n, .int k => match st[n]? with
    | some (some (.lst xs)) => (ixN xs.length k).map fun j => st.set n (some (.lst (xs.set j v)))
    | _ => none
  | _, _ => none
theorem setD_cases {o i v : D} {st st' : Store} (h : setD o i v st = some st') : ∃ n k xs j, o = .ref n ∧ i = .int k ∧ st[n]? = some (some (.lst xs)) ∧ ixN xs.length k = some j ∧ st' = st.set n (some (.lst (xs.set j v))) := by
  unfold setD at h
  split at h
  · split at h
    · rename_i n k _ xs hn
      cases ej : ixN xs.length k with
      | none => rw [ej] at h; cases h
      | some j =>
        rw [ej] at h
        cases h
        exact ⟨n, k, xs, j, rfl, rfl, hn, ej, rfl⟩
    · cases h
  · cases h
def sSetIx (fv fo fi : Env → M D) : SM := sThen (fun ρ => bnd (fv ρ) fun v => bnd (fo ρ) fun o => bnd (fi ρ) fun i st => match setD o i v st with
  | some st' => .ok () st'
  | none => .bad) fun _ ρ st => .nx ρ st
def augOp : BOp → D → D → Store → Option D
  | .add, .int i, .int j, _ => some (.int (i + j))
  | .add, .str s, .str t, _ => if s.length + t.length ≤ sizeLine then some (.str (s ++ t)) else none
  | .sub, .int i, .int j, _ => some (.int (i - j))
  | .mul, .int i, .int j, _ => if i.natAbs < 2 ^ 64 then some (.int (i * j)) else none
  | .fdiv, .int i, .int j, _ => if 0 < j ∧ j < 1073741824 then some (.int (i / j)) else none
  | _, _, _, _ => none
def sAug (i : Nat) (op : BOp) (f : Env → M D) : SM := sThen (fun ρ => bnd (sVar i ρ) fun x => bnd (f ρ) fun y => fun st => ofO (augOp op x y st) st) fun d ρ st => .nx (ρ.set i (some d)) st
section
variable {X : Cx} {W : WX}
/-- how a reading of an expression serves a statement -/
theorem then_imp {α β : Type} {R : Wd → α → β → Prop} {f : Env → M α} {k : α → SM} {D : Ends} {σ : L2.St} {H : Hp} (h : tS (cx X W) (sThen f k) D σ H) :
    tX (cx X W) R T0 f σ H fun x H1 => ∃ w ρ a, w.H = H1 ∧ WOk X.K w ∧ RepE X.K w σ ρ ∧ R w a x ∧ SPost (cx X W) w (k a ρ w.st) D := by
  obtain ⟨w, ρ, rfl, ok, re, q⟩ := h
  refine ⟨w, ρ, rfl, ok, re, trivial, ?_⟩
  unfold sThen at q
  cases e : f ρ w.st with
  | bad => rw [e] at q; exact q
  | exc x st =>
    rw [e] at q
    exact fun w' g ok' es => q w' g ok' es σ (re.grow g)
  | ok a st =>
    rw [e] at q
    exact fun w' g ok' es x hx => ⟨w', ρ, a, rfl, ok', re.grow g, hx, by rw [es]; exact q.grow g⟩
theorem dss_nil : DSs X W [] sSkip := PSs.imp pss_nil fun D σ H h => by
  obtain ⟨w, ρ, rfl, ok, re, q⟩ := h
  exact q w (Grow.refl w) ok rfl σ re
theorem seq_imp {f g : SM} {D : Ends} {σ : L2.St} {H : Hp} (h : tS (cx X W) (sSeq f g) D σ H) : tS (cx X W) f { D with nx := tS (cx X W) g D } σ H := by
  obtain ⟨w, ρ, rfl, ok, re, q⟩ := h
  refine ⟨w, ρ, rfl, ok, re, ?_⟩
  unfold sSeq at q
  cases e : f ρ w.st with
  | bad => rw [e] at q; exact q
  | nx ρ' st =>
    rw [e] at q
    exact fun w' g' ok' es σ' re' => ⟨w', ρ', rfl, ok', re', by rw [es]; exact q.grow g'⟩
  | rt d st => rw [e] at q; exact q
  | bk d st => rw [e] at q; exact q
  | ct d st => rw [e] at q; exact q
  | ex x ρ' st => rw [e] at q; exact q
theorem dss_cons {s : Stmt} {r : List Stmt} {f g : SM} (h1 : DS X W s f) (h2 : DSs X W r g) : DSs X W (s :: r) (sSeq f g) := PSs.imp (pss_cons h1 h2) fun D σ H h => seq_imp h
theorem dss_one {s : Stmt} {f : SM} (h : DS X W s f) : DSs X W [s] f := pss_one h
theorem ds_set (i : Nat) {x : Str} {e : Expr} {f : Env → M D} {pos' pos : Pos} (hN : X.N.Nodup) (hi : X.N[i]? = some x) (hx : Loc X.env.scope x) (he : DE X W e f) (hs : swapsWith e (some (.Name x pos')) pos.line X.env = pure false := by rfl)
    (hf : X.fn x = true ∨ X.env.scope.names.lookup x = some .local := by first | exact .inl rfl | exact .inr rfl | assumption) : DS X W (.Assign [.Name x pos'] e pos) (sSet i f) :=
  PS.imp (ps_set hN hi hx he hs hf) fun D σ H h => (then_imp (R := Rep X.K) h).imp fun x H1 ⟨w, ρ, a, e1, ok, re, r, q⟩ => by
    subst e1
    exact q w (Grow.refl w) ok rfl _ (re.set i r)
theorem asg_imp {g : D → Env → Option Env} {sl : List Nat} {f : Env → M D} {D : Ends} {σ : L2.St} {H : Hp} (h : tS (cx X W) (sAsg g f) D σ H) : tX (cx X W) (Rep X.K) T0 f σ H fun x H1 => tGD X.K sl g x σ H1 D.nx :=
  (then_imp (R := Rep X.K) h).imp fun x H1 ⟨w, ρ, a, e1, ok, re, r, q⟩ => by
    subst e1
    cases eg : g a ρ with
    | none => rw [eg] at q; exact q.elim
    | some ρ' =>
      rw [eg] at q
      exact ⟨w, ρ, a, ρ', rfl, ok, re, r, eg, fun σ' re' _ => q w (Grow.refl w) ok rfl σ' re'⟩
theorem ds_asg {tg e : Expr} {sl : List Nat} {g : D → Env → Option Env} {f : Env → M D} {pos : Pos} (he : DE X W e f) (hg : DG X tg sl g) (hs : swapsWithSole [tg] e pos.line X.env = pure false := by rfl) (hw : swappedStores [tg] e X.env = pure none := by rfl)
    (h1 : (assignEach [tg] X.env).map (·.2) = [assign tg X.env] := by rfl) : DS X W (.Assign [tg] e pos) (sAsg g f) :=
  PS.imp (ps_asg he hg hs hw h1) fun D σ H h => asg_imp h
/-- y = [..] on one line -/
theorem ds_setLc (i : Nat) (m : Bool) {y : Str} {py : Pos} {elt tg iter : Expr} {ifs : List Expr} {scope : Scope} {own : List (Str × Nat)} {sl : List Nat} {pos spos : Pos} {g : D → Env → Option Env} {c : Env → M Bool} {f : Env → M D} {it : Env → M (List D)} (hc : X.calm = true) (hN : X.N.Nodup)
    (hy : X.N[i]? = some y) (hyl : X.env.scope.names.lookup y = some .local) (hsw : swapsWith (.ListComp elt [⟨tg, iter, ifs, 0⟩] scope pos) (some (.Name y py)) spos.line X.env = pure true) (hi : DI X W tg iter it) (ok : BlkOk X.N X.env.scope scope own)
    (hg : ∀ (s : Shared) (H : Hp) (Ca : Addr) (cl : List (Str × Addr)) (fp : List Addr), DG (X.blk s H scope (compEnvC scope cl Ca X.env) fp) tg sl g) (ht : ∀ (s : Shared) (H : Hp) (Ca : Addr) (cl : List (Str × Addr)) (fp : List Addr), DQ (X.blk s H scope (compEnvC scope cl Ca X.env) fp) ifs c)
    (he : ∀ (s : Shared) (H : Hp) (Ca : Addr) (cl : List (Str × Addr)) (fp : List Addr), DE (X.blk s H scope (compEnvC scope cl Ca X.env) fp) W0 elt f) (hsl : ∀ i, i ∈ sl → i ∈ own.map (·.2) := by decide) (hs : ∀ x, foldedSetIterable iter X.env x = pure x := by intro _; rfl) :
    DS X W (.Assign [.Name y py] (.ListComp elt [⟨tg, iter, ifs, 0⟩] scope pos) spos) (sSet i (sComp m (own.map (·.2)) g c f it)) :=
  PS.imp (ps_setLc hc hN hy hyl hsw hi ok hg ht he hs) fun D σ H h => comp_imp hsl ((then_imp (R := Rep X.K) h).imp fun x H1 ⟨w, ρ, a, e1, ok, re, r, q⟩ => by
    subst e1
    exact q w (Grow.refl w) ok rfl _ (re.set i r))
theorem ds_expr {e : Expr} {f : Env → M D} {pos : Pos} (he : DE X W e f) (hs : swapsWith e none pos.line X.env = pure false := by rfl) : DS X W (.Expr e pos) (sExpr f) :=
  PS.imp (ps_expr he hs) fun D σ H h => (then_imp (R := Rep X.K) h).imp fun x H1 ⟨w, ρ, a, e1, ok, re, r, q⟩ => by
    subst e1
    exact q w (Grow.refl w) ok rfl _ re
theorem ds_ret {e : Expr} {f : Env → M D} {pos : Pos} (he : DE X W e f) : DS X W (.Return (some e) pos) (sRet f) :=
  PS.imp (ps_ret he) fun D σ H h => (then_imp (R := Rep X.K) h).imp fun x H1 ⟨w, ρ, a, e1, ok, re, r, q⟩ => by
    subst e1
    exact q w (Grow.refl w) ok rfl _ r
theorem ds_retN {pos : Pos} : DS X W (.Return none pos) sRetN := PS.imp ps_retN fun D σ H h => by
  obtain ⟨w, ρ, rfl, ok, re, q⟩ := h
  exact q w (Grow.refl w) ok rfl V.non rfl
theorem ds_pass {pos : Pos} : DS X W (.Pass pos) sSkip := PS.imp ps_pass fun D σ H h => by
  obtain ⟨w, ρ, rfl, ok, re, q⟩ := h
  exact q w (Grow.refl w) ok rfl σ re
theorem ds_brk {pos : Pos} : DS X W (.Break pos) sBrk := PS.imp ps_break fun D σ H h => by
  obtain ⟨w, ρ, rfl, ok, re, q⟩ := h
  exact q w (Grow.refl w) ok rfl σ re
theorem ds_cnt {pos : Pos} : DS X W (.Continue pos) sCnt := PS.imp ps_continue fun D σ H h => by
  obtain ⟨w, ρ, rfl, ok, re, q⟩ := h
  exact q w (Grow.refl w) ok rfl σ re
theorem ds_if {c : Expr} {a b : List Stmt} {fc : Env → M Bool} {f g : SM} {pos : Pos} (hc : DT X W c fc) (ha : DSs X W a f) (hb : DSs X W b g) : DS X W (.If c a b pos) (sIfS fc f g) :=
  PS.imp (ps_if hc ha hb) fun D σ H h => (then_imp (R := fun _ (a b : Bool) => a = b) h).imp fun x H1 ⟨w, ρ, k, e1, ok, re, r, q⟩ => by
    subst e1 r
    cases k with
    | true => rw [if_pos rfl]; exact ⟨w, ρ, rfl, ok, re, q⟩
    | false => rw [if_neg Bool.false_ne_true]; exact ⟨w, ρ, rfl, ok, re, q⟩
theorem ds_par (i j : Nat) {x y : Str} {a b : Expr} {f : Env → M (List D)} {px py pt pos : Pos} {kt k2 pt2} (hc : X.calm = true) (hN : X.N.Nodup) (hi : X.N[i]? = some x) (hj : X.N[j]? = some y) (hij : i ≠ j)
    (hx : X.env.scope.names.lookup x = some .local) (hy : X.env.scope.names.lookup y = some .local) (ha : DA X W [a, b] f)
    (hw : swappedStores [.Tuple [.Name x px, .Name y py] kt pt] (.Tuple [a, b] k2 pt2) X.env = pure (some [x, y]))
    (hs : swapsWithSole [.Tuple [.Name x px, .Name y py] kt pt] (.Tuple [a, b] k2 pt2) pos.line X.env = pure false := by rfl) :
    DS X W (.Assign [.Tuple [.Name x px, .Name y py] kt pt] (.Tuple [a, b] k2 pt2) pos) (sPar i j f) :=
  PS.imp (ps_par hc hN hi hj hij hx hy ha hw hs) fun D σ H h => (then_imp (R := Reps X.K) h).imp fun z H1 ⟨w, ρ, ds, e1, ok, re, r, q⟩ => by
    subst e1
    cases ds with
    | nil => exact q.elim
    | cons d1 ds => cases ds with
      | nil => exact q.elim
      | cons d2 ds => cases ds with
        | cons _ _ => exact q.elim
        | nil =>
          obtain ⟨u, v, rfl, r1, r2⟩ := reps2 r
          exact ⟨u, v, rfl, q w (Grow.refl w) ok rfl _ ((re.set i r1).set j r2)⟩
theorem for_imp {g : D → Env → Option Env} {sl : List Nat} {it : Env → M (List D)} {body : SM} {D : Ends} {σ : L2.St} {H : Hp} (h : tS (cx X W) (sFor g it body) D σ H) :
    tFor (tIx (cx X W) it) (tGD X.K sl g) (tS (cx X W) body) D σ H := by
  obtain ⟨w, ρ, rfl, ok, re, q⟩ := h
  refine ⟨w, ρ, rfl, ok, re, ?_⟩
  unfold sFor sThen at q
  cases e : it ρ w.st with
  | bad => rw [e] at q; exact q
  | exc x st => rw [e] at q; exact fun w' g' ok' es => q w' g' ok' es σ (re.grow g')
  | ok items st =>
    rw [e] at q
    intro w0 g0 ok0 es J jok
    refine ⟨fun i m σ H => ∃ w ρ, w.H = H ∧ WOk X.K w ∧ RepE X.K w σ ρ ∧ Ext w0 w ∧ i ≤ items.length ∧ m = items.length - i ∧ SPost (cx X W) w (forGo g body (items.drop i) ρ w.st) D,
      ⟨items.length, w0, ρ, rfl, ok0, re.grow g0, Ext.refl w0, Nat.zero_le _, by omega, by rw [List.drop_zero, es]; exact SPost.grow g0 q⟩, ?_⟩
    rintro i m σ2 H2 ⟨w2, ρ2, rfl, ok2, re2, ex2, hi, rfl, q2⟩
    obtain ⟨jit, jst⟩ := jok w2 ex2 ok2
    by_cases hlt : i < items.length
    · obtain ⟨jgo, jy⟩ := jit i items[i] (List.getElem?_eq_getElem hlt)
      refine .inr ⟨jgo, fun σ' H' => ∃ w ρ, w.H = H' ∧ WOk X.K w ∧ RepE X.K w σ' ρ ∧ Ext w0 w ∧ SPost (cx X W) w (forGo g body (items.drop (i + 1)) ρ w.st) D,
        fun σ' H' ⟨w5, ρ5, e5, ok5, re5, ex5, q5⟩ => ⟨items.length - (i + 1), by omega, w5, ρ5, e5, ok5, re5, ex5, hlt, rfl, q5⟩, fun x H' hy => ?_⟩
      obtain ⟨w3, rfl, g3, ok3, st3, rx⟩ := jy x H' hy
      rw [List.drop_eq_getElem_cons hlt] at q2
      unfold forGo at q2
      cases eg : g items[i] ρ2 with
      | none => rw [eg] at q2; exact q2.elim
      | some ρ3 =>
        rw [eg] at q2
        refine ⟨w3, ρ2, items[i], ρ3, rfl, ok3, re2.grow g3, rx, eg, fun σ3 re3 _ => ⟨w3, ρ3, rfl, ok3, re3, ?_⟩⟩
        rw [st3]
        have q2 := SPost.grow g3 q2
        have go : ∀ {ρ4 : Env} {st4 : Store}, SPost (cx X W) w3 (forGo g body (items.drop (i + 1)) ρ4 st4) D → ∀ w', Grow w3 w' → WOk X.K w' → w'.st = st4 → ∀ σ', RepE X.K w' σ' ρ4 →
            ∃ w ρ, w.H = w'.H ∧ WOk X.K w ∧ RepE X.K w σ' ρ ∧ Ext w0 w ∧ SPost (cx X W) w (forGo g body (items.drop (i + 1)) ρ w.st) D := fun {ρ4 st4} q4 w' g' ok' es' σ' re' =>
          ⟨w', ρ4, rfl, ok', re', (ex2.trans g3.ext).trans g'.ext, by rw [es']; exact q4.grow g'⟩
        cases eb : body ρ3 w2.st with
        | bad => simp only [eb] at q2; exact q2.elim
        | nx ρ4 st4 => simp only [eb] at q2; exact go q2
        | ct ρ4 st4 => simp only [eb] at q2; exact go q2
        | bk ρ4 st4 => simp only [eb] at q2; exact q2
        | rt d st4 => simp only [eb] at q2; exact q2
        | ex x ρ4 st4 => simp only [eb] at q2; exact q2
    · have e : i = items.length := by omega
      subst e
      rw [List.drop_length] at q2
      exact .inl ⟨jst, q2 w2 (Grow.refl w2) ok2 rfl σ2 re2⟩
theorem ds_for {tg iter : Expr} {bd : List Stmt} {sl : List Nat} {g : D → Env → Option Env} {it : Env → M (List D)} {body : SM} {pos : Pos} (hp : PassesOwn (model X.prog X.w) X.A X.env X.xe) (hc : X.calm = true) (hi : DI X W tg iter it) (hg : DG X tg sl g) (hb : DSs X W bd body)
    (hs : ∀ x, foldedSetIterable iter X.env x = pure x := by intro _; rfl) : DS X W (.For tg iter bd [] pos) (sFor g it body) :=
  PS.imp (ps_for hp hc hi hg hb hs) fun D σ H h => for_imp h
theorem ds_while (n : Nat) {c : Expr} {bd : List Stmt} {fc : Env → M Bool} {body : SM} {pos : Pos} (hp : PassesOwn (model X.prog X.w) X.A X.env X.xe) (hc : DT X W c fc) (hb : DSs X W bd body) : DS X W (.While c bd [] pos) (sWhile n fc body) := by
  refine PS.imp (ps_while hp hc hb) fun D σ H h => ?_
  refine ⟨fun m σ H => tS (cx X W) (whileGo fc body m) D σ H, ⟨n, h⟩, fun m σ1 H1 q => ?_⟩
  cases m with
  | zero =>
    obtain ⟨w, ρ, rfl, ok, re, q⟩ := q
    exact q.elim
  | succ m =>
    obtain ⟨w, ρ, rfl, ok, re, q⟩ := q
    refine ⟨w, ρ, rfl, ok, re, trivial, ?_⟩
    unfold whileGo at q
    cases e : fc ρ w.st with
    | bad => simp only [e] at q; exact q
    | exc x st => simp only [e] at q; exact fun w' g' ok' es => q w' g' ok' es σ1 (re.grow g')
    | ok k st =>
      intro w' g' ok' es b eb
      subst eb
      cases k with
      | false =>
        simp only [e] at q
        rw [if_neg Bool.false_ne_true]
        exact q w' g' ok' es σ1 (re.grow g')
      | true =>
        simp only [e] at q
        rw [if_pos rfl]
        refine ⟨fun σ' H' => tS (cx X W) (whileGo fc body m) D σ' H', fun σ' H' h => ⟨m, Nat.lt_succ_self m, h⟩, w', ρ, rfl, ok', re.grow g', ?_⟩
        rw [es]
        have q := SPost.grow g' q
        have go : ∀ {ρ4 : Env} {st4 : Store}, SPost (cx X W) w' (whileGo fc body m ρ4 st4) D → ∀ w2, Grow w' w2 → WOk X.K w2 → w2.st = st4 → ∀ σ', RepE X.K w2 σ' ρ4 → tS (cx X W) (whileGo fc body m) D σ' w2.H := fun {ρ4 st4} q4 w2 g2 ok2 es2 σ' re' =>
          ⟨w2, ρ4, rfl, ok2, re', by rw [es2]; exact q4.grow g2⟩
        cases eb : body ρ st with
        | bad => simp only [eb] at q; exact q.elim
        | nx ρ4 st4 => simp only [eb] at q; exact go q
        | ct ρ4 st4 => simp only [eb] at q; exact go q
        | bk ρ4 st4 => simp only [eb] at q; exact q
        | rt d st4 => simp only [eb] at q; exact q
        | ex x ρ4 st4 => simp only [eb] at q; exact q
theorem ds_setIx {o i e : Expr} {fv fo fi : Env → M D} {pos' pos : Pos} (he : DE X W e fv) (ho : DE X W o fo) (hi : DE X W i fi)
    (ha : ∀ v, assign (.Subscript o i pos') X.env v = (do
      let ov ← holding [v] (eval o X.env)
      let iv ← holding [v, ov] (eval i X.env)
      standAt pos'
      holding [v, ov, iv] (setItem ov iv v)
      release [v, ov, iv] []) := by intro _; rfl)
    (hs : swapsWithSole [.Subscript o i pos'] e pos.line X.env = pure false := by rfl) (hw : swappedStores [.Subscript o i pos'] e X.env = pure none := by rfl)
    (h1 : (assignEach [.Subscript o i pos'] X.env).map (·.2) = [assign (.Subscript o i pos') X.env] := by rfl) : DS X W (.Assign [.Subscript o i pos'] e pos) (sSetIx fv fo fi) := by
  refine PS.imp (ps_asg he (pg_sub ho hi set_list ha) hs hw h1) fun D σ H h => ?_
  have h2 := then_imp (R := fun _ (_ : Unit) (_ : Unit) => True) h
  refine (tX.seq0 (R1 := Rep X.K) h2).imp fun x H1 ⟨dv, h3⟩ => ?_
  refine ((tX.seq (R1 := Rep X.K) (mono_and mono0 monoRep) h3).weak).imp fun y H2 ⟨dob, h4⟩ => ?_
  refine ((tX.seq (R1 := Rep X.K) (mono_and (mono_and mono0 monoRep) monoRep) h4).weak).imp fun z H3 ⟨di, h5⟩ => ?_
  obtain ⟨w, ρ, rfl, ok, re, ⟨⟨⟨_, r1⟩, r2⟩, r3⟩, q⟩ := h5
  cases es : setD dob di dv w.st with
  | none => simp only [es] at q; exact q.elim
  | some st' =>
    simp only [es] at q
    obtain ⟨n, k, xs, j, rfl, rfl, hn, ej, rfl⟩ := setD_cases es
    obtain ⟨vs, rfl, h2, h3⟩ := lref ok hn r2
    refine ⟨_, vs, k, j, rfl, r3, h2, by rw [← h3.length]; exact ej, ?_⟩
    have g := Grow.wr (o := .lst (vs.set j x)) (ob' := .lst (xs.set j dv)) ok hn
    have ok2 := ok.wr hn (obr_wrL ok hn (h3.set j r1))
    obtain ⟨w5, ρ5, _, e5, ok5, re5, _, q5⟩ := q _ g ok2 rfl () trivial
    have e5 : w5.H = upd w.H (w.bet n) (.lst (vs.set j x)) := e5
    have := q5 w5 (Grow.refl w5) ok5 rfl σ re5
    rw [e5] at this
    exact this
theorem ip_str : PIp X .Add (fun x y H Q => ∃ i j, x = .str i ∧ y = .str j ∧ i.length + j.length ≤ sizeLine ∧ Q (.str (i ++ j)) H) := fun pins s σ H x y v u Q I r1 r2 h => iop_add_str pins s σ H x y v u Q I r1 r2 h
def rAg (K : PySem.W.Frag) (f : D → D → Store → Option D) : TIp := fun x y H Q => ∃ w dx dy d, w.H = H ∧ WOk K w ∧ Rep K w dx x ∧ Rep K w dy y ∧ f dx dy w.st = some d ∧ At K w d Q
theorem ip_any (op : BOp) : PIp X op.ast (rAg X.K (augOp op)) := by
  intro pins s σ H x y v u Q I r1 r2 h
  obtain ⟨w, dx, dy, d, rfl, ok, hx, hy, hf, q⟩ := h
  unfold augOp at hf
  split at hf
  · cases hf
    exact ip_add pins s σ _ x y v u Q I r1 r2 ⟨_, _, hx, hy, q.now ok rfl⟩
  · split at hf
    · rename_i hz
      cases hf
      refine iop_add_str pins s σ _ x y v u Q I r1 r2 ⟨_, _, hx, hy, hz, ?_⟩
      rw [toS_app]
      exact q.now ok rfl
    · cases hf
  · cases hf
    exact ip_sub pins s σ _ x y v u Q I r1 r2 ⟨_, _, hx, hy, q.now ok rfl⟩
  · split at hf
    · rename_i hz
      cases hf
      exact iop_mul pins s σ _ x y v u Q I r1 r2 ⟨_, _, hx, hy, .inl (by omega), q.now ok rfl⟩
    · cases hf
  · split at hf
    · rename_i hz
      cases hf
      exact iop_fdiv pins s σ _ x y v u Q I r1 r2 ⟨_, _, hx, hy, hz, q.now ok rfl⟩
    · cases hf
  · cases hf
theorem ds_aug (i : Nat) (op : BOp) {x : Str} {e : Expr} {f : Env → M D} {o : Operator} {pos' pos : Pos} (hN : X.N.Nodup) (hi : X.N[i]? = some x) (hx : Loc X.env.scope x) (he : DE X W e f) (ho : op.ast = o := by rfl)
    (hf : X.fn x = true ∨ X.env.scope.names.lookup x = some .local := by first | exact .inl rfl | exact .inr rfl | assumption) : DS X W (.AugAssign (.Name x pos') o e pos) (sAug i op f) := by
  subst ho
  refine PS.imp (ps_aug hN hi hx he (ip_any op) hf) fun D σ H h => ?_
  have h2 := then_imp (R := Rep X.K) h
  obtain ⟨w, ρ, rfl, ok, re, _, q⟩ := h2
  have q : Post (cx X W) (Rep X.K) w ((sVar i ρ w.st).bnd fun x => bnd (f ρ) fun y => fun st => ofO (augOp op x y st) st) _ _ := q
  unfold sVar at q
  cases e1 : ρ[i]? with
  | none => rw [e1] at q; exact q.elim
  | some o1 =>
    rw [e1] at q
    cases o1 with
    | none => exact q.elim
    | some d =>
      obtain ⟨v, h1, r1⟩ := re.at_ i d e1
      refine ⟨v, h1, ?_⟩
      have h3 : tX (cx X W) (Rep X.K) (fun w => Rep X.K w d v) (fun ρ => bnd (f ρ) fun y => fun st => ofO (augOp op d y st) st) σ w.H (fun x H1 => ∃ w ρ a, w.H = H1 ∧ WOk X.K w ∧ RepE X.K w σ ρ ∧ Rep X.K w a x ∧ SPost (cx X W) w (.nx (ρ.set i (some a)) w.st) D) := ⟨w, ρ, rfl, ok, re, r1, q⟩
      refine ((tX.seq (R1 := Rep X.K) (fun w w' g q => Rep.grow g _ _ q) h3).weak).imp fun y H2 ⟨dy, h4⟩ => ?_
      obtain ⟨w2, ρ2, rfl, ok2, re2, ⟨r2, r3⟩, q2⟩ := h4
      obtain ⟨dd, e2, q2⟩ := at_of (K := X.K) rfl q2
      refine ⟨w2, d, dy, dd, rfl, ok2, r2, r3, e2, fun w3 g3 ok3 es3 z rz => ?_⟩
      obtain ⟨w4, ρ4, a4, e4, ok4, re4, r4, q4⟩ := q2 w3 g3 ok3 es3 z rz
      rw [← e4]
      exact q4 w4 (Grow.refl w4) ok4 rfl _ (re4.set i r4)
end
end PL
/-! PL10: defs as functions on data, calls by keywords, the law's end. -/
namespace PL
open PySem PySem.Spec PyProof.Rows L2

/-! ### a def -/
def endOf : SRes → Res D
  | .nx _ st => .ok .non st
  | .rt d st => .ok d st
  | .ex e _ st => .exc e st
  | _ => .bad
/-- n: how many local names -/
def runDef (n : Nat) (body : SM) (ds : List D) : M D := fun st => endOf (body (ds.map some ++ List.replicate (n - ds.length) none) st)
section
variable {P : Program} {wo : World} {K : PySem.W.Frag} {mg : Str → Option Value} {base : Heap} {k : Nat} {f : Addr} {fd : FuncData} {ps : List Str}
theorem repE_start {w : Wd} {N : List Str} {ds : List D} {vs : List V} (r : Reps K w ds vs) : RepE K w (L2.start N vs) (ds.map some ++ List.replicate (N.length - ds.length) none) := by
  have hl := r.length
  unfold L2.start
  refine ⟨by rw [List.length_append, List.length_append, List.length_map, List.length_map, List.length_replicate, List.length_replicate, hl], fun i d e => ?_⟩
  by_cases hi : i < ds.length
  · rw [List.getElem?_append_left (by rw [List.length_map]; exact hi), List.getElem?_map] at e
    cases ed : ds[i]? with
    | none => rw [ed] at e; cases e
    | some d' =>
      rw [ed] at e
      cases e
      obtain ⟨v, hv, rv⟩ := r.get ed
      refine ⟨v, ?_, rv⟩
      rw [List.getElem?_append_left (by rw [List.length_map, ← hl]; exact hi), List.getElem?_map, hv]
      rfl
  · rw [List.getElem?_append_right (by rw [List.length_map]; omega), List.getElem?_replicate] at e
    split at e <;> cases e
/-- THE RULE for a def as a function on data -/
theorem fg_def {x qual : Str} {st : Stmt} {N : List Str} {body : SM} (n : Nat) (m : Nat) (F : Fun K x qual st f fd) (S : FnScope N ps (defScope st))
    (hb : ∀ (cdv : Value) (A : Around) (out : List PySem.Env) (s : Shared) (H : Hp) (E : XK), Room k (A.deeper (envOfC qual (defScope st) s.heap.objs.size f cdv)) → A.guards = some [] →
      DSs (cxOf (CX P wo) P wo K mg base N qual (defScope st) f cdv A out s H E) (fun c d _ H => E c d H) (defBody st) body) (hn : ps.length = n := by rfl) (hm : N.length = m := by rfl) :
    FG P wo K mg base (k + 1) f fd ps (spF K mg n (arity n (runDef m body))) := by
  refine fg_body F S (fun vs H Q E h => by rw [h.1, hn]) fun cdv A out s H vs Q E hr hg hsp => ?_
  refine ⟨_, hb cdv A out s H E hr hg, ?_⟩
  obtain ⟨hl, w, ds, rfl, ok, r, q⟩ := hsp
  refine ⟨w, ds.map some ++ List.replicate (N.length - ds.length) none, rfl, ok, repE_start r, ?_⟩
  have hd : ds.length = n := r.length.trans hl
  rw [arity_ok hd] at q
  unfold runDef at q
  rw [← hm] at q
  cases e : body (ds.map some ++ List.replicate (N.length - ds.length) none) w.st with
  | bad => rw [e] at q; exact q.elim
  | nx ρ st => rw [e] at q; exact fun w' g ok' es σ' _ => q w' g ok' es V.non rfl
  | rt d st => rw [e] at q; exact q
  | bk ρ st => rw [e] at q; exact q.elim
  | ct ρ st => rw [e] at q; exact q.elim
  | ex x ρ st => rw [e] at q; exact fun w' g ok' es σ' _ => q w' g ok' es
end
/-! ### what the text's own defs are, in a body -/
/-- a def of the text: known, its arguments bind by place -/
structure Own (P : Program) (wo : World) (K : PySem.W.Frag) (mg : Str → Option Value) (base : Heap) (x : Str) (k : Nat) (fd : FuncData) (f : Addr) (ps : List Str) (n : Nat) (F : List D → M D) : Prop where
  mgf : mg x = some (.ref f)
  kp : PySem.W.keepIn K (.ref f) = true
  ok : FG P wo K mg base k f fd ps (spF K mg n (arity n F))
  bi : Binds K fd ps []
section
variable {X : Cx} {W : WX} {x : Str} {k j : Nat} {f : Addr} {fd : FuncData} {ps : List Str} {n : Nat} {F : List D → M D}
theorem de_own {g : Env → M (List D)} {e : Expr} {es : List Expr} {p pos : Pos} (O : Own X.prog X.w X.K X.mg X.base x k fd f ps n F) (hr : Room j X.A) (hj : k ≤ j) (hg : X.A.guards = some []) (tk : Takes X W) (ha : DA X W (e :: es) g) (hgl : Gl X x := by rfl)
    (hdb : (x == ("__debug__" : Str)) = false := by decide) (he : starEach (e :: es) X.env = (false, eval e X.env) :: starEach es X.env := by rfl) (hpl : (backTo pos (starEach es X.env)).any (·.1) = false := by rfl) :
    DE X W (.Call (.Name x p) (e :: es) [] pos) (sCall (arity n F) g) :=
  de_call ⟨O.mgf, O.kp, O.ok⟩ (hr.mono hj) hg tk O.bi ha hgl hdb he hpl
theorem de_own0 {p pos : Pos} (O : Own X.prog X.w X.K X.mg X.base x k fd f [] 0 F) (hr : Room j X.A) (hj : k ≤ j) (hg : X.A.guards = some []) (tk : Takes X W) (hgl : Gl X x := by rfl) (hdb : (x == ("__debug__" : Str)) = false := by decide) :
    DE X W (.Call (.Name x p) [] [] pos) (sCall (arity 0 F) sNil) :=
  (pe_callF0 ⟨O.mgf, O.kp, O.ok⟩ (hr.mono hj) hg tk hgl O.bi hdb).imp fun σ H Q h => by
    have h2 := call_imp (W := W) arity_bad h
    obtain ⟨w, ρ, rfl, ok, re, _, q⟩ := h2
    exact q w (Grow.refl w) ok rfl [] reps_nil

/-! ### calls with keywords -/
def permL {α : Type} (idx : List Nat) (l : List α) : List α := idx.filterMap fun i => l[i]?
theorem permL_vals {idx : List Nat} {vs : List V} {us : List Value} (r : Vals vs us) : Vals (permL idx vs) (permL idx us) := by
  unfold permL
  induction idx with
  | nil => exact .nil
  | cons i idx ih =>
    cases e : vs[i]? with
    | none => rw [List.filterMap_cons_none e, List.filterMap_cons_none (r.none_of e)]; exact ih
    | some v =>
      obtain ⟨u, h1, h2⟩ := r.get e
      rw [List.filterMap_cons_some e, List.filterMap_cons_some h1]
      exact .cons h2 ih
theorem permL_reps {K : PySem.W.Frag} {w : Wd} {idx : List Nat} {ds : List D} {vs : List V} (r : Reps K w ds vs) : Reps K w (permL idx ds) (permL idx vs) := by
  unfold permL
  induction idx with
  | nil => exact reps_nil
  | cons i idx ih =>
    cases e : ds[i]? with
    | none =>
      have e2 : vs[i]? = none := by
        rw [List.getElem?_eq_none_iff] at e ⊢
        rw [← r.length]; exact e
      rw [List.filterMap_cons_none e, List.filterMap_cons_none e2]; exact ih
    | some d =>
      obtain ⟨v, h1, h2⟩ := r.get e
      rw [List.filterMap_cons_some e, List.filterMap_cons_some h1]
      exact reps_cons h2 ih
/-- how a call with a positional values and the keywords ks binds -/
def KB (fd : FuncData) (ps ks : List Str) (a : Nat) (idx : List Nat) : Prop := ∀ (s : Shared) (us ws : List Value), us.length = a → ws.length = ks.length → BindsTo s fd ⟨us, ks.zip ws⟩ (ps.zip (permL idx (us ++ ws)))
abbrev DK (X : Cx) (W : WX) (kws : List Keyword) (f : Env → M (List D)) : Prop := PK X kws (tX (cx X W) (Reps X.K) T0 f)
theorem pk_imp {kws : List Keyword} {t t' : TA} (h : PK X kws t) (k : ∀ σ H Q, t' σ H Q → t σ H Q) : PK X kws t' := ⟨fun pos pins s σ H Q I q => h.run pos pins s σ H Q I (k σ H Q q)⟩
theorem dk_nil : DK X W [] sNil := pk_imp pk_nil fun σ H Q h => by
  obtain ⟨w, ρ, rfl, ok, re, _, q⟩ := h
  exact q w (Grow.refl w) ok rfl [] reps_nil
theorem dk_cons {e : Expr} {kws : List Keyword} {nm : Option Str} {kpos : Pos} {f : Env → M D} {g : Env → M (List D)} (ha : DE X W e f) (hr : DK X W kws g) : DK X W (⟨nm, e, kpos⟩ :: kws) (sCons f g) := by
  refine pk_imp (pk_cons ha hr) fun σ H Q h => ?_
  refine (tX.seq0 (R1 := Rep X.K) h).imp fun x H1 ⟨da, h1⟩ => ?_
  refine ((tX.seq (R1 := Reps X.K) (mono_and mono0 monoRep) h1).weak).imp fun y H2 ⟨db, h2⟩ => ?_
  obtain ⟨w, ρ, rfl, ok, re, ⟨⟨_, r1⟩, r2⟩, q⟩ := h2
  exact q w (Grow.refl w) ok rfl (x :: y) (reps_cons r1 r2)
def sCallK (a b : Nat) (idx : List Nat) (F : List D → M D) (g h : Env → M (List D)) : Env → M D := fun ρ => bnd (g ρ) fun ds => bnd (h ρ) fun es => if ds.length = a ∧ es.length = b then F (permL idx (ds ++ es)) else badM
theorem callK_end {a b : Nat} {idx : List Nat} {σ : L2.St} {H2 : Hp} {Q : VK} {w : Wd} {ds es : List D} {vs zs : List V} (e : w.H = H2) (ok : WOk X.K w) (r1 : Reps X.K w ds vs) (r2 : Reps X.K w es zs)
    (q : Post (cx X W) (Rep X.K) w ((if ds.length = a ∧ es.length = b then arity n F (permL idx (ds ++ es)) else badM) w.st) Q ((cx X W).we σ)) :
    vs.length = a ∧ zs.length = b ∧ spF X.K X.mg n (arity n F) (permL idx (vs ++ zs)) H2 Q (WE W σ) := by
  by_cases hl : ds.length = a ∧ es.length = b
  · rw [if_pos hl] at q
    refine ⟨r1.length.symm.trans hl.1, r2.length.symm.trans hl.2, ?_, w, _, e, ok, permL_reps (r1.app r2), post_ctx (C := cx X W) rfl q⟩
    by_cases hn : (permL idx (ds ++ es)).length = n
    · rw [← (permL_reps (idx := idx) (r1.app r2)).length]; exact hn
    · rw [arity_bad _ _ hn] at q; exact q.elim
  · rw [if_neg hl] at q
    exact q.elim
/-- f(e, .., k = v, ..) -/
theorem de_ownK {g h : Env → M (List D)} {e : Expr} {es : List Expr} {kws : List Keyword} {ks : List Str} {p pos : Pos} (a b : Nat) (idx : List Nat) (O : Own X.prog X.w X.K X.mg X.base x k fd f ps n F) (hkb : KB fd ps ks a idx) (hr : Room j X.A) (hj : k ≤ j) (hg : X.A.guards = some []) (tk : Takes X W)
    (ha : DA X W (e :: es) g) (hk : DK X W kws h) (hb : ks.length = b := by rfl) (hgl : Gl X x := by rfl)
    (hall : (backToKw pos (keywordEach kws X.env)).all (·.1.isSome) = true := by rfl) (hks : (backToKw pos (keywordEach kws X.env)).filterMap (·.1) = ks := by rfl)
    (hdb : (x == ("__debug__" : Str)) = false := by decide) (he : starEach (e :: es) X.env = (false, eval e X.env) :: starEach es X.env := by rfl)
    (hpl : ((backTo pos (starEach (e :: es) X.env)).any (·.1) || (backToKw pos (keywordEach kws X.env)).any (·.1.isNone)) = false := by rfl) :
    DE X W (.Call (.Name x p) (e :: es) kws pos) (sCallK a b idx (arity n F) g h) := by
  refine ⟨fun pins s σ H Q I hq => wpAny_Call_Name_kw (ld_glob I hgl O.mgf ?_ hdb)⟩
  have h1 : tX (cx X W) (Reps X.K) T0 g σ H fun vs H1 => tX (cx X W) (Reps X.K) T0 h σ H1 fun zs H2 => vs.length = a ∧ zs.length = b ∧ spF X.K X.mg n (arity n F) (permL idx (vs ++ zs)) H2 Q (WE W σ) := by
    refine (tX.seq0 (R1 := Reps X.K) hq).imp fun x H1 ⟨ds, h1⟩ => ?_
    refine ((tX.seq (R1 := Reps X.K) (mono_and mono0 monoReps) h1).weak).imp fun y H2 ⟨es, h2⟩ => ?_
    obtain ⟨w, ρ, e1, ok, re, ⟨⟨_, r1⟩, r2⟩, q⟩ := h2
    exact callK_end e1 ok r1 r2 q
  refine PySem.W.callWith_KW (h₀ := X.base) I.ok.mod.kin O.kp hall (thn (ha.run pos pins s σ H _ I h1) ?_) hpl he
  intro us s1 hq
  obtain ⟨vs, H1, I1, r, q⟩ := hq
  refine thn (hk.run pos pins s1 σ H1 _ I1 q) ?_
  intro ws s2 hq2
  obtain ⟨zs, H2, I2, rz, q1, q2, q3⟩ := hq2
  rw [hks]
  exact ⟨I2.kIn, run_fg (args := ⟨us, ks.zip ws⟩) O.ok (hr.mono hj) hg tk (fun _ => hkb s2 us ws (r.length.symm.trans q1) ((rz.length.symm.trans q2).trans hb.symm)) I2 (permL_vals (r.append rz)) q3⟩
/-- f(k = v, ..) -/
theorem de_ownK0 {h : Env → M (List D)} {kws : List Keyword} {ks : List Str} {p pos : Pos} (b : Nat) (idx : List Nat) (O : Own X.prog X.w X.K X.mg X.base x k fd f ps n F) (hkb : KB fd ps ks 0 idx) (hr : Room j X.A) (hj : k ≤ j) (hg : X.A.guards = some []) (tk : Takes X W)
    (hk : DK X W kws h) (hb : ks.length = b := by rfl) (hgl : Gl X x := by rfl)
    (hall : (backToKw pos (keywordEach kws X.env)).all (·.1.isSome) = true := by rfl) (hks : (backToKw pos (keywordEach kws X.env)).filterMap (·.1) = ks := by rfl)
    (hdb : (x == ("__debug__" : Str)) = false := by decide)
    (hpl : ((backTo pos (starEach [] X.env)).any (·.1) || (backToKw pos (keywordEach kws X.env)).any (·.1.isNone)) = false := by rfl) :
    DE X W (.Call (.Name x p) [] kws pos) (sCallK 0 b idx (arity n F) sNil h) := by
  refine ⟨fun pins s σ H Q I hq => wpAny_Call_Name_kw (ld_glob I hgl O.mgf ?_ hdb)⟩
  have h1 : tX (cx X W) (Reps X.K) T0 h σ H fun zs H2 => zs.length = b ∧ spF X.K X.mg n (arity n F) (permL idx zs) H2 Q (WE W σ) := by
    have hq' : tX (cx X W) (Rep X.K) T0 (fun ρ => bnd (h ρ) fun es => if ([] : List D).length = 0 ∧ es.length = b then arity n F (permL idx ([] ++ es)) else badM) σ H Q := hq
    refine (tX.seq0 (R1 := Reps X.K) hq').imp fun y H2 ⟨es, h2⟩ => ?_
    obtain ⟨w, ρ, e1, ok, re, ⟨_, r2⟩, q⟩ := h2
    have := callK_end (a := 0) (vs := []) e1 ok reps_nil r2 q
    exact this.2
  refine PySem.W.callWith_KW0 (h₀ := X.base) I.ok.mod.kin O.kp hall (thn (hk.run pos pins s σ H _ I h1) ?_) hpl
  intro ws s2 hq2
  obtain ⟨zs, H2, I2, rz, q2, q3⟩ := hq2
  rw [hks]
  exact ⟨I2.kIn, run_fg (args := ⟨[], ks.zip ws⟩) O.ok (hr.mono hj) hg tk (fun _ => hkb s2 [] ws rfl ((rz.length.symm.trans q2).trans hb.symm)) I2 (permL_vals rz) q3⟩

/-! ### ghosts: a list of the store is frozen; code that is never reached -/
def frz : D → M D := fun d st => match d with
  | .ref n => match st[n]? with
    | some (some (.lst xs)) => .ok (.lst xs) (st.set n none)
    | _ => .bad
  | d => .ok d st
def sFrz (f : Env → M D) : Env → M D := fun ρ => bnd (f ρ) frz
theorem frz_imp {C : Ctx} {w : Wd} {d : D} {v : V} {Q : VK} {E : Exc → Wd → Prop} (ok : WOk C.K w) (r : Rep C.K w d v) (q : Post C (Rep C.K) w (frz d w.st) Q E) : Q v w.H := by
  unfold frz at q
  cases d with
  | ref n =>
    cases e : w.st[n]? with
    | none => simp only [e] at q; exact q.elim
    | some o =>
      cases o with
      | none => simp only [e] at q; exact q.elim
      | some ob =>
        cases ob with
        | lst xs =>
          simp only [e] at q
          have h := q (w.kill n) (Grow.kill n) (ok.kill n) rfl v
          have h2 := rep_kill ok e
          rw [← (show v = V.ref (w.bet n) from r.2)] at h2
          exact h h2
  | _ => exact q w (Grow.refl w) ok rfl v r
theorem de_frz {e : Expr} {f : Env → M D} (h : DE X W e f) : DE X W e (sFrz f) := PE.imp h fun σ H Q q => by
  refine (tX.seq0 (R1 := Rep X.K) q).imp fun x H1 ⟨d, h1⟩ => ?_
  obtain ⟨w, ρ, rfl, ok, re, ⟨_, r⟩, q⟩ := h1
  exact frz_imp (C := cx X W) ok r q
/-- the list in a slot is frozen from here on -/
def sFrzS (i : Nat) : SM := fun ρ st => match ρ[i]? with
  | some (some (.ref n)) => match st[n]? with
    | some (some (.lst xs)) => .nx (ρ.set i (some (.lst xs))) (st.set n none)
    | _ => .bad
  | _ => .bad
theorem frzS_imp {i : Nat} {g : SM} {D' : Ends} {σ : L2.St} {H : Hp} (h : tS (cx X W) (sSeq (sFrzS i) g) D' σ H) : tS (cx X W) g D' σ H := by
  obtain ⟨w, ρ, rfl, ok, re, q⟩ := h
  unfold sSeq sFrzS at q
  cases e : ρ[i]? with
  | none => simp only [e] at q; exact q.elim
  | some o =>
    cases o with
    | none => simp only [e] at q; exact q.elim
    | some d =>
      cases d with
      | ref n =>
        cases e2 : w.st[n]? with
        | none => simp only [e, e2] at q; exact q.elim
        | some o2 =>
          cases o2 with
          | none => simp only [e, e2] at q; exact q.elim
          | some ob =>
            cases ob with
            | lst xs =>
              simp only [e, e2] at q
              refine ⟨w.kill n, ρ.set i (some (.lst xs)), rfl, ok.kill n, ?_, SPost.grow (Grow.kill n) q⟩
              have re2 := re.grow (Grow.kill n)
              refine ⟨by rw [List.length_set]; exact re2.len, fun j d hj => ?_⟩
              by_cases hij : i = j
              · subst hij
                by_cases hl : i < ρ.length
                · rw [List.getElem?_set_self hl] at hj
                  cases hj
                  obtain ⟨v, h1, h2⟩ := re.at_ i _ e
                  refine ⟨v, h1, ?_⟩
                  have h3 := rep_kill ok e2
                  rw [← (show v = V.ref (w.bet n) from h2.2)] at h3
                  exact h3
                · rw [List.getElem?_eq_none (by simpa using hl)] at hj; cases hj
              · rw [List.getElem?_set_ne hij] at hj
                exact re2.at_ j d hj
      | non => simp only [e] at q; exact q.elim
      | bl b => simp only [e] at q; exact q.elim
      | int b => simp only [e] at q; exact q.elim
      | str b => simp only [e] at q; exact q.elim
      | tup b => simp only [e] at q; exact q.elim
      | lst b => simp only [e] at q; exact q.elim
      | scr b => simp only [e] at q; exact q.elim
      | vv b => simp only [e] at q; exact q.elim
theorem dss_frz (i : Nat) {s : List Stmt} {g : SM} (h : DSs X W s g) : DSs X W s (sSeq (sFrzS i) g) := PSs.imp h fun D σ H q => frzS_imp q
def sBad : SM := fun _ _ => .bad
theorem ds_never {s : Stmt} : DS X W s sBad := PS.imp ps_never fun D σ H h => by
  obtain ⟨w, ρ, _, _, _, q⟩ := h
  exact q
theorem dss_never {s : List Stmt} : DSs X W s sBad := PSs.imp pss_never fun D σ H h => by
  obtain ⟨w, ρ, _, _, _, q⟩ := h
  exact q
end

/-! ### the law's end -/
section
variable {P : Program} {wo : World} {K : PySem.W.Frag} {mg mb : Str → Option Value} {k : Nat} {fa a : Addr} {fd : FuncData} {x : Str} {F : List D → M D} {s₁ : Shared} {vs : List Value} {ns : List Int}
/-- the script alone is tracked, and that only if the module has it not -/
def scrH (K : PySem.W.Frag) (a : Addr) (o : Obj) (ns : List Int) : Hp := fun b => if b = a ∧ K.lookup a = none then some (.frz o (.lst (ns.map V.int))) else none
theorem law_fg (kin : K.In s₁.heap) (gl : s₁.heap.Ns mainGlobals mg) (bl : s₁.heap.Ns builtinsNs mb) (bb : ∀ x : Str, x ≠ "__name__" → mb x = bootBuiltins x) (nolim : s₁.heap.NoLimit) (gens : s₁.gens = #[])
    (scr : s₁.heap.get? a = some { cls := .type "list", data := .seq vs.toArray }) (hints : IntsAre vs ns) (sz : ns.length ≤ sizeLine) (room : Room k callerA)
    (ok : ∀ base : Heap, K.In base → base.Ns mainGlobals mg → FG P wo K mg base k fa fd [x] (spF K mg 1 (arity 1 F))) (bind : ∀ (s : Shared) (u : Value), BindsTo s fd ⟨[u], []⟩ [(x, u)])
    (yes : ∃ st, F [.scr ns] [] = .ok (.bl true) st) :
    codeAny (model P wo) callerA (.call (.ref fa) ⟨[.ref a], []⟩) (fun r s' => r = .ok (.ret (.bool true)) ∧ OldK s₁.heap s'.heap ∧ s'.os = s₁.os ∧ AllBare s'.gens) s₁ := by
  have rv := vals_ints hints
  have nl := hints.length
  obtain ⟨o, ho⟩ : ∃ o : Obj, o = { cls := .type "list", data := .seq vs.toArray } := ⟨_, rfl⟩
  rw [← ho] at scr
  obtain ⟨H, hH⟩ : ∃ H, H = scrH K a o ns := ⟨_, rfl⟩
  have at1 : ∀ b, H b ≠ none → b = a ∧ K.lookup a = none := fun b h => by
    rw [hH] at h
    unfold scrH at h
    by_cases z : b = a ∧ K.lookup a = none
    · exact z
    · rw [if_neg z] at h; exact absurd rfl h
  have at2 : ∀ b u, H b = some u → b = a ∧ K.lookup a = none ∧ u = .frz o (.lst (ns.map V.int)) := fun b u h => by
    obtain ⟨z1, z2⟩ := at1 b (by rw [h]; exact nofun)
    refine ⟨z1, z2, ?_⟩
    rw [hH] at h
    unfold scrH at h
    rw [if_pos ⟨z1, z2⟩] at h
    exact (Option.some.inj h).symm
  have sq : SqK K H a (ns.map V.int) := by
    cases e : K.lookup a with
    | none =>
      refine .inl ⟨o, ?_⟩
      rw [hH]
      exact if_pos ⟨rfl, e⟩
    | some oo =>
      have e2 := kin a oo e
      rw [scr] at e2
      cases e2
      subst ho
      exact .inr ⟨_, vs.toArray, _, e, rfl, rfl, rfl, by rw [List.size_toArray, nl]; exact sz, by simpa using rv⟩
  have hok : HOk P wo H s₁.heap := fun b u h => by
    obtain ⟨rfl, _, rfl⟩ := at2 b u h
    refine ⟨scr, by rw [List.length_map]; exact sz, vs, 0, rv, ?_⟩
    rw [scr, ho]
  have free : ∀ {b : Addr} {ob : Obj}, s₁.heap.get? b = some ob → (∀ items n, ob.data ≠ .seq items n) → H b = none := fun {b ob} e d => by
    cases q : H b with
    | none => rfl
    | some u =>
      obtain ⟨rfl, _, _⟩ := at2 b u q
      rw [scr] at e
      cases e
      rw [ho] at d
      exact absurd rfl (d _ _)
  have nsT : ∀ {b : Addr} {m : Str → Option Value}, s₁.heap.Ns b m → (hidT s₁.heap H).Ns b m := fun {b m} h => by
    obtain ⟨ob, es, ep, e, d, r⟩ := h
    exact ⟨ob, es, ep, hidT_get e (free e fun items n z => by rw [d] at z; cases z), d, r⟩
  have kinT : K.In (hidT s₁.heap H) := fun b ob e => hidT_get (kin b ob e) (by
    cases q : H b with
    | none => rfl
    | some u =>
      obtain ⟨rfl, z, _⟩ := at2 b u q
      rw [z] at e
      cases e)
  have md : Mod K mg (hidT s₁.heap H) := ⟨kinT, nsT gl, ⟨mb, nsT bl, bb⟩, by
    obtain ⟨mc, h1, h2⟩ := nolim
    exact ⟨mc, nsT h1, h2⟩⟩
  have e0 : Env0 P wo K mg (hidT s₁.heap H) callerA [] s₁ H := ⟨rfl, md, fun b ob e => of_hidT e, Nat.le_of_eq (hidT_size _ _), trivial, (fun b hb => by cases hb), hok, .of_eq gens⟩
  obtain ⟨st, hF⟩ := yes
  have sp : spF K mg 1 (arity 1 F) [.ref a] H (fun v _ => v = .bl true) (fun _ _ _ => False) := by
    refine ⟨rfl, ⟨fun _ => 0, [], [], H⟩, [.scr ns], rfl, ⟨(fun n ob e => by cases e), (fun m n o p e => by cases e), (fun a m => by cases m), fun a m => by cases m⟩, reps_cons ⟨a, rfl, sq⟩ reps_nil, ?_⟩
    have e1 : arity 1 F [.scr ns] [] = .ok (.bl true) st := hF
    have q : ∀ (C : Ctx) (w : Wd) (Q : VK) (E : Exc → Wd → Prop), (∀ v H, v = V.bl true → Q v H) → C.K = K → Post C (Rep C.K) w (Res.ok (.bl true) st) Q E := fun C w Q E hq _ w' g ok' es v r => hq v _ r
    show Post _ _ _ (arity 1 F [.scr ns] []) _ _
    rw [e1]
    exact fun w' g ok' es v r => r
  refine codeAny_mono ((ok _ kinT (nsT gl)).run callerA [] s₁ H ⟨[.ref a], []⟩ [.ref a] [.ref a] _ _ room rfl e0 (bind s₁ (.ref a)) (.cons rfl .nil) sp) ?_
  intro r s' h
  cases r with
  | error e => obtain ⟨_, _, _, _, _, _, _, _, _, _, _, _, z⟩ := h; exact z.elim
  | ok fl =>
    cases fl with
    | next => exact h.elim
    | brk => exact h.elim
    | cont => exact h.elim
    | ret u =>
      obtain ⟨v, H', os, bare, un, hok', rv', q⟩ := h
      have q : v = .bl true := q
      subst q
      have rv' : u = Value.bool true := rv'
      subst rv'
      refine ⟨rfl, OldK.of_keep fun b ob e => ?_, os, bare⟩
      cases q : H b with
      | none => exact un.keep b ob e q (fun z => by cases z) (fun z => by cases z)
      | some u =>
        obtain ⟨rfl, _, rfl⟩ := at2 b u q
        obtain ⟨e1, _⟩ := hok' _ _ (un.frzs _ _ _ q)
        rw [scr] at e
        cases e
        exact e1
/-- the end of a law row -/
theorem walk_fg {l : PySem.W.OpenLaw} {n k : Nat} {q : Program} {loose : List Str} {XP : (Str → Option Value) → Heap → Prop} {YP : World → Heap → Prop} {d : DefRec} {K : Params → PySem.W.Frag} {x : Str} {F : List D → M D}
    (hn : l.most = some n) (hn2 : n ≤ sizeLine) (hdf : d.params.defaults = []) (hr : Room k callerA) (hY : ∀ (w : World) (h : Heap), YP w h → (K w.params).In h)
    (ok : ∀ (w : World) (mg : Str → Option Value) (fa : Addr) (h : Heap), (K w.params).In h → h.Ns mainGlobals mg → mg d.name = some (.ref fa) →
      ∃ fd : FuncData, (∀ (s : Shared) (u : Value), BindsTo s fd ⟨[u], []⟩ [(x, u)]) ∧
        ∀ base : Heap, (K w.params).In base → base.Ns mainGlobals mg → FG l.prog w (K w.params) mg base k fa fd [x] (spF (K w.params) mg 1 (arity 1 F)))
    (yes : ∀ ns : List Int, ns.length ≤ n → ∃ st, F [.scr ns] [] = .ok (.bl true) st) :
    PySem.W.WalkO q loose XP YP l.row.toRowW d [] (fun f vs => PySem.call f vs) := by
  refine Att.attach_call hn hdf ?_
  intro w s₀ s₁ mg mb fa o pm cd doc a vs ns G Y ho hd hcd hmg hobj hints hlen hg
  obtain ⟨fd, hb, hF⟩ := ok w mg fa _ (hY w _ Y) G.T.g hmg
  exact law_fg (hY w _ Y) G.T.g G.T.b G.T.builtins G.T.nolimit hg hobj hints (Nat.le_trans hlen hn2) hr hF hb (yes ns hlen)
end
end PL
/-! PL11: the context of a def's body; a type as a value; walks over any sequence. -/
namespace PL
open PySem PySem.Spec PyProof.Rows L2
abbrev XOf (P : Program) (wo : World) (K : PySem.W.Frag) (mg : Str → Option Value) (base : Heap) (N : List Str) (qual : Str) (sc : Scope) (f : Addr) (cdv : Value) (A : Around) (out : List PySem.Env) (s : Shared) (H : Hp) (E : XK) : Cx := cxOf (CX P wo) P wo K mg base N qual sc f cdv A out s H E
theorem tkOf {P : Program} {wo : World} {K : PySem.W.Frag} {mg : Str → Option Value} {base : Heap} {N : List Str} {qual : Str} {sc : Scope} {f : Addr} {cdv : Value} {A : Around} {out : List PySem.Env} {s : Shared} {H : Hp} {E : XK} : Takes (XOf P wo K mg base N qual sc f cdv A out s H E) (fun c d _ H => E c d H) := takes_of rfl rfl rfl rfl
theorem paOf {P : Program} {wo : World} {K : PySem.W.Frag} {mg : Str → Option Value} {base : Heap} {N : List Str} {qual : Str} {sc : Scope} {f : Addr} {cdv : Value} {A : Around} {out : List PySem.Env} {s : Shared} {H : Hp} {E : XK} : PassesOwn (model (XOf P wo K mg base N qual sc f cdv A out s H E).prog (XOf P wo K mg base N qual sc f cdv A out s H E).w) (XOf P wo K mg base N qual sc f cdv A out s H E).A (XOf P wo K mg base N qual sc f cdv A out s H E).env (XOf P wo K mg base N qual sc f cdv A out s H E).xe := passes_of rfl
theorem huOf {k : Nat} {A : Around} (hr : Room k A) : A.units + 65 < cLine := by have := hr.un; omega
section
variable {X : Cx} {W : WX}
theorem tk0 : Takes X W0 := fun u s' h => by
  obtain ⟨_, _, _, _, _, _, _, _, _, _, _, _, _, _, _, _, z⟩ := h
  exact z.elim
theorem de_gloS {x : Str} {pos : Pos} (l : List Nat) (hg : Gl X x) (hm : ∃ t, X.mg x = some (.str (toS l) t)) (hd : (x == ("__debug__" : Str)) = false := by decide) : DE X W (.Name x pos) (sCon (.str l)) := by
  obtain ⟨t, hm⟩ := hm
  exact de_glo (v := .str (toS l)) hg hm ⟨t, rfl⟩ (fun _ => rfl) hd
theorem de_gloI {x : Str} {pos : Pos} (i : Int) (hg : Gl X x) (hm : ∃ t, X.mg x = some (.int i t)) (hd : (x == ("__debug__" : Str)) = false := by decide) : DE X W (.Name x pos) (sCon (.int i)) := by
  obtain ⟨t, hm⟩ := hm
  exact de_glo (v := .int i) hg hm ⟨t, rfl⟩ (fun _ => rfl) hd
theorem de_tyv {T : String} {x : Str} {pos : Pos} (hg : Gl X x) (hm : X.mg x = none) (hv : bootBuiltins x = some (.type T)) (hn : x ≠ "__name__" := by decide) (hd : (x == ("__debug__" : Str)) = false := by decide) : DE X W (.Name x pos) (sCon (.vv (.ty T))) :=
  (pe_bltn (v := .ty T) hg hm hv rfl hn hd).imp (con_imp fun _ => rfl)
/-- what a for walks: lists and tuples as they are, a text by its signs -/
def walkA (d : D) (_ : Store) : Option (List D) := match d with
  | .tup xs => some xs
  | .lst xs => some xs
  | .str s => some (chars s)
  | _ => none
def sWalkA (f : Env → M D) : Env → M (List D) := fun ρ => bnd (f ρ) fun a st => ofO (walkA a st) st
theorem di_any {tg e : Expr} {f : Env → M D} (he : DE X W e f) : DI X W tg e (sWalkA f) := by
  refine ⟨fun pins s σ H R I h => ?_⟩
  obtain ⟨w, ρ, e1, ok, re, q⟩ := h
  have go : ∀ {g : Env → M (List D)}, DI X W tg e g → g ρ w.st = sWalkA f ρ w.st → _ := fun {g} d eg => d.run pins s σ H R I ⟨w, ρ, e1, ok, re, by rw [eg]; exact q⟩
  cases ef : f ρ w.st with
  | bad =>
    refine go (di_list he) ?_
    show (f ρ w.st).bnd _ = (f ρ w.st).bnd _
    rw [ef]; rfl
  | exc x st =>
    refine go (di_list he) ?_
    show (f ρ w.st).bnd _ = (f ρ w.st).bnd _
    rw [ef]; rfl
  | ok d st =>
    cases d with
    | tup xs =>
      refine go (di_tup he) ?_
      show (f ρ w.st).bnd _ = (f ρ w.st).bnd _
      rw [ef]; rfl
    | str xs =>
      refine go (di_str he) ?_
      show (f ρ w.st).bnd _ = (f ρ w.st).bnd _
      rw [ef]; rfl
    | _ =>
      refine go (di_list he) ?_
      show (f ρ w.st).bnd _ = (f ρ w.st).bnd _
      rw [ef]; rfl
end
end PL
/-! PL12: what a def on data answers, by weakest conditions. -/
namespace PL
open PySem PySem.Spec PyProof.Rows L2
def wp {α : Type} (r : Res α) (X : Exc → Store → Prop) (Q : α → Store → Prop) : Prop := match r with
  | .ok a st => Q a st
  | .exc e st => X e st
  | .bad => False
def wo {α : Type} (o : Option α) (Q : α → Prop) : Prop := match o with
  | some a => Q a
  | none => False
def wv (o : Option (Option D)) (Q : D → Prop) : Prop := match o with
  | some (some a) => Q a
  | _ => False
structure SK where
  nx : Env → Store → Prop
  rt : D → Store → Prop
  bk : Env → Store → Prop
  ct : Env → Store → Prop
  ex : Exc → Env → Store → Prop
def ws (r : SRes) (k : SK) : Prop := match r with
  | .nx ρ st => k.nx ρ st
  | .rt d st => k.rt d st
  | .bk ρ st => k.bk ρ st
  | .ct ρ st => k.ct ρ st
  | .ex e ρ st => k.ex e ρ st
  | .bad => False
section
variable {α β : Type} {X : Exc → Store → Prop}
theorem wp_imp {r : Res α} {Q Q' : α → Store → Prop} (h : wp r X Q) (k : ∀ a st, Q a st → Q' a st) : wp r X Q' := by
  cases r with
  | ok a st => exact k a st h
  | exc e st => exact h
  | bad => exact h
theorem wp_ok {r : Res α} {a : α} {st : Store} {Q : α → Store → Prop} (h : r = .ok a st) (q : Q a st) : wp r X Q := by rw [h]; exact q
theorem ok_of_wp {r : Res α} {Q : α → Store → Prop} (h : wp r (fun _ _ => False) Q) : ∃ a st, r = .ok a st ∧ Q a st := by
  cases r with
  | ok a st => exact ⟨a, st, rfl, h⟩
  | exc e st => exact h.elim
  | bad => exact h.elim
theorem wo_imp {o : Option α} {Q Q' : α → Prop} (h : wo o Q) (k : ∀ a, Q a → Q' a) : wo o Q' := by
  cases o with
  | some a => exact k a h
  | none => exact h
theorem wo_of {o : Option α} {a : α} {Q : α → Prop} (h : o = some a) (q : Q a) : wo o Q := by rw [h]; exact q
theorem ws_imp {r : SRes} {k k' : SK} (h : ws r k) (h1 : ∀ ρ st, k.nx ρ st → k'.nx ρ st) (h2 : ∀ d st, k.rt d st → k'.rt d st) (h3 : ∀ ρ st, k.bk ρ st → k'.bk ρ st) (h4 : ∀ ρ st, k.ct ρ st → k'.ct ρ st) (h5 : ∀ e ρ st, k.ex e ρ st → k'.ex e ρ st) : ws r k' := by
  cases r with
  | nx ρ st => exact h1 ρ st h
  | rt ρ st => exact h2 ρ st h
  | bk ρ st => exact h3 ρ st h
  | ct ρ st => exact h4 ρ st h
  | ex e ρ st => exact h5 e ρ st h
  | bad => exact h
@[simp] theorem wp_ok_ (a : α) (st : Store) (Q : α → Store → Prop) : wp (.ok a st) X Q = Q a st := rfl
@[simp] theorem wp_exc_ (e : Exc) (st : Store) (Q : α → Store → Prop) : wp (.exc e st) X Q = X e st := rfl
@[simp] theorem wp_bad_ (Q : α → Store → Prop) : wp .bad X Q = False := rfl
@[simp] theorem wo_some_ (a : α) (Q : α → Prop) : wo (some a) Q = Q a := rfl
@[simp] theorem wo_none_ (Q : α → Prop) : wo none Q = False := rfl
@[simp] theorem wv_some_ (a : D) (Q : D → Prop) : wv (some (some a)) Q = Q a := rfl
theorem wp_bnd (r : Res α) (f : α → M β) (Q : β → Store → Prop) : wp (r.bnd f) X Q = wp r X fun a st => wp (f a st) X Q := by cases r <;> rfl
theorem wp_ofO (o : Option α) (st : Store) (Q : α → Store → Prop) : wp (ofO o st) X Q = wo o fun a => Q a st := by cases o <;> rfl
theorem wo_map (o : Option α) (f : α → β) (Q : β → Prop) : wo (o.map f) Q = wo o fun a => Q (f a) := by cases o <;> rfl
theorem wo_bind (o : Option α) (f : α → Option β) (Q : β → Prop) : wo (o.bind f) Q = wo o fun a => wo (f a) Q := by cases o <;> rfl
theorem wo_ite (c : Prop) [Decidable c] (a : α) (Q : α → Prop) : wo (if c then some a else none) Q = (c ∧ Q a) := by
  by_cases h : c
  · rw [if_pos h]; exact propext ⟨fun q => ⟨h, q⟩, fun q => q.2⟩
  · rw [if_neg h]; exact propext ⟨fun q => q.elim, fun q => absurd q.1 h⟩
theorem wp_ite (c : Prop) [Decidable c] (r : Res α) (Q : α → Store → Prop) : wp (if c then r else .bad) X Q = (c ∧ wp r X Q) := by
  by_cases h : c
  · rw [if_pos h]; exact propext ⟨fun q => ⟨h, q⟩, fun q => q.2⟩
  · rw [if_neg h]; exact propext ⟨fun q => q.elim, fun q => absurd q.1 h⟩

/-! ### expressions -/
variable {ρ : Env} {st : Store} {Q : D → Store → Prop} {QL : List D → Store → Prop} {QB : Bool → Store → Prop}
@[simp] theorem wp_ret (a : α) (Q : α → Store → Prop) : wp (ret a st) X Q = Q a st := rfl
@[simp] theorem wp_var (i : Nat) : wp (sVar i ρ st) X Q = wv ρ[i]? fun d => Q d st := by
  unfold sVar wv
  split <;> simp_all
@[simp] theorem wp_con (d : D) : wp (sCon d ρ st) X Q = Q d st := rfl
@[simp] theorem wp_bin (op : BOp) (f g : Env → M D) : wp (sBin op f g ρ st) X Q = wp (f ρ st) X fun a st1 => wp (g ρ st1) X fun b st2 => wo (op.sem a b st2) fun d => Q d st2 := by simp only [sBin, bnd, wp_bnd, wp_ofO]
@[simp] theorem wp_neg (f : Env → M D) : wp (sNeg f ρ st) X Q = wp (f ρ st) X fun a st1 => wo (negD a) fun d => Q d st1 := by simp only [sNeg, bnd, wp_bnd, wp_ofO]
@[simp] theorem wp_nil : wp (sNil ρ st) X QL = QL [] st := rfl
@[simp] theorem wp_cons (f : Env → M D) (g : Env → M (List D)) : wp (sCons f g ρ st) X QL = wp (f ρ st) X fun a st1 => wp (g ρ st1) X fun as st2 => QL (a :: as) st2 := by simp only [sCons, bnd, wp_bnd, wp_ret]
@[simp] theorem wp_tup (f : Env → M (List D)) : wp (sTup f ρ st) X Q = wp (f ρ st) X fun xs st1 => xs.length ≤ sizeLine ∧ Q (.tup xs) st1 := by simp only [sTup, bnd, wp_bnd, wp_ofO, wo_ite]
@[simp] theorem wp_lstF (f : Env → M (List D)) : wp (sLst false f ρ st) X Q = wp (f ρ st) X fun xs st1 => xs.length ≤ sizeLine ∧ Q (.lst xs) st1 := by simp [sLst, bnd, wp_bnd, wp_ite, mkL]
@[simp] theorem wp_lstT (f : Env → M (List D)) : wp (sLst true f ρ st) X Q = wp (f ρ st) X fun xs st1 => xs.length ≤ sizeLine ∧ Q (.ref st1.length) (st1 ++ [some (.lst xs)]) := by simp [sLst, bnd, wp_bnd, wp_ite, mkL]
@[simp] theorem wp_blt (F : List D → Store → Option D) (g : Env → M (List D)) : wp (sBlt F g ρ st) X Q = wp (g ρ st) X fun ds st1 => wo (F ds st1) fun d => Q d st1 := by simp only [sBlt, bnd, wp_bnd, wp_ofO]
@[simp] theorem wp_ix (f g : Env → M D) : wp (sIx f g ρ st) X Q = wp (f ρ st) X fun a st1 => wp (g ρ st1) X fun b st2 => wo (ixD a b st2) fun d => Q d st2 := by simp only [sIx, bnd, wp_bnd, wp_ofO]
@[simp] theorem wp_no (QO : Option D → Store → Prop) : wp (sNo ρ st) X QO = QO none st := rfl
theorem so_aux (a : D) (QO : Option D → Store → Prop) : wp ((match a with | .int i => ret (some (.int i)) | _ => fun _ => .bad : M (Option D)) st) X QO = wo (match a with | .int i => some (D.int i) | _ => none) fun d => QO (some d) st := by cases a <;> rfl
def isInt : D → Option D
  | .int i => some (.int i)
  | _ => none
@[simp] theorem isInt_int (i : Int) : isInt (.int i) = some (.int i) := rfl
@[simp] theorem wp_so (f : Env → M D) (QO : Option D → Store → Prop) : wp (sSo f ρ st) X QO = wp (f ρ st) X fun a st1 => wo (isInt a) fun d => QO (some d) st1 := by
  simp only [sSo, bnd, wp_bnd]
  congr; funext a st1
  cases a <;> rfl
@[simp] theorem wp_sli (f : Env → M D) (l h : Env → M (Option D)) : wp (sSli f l h ρ st) X Q = wp (f ρ st) X fun a st1 => wp (l ρ st1) X fun lo st2 => wp (h ρ st2) X fun hi st3 => wo (sliD a (oInt lo) (oInt hi) st3) fun d => Q d st3 := by simp only [sSli, bnd, wp_bnd, wp_ofO]
@[simp] theorem oInt_none : oInt none = none := rfl
@[simp] theorem oInt_int (i : Int) : oInt (some (.int i)) = some i := rfl
@[simp] theorem wp_tru (f : Env → M D) : wp (sTru f ρ st) X QB = wp (f ρ st) X fun a st1 => wo (truD st1 a) fun b => QB b st1 := by simp only [sTru, bnd, wp_bnd, wp_ofO]
@[simp] theorem wp_notB (f : Env → M Bool) : wp (tNotB f ρ st) X QB = wp (f ρ st) X fun a st1 => QB (!a) st1 := by simp only [tNotB, bnd, wp_bnd, wp_ret]
@[simp] theorem wp_ofB (f : Env → M Bool) : wp (sOfB f ρ st) X Q = wp (f ρ st) X fun a st1 => Q (.bl a) st1 := by simp only [sOfB, bnd, wp_bnd, wp_ret]
theorem wp_if2 (b : Bool) (m m' : M α) (Q : α → Store → Prop) : wp ((if b = true then m else m') st) X Q = if b = true then wp (m st) X Q else wp (m' st) X Q := by cases b <;> rfl
@[simp] theorem wp_andB (f g : Env → M Bool) : wp (tAndB f g ρ st) X QB = wp (f ρ st) X fun a st1 => if a = true then wp (g ρ st1) X QB else QB false st1 := by simp only [tAndB, bnd, wp_bnd, wp_ret, wp_if2]
@[simp] theorem wp_orB (f g : Env → M Bool) : wp (tOrB f g ρ st) X QB = wp (f ρ st) X fun a st1 => if a = true then QB true st1 else wp (g ρ st1) X QB := by simp only [tOrB, bnd, wp_bnd, wp_ret, wp_if2]
@[simp] theorem wp_and (f g : Env → M D) : wp (sAnd f g ρ st) X Q = wp (f ρ st) X fun a st1 => wo (truD st1 a) fun b => if b = true then wp (g ρ st1) X Q else Q a st1 := by simp only [sAnd, bnd, wp_bnd, wp_ret, wp_if2, wp_ofO]
@[simp] theorem wp_or (f g : Env → M D) : wp (sOr f g ρ st) X Q = wp (f ρ st) X fun a st1 => wo (truD st1 a) fun b => if b = true then Q a st1 else wp (g ρ st1) X Q := by simp only [sOr, bnd, wp_bnd, wp_ret, wp_if2, wp_ofO]
@[simp] theorem wp_ifE (c : Env → M Bool) (f g : Env → M D) : wp (sIf c f g ρ st) X Q = wp (c ρ st) X fun b st1 => if b = true then wp (f ρ st1) X Q else wp (g ρ st1) X Q := by simp only [sIf, bnd, wp_bnd, wp_if2]
@[simp] theorem wp_cmpB (op : COp) (f g : Env → M D) : wp (tCmpS op f g ρ st) X QB = wp (f ρ st) X fun a st1 => wp (g ρ st1) X fun b st2 => wo (cmpS op a b st2) fun d => QB d st2 := by simp only [tCmpS, bnd, wp_bnd, wp_ofO]
@[simp] theorem wp_call (F : List D → M D) (g : Env → M (List D)) : wp (sCall F g ρ st) X Q = wp (g ρ st) X fun ds st1 => wp (F ds st1) X Q := by simp only [sCall, bnd, wp_bnd]
@[simp] theorem wp_arity (n : Nat) (F : List D → M D) (ds : List D) : wp (arity n F ds st) X Q = (ds.length = n ∧ wp (F ds st) X Q) := by simp only [arity, wp_ite]
@[simp] theorem wp_callK (a b : Nat) (idx : List Nat) (F : List D → M D) (g h : Env → M (List D)) : wp (sCallK a b idx F g h ρ st) X Q = wp (g ρ st) X fun ds st1 => wp (h ρ st1) X fun es st2 => (ds.length = a ∧ es.length = b) ∧ wp (F (permL idx (ds ++ es)) st2) X Q := by
  simp only [sCallK, bnd, wp_bnd]
  congr; funext ds st1; congr; funext es st2
  rw [← wp_ite]
  split <;> rfl
@[simp] theorem wp_mth (isT : D → Store → Bool) (f : D → List D → Store → Option (D × Store)) (fo : Env → M D) (g : Env → M (List D)) : wp (sMth isT f fo g ρ st) X Q = wp (fo ρ st) X fun o st1 => isT o st1 = true ∧ wp (g ρ st1) X fun ds st2 => wo (f o ds st2) fun p => Q p.1 p.2 := by
  simp only [sMth, bnd, wp_bnd, wp_ite]
  congr; funext o st1; congr; funext ds st2
  cases f o ds st2 <;> rfl
@[simp] theorem wp_mth0 (isT : D → Store → Bool) (f : D → List D → Store → Option (D × Store)) (fo : Env → M D) : wp (sMth0 isT f fo ρ st) X Q = wp (fo ρ st) X fun o st1 => isT o st1 = true ∧ wo (f o [] st1) fun p => Q p.1 p.2 := by simp only [sMth0, wp_mth, wp_nil]
@[simp] theorem wp_frz (f : Env → M D) : wp (sFrz f ρ st) X Q = wp (f ρ st) X fun a st1 => wp (frz a st1) X Q := by simp only [sFrz, bnd, wp_bnd]
@[simp] theorem wp_compF (vs : List Nat) (g : D → Env → Option Env) (c : Env → M Bool) (f : Env → M D) (it : Env → M (List D)) : wp (sComp false vs g c f it ρ st) X Q = wp (it ρ st) X fun items st1 => wp (compGo g c f (wipeE ρ vs) items [] st1) X fun xs st2 => Q (.lst xs) st2 := by
  simp only [sComp, bnd, wp_bnd]; rfl
@[simp] theorem wp_compT (vs : List Nat) (g : D → Env → Option Env) (c : Env → M Bool) (f : Env → M D) (it : Env → M (List D)) : wp (sComp true vs g c f it ρ st) X Q = wp (it ρ st) X fun items st1 => wp (compGo g c f (wipeE ρ vs) items [] st1) X fun xs st2 => Q (.ref st2.length) (st2 ++ [some (.lst xs)]) := by
  simp only [sComp, bnd, wp_bnd]; rfl
@[simp] theorem wp_yes : wp (sYes ρ st) X QB = QB true st := rfl
@[simp] theorem wp_walkA (f : Env → M D) : wp (sWalkA f ρ st) X QL = wp (f ρ st) X fun a st1 => wo (walkA a st1) fun xs => QL xs st1 := by simp only [sWalkA, bnd, wp_bnd, wp_ofO]
@[simp] theorem wp_rng1 (g : Env → M (List D)) : wp (sRng1 g ρ st) X QL = wp (g ρ st) X fun ds st1 => wo (rng1 ds) fun xs => QL xs st1 := by simp only [sRng1, bnd, wp_bnd, wp_ofO]
@[simp] theorem wp_rng2 (g : Env → M (List D)) : wp (sRng2 g ρ st) X QL = wp (g ρ st) X fun ds st1 => wo (rng2 ds) fun xs => QL xs st1 := by simp only [sRng2, bnd, wp_bnd, wp_ofO]
@[simp] theorem walk_tup (xs : List D) : walkA (.tup xs) st = some xs := rfl
@[simp] theorem walk_lst (xs : List D) : walkA (.lst xs) st = some xs := rfl
@[simp] theorem walk_str (s : List Nat) : walkA (.str s) st = some (chars s) := rfl
@[simp] theorem g_nm (i : Nat) (d : D) : gNm i d ρ = some (ρ.set i (some d)) := rfl
@[simp] theorem g_ni : gNi [] ρ = some ρ := rfl
@[simp] theorem g_co (g : D → Env → Option Env) (h : List D → Env → Option Env) (d : D) (r : List D) : gCo g h (d :: r) ρ = (g d ρ).bind (h r) := rfl
@[simp] theorem g_tu (n : Nat) (g : List D → Env → Option Env) (xs : List D) : gTu n g (.tup xs) ρ = if xs.length = n then g xs ρ else none := rfl
@[simp] theorem g_li (n : Nat) (g : List D → Env → Option Env) (xs : List D) : gLi n g (.lst xs) ρ = if xs.length = n then g xs ρ else none := rfl

/-! ### operators -/
section
variable {QO : D → Prop}
@[simp] theorem add_int (i j : Int) : BOp.sem .add (.int i) (.int j) st = some (.int (i + j)) := rfl
@[simp] theorem sub_int (i j : Int) : BOp.sem .sub (.int i) (.int j) st = some (.int (i - j)) := rfl
@[simp] theorem add_str (s t : List Nat) : wo (BOp.sem .add (.str s) (.str t) st) QO = (s.length + t.length ≤ sizeLine ∧ QO (.str (s ++ t))) := wo_ite _ _ _
@[simp] theorem add_tup (s t : List D) : wo (BOp.sem .add (.tup s) (.tup t) st) QO = (s.length + t.length ≤ sizeLine ∧ QO (.tup (s ++ t))) := wo_ite _ _ _
@[simp] theorem add_lst (s t : List D) : wo (BOp.sem .add (.lst s) (.lst t) st) QO = (s.length + t.length ≤ sizeLine ∧ QO (.lst (s ++ t))) := wo_ite _ _ _
@[simp] theorem mul_int (i j : Int) : wo (BOp.sem .mul (.int i) (.int j) st) QO = ((i.natAbs < 2 ^ 64 ∨ j.natAbs < 2 ^ 64 ∨ i.natAbs.log2 + j.natAbs.log2 < 1000000) ∧ QO (.int (i * j))) := wo_ite _ _ _
@[simp] theorem mul_str (s : List Nat) (k : Int) : wo (BOp.sem .mul (.str s) (.int k) st) QO = ((-1000000 < k ∧ k < 1000000000 ∧ s.length * k.toNat ≤ sizeLine) ∧ QO (.str (repN s k))) := wo_ite _ _ _
@[simp] theorem mul_lst (s : List D) (k : Int) : wo (BOp.sem .mul (.lst s) (.int k) st) QO = ((-1000000 < k ∧ k < 1000000000 ∧ s.length * k.toNat ≤ sizeLine) ∧ QO (.lst (repN s k))) := wo_ite _ _ _
@[simp] theorem fdiv_int (i j : Int) : wo (BOp.sem .fdiv (.int i) (.int j) st) QO = ((0 < j ∧ j.natAbs.log2 < 9000) ∧ QO (.int (i / j))) := wo_ite _ _ _
@[simp] theorem mod_int (i j : Int) : wo (BOp.sem .mod (.int i) (.int j) st) QO = (0 < j ∧ QO (.int (i % j))) := wo_ite _ _ _
@[simp] theorem pow_int (i j : Int) : wo (BOp.sem .pow (.int i) (.int j) st) QO = ((0 ≤ j ∧ (bitsOf i : Int) * j ≤ 2 ^ 27) ∧ QO (.int (i ^ j.toNat))) := wo_ite _ _ _
@[simp] theorem neg_int (i : Int) : negD (.int i) = some (.int (-i)) := rfl
@[simp] theorem len_str (s : List Nat) : wo (lenD [.str s] st) QO = (s.length ≤ sizeLine ∧ QO (.int s.length)) := wo_ite _ _ _
@[simp] theorem len_scr (s : List Int) : lenD [.scr s] st = some (.int s.length) := rfl
@[simp] theorem len_lst (s : List D) : lenD [.lst s] st = some (.int s.length) := rfl
@[simp] theorem len_tup (s : List D) : lenD [.tup s] st = some (.int s.length) := rfl
@[simp] theorem abs_int (i : Int) : absD [.int i] st = some (.int (if i < 0 then -i else i)) := rfl
@[simp] theorem max_int (i j : Int) : maxD [.int i, .int j] st = some (.int (max i j)) := by
  show some (D.int (if j > i then j else i)) = _
  congr 2; split <;> omega
@[simp] theorem min_int (i j : Int) : minD [.int i, .int j] st = some (.int (min i j)) := by
  show some (D.int (if j < i then j else i)) = _
  congr 2; split <;> omega
@[simp high] theorem min_nat (i j : Nat) : minD [.int i, .int j] st = some (.int ((min i j : Nat) : Int)) := by
  rw [min_int]; congr 2; omega
@[simp high] theorem max_nat (i j : Nat) : maxD [.int i, .int j] st = some (.int ((max i j : Nat) : Int)) := by
  rw [max_int]; congr 2; omega
@[simp] theorem ix_str (s : List Nat) (i : Int) : wo (ixD (.str s) (.int i) st) QO = (s.length ≤ sizeLine ∧ wo (L2.atI s i) fun c => QO (.str [c])) := by
  show wo (if _ then _ else _) QO = _
  split
  · rename_i h; rw [wo_map]; exact propext ⟨fun q => ⟨h, q⟩, fun q => q.2⟩
  · rename_i h; exact propext ⟨fun q => q.elim, fun q => absurd q.1 h⟩
@[simp] theorem ix_lst (s : List D) (i : Int) : ixD (.lst s) (.int i) st = L2.atI s i := rfl
@[simp] theorem ix_tup (s : List D) (i : Int) : ixD (.tup s) (.int i) st = L2.atI s i := rfl
@[simp] theorem ix_scr (s : List Int) (i : Int) : ixD (.scr s) (.int i) st = (L2.atI s i).map D.int := rfl
theorem ix_ref {n : Nat} {xs : List D} (h : st[n]? = some (some (.lst xs))) (i : Int) : ixD (.ref n) (.int i) st = L2.atI xs i := by
  show (match viewL st (.ref n) with | some xs => L2.atI xs i | none => none) = _
  rw [show viewL st (.ref n) = some xs by simp only [viewL, h]]
@[simp] theorem sli_str (s : List Nat) (lo hi : Option Int) : wo (sliD (.str s) lo hi st) QO = (s.length ≤ sizeLine ∧ QO (.str (cutG s lo hi))) := wo_ite _ _ _
@[simp] theorem sli_tup (s : List D) (lo hi : Option Int) : sliD (.tup s) lo hi st = some (.tup (cutG s lo hi)) := rfl
@[simp] theorem sli_lst (s : List D) (lo hi : Option Int) : sliD (.lst s) lo hi st = some (.lst (cutG s lo hi)) := rfl
@[simp] theorem tru_bl (b : Bool) : truD st (.bl b) = some b := rfl
@[simp] theorem tru_non : truD st .non = some false := rfl
@[simp] theorem tru_int (i : Int) : truD st (.int i) = some (i != 0) := rfl
@[simp] theorem tru_tup (xs : List D) : truD st (.tup xs) = some (!xs.isEmpty) := rfl
@[simp] theorem eq_str (s t : List Nat) : cmpS .eq (.str s) (.str t) st = some (decide (s = t)) := rfl
@[simp] theorem ne_str (s t : List Nat) : cmpS .ne (.str s) (.str t) st = some (!decide (s = t)) := rfl
@[simp] theorem eq_int (s t : Int) : cmpS .eq (.int s) (.int t) st = some (decide (s = t)) := rfl
@[simp] theorem ne_int (s t : Int) : cmpS .ne (.int s) (.int t) st = some (!decide (s = t)) := rfl
@[simp] theorem lt_int (s t : Int) : cmpS .lt (.int s) (.int t) st = some (decide (s < t)) := rfl
@[simp] theorem le_int (s t : Int) : cmpS .le (.int s) (.int t) st = some (decide (s ≤ t)) := by
  show some (!(decide (t < s))) = _
  by_cases h : t < s <;> simp [h] <;> omega
@[simp] theorem gt_int (s t : Int) : cmpS .gt (.int s) (.int t) st = some (decide (s > t)) := rfl
@[simp] theorem ge_int (s t : Int) : cmpS .ge (.int s) (.int t) st = some (decide (s ≥ t)) := by
  show some (!(decide (s < t))) = _
  by_cases h : s < t <;> simp [h] <;> omega
@[simp] theorem isStr_str (s : List Nat) : isStr (.str s) st = true := rfl
end

/-! ### statements -/
variable {k : SK}
@[simp] theorem ws_nx : ws (.nx ρ st) k = k.nx ρ st := rfl
@[simp] theorem ws_bad : ws .bad k = False := rfl
@[simp] theorem ws_skip : ws (sSkip ρ st) k = k.nx ρ st := rfl
@[simp] theorem ws_sBad : ws (sBad ρ st) k = False := rfl
@[simp] theorem ws_seq (f g : SM) : ws (sSeq f g ρ st) k = ws (f ρ st) { k with nx := fun ρ1 st1 => ws (g ρ1 st1) k } := by
  unfold sSeq
  cases f ρ st <;> rfl
theorem ws_then (f : Env → M α) (g : α → SM) : ws (sThen f g ρ st) k = wp (f ρ st) (fun e st1 => k.ex e ρ st1) fun a st1 => ws (g a ρ st1) k := by
  unfold sThen
  cases f ρ st <;> rfl
@[simp] theorem ws_set (i : Nat) (f : Env → M D) : ws (sSet i f ρ st) k = wp (f ρ st) (fun e st1 => k.ex e ρ st1) fun d st1 => k.nx (ρ.set i (some d)) st1 := by unfold sSet; rw [ws_then]; rfl
@[simp] theorem ws_asg (g : D → Env → Option Env) (f : Env → M D) : ws (sAsg g f ρ st) k = wp (f ρ st) (fun e st1 => k.ex e ρ st1) fun d st1 => wo (g d ρ) fun ρ1 => k.nx ρ1 st1 := by
  unfold sAsg; rw [ws_then]
  congr; funext d st1
  cases g d ρ <;> rfl
@[simp] theorem ws_expr (f : Env → M D) : ws (sExpr f ρ st) k = wp (f ρ st) (fun e st1 => k.ex e ρ st1) fun d st1 => k.nx ρ st1 := by unfold sExpr; rw [ws_then]; rfl
@[simp] theorem ws_ret (f : Env → M D) : ws (sRet f ρ st) k = wp (f ρ st) (fun e st1 => k.ex e ρ st1) fun d st1 => k.rt d st1 := by unfold sRet; rw [ws_then]; rfl
@[simp] theorem ws_retN : ws (sRetN ρ st) k = k.rt .non st := rfl
@[simp] theorem ws_brk : ws (sBrk ρ st) k = k.bk ρ st := rfl
@[simp] theorem ws_cnt : ws (sCnt ρ st) k = k.ct ρ st := rfl
@[simp] theorem ws_if (c : Env → M Bool) (f g : SM) : ws (sIfS c f g ρ st) k = wp (c ρ st) (fun e st1 => k.ex e ρ st1) fun b st1 => if b = true then ws (f ρ st1) k else ws (g ρ st1) k := by
  unfold sIfS; rw [ws_then]
  congr; funext b st1
  cases b <;> rfl
@[simp] theorem ws_par (i j : Nat) (f : Env → M (List D)) : ws (sPar i j f ρ st) k = wp (f ρ st) (fun e st1 => k.ex e ρ st1) fun ds st1 => wo (match ds with | [a, b] => some ((ρ.set i (some a)).set j (some b)) | _ => none) fun ρ1 => k.nx ρ1 st1 := by
  unfold sPar; rw [ws_then]
  congr; funext ds st1
  match ds with
  | [] => rfl
  | [a] => rfl
  | [a, b] => rfl
  | a :: b :: c :: r => rfl
@[simp] theorem ws_aug (i : Nat) (op : BOp) (f : Env → M D) : ws (sAug i op f ρ st) k = wv ρ[i]? fun x => wp (f ρ st) (fun e st1 => k.ex e ρ st1) fun y st1 => wo (augOp op x y st1) fun d => k.nx (ρ.set i (some d)) st1 := by
  unfold sAug; rw [ws_then]
  simp only [bnd, wp_bnd, wp_ofO, wp_var]; rfl
@[simp] theorem ws_setIx (fv fo fi : Env → M D) : ws (sSetIx fv fo fi ρ st) k = wp (fv ρ st) (fun e st1 => k.ex e ρ st1) fun v st1 => wp (fo ρ st1) (fun e st1 => k.ex e ρ st1) fun o st2 => wp (fi ρ st2) (fun e st1 => k.ex e ρ st1) fun i st3 => wo (setD o i v st3) fun st4 => k.nx ρ st4 := by
  unfold sSetIx; rw [ws_then]
  simp only [bnd, wp_bnd]
  congr; funext v st1; congr; funext o st2; congr; funext i st3
  cases setD o i v st3 <;> rfl
@[simp] theorem ws_for (g : D → Env → Option Env) (it : Env → M (List D)) (body : SM) : ws (sFor g it body ρ st) k = wp (it ρ st) (fun e st1 => k.ex e ρ st1) fun items st1 => ws (forGo g body items ρ st1) k := by unfold sFor; rw [ws_then]
theorem ws_while (n : Nat) (c : Env → M Bool) (body : SM) : sWhile n c body = whileGo c body n := rfl
theorem wp_run (n : Nat) (body : SM) (ds : List D) : wp (runDef n body ds st) X Q = ws (body (ds.map some ++ List.replicate (n - ds.length) none) st) ⟨fun _ st => Q .non st, Q, fun _ _ => False, fun _ _ => False, fun e _ st => X e st⟩ := by
  unfold runDef
  cases body _ st <;> rfl
/-- a for loop by an invariant: behind i items -/
theorem ws_forGo (g : D → Env → Option Env) (body : SM) (I : Nat → Env → Store → Prop) : ∀ (items : List D) (ρ : Env) (st : Store), I 0 ρ st →
    (∀ i d ρ st, items[i]? = some d → I i ρ st → wo (g d ρ) fun ρ1 => ws (body ρ1 st) ⟨I (i + 1), k.rt, k.nx, I (i + 1), k.ex⟩) → (∀ ρ st, I items.length ρ st → k.nx ρ st) → ws (forGo g body items ρ st) k := by
  intro items
  induction items generalizing I with
  | nil => exact fun ρ st h _ he => he ρ st h
  | cons d r ih =>
    intro ρ st h hs he
    have h1 := hs 0 d ρ st rfl h
    cases eg : g d ρ with
    | none => rw [eg] at h1; exact h1.elim
    | some ρ1 =>
      rw [eg] at h1
      have h1 : ws (body ρ1 st) _ := h1
      have nx : ∀ ρ2 st2, I 1 ρ2 st2 → ws (forGo g body r ρ2 st2) k := fun ρ2 st2 q => ih (fun i => I (i + 1)) ρ2 st2 q (fun i d ρ st e => hs (i + 1) d ρ st e) he
      cases eb : body ρ1 st with
      | bad => rw [eb] at h1; exact h1.elim
      | nx ρ2 st2 => simp only [forGo, eg, eb] at h1 ⊢; exact nx ρ2 st2 h1
      | ct ρ2 st2 => simp only [forGo, eg, eb] at h1 ⊢; exact nx ρ2 st2 h1
      | bk ρ2 st2 => simp only [forGo, eg, eb] at h1 ⊢; exact h1
      | rt d st2 => simp only [forGo, eg, eb] at h1 ⊢; exact h1
      | ex e ρ2 st2 => simp only [forGo, eg, eb] at h1 ⊢; exact h1
/-- a while loop by an invariant and a measure -/
theorem ws_whileGo (c : Env → M Bool) (body : SM) (I : Nat → Env → Store → Prop)
    (hs : ∀ m ρ st, I m ρ st → wp (c ρ st) (fun e st1 => k.ex e ρ st1) fun b st1 => if b = true then ws (body ρ st1) ⟨fun ρ2 st2 => ∃ m2, m2 < m ∧ I m2 ρ2 st2, k.rt, k.nx, fun ρ2 st2 => ∃ m2, m2 < m ∧ I m2 ρ2 st2, k.ex⟩ else k.nx ρ st1) :
    ∀ (n m : Nat) (ρ : Env) (st : Store), m < n → I m ρ st → ws (whileGo c body n ρ st) k := by
  intro n
  induction n with
  | zero => exact fun m ρ st h => absurd h (Nat.not_lt_zero _)
  | succ n ih =>
    intro m ρ st hm hI
    have h1 := hs m ρ st hI
    cases ec : c ρ st with
    | bad => rw [ec] at h1; exact h1.elim
    | exc e st1 => simp only [whileGo, ec] at h1 ⊢; exact h1
    | ok b st1 =>
      rw [ec] at h1
      cases b with
      | false => simp only [whileGo, ec] at h1 ⊢; exact h1
      | true =>
        have h1 : ws (body ρ st1) _ := h1
        have nx : ∀ ρ2 st2, (∃ m2, m2 < m ∧ I m2 ρ2 st2) → ws (whileGo c body n ρ2 st2) k := fun ρ2 st2 ⟨m2, q1, q2⟩ => ih m2 ρ2 st2 (by omega) q2
        cases eb : body ρ st1 with
        | bad => rw [eb] at h1; exact h1.elim
        | nx ρ2 st2 => simp only [whileGo, ec, eb] at h1 ⊢; exact nx ρ2 st2 h1
        | ct ρ2 st2 => simp only [whileGo, ec, eb] at h1 ⊢; exact nx ρ2 st2 h1
        | bk ρ2 st2 => simp only [whileGo, ec, eb] at h1 ⊢; exact h1
        | rt d st2 => simp only [whileGo, ec, eb] at h1 ⊢; exact h1
        | ex e ρ2 st2 => simp only [whileGo, ec, eb] at h1 ⊢; exact h1
/-- a comprehension without ifs by an invariant: R i x is what is known of the i-th item -/
theorem wp_compGo (g : D → Env → Option Env) (f : Env → M D) (ρ₀ : Env) (I : Nat → Store → Prop) (R : Nat → D → Prop) : ∀ (items acc : List D) (st : Store) (Q : List D → Store → Prop), I 0 st → acc.length + items.length ≤ sizeLine →
    (∀ i d st, items[i]? = some d → I i st → wo (g d ρ₀) fun ρ1 => wp (f ρ1 st) (fun _ _ => False) fun x st1 => R i x ∧ I (i + 1) st1) → (∀ xs st, xs.length = items.length → (∀ i x, xs[i]? = some x → R i x) → I items.length st → Q (acc ++ xs) st) →
    wp (compGo g sYes f ρ₀ items acc st) X Q := by
  intro items
  induction items generalizing I R with
  | nil =>
    intro acc st Q h _ _ he
    have := he [] st rfl (fun i x e => by simp at e) h
    rw [List.append_nil] at this
    exact this
  | cons d r ih =>
    intro acc st Q h hz hs he
    have h1 := hs 0 d st rfl h
    cases eg : g d ρ₀ with
    | none => rw [eg] at h1; exact h1.elim
    | some ρ1 =>
      simp only [compGo, eg]
      rw [eg] at h1
      have h1 : wp (f ρ1 st) _ _ := h1
      show wp ((noX (sYes ρ1 st)).bnd _) X Q
      rw [wp_bnd]
      show wp ((noX (f ρ1 st)).bnd _) X Q
      rw [wp_bnd]
      cases ef : f ρ1 st with
      | bad => rw [ef] at h1; exact h1.elim
      | exc e st1 => rw [ef] at h1; exact h1.elim
      | ok x st1 =>
        rw [ef] at h1
        have hl : acc.length < sizeLine := by simp at hz; omega
        show wp ((if acc.length < sizeLine then compGo g sYes f ρ₀ r (acc ++ [x]) else badM) st1) X Q
        rw [if_pos hl]
        refine ih (fun i => I (i + 1)) (fun i => R (i + 1)) (acc ++ [x]) st1 Q h1.2 (by simp at hz ⊢; omega) (fun i d st e => hs (i + 1) d st e) ?_
        intro xs st2 hx hR hI
        have := he (x :: xs) st2 (by simp [hx]) (fun i y e => by
          cases i with
          | zero => cases e; exact h1.1
          | succ i => exact hR i y e) hI
        rw [List.append_assoc]
        exact this
/-- a pure comprehension, perhaps with an if -/
theorem comp_pure (g : D → Env → Option Env) (c : Env → M Bool) (f : Env → M D) (ρ₀ : Env) (p : D → Bool) (h : D → D) : ∀ (items acc : List D), (∀ d ∈ items, ∃ ρ1, g d ρ₀ = some ρ1 ∧ c ρ1 st = .ok (p d) st ∧ (p d = true → f ρ1 st = .ok (h d) st)) → acc.length + items.length ≤ sizeLine →
    compGo g c f ρ₀ items acc st = .ok (acc ++ (items.filter p).map h) st := by
  intro items
  induction items with
  | nil => intro acc _ _; unfold compGo; simp
  | cons d r ih =>
    intro acc hd hz
    obtain ⟨ρ1, e1, e2, e3⟩ := hd d List.mem_cons_self
    simp only [List.length_cons] at hz
    have hl : acc.length < sizeLine := by omega
    simp only [compGo, e1]
    show (noX (c ρ1 st)).bnd _ = _
    rw [e2]
    show (if p d = true then _ else _ : M (List D)) st = _
    cases hp : p d with
    | false =>
      rw [if_neg Bool.false_ne_true, List.filter_cons_of_neg (by rw [hp]; exact Bool.false_ne_true)]
      exact ih acc (fun d hd' => hd d (List.mem_cons_of_mem _ hd')) (by omega)
    | true =>
      rw [if_pos rfl, List.filter_cons_of_pos hp]
      show (noX (f ρ1 st)).bnd _ = _
      rw [e3 hp]
      show (if acc.length < sizeLine then compGo g c f ρ₀ r (acc ++ [h d]) else badM) st = _
      rw [if_pos hl, ih (acc ++ [h d]) (fun d hd' => hd d (List.mem_cons_of_mem _ hd')) (by simp; omega), List.append_assoc]
      rfl
end
end PL
/-! PL13: what many laws need of lists, texts, draws. -/
namespace PL
open PySem PySem.Spec PyProof.Rows L2
section
variable {X : Exc → Store → Prop} {st : Store} {k : SK} {ρ : Env}
@[simp] theorem sizeLine_num : sizeLine = 16777216 := rfl
theorem ws_seq_of {f g : SM} (I : Env → Store → Prop) (h1 : ws (f ρ st) { k with nx := I }) (h2 : ∀ ρ1 st1, I ρ1 st1 → ws (g ρ1 st1) k) : ws (sSeq f g ρ st) k := by
  rw [ws_seq]
  exact ws_imp h1 h2 (fun _ _ h => h) (fun _ _ h => h) (fun _ _ h => h) (fun _ _ _ h => h)
theorem setD_at {n : Nat} {xs : List D} {k : Int} {v : D} {j : Nat} (h : st[n]? = some (some (.lst xs))) (e : ixN xs.length k = some j) : setD (.ref n) (.int k) v st = some (st.set n (some (.lst (xs.set j v)))) := by
  simp only [setD, h, e, Option.map]
theorem set_get {n : Nat} {o : Option Ob} (h : st[n]? ≠ none) (ob : Option Ob) : (st.set n ob)[n]? = some ob := by
  have : n < st.length := by
    rcases Nat.lt_or_ge n st.length with q | q
    · exact q
    · exact absurd (List.getElem?_eq_none q) h
  exact List.getElem?_set_self this
theorem set_lst {n : Nat} {xs ys : List D} (h : st[n]? = some (some (.lst xs))) : (st.set n (some (.lst ys)))[n]? = some (some (.lst ys)) := set_get (o := none) (by rw [h]; exact nofun) _
theorem at0 {α : Type} (x : α) (l : List α) : atI (x :: l) 0 = some x := atI_nat (j := 0) rfl
theorem at1 {α : Type} (x y : α) (l : List α) : atI (x :: y :: l) 1 = some y := atI_nat (j := 1) rfl
theorem at2 {α : Type} (x y z : α) (l : List α) : atI (x :: y :: z :: l) 2 = some z := atI_nat (j := 2) rfl
theorem at3 {α : Type} (x y z a : α) (l : List α) : atI (x :: y :: z :: a :: l) 3 = some a := atI_nat (j := 3) rfl
theorem at_any {α : Type} {xs : List α} {r : Int} {Q : α → Prop} (h0 : 0 ≤ r) (h1 : r < xs.length) (q : ∀ x ∈ xs, Q x) : wo (atI xs r) Q := by
  obtain ⟨j, rfl⟩ : ∃ j : Nat, r = j := ⟨r.toNat, by omega⟩
  have hj : j < xs.length := by omega
  exact wo_of (atI_nat (List.getElem?_eq_getElem hj)) (q _ (List.getElem_mem hj))
theorem bits_le {i : Int} (h0 : 0 ≤ i) (h : i < 2 ^ 250) : (bitsOf i : Int) * 3 ≤ 134217728 := by
  have : bitsOf i ≤ 251 := by
    show Builtin.Int.intBits i ≤ 251
    unfold Builtin.Int.intBits
    split
    · omega
    · have hi : i.natAbs < 2 ^ 250 := by omega
      have h2 : i.natAbs ≠ 0 := by
        rename_i h3
        intro z
        exact h3 (by simp; omega)
      have := (Nat.log2_lt h2).2 hi
      omega
  omega
theorem log_lt {m : Int} (h : 0 < m) (h2 : m < 2 ^ 64) : m.natAbs.log2 < 9000 := by
  have h3 : m.natAbs ≠ 0 := by omega
  have := (Nat.log2_lt (k := 64) h3).2 (by omega)
  omega
/-- the tray of draws: a rest, a seed, a count of at most c -/
def Tr (n c : Nat) (st : Store) : Prop := ∃ a b k : Int, st[n]? = some (some (.lst [.int a, .int b, .int k])) ∧ 0 ≤ a ∧ 0 ≤ b ∧ b < 10 ^ 45 ∧ 0 ≤ k ∧ k ≤ c
theorem Tr.mono {n c c' : Nat} (h : Tr n c st) (hc : c ≤ c') : Tr n c' st := by
  obtain ⟨a, b, k, e, h1, h2, h3, h4, h5⟩ := h
  exact ⟨a, b, k, e, h1, h2, h3, h4, by omega⟩

/-! ### slices -/
theorem cut_to {α : Type} (xs : List α) (k : Nat) : cutG xs none (some (k : Int)) = xs.take k := by
  unfold cutG
  rw [HT.sIx_nat, HT.sIx_none, List.drop_zero, Nat.sub_zero]
  rcases Nat.le_total k xs.length with h | h
  · rw [Nat.min_eq_left h]
  · rw [Nat.min_eq_right h, List.take_length, List.take_of_length_le h]
theorem cut_from {α : Type} (xs : List α) (k : Nat) : cutG xs (some (k : Int)) none = xs.drop k := by
  unfold cutG
  rw [HT.sIx_nat, HT.sIx_none]
  rcases Nat.le_total k xs.length with h | h
  · rw [Nat.min_eq_left h, List.take_of_length_le (by simp)]
  · rw [Nat.min_eq_right h, List.drop_length, List.drop_of_length_le h]; simp

/-! ### texts of small letters -/
def Low (s : List Nat) : Prop := ∀ c ∈ s, 97 ≤ c ∧ c ≤ 122
theorem Low.app {s t : List Nat} (h : Low s) (h2 : Low t) : Low (s ++ t) := fun c hc => (List.mem_append.1 hc).elim (h c) (h2 c)
theorem Low.drop {s : List Nat} (h : Low s) (k : Nat) : Low (s.drop k) := fun c hc => h c (List.mem_of_mem_drop hc)
theorem Low.take {s : List Nat} (h : Low s) (k : Nat) : Low (s.take k) := fun c hc => h c (List.mem_of_mem_take hc)
theorem repN_len {α : Type} (s : List α) (k : Int) : (repN s k).length = k.toNat * s.length := by
  unfold repN
  simp
theorem Low.rep {s : List Nat} (h : Low s) (k : Int) : Low (repN s k) := fun c hc => by
  unfold repN at hc
  obtain ⟨l, h1, h2⟩ := List.mem_flatten.1 hc
  rw [List.eq_of_mem_replicate h1] at h2
  exact h c h2

/-! ### repr and == of plain data -/
def rp (d : D) : List Nat := ((pyT d).shown).cps.toList
def Plain (d : D) : Prop := flat 40 d = true ∧ intsOk d = true ∧ rsz d ≤ 16000000
theorem repr_plain {d : D} (h : Plain d) : reprD [d] st = some (.str (rp d)) := by
  show (if reprOk (rsv st d) then some (D.str ((pyT (rsv st d)).shown).cps.toList) else none) = _
  rw [rsv_flat st 40 d h.1]
  have : reprOk d = true := by
    unfold reprOk
    rw [h.1, h.2.1, decide_eq_true h.2.2]
    rfl
  simp only [this, if_true]
  rfl
theorem flat_low {s : List Nat} (h : Low s) (k : Nat) : flat k (.str s) = true := by
  have : (s.all fun c => decide (c < 1114112)) = true := by
    rw [List.all_eq_true]
    intro c hc
    have := h c hc
    exact decide_eq_true (by omega)
  cases k <;> exact this
theorem eq_refl_plain {a : D} (h : flat 60 a = true) (hv : ∀ v, a ≠ .vv v) : cmpS .eq a a st = some true := by
  have : COp.sem .eq a a st = some true := eqD_refl h
  cases a <;> first | exact this | exact absurd rfl (hv _)
theorem ne_refl_plain {a : D} (h : flat 60 a = true) (hv : ∀ v, a ≠ .vv v) : cmpS .ne a a st = some false := by
  have : COp.sem .ne a a st = some false := by
    show (eqD a a st).map (!·) = _
    rw [eqD_refl h]
    rfl
  cases a <;> first | exact this | exact absurd rfl (hv _)

/-! ### the common start of two texts -/
def cp : List Nat → List Nat → Nat
  | x :: a, y :: b => if x = y then cp a b + 1 else 0
  | _, _ => 0
theorem cp_le : ∀ a b : List Nat, cp a b ≤ a.length ∧ cp a b ≤ b.length
  | [], _ => by simp [cp]
  | _ :: _, [] => by simp [cp]
  | x :: a, y :: b => by
    have := cp_le a b
    unfold cp
    split <;> simp <;> omega
theorem cp_get : ∀ (a b : List Nat) (j : Nat), j < cp a b → ∃ c, a[j]? = some c ∧ b[j]? = some c
  | [], _, _, h => by simp [cp] at h
  | _ :: _, [], _, h => by simp [cp] at h
  | x :: a, y :: b, j, h => by
    unfold cp at h
    split at h
    · rename_i e
      cases j with
      | zero => exact ⟨x, rfl, by rw [e]; rfl⟩
      | succ j => exact cp_get a b j (by omega)
    · omega
theorem cp_at : ∀ (a b : List Nat), cp a b < a.length → cp a b < b.length → ∃ c d, a[cp a b]? = some c ∧ b[cp a b]? = some d ∧ c ≠ d
  | [], _, h, _ => by simp at h
  | _ :: _, [], _, h => by simp at h
  | x :: a, y :: b, h1, h2 => by
    unfold cp at h1 h2 ⊢
    by_cases e : x = y
    · rw [if_pos e] at h1 h2 ⊢
      simp at h1 h2
      obtain ⟨c, d, q1, q2, q3⟩ := cp_at a b h1 h2
      exact ⟨c, d, by simpa using q1, by simpa using q2, q3⟩
    · rw [if_neg e]
      exact ⟨x, y, rfl, rfl, e⟩
theorem cp_take : ∀ (a b : List Nat) (m : Nat), m ≤ a.length → m ≤ b.length → (a.take m = b.take m ↔ m ≤ cp a b)
  | _, _, 0, _, _ => by simp
  | [], _, m + 1, h, _ => by simp at h
  | _ :: _, [], m + 1, _, h => by simp at h
  | x :: a, y :: b, m + 1, h1, h2 => by
    simp at h1 h2
    have ih := cp_take a b m h1 h2
    unfold cp
    by_cases e : x = y
    · rw [if_pos e]
      simp [e, ih]
    · rw [if_neg e]
      simp [e]
theorem cp_swap : ∀ a b : List Nat, cp a b = cp b a
  | [], [] => rfl
  | [], _ :: _ => rfl
  | _ :: _, [] => rfl
  | x :: a, y :: b => by
    unfold cp
    by_cases e : x = y
    · rw [if_pos e, if_pos e.symm, cp_swap a b]
    · rw [if_neg e, if_neg (fun z => e z.symm)]
theorem cp_app : ∀ c a b : List Nat, cp (c ++ a) (c ++ b) = c.length + cp a b
  | [], a, b => by simp
  | x :: c, a, b => by
    show cp (x :: (c ++ a)) (x :: (c ++ b)) = _
    have e : cp (x :: (c ++ a)) (x :: (c ++ b)) = cp (c ++ a) (c ++ b) + 1 := by conv => lhs; unfold cp; rw [if_pos rfl]
    rw [e, cp_app c a b, List.length_cons]
    omega
theorem cp_rest : ∀ a b : List Nat, cp (a.drop (cp a b)) (b.drop (cp a b)) = 0
  | [], [] => rfl
  | [], _ :: _ => rfl
  | _ :: _, [] => rfl
  | x :: a, y :: b => by
    by_cases e : x = y
    · have : cp (x :: a) (y :: b) = cp a b + 1 := by conv => lhs; unfold cp; rw [if_pos e]
      rw [this]
      exact cp_rest a b
    · have : cp (x :: a) (y :: b) = 0 := by unfold cp; rw [if_neg e]
      rw [this]
      exact this
theorem cp_pre (a b : List Nat) : cp a (a ++ b) = a.length := by
  have := cp_app a [] b
  rw [List.append_nil] at this
  rw [this]
  cases b <;> rfl
theorem comp_map (g : D → Env → Option Env) (f : Env → M D) (ρ₀ : Env) (h : D → D) (items acc : List D) (hd : ∀ d ∈ items, ∃ ρ1, g d ρ₀ = some ρ1 ∧ f ρ1 st = .ok (h d) st) (hz : acc.length + items.length ≤ sizeLine) :
    compGo g sYes f ρ₀ items acc st = .ok (acc ++ items.map h) st := by
  have := comp_pure (st := st) g sYes f ρ₀ (fun _ => true) h items acc (fun d hh => by
    obtain ⟨ρ1, e1, e2⟩ := hd d hh
    exact ⟨ρ1, e1, rfl, fun _ => e2⟩) hz
  rw [this, List.filter_eq_self.2 (fun _ _ => rfl)]
/-- the two rests behind the common start -/
def stp (a b : List Nat) : D := .tup [.str (a.drop (cp a b)), .str (b.drop (cp a b))]
theorem asBls_m {α : Type} (l : List α) (p : α → Bool) : asBls (l.map fun x => .bl (p x)) = some (l.map p) := by
  induction l with
  | nil => rfl
  | cons x l ih => simp [asBls, ih]
theorem asStrs_m {α : Type} (l : List α) (p : α → List Nat) : asStrs (l.map fun x => .str (p x)) = some (l.map p) := by
  induction l with
  | nil => rfl
  | cons x l ih => simp [asStrs, ih]
theorem asInts_m {α : Type} (l : List α) (p : α → Int) : asInts (l.map fun x => .int (p x)) = some (l.map p) := by
  induction l with
  | nil => rfl
  | cons x l ih => simp [asInts, ih]
theorem joinG_nil (ys : List (List Nat)) : joinG [] ys = ys.flatten := by
  induction ys with
  | nil => rfl
  | cons x r ih =>
    cases r with
    | nil => simp [joinG]
    | cons y r => simp [joinG] at ih ⊢; rw [ih]
theorem chars_of {P : Nat → Prop} : ∀ xs : List D, (∀ (i : Nat) x, xs[i]? = some x → ∃ c, x = .str [c] ∧ P c) → ∃ t, xs = chars t ∧ (∀ c ∈ t, P c) ∧ t.length = xs.length
  | [], _ => ⟨[], rfl, (fun c hc => by cases hc), rfl⟩
  | x :: r, h => by
    obtain ⟨c, rfl, hc⟩ := h 0 x rfl
    obtain ⟨t, rfl, ht, hl⟩ := chars_of r fun i y e => h (i + 1) y e
    exact ⟨c :: t, rfl, fun d hd => (List.mem_cons.1 hd).elim (fun e => e ▸ hc) (ht d), by simp [hl]⟩
theorem join_chars {t : List Nat} (h : t.length ≤ 1000000) : joinD (.str []) [.lst (chars t)] st = some (.str t, st) := by
  have e1 : asStrs (chars t) = some (t.map fun c => [c]) := asStrs_m t fun c => [c]
  have e2 : ((t.map fun c => [c]).map (·.length)).sum = t.length := by
    clear e1 h
    induction t with
    | nil => rfl
    | cons c t ih => simp at ih ⊢; omega
  have e3 : joinG [] (t.map fun c => [c]) = t := by
    rw [joinG_nil]
    clear e1 e2 h
    induction t with
    | nil => rfl
    | cons c t ih => simp at ih ⊢; exact ih
  show ((viewS st (.lst (chars t))).bind fun xs => (asStrs xs).bind fun ys => if (ys.map (·.length)).sum + ys.length * ([] : List Nat).length ≤ 16777216 then some (D.str (joinG [] ys), st) else none) = _
  rw [show viewS st (.lst (chars t)) = some (chars t) from rfl]
  simp only [Option.bind, e1, e2, e3]
  rw [if_pos (by simp; omega)]
theorem rng1_nat {r : Int} (h0 : 0 ≤ r) (h : r ≤ 1000000) : rng1 [.int r] = some (rng 0 r.toNat) := by
  show (if _ then _ else _ : Option (List D)) = _
  rw [if_pos (by omega)]
theorem rng_ln (lo : Int) (n : Nat) : (rng lo n).length = n := by simp [rng]
theorem rng_gt {lo : Int} {n i : Nat} {d : D} (h : (rng lo n)[i]? = some d) : d = .int (lo + i) ∧ i < n := by
  unfold rng at h
  rw [List.getElem?_map] at h
  cases e : (List.range n)[i]? with
  | none => rw [e] at h; cases h
  | some j =>
    rw [e] at h
    cases h
    obtain ⟨h1, h2⟩ := List.getElem?_eq_some_iff.1 e
    simp at h1 h2
    exact ⟨by rw [h2], h1⟩
end
end PL
set_option maxHeartbeats 4000000
namespace LK07
open PySem PySem.Spec PyProof.Rows L2 PL
def topS (i : Nat) : Stmt := PySem.Challenge.pw_braceloops_k07_steps_of_words.main.body.getD i (.Pass ⟨0, 0, 0, 0⟩)
def fuel : Nat := 20000000
/-- what the globals are -/
structure Fx (mg : Str → Option Value) : Prop where
  z_abs : mg "abs" = none
  z_all : mg "all" = none
  z_isinstance : mg "isinstance" = none
  z_len : mg "len" = none
  z_max : mg "max" = none
  z_min : mg "min" = none
  z_range : mg "range" = none
  z_repr : mg "repr" = none
  z_str : mg "str" = none
  c_LETTERS : ∃ t, mg "LETTERS" = some (.str (toS [97, 98, 99, 100, 101, 102, 103, 104, 105, 106, 107, 108, 109, 110, 111, 112, 113, 114, 115, 116, 117, 118, 119, 120, 121, 122]) t)
abbrev s_is_word : Stmt := topS 5
theorem sc_is_word : FnScope ["value", "letter"] ["value"] (defScope s_is_word) := ⟨rfl, rfl, rfl, by decide +kernel, rfl, by decide +kernel, by decide +kernel⟩
def b_is_word : SM := sRet (sAnd (sBlt isiD (sCons (sVar 0) (sCons (sCon (.vv (.ty "str"))) (sNil)))) (sBlt allD (sCons (sComp false [1] (gNm 1) (sYes) (sOfB (tCmpS .isin (sVar 1) (sCon (.str [97, 98, 99, 100, 101, 102, 103, 104, 105, 106, 107, 108, 109, 110, 111, 112, 113, 114, 115, 116, 117, 118, 119, 120, 121, 122])))) (sWalkA (sVar 0))) (sNil))))
def F_is_word : List D → M D := runDef 2 b_is_word
abbrev s_check_word : Stmt := topS 6
theorem sc_check_word : FnScope ["word"] ["word"] (defScope s_check_word) := ⟨rfl, rfl, rfl, by decide +kernel, rfl, by decide +kernel, by decide +kernel⟩
def b_check_word : SM := sIfS (tNotB (sTru (sCall (arity 1 F_is_word) (sCons (sVar 0) (sNil))))) (sBad) (sSkip)
def F_check_word : List D → M D := runDef 1 b_check_word
abbrev s_common_start : Stmt := topS 8
theorem sc_common_start : FnScope ["word", "other", "most", "found"] ["word", "other"] (defScope s_common_start) := ⟨rfl, rfl, rfl, by decide +kernel, rfl, by decide +kernel, by decide +kernel⟩
def b_common_start : SM := sSeq (sSet 2 (sBlt minD (sCons (sBlt lenD (sCons (sVar 0) (sNil))) (sCons (sBlt lenD (sCons (sVar 1) (sNil))) (sNil)))))
    (sSeq (sIfS (tCmpS .eq (sSli (sVar 0) (sNo) (sSo (sVar 2))) (sSli (sVar 1) (sNo) (sSo (sVar 2)))) (sRet (sVar 2)) (sSkip))
    (sSeq (sSet 3 (sCon (.int 0)))
    (sSeq (sWhile fuel (tCmpS .eq (sIx (sVar 0) (sVar 3)) (sIx (sVar 1) (sVar 3)))
    (sSet 3 (sBin .add (sVar 3) (sCon (.int 1)))))
    (sRet (sVar 3)))))
def F_common_start : List D → M D := runDef 4 b_common_start
abbrev s_step_between : Stmt := topS 9
theorem sc_step_between : FnScope ["word", "other", "place"] ["word", "other"] (defScope s_step_between) := ⟨rfl, rfl, rfl, by decide +kernel, rfl, by decide +kernel, by decide +kernel⟩
def b_step_between : SM := sSeq (sSet 2 (sCall (arity 2 F_common_start) (sCons (sVar 0) (sCons (sVar 1) (sNil)))))
    (sRet (sTup (sCons (sSli (sVar 0) (sSo (sVar 2)) (sNo)) (sCons (sSli (sVar 1) (sSo (sVar 2)) (sNo)) (sNil)))))
def F_step_between : List D → M D := runDef 3 b_step_between
abbrev s_step : Stmt := topS 10
theorem sc_step : FnScope ["word", "other"] ["word", "other"] (defScope s_step) := ⟨rfl, rfl, rfl, by decide +kernel, rfl, by decide +kernel, by decide +kernel⟩
def b_step : SM := sSeq (sExpr (sCall (arity 1 F_check_word) (sCons (sVar 0) (sNil))))
    (sSeq (sExpr (sCall (arity 1 F_check_word) (sCons (sVar 1) (sNil))))
    (sRet (sCall (arity 2 F_step_between) (sCons (sVar 0) (sCons (sVar 1) (sNil))))))
def F_step : List D → M D := runDef 2 b_step
abbrev s_law_tray : Stmt := topS 12
theorem sc_law_tray : FnScope ["script", "at", "cell"] ["script", "at"] (defScope s_law_tray) := ⟨rfl, rfl, rfl, by decide +kernel, rfl, by decide +kernel, by decide +kernel⟩
def b_law_tray : SM := sSeq (sSet 2 (sIf (tCmpS .lt (sVar 1) (sBlt lenD (sCons (sVar 0) (sNil)))) (sIx (sVar 0) (sVar 1)) (sCon (.int 0))))
    (sRet (sLst true (sCons (sBlt maxD (sCons (sCon (.int 0)) (sCons (sBin .sub (sBlt absD (sCons (sVar 2) (sNil))) (sBin .pow (sCon (.int 10)) (sCon (.int 18)))) (sNil)))) (sCons (sBin .add (sBin .add (sBin .mul (sBin .mod (sVar 2) (sBin .add (sBin .pow (sCon (.int 10)) (sCon (.int 38))) (sCon (.int 133)))) (sCon (.int 89))) (sBin .mul (sCon (.int 59)) (sVar 1))) (sCon (.int 23))) (sCons (sCon (.int 0)) (sNil))))))
def F_law_tray : List D → M D := runDef 3 b_law_tray
abbrev s_law_take : Stmt := topS 13
theorem sc_law_take : FnScope ["tray", "many", "taken", "mixed"] ["tray", "many"] (defScope s_law_take) := ⟨rfl, rfl, rfl, by decide +kernel, rfl, by decide +kernel, by decide +kernel⟩
def b_law_take : SM := sSeq (sIfS (tCmpS .gt (sIx (sVar 0) (sCon (.int 0))) (sCon (.int 0))) (sSeq (sSet 2 (sBin .mod (sIx (sVar 0) (sCon (.int 0))) (sVar 1)))
    (sSeq (sSetIx (sBin .fdiv (sIx (sVar 0) (sCon (.int 0))) (sVar 1)) (sVar 0) (sCon (.int 0)))
    (sRet (sVar 2)))) (sSkip))
    (sSeq (sSetIx (sBin .add (sIx (sVar 0) (sCon (.int 2))) (sCon (.int 1))) (sVar 0) (sCon (.int 2)))
    (sSeq (sSet 3 (sBin .mod (sBin .pow (sBin .add (sIx (sVar 0) (sCon (.int 1))) (sBin .mul (sCon (.int 715827883)) (sIx (sVar 0) (sCon (.int 2))))) (sCon (.int 3))) (sBin .add (sBin .pow (sCon (.int 10)) (sCon (.int 39))) (sCon (.int 3)))))
    (sSeq (sSet 3 (sBin .mod (sBin .pow (sBin .add (sVar 3) (sBin .mul (sCon (.int 122949829)) (sIx (sVar 0) (sCon (.int 2))))) (sCon (.int 3))) (sBin .add (sBin .pow (sCon (.int 10)) (sCon (.int 40))) (sCon (.int 121)))))
    (sRet (sBin .mod (sBin .fdiv (sVar 3) (sCon (.int 1000081))) (sVar 1))))))
def F_law_take : List D → M D := runDef 4 b_law_take
abbrev s_law_letters : Stmt := topS 14
theorem sc_law_letters : FnScope ["tray", "signs", "most", "turn"] ["tray", "signs", "most"] (defScope s_law_letters) := ⟨rfl, rfl, rfl, by decide +kernel, rfl, by decide +kernel, by decide +kernel⟩
def b_law_letters : SM := sRet (sMth isStr joinD (sCon (.str [])) (sCons (sComp false [3] (gNm 3) (sYes) (sIx (sVar 1) (sCall (arity 2 F_law_take) (sCons (sVar 0) (sCons (sBlt lenD (sCons (sVar 1) (sNil))) (sNil))))) (sRng1 (sCons (sCall (arity 2 F_law_take) (sCons (sVar 0) (sCons (sBin .add (sVar 2) (sCon (.int 1))) (sNil)))) (sNil)))) (sNil)))
def F_law_letters : List D → M D := runDef 4 b_law_letters
abbrev s_law_rests : Stmt := topS 15
theorem sc_law_rests : FnScope ["one", "two", "many"] ["one", "two"] (defScope s_law_rests) := ⟨rfl, rfl, rfl, by decide +kernel, rfl, by decide +kernel, by decide +kernel⟩
def b_law_rests : SM := sSeq (sIfS (tOrB (tCmpS .eq (sVar 0) (sCon (.str []))) (tOrB (tCmpS .eq (sVar 1) (sCon (.str []))) (tCmpS .ne (sIx (sVar 0) (sCon (.int 0))) (sIx (sVar 1) (sCon (.int 0)))))) (sRet (sTup (sCons (sVar 0) (sCons (sVar 1) (sNil))))) (sSkip))
    (sSeq (sSet 2 (sCon (.int 0)))
    (sSeq (sWhile fuel (tAndB (tCmpS .lt (sVar 2) (sBlt minD (sCons (sBlt lenD (sCons (sVar 0) (sNil))) (sCons (sBlt lenD (sCons (sVar 1) (sNil))) (sNil))))) (tCmpS .eq (sIx (sVar 0) (sVar 2)) (sIx (sVar 1) (sVar 2))))
    (sSet 2 (sBin .add (sVar 2) (sCon (.int 1)))))
    (sRet (sTup (sCons (sSli (sVar 0) (sSo (sVar 2)) (sNo)) (sCons (sSli (sVar 1) (sSo (sVar 2)) (sNo)) (sNil)))))))
def F_law_rests : List D → M D := runDef 3 b_law_rests
abbrev s_law_right : Stmt := topS 16
theorem sc_law_right : FnScope ["tray", "signs", "most", "front", "mid", "back", "many", "pairs_here", "one", "two", "due", "told", "turn"] ["tray"] (defScope s_law_right) := ⟨rfl, rfl, rfl, by decide +kernel, rfl, by decide +kernel, by decide +kernel⟩
def b_law_right : SM := sSeq (sAsg (gTu 2 (gCo (gNm 1) (gCo (gNm 2) (gNi)))) (sTup (sCons (sIx (sLst false (sCons (sCon (.str [120])) (sCons (sCon (.str [97, 98])) (sCons (sCon (.str [97, 98, 99, 100, 101, 102, 103, 104, 105, 106, 107, 108, 109, 110, 111, 112, 113, 114, 115, 116, 117, 118, 119, 120, 121, 122])) (sNil))))) (sCall (arity 2 F_law_take) (sCons (sVar 0) (sCons (sCon (.int 3)) (sNil))))) (sCons (sIx (sLst false (sCons (sCon (.int 3)) (sCons (sCon (.int 10)) (sCons (sCon (.int 20)) (sNil))))) (sCall (arity 2 F_law_take) (sCons (sVar 0) (sCons (sCon (.int 3)) (sNil))))) (sNil)))))
    (sSeq (sAsg (gLi 3 (gCo (gNm 3) (gCo (gNm 4) (gCo (gNm 5) (gNi))))) (sComp false [12] (gNm 12) (sYes) (sCall (arity 3 F_law_letters) (sCons (sVar 0) (sCons (sVar 1) (sCons (sVar 2) (sNil))))) (sRng1 (sCons (sCon (.int 3)) (sNil)))))
    (sSeq (sSet 6 (sIx (sLst false (sCons (sCon (.int 1)) (sCons (sCon (.int 1)) (sCons (sCon (.int 1)) (sCons (sCon (.int 20)) (sNil)))))) (sCall (arity 2 F_law_take) (sCons (sVar 0) (sCons (sCon (.int 4)) (sNil))))))
    (sSeq (sSet 7 (sLst false (sCons (sTup (sCons (sVar 3) (sCons (sVar 4) (sNil)))) (sCons (sTup (sCons (sBin .add (sBin .mul (sVar 3) (sVar 6)) (sVar 4)) (sCons (sBin .add (sBin .mul (sVar 3) (sVar 6)) (sVar 5)) (sNil)))) (sCons (sTup (sCons (sBin .add (sVar 4) (sVar 3)) (sCons (sBin .add (sVar 5) (sVar 3)) (sNil)))) (sNil))))))
    (sSeq (sSet 7 (sBin .add (sVar 7) (sLst false (sCons (sTup (sCons (sVar 3) (sCons (sBin .add (sVar 3) (sVar 4)) (sNil)))) (sCons (sTup (sCons (sBin .mul (sVar 3) (sVar 6)) (sCons (sBin .mul (sVar 3) (sVar 6)) (sNil)))) (sCons (sTup (sCons (sBin .add (sVar 3) (sVar 4)) (sCons (sBin .add (sVar 4) (sVar 3)) (sNil)))) (sNil)))))))
    (sSeq (sFor (gTu 2 (gCo (gNm 8) (gCo (gNm 9) (gNi)))) (sWalkA (sVar 7))
    (sSeq (sSet 10 (sCall (arity 2 F_law_rests) (sCons (sVar 8) (sCons (sVar 9) (sNil)))))
    (sSeq (sSet 11 (sLst false (sCons (sCall (arity 2 F_step) (sCons (sVar 8) (sCons (sVar 9) (sNil)))) (sCons (sCallK 0 2 [0, 1] (arity 2 F_step) sNil (sCons (sVar 8) (sCons (sVar 9) (sNil)))) (sCons (sCallK 0 2 [1, 0] (arity 2 F_step) sNil (sCons (sVar 9) (sCons (sVar 8) (sNil)))) (sNil))))))
    (sSeq (sIfS (tOrB (tCmpS .ne (sBlt reprD (sCons (sVar 11) (sNil))) (sBlt reprD (sCons (sBin .mul (sLst false (sCons (sVar 10) (sNil))) (sCon (.int 3))) (sNil)))) (tCmpS .ne (sBlt reprD (sCons (sCall (arity 2 F_step) (sCons (sVar 9) (sCons (sVar 8) (sNil)))) (sNil))) (sBlt reprD (sCons (sTup (sCons (sIx (sVar 10) (sCon (.int 1))) (sCons (sIx (sVar 10) (sCon (.int 0))) (sNil)))) (sNil))))) (sRet (sCon (.bl false))) (sSkip))
    (sIfS (tOrB (tCmpS .ne (sCall (arity 2 F_step) (sCons (sBin .add (sVar 5) (sVar 8)) (sCons (sBin .add (sVar 5) (sVar 9)) (sNil)))) (sVar 10)) (tCmpS .ne (sCall (arity 2 F_step) (sCons (sIx (sVar 10) (sCon (.int 0))) (sCons (sIx (sVar 10) (sCon (.int 1))) (sNil)))) (sVar 10))) (sRet (sCon (.bl false))) (sSkip))))))
    (sRet (sOfB (tCmpS .eq (sCall (arity 2 F_step) (sCons (sVar 3) (sCons (sBin .add (sVar 3) (sVar 4)) (sNil)))) (sTup (sCons (sCon (.str [])) (sCons (sVar 4) (sNil))))))))))))
def F_law_right : List D → M D := runDef 13 b_law_right
abbrev s_law : Stmt := topS 17
theorem sc_law : FnScope ["script", "at", "tray", "turn", "long_here", "told"] ["script"] (defScope s_law) := ⟨rfl, rfl, rfl, by decide +kernel, rfl, by decide +kernel, by decide +kernel⟩
def b_law : SM := sSeq (sFor (gNm 1) (sRng1 (sCons (sBlt maxD (sCons (sCon (.int 1)) (sCons (sBlt minD (sCons (sCon (.int 16)) (sCons (sBlt lenD (sCons (sVar 0) (sNil))) (sNil)))) (sNil)))) (sNil)))
    (sSeq (sSet 2 (sCall (arity 2 F_law_tray) (sCons (sVar 0) (sCons (sVar 1) (sNil)))))
    (sFor (gNm 3) (sRng1 (sCons (sCon (.int 3)) (sNil)))
    (sIfS (tNotB (sTru (sCall (arity 1 F_law_right) (sCons (sVar 2) (sNil))))) (sRet (sCon (.bl false))) (sSkip)))))
    (sSeq (sSet 4 (sBin .mul (sCon (.str [97, 98])) (sCon (.int 400))))
    (sSeq (sSet 5 (sLst false (sCons (sCall (arity 2 F_step) (sCons (sCon (.str [97, 99, 120])) (sCons (sCon (.str [97, 100])) (sNil)))) (sCons (sCall (arity 2 F_step) (sCons (sCon (.str [])) (sCons (sCon (.str [])) (sNil)))) (sCons (sCall (arity 2 F_step) (sCons (sVar 4) (sCons (sBin .add (sSli (sVar 4) (sNo) (sSo (sCon (.int 799)))) (sCon (.str [99]))) (sNil)))) (sCons (sCall (arity 2 F_step) (sCons (sVar 4) (sCons (sSli (sVar 4) (sNo) (sSo (sCon (.int 500)))) (sNil)))) (sNil)))))))
    (sRet (sOfB (tCmpS .eq (sVar 5) (sLst false (sCons (sTup (sCons (sCon (.str [99, 120])) (sCons (sCon (.str [100])) (sNil)))) (sCons (sTup (sCons (sCon (.str [])) (sCons (sCon (.str [])) (sNil)))) (sCons (sTup (sCons (sCon (.str [98])) (sCons (sCon (.str [99])) (sNil)))) (sCons (sTup (sCons (sBin .mul (sCon (.str [97, 98])) (sCon (.int 150))) (sCons (sCon (.str [])) (sNil)))) (sNil)))))))))))
def F_law : List D → M D := runDef 6 b_law
section
variable {P : Program} {wo : World} {K : PySem.W.Frag} {mg : Str → Option Value} {base : Heap}
theorem g_is_word {f : Addr} {fd : FuncData} (F : Fun K "is_word" "is_word" s_is_word f fd) (B : Fx mg)   : FG P wo K mg base 1 f fd ["value"] (spF K mg 1 (arity 1 F_is_word)) :=
  fg_def 1 2 F sc_is_word fun cdv A out s H E hr hg => by
    have hu := huOf hr
    have nd := sc_is_word.nd
    exact (dss_one (ds_ret (de_and (de_blt cr_isiD rfl B.z_isinstance boot_isinstance (da_cons (de_var 0 rfl (.inl rfl)) (da_cons (de_tyv rfl B.z_str boot_str) da_nil))) (de_one (de_blt (cr_allD rfl) rfl B.z_all boot_all (da_cons (de_comp false (own := [("letter", 1)]) rfl nd (di_any (de_var 0 rfl (.inl rfl))) (blkOk_by rfl) (fun _ _ _ _ _ => (dg_name 1 nd rfl (.inl rfl))) (fun _ _ _ _ _ => dq_nil) (fun _ _ _ _ _ => (de_cmp .isin hu (de_var 1 rfl (.inl rfl)) (de_gloS [97, 98, 99, 100, 101, 102, 103, 104, 105, 106, 107, 108, 109, 110, 111, 112, 113, 114, 115, 116, 117, 118, 119, 120, 121, 122] rfl B.c_LETTERS)))) da_nil))))))
theorem g_check_word {f : Addr} {fd : FuncData} (F : Fun K "check_word" "check_word" s_check_word f fd) (B : Fx mg) {f_is_word : Addr} {fd_is_word : FuncData} (O_is_word : Own P wo K mg base "is_word" 1 fd_is_word f_is_word ["value"] 1 F_is_word)  : FG P wo K mg base 2 f fd ["word"] (spF K mg 1 (arity 1 F_check_word)) :=
  fg_def 1 1 F sc_check_word fun cdv A out s H E hr hg => by
    have hu := huOf hr
    have nd := sc_check_word.nd
    exact (dss_one (ds_if (dt_not (dt_tru (de_own O_is_word hr (by decide) hg tkOf (da_cons (de_var 0 rfl (.inl rfl)) da_nil)))) (dss_one ds_never) dss_nil))
theorem g_common_start {f : Addr} {fd : FuncData} (F : Fun K "common_start" "common_start" s_common_start f fd) (B : Fx mg)   : FG P wo K mg base 1 f fd ["word", "other"] (spF K mg 2 (arity 2 F_common_start)) :=
  fg_def 2 4 F sc_common_start fun cdv A out s H E hr hg => by
    have hu := huOf hr
    have nd := sc_common_start.nd
    exact (dss_cons (ds_set 2 nd rfl (.inl rfl) (de_blt (cr_minD rfl) rfl B.z_min boot_min (da_cons (de_blt cr_len rfl B.z_len boot_len (da_cons (de_var 0 rfl (.inl rfl)) da_nil)) (da_cons (de_blt cr_len rfl B.z_len boot_len (da_cons (de_var 1 rfl (.inl rfl)) da_nil)) da_nil))))
    (dss_cons (ds_if (dt_cmp .eq hu (de_sli (de_var 0 rfl (.inl rfl)) do_none (do_some (de_var 2 rfl (.inl rfl)))) (de_sli (de_var 1 rfl (.inl rfl)) do_none (do_some (de_var 2 rfl (.inl rfl))))) (dss_one (ds_ret (de_var 2 rfl (.inl rfl)))) dss_nil)
    (dss_cons (ds_set 3 nd rfl (.inl rfl) de_int)
    (dss_cons (ds_while fuel paOf (dt_cmp .eq hu (de_ix (de_var 0 rfl (.inl rfl)) (de_var 3 rfl (.inl rfl))) (de_ix (de_var 1 rfl (.inl rfl)) (de_var 3 rfl (.inl rfl)))) (dss_one (ds_set 3 nd rfl (.inl rfl) (de_bin .add (de_var 3 rfl (.inl rfl)) de_int))))
    (dss_one (ds_ret (de_var 3 rfl (.inl rfl))))))))
theorem g_step_between {f : Addr} {fd : FuncData} (F : Fun K "step_between" "step_between" s_step_between f fd) (B : Fx mg) {f_common_start : Addr} {fd_common_start : FuncData} (O_common_start : Own P wo K mg base "common_start" 1 fd_common_start f_common_start ["word", "other"] 2 F_common_start)  : FG P wo K mg base 2 f fd ["word", "other"] (spF K mg 2 (arity 2 F_step_between)) :=
  fg_def 2 3 F sc_step_between fun cdv A out s H E hr hg => by
    have hu := huOf hr
    have nd := sc_step_between.nd
    exact (dss_cons (ds_set 2 nd rfl (.inl rfl) (de_own O_common_start hr (by decide) hg tkOf (da_cons (de_var 0 rfl (.inl rfl)) (da_cons (de_var 1 rfl (.inl rfl)) da_nil))))
    (dss_one (ds_ret (de_tup (da_cons (de_sli (de_var 0 rfl (.inl rfl)) (do_some (de_var 2 rfl (.inl rfl))) do_none) (da_cons (de_sli (de_var 1 rfl (.inl rfl)) (do_some (de_var 2 rfl (.inl rfl))) do_none) da_nil))))))
theorem g_step {f : Addr} {fd : FuncData} (F : Fun K "step" "step" s_step f fd) (B : Fx mg) {f_check_word : Addr} {fd_check_word : FuncData} (O_check_word : Own P wo K mg base "check_word" 2 fd_check_word f_check_word ["word"] 1 F_check_word) {f_step_between : Addr} {fd_step_between : FuncData} (O_step_between : Own P wo K mg base "step_between" 2 fd_step_between f_step_between ["word", "other"] 2 F_step_between)  : FG P wo K mg base 3 f fd ["word", "other"] (spF K mg 2 (arity 2 F_step)) :=
  fg_def 2 2 F sc_step fun cdv A out s H E hr hg => by
    have hu := huOf hr
    have nd := sc_step.nd
    exact (dss_cons (ds_expr (de_own O_check_word hr (by decide) hg tkOf (da_cons (de_var 0 rfl (.inl rfl)) da_nil)))
    (dss_cons (ds_expr (de_own O_check_word hr (by decide) hg tkOf (da_cons (de_var 1 rfl (.inl rfl)) da_nil)))
    (dss_one (ds_ret (de_own O_step_between hr (by decide) hg tkOf (da_cons (de_var 0 rfl (.inl rfl)) (da_cons (de_var 1 rfl (.inl rfl)) da_nil)))))))
theorem g_law_tray {f : Addr} {fd : FuncData} (F : Fun K "_law_tray" "_law_tray" s_law_tray f fd) (B : Fx mg)   : FG P wo K mg base 1 f fd ["script", "at"] (spF K mg 2 (arity 2 F_law_tray)) :=
  fg_def 2 3 F sc_law_tray fun cdv A out s H E hr hg => by
    have hu := huOf hr
    have nd := sc_law_tray.nd
    exact (dss_cons (ds_set 2 nd rfl (.inl rfl) (de_if (dt_cmp .lt hu (de_var 1 rfl (.inl rfl)) (de_blt cr_len rfl B.z_len boot_len (da_cons (de_var 0 rfl (.inl rfl)) da_nil))) (de_ix (de_var 0 rfl (.inl rfl)) (de_var 1 rfl (.inl rfl))) de_int))
    (dss_one (ds_ret (de_lst true (da_cons (de_blt (cr_maxD rfl) rfl B.z_max boot_max (da_cons de_int (da_cons (de_bin .sub (de_blt cr_abs rfl B.z_abs boot_abs (da_cons (de_var 2 rfl (.inl rfl)) da_nil)) (de_bin .pow de_int de_int)) da_nil))) (da_cons (de_bin .add (de_bin .add (de_bin .mul (de_bin .mod (de_var 2 rfl (.inl rfl)) (de_bin .add (de_bin .pow de_int de_int) de_int)) de_int) (de_bin .mul de_int (de_var 1 rfl (.inl rfl)))) de_int) (da_cons de_int da_nil)))))))
theorem g_law_take {f : Addr} {fd : FuncData} (F : Fun K "_law_take" "_law_take" s_law_take f fd) (B : Fx mg)   : FG P wo K mg base 1 f fd ["tray", "many"] (spF K mg 2 (arity 2 F_law_take)) :=
  fg_def 2 4 F sc_law_take fun cdv A out s H E hr hg => by
    have hu := huOf hr
    have nd := sc_law_take.nd
    exact (dss_cons (ds_if (dt_cmp .gt hu (de_ix (de_var 0 rfl (.inl rfl)) de_int) de_int) (dss_cons (ds_set 2 nd rfl (.inl rfl) (de_bin .mod (de_ix (de_var 0 rfl (.inl rfl)) de_int) (de_var 1 rfl (.inl rfl))))
    (dss_cons (ds_setIx (de_bin .fdiv (de_ix (de_var 0 rfl (.inl rfl)) de_int) (de_var 1 rfl (.inl rfl))) (de_var 0 rfl (.inl rfl)) de_int)
    (dss_one (ds_ret (de_var 2 rfl (.inl rfl)))))) dss_nil)
    (dss_cons (ds_setIx (de_bin .add (de_ix (de_var 0 rfl (.inl rfl)) de_int) de_int) (de_var 0 rfl (.inl rfl)) de_int)
    (dss_cons (ds_set 3 nd rfl (.inl rfl) (de_bin .mod (de_bin .pow (de_bin .add (de_ix (de_var 0 rfl (.inl rfl)) de_int) (de_bin .mul de_int (de_ix (de_var 0 rfl (.inl rfl)) de_int))) de_int) (de_bin .add (de_bin .pow de_int de_int) de_int)))
    (dss_cons (ds_set 3 nd rfl (.inl rfl) (de_bin .mod (de_bin .pow (de_bin .add (de_var 3 rfl (.inl rfl)) (de_bin .mul de_int (de_ix (de_var 0 rfl (.inl rfl)) de_int))) de_int) (de_bin .add (de_bin .pow de_int de_int) de_int)))
    (dss_one (ds_ret (de_bin .mod (de_bin .fdiv (de_var 3 rfl (.inl rfl)) de_int) (de_var 1 rfl (.inl rfl)))))))))
theorem g_law_letters {f : Addr} {fd : FuncData} (F : Fun K "_law_letters" "_law_letters" s_law_letters f fd) (B : Fx mg) {f_law_take : Addr} {fd_law_take : FuncData} (O_law_take : Own P wo K mg base "_law_take" 1 fd_law_take f_law_take ["tray", "many"] 2 F_law_take)  : FG P wo K mg base 2 f fd ["tray", "signs", "most"] (spF K mg 3 (arity 3 F_law_letters)) :=
  fg_def 3 4 F sc_law_letters fun cdv A out s H E hr hg => by
    have hu := huOf hr
    have nd := sc_law_letters.nd
    exact (dss_one (ds_ret (de_mth ty_str PySem.F.plainAttrs_str PySem.F.slot_str_join PySem.F.type_str_join mr_join (de_str []) (da_cons (de_comp false (own := [("turn", 3)]) rfl nd (di_rng1 B.z_range (da_cons (de_own O_law_take hr (by decide) hg tkOf (da_cons (de_var 0 rfl (.inr (.inl rfl))) (da_cons (de_bin .add (de_var 2 rfl (.inl rfl)) de_int) da_nil))) da_nil)) (blkOk_by rfl) (fun _ _ _ _ _ => (dg_name 3 nd rfl (.inl rfl))) (fun _ _ _ _ _ => dq_nil) (fun _ _ _ _ _ => (de_ix (de_var 1 rfl (.inr (.inl rfl))) (de_own O_law_take hr (by decide) hg tk0 (da_cons (de_var 0 rfl (.inr (.inl rfl))) (da_cons (de_blt cr_len rfl B.z_len boot_len (da_cons (de_var 1 rfl (.inr (.inl rfl))) da_nil)) da_nil)))))) da_nil))))
theorem g_law_rests {f : Addr} {fd : FuncData} (F : Fun K "_law_rests" "_law_rests" s_law_rests f fd) (B : Fx mg)   : FG P wo K mg base 1 f fd ["one", "two"] (spF K mg 2 (arity 2 F_law_rests)) :=
  fg_def 2 3 F sc_law_rests fun cdv A out s H E hr hg => by
    have hu := huOf hr
    have nd := sc_law_rests.nd
    exact (dss_cons (ds_if (dt_w (dw_or (dt_cmp .eq hu (de_var 0 rfl (.inl rfl)) (de_str [])) (dw_or (dt_cmp .eq hu (de_var 1 rfl (.inl rfl)) (de_str [])) (dw_one_or (dt_cmp .ne hu (de_ix (de_var 0 rfl (.inl rfl)) de_int) (de_ix (de_var 1 rfl (.inl rfl)) de_int)))))) (dss_one (ds_ret (de_tup (da_cons (de_var 0 rfl (.inl rfl)) (da_cons (de_var 1 rfl (.inl rfl)) da_nil))))) dss_nil)
    (dss_cons (ds_set 2 nd rfl (.inl rfl) de_int)
    (dss_cons (ds_while fuel paOf (dt_w (dw_and (dt_cmp .lt hu (de_var 2 rfl (.inl rfl)) (de_blt (cr_minD rfl) rfl B.z_min boot_min (da_cons (de_blt cr_len rfl B.z_len boot_len (da_cons (de_var 0 rfl (.inl rfl)) da_nil)) (da_cons (de_blt cr_len rfl B.z_len boot_len (da_cons (de_var 1 rfl (.inl rfl)) da_nil)) da_nil)))) (dw_one_and (dt_cmp .eq hu (de_ix (de_var 0 rfl (.inl rfl)) (de_var 2 rfl (.inl rfl))) (de_ix (de_var 1 rfl (.inl rfl)) (de_var 2 rfl (.inl rfl))))))) (dss_one (ds_set 2 nd rfl (.inl rfl) (de_bin .add (de_var 2 rfl (.inl rfl)) de_int))))
    (dss_one (ds_ret (de_tup (da_cons (de_sli (de_var 0 rfl (.inl rfl)) (do_some (de_var 2 rfl (.inl rfl))) do_none) (da_cons (de_sli (de_var 1 rfl (.inl rfl)) (do_some (de_var 2 rfl (.inl rfl))) do_none) da_nil))))))))
theorem g_law_right {f : Addr} {fd : FuncData} (F : Fun K "_law_right" "_law_right" s_law_right f fd) (B : Fx mg) {f_law_take : Addr} {fd_law_take : FuncData} (O_law_take : Own P wo K mg base "_law_take" 1 fd_law_take f_law_take ["tray", "many"] 2 F_law_take) {f_law_letters : Addr} {fd_law_letters : FuncData} (O_law_letters : Own P wo K mg base "_law_letters" 2 fd_law_letters f_law_letters ["tray", "signs", "most"] 3 F_law_letters) {f_law_rests : Addr} {fd_law_rests : FuncData} (O_law_rests : Own P wo K mg base "_law_rests" 1 fd_law_rests f_law_rests ["one", "two"] 2 F_law_rests) {f_step : Addr} {fd_step : FuncData} (O_step : Own P wo K mg base "step" 3 fd_step f_step ["word", "other"] 2 F_step) (kb_step_other_word_0 : KB fd_step ["word", "other"] ["other", "word"] 0 [1, 0]) (kb_step_word_other_0 : KB fd_step ["word", "other"] ["word", "other"] 0 [0, 1]) : FG P wo K mg base 4 f fd ["tray"] (spF K mg 1 (arity 1 F_law_right)) :=
  fg_def 1 13 F sc_law_right fun cdv A out s H E hr hg => by
    have hu := huOf hr
    have nd := sc_law_right.nd
    exact (dss_cons (ds_asg (de_tup (da_cons (de_ix (de_lst false (da_cons (de_str [120]) (da_cons (de_str [97, 98]) (da_cons (de_str [97, 98, 99, 100, 101, 102, 103, 104, 105, 106, 107, 108, 109, 110, 111, 112, 113, 114, 115, 116, 117, 118, 119, 120, 121, 122]) da_nil)))) (de_own O_law_take hr (by decide) hg tkOf (da_cons (de_var 0 rfl (.inr (.inl rfl))) (da_cons de_int da_nil)))) (da_cons (de_ix (de_lst false (da_cons de_int (da_cons de_int (da_cons de_int da_nil)))) (de_own O_law_take hr (by decide) hg tkOf (da_cons (de_var 0 rfl (.inr (.inl rfl))) (da_cons de_int da_nil)))) da_nil))) (dg_tup rfl (dgs_cons (dg_name 1 nd rfl (.inr rfl)) (dgs_cons (dg_name 2 nd rfl (.inr rfl)) dgs_nil))))
    (dss_cons (ds_asg (de_comp false (own := [("turn", 12)]) rfl nd (di_rng1 B.z_range (da_cons de_int da_nil)) (blkOk_by rfl) (fun _ _ _ _ _ => (dg_name 12 nd rfl (.inl rfl))) (fun _ _ _ _ _ => dq_nil) (fun _ _ _ _ _ => (de_own O_law_letters hr (by decide) hg tk0 (da_cons (de_var 0 rfl (.inr (.inl rfl))) (da_cons (de_var 1 rfl (.inr (.inl rfl))) (da_cons (de_var 2 rfl (.inr (.inl rfl))) da_nil)))))) (dg_unl rfl (dgs_cons (dg_name 3 nd rfl (.inl rfl)) (dgs_cons (dg_name 4 nd rfl (.inl rfl)) (dgs_cons (dg_name 5 nd rfl (.inl rfl)) dgs_nil)))))
    (dss_cons (ds_set 6 nd rfl (.inl rfl) (de_ix (de_lst false (da_cons de_int (da_cons de_int (da_cons de_int (da_cons de_int da_nil))))) (de_own O_law_take hr (by decide) hg tkOf (da_cons (de_var 0 rfl (.inr (.inl rfl))) (da_cons de_int da_nil)))))
    (dss_cons (ds_set 7 nd rfl (.inl rfl) (de_lst false (da_cons (de_tup (da_cons (de_var 3 rfl (.inl rfl)) (da_cons (de_var 4 rfl (.inl rfl)) da_nil))) (da_cons (de_tup (da_cons (de_bin .add (de_bin .mul (de_var 3 rfl (.inl rfl)) (de_var 6 rfl (.inl rfl))) (de_var 4 rfl (.inl rfl))) (da_cons (de_bin .add (de_bin .mul (de_var 3 rfl (.inl rfl)) (de_var 6 rfl (.inl rfl))) (de_var 5 rfl (.inl rfl))) da_nil))) (da_cons (de_tup (da_cons (de_bin .add (de_var 4 rfl (.inl rfl)) (de_var 3 rfl (.inl rfl))) (da_cons (de_bin .add (de_var 5 rfl (.inl rfl)) (de_var 3 rfl (.inl rfl))) da_nil))) da_nil)))))
    (dss_cons (ds_set 7 nd rfl (.inl rfl) (de_bin .add (de_var 7 rfl (.inl rfl)) (de_lst false (da_cons (de_tup (da_cons (de_var 3 rfl (.inl rfl)) (da_cons (de_bin .add (de_var 3 rfl (.inl rfl)) (de_var 4 rfl (.inl rfl))) da_nil))) (da_cons (de_tup (da_cons (de_bin .mul (de_var 3 rfl (.inl rfl)) (de_var 6 rfl (.inl rfl))) (da_cons (de_bin .mul (de_var 3 rfl (.inl rfl)) (de_var 6 rfl (.inl rfl))) da_nil))) (da_cons (de_tup (da_cons (de_bin .add (de_var 3 rfl (.inl rfl)) (de_var 4 rfl (.inl rfl))) (da_cons (de_bin .add (de_var 4 rfl (.inl rfl)) (de_var 3 rfl (.inl rfl))) da_nil))) da_nil))))))
    (dss_cons (ds_for paOf rfl (di_any (de_var 7 rfl (.inl rfl))) (dg_tup rfl (dgs_cons (dg_name 8 nd rfl (.inl rfl)) (dgs_cons (dg_name 9 nd rfl (.inl rfl)) dgs_nil))) (dss_cons (ds_set 10 nd rfl (.inl rfl) (de_own O_law_rests hr (by decide) hg tkOf (da_cons (de_var 8 rfl (.inl rfl)) (da_cons (de_var 9 rfl (.inl rfl)) da_nil))))
    (dss_cons (ds_set 11 nd rfl (.inl rfl) (de_lst false (da_cons (de_own O_step hr (by decide) hg tkOf (da_cons (de_var 8 rfl (.inl rfl)) (da_cons (de_var 9 rfl (.inl rfl)) da_nil))) (da_cons (de_ownK0 2 [0, 1] O_step kb_step_word_other_0 hr (by decide) hg tkOf (dk_cons (de_var 8 rfl (.inl rfl)) (dk_cons (de_var 9 rfl (.inl rfl)) dk_nil))) (da_cons (de_ownK0 2 [1, 0] O_step kb_step_other_word_0 hr (by decide) hg tkOf (dk_cons (de_var 9 rfl (.inl rfl)) (dk_cons (de_var 8 rfl (.inl rfl)) dk_nil))) da_nil)))))
    (dss_cons (ds_if (dt_w (dw_or (dt_cmp .ne hu (de_blt (cr_reprD ⟨_, hr⟩ hg) rfl B.z_repr boot_repr (da_cons (de_var 11 rfl (.inl rfl)) da_nil)) (de_blt (cr_reprD ⟨_, hr⟩ hg) rfl B.z_repr boot_repr (da_cons (de_bin .mul (de_lst false (da_cons (de_var 10 rfl (.inl rfl)) da_nil)) de_int) da_nil))) (dw_one_or (dt_cmp .ne hu (de_blt (cr_reprD ⟨_, hr⟩ hg) rfl B.z_repr boot_repr (da_cons (de_own O_step hr (by decide) hg tkOf (da_cons (de_var 9 rfl (.inl rfl)) (da_cons (de_var 8 rfl (.inl rfl)) da_nil))) da_nil)) (de_blt (cr_reprD ⟨_, hr⟩ hg) rfl B.z_repr boot_repr (da_cons (de_tup (da_cons (de_ix (de_var 10 rfl (.inl rfl)) de_int) (da_cons (de_ix (de_var 10 rfl (.inl rfl)) de_int) da_nil))) da_nil)))))) (dss_one (ds_ret de_bl)) dss_nil)
    (dss_one (ds_if (dt_w (dw_or (dt_cmp .ne hu (de_own O_step hr (by decide) hg tkOf (da_cons (de_bin .add (de_var 5 rfl (.inl rfl)) (de_var 8 rfl (.inl rfl))) (da_cons (de_bin .add (de_var 5 rfl (.inl rfl)) (de_var 9 rfl (.inl rfl))) da_nil))) (de_var 10 rfl (.inl rfl))) (dw_one_or (dt_cmp .ne hu (de_own O_step hr (by decide) hg tkOf (da_cons (de_ix (de_var 10 rfl (.inl rfl)) de_int) (da_cons (de_ix (de_var 10 rfl (.inl rfl)) de_int) da_nil))) (de_var 10 rfl (.inl rfl)))))) (dss_one (ds_ret de_bl)) dss_nil))))))
    (dss_one (ds_ret (de_cmp .eq hu (de_own O_step hr (by decide) hg tkOf (da_cons (de_var 3 rfl (.inl rfl)) (da_cons (de_bin .add (de_var 3 rfl (.inl rfl)) (de_var 4 rfl (.inl rfl))) da_nil))) (de_tup (da_cons (de_str []) (da_cons (de_var 4 rfl (.inl rfl)) da_nil))))))))))))
theorem g_law {f : Addr} {fd : FuncData} (F : Fun K "law" "law" s_law f fd) (B : Fx mg) {f_law_tray : Addr} {fd_law_tray : FuncData} (O_law_tray : Own P wo K mg base "_law_tray" 1 fd_law_tray f_law_tray ["script", "at"] 2 F_law_tray) {f_law_right : Addr} {fd_law_right : FuncData} (O_law_right : Own P wo K mg base "_law_right" 4 fd_law_right f_law_right ["tray"] 1 F_law_right) {f_step : Addr} {fd_step : FuncData} (O_step : Own P wo K mg base "step" 3 fd_step f_step ["word", "other"] 2 F_step)  : FG P wo K mg base 5 f fd ["script"] (spF K mg 1 (arity 1 F_law)) :=
  fg_def 1 6 F sc_law fun cdv A out s H E hr hg => by
    have hu := huOf hr
    have nd := sc_law.nd
    exact (dss_cons (ds_for paOf rfl (di_rng1 B.z_range (da_cons (de_blt (cr_maxD rfl) rfl B.z_max boot_max (da_cons de_int (da_cons (de_blt (cr_minD rfl) rfl B.z_min boot_min (da_cons de_int (da_cons (de_blt cr_len rfl B.z_len boot_len (da_cons (de_var 0 rfl (.inl rfl)) da_nil)) da_nil))) da_nil))) da_nil)) (dg_name 1 nd rfl (.inl rfl)) (dss_cons (ds_set 2 nd rfl (.inl rfl) (de_own O_law_tray hr (by decide) hg tkOf (da_cons (de_var 0 rfl (.inl rfl)) (da_cons (de_var 1 rfl (.inl rfl)) da_nil))))
    (dss_one (ds_for paOf rfl (di_rng1 B.z_range (da_cons de_int da_nil)) (dg_name 3 nd rfl (.inl rfl)) (dss_one (ds_if (dt_not (dt_tru (de_own O_law_right hr (by decide) hg tkOf (da_cons (de_var 2 rfl (.inl rfl)) da_nil)))) (dss_one (ds_ret de_bl)) dss_nil))))))
    (dss_cons (ds_set 4 nd rfl (.inl rfl) (de_bin .mul (de_str [97, 98]) de_int))
    (dss_cons (ds_set 5 nd rfl (.inl rfl) (de_lst false (da_cons (de_own O_step hr (by decide) hg tkOf (da_cons (de_str [97, 99, 120]) (da_cons (de_str [97, 100]) da_nil))) (da_cons (de_own O_step hr (by decide) hg tkOf (da_cons (de_str []) (da_cons (de_str []) da_nil))) (da_cons (de_own O_step hr (by decide) hg tkOf (da_cons (de_var 4 rfl (.inl rfl)) (da_cons (de_bin .add (de_sli (de_var 4 rfl (.inl rfl)) do_none (do_some de_int)) (de_str [99])) da_nil))) (da_cons (de_own O_step hr (by decide) hg tkOf (da_cons (de_var 4 rfl (.inl rfl)) (da_cons (de_sli (de_var 4 rfl (.inl rfl)) do_none (do_some de_int)) da_nil))) da_nil))))))
    (dss_one (ds_ret (de_cmp .eq hu (de_var 5 rfl (.inl rfl)) (de_lst false (da_cons (de_tup (da_cons (de_str [99, 120]) (da_cons (de_str [100]) da_nil))) (da_cons (de_tup (da_cons (de_str []) (da_cons (de_str []) da_nil))) (da_cons (de_tup (da_cons (de_str [98]) (da_cons (de_str [99]) da_nil))) (da_cons (de_tup (da_cons (de_bin .mul (de_str [97, 98]) de_int) (da_cons (de_str []) da_nil))) da_nil)))))))))))
end
/-! what the top has written -/
set_option linter.unusedVariables false in
theorem all_mk {P : Program} {w : World} {K : PySem.W.Frag} {h : Heap} {mg : Str → Option Value} {fa : Addr} (X : K.In h) (G : h.Ns mainGlobals mg) (hfa : mg "law" = some (.ref fa))
    {f0 : Addr} {od0 an0 : Option Addr} {sl0 : Array (Option Value)} {oc0 kV0 dc0 pm0 cd0 ct0 : Value}
    (a0 : PySem.W.nsIn K mainGlobals "is_word" = some (some (.ref f0))) (l0 : K.lookup f0 = some ⟨oc0, od0, .func (PySem.W.fnOf "is_word" "is_word" (defArgs s_is_word) (defBody s_is_word) (defScope s_is_word) .none kV0 dc0 pm0 an0 cd0 ct0), sl0⟩) (c0 : PySem.W.codeIn K cd0 "is_word" = true) (k0 : PySem.W.keepIn K (.ref f0) = true)
    {f1 : Addr} {od1 an1 : Option Addr} {sl1 : Array (Option Value)} {oc1 kV1 dc1 pm1 cd1 ct1 : Value}
    (a1 : PySem.W.nsIn K mainGlobals "check_word" = some (some (.ref f1))) (l1 : K.lookup f1 = some ⟨oc1, od1, .func (PySem.W.fnOf "check_word" "check_word" (defArgs s_check_word) (defBody s_check_word) (defScope s_check_word) .none kV1 dc1 pm1 an1 cd1 ct1), sl1⟩) (c1 : PySem.W.codeIn K cd1 "check_word" = true) (k1 : PySem.W.keepIn K (.ref f1) = true)
    {f2 : Addr} {od2 an2 : Option Addr} {sl2 : Array (Option Value)} {oc2 kV2 dc2 pm2 cd2 ct2 : Value}
    (a2 : PySem.W.nsIn K mainGlobals "common_start" = some (some (.ref f2))) (l2 : K.lookup f2 = some ⟨oc2, od2, .func (PySem.W.fnOf "common_start" "common_start" (defArgs s_common_start) (defBody s_common_start) (defScope s_common_start) .none kV2 dc2 pm2 an2 cd2 ct2), sl2⟩) (c2 : PySem.W.codeIn K cd2 "common_start" = true) (k2 : PySem.W.keepIn K (.ref f2) = true)
    {f3 : Addr} {od3 an3 : Option Addr} {sl3 : Array (Option Value)} {oc3 kV3 dc3 pm3 cd3 ct3 : Value}
    (a3 : PySem.W.nsIn K mainGlobals "step_between" = some (some (.ref f3))) (l3 : K.lookup f3 = some ⟨oc3, od3, .func (PySem.W.fnOf "step_between" "step_between" (defArgs s_step_between) (defBody s_step_between) (defScope s_step_between) .none kV3 dc3 pm3 an3 cd3 ct3), sl3⟩) (c3 : PySem.W.codeIn K cd3 "step_between" = true) (k3 : PySem.W.keepIn K (.ref f3) = true)
    {f4 : Addr} {od4 an4 : Option Addr} {sl4 : Array (Option Value)} {oc4 kV4 dc4 pm4 cd4 ct4 : Value}
    (a4 : PySem.W.nsIn K mainGlobals "step" = some (some (.ref f4))) (l4 : K.lookup f4 = some ⟨oc4, od4, .func (PySem.W.fnOf "step" "step" (defArgs s_step) (defBody s_step) (defScope s_step) .none kV4 dc4 pm4 an4 cd4 ct4), sl4⟩) (c4 : PySem.W.codeIn K cd4 "step" = true) (k4 : PySem.W.keepIn K (.ref f4) = true)
    {f5 : Addr} {od5 an5 : Option Addr} {sl5 : Array (Option Value)} {oc5 kV5 dc5 pm5 cd5 ct5 : Value}
    (a5 : PySem.W.nsIn K mainGlobals "_law_tray" = some (some (.ref f5))) (l5 : K.lookup f5 = some ⟨oc5, od5, .func (PySem.W.fnOf "_law_tray" "_law_tray" (defArgs s_law_tray) (defBody s_law_tray) (defScope s_law_tray) .none kV5 dc5 pm5 an5 cd5 ct5), sl5⟩) (c5 : PySem.W.codeIn K cd5 "_law_tray" = true) (k5 : PySem.W.keepIn K (.ref f5) = true)
    {f6 : Addr} {od6 an6 : Option Addr} {sl6 : Array (Option Value)} {oc6 kV6 dc6 pm6 cd6 ct6 : Value}
    (a6 : PySem.W.nsIn K mainGlobals "_law_take" = some (some (.ref f6))) (l6 : K.lookup f6 = some ⟨oc6, od6, .func (PySem.W.fnOf "_law_take" "_law_take" (defArgs s_law_take) (defBody s_law_take) (defScope s_law_take) .none kV6 dc6 pm6 an6 cd6 ct6), sl6⟩) (c6 : PySem.W.codeIn K cd6 "_law_take" = true) (k6 : PySem.W.keepIn K (.ref f6) = true)
    {f7 : Addr} {od7 an7 : Option Addr} {sl7 : Array (Option Value)} {oc7 kV7 dc7 pm7 cd7 ct7 : Value}
    (a7 : PySem.W.nsIn K mainGlobals "_law_letters" = some (some (.ref f7))) (l7 : K.lookup f7 = some ⟨oc7, od7, .func (PySem.W.fnOf "_law_letters" "_law_letters" (defArgs s_law_letters) (defBody s_law_letters) (defScope s_law_letters) .none kV7 dc7 pm7 an7 cd7 ct7), sl7⟩) (c7 : PySem.W.codeIn K cd7 "_law_letters" = true) (k7 : PySem.W.keepIn K (.ref f7) = true)
    {f8 : Addr} {od8 an8 : Option Addr} {sl8 : Array (Option Value)} {oc8 kV8 dc8 pm8 cd8 ct8 : Value}
    (a8 : PySem.W.nsIn K mainGlobals "_law_rests" = some (some (.ref f8))) (l8 : K.lookup f8 = some ⟨oc8, od8, .func (PySem.W.fnOf "_law_rests" "_law_rests" (defArgs s_law_rests) (defBody s_law_rests) (defScope s_law_rests) .none kV8 dc8 pm8 an8 cd8 ct8), sl8⟩) (c8 : PySem.W.codeIn K cd8 "_law_rests" = true) (k8 : PySem.W.keepIn K (.ref f8) = true)
    {f9 : Addr} {od9 an9 : Option Addr} {sl9 : Array (Option Value)} {oc9 kV9 dc9 pm9 cd9 ct9 : Value}
    (a9 : PySem.W.nsIn K mainGlobals "_law_right" = some (some (.ref f9))) (l9 : K.lookup f9 = some ⟨oc9, od9, .func (PySem.W.fnOf "_law_right" "_law_right" (defArgs s_law_right) (defBody s_law_right) (defScope s_law_right) .none kV9 dc9 pm9 an9 cd9 ct9), sl9⟩) (c9 : PySem.W.codeIn K cd9 "_law_right" = true) (k9 : PySem.W.keepIn K (.ref f9) = true)
    {f10 : Addr} {od10 an10 : Option Addr} {sl10 : Array (Option Value)} {oc10 kV10 dc10 pm10 cd10 ct10 : Value}
    (a10 : PySem.W.nsIn K mainGlobals "law" = some (some (.ref f10))) (l10 : K.lookup f10 = some ⟨oc10, od10, .func (PySem.W.fnOf "law" "law" (defArgs s_law) (defBody s_law) (defScope s_law) .none kV10 dc10 pm10 an10 cd10 ct10), sl10⟩) (c10 : PySem.W.codeIn K cd10 "law" = true) (k10 : PySem.W.keepIn K (.ref f10) = true)
    (z_abs : PySem.W.nsIn K mainGlobals "abs" = some none)
    (z_all : PySem.W.nsIn K mainGlobals "all" = some none)
    (z_isinstance : PySem.W.nsIn K mainGlobals "isinstance" = some none)
    (z_len : PySem.W.nsIn K mainGlobals "len" = some none)
    (z_max : PySem.W.nsIn K mainGlobals "max" = some none)
    (z_min : PySem.W.nsIn K mainGlobals "min" = some none)
    (z_range : PySem.W.nsIn K mainGlobals "range" = some none)
    (z_repr : PySem.W.nsIn K mainGlobals "repr" = some none)
    (z_str : PySem.W.nsIn K mainGlobals "str" = some none)
    {t_LETTERS : Tok} (v_LETTERS : PySem.W.nsIn K mainGlobals "LETTERS" = some (some (.str "abcdefghijklmnopqrstuvwxyz" t_LETTERS)))
    : ∃ fd : FuncData, (∀ (s : Shared) (v : Value), BindsTo s fd ⟨[v], []⟩ [("script", v)]) ∧ ∀ base : Heap, K.In base → base.Ns mainGlobals mg → FG P w K mg base 5 fa fd ["script"] (spF K mg 1 (arity 1 F_law)) := by
  have e := hfa.symm.trans (PySem.W.mg_of X G a10)
  cases e
  have B : Fx mg := ⟨PySem.W.mg_none_of X G z_abs, PySem.W.mg_none_of X G z_all, PySem.W.mg_none_of X G z_isinstance, PySem.W.mg_none_of X G z_len, PySem.W.mg_none_of X G z_max, PySem.W.mg_none_of X G z_min, PySem.W.mg_none_of X G z_range, PySem.W.mg_none_of X G z_repr, PySem.W.mg_none_of X G z_str, ⟨_, (PySem.W.mg_of X G v_LETTERS).trans (by first | rfl | (refine congrArg some (congrArg (fun z => Value.str z _) ?_); decide +kernel))⟩⟩
  have R0 := fun_mk (st := s_is_word) l0 c0 k0
  have R1 := fun_mk (st := s_check_word) l1 c1 k1
  have R2 := fun_mk (st := s_common_start) l2 c2 k2
  have R3 := fun_mk (st := s_step_between) l3 c3 k3
  have R4 := fun_mk (st := s_step) l4 c4 k4
  have R5 := fun_mk (st := s_law_tray) l5 c5 k5
  have R6 := fun_mk (st := s_law_take) l6 c6 k6
  have R7 := fun_mk (st := s_law_letters) l7 c7 k7
  have R8 := fun_mk (st := s_law_rests) l8 c8 k8
  have R9 := fun_mk (st := s_law_right) l9 c9 k9
  have R10 := fun_mk (st := s_law) l10 c10 k10
  have kb_step_other_word_0 : KB (PySem.W.fnOf "step" "step" (defArgs s_step) (defBody s_step) (defScope s_step) .none kV4 dc4 pm4 an4 cd4 ct4) ["word", "other"] ["other", "word"] 0 [1, 0] := fun _ us ws h1 h2 => match us, ws, h1, h2 with | [], [_, _], _, _ => .of_eq rfl
  have kb_step_word_other_0 : KB (PySem.W.fnOf "step" "step" (defArgs s_step) (defBody s_step) (defScope s_step) .none kV4 dc4 pm4 an4 cd4 ct4) ["word", "other"] ["word", "other"] 0 [0, 1] := fun _ us ws h1 h2 => match us, ws, h1, h2 with | [], [_, _], _, _ => .of_eq rfl
  refine ⟨PySem.W.fnOf "law" "law" (defArgs s_law) (defBody s_law) (defScope s_law) .none kV10 dc10 pm10 an10 cd10 ct10, fun s v => .of_eq rfl, fun base _ _ => ?_⟩
  have O_is_word : Own P w K mg base "is_word" 1 _ _ ["value"] 1 F_is_word := ⟨PySem.W.mg_of X G a0, k0, g_is_word R0 B  , R0.binds (ps := ["value"]) fun _ _ _ _ _ _ us hl => match us, hl with | [_], _ => rfl⟩
  have O_check_word : Own P w K mg base "check_word" 2 _ _ ["word"] 1 F_check_word := ⟨PySem.W.mg_of X G a1, k1, g_check_word R1 B O_is_word , R1.binds (ps := ["word"]) fun _ _ _ _ _ _ us hl => match us, hl with | [_], _ => rfl⟩
  have O_common_start : Own P w K mg base "common_start" 1 _ _ ["word", "other"] 2 F_common_start := ⟨PySem.W.mg_of X G a2, k2, g_common_start R2 B  , R2.binds (ps := ["word", "other"]) fun _ _ _ _ _ _ us hl => match us, hl with | [_, _], _ => rfl⟩
  have O_step_between : Own P w K mg base "step_between" 2 _ _ ["word", "other"] 2 F_step_between := ⟨PySem.W.mg_of X G a3, k3, g_step_between R3 B O_common_start , R3.binds (ps := ["word", "other"]) fun _ _ _ _ _ _ us hl => match us, hl with | [_, _], _ => rfl⟩
  have O_step : Own P w K mg base "step" 3 _ _ ["word", "other"] 2 F_step := ⟨PySem.W.mg_of X G a4, k4, g_step R4 B O_check_word O_step_between , R4.binds (ps := ["word", "other"]) fun _ _ _ _ _ _ us hl => match us, hl with | [_, _], _ => rfl⟩
  have O_law_tray : Own P w K mg base "_law_tray" 1 _ _ ["script", "at"] 2 F_law_tray := ⟨PySem.W.mg_of X G a5, k5, g_law_tray R5 B  , R5.binds (ps := ["script", "at"]) fun _ _ _ _ _ _ us hl => match us, hl with | [_, _], _ => rfl⟩
  have O_law_take : Own P w K mg base "_law_take" 1 _ _ ["tray", "many"] 2 F_law_take := ⟨PySem.W.mg_of X G a6, k6, g_law_take R6 B  , R6.binds (ps := ["tray", "many"]) fun _ _ _ _ _ _ us hl => match us, hl with | [_, _], _ => rfl⟩
  have O_law_letters : Own P w K mg base "_law_letters" 2 _ _ ["tray", "signs", "most"] 3 F_law_letters := ⟨PySem.W.mg_of X G a7, k7, g_law_letters R7 B O_law_take , R7.binds (ps := ["tray", "signs", "most"]) fun _ _ _ _ _ _ us hl => match us, hl with | [_, _, _], _ => rfl⟩
  have O_law_rests : Own P w K mg base "_law_rests" 1 _ _ ["one", "two"] 2 F_law_rests := ⟨PySem.W.mg_of X G a8, k8, g_law_rests R8 B  , R8.binds (ps := ["one", "two"]) fun _ _ _ _ _ _ us hl => match us, hl with | [_, _], _ => rfl⟩
  have O_law_right : Own P w K mg base "_law_right" 4 _ _ ["tray"] 1 F_law_right := ⟨PySem.W.mg_of X G a9, k9, g_law_right R9 B O_law_take O_law_letters O_law_rests O_step kb_step_other_word_0 kb_step_word_other_0, R9.binds (ps := ["tray"]) fun _ _ _ _ _ _ us hl => match us, hl with | [_], _ => rfl⟩
  exact g_law R10 B O_law_tray O_law_right O_step 
end LK07
namespace LK07
open PySem PySem.Spec PyProof.Rows L2 PL
variable {X : Exc → Store → Prop}
theorem take_spec {n c : Nat} {m : Int} {st : Store} (h : Tr n c st) (hc : c < 1000000) (hm : 0 < m) (hm2 : m < 2 ^ 64) : wp (F_law_take [.ref n, .int m] st) X fun d st' => (∃ r, d = .int r ∧ 0 ≤ r ∧ r < m) ∧ Tr n (c + 1) st' := by
  obtain ⟨a, b, k, e, ha, hb, hb2, hk, hk2⟩ := h
  have hlog := log_lt hm hm2
  have s0 : ∀ v, setD (.ref n) (.int 0) v st = some (st.set n (some (.lst [v, .int b, .int k]))) := fun v => setD_at (j := 0) e rfl
  have s2 : ∀ v, setD (.ref n) (.int 2) v st = some (st.set n (some (.lst [.int a, .int b, v]))) := fun v => setD_at (j := 2) e rfl
  unfold F_law_take
  rw [wp_run]
  simp [b_law_take, ix_ref e, at0, at1, at2, s0, s2, ix_ref (set_lst e), hm, hlog]
  split
  · refine ⟨⟨Int.emod_nonneg _ (by omega), Int.emod_lt_of_pos _ hm⟩, ?_⟩
    exact ⟨_, _, _, set_lst e, Int.ediv_nonneg ha (by omega), hb, hb2, hk, by omega⟩
  · refine ⟨bits_le (by omega) (by omega), by decide, ?_⟩
    have y0 : 0 ≤ (b + 715827883 * (k + 1)) ^ 3 % 1000000000000000000000000000000000000003 := Int.emod_nonneg _ (by decide)
    have y1 : (b + 715827883 * (k + 1)) ^ 3 % 1000000000000000000000000000000000000003 < 1000000000000000000000000000000000000003 := Int.emod_lt_of_pos _ (by decide)
    generalize (b + 715827883 * (k + 1)) ^ 3 % 1000000000000000000000000000000000000003 = y at y0 y1 ⊢
    refine ⟨bits_le (by omega) (by omega), by decide, by decide, ⟨Int.emod_nonneg _ (by omega), Int.emod_lt_of_pos _ hm⟩, ?_⟩
    exact ⟨_, _, _, set_lst e, ha, hb, hb2, by omega, by omega⟩
theorem tray_spec {ns : List Int} {i : Nat} {st : Store} (hi : i < 64) : wp (F_law_tray [.scr ns, .int i] st) X fun d st' => ∃ n, d = .ref n ∧ Tr n 0 st' := by
  unfold F_law_tray
  rw [wp_run]
  have key : ∀ a c : Int, 0 ≤ a → Tr st.length 0 (st ++ [some (.lst [.int a, .int (c % 100000000000000000000000000000000000133 * 89 + 59 * i + 23), .int 0])]) := fun a c ha => by
    refine ⟨_, _, _, List.getElem?_concat_length, ha, ?_, ?_, by omega, by omega⟩
    · omega
    · omega
  simp [b_law_tray, sizeLine]
  have b1 : (bitsOf 10 : Int) * 18 ≤ 134217728 := by decide
  have b2 : (bitsOf 10 : Int) * 38 ≤ 134217728 := by decide
  by_cases h : i < ns.length
  · rw [if_pos h]
    simp [atI_nat (List.getElem?_eq_getElem h), b1, b2]
    refine key _ _ ?_
    split <;> omega
  · rw [if_neg h]
    exact ⟨b1, b2, by simpa using key (max 0 (-1000000000000000000)) 0 (by omega)⟩
/-! ### words -/
theorem atI_c {s : List Nat} {i : Nat} {c : Nat} (h : s[i]? = some c) : atI s (i : Int) = some c := atI_nat h
theorem is_word_eq {s : List Nat} (h : Low s) (hl : s.length ≤ 1000000) (st : Store) : F_is_word [.str s] st = .ok (.bl true) st := by
  have low : ∀ c, 97 ≤ c ∧ c ≤ 122 → c ∈ [97, 98, 99, 100, 101, 102, 103, 104, 105, 106, 107, 108, 109, 110, 111, 112, 113, 114, 115, 116, 117, 118, 119, 120, 121, 122] := fun c hc => by
    simp; omega
  have hc := comp_map (st := st) (gNm 1) (sOfB (tCmpS .isin (sVar 1) (sCon (.str [97, 98, 99, 100, 101, 102, 103, 104, 105, 106, 107, 108, 109, 110, 111, 112, 113, 114, 115, 116, 117, 118, 119, 120, 121, 122])))) [some (.str s), none] (fun _ => .bl true) (chars s) [] (by
    intro d hd
    obtain ⟨c, hc, rfl⟩ := List.mem_map.1 hd
    refine ⟨[some (.str s), some (.str [c])], rfl, ?_⟩
    show Res.ok (D.bl (decide (c ∈ _))) st = _
    rw [decide_eq_true (low c (h c hc))]) (by unfold chars; simp [sizeLine]; omega)
  obtain ⟨d, st', e, q⟩ := ok_of_wp (r := F_is_word [.str s] st) (Q := fun d st' => d = .bl true ∧ st' = st) (by
    unfold F_is_word
    rw [wp_run]
    simp [b_is_word, isiD, tyD, isTy]
    show wp (compGo _ _ _ [some (.str s), none] _ _ _) _ _
    rw [hc]
    simp only [wp_ok_, List.nil_append]
    rw [show allD [D.lst ((chars s).map fun _ => D.bl true)] st = some (.bl (((chars s).map (fun _ => true)).all id)) by
      show (Option.some _).bind _ = _
      have := asBls_m (chars s) (fun _ => true)
      simp only [viewL, Option.bind, this, Option.map]]
    simp)
  obtain ⟨rfl, rfl⟩ := q
  exact e
theorem check_word_eq {s : List Nat} (h : Low s) (hl : s.length ≤ 1000000) (st : Store) : F_check_word [.str s] st = .ok .non st := by
  obtain ⟨d, st', e, q⟩ := ok_of_wp (r := F_check_word [.str s] st) (Q := fun d st' => d = .non ∧ st' = st) (by
    unfold F_check_word
    rw [wp_run]
    simp [b_check_word, is_word_eq h hl])
  obtain ⟨rfl, rfl⟩ := q
  exact e
theorem common_start_eq {a b : List Nat} (ha : a.length ≤ 1000000) (hb : b.length ≤ 1000000) (st : Store) : F_common_start [.str a, .str b] st = .ok (.int (cp a b)) st := by
  obtain ⟨hca, hcb⟩ := cp_le a b
  obtain ⟨m, hm⟩ : ∃ m : Nat, min a.length b.length = m ∧ m ≤ a.length ∧ m ≤ b.length ∧ (m = a.length ∨ m = b.length) := ⟨_, rfl, by omega, by omega, by omega⟩
  obtain ⟨d, st', e, q⟩ := ok_of_wp (r := F_common_start [.str a, .str b] st) (Q := fun d st' => d = .int (cp a b) ∧ st' = st) (by
    unfold F_common_start
    rw [wp_run]
    have za : a.length ≤ 16777216 := by omega
    have zb : b.length ≤ 16777216 := by omega
    simp [b_common_start, za, zb, hm.1, cut_to]
    by_cases e : a.take m = b.take m
    · rw [if_pos e]
      have := (cp_take a b m hm.2.1 hm.2.2.1).1 e
      omega
    · rw [if_neg e]
      have h2 : cp a b < m := by
        rcases Nat.lt_or_ge (cp a b) m with q | q
        · exact q
        · exact absurd ((cp_take a b m hm.2.1 hm.2.2.1).2 q) e
      rw [ws_while]
      refine ws_whileGo _ _ (fun l ρ st1 => st1 = st ∧ ∃ j : Nat, j + l = cp a b ∧ ρ = [some (.str a), some (.str b), some (.int m), some (.int j)]) ?_ fuel (cp a b) _ _ (by unfold fuel; omega) ⟨rfl, 0, by omega, rfl⟩
      rintro l ρ st1 ⟨rfl, j, hj, rfl⟩
      by_cases hl : l = 0
      · subst hl
        obtain ⟨c, d, q1, q2, q3⟩ := cp_at a b (by omega) (by omega)
        rw [show cp a b = j by omega] at q1 q2
        simp [za, zb, atI_c q1, atI_c q2, q3]
        omega
      · obtain ⟨c, q1, q2⟩ := cp_get a b j (by omega)
        simp [za, zb, atI_c q1, atI_c q2]
        exact ⟨l - 1, by omega, j + 1, by omega, by simp⟩)
  obtain ⟨rfl, rfl⟩ := q
  exact e
theorem step_between_eq {a b : List Nat} (ha : a.length ≤ 1000000) (hb : b.length ≤ 1000000) (st : Store) : F_step_between [.str a, .str b] st = .ok (stp a b) st := by
  obtain ⟨d, st', e, q⟩ := ok_of_wp (r := F_step_between [.str a, .str b] st) (Q := fun d st' => d = stp a b ∧ st' = st) (by
    unfold F_step_between
    rw [wp_run]
    have za : a.length ≤ 16777216 := by omega
    have zb : b.length ≤ 16777216 := by omega
    simp [b_step_between, common_start_eq ha hb, za, zb, cut_from, stp])
  obtain ⟨rfl, rfl⟩ := q
  exact e
theorem step_eq {a b : List Nat} (h1 : Low a) (h2 : Low b) (ha : a.length ≤ 1000000) (hb : b.length ≤ 1000000) (st : Store) : F_step [.str a, .str b] st = .ok (stp a b) st := by
  obtain ⟨d, st', e, q⟩ := ok_of_wp (r := F_step [.str a, .str b] st) (Q := fun d st' => d = stp a b ∧ st' = st) (by
    unfold F_step
    rw [wp_run]
    simp [b_step, step_between_eq ha hb, check_word_eq h1 ha, check_word_eq h2 hb])
  obtain ⟨rfl, rfl⟩ := q
  exact e
theorem rests_eq {a b : List Nat} (ha : a.length ≤ 1000000) (hb : b.length ≤ 1000000) (st : Store) : F_law_rests [.str a, .str b] st = .ok (stp a b) st := by
  obtain ⟨hca, hcb⟩ := cp_le a b
  obtain ⟨d, st', e, q⟩ := ok_of_wp (r := F_law_rests [.str a, .str b] st) (Q := fun d st' => d = stp a b ∧ st' = st) (by
    unfold F_law_rests
    rw [wp_run]
    have za : a.length ≤ 16777216 := by omega
    have zb : b.length ≤ 16777216 := by omega
    cases a with
    | nil => simp [b_law_rests, stp, cp]
    | cons x a =>
      cases b with
      | nil => simp [b_law_rests, stp, cp]
      | cons y b =>
        have z2 : a.length + 1 ≤ 16777216 := za
        have z3 : b.length + 1 ≤ 16777216 := zb
        simp [b_law_rests, za, zb, z2, z3, at0]
        by_cases hxy : x = y
        · rw [if_pos hxy, ws_while]
          refine ws_whileGo _ _ (fun l ρ st1 => st1 = st ∧ ∃ j : Nat, j + l = cp (x :: a) (y :: b) ∧ ρ = [some (.str (x :: a)), some (.str (y :: b)), some (.int j)]) ?_ fuel (cp (x :: a) (y :: b)) _ _ (by unfold fuel; omega) ⟨rfl, 0, by omega, rfl⟩
          generalize x :: a = a at *
          generalize y :: b = b at *
          rintro l ρ st1 ⟨rfl, j, hj, rfl⟩
          by_cases hl : l = 0
          · subst hl
            have ej : cp a b = j := by omega
            by_cases h3 : j < min a.length b.length
            · obtain ⟨c, d, q1, q2, q3⟩ := cp_at a b (by omega) (by omega)
              rw [ej] at q1 q2
              simp [za, zb, h3, atI_c q1, atI_c q2, q3, cut_from, stp, ej]
            · simp [za, zb, h3, cut_from, stp, ej]
          · obtain ⟨c, q1, q2⟩ := cp_get a b j (by omega)
            have h3 : j < min a.length b.length := by omega
            simp [za, zb, h3, atI_c q1, atI_c q2]
            exact ⟨l - 1, by omega, j + 1, by omega, by simp⟩
        · rw [if_neg hxy]
          simp [stp, cp, hxy])
  obtain ⟨rfl, rfl⟩ := q
  exact e
theorem letters_spec {n c : Nat} {s : List Nat} {m : Int} {st : Store} (h : Tr n c st) (hc : c < 900000) (hs : Low s) (h0 : s ≠ []) (hl : s.length ≤ 26) (hm : 0 ≤ m) (hm2 : m ≤ 20) :
    wp (F_law_letters [.ref n, .str s, .int m] st) X fun d st' => (∃ t, d = .str t ∧ Low t ∧ t.length ≤ 20) ∧ Tr n (c + 22) st' := by
  unfold F_law_letters
  rw [wp_run]
  simp [b_law_letters]
  refine wp_imp (take_spec h (by omega) (by omega) (by omega)) ?_
  rintro _ st1 ⟨⟨r, rfl, hr, hr2⟩, h1⟩
  rw [rng1_nat hr (by omega), wo_some_]
  refine wp_compGo _ _ _ (fun i st => Tr n (c + 1 + i) st) (fun _ x => ∃ ch, x = .str [ch] ∧ (97 ≤ ch ∧ ch ≤ 122)) _ _ _ _ h1 (by simp [rng_ln]; omega) ?_ ?_
  · intro i d st hd hi
    have hi2 := (rng_gt hd).2
    have hp : 0 < s.length := List.length_pos_iff.2 h0
    have hz : s.length ≤ 16777216 := by omega
    simp [wipeE, hz]
    refine wp_imp (take_spec hi (by omega) (by omega) (by omega)) ?_
    rintro _ st2 ⟨⟨q, rfl, hq, hq2⟩, h2⟩
    simp [hz]
    refine at_any hq hq2 fun x hx => ?_
    exact ⟨hs x hx, by simpa [Nat.add_assoc] using h2⟩
  · intro xs st2 hx hR hI
    obtain ⟨t, rfl, ht, htl⟩ := chars_of xs hR
    rw [rng_ln] at hx hI
    simp [join_chars (t := t) (by omega)]
    exact ⟨⟨ht, by omega⟩, hI.mono (by omega)⟩
/-- a pair of words -/
def Two (d : D) : Prop := ∃ a b, d = .tup [.str a, .str b] ∧ Low a ∧ Low b ∧ a.length ≤ 1000 ∧ b.length ≤ 1000
theorem stp_plain {a b : List Nat} (h1 : Low a) (h2 : Low b) (ha : a.length ≤ 100000) (hb : b.length ≤ 100000) : Plain (stp a b) := by
  refine ⟨?_, rfl, ?_⟩
  · simp [stp, flat, flats]
    exact ⟨fun x hx => by have := h1 x (List.mem_of_mem_drop hx); omega, fun x hx => by have := h2 x (List.mem_of_mem_drop hx); omega⟩
  · simp [stp, rsz, rszs]; omega
theorem right_spec {n c : Nat} {st : Store} (h : Tr n c st) (hc : c < 800000) : wp (F_law_right [.ref n] st) X fun d st' => d = .bl true ∧ Tr n (c + 70) st' := by
  unfold F_law_right
  rw [wp_run]
  unfold b_law_right
  refine ws_seq_of (fun ρ st => ∃ s m, ρ = [some (.ref n), some (.str s), some (.int m), none, none, none, none, none, none, none, none, none, none] ∧ (Low s ∧ s ≠ [] ∧ s.length ≤ 26) ∧ (0 ≤ m ∧ m ≤ 20) ∧ Tr n (c + 2) st) ?_ ?_
  · simp [List.replicate]
    refine wp_imp (take_spec h (by omega) (by omega) (by omega)) ?_
    rintro _ st1 ⟨⟨q, rfl, hq, hq2⟩, h1⟩
    simp
    refine at_any hq hq2 fun x hx => ?_
    have hw : ∃ s, x = .str s ∧ Low s ∧ s ≠ [] ∧ s.length ≤ 26 := by
      simp at hx
      rcases hx with rfl | rfl | rfl
      · exact ⟨_, rfl, by unfold Low; decide, by simp, by simp⟩
      · exact ⟨_, rfl, by unfold Low; decide, by simp, by simp⟩
      · exact ⟨_, rfl, by unfold Low; decide, by simp, by simp⟩
    obtain ⟨s, rfl, hs⟩ := hw
    refine wp_imp (take_spec h1 (by omega) (by omega) (by omega)) ?_
    rintro _ st2 ⟨⟨q2, rfl, hp, hp2⟩, h2⟩
    simp
    refine at_any hp hp2 fun y hy => ?_
    have hw : ∃ m, y = .int m ∧ 0 ≤ m ∧ m ≤ 20 := by
      simp at hy
      rcases hy with rfl | rfl | rfl <;> exact ⟨_, rfl, by omega, by omega⟩
    obtain ⟨m, rfl, hm⟩ := hw
    simp
    exact ⟨s, m, ⟨rfl, rfl⟩, hs, hm, h2⟩
  rintro _ st1 ⟨s, m, rfl, ⟨hs, hs0, hsl⟩, ⟨hm, hm2⟩, h1⟩
  refine ws_seq_of (fun ρ st => ∃ f d b, ρ = [some (.ref n), some (.str s), some (.int m), some (.str f), some (.str d), some (.str b), none, none, none, none, none, none, none] ∧ (Low f ∧ f.length ≤ 20) ∧ (Low d ∧ d.length ≤ 20) ∧ (Low b ∧ b.length ≤ 20) ∧ Tr n (c + 68) st) ?_ ?_
  · simp [wipeE, rng1_nat]
    refine wp_compGo _ _ _ (fun i st => Tr n (c + 2 + 22 * i) st) (fun _ x => ∃ t, x = .str t ∧ Low t ∧ t.length ≤ 20) _ _ _ _ h1 (by simp [rng_ln]) ?_ ?_
    · intro i d st hd hi
      have hi2 := (rng_gt hd).2
      simp
      refine wp_imp (letters_spec hi (by omega) hs hs0 hsl hm hm2) ?_
      rintro _ st2 ⟨⟨t, rfl, ht⟩, h2⟩
      exact ⟨⟨t, rfl, ht⟩, by simpa [Nat.mul_add, Nat.add_assoc] using h2⟩
    · intro xs st2 hx hR hI
      rw [rng_ln] at hx hI
      match xs, hx with
      | [x, y, z], _ =>
        obtain ⟨t1, rfl, g1⟩ := hR 0 _ rfl
        obtain ⟨t2, rfl, g2⟩ := hR 1 _ rfl
        obtain ⟨t3, rfl, g3⟩ := hR 2 _ rfl
        simp
        exact ⟨t1, t2, t3, ⟨rfl, rfl, rfl⟩, g1, g2, g3, hI⟩
  rintro _ st2 ⟨f, d, b, rfl, ⟨hf, hfl⟩, ⟨hd, hdl⟩, ⟨hb, hbl⟩, h2⟩
  refine ws_seq_of (fun ρ st => ∃ k : Int, ρ = [some (.ref n), some (.str s), some (.int m), some (.str f), some (.str d), some (.str b), some (.int k), none, none, none, none, none, none] ∧ (1 ≤ k ∧ k ≤ 20) ∧ Tr n (c + 69) st) ?_ ?_
  · simp
    refine wp_imp (take_spec h2 (by omega) (by omega) (by omega)) ?_
    rintro _ st3 ⟨⟨q, rfl, hq, hq2⟩, h3⟩
    simp
    refine at_any hq hq2 fun x hx => ?_
    have hw : ∃ k, x = .int k ∧ 1 ≤ k ∧ k ≤ 20 := by
      simp at hx
      rcases hx with rfl | rfl <;> exact ⟨_, rfl, by omega, by omega⟩
    obtain ⟨k, rfl, hk⟩ := hw
    simp
    exact ⟨hk, h3⟩
  rintro _ st3 ⟨k, rfl, ⟨hk, hk2⟩, h3⟩
  have hr : (repN f k).length ≤ 400 := by
    rw [repN_len]
    have : k.toNat ≤ 20 := by omega
    exact Nat.mul_le_mul this hfl
  have hfk : f.length * k.toNat ≤ 16777216 := by
    have : k.toNat ≤ 20 := by omega
    have := Nat.mul_le_mul hfl this
    omega
  refine ws_seq_of (fun ρ st => ∃ ps, ρ = [some (.ref n), some (.str s), some (.int m), some (.str f), some (.str d), some (.str b), some (.int k), some (.lst ps), none, none, none, none, none] ∧ ((∀ x ∈ ps, Two x) ∧ ps.length = 3) ∧ Tr n (c + 69) st) ?_ ?_
  · have k1 : -1000000 < k := by omega
    have k2 : k < 1000000000 := by omega
    have z1 : (repN f k).length + d.length ≤ 16777216 := by omega
    have z2 : (repN f k).length + b.length ≤ 16777216 := by omega
    have z3 : d.length + f.length ≤ 16777216 := by omega
    have z4 : b.length + f.length ≤ 16777216 := by omega
    simp [k1, k2, hfk, z1, z2, z3, z4]
    refine ⟨⟨⟨_, _, rfl, hf, hd, by omega, by omega⟩, ⟨_, _, rfl, (hf.rep k).app hd, (hf.rep k).app hb, by simp; omega, by simp; omega⟩, ⟨_, _, rfl, hd.app hf, hb.app hf, by simp; omega, by simp; omega⟩⟩, h3⟩
  rintro _ st4 ⟨ps, rfl, ⟨hps, hpl⟩, h4⟩
  refine ws_seq_of (fun ρ st => ∃ ps, ρ = [some (.ref n), some (.str s), some (.int m), some (.str f), some (.str d), some (.str b), some (.int k), some (.lst ps), none, none, none, none, none] ∧ ((∀ x ∈ ps, Two x) ∧ ps.length = 6) ∧ Tr n (c + 69) st) ?_ ?_
  · have k1 : -1000000 < k := by omega
    have k2 : k < 1000000000 := by omega
    have z3 : d.length + f.length ≤ 16777216 := by omega
    have z4 : f.length + d.length ≤ 16777216 := by omega
    have z5 : ps.length + 3 ≤ 16777216 := by omega
    simp [k1, k2, hfk, z3, z4, z5, hpl]
    refine ⟨fun x hx => ?_, h4⟩
    rcases hx with hx | rfl | rfl | rfl
    · exact hps x hx
    · exact ⟨_, _, rfl, hf, hf.app hd, by omega, by simp; omega⟩
    · exact ⟨_, _, rfl, hf.rep k, hf.rep k, by omega, by omega⟩
    · exact ⟨_, _, rfl, hf.app hd, hd.app hf, by simp; omega, by simp; omega⟩
  rintro _ st5 ⟨qs, rfl, ⟨hqs, hql⟩, h5⟩
  refine ws_seq_of (fun ρ st => (∃ x8 x9 x10 x11, ρ = [some (.ref n), some (.str s), some (.int m), some (.str f), some (.str d), some (.str b), some (.int k), some (.lst qs), x8, x9, x10, x11, none]) ∧ Tr n (c + 69) st) ?_ ?_
  · rw [ws_for, wp_walkA]
    simp only [wp_var]
    refine ws_forGo _ _ (fun _ ρ st => (∃ x8 x9 x10 x11, ρ = [some (.ref n), some (.str s), some (.int m), some (.str f), some (.str d), some (.str b), some (.int k), some (.lst qs), x8, x9, x10, x11, none]) ∧ Tr n (c + 69) st) _ _ _ ⟨⟨_, _, _, _, rfl⟩, h5⟩ ?_ (fun _ _ h => h)
    rintro i x ρ st6 hx ⟨⟨x8, x9, x10, x11, rfl⟩, h6⟩
    obtain ⟨o, t, rfl, ho, ht, hol, htl⟩ := hqs x (List.mem_of_getElem? hx)
    have e1 := fun st => rests_eq (a := o) (b := t) (by omega) (by omega) st
    have e2 := fun st => step_eq (a := o) (b := t) ho ht (by omega) (by omega) st
    have e3 := fun st => step_eq (a := t) (b := o) ht ho (by omega) (by omega) st
    have e4 := fun st => step_eq (a := b ++ o) (b := b ++ t) (hb.app ho) (hb.app ht) (by simp; omega) (by simp; omega) st
    have e5 := fun st => step_eq (a := o.drop (cp o t)) (b := t.drop (cp o t)) (ho.drop _) (ht.drop _) (by simp; omega) (by simp; omega) st
    have z1 : b.length + o.length ≤ 16777216 := by omega
    have z2 : b.length + t.length ≤ 16777216 := by omega
    have q4 : stp (b ++ o) (b ++ t) = stp o t := by
      unfold stp
      rw [cp_app, List.drop_append, List.drop_append]
      simp
    have q5 : stp (o.drop (cp o t)) (t.drop (cp o t)) = stp o t := by
      unfold stp
      rw [cp_rest]; rfl
    have q3 : stp t o = .tup [.str (t.drop (cp o t)), .str (o.drop (cp o t))] := by
      unfold stp
      rw [cp_swap t o]
    have pl := stp_plain ho ht (by omega) (by omega)
    have pl3 := stp_plain ht ho (by omega) (by omega)
    rw [q3] at pl3
    have plL : Plain (.lst [stp o t, stp o t, stp o t]) := by
      refine ⟨?_, rfl, ?_⟩
      · simp [stp, flat, flats]
        exact ⟨fun x hx => by have := ho x (List.mem_of_mem_drop hx); omega, fun x hx => by have := ht x (List.mem_of_mem_drop hx); omega⟩
      · simp [stp, rsz, rszs]; omega
    have f60 : flat 60 (stp o t) = true := by
      simp [stp, flat, flats]
      exact ⟨fun x hx => by have := ho x (List.mem_of_mem_drop hx); omega, fun x hx => by have := ht x (List.mem_of_mem_drop hx); omega⟩
    have r3 : repN [stp o t] 3 = [stp o t, stp o t, stp o t] := rfl
    have i0 : ∀ st, ixD (stp o t) (.int 0) st = some (.str (o.drop (cp o t))) := fun st => at0 _ _
    have i1 : ∀ st, ixD (stp o t) (.int 1) st = some (.str (t.drop (cp o t))) := fun st => at1 _ _ _
    have nv : ∀ v, stp o t ≠ .vv v := fun v z => by cases z
    have ne : ∀ st, cmpS .ne (stp o t) (stp o t) st = some false := fun st => ne_refl_plain f60 nv
    simp [e1, e2, e3, e4, e5, q4, q5, q3, z1, z2, permL, r3, i0, i1, ne, repr_plain plL, repr_plain pl3, h6]
  rintro _ st6 ⟨⟨x8, x9, x10, x11, rfl⟩, h6⟩
  have e1 := fun st => step_eq (a := f) (b := f ++ d) hf (hf.app hd) (by omega) (by simp; omega) st
  have q1 : stp f (f ++ d) = .tup [.str [], .str d] := by
    unfold stp
    rw [cp_pre]
    simp
  have z1 : f.length + d.length ≤ 16777216 := by omega
  have eq : ∀ st, cmpS .eq (.tup [.str [], .str d]) (.tup [.str [], .str d]) st = some true := fun st => eq_refl_plain (by
    simp [flat, flats]
    exact fun x hx => by have := hd x hx; omega) (fun v z => by cases z)
  simp [e1, q1, z1, eq]
  exact h6.mono (by omega)
def lo : List Nat := repN [97, 98] 400
theorem lo_low : Low lo := Low.rep (by unfold Low; decide) _
theorem law_true (ns : List Int) (hn : ns.length ≤ 63) : ∃ st, F_law [.scr ns] [] = .ok (.bl true) st := by
  obtain ⟨d, st, e, rfl⟩ := ok_of_wp (r := F_law [.scr ns] []) (Q := fun d _ => d = .bl true) (by
    unfold F_law
    rw [wp_run]
    unfold b_law
    refine ws_seq_of (fun ρ _ => ∃ x1 x2 x3, ρ = [some (.scr ns), x1, x2, x3, none, none]) ?_ ?_
    · simp [List.replicate]
      rw [rng1_nat (by omega) (by omega), wo_some_]
      refine ws_forGo _ _ (fun _ ρ _ => ∃ x1 x2 x3, ρ = [some (.scr ns), x1, x2, x3, none, none]) _ _ _ ⟨_, _, _, rfl⟩ ?_ (fun _ _ h => h)
      rintro i x ρ st1 hx ⟨x1, x2, x3, rfl⟩
      obtain ⟨rfl, hi⟩ := rng_gt hx
      simp
      refine wp_imp (tray_spec (by omega)) ?_
      rintro _ st2 ⟨n, rfl, h2⟩
      simp [rng1_nat]
      refine ws_forGo _ _ (fun j ρ st => (∃ x3, ρ = [some (.scr ns), some (.int i), some (.ref n), x3, none, none]) ∧ Tr n (70 * j) st) _ _ _ ⟨⟨_, rfl⟩, h2⟩ ?_ ?_
      · rintro j y ρ st3 hy ⟨⟨x3, rfl⟩, h3⟩
        have hj := (rng_gt hy).2
        simp
        refine wp_imp (right_spec h3 (by omega)) ?_
        rintro _ st4 ⟨rfl, h4⟩
        simp
        exact h4.mono (by omega)
      · rintro ρ st3 ⟨⟨x3, rfl⟩, h3⟩
        exact ⟨_, _, _, rfl⟩
    · rintro _ st1 ⟨x1, x2, x3, rfl⟩
      have q1 : cutG lo none (some 799) = lo.take 799 := cut_to lo 799
      have q2 : cutG lo none (some 500) = lo.take 500 := cut_to lo 500
      have l0 : lo.length = 800 := by rw [lo, repN_len]; rfl
      have lc : Low [99] := by unfold Low; decide
      have e1 := fun st => step_eq (a := [97, 99, 120]) (b := [97, 100]) (by unfold Low; decide) (by unfold Low; decide) (by simp) (by simp) st
      have e2 := fun st => step_eq (a := []) (b := []) (by unfold Low; decide) (by unfold Low; decide) (by simp) (by simp) st
      have e3 := fun st => step_eq (a := lo) (b := lo.take 799 ++ [99]) lo_low ((lo_low.take 799).app lc) (by omega) (by simp; omega) st
      have e4 := fun st => step_eq (a := lo) (b := lo.take 500) lo_low (lo_low.take 500) (by omega) (by simp; omega) st
      have v1 : stp [97, 99, 120] [97, 100] = .tup [.str [99, 120], .str [100]] := rfl
      have v2 : stp [] [] = .tup [.str [], .str []] := rfl
      have v3 : stp lo (lo.take 799 ++ [99]) = .tup [.str [98], .str [99]] := by
        unfold stp
        rw [show cp lo (lo.take 799 ++ [99]) = 799 by decide +kernel, show lo.drop 799 = [98] by decide +kernel, show List.drop 799 (lo.take 799 ++ [99]) = [99] by decide +kernel]
      have v4 : stp lo (lo.take 500) = .tup [.str (repN [97, 98] 150), .str []] := by
        unfold stp
        rw [show cp lo (lo.take 500) = 500 by decide +kernel, show lo.drop 500 = repN [97, 98] 150 by decide +kernel, show List.drop 500 (lo.take 500) = [] by decide +kernel]
      have r1 : repN [97, 98] 400 = lo := rfl
      have z0 : lo.length ≤ 16777216 := by omega
      have z1 : (lo.take 799).length + 1 ≤ 16777216 := by simp; omega
      have eq : ∀ st, cmpS .eq (.lst [.tup [.str [99, 120], .str [100]], .tup [.str [], .str []], .tup [.str [98], .str [99]], .tup [.str (repN [97, 98] 150), .str []]]) (.lst [.tup [.str [99, 120], .str [100]], .tup [.str [], .str []], .tup [.str [98], .str [99]], .tup [.str (repN [97, 98] 150), .str []]]) st = some true := fun st => eq_refl_plain (by decide +kernel) (fun v z => by cases z)
      simp only [ws_seq, ws_set, ws_ret, wp_bin, wp_con, mul_str, List.length_cons, List.length_nil, r1]
      simp [e1, e2, e3, e4, v1, v2, v3, v4, q1, q2, z0, z1, eq]
      omega)
  exact ⟨st, e⟩
end LK07
open PySem PySem.W PyProof.Rows
set_option maxHeartbeats 0 in
theorem PySem.Challenge.cw_braceloops_k07_steps_of_words_holds : PySem.Challenge.rw_braceloops_k07_steps_of_words.Holds := by
  w_on; o_law; k_head; (case hw => w_witness2)
  k_fill
  refine PL.walk_fg (l := PySem.Challenge.rw_braceloops_k07_steps_of_words) (n := 63) (k := 5) (x := "script") (F := LK07.F_law) rfl (by decide) rfl ⟨rfl, by decide, by decide⟩ (fun w h Y => PySem.W.kIn_of Y) ?F LK07.law_true
  case F =>
    intro w mg fa h KX G hmg
    refine' LK07.all_mk KX G hmg ?a0 ?l0 ?c0 ?k0 ?a1 ?l1 ?c1 ?k1 ?a2 ?l2 ?c2 ?k2 ?a3 ?l3 ?c3 ?k3 ?a4 ?l4 ?c4 ?k4 ?a5 ?l5 ?c5 ?k5 ?a6 ?l6 ?c6 ?k6 ?a7 ?l7 ?c7 ?k7 ?a8 ?l8 ?c8 ?k8 ?a9 ?l9 ?c9 ?k9 ?a10 ?l10 ?c10 ?k10 ?z_abs ?z_all ?z_isinstance ?z_len ?z_max ?z_min ?z_range ?z_repr ?z_str ?v_LETTERS
    (case a0 => k_is); (case l0 => k_is); (case c0 => k_is); (case k0 => k_is); (case a1 => k_is); (case l1 => k_is); (case c1 => k_is); (case k1 => k_is); (case a2 => k_is); (case l2 => k_is); (case c2 => k_is); (case k2 => k_is); (case a3 => k_is); (case l3 => k_is); (case c3 => k_is); (case k3 => k_is); (case a4 => k_is); (case l4 => k_is); (case c4 => k_is); (case k4 => k_is); (case a5 => k_is); (case l5 => k_is); (case c5 => k_is); (case k5 => k_is); (case a6 => k_is); (case l6 => k_is); (case c6 => k_is); (case k6 => k_is); (case a7 => k_is); (case l7 => k_is); (case c7 => k_is); (case k7 => k_is); (case a8 => k_is); (case l8 => k_is); (case c8 => k_is); (case k8 => k_is); (case a9 => k_is); (case l9 => k_is); (case c9 => k_is); (case k9 => k_is); (case a10 => k_is); (case l10 => k_is); (case c10 => k_is); (case k10 => k_is); (case z_abs => k_is); (case z_all => k_is); (case z_isinstance => k_is); (case z_len => k_is); (case z_max => k_is); (case z_min => k_is); (case z_range => k_is); (case z_repr => k_is); (case z_str => k_is); (case v_LETTERS => k_is)

