import PyProof.Rows.All
import Wide.All
import OpenK.AllK
import Wide.FinOn
import HandS.Base
import HandS.Call
import HandS.List
import HandS.Comp
import HandS.Exc
import HandS.ExcOwn
import HandS.NoneIn
import HandS.WordsExc
import HandS.Words
import HandS.CallSlots
import HandS.Text
import HandS.StrMore
import HandS.IsInst
import HandS.TupAny
import HandS.Wide
import HandS.More
import HandS.Conv
import HandS.Iter
import HandS.SortInts
import HandS.Style
import HandS.SetFor
import HandS.Strs
import PySem.Challenge.RW_seatsworn_k02_changed_crowds
set_option Elab.async false
set_option linter.all false
set_option maxRecDepth 100000
set_option maxHeartbeats 4000000
/-! VL: values as plain data. An abstract heap of HandS is told by data: shared things that never change again (G), cells that may change (C). -/
namespace VL
open PySem PySem.Spec PyProof.Rows L2

/-- data -/
inductive D where
  | non | bl (b : Bool) | int (i : Int) | str (x : Str)
  | tup (xs : List D) | lst (xs : List D) | dct (kvs : List (D × D)) | exc (c : Addr) (fs : List (Str × D))
  | box | mref (n : Nat) | scr (ns : List Int)

/-- what an expression hands on: shared data | a new mutable thing that nobody else has | what stands in slot i -/
inductive En where
  | sh (d : D) | ow (d : D) | lc (i : Nat)

/-- what calls hand on: the shared changing lists, the number of draws -/
structure GSt where
  mu : List D
  T : Nat
structure DSt where
  sl : List (Option En)
  gs : GSt

inductive Tag where
  | box | mu (n : Nat) | own (i : Nat) | tmp
  deriving DecidableEq
def Tag.keep : Tag → Bool
  | .box => true
  | .mu _ => true
  | _ => false

structure Gh where
  G : Hp
  C : Addr → Option Tag
  tm : Addr → Option D

def Ex (H H' : Hp) : Prop := ∀ a o, H a = some o → H' a = some o
theorem Ex.refl (H : Hp) : Ex H H := fun _ _ h => h
theorem Ex.trans {H H1 H2 : Hp} (a : Ex H H1) (b : Ex H1 H2) : Ex H H2 := fun x o h => b x o (a x o h)
theorem Ex.rd {H H' : Hp} {a : Addr} {u : HO} (e : Ex H H') (h : Rd H a u) : Rd H' a u := by
  rcases h with h | ⟨o, h⟩
  · exact Or.inl (e a _ h)
  · exact Or.inr ⟨o, e a _ h⟩
theorem Ex.sqL {K : PySem.W.Frag} {H H' : Hp} {a : Addr} {xs : List V} (e : Ex H H') (h : SqL K H a xs) : SqL K H' a xs := by
  rcases h with h | h
  · exact Or.inl (e.rd h)
  · exact Or.inr h
theorem Ex.sqT {K : PySem.W.Frag} {H H' : Hp} {a : Addr} {xs : List V} (e : Ex H H') (h : SqT K H a xs) : SqT K H' a xs := by
  rcases h with h | h
  · exact Or.inl (e.rd h)
  · exact Or.inr h

structure Le (g g' : Gh) : Prop where
  ex : Ex g.G g'.G
  cs : ∀ a t, g.C a = some t → t.keep = true → g'.C a = some t
theorem Le.refl (g : Gh) : Le g g := ⟨Ex.refl _, fun _ _ h _ => h⟩
theorem Le.trans {a b c : Gh} (x : Le a b) (y : Le b c) : Le a c := ⟨x.ex.trans y.ex, fun p t h k => y.cs p t (x.cs p t h k) k⟩
/-- the temporary cells stay -/
def Lt (g g' : Gh) : Prop := ∀ a d, g.C a = some .tmp → g.tm a = some d → g'.C a = some .tmp ∧ g'.tm a = some d
theorem Lt.refl (g : Gh) : Lt g g := fun _ _ h k => ⟨h, k⟩
theorem Lt.trans {a b c : Gh} (x : Lt a b) (y : Lt b c) : Lt a c := fun p d h k => y p d (x p d h k).1 (x p d h k).2

/-- a text of a length and of signs that Python has -/
def StrOk (x : Str) : Prop := x.length ≤ sizeLine ∧ PyData.strOk x = true
mutual
/-- the value v is the data d -/
inductive Has (K : PySem.W.Frag) (g : Gh) : V → D → Prop
  | non : Has K g .non .non
  | bl (b : Bool) : Has K g (.bl b) (.bl b)
  | int (i : Int) : Has K g (.int i) (.int i)
  | str (x : Str) (h : StrOk x) : Has K g (.str x) (.str x)
  | obj (a : Addr) (ho : HO) (d : D) (h : g.G a = some ho) (c : Con K g ho d) : Has K g (.ref a) d
  | tup (a : Addr) (vs : List V) (ds : List D) (h : SqT K g.G a vs) (c : HasL K g vs ds) (z : ds.length ≤ sizeLine) : Has K g (.ref a) (.tup ds)
  | scr (a : Addr) (ns : List Int) (h : SqL K g.G a (ns.map V.int)) (z : ns.length ≤ 63) : Has K g (.ref a) (.scr ns)
  | box (a : Addr) (h : g.C a = some .box) : Has K g (.ref a) .box
  | mref (a : Addr) (n : Nat) (h : g.C a = some (.mu n)) : Has K g (.ref a) (.mref n)
/-- the content ho is that of the data d -/
inductive Con (K : PySem.W.Frag) (g : Gh) : HO → D → Prop
  | lst (vs : List V) (ds : List D) (c : HasL K g vs ds) (z : ds.length ≤ sizeLine) : Con K g (.lst vs) (.lst ds)
inductive HasL (K : PySem.W.Frag) (g : Gh) : List V → List D → Prop
  | nil : HasL K g [] []
  | cons (v : V) (d : D) (vs : List V) (ds : List D) (h : Has K g v d) (t : HasL K g vs ds) : HasL K g (v :: vs) (d :: ds)
end

section
variable {K : PySem.W.Frag} {g g' : Gh}
mutual
theorem Has.mono (l : Le g g') : ∀ {v d}, Has K g v d → Has K g' v d
  | _, _, .non => .non
  | _, _, .bl b => .bl b
  | _, _, .int i => .int i
  | _, _, .str x h => .str x h
  | _, _, .obj a ho d h c => .obj a ho d (l.ex a ho h) (Con.mono l c)
  | _, _, .tup a vs ds h c z => .tup a vs ds (l.ex.sqT h) (HasL.mono l c) z
  | _, _, .scr a ns h z => .scr a ns (l.ex.sqL h) z
  | _, _, .box a h => .box a (l.cs a _ h rfl)
  | _, _, .mref a n h => .mref a n (l.cs a _ h rfl)
theorem Con.mono (l : Le g g') : ∀ {ho d}, Con K g ho d → Con K g' ho d
  | _, _, .lst vs ds c z => .lst vs ds (HasL.mono l c) z
theorem HasL.mono (l : Le g g') : ∀ {vs ds}, HasL K g vs ds → HasL K g' vs ds
  | _, _, .nil => .nil
  | _, _, .cons v d vs ds h t => .cons v d vs ds (Has.mono l h) (HasL.mono l t)
end
theorem HasL.length : ∀ {vs ds}, HasL K g vs ds → vs.length = ds.length
  | _, _, .nil => rfl
  | _, _, .cons _ _ _ _ _ t => by rw [List.length_cons, List.length_cons, t.length]
theorem HasL.get : ∀ {vs : List V} {ds : List D} {i : Nat} {d : D}, HasL K g vs ds → ds[i]? = some d → ∃ v, vs[i]? = some v ∧ Has K g v d
  | _, _, _, _, .nil, e => by simp at e
  | _, _, 0, _, .cons v d vs ds h _, e => by simp at e; subst e; exact ⟨v, rfl, h⟩
  | _, _, i + 1, _, .cons v d vs ds _ t, e => by
    obtain ⟨v', h1, h2⟩ := HasL.get (i := i) t (by simpa using e)
    exact ⟨v', by simpa using h1, h2⟩
theorem HasL.getV : ∀ {vs : List V} {ds : List D} {i : Nat} {v : V}, HasL K g vs ds → vs[i]? = some v → ∃ d, ds[i]? = some d ∧ Has K g v d
  | _, _, _, _, .nil, e => by simp at e
  | _, _, 0, _, .cons v d vs ds h _, e => by simp at e; subst e; exact ⟨d, rfl, h⟩
  | _, _, i + 1, _, .cons v d vs ds _ t, e => by
    obtain ⟨v', h1, h2⟩ := HasL.getV (i := i) t (by simpa using e)
    exact ⟨v', by simpa using h1, h2⟩
theorem HasL.append : ∀ {vs ws : List V} {ds es : List D}, HasL K g vs ds → HasL K g ws es → HasL K g (vs ++ ws) (ds ++ es)
  | _, _, _, _, .nil, s => s
  | _, _, _, _, .cons _ _ _ _ h t, s => .cons _ _ _ _ h (HasL.append t s)
theorem HasL.take : ∀ {vs : List V} {ds : List D} (n : Nat), HasL K g vs ds → HasL K g (vs.take n) (ds.take n)
  | _, _, 0, _ => by simpa using HasL.nil
  | _, _, _ + 1, .nil => .nil
  | _, _, n + 1, .cons _ _ _ _ h t => .cons _ _ _ _ h (HasL.take n t)
theorem HasL.drop : ∀ {vs : List V} {ds : List D} (n : Nat), HasL K g vs ds → HasL K g (vs.drop n) (ds.drop n)
  | _, _, 0, r => r
  | _, _, _ + 1, .nil => .nil
  | _, _, n + 1, .cons _ _ _ _ _ t => HasL.drop n t
theorem HasL.set {x : V} {u : D} (r : Has K g x u) : ∀ {vs : List V} {ds : List D} (i : Nat), HasL K g vs ds → HasL K g (vs.set i x) (ds.set i u)
  | _, _, _, .nil => .nil
  | _, _, 0, .cons _ _ _ _ _ t => .cons _ _ _ _ r t
  | _, _, i + 1, .cons _ _ _ _ q t => .cons _ _ _ _ q (HasL.set r i t)
theorem HasL.reverse : ∀ {vs : List V} {ds : List D}, HasL K g vs ds → HasL K g vs.reverse ds.reverse
  | _, _, .nil => .nil
  | _, _, .cons v d vs ds h t => by
    rw [List.reverse_cons, List.reverse_cons]
    exact HasL.append (HasL.reverse t) (.cons _ _ _ _ h .nil)
end

/-- a draw box: [the number, whether it gives digits, its rest, how many draws] -/
def BoxAt (T : Nat) (H : Hp) (a : Addr) : Prop := ∃ (n : Int) (c : Bool) (m k : Int), H a = some (.lst [.int n, .bl c, .int m, .int k]) ∧ 0 ≤ n ∧ 0 ≤ m ∧ m < 2147483648 ∧ 0 ≤ k ∧ k ≤ T

/-- what is known of a cell -/
def TagOk (K : PySem.W.Frag) (σ : L2.St) (H : Hp) (st : DSt) (g : Gh) (a : Addr) : Tag → Prop
  | .box => BoxAt st.gs.T H a
  | .mu n => ∃ d ho, st.gs.mu[n]? = some d ∧ H a = some ho ∧ Con K g ho d
  | .own i => ∃ d ho, st.sl[i]? = some (some (.ow d)) ∧ σ[i]? = some (some (.ref a)) ∧ H a = some ho ∧ Con K g ho d
  | .tmp => ∃ d ho, g.tm a = some d ∧ H a = some ho ∧ Con K g ho d

/-- what is known of a slot -/
def SlotOk (K : PySem.W.Frag) (σ : L2.St) (g : Gh) (i : Nat) : En → Prop
  | .sh d => ∃ v, σ[i]? = some (some v) ∧ Has K g v d
  | .ow _ => ∃ a, g.C a = some (.own i)
  | .lc _ => False

/-- THE RELATION: the slots σ and the heap H are the data state st, by the ghost g; H0, g0 stood when the def was entered -/
structure Rel (K : PySem.W.Frag) (H0 : Hp) (g0 : Gh) (σ : L2.St) (H : Hp) (st : DSt) (g : Gh) : Prop where
  ex : Ex g.G H
  le : Le g0 g
  lt : Lt g0 g
  ng : ∀ a i, g0.C a ≠ some (.own i)
  h0 : ∀ a t, g0.C a = some t → H0 a ≠ none
  td : ∀ a, g0.C a = some .tmp → ∃ d, g0.tm a = some d
  cg : ∀ a t, g.C a = some t → g.G a = none ∧ (H0 a = none ∨ g0.C a = some t) ∧ TagOk K σ H st g a t
  gf : ∀ a o, g.G a = some o → g0.G a = some o ∨ H0 a = none
  fr : ∀ a o, H0 a = some o → g0.C a = none → H a = some o
  sl : ∀ i en, st.sl[i]? = some (some en) → SlotOk K σ g i en
  mu : ∀ n d, st.gs.mu[n]? = some d → ∃ a, g.C a = some (.mu n)
  inj : ∀ a b n, g.C a = some (.mu n) → g.C b = some (.mu n) → a = b
  len : st.sl.length = σ.length

theorem TagOk.at {K : PySem.W.Frag} {σ : L2.St} {H : Hp} {st : DSt} {g : Gh} {a : Addr} {t : Tag} (h : TagOk K σ H st g a t) : ∃ o, H a = some o := by
  cases t with
  | box => obtain ⟨_, _, _, _, e, _⟩ := h; exact ⟨_, e⟩
  | mu n => obtain ⟨_, _, _, e, _⟩ := h; exact ⟨_, e⟩
  | own i => obtain ⟨_, _, _, _, e, _⟩ := h; exact ⟨_, e⟩
  | tmp => obtain ⟨_, _, _, e, _⟩ := h; exact ⟨_, e⟩

section
variable {K : PySem.W.Frag} {H0 H : Hp} {g0 g : Gh} {σ : L2.St} {st : DSt}
theorem Rel.cell (R : Rel K H0 g0 σ H st g) {a : Addr} {t : Tag} (h : g.C a = some t) : ∃ o, H a = some o := (R.cg a t h).2.2.at
theorem Rel.ne (R : Rel K H0 g0 σ H st g) {p a : Addr} {t : Tag} (hp : H p = none) (h : g.C a = some t) : a ≠ p := by
  rintro rfl
  obtain ⟨o, e⟩ := R.cell h
  rw [hp] at e; cases e
theorem Rel.noG (R : Rel K H0 g0 σ H st g) {p : Addr} (hp : H p = none) : g.G p = none := by
  cases e : g.G p with
  | none => rfl
  | some o =>
    have := R.ex p o e
    rw [hp] at this; cases this
theorem Rel.noC (R : Rel K H0 g0 σ H st g) {p : Addr} (hp : H p = none) : g.C p = none := by
  cases e : g.C p with
  | none => rfl
  | some t => exact absurd rfl (R.ne hp e)
theorem Rel.fresh (R : Rel K H0 g0 σ H st g) {p : Addr} (hp : H p = none) : H0 p = none := by
  cases e : H0 p with
  | none => rfl
  | some o =>
    cases c : g0.C p with
    | none =>
      have := R.fr p o e c
      rw [hp] at this; cases this
    | some t =>
      cases t with
      | own i => exact absurd c (R.ng p i)
      | box => exact absurd rfl (R.ne hp (R.le.cs p _ c rfl))
      | mu n => exact absurd rfl (R.ne hp (R.le.cs p _ c rfl))
      | tmp =>
        obtain ⟨d, ed⟩ := R.td p c
        exact absurd rfl (R.ne hp (R.lt p d c ed).1)
/-- the heap grows at a free place that nobody tells of: a new thing in hand -/
theorem Rel.temp (R : Rel K H0 g0 σ H st g) {p : Addr} {ho : HO} (hp : H p = none) : Rel K H0 g0 σ (upd H p ho) st g where
  ex := fun a o e => by
    have h := R.ex a o e
    rw [upd_ne (ne_of_none h hp)]; exact h
  le := R.le
  lt := R.lt
  ng := R.ng
  h0 := R.h0
  td := R.td
  cg := fun a t e => by
    obtain ⟨h1, h2, h3⟩ := R.cg a t e
    have n := R.ne hp e
    refine ⟨h1, h2, ?_⟩
    cases t with
    | box =>
      obtain ⟨i, c, m, k, e1, r⟩ := h3
      exact ⟨i, c, m, k, by rw [upd_ne n]; exact e1, r⟩
    | mu j =>
      obtain ⟨d, o, e0, e1, r⟩ := h3
      exact ⟨d, o, e0, by rw [upd_ne n]; exact e1, r⟩
    | own i =>
      obtain ⟨d, o, e0, e2, e1, r⟩ := h3
      exact ⟨d, o, e0, e2, by rw [upd_ne n]; exact e1, r⟩
    | tmp =>
      obtain ⟨d, o, e0, e1, r⟩ := h3
      exact ⟨d, o, e0, by rw [upd_ne n]; exact e1, r⟩
  gf := R.gf
  fr := fun a o e c => by
    have h := R.fr a o e c
    rw [upd_ne (ne_of_none h hp)]; exact h
  sl := R.sl
  mu := R.mu
  inj := R.inj
  len := R.len
theorem le_frz {p : Addr} {ho : HO} (h : g.G p = none) : Le g { g with G := upd g.G p ho } :=
  ⟨fun a o e => by
    show upd g.G p ho a = some o
    rw [upd_ne (ne_of_none e h)]; exact e, fun _ _ e _ => e⟩
theorem lt_frz {G : Hp} : Lt g { g with G := G } := fun _ _ h k => ⟨h, k⟩
/-- a thing in hand is shared from now on -/
theorem Rel.frz (R : Rel K H0 g0 σ H st g) {p : Addr} {ho : HO} (hp : H p = some ho) (h1 : g.G p = none) (h2 : g.C p = none) (h3 : H0 p = none) :
    Rel K H0 g0 σ H st { g with G := upd g.G p ho } where
  ex := fun a o e => by
    have e' : upd g.G p ho a = some o := e
    by_cases n : a = p
    · subst n; rw [upd_same] at e'; cases e'; exact hp
    · rw [upd_ne n] at e'; exact R.ex a o e'
  le := R.le.trans (le_frz h1)
  lt := R.lt
  ng := R.ng
  h0 := R.h0
  td := R.td
  cg := fun a t e => by
    have e' : g.C a = some t := e
    have n : a ≠ p := by
      rintro rfl
      rw [h2] at e'; cases e'
    obtain ⟨q1, q2, q3⟩ := R.cg a t e'
    refine ⟨by show upd g.G p ho a = none; rw [upd_ne n]; exact q1, q2, ?_⟩
    cases t with
    | box => exact q3
    | mu j =>
      obtain ⟨d, o, e0, e1, r⟩ := q3
      exact ⟨d, o, e0, e1, r.mono (le_frz h1)⟩
    | own i =>
      obtain ⟨d, o, e0, e2, e1, r⟩ := q3
      exact ⟨d, o, e0, e2, e1, r.mono (le_frz h1)⟩
    | tmp =>
      obtain ⟨d, o, e0, e1, r⟩ := q3
      exact ⟨d, o, e0, e1, r.mono (le_frz h1)⟩
  gf := fun a o e => by
    have e' : upd g.G p ho a = some o := e
    by_cases n : a = p
    · subst n; exact .inr h3
    · rw [upd_ne n] at e'; exact R.gf a o e'
  fr := R.fr
  sl := fun i en e => by
    have q := R.sl i en e
    cases en with
    | sh d =>
      obtain ⟨v, e1, r⟩ := q
      exact ⟨v, e1, r.mono (le_frz h1)⟩
    | ow d => exact q
    | lc j => exact q
  mu := R.mu
  inj := R.inj
  len := R.len
end
end VL

set_option Elab.async false
set_option linter.all false
set_option maxRecDepth 100000
set_option maxHeartbeats 4000000
namespace VL
open PySem PySem.Spec PyProof.Rows L2

def En.hold : En → En
  | .ow d => .sh d
  | e => e
/-- the value v is what is in hand -/
def HasR (K : PySem.W.Frag) (H0 : Hp) (σ : L2.St) (H : Hp) (g : Gh) (v : V) : En → Prop
  | .sh d => Has K g v d
  | .ow d => ∃ p ho, v = .ref p ∧ H p = some ho ∧ Con K g ho d ∧ g.G p = none ∧ g.C p = none ∧ H0 p = none
  | .lc i => σ[i]? = some (some v)
/-- .. held: nothing new in hand -/
def HasH (K : PySem.W.Frag) (σ : L2.St) (g : Gh) (v : V) : En → Prop
  | .sh d => Has K g v d
  | .ow _ => False
  | .lc i => σ[i]? = some (some v)
theorem HasH.mono {K : PySem.W.Frag} {σ : L2.St} {g g' : Gh} {v : V} {e : En} (l : Le g g') (h : HasH K σ g v e) : HasH K σ g' v e := by
  cases e with
  | sh d => exact Has.mono l h
  | ow d => exact h
  | lc i => exact h
def view (st : DSt) : En → Option D
  | .sh (.mref n) => st.gs.mu[n]?
  | .sh d => some d
  | .ow d => some d
  | .lc i => match st.sl[i]? with
    | some (some (.ow d)) => some d
    | some (some (.sh d)) => some d
    | _ => none
/-- v may be read as d -/
def Rdd (K : PySem.W.Frag) (g : Gh) (H : Hp) (v : V) (d : D) : Prop := Has K g v d ∨ ∃ a ho, v = .ref a ∧ H a = some ho ∧ Con K g ho d
section
variable {K : PySem.W.Frag} {H0 H : Hp} {g0 g : Gh} {σ : L2.St} {st : DSt} {v : V}
theorem Rel.own (R : Rel K H0 g0 σ H st g) {i : Nat} {d : D} (h : st.sl[i]? = some (some (.ow d))) :
    ∃ a ho, g.C a = some (.own i) ∧ σ[i]? = some (some (.ref a)) ∧ H a = some ho ∧ Con K g ho d ∧ g.G a = none ∧ H0 a = none := by
  obtain ⟨a, e⟩ := R.sl i _ h
  obtain ⟨h1, h2, d', ho, e1, e2, e3, c⟩ := R.cg a _ e
  rw [h] at e1
  have := Option.some.inj (Option.some.inj e1)
  injection this with this
  subst this
  refine ⟨a, ho, e, e2, e3, c, h1, ?_⟩
  rcases h2 with q | q
  · exact q
  · exact absurd q (R.ng a i)
theorem Rel.shd (R : Rel K H0 g0 σ H st g) {i : Nat} {d : D} (h : st.sl[i]? = some (some (.sh d))) : ∃ v, σ[i]? = some (some v) ∧ Has K g v d := R.sl i _ h
theorem view_rdd (R : Rel K H0 g0 σ H st g) {en : En} {d : D} (h : HasR K H0 σ H g v en) (e : view st en = some d) : Rdd K g H v d := by
  cases en with
  | ow d' =>
    obtain ⟨p, ho, e1, e2, c, _⟩ := h
    cases e
    exact .inr ⟨p, ho, e1, e2, c⟩
  | lc i =>
    have h' : σ[i]? = some (some v) := h
    unfold view at e
    dsimp only at e
    split at e
    · rename_i d' e1
      cases e
      obtain ⟨a, ho, _, e2, e3, c, _⟩ := R.own e1
      rw [h'] at e2
      cases e2
      exact .inr ⟨a, ho, rfl, e3, c⟩
    · rename_i d' e1
      cases e
      obtain ⟨v', e2, c⟩ := R.shd e1
      rw [h'] at e2
      cases e2
      exact .inl c
    · cases e
  | sh d' =>
    have h' : Has K g v d' := h
    cases d' with
    | mref n =>
      have e' : st.gs.mu[n]? = some d := e
      cases h' with
      | obj a ho d h c => cases c
      | mref a n h =>
        obtain ⟨_, _, d2, ho, e1, e2, c⟩ := R.cg a _ h
        rw [e'] at e1
        cases e1
        exact .inr ⟨a, ho, rfl, e2, c⟩
    | _ => cases e; exact .inl h'
theorem HasH.toR {en : En} (h : HasH K σ g v en) : HasR K H0 σ H g v en := by
  cases en with
  | sh d => exact h
  | ow d => exact h.elim
  | lc i => exact h
/-- what is in hand is held from now on -/
theorem Rel.hold (R : Rel K H0 g0 σ H st g) {en : En} (h : HasR K H0 σ H g v en) : ∃ g', Rel K H0 g0 σ H st g' ∧ Le g g' ∧ Lt g g' ∧ HasH K σ g' v en.hold := by
  cases en with
  | sh d => exact ⟨g, R, Le.refl g, Lt.refl g, h⟩
  | lc i => exact ⟨g, R, Le.refl g, Lt.refl g, h⟩
  | ow d =>
    obtain ⟨p, ho, rfl, e, c, h1, h2, h3⟩ := h
    have l : Le g { g with G := upd g.G p ho } := le_frz h1
    exact ⟨_, R.frz e h1 h2 h3, l, lt_frz, .obj p ho d (show upd g.G p ho p = some ho from upd_same) (c.mono l)⟩
/-- slot i is shared from now on -/
theorem Rel.share (R : Rel K H0 g0 σ H st g) {i : Nat} {d : D} (h : st.sl[i]? = some (some (.ow d))) :
    ∃ g', Rel K H0 g0 σ H { st with sl := st.sl.set i (some (.sh d)) } g' ∧ Le g g' ∧ Lt g g' ∧ ∃ v, σ[i]? = some (some v) ∧ Has K g' v d := by
  obtain ⟨a, ho, ea, es, eh, c, hg, h0⟩ := R.own h
  let g' : Gh := { G := upd g.G a ho, C := fun b => if b = a then none else g.C b, tm := g.tm }
  have l : Le g g' := ⟨fun b o e => by
    show upd g.G a ho b = some o
    rw [upd_ne (ne_of_none e hg)]; exact e, fun b t e k => by
    show (if b = a then none else g.C b) = some t
    rw [if_neg]
    · exact e
    · rintro rfl
      rw [ea] at e; cases e; cases k⟩
  have lt : Lt g g' := by
    intro b t e k
    refine ⟨?_, k⟩
    show (if b = a then none else g.C b) = some .tmp
    rw [if_neg]
    · exact e
    · rintro rfl
      rw [ea] at e; cases e
  have hi : i < st.sl.length := by
    rcases List.getElem?_eq_some_iff.mp h with ⟨q, _⟩
    exact q
  have ha : Has K g' (.ref a) d := .obj a ho d (show upd g.G a ho a = some ho from upd_same) (c.mono l)
  refine ⟨g', ?_, l, lt, .ref a, es, ha⟩
  refine ⟨fun b o e => ?_, R.le.trans l, R.lt.trans lt, R.ng, R.h0, R.td, fun b t e => ?_, fun b o e => ?_, R.fr, fun j en e => ?_, fun n d' e => ?_, fun b b' n e1 e2 => ?_, by rw [List.length_set]; exact R.len⟩
  · have e' : upd g.G a ho b = some o := e
    by_cases n : b = a
    · subst n; rw [upd_same] at e'; cases e'; exact eh
    · rw [upd_ne n] at e'; exact R.ex b o e'
  · have e' : (if b = a then none else g.C b) = some t := e
    by_cases n : b = a
    · rw [if_pos n] at e'; cases e'
    · rw [if_neg n] at e'
      obtain ⟨q1, q2, q3⟩ := R.cg b t e'
      refine ⟨by show upd g.G a ho b = none; rw [upd_ne n]; exact q1, q2, ?_⟩
      cases t with
      | box => exact q3
      | mu j =>
        obtain ⟨d', o, e0, e1, r⟩ := q3
        exact ⟨d', o, e0, e1, r.mono l⟩
      | own j =>
        obtain ⟨d', o, e0, e2, e1, r⟩ := q3
        have ij : i ≠ j := by
          rintro rfl
          rw [es] at e2; cases e2; exact n rfl
        exact ⟨d', o, by rw [List.getElem?_set_ne ij]; exact e0, e2, e1, r.mono l⟩
      | tmp =>
        obtain ⟨d', o, e0, e1, r⟩ := q3
        exact ⟨d', o, e0, e1, r.mono l⟩
  · have e' : upd g.G a ho b = some o := e
    by_cases n : b = a
    · subst n; exact .inr h0
    · rw [upd_ne n] at e'; exact R.gf b o e'
  · by_cases ij : i = j
    · subst ij
      rw [List.getElem?_set_self hi] at e
      cases e
      exact ⟨.ref a, es, ha⟩
    · rw [List.getElem?_set_ne ij] at e
      have q := R.sl j en e
      cases en with
      | sh d' =>
        obtain ⟨v, e1, r⟩ := q
        exact ⟨v, e1, r.mono l⟩
      | ow d' =>
        obtain ⟨b, q⟩ := q
        refine ⟨b, ?_⟩
        show (if b = a then none else g.C b) = some (.own j)
        rw [if_neg]
        · exact q
        · rintro rfl
          rw [ea] at q; cases q; exact ij rfl
      | lc k => exact q
  · obtain ⟨b, q⟩ := R.mu n d' e
    exact ⟨b, l.cs b _ q rfl⟩
  · have f1 : (if b = a then none else g.C b) = some (.mu n) := e1
    have f2 : (if b' = a then none else g.C b') = some (.mu n) := e2
    refine R.inj b b' n ?_ ?_
    · by_cases q : b = a
      · rw [if_pos q] at f1; cases f1
      · rw [if_neg q] at f1; exact f1
    · by_cases q : b' = a
      · rw [if_pos q] at f2; cases f2
      · rw [if_neg q] at f2; exact f2
end

/-! ### all is shared -/
def dFrz (en : En) (st : DSt) (k : D → DSt → Prop) : Prop :=
  match en with
  | .sh d => k d st
  | .ow d => k d st
  | .lc i => match st.sl[i]? with
    | some (some (.ow d)) => k d { st with sl := st.sl.set i (some (.sh d)) }
    | some (some (.sh d)) => k d st
    | _ => False
section
variable {K : PySem.W.Frag} {H0 H : Hp} {g0 g : Gh} {σ : L2.St} {st : DSt} {v : V}
theorem Rel.frzR (R : Rel K H0 g0 σ H st g) {en : En} (h : HasR K H0 σ H g v en) {k : D → DSt → Prop} (f : dFrz en st k) : ∃ g' st' d, Rel K H0 g0 σ H st' g' ∧ Le g g' ∧ Lt g g' ∧ Has K g' v d ∧ k d st' ∧ st'.gs = st.gs := by
  cases en with
  | sh d => exact ⟨g, st, d, R, Le.refl g, Lt.refl g, h, f, rfl⟩
  | ow d =>
    obtain ⟨p, ho, rfl, e, c, h1, h2, h3⟩ := h
    have l : Le g { g with G := upd g.G p ho } := le_frz h1
    exact ⟨_, st, d, R.frz e h1 h2 h3, l, lt_frz, .obj p ho d (show upd g.G p ho p = some ho from upd_same) (c.mono l), f, rfl⟩
  | lc i =>
    have h' : σ[i]? = some (some v) := h
    unfold dFrz at f
    dsimp only at f
    split at f
    · rename_i d e
      obtain ⟨g', R', l, lt, v', e', c⟩ := R.share e
      rw [h'] at e'; cases e'
      exact ⟨g', _, d, R', l, lt, c, f, rfl⟩
    · rename_i d e
      obtain ⟨v', e', c⟩ := R.shd e
      rw [h'] at e'; cases e'
      exact ⟨g, st, d, R, Le.refl g, Lt.refl g, c, f, rfl⟩
    · exact f.elim
end
end VL

set_option Elab.async false
set_option linter.all false
set_option maxRecDepth 100000
set_option maxHeartbeats 4000000
namespace VL
open PySem PySem.Spec PyProof.Rows L2

/-- an exception as data: its class, its attributes -/
structure Exn where
  c : Addr
  fs : List (Str × D)
abbrev DX := Exn → DSt → Prop
abbrev DE := DSt → (En → DSt → Prop) → DX → Prop
abbrev DT := DSt → (Bool → DSt → Prop) → DX → Prop
abbrev DA := DSt → (List En → DSt → Prop) → DX → Prop
structure DEnds where
  nx : DSt → Prop
  rt : En → DSt → Prop
  ex : DX
  bk : DSt → Prop := fun _ => False
  ct : DSt → Prop := fun _ => False
abbrev DS := DEnds → DSt → Prop

inductive HasF (K : PySem.W.Frag) (g : Gh) : List (Str × V) → List (Str × D) → Prop
  | nil : HasF K g [] []
  | cons (x : Str) (v : V) (d : D) (vs : List (Str × V)) (ds : List (Str × D)) (h : Has K g v d) (t : HasF K g vs ds) : HasF K g ((x, v) :: vs) ((x, d) :: ds)
/-- an exception of the class cls with its own dict at dx is ex -/
def ExnHas (K : PySem.W.Frag) (g : Gh) (H : Hp) (ex : Exn) (cls : Value) (dx : Option Addr) : Prop :=
  cls = .ref ex.c ∧ ∃ d fs, dx = some d ∧ H d = some (.xd fs) ∧ HasF K g fs ex.fs

def PostX (K : PySem.W.Frag) (H0 : Hp) (g0 : Gh) (g : Gh) (E2 : DX) (W : WX) : Prop :=
  ∀ ex cls dx σ' H' st' g', Rel K H0 g0 σ' H' st' g' → Le g g' → ExnHas K g' H' ex cls dx → E2 ex st' → W cls dx σ' H'
theorem PostX.mono {K : PySem.W.Frag} {H0 : Hp} {g0 g g' : Gh} {E2 : DX} {W : WX} (h : PostX K H0 g0 g E2 W) (l : Le g g') : PostX K H0 g0 g' E2 W :=
  fun ex cls dx σ' H' st' g2 R l2 e q => h ex cls dx σ' H' st' g2 R (l.trans l2) e q

def SimE (K : PySem.W.Frag) (t : WX → TE) (d : DE) : Prop :=
  ∀ H0 g0 W σ H st g (Q2 : En → DSt → Prop) (E2 : DX) (Q : VK), Rel K H0 g0 σ H st g → d st Q2 E2 →
    (∀ v H' st' g' en, Rel K H0 g0 σ H' st' g' → Le g g' → Lt g g' → HasR K H0 σ H' g' v en → Q2 en st' → Q v H') → PostX K H0 g0 g E2 W → t W σ H Q
def SimT (K : PySem.W.Frag) (t : WX → TT) (d : DT) : Prop :=
  ∀ H0 g0 W σ H st g (Q2 : Bool → DSt → Prop) (E2 : DX) (Q : Bool → Hp → Prop), Rel K H0 g0 σ H st g → d st Q2 E2 →
    (∀ b H' st' g', Rel K H0 g0 σ H' st' g' → Le g g' → Lt g g' → Q2 b st' → Q b H') → PostX K H0 g0 g E2 W → t W σ H Q
inductive HasHL (K : PySem.W.Frag) (σ : L2.St) (g : Gh) : List V → List En → Prop
  | nil : HasHL K σ g [] []
  | cons {v : V} {e : En} {vs : List V} {es : List En} (h : HasH K σ g v e) (t : HasHL K σ g vs es) : HasHL K σ g (v :: vs) (e :: es)
theorem HasHL.mono {K : PySem.W.Frag} {σ : L2.St} {g g' : Gh} (l : Le g g') : ∀ {vs es}, HasHL K σ g vs es → HasHL K σ g' vs es
  | _, _, .nil => .nil
  | _, _, .cons h t => .cons (h.mono l) (HasHL.mono l t)
def SimA (K : PySem.W.Frag) (t : WX → TA) (d : DA) : Prop :=
  ∀ H0 g0 W σ H st g (Q2 : List En → DSt → Prop) (E2 : DX) (Q : List V → Hp → Prop), Rel K H0 g0 σ H st g → d st Q2 E2 →
    (∀ vs H' st' g' es, Rel K H0 g0 σ H' st' g' → Le g g' → Lt g g' → HasHL K σ g' vs es → Q2 es st' → Q vs H') → PostX K H0 g0 g E2 W → t W σ H Q
def SimS (K : PySem.W.Frag) (t : WX → TS) (d : DS) : Prop :=
  ∀ H0 g0 W σ H st g (D2 : DEnds) (D : Ends), Rel K H0 g0 σ H st g → d D2 st →
    (∀ σ' H' st' g', Rel K H0 g0 σ' H' st' g' → Le g g' → D2.nx st' → D.nx σ' H') →
    (∀ v σ' H' st' g' en, Rel K H0 g0 σ' H' st' g' → Le g g' → HasR K H0 σ' H' g' v en → D2.rt en st' → D.rt v H') →
    (∀ σ' H' st' g', Rel K H0 g0 σ' H' st' g' → Le g g' → D2.bk st' → D.bk σ' H') →
    (∀ σ' H' st' g', Rel K H0 g0 σ' H' st' g' → Le g g' → D2.ct st' → D.ct σ' H') →
    PostX K H0 g0 g D2.ex W → t W D σ H

structure QE (X : Cx) (e : Expr) (t : WX → TE) (d : DE) : Prop where
  pe : ∀ W, Takes X W → PE X e (t W)
  sim : SimE X.K t d
structure QT (X : Cx) (e : Expr) (t : WX → TT) (d : DT) : Prop where
  pt : ∀ W, Takes X W → PT X e (t W)
  sim : SimT X.K t d
structure QW (X : Cx) (e : Expr) (t : WX → TT) (d : DT) : Prop where
  pw : ∀ W, Takes X W → PW X e (t W)
  sim : SimT X.K t d
structure QA (X : Cx) (es : List Expr) (t : WX → TA) (d : DA) : Prop where
  pa : ∀ W, Takes X W → PA X es (t W)
  sim : SimA X.K t d
structure QS (X : Cx) (s : Stmt) (t : WX → TS) (d : DS) : Prop where
  ps : ∀ W, Takes X W → PS X s (t W)
  sim : SimS X.K t d
structure QSs (X : Cx) (s : List Stmt) (t : WX → TS) (d : DS) : Prop where
  ps : ∀ W, Takes X W → PSs X s (t W)
  sim : SimS X.K t d

section
variable {X : Cx} {e a b c : Expr} {pos : Pos}
/-! ### names and constants -/
def dVar (i : Nat) : DE := fun st Q _ => match st.sl[i]? with
  | some (some (.sh d)) => Q (.sh d) st
  | some (some (.ow _)) => Q (.lc i) st
  | _ => False
theorem sim_var {K : PySem.W.Frag} {i : Nat} : SimE K (fun _ => tVar i) (dVar i) := by
  intro H0 g0 W σ H st g Q2 E2 Q R h k _
  unfold dVar at h
  split at h
  · rename_i d e
    obtain ⟨v, e', r⟩ := R.shd e
    exact ⟨v, e', k v H st g (.sh d) R (Le.refl g) (Lt.refl g) r h⟩
  · rename_i d e
    obtain ⟨a, ho, _, e', _⟩ := R.own e
    exact ⟨_, e', k _ H st g (.lc i) R (Le.refl g) (Lt.refl g) e' h⟩
  · exact h.elim
theorem qv (i : Nat) {x : Str} {pos : Pos} (hN : X.N[i]? = some x := by rfl) (hv : Vis X.env.scope x := by first | exact Or.inl rfl | exact Or.inr (Or.inl rfl) | exact Or.inr (Or.inr rfl)) (hd : (x == ("__debug__" : Str)) = false := by decide)
    (hcd : (x == ("__classdict__" : Str)) = false := by decide) : QE X (.Name x pos) (fun _ => tVar i) (dVar i) := ⟨fun _ _ => pe_var hN hv hd hcd, sim_var⟩
def dC (d : D) : DE := fun st Q _ => Q (.sh d) st
theorem sim_c {K : PySem.W.Frag} {v : V} {d : D} (h : ∀ g, Has K g v d) : SimE K (fun _ => tC v) (dC d) := fun H0 g0 W σ H st g Q2 E2 Q R q k _ => k v H st g (.sh d) R (Le.refl g) (Lt.refl g) (h g) q
theorem q_int {i j pos} : QE X (.Constant (.int i) j pos) (fun _ => tC (.int i)) (dC (.int i)) := ⟨fun _ _ => pe_int, sim_c fun _ => .int i⟩
theorem q_bl {b j pos} : QE X (.Constant (.bool b) j pos) (fun _ => tC (.bl b)) (dC (.bl b)) := ⟨fun _ _ => pe_bl, sim_c fun _ => .bl b⟩
theorem q_non {j pos} : QE X (.Constant .none j pos) (fun _ => tC .non) (dC .non) := ⟨fun _ _ => pe_non, sim_c fun _ => .non⟩
theorem q_str {x : Str} {j pos} (h : StrOk x := by exact ⟨by decide +kernel, by decide +kernel⟩) : QE X (.Constant (.str x) j pos) (fun _ => tC (.str x)) (dC (.str x)) := ⟨fun _ _ => pe_str, sim_c fun _ => .str x h⟩
/-- a module's constant -/
theorem q_glob {x : Str} {v : V} {d : D} {u : Value} {pos : Pos} (hg : Gl X x) (hm : X.mg x = some u) (r : RelV v u) (h : ∀ g, Has X.K g v d) (hd : (x == ("__debug__" : Str)) = false := by decide) : QE X (.Name x pos) (fun _ => tC v) (dC d) :=
  ⟨fun _ _ => pe_glob hg hm r hd, sim_c h⟩

/-! ### two operands -/
def dBin (op : D → D → (En → Prop) → Prop) (da db : DE) : DE := fun st Q E => da st (fun e1 st1 => db st1 (fun e2 st2 =>
  match view st2 e1.hold, view st2 e2.hold with
  | some x, some y => op x y fun en => Q en st2
  | _, _ => False) E) E
def SimOp (K : PySem.W.Frag) (r : R2) (op : D → D → (En → Prop) → Prop) : Prop :=
  ∀ H0 g0 σ H st g x y dx dy (Q2 : En → Prop) (Q : VK), Rel K H0 g0 σ H st g → Rdd K g H x dx → Rdd K g H y dy → op dx dy Q2 →
    (∀ v H' g' en, Rel K H0 g0 σ H' st g' → Le g g' → Lt g g' → HasR K H0 σ H' g' v en → Q2 en → Q v H') → r x y H Q
theorem sim_bin {K : PySem.W.Frag} {r : R2} {op : D → D → (En → Prop) → Prop} {ta tb : WX → TE} {da db : DE} (so : SimOp K r op) (ha : SimE K ta da) (hb : SimE K tb db) : SimE K (fun W => tOp r (ta W) (tb W)) (dBin op da db) := by
  intro H0 g0 W σ H st g Q2 E2 Q R h k kx
  refine ha H0 g0 W σ H st g _ E2 _ R h (fun v1 H1 st1 g1 e1 R1 l1 m1 r1 h1 => ?_) kx
  obtain ⟨g1', R1', l1', m1', hh1⟩ := R1.hold r1
  refine hb H0 g0 W σ H1 st1 g1' _ E2 _ R1' h1 (fun v2 H2 st2 g2 e2 R2 l2 m2 r2 h2 => ?_) (kx.mono (l1.trans l1'))
  obtain ⟨g2', R2', l2', m2', hh2⟩ := R2.hold r2
  split at h2
  · rename_i x y ex ey
    have hh1' := hh1.mono (l2.trans l2')
    exact so H0 g0 σ H2 st2 g2' v1 v2 x y _ Q R2' (view_rdd R2' (hh1'.toR (H0 := H0) (H := H2)) ex) (view_rdd R2' (hh2.toR (H0 := H0) (H := H2)) ey) h2
      fun v H' g' en R' l' m' r' q' => k v H' st2 g' en R' ((l1.trans l1').trans ((l2.trans l2').trans l')) ((m1.trans m1').trans ((m2.trans m2').trans m')) r' q'
  · exact h2.elim
theorem q_op {op : Operator} {r : R2} {dop : D → D → (En → Prop) → Prop} {ta tb : WX → TE} {da db : DE} (ho : OpR X (binaryOp op) r) (so : SimOp X.K r dop) (ha : QE X a ta da) (hb : QE X b tb db) : QE X (.BinOp a op b pos) (fun W => tOp r (ta W) (tb W)) (dBin dop da db) :=
  ⟨fun W tk => pe_op ho (ha.pe W tk) (hb.pe W tk), sim_bin so ha.sim hb.sim⟩
theorem q_cmp {op : CmpOp} {r : R2} {dop : D → D → (En → Prop) → Prop} {ta tb : WX → TE} {da db : DE} (ho : OpR X (compareOp op) r) (so : SimOp X.K r dop) (ha : QE X a ta da) (hb : QE X b tb db) (hm : behindInMarks op b = false) :
    QE X (.Compare a [op] [b] pos) (fun W => tOp r (ta W) (tb W)) (dBin dop da db) :=
  ⟨fun W tk => pe_cmpR ho (ha.pe W tk) (hb.pe W tk) hm, sim_bin so ha.sim hb.sim⟩
/-! ### tests -/
def dTest (d : DE) : DT := fun st Q E => d st (fun en st1 => ∃ k, en = .sh (.bl k) ∧ Q k st1) E
theorem sim_test {K : PySem.W.Frag} {t : WX → TE} {d : DE} (h : SimE K t d) : SimT K (fun W => tTest (t W)) (dTest d) := by
  intro H0 g0 W σ H st g Q2 E2 Q R q k kx
  refine h H0 g0 W σ H st g _ E2 _ R q (fun v H1 st1 g1 en R1 l1 m1 r1 q1 => ?_) kx
  obtain ⟨b, rfl, q1⟩ := q1
  have r1' : Has K g1 v (.bl b) := r1
  cases r1' with
  | obj a ho d h c => cases c
  | bl b => exact ⟨b, rfl, k b H1 st1 g1 R1 l1 m1 q1⟩
theorem qt_cmp {op : CmpOp} {r : R2} {dop : D → D → (En → Prop) → Prop} {ta tb : WX → TE} {da db : DE} (ho : OpR X (compareOp op) r) (so : SimOp X.K r dop) (ha : QE X a ta da) (hb : QE X b tb db) (hm : behindInMarks op b = false) :
    QT X (.Compare a [op] [b] pos) (fun W => tTest (tOp r (ta W) (tb W))) (dTest (dBin dop da db)) :=
  ⟨fun W tk => pt_cmpR ho (ha.pe W tk) (hb.pe W tk) hm, sim_test (sim_bin so ha.sim hb.sim)⟩
/-- an expression whose value is a bool, as a test -/
theorem qt_val {t : WX → TE} {d : DE} (h : QE X e t d) (he : ∀ whole, isTrue e X.env whole = (do let v ← whole; standAt e.pos; holding [v] (truthy v)) := by intro _; rfl) : QT X e (fun W => tB (t W)) (dTest d) :=
  ⟨fun W tk => pt_val (h.pe W tk) he, sim_test h.sim⟩
def dAnd (d e : DT) : DT := fun st Q E => d st (fun b st1 => if b = true then e st1 Q E else Q false st1) E
def dOr (d e : DT) : DT := fun st Q E => d st (fun b st1 => if b = true then Q true st1 else e st1 Q E) E
def dNot (d : DT) : DT := fun st Q E => d st (fun b st1 => Q (!b) st1) E
variable {rest : List Expr} {tA tB' : WX → TT} {dA dB : DT}
theorem qw_and1 (ha : QT X a tA dA) : QW X (.BoolOp .And [a] pos) tA dA := ⟨fun W tk => pw_and1 (ha.pt W tk), ha.sim⟩
theorem qw_or1 (ha : QT X a tA dA) : QW X (.BoolOp .Or [a] pos) tA dA := ⟨fun W tk => pw_or1 (ha.pt W tk), ha.sim⟩
theorem sim_and {K : PySem.W.Frag} (ha : SimT K tA dA) (hb : SimT K tB' dB) : SimT K (fun W => tAnd (tA W) (tB' W)) (dAnd dA dB) := by
  intro H0 g0 W σ H st g Q2 E2 Q R q k kx
  refine ha H0 g0 W σ H st g _ E2 _ R q (fun b H1 st1 g1 R1 l1 m1 q1 => ?_) kx
  cases b with
  | true =>
    rw [if_pos rfl] at q1 ⊢
    exact hb H0 g0 W σ H1 st1 g1 _ E2 _ R1 q1 (fun b H2 st2 g2 R2 l2 m2 q2 => k b H2 st2 g2 R2 (l1.trans l2) (m1.trans m2) q2) (kx.mono l1)
  | false =>
    rw [if_neg Bool.false_ne_true] at q1 ⊢
    exact k false H1 st1 g1 R1 l1 m1 q1
theorem sim_or {K : PySem.W.Frag} (ha : SimT K tA dA) (hb : SimT K tB' dB) : SimT K (fun W => tOr (tA W) (tB' W)) (dOr dA dB) := by
  intro H0 g0 W σ H st g Q2 E2 Q R q k kx
  refine ha H0 g0 W σ H st g _ E2 _ R q (fun b H1 st1 g1 R1 l1 m1 q1 => ?_) kx
  cases b with
  | true =>
    rw [if_pos rfl] at q1 ⊢
    exact k true H1 st1 g1 R1 l1 m1 q1
  | false =>
    rw [if_neg Bool.false_ne_true] at q1 ⊢
    exact hb H0 g0 W σ H1 st1 g1 _ E2 _ R1 q1 (fun b H2 st2 g2 R2 l2 m2 q2 => k b H2 st2 g2 R2 (l1.trans l2) (m1.trans m2) q2) (kx.mono l1)
theorem sim_not {K : PySem.W.Frag} (ha : SimT K tA dA) : SimT K (fun W => tNot (tA W)) (dNot dA) := by
  intro H0 g0 W σ H st g Q2 E2 Q R q k kx
  exact ha H0 g0 W σ H st g _ E2 _ R q (fun b H1 st1 g1 R1 l1 m1 q1 => k (!b) H1 st1 g1 R1 l1 m1 q1) kx
theorem qw_and (ha : QT X a tA dA) (hb : QW X (.BoolOp .And (b :: rest) pos) tB' dB) : QW X (.BoolOp .And (a :: b :: rest) pos) (fun W => tAnd (tA W) (tB' W)) (dAnd dA dB) := ⟨fun W tk => pw_and (ha.pt W tk) (hb.pw W tk), sim_and ha.sim hb.sim⟩
theorem qw_or (ha : QT X a tA dA) (hb : QW X (.BoolOp .Or (b :: rest) pos) tB' dB) : QW X (.BoolOp .Or (a :: b :: rest) pos) (fun W => tOr (tA W) (tB' W)) (dOr dA dB) := ⟨fun W tk => pw_or (ha.pt W tk) (hb.pw W tk), sim_or ha.sim hb.sim⟩
theorem QW.t (h : QW X e tA dA) : QT X e tA dA := ⟨fun W tk => (h.pw W tk).pt, h.sim⟩
theorem qt_not (ha : QT X a tA dA) : QT X (.UnaryOp .Not a pos) (fun W => tNot (tA W)) (dNot dA) := ⟨fun W tk => pt_not (ha.pt W tk), sim_not ha.sim⟩
/-! ### .. as values -/
def dAndV (da db : DE) : DE := fun st Q E => da st (fun en st1 => ∃ c, en = .sh (.bl c) ∧ if c = true then db st1 Q E else Q (.sh (.bl false)) st1) E
def dOrV (da db : DE) : DE := fun st Q E => da st (fun en st1 => ∃ c, en = .sh (.bl c) ∧ if c = true then Q (.sh (.bl true)) st1 else db st1 Q E) E
def dNotV (da : DE) : DE := fun st Q E => da st (fun en st1 => ∃ c, en = .sh (.bl c) ∧ Q (.sh (.bl (!c))) st1) E
theorem has_bl {K : PySem.W.Frag} {g : Gh} {v : V} {b : Bool} (h : Has K g v (.bl b)) : v = .bl b := by
  cases h with
  | obj a ho d h c => cases c
  | bl b => rfl
variable {ta tb : WX → TE} {da db : DE}
theorem sim_andV {K : PySem.W.Frag} (ha : SimE K ta da) (hb : SimE K tb db) : SimE K (fun W => tAndV (ta W) (tb W)) (dAndV da db) := by
  intro H0 g0 W σ H st g Q2 E2 Q R q k kx
  refine ha H0 g0 W σ H st g _ E2 _ R q (fun v H1 st1 g1 en R1 l1 m1 r1 q1 => ?_) kx
  obtain ⟨c, rfl, q1⟩ := q1
  have ev := has_bl r1
  subst ev
  refine ⟨c, rfl, ?_⟩
  cases c with
  | true =>
    rw [if_pos rfl] at q1 ⊢
    exact hb H0 g0 W σ H1 st1 g1 _ E2 _ R1 q1 (fun v H2 st2 g2 en R2 l2 m2 r2 q2 => k v H2 st2 g2 en R2 (l1.trans l2) (m1.trans m2) r2 q2) (kx.mono l1)
  | false =>
    rw [if_neg Bool.false_ne_true] at q1 ⊢
    exact k _ H1 st1 g1 _ R1 l1 m1 r1 q1
theorem sim_orV {K : PySem.W.Frag} (ha : SimE K ta da) (hb : SimE K tb db) : SimE K (fun W => tOrV (ta W) (tb W)) (dOrV da db) := by
  intro H0 g0 W σ H st g Q2 E2 Q R q k kx
  refine ha H0 g0 W σ H st g _ E2 _ R q (fun v H1 st1 g1 en R1 l1 m1 r1 q1 => ?_) kx
  obtain ⟨c, rfl, q1⟩ := q1
  have ev := has_bl r1
  subst ev
  refine ⟨c, rfl, ?_⟩
  cases c with
  | true =>
    rw [if_pos rfl] at q1 ⊢
    exact k _ H1 st1 g1 _ R1 l1 m1 r1 q1
  | false =>
    rw [if_neg Bool.false_ne_true] at q1 ⊢
    exact hb H0 g0 W σ H1 st1 g1 _ E2 _ R1 q1 (fun v H2 st2 g2 en R2 l2 m2 r2 q2 => k v H2 st2 g2 en R2 (l1.trans l2) (m1.trans m2) r2 q2) (kx.mono l1)
theorem sim_notV {K : PySem.W.Frag} (ha : SimE K ta da) : SimE K (fun W => tNotV (ta W)) (dNotV da) := by
  intro H0 g0 W σ H st g Q2 E2 Q R q k kx
  refine ha H0 g0 W σ H st g _ E2 _ R q (fun v H1 st1 g1 en R1 l1 m1 r1 q1 => ?_) kx
  obtain ⟨c, rfl, q1⟩ := q1
  have ev := has_bl r1
  subst ev
  exact ⟨c, rfl, k _ H1 st1 g1 (.sh (.bl (!c))) R1 l1 m1 (Has.bl _) q1⟩
theorem q_one {op} (h : QE X a ta da) : QE X (.BoolOp op [a] pos) ta da := ⟨fun W tk => pe_one (h.pe W tk), h.sim⟩
theorem q_and (ha : QE X a ta da) (hb : QE X (.BoolOp .And (b :: rest) pos) tb db) : QE X (.BoolOp .And (a :: b :: rest) pos) (fun W => tAndV (ta W) (tb W)) (dAndV da db) := ⟨fun W tk => pe_and (ha.pe W tk) (hb.pe W tk), sim_andV ha.sim hb.sim⟩
theorem q_or (ha : QE X a ta da) (hb : QE X (.BoolOp .Or (b :: rest) pos) tb db) : QE X (.BoolOp .Or (a :: b :: rest) pos) (fun W => tOrV (ta W) (tb W)) (dOrV da db) := ⟨fun W tk => pe_or (ha.pe W tk) (hb.pe W tk), sim_orV ha.sim hb.sim⟩
theorem q_not (ha : QE X a ta da) : QE X (.UnaryOp .Not a pos) (fun W => tNotV (ta W)) (dNotV da) := ⟨fun W tk => pe_not (ha.pe W tk), sim_notV ha.sim⟩
def dIf (t : DT) (da db : DE) : DE := fun st Q E => t st (fun b st1 => if b = true then da st1 Q E else db st1 Q E) E
theorem q_if (hc : QT X c tA dA) (ha : QE X a ta da) (hb : QE X b tb db) : QE X (.IfExp c a b pos) (fun W => tIf (tA W) (ta W) (tb W)) (dIf dA da db) := by
  refine ⟨fun W tk => pe_ifExp (hc.pt W tk) (ha.pe W tk) (hb.pe W tk), ?_⟩
  intro H0 g0 W σ H st g Q2 E2 Q R q k kx
  refine hc.sim H0 g0 W σ H st g _ E2 _ R q (fun d H1 st1 g1 R1 l1 m1 q1 => ?_) kx
  cases d with
  | true =>
    rw [if_pos rfl] at q1 ⊢
    exact ha.sim H0 g0 W σ H1 st1 g1 _ E2 _ R1 q1 (fun v H2 st2 g2 en R2 l2 m2 r2 q2 => k v H2 st2 g2 en R2 (l1.trans l2) (m1.trans m2) r2 q2) (kx.mono l1)
  | false =>
    rw [if_neg Bool.false_ne_true] at q1 ⊢
    exact hb.sim H0 g0 W σ H1 st1 g1 _ E2 _ R1 q1 (fun v H2 st2 g2 en R2 l2 m2 r2 q2 => k v H2 st2 g2 en R2 (l1.trans l2) (m1.trans m2) r2 q2) (kx.mono l1)
/-! ### argument lists -/
def dNil : DA := fun st Q _ => Q [] st
def dCons (d : DE) (r : DA) : DA := fun st Q E => d st (fun e st1 => r st1 (fun es st2 => Q (e.hold :: es) st2) E) E
variable {es : List Expr} {tr : WX → TA} {dr : DA}
theorem qa_nil : QA X [] (fun _ => tNil) dNil := ⟨fun _ _ => pa_nil, fun H0 g0 W σ H st g Q2 E2 Q R q k kx => k [] H st g [] R (Le.refl g) (Lt.refl g) .nil q⟩
theorem sim_cons {K : PySem.W.Frag} (ha : SimE K ta da) (hr : SimA K tr dr) : SimA K (fun W => tCons (ta W) (tr W)) (dCons da dr) := by
  intro H0 g0 W σ H st g Q2 E2 Q R q k kx
  refine ha H0 g0 W σ H st g _ E2 _ R q (fun v H1 st1 g1 en R1 l1 m1 r1 q1 => ?_) kx
  obtain ⟨g1', R1', l1', m1', h1⟩ := R1.hold r1
  exact hr H0 g0 W σ H1 st1 g1' _ E2 _ R1' q1 (fun vs H2 st2 g2 es R2 l2 m2 r2 q2 => k (v :: vs) H2 st2 g2 _ R2 ((l1.trans l1').trans l2) ((m1.trans m1').trans m2) (.cons (h1.mono l2) r2) q2) (kx.mono (l1.trans l1'))
theorem qa_cons (ha : QE X e ta da) (hr : QA X es tr dr) (hs : starEach (e :: es) X.env = (false, eval e X.env) :: starEach es X.env := by rfl) : QA X (e :: es) (fun W => tCons (ta W) (tr W)) (dCons da dr) :=
  ⟨fun W tk => pa_cons (ha.pe W tk) (hr.pa W tk) hs, sim_cons ha.sim hr.sim⟩
end
end VL

set_option Elab.async false
set_option linter.all false
set_option maxRecDepth 100000
set_option maxHeartbeats 4000000
namespace VL
open PySem PySem.Spec PyProof.Rows L2

/-! ### a slot is stored -/
section
variable {K : PySem.W.Frag} {H0 H : Hp} {g0 g : Gh} {σ : L2.St} {st : DSt} {v : V}
def Gh.drop (g : Gh) (i : Nat) : Gh := { g with C := fun b => if g.C b = some (.own i) then none else g.C b }
theorem Gh.drop_le (g : Gh) (i : Nat) : Le g (g.drop i) := ⟨Ex.refl _, fun a t e k => by
  show (if g.C a = some (.own i) then none else g.C a) = some t
  rw [if_neg]
  · exact e
  · rw [e]; rintro q; cases q; cases k⟩
theorem Gh.drop_of {g : Gh} {i : Nat} {a : Addr} {t : Tag} (h : (g.drop i).C a = some t) : g.C a = some t ∧ t ≠ .own i := by
  have h' : (if g.C a = some (.own i) then none else g.C a) = some t := h
  by_cases q : g.C a = some (.own i)
  · rw [if_pos q] at h'; cases h'
  · rw [if_neg q] at h'
    refine ⟨h', ?_⟩
    rintro rfl
    exact q h'
theorem Gh.drop_lt (g : Gh) (i : Nat) : Lt g (g.drop i) := by
  intro a d e k
  refine ⟨?_, k⟩
  show (if g.C a = some (.own i) then none else g.C a) = some .tmp
  rw [if_neg]
  · exact e
  · rw [e]; rintro q; cases q
/-- what stood in slot i is forgotten -/
theorem Rel.drop (R : Rel K H0 g0 σ H st g) (i : Nat) (x : Option V) : Rel K H0 g0 (σ.set i x) H { st with sl := st.sl.set i none } (g.drop i) := by
  refine ⟨R.ex, R.le.trans (g.drop_le i), R.lt.trans (g.drop_lt i), R.ng, R.h0, R.td, fun a t e => ?_, R.gf, R.fr, fun j en e => ?_, fun n d e => ?_, fun a b n e1 e2 => ?_, by rw [List.length_set, List.length_set]; exact R.len⟩
  · obtain ⟨e1, ne⟩ := Gh.drop_of e
    obtain ⟨q1, q2, q3⟩ := R.cg a t e1
    refine ⟨q1, q2, ?_⟩
    cases t with
    | box => exact q3
    | mu n =>
      obtain ⟨d, o, w0, w1, r⟩ := q3
      exact ⟨d, o, w0, w1, r.mono (g.drop_le i)⟩
    | own j =>
      obtain ⟨d, o, w0, w2, w1, r⟩ := q3
      have ij : i ≠ j := fun z => ne (by rw [z])
      exact ⟨d, o, by rw [List.getElem?_set_ne ij]; exact w0, by rw [List.getElem?_set_ne ij]; exact w2, w1, r.mono (g.drop_le i)⟩
    | tmp =>
      obtain ⟨d, o, w0, w1, r⟩ := q3
      exact ⟨d, o, w0, w1, r.mono (g.drop_le i)⟩
  · by_cases ij : i = j
    · subst ij
      by_cases hi : i < st.sl.length
      · rw [List.getElem?_set_self hi] at e; cases e
      · rw [List.getElem?_eq_none (by rw [List.length_set]; omega)] at e; cases e
    · rw [List.getElem?_set_ne ij] at e
      have q := R.sl j en e
      cases en with
      | sh d =>
        obtain ⟨v, e1, r⟩ := q
        exact ⟨v, by rw [List.getElem?_set_ne ij]; exact e1, r.mono (g.drop_le i)⟩
      | ow d =>
        obtain ⟨a, q⟩ := q
        refine ⟨a, ?_⟩
        show (if g.C a = some (.own i) then none else g.C a) = some (.own j)
        rw [if_neg, q]
        rw [q]
        rintro z
        cases z
        exact ij rfl
      | lc k => exact q
  · obtain ⟨a, q⟩ := R.mu n d e
    exact ⟨a, (g.drop_le i).cs a _ q rfl⟩
  · exact R.inj a b n (Gh.drop_of e1).1 (Gh.drop_of e2).1
theorem Rel.setSh (R : Rel K H0 g0 σ H st g) (i : Nat) {d : D} (h : Has K g v d) : ∃ g', Rel K H0 g0 (σ.set i (some v)) H { st with sl := st.sl.set i (some (.sh d)) } g' ∧ Le g g' ∧ Lt g g' := by
  have R1 := R.drop i (some v)
  refine ⟨g.drop i, ⟨R1.ex, R1.le, R1.lt, R1.ng, R1.h0, R1.td, fun a t e => ?_, R1.gf, R1.fr, fun j en e => ?_, R1.mu, R1.inj, by rw [List.length_set, List.length_set]; exact R.len⟩, g.drop_le i, g.drop_lt i⟩
  · obtain ⟨q1, q2, q3⟩ := R1.cg a t e
    refine ⟨q1, q2, ?_⟩
    cases t with
    | box => exact q3
    | mu n => exact q3
    | own j =>
      obtain ⟨d, o, w0, w2, w1, r⟩ := q3
      have ij : i ≠ j := fun z => (Gh.drop_of e).2 (by rw [z])
      rw [List.getElem?_set_ne ij] at w0
      exact ⟨d, o, by rw [List.getElem?_set_ne ij]; exact w0, w2, w1, r⟩
    | tmp => exact q3
  · by_cases ij : i = j
    · subst ij
      by_cases hi : i < st.sl.length
      · rw [List.getElem?_set_self hi] at e
        cases e
        exact ⟨v, List.getElem?_set_self (by rw [← R.len]; exact hi), h.mono (g.drop_le i)⟩
      · rw [List.getElem?_eq_none (by rw [List.length_set]; omega)] at e; cases e
    · refine R1.sl j en ?_
      rw [List.getElem?_set_ne ij] at e ⊢
      exact e
theorem Rel.setOw (R : Rel K H0 g0 σ H st g) (i : Nat) (hi : i < st.sl.length) {d : D} {p : Addr} {ho : HO} (hp : H p = some ho) (c : Con K g ho d) (h1 : g.G p = none) (h2 : g.C p = none) (h3 : H0 p = none) :
    ∃ g', Rel K H0 g0 (σ.set i (some (.ref p))) H { st with sl := st.sl.set i (some (.ow d)) } g' ∧ Le g g' ∧ Lt g g' := by
  have R1 := R.drop i (some (.ref p))
  have hd : (g.drop i).C p = none := by
    cases q : (g.drop i).C p with
    | none => rfl
    | some t => rw [(Gh.drop_of q).1] at h2; cases h2
  let g' : Gh := { g with C := fun b => if b = p then some (.own i) else (g.drop i).C b }
  have l : Le (g.drop i) g' := ⟨Ex.refl _, fun a t e k => by
    show (if a = p then some (.own i) else (g.drop i).C a) = some t
    rw [if_neg]
    · exact e
    · rintro rfl; rw [hd] at e; cases e⟩
  have lt : Lt (g.drop i) g' := by
    intro a u e k
    refine ⟨?_, k⟩
    show (if a = p then some (.own i) else (g.drop i).C a) = some .tmp
    rw [if_neg]
    · exact e
    · rintro rfl; rw [hd] at e; cases e
  have off : ∀ {a t}, g'.C a = some t → (a = p ∧ t = .own i) ∨ (a ≠ p ∧ (g.drop i).C a = some t) := fun {a t} e => by
    have e' : (if a = p then some (.own i) else (g.drop i).C a) = some t := e
    by_cases q : a = p
    · rw [if_pos q] at e'; cases e'; exact .inl ⟨q, rfl⟩
    · rw [if_neg q] at e'; exact .inr ⟨q, e'⟩
  have hs : i < σ.length := by rw [← R.len]; exact hi
  refine ⟨g', ⟨R1.ex, R1.le.trans l, R1.lt.trans lt, R1.ng, R1.h0, R1.td, fun a t e => ?_, R1.gf, R1.fr, fun j en e => ?_, fun n d e => ?_, fun a b n e1 e2 => ?_, by rw [List.length_set, List.length_set]; exact R.len⟩, (g.drop_le i).trans l, (g.drop_lt i).trans lt⟩
  · rcases off e with ⟨rfl, rfl⟩ | ⟨ne, e1⟩
    · exact ⟨h1, .inl h3, d, ho, List.getElem?_set_self hi, List.getElem?_set_self hs, hp, c.mono ((g.drop_le i).trans l)⟩
    · obtain ⟨q1, q2, q3⟩ := R1.cg a t e1
      refine ⟨q1, q2, ?_⟩
      cases t with
      | box => exact q3
      | mu n =>
        obtain ⟨d, o, w0, w1, r⟩ := q3
        exact ⟨d, o, w0, w1, r.mono l⟩
      | own j =>
        obtain ⟨d, o, w0, w2, w1, r⟩ := q3
        have ij : i ≠ j := fun z => (Gh.drop_of e1).2 (by rw [z])
        rw [List.getElem?_set_ne ij] at w0
        exact ⟨d, o, by rw [List.getElem?_set_ne ij]; exact w0, w2, w1, r.mono l⟩
      | tmp =>
        obtain ⟨d, o, w0, w1, r⟩ := q3
        exact ⟨d, o, w0, w1, r.mono l⟩
  · by_cases ij : i = j
    · subst ij
      rw [List.getElem?_set_self hi] at e
      cases e
      exact ⟨p, if_pos rfl⟩
    · have q := R1.sl j en (by rw [List.getElem?_set_ne ij] at e ⊢; exact e)
      cases en with
      | sh d =>
        obtain ⟨v, e1, r⟩ := q
        exact ⟨v, e1, r.mono l⟩
      | ow d =>
        obtain ⟨a, q⟩ := q
        refine ⟨a, ?_⟩
        show (if a = p then some (.own i) else (g.drop i).C a) = some (.own j)
        rw [if_neg, q]
        rintro rfl
        rw [hd] at q; cases q
      | lc k => exact q
  · obtain ⟨a, q⟩ := R1.mu n d e
    exact ⟨a, l.cs a _ q rfl⟩
  · rcases off e1 with ⟨_, q⟩ | ⟨_, q1⟩
    · cases q
    · rcases off e2 with ⟨_, q⟩ | ⟨_, q2⟩
      · cases q
      · exact R1.inj a b n q1 q2
end

def dStore (i : Nat) (en : En) (st : DSt) (k : DSt → Prop) : Prop :=
  match en with
  | .sh d => k { st with sl := st.sl.set i (some (.sh d)) }
  | .ow d => i < st.sl.length ∧ k { st with sl := st.sl.set i (some (.ow d)) }
  | .lc j => dFrz (.lc j) st fun d st1 => k { st1 with sl := st1.sl.set i (some (.sh d)) }
abbrev DG := En → DSt → (DSt → Prop) → DX → Prop
/-- all but the slots ws stand -/
def But (ws : List Nat) (σ σ' : L2.St) : Prop := σ'.length = σ.length ∧ ∀ j, j ∉ ws → σ'[j]? = σ[j]?
/-- ws: the slots that the target stores -/
def SimG (K : PySem.W.Frag) (ws : List Nat) (t : WX → TG) (d : DG) : Prop :=
  ∀ H0 g0 W σ H st g v en (Q2 : DSt → Prop) (E2 : DX) (Q : L2.St → Hp → Prop), Rel K H0 g0 σ H st g → HasR K H0 σ H g v en → d en st Q2 E2 →
    (∀ σ' H' st' g', Rel K H0 g0 σ' H' st' g' → Le g g' → Lt g g' → But ws σ σ' → Q2 st' → Q σ' H') → PostX K H0 g0 g E2 W → t W v σ H Q
structure QG (X : Cx) (e : Expr) (ws : List Nat) (t : WX → TG) (d : DG) : Prop where
  pg : ∀ W, Takes X W → PG X e (t W)
  sim : SimG X.K ws t d
def dName (i : Nat) : DG := fun en st Q _ => dStore i en st Q
theorem set_out {α : Type} {l : List α} {i : Nat} {x : α} {j : Nat} (h : j ∉ [i]) : (l.set i x)[j]? = l[j]? := List.getElem?_set_ne (fun e => h (by rw [e]; exact List.mem_singleton.mpr rfl))
theorem sim_name {K : PySem.W.Frag} {i : Nat} : SimG K [i] (fun _ => gName i) (dName i) := by
  intro H0 g0 W σ H st g v en Q2 E2 Q R r q k _
  cases en with
  | sh d =>
    obtain ⟨g', R', l, m⟩ := R.setSh i (show Has K g v d from r)
    exact k _ H _ g' R' l m ⟨List.length_set, fun j hj => set_out hj⟩ q
  | ow d =>
    obtain ⟨p, ho, rfl, e, c, h1, h2, h3⟩ := r
    obtain ⟨hi, q⟩ := q
    obtain ⟨g', R', l, m⟩ := R.setOw i hi e c h1 h2 h3
    exact k _ H _ g' R' l m ⟨List.length_set, fun j hj => set_out hj⟩ q
  | lc j =>
    obtain ⟨g1, st1, d, R1, l1, m1, h, q1, _⟩ := R.frzR (en := .lc j) r (show dFrz (.lc j) st (fun d st1 => Q2 { st1 with sl := st1.sl.set i (some (.sh d)) }) from q)
    obtain ⟨g', R', l, m⟩ := R1.setSh i h
    exact k _ H _ g' R' (l1.trans l) (m1.trans m) ⟨List.length_set, fun j hj => set_out hj⟩ q1
section
variable {X : Cx} {e a b c : Expr} {pos : Pos} {ta tb : WX → TE} {da db : DE} {tA : WX → TT} {dA : DT} {s : Stmt} {rest : List Stmt} {t u : WX → TS} {d d' : DS}
theorem qg_name {i : Nat} {x : Str} (hN : X.N.Nodup) (hi : X.N[i]? = some x) (hx : Loc X.env.scope x) (hf : X.fn x = true ∨ X.env.scope.names.lookup x = some .local := by first | exact .inl rfl | exact .inr rfl | assumption) : QG X (.Name x pos) [i] (fun _ => gName i) (dName i) :=
  ⟨fun _ _ => pg_name hN hi hx hf, sim_name⟩
/-! ### small statements, blocks -/
def dNext : DS := fun D st => D.nx st
def dSeq (d1 d2 : DS) : DS := fun D st => d1 { D with nx := d2 D } st
theorem qss_nil : QSs X [] (fun _ => tNext) dNext := ⟨fun _ _ => pss_nil, fun H0 g0 W σ H st g D2 D R q kn kr kb kc kx => kn σ H st g R (Le.refl g) q⟩
theorem sim_seq {K : PySem.W.Frag} (h1 : SimS K t d) (h2 : SimS K u d') : SimS K (fun W => tSeq (t W) (u W)) (dSeq d d') := by
  intro H0 g0 W σ H st g D2 D R q kn kr kb kc kx
  refine h1 H0 g0 W σ H st g { D2 with nx := d' D2 } { D with nx := u W D } R q (fun σ1 H1 st1 g1 R1 l1 q1 => ?_) kr kb kc kx
  exact h2 H0 g0 W σ1 H1 st1 g1 D2 D R1 q1 (fun σ2 H2 st2 g2 R2 l2 q2 => kn σ2 H2 st2 g2 R2 (l1.trans l2) q2) (fun v σ2 H2 st2 g2 en R2 l2 r q2 => kr v σ2 H2 st2 g2 en R2 (l1.trans l2) r q2)
    (fun σ2 H2 st2 g2 R2 l2 q2 => kb σ2 H2 st2 g2 R2 (l1.trans l2) q2) (fun σ2 H2 st2 g2 R2 l2 q2 => kc σ2 H2 st2 g2 R2 (l1.trans l2) q2) (kx.mono l1)
theorem qss_cons (h1 : QS X s t d) (h2 : QSs X rest u d') : QSs X (s :: rest) (fun W => tSeq (t W) (u W)) (dSeq d d') := ⟨fun W tk => pss_cons (h1.ps W tk) (h2.ps W tk), sim_seq h1.sim h2.sim⟩
theorem qss_one (h1 : QS X s t d) : QSs X [s] t d := ⟨fun W tk => pss_one (h1.ps W tk), h1.sim⟩
def dBreak : DS := fun D st => D.bk st
def dCont : DS := fun D st => D.ct st
theorem qs_pass : QS X (.Pass pos) (fun _ => tNext) dNext := ⟨fun _ _ => ps_pass, fun H0 g0 W σ H st g D2 D R q kn kr kb kc kx => kn σ H st g R (Le.refl g) q⟩
theorem qs_break : QS X (.Break pos) (fun _ => tBreak) dBreak := ⟨fun _ _ => ps_break, fun H0 g0 W σ H st g D2 D R q kn kr kb kc kx => kb σ H st g R (Le.refl g) q⟩
theorem qs_continue : QS X (.Continue pos) (fun _ => tCont) dCont := ⟨fun _ _ => ps_continue, fun H0 g0 W σ H st g D2 D R q kn kr kb kc kx => kc σ H st g R (Le.refl g) q⟩
def dDrop (de : DE) : DS := fun D st => de st (fun _ st1 => D.nx st1) D.ex
theorem qs_expr (he : QE X e ta da) (hs : swapsWith e none pos.line X.env = pure false := by rfl) : QS X (.Expr e pos) (fun W => tDrop (ta W)) (dDrop da) :=
  ⟨fun W tk => ps_expr (he.pe W tk) hs, fun H0 g0 W σ H st g D2 D R q kn kr kb kc kx => he.sim H0 g0 W σ H st g _ D2.ex _ R q (fun v H1 st1 g1 en R1 l1 m1 r1 q1 => kn σ H1 st1 g1 R1 l1 q1) kx⟩
def dRet (de : DE) : DS := fun D st => de st D.rt D.ex
theorem qs_ret (he : QE X e ta da) : QS X (.Return (some e) pos) (fun W => tRet (ta W)) (dRet da) :=
  ⟨fun W tk => ps_ret (he.pe W tk), fun H0 g0 W σ H st g D2 D R q kn kr kb kc kx => he.sim H0 g0 W σ H st g _ D2.ex _ R q (fun v H1 st1 g1 en R1 l1 m1 r1 q1 => kr v σ H1 st1 g1 en R1 l1 r1 q1) kx⟩
def dRetN : DS := fun D st => D.rt (.sh .non) st
theorem qs_retN : QS X (.Return none pos) (fun _ => tRetN) dRetN := ⟨fun _ _ => ps_retN, fun H0 g0 W σ H st g D2 D R q kn kr kb kc kx => kr .non σ H st g (.sh .non) R (Le.refl g) Has.non q⟩
def dIfS (c : DT) (d d' : DS) : DS := fun D st => c st (fun b st1 => if b = true then d D st1 else d' D st1) D.ex
theorem qs_if {x y : List Stmt} (hc : QT X c tA dA) (ha : QSs X x t d) (hb : QSs X y u d') : QS X (.If c x y pos) (fun W => tIfS (tA W) (t W) (u W)) (dIfS dA d d') := by
  refine ⟨fun W tk => ps_if (hc.pt W tk) (ha.ps W tk) (hb.ps W tk), ?_⟩
  intro H0 g0 W σ H st g D2 D R q kn kr kb kc kx
  refine hc.sim H0 g0 W σ H st g _ D2.ex _ R q (fun b H1 st1 g1 R1 l1 m1 q1 => ?_) kx
  have fin : ∀ {t : WX → TS} {d : DS}, SimS X.K t d → d D2 st1 → t W D σ H1 := fun {t d} h q1 =>
    h H0 g0 W σ H1 st1 g1 D2 D R1 q1 (fun σ2 H2 st2 g2 R2 l2 q2 => kn σ2 H2 st2 g2 R2 (l1.trans l2) q2) (fun v σ2 H2 st2 g2 en R2 l2 r q2 => kr v σ2 H2 st2 g2 en R2 (l1.trans l2) r q2)
      (fun σ2 H2 st2 g2 R2 l2 q2 => kb σ2 H2 st2 g2 R2 (l1.trans l2) q2) (fun σ2 H2 st2 g2 R2 l2 q2 => kc σ2 H2 st2 g2 R2 (l1.trans l2) q2) (kx.mono l1)
  cases b with
  | true =>
    rw [if_pos rfl] at q1 ⊢
    exact fin ha.sim q1
  | false =>
    rw [if_neg Bool.false_ne_true] at q1 ⊢
    exact fin hb.sim q1
def dNever : DS := fun _ _ => False
theorem qs_never : QS X s (fun _ => tNever) dNever := ⟨fun _ _ => ps_never, fun H0 g0 W σ H st g D2 D R q kn kr kb kc kx => q.elim⟩
theorem qss_never : QSs X rest (fun _ => tNever) dNever := ⟨fun _ _ => pss_never, fun H0 g0 W σ H st g D2 D R q kn kr kb kc kx => q.elim⟩
def dAsg (de : DE) (dg : DG) : DS := fun D st => de st (fun en st1 => dg en st1 D.nx D.ex) D.ex
variable {tg : WX → TG} {dg : DG} {ws : List Nat}
theorem sim_asg {K : PySem.W.Frag} (he : SimE K ta da) (hg : SimG K ws tg dg) : SimS K (fun W => tAsg (ta W) (tg W)) (dAsg da dg) := by
  intro H0 g0 W σ H st g D2 D R q kn kr kb kc kx
  refine he H0 g0 W σ H st g _ D2.ex _ R q (fun v H1 st1 g1 en R1 l1 m1 r1 q1 => ?_) kx
  exact hg H0 g0 W σ H1 st1 g1 v en _ D2.ex _ R1 r1 q1 (fun σ2 H2 st2 g2 R2 l2 m2 _ q2 => kn σ2 H2 st2 g2 R2 (l1.trans l2) q2) (kx.mono l1)
theorem qs_set {i : Nat} {x : Str} {pos' : Pos} (hN : X.N.Nodup) (hi : X.N[i]? = some x) (hx : Loc X.env.scope x) (he : QE X e ta da) (hs : swapsWith e (some (.Name x pos')) pos.line X.env = pure false := by rfl) (hf : X.fn x = true ∨ X.env.scope.names.lookup x = some .local := by first | exact .inl rfl | exact .inr rfl | assumption) :
    QS X (.Assign [.Name x pos'] e pos) (fun W => tAsg (ta W) (gName i)) (dAsg da (dName i)) := ⟨fun W tk => ps_set hN hi hx (he.pe W tk) hs hf, sim_asg (tg := fun _ => gName i) he.sim sim_name⟩
theorem qs_asg {tgt : Expr} (he : QE X e ta da) (hg : QG X tgt ws tg dg) (hs : swapsWithSole [tgt] e pos.line X.env = pure false := by rfl) (hw : swappedStores [tgt] e X.env = pure none := by rfl)
    (h1 : (assignEach [tgt] X.env).map (·.2) = [assign tgt X.env] := by rfl) : QS X (.Assign [tgt] e pos) (fun W => tAsg (ta W) (tg W)) (dAsg da dg) := ⟨fun W tk => ps_asg (he.pe W tk) (hg.pg W tk) hs hw h1, sim_asg he.sim hg.sim⟩
end
end VL

set_option Elab.async false
set_option linter.all false
set_option maxRecDepth 100000
set_option maxHeartbeats 4000000
namespace VL
open PySem PySem.Spec PyProof.Rows L2

theorem HasF.mono {K : PySem.W.Frag} {g g' : Gh} (l : Le g g') : ∀ {fs : List (Str × V)} {ds : List (Str × D)}, HasF K g fs ds → HasF K g' fs ds
  | _, _, .nil => .nil
  | _, _, .cons x v d vs ds h t => .cons x v d vs ds (h.mono l) (HasF.mono l t)
/-- what a def promises, on data: arguments, what is shared, what follows, what is raised -/
abbrev DSpec := List D → GSt → (En → GSt → Prop) → (Exn → GSt → Prop) → Prop

def spOf (K : PySem.W.Frag) (n : Nat) (S : DSpec) : Sp := fun vs H Q E => ∃ g ds gs Q2 E2, Rel K H g [] H ⟨[], gs⟩ g ∧ HasL K g vs ds ∧ ds.length = n ∧ S ds gs Q2 E2 ∧
  (∀ v H' g' gs' en, Rel K H g [] H' ⟨[], gs'⟩ g' → Le g g' → HasR K H [] H' g' v en → Q2 en gs' → Q v H') ∧
  (∀ ex cls dx H' g' gs', Rel K H g [] H' ⟨[], gs'⟩ g' → Le g g' → ExnHas K g' H' ex cls dx → E2 ex gs' → E cls dx H')
theorem spOf_len {K : PySem.W.Frag} {n : Nat} {S : DSpec} {vs : List V} {H : Hp} {Q : VK} {E : XK} (h : spOf K n S vs H Q E) : vs.length = n := by
  obtain ⟨g, ds, gs, Q2, E2, _, hl, e, _⟩ := h
  rw [hl.length, e]

/-! ### in and out -/
def Gh.noOwn (g : Gh) : Gh := { g with C := fun a => match g.C a with
  | some (.own _) => none
  | t => t }
section
variable {K : PySem.W.Frag} {H0 H H' : Hp} {g0 g g' : Gh} {σ : L2.St} {st : DSt} {gs : GSt} {v : V}
theorem Gh.noOwn_of {a : Addr} {t : Tag} (h : g.noOwn.C a = some t) : g.C a = some t ∧ ∀ i, t ≠ .own i := by
  have h' : (match g.C a with | some (.own _) => none | t => t) = some t := h
  split at h'
  · cases h'
  · rename_i t' ne
    refine ⟨h', fun i z => ?_⟩
    subst z
    exact ne i h'
theorem Gh.noOwn_to {a : Addr} {t : Tag} (h : g.C a = some t) (hn : ∀ i, t ≠ .own i) : g.noOwn.C a = some t := by
  show (match g.C a with | some (.own _) => none | t => t) = some t
  rw [h]
  cases t with
  | own i => exact absurd rfl (hn i)
  | _ => rfl
theorem Gh.noOwn_le (g : Gh) : Le g g.noOwn := ⟨Ex.refl _, fun a t e k => Gh.noOwn_to e fun i z => by subst z; cases k⟩
theorem Gh.noOwn_lt (g : Gh) : Lt g g.noOwn := fun a d e k => ⟨Gh.noOwn_to e fun i z => (by cases z), k⟩
/-- what a called def is entered with -/
theorem Rel.enter (R : Rel K H0 g0 σ H st g) : Rel K H g.noOwn [] H ⟨[], st.gs⟩ g.noOwn where
  ex := R.ex
  le := Le.refl _
  lt := Lt.refl _
  ng := fun a i e => (Gh.noOwn_of e).2 i rfl
  h0 := fun a t e => by
    obtain ⟨o, q⟩ := R.cell (Gh.noOwn_of e).1
    rw [q]; exact fun z => by cases z
  td := fun a e => by
    obtain ⟨_, _, d, ho, q, _⟩ := R.cg a _ (Gh.noOwn_of e).1
    exact ⟨d, q⟩
  cg := fun a t e => by
    obtain ⟨e1, ne⟩ := Gh.noOwn_of e
    obtain ⟨q1, q2, q3⟩ := R.cg a t e1
    refine ⟨q1, .inr e, ?_⟩
    cases t with
    | box => exact q3
    | mu n =>
      obtain ⟨d, o, w0, w1, r⟩ := q3
      exact ⟨d, o, w0, w1, r.mono g.noOwn_le⟩
    | own i => exact absurd rfl (ne i)
    | tmp =>
      obtain ⟨d, o, w0, w1, r⟩ := q3
      exact ⟨d, o, w0, w1, r.mono g.noOwn_le⟩
  gf := fun a o e => .inl e
  fr := fun a o e _ => e
  sl := fun i en e => by simp at e
  mu := fun n d e => by
    obtain ⟨a, q⟩ := R.mu n d e
    exact ⟨a, g.noOwn_le.cs a _ q rfl⟩
  inj := fun a b n e1 e2 => R.inj a b n (Gh.noOwn_of e1).1 (Gh.noOwn_of e2).1
  len := rfl
/-- the ghost behind a call -/
def Gh.back (g g' : Gh) : Gh := { g' with C := fun a => match g.C a with
  | some (.own i) => some (.own i)
  | _ => g'.C a }
theorem Gh.back_of {a : Addr} {t : Tag} (h : (g.back g').C a = some t) : (∃ i, g.C a = some (.own i) ∧ t = .own i) ∨ ((∀ i, g.C a ≠ some (.own i)) ∧ g'.C a = some t) := by
  have h' : (match g.C a with | some (.own i) => some (.own i) | _ => g'.C a) = some t := h
  split at h'
  · rename_i i e
    cases h'
    exact .inl ⟨i, e, rfl⟩
  · rename_i ne
    exact .inr ⟨fun i z => ne i z, h'⟩
theorem Gh.back_to {a : Addr} {t : Tag} (hn : ∀ i, g.C a ≠ some (.own i)) (h : g'.C a = some t) : (g.back g').C a = some t := by
  show (match g.C a with | some (.own i) => some (.own i) | _ => g'.C a) = some t
  split
  · rename_i i e
    exact absurd e (hn i)
  · exact h
theorem Gh.back_own {a : Addr} {i : Nat} (h : g.C a = some (.own i)) : (g.back g').C a = some (.own i) := by
  show (match g.C a with | some (.own i) => some (.own i) | _ => g'.C a) = some (.own i)
  rw [h]
/-- behind a call -/
theorem Rel.leave (R : Rel K H0 g0 σ H st g) (C : Rel K H g.noOwn [] H' ⟨[], gs⟩ g') : Rel K H0 g0 σ H' { st with gs := gs } (g.back g') ∧ Le g (g.back g') ∧ Lt g (g.back g') ∧ Le g' (g.back g') := by
  have notOwn : ∀ {a t}, g'.C a = some t → ∀ i, g.C a ≠ some (.own i) := fun {a t} e i z => by
    obtain ⟨o, q⟩ := R.cell z
    obtain ⟨_, w, _⟩ := C.cg a t e
    rcases w with w | w
    · rw [q] at w; cases w
    · exact (Gh.noOwn_of w).2 i (Option.some.inj ((Gh.noOwn_of w).1.symm.trans z))
  have l2 : Le g' (g.back g') := ⟨Ex.refl _, fun a t e k => Gh.back_to (notOwn e) e⟩
  have l1 : Le g (g.back g') := (g.noOwn_le.trans C.le).trans l2
  have lt1 : Lt g (g.back g') := fun a d e k => by
    have z : ∀ i, g.C a ≠ some (.own i) := fun i q => by rw [e] at q; cases q
    have w := C.lt a d (Gh.noOwn_to e fun i z => by cases z) k
    exact ⟨Gh.back_to z w.1, w.2⟩
  refine ⟨⟨C.ex, R.le.trans l1, R.lt.trans lt1, R.ng, R.h0, R.td, fun a t e => ?_, fun a o e => ?_, fun a o e c => ?_, fun i en e => ?_, fun n d e => ?_, fun a b n e1 e2 => ?_, R.len⟩, l1, lt1, l2⟩
  · rcases Gh.back_of e with ⟨i, e1, rfl⟩ | ⟨ne, e1⟩
    · obtain ⟨q1, q2, d, ho, w0, w2, w1, r⟩ := R.cg a _ e1
      refine ⟨?_, q2, d, ho, w0, w2, C.fr a ho w1 ?_, r.mono l1⟩
      · cases q : g'.G a with
        | none => exact q
        | some o =>
          rcases C.gf a o q with z | z
          · have z' : g.G a = some o := z
            rw [q1] at z'; cases z'
          · rw [w1] at z; cases z
      · cases q : g.noOwn.C a with
        | none => rfl
        | some t => exact absurd e1 (by rw [(Gh.noOwn_of q).1]; exact fun z => (Gh.noOwn_of q).2 i (Option.some.inj z))
    · obtain ⟨q1, q2, q3⟩ := C.cg a t e1
      refine ⟨q1, ?_, ?_⟩
      · rcases q2 with z | z
        · exact .inl (R.fresh z)
        · exact (R.cg a t (Gh.noOwn_of z).1).2.1
      · cases t with
        | box => exact q3
        | mu n =>
          obtain ⟨d, o, w0, w1, r⟩ := q3
          exact ⟨d, o, w0, w1, r.mono l2⟩
        | own i =>
          obtain ⟨d, o, w0, w2, _⟩ := q3
          simp at w0
        | tmp =>
          obtain ⟨d, o, w0, w1, r⟩ := q3
          exact ⟨d, o, w0, w1, r.mono l2⟩
  · rcases C.gf a o e with z | z
    · exact R.gf a o z
    · exact .inr (R.fresh z)
  · have h := R.fr a o e c
    refine C.fr a o h ?_
    cases q : g.noOwn.C a with
    | none => rfl
    | some t =>
      rcases (R.cg a t (Gh.noOwn_of q).1).2.1 with z | z
      · rw [e] at z; cases z
      · rw [c] at z; cases z
  · have q := R.sl i en e
    cases en with
    | sh d =>
      obtain ⟨v, e1, r⟩ := q
      exact ⟨v, e1, r.mono l1⟩
    | ow d =>
      obtain ⟨a, q⟩ := q
      exact ⟨a, Gh.back_own q⟩
    | lc k => exact q
  · obtain ⟨a, q⟩ := C.mu n d e
    exact ⟨a, l2.cs a _ q rfl⟩
  · rcases Gh.back_of e1 with ⟨i, _, z⟩ | ⟨_, z1⟩
    · cases z
    · rcases Gh.back_of e2 with ⟨i, _, z⟩ | ⟨_, z2⟩
      · cases z
      · exact C.inj a b n z1 z2
theorem HasR.leave (R : Rel K H0 g0 σ H st g) (C : Rel K H g.noOwn [] H' ⟨[], gs⟩ g') {en : En} (h : HasR K H [] H' g' v en) (l : Le g' (g.back g')) : HasR K H0 σ H' (g.back g') v en := by
  cases en with
  | sh d => exact Has.mono l h
  | lc i =>
    have h' : ([] : L2.St)[i]? = some (some v) := h
    simp at h'
  | ow d =>
    obtain ⟨p, ho, rfl, e, c, h1, h2, h3⟩ := h
    refine ⟨p, ho, rfl, e, c.mono l, h1, ?_, R.fresh h3⟩
    cases q : (g.back g').C p with
    | none => rfl
    | some t =>
      rcases Gh.back_of q with ⟨i, z, _⟩ | ⟨_, z⟩
      · obtain ⟨o, w⟩ := R.cell z
        rw [h3] at w; cases w
      · rw [h2] at z; cases z
/-- what the body of a def begins with -/
def initS (n : Nat) (ds : List D) : List (Option En) := ds.map (fun d => some (.sh d)) ++ List.replicate (n - ds.length) none
theorem Rel.begin (R : Rel K H g [] H ⟨[], gs⟩ g) {N : List Str} {vs : List V} {ds : List D} (hl : HasL K g vs ds) : Rel K H g (start N vs) H ⟨initS N.length ds, gs⟩ g where
  ex := R.ex
  le := R.le
  lt := R.lt
  ng := R.ng
  h0 := R.h0
  td := R.td
  cg := fun a t e => by
    obtain ⟨q1, q2, q3⟩ := R.cg a t e
    refine ⟨q1, q2, ?_⟩
    cases t with
    | box => exact q3
    | mu n => exact q3
    | own i => exact absurd e (R.ng a i)
    | tmp => exact q3
  gf := R.gf
  fr := R.fr
  sl := fun i en e => by
    have e' : (ds.map (fun d => some (En.sh d)) ++ List.replicate (N.length - ds.length) none)[i]? = some (some en) := e
    by_cases hi : i < ds.length
    · rw [List.getElem?_append_left (by rw [List.length_map]; exact hi), List.getElem?_map] at e'
      obtain ⟨d, hd⟩ : ∃ d, ds[i]? = some d := ⟨ds[i], List.getElem?_eq_getElem hi⟩
      rw [hd] at e'
      cases e'
      obtain ⟨v, hv, r⟩ := hl.get hd
      refine ⟨v, ?_, r⟩
      show (vs.map some ++ List.replicate (N.length - vs.length) none)[i]? = some (some v)
      rw [List.getElem?_append_left (by rw [List.length_map, hl.length]; exact hi), List.getElem?_map, hv]
      rfl
    · rw [List.getElem?_append_right (by rw [List.length_map]; omega), List.getElem?_replicate] at e'
      split at e' <;> cases e'
  mu := R.mu
  inj := R.inj
  len := by
    show (ds.map (fun d => some (En.sh d)) ++ List.replicate (N.length - ds.length) none).length = (vs.map some ++ List.replicate (N.length - vs.length) none).length
    simp [hl.length]
/-- what a def hands back -/
def dBack (en : En) (st : DSt) (k : En → Prop) : Prop :=
  match en with
  | .sh d => k (.sh d)
  | .ow d => k (.ow d)
  | .lc i => match st.sl[i]? with
    | some (some (.ow d)) => k (.ow d)
    | some (some (.sh d)) => k (.sh d)
    | _ => False
/-- at the end of a def: its slots are gone -/
theorem Rel.finish (R : Rel K H0 g0 σ H st g) : Rel K H0 g0 [] H ⟨[], st.gs⟩ g.noOwn where
  ex := R.ex
  le := R.le.trans g.noOwn_le
  lt := R.lt.trans g.noOwn_lt
  ng := R.ng
  h0 := R.h0
  td := R.td
  cg := fun a t e => by
    obtain ⟨e1, ne⟩ := Gh.noOwn_of e
    obtain ⟨q1, q2, q3⟩ := R.cg a t e1
    refine ⟨q1, q2, ?_⟩
    cases t with
    | box => exact q3
    | mu n =>
      obtain ⟨d, o, w0, w1, r⟩ := q3
      exact ⟨d, o, w0, w1, r.mono g.noOwn_le⟩
    | own i => exact absurd rfl (ne i)
    | tmp =>
      obtain ⟨d, o, w0, w1, r⟩ := q3
      exact ⟨d, o, w0, w1, r.mono g.noOwn_le⟩
  gf := R.gf
  fr := R.fr
  sl := fun i en e => by simp at e
  mu := fun n d e => by
    obtain ⟨a, q⟩ := R.mu n d e
    exact ⟨a, g.noOwn_le.cs a _ q rfl⟩
  inj := fun a b n e1 e2 => R.inj a b n (Gh.noOwn_of e1).1 (Gh.noOwn_of e2).1
  len := rfl
theorem HasR.finish (R : Rel K H0 g0 σ H st g) {en : En} (h : HasR K H0 σ H g v en) {k : En → Prop} (b : dBack en st k) : ∃ en', HasR K H0 [] H g.noOwn v en' ∧ k en' := by
  have moved : ∀ {i : Nat} {d : D}, st.sl[i]? = some (some (En.ow d)) → σ[i]? = some (some v) → HasR K H0 [] H g.noOwn v (.ow d) := fun {i d} e hv => by
    obtain ⟨a, ho, ea, es, eh, c, hg, hz⟩ := R.own e
    rw [es] at hv; cases hv
    refine ⟨a, ho, rfl, eh, c.mono g.noOwn_le, hg, ?_, hz⟩
    show (match g.C a with | some (.own _) => none | t => t) = none
    rw [ea]
  cases en with
  | sh d => exact ⟨.sh d, Has.mono g.noOwn_le h, b⟩
  | ow d =>
    obtain ⟨p, ho, rfl, e, c, h1, h2, h3⟩ := h
    refine ⟨.ow d, ⟨p, ho, rfl, e, c.mono g.noOwn_le, h1, ?_, h3⟩, b⟩
    show (match g.C p with | some (.own _) => none | t => t) = none
    rw [h2]
  | lc i =>
    have h' : σ[i]? = some (some v) := h
    unfold dBack at b
    dsimp only at b
    split at b
    · rename_i d e
      exact ⟨.ow d, moved e h', b⟩
    · rename_i d e
      obtain ⟨v', e', c⟩ := R.shd e
      rw [h'] at e'; cases e'
      exact ⟨.sh d, c.mono g.noOwn_le, b⟩
    · exact b.elim
end

/-! ### a def keeps its promise -/
theorem Fun.okD {P : Program} {w : World} {K : PySem.W.Frag} {mg : Str → Option Value} {base : Heap} {x qual : Str} {st : Stmt} {f : Addr} {fd : FuncData} {N ps : List Str} {k : Nat} {S : DSpec} {d : DS} (F : Fun K x qual st f fd) (sc : FnScope N ps (defScope st))
    (body : ∀ (cdv : Value) (A : Around) (outer : List Env) (s : Shared) (H : Hp) (E : XK), Room k (A.deeper (envOfC qual (defScope st) s.heap.objs.size f cdv)) →
      ∃ t, QSs (cxOf (L2.CX P w) P w K mg base N qual (defScope st) f cdv A outer s H E) (defBody st) t d)
    (vc : ∀ ds gs Q2 E2, ds.length = ps.length → S ds gs Q2 E2 → d { nx := fun st => Q2 (.sh .non) st.gs, rt := fun en st => dBack en st fun en' => Q2 en' st.gs, ex := fun ex st => E2 ex st.gs } ⟨initS N.length ds, gs⟩) :
    FnOk P w K mg base (L2.CX P w) (k + 1) f fd ps (spOf K ps.length S) := by
  refine F.okX sc (fun vs H Q E h => spOf_len h) (fun cdv A outer s H vs Q E hr h => ?_)
  obtain ⟨t, q⟩ := body cdv A outer s H E hr
  obtain ⟨g, ds, gs, Q2, E2, R, hl, el, hs, kq, ke⟩ := h
  refine ⟨t (fun cls d _ H => E cls d H), q.ps _ (takes_of rfl rfl rfl rfl), ?_⟩
  refine q.sim H g _ (start N vs) H _ g _ _ (R.begin (N := N) hl) (vc ds gs Q2 E2 el hs) (fun σ' H' st' g' R' l' q' => ?_) (fun v σ' H' st' g' en R' l' r' q' => ?_) (fun _ _ _ _ _ _ z => z.elim) (fun _ _ _ _ _ _ z => z.elim) (fun ex cls dx σ' H' st' g' R' l' e' q' => ?_)
  · exact kq _ H' g'.noOwn st'.gs (.sh .non) R'.finish (l'.trans g'.noOwn_le) Has.non q'
  · obtain ⟨en', r2, q2⟩ := HasR.finish R' r' (show dBack en st' (fun en' => Q2 en' st'.gs) from q')
    exact kq v H' g'.noOwn st'.gs en' R'.finish (l'.trans g'.noOwn_le) r2 q2
  · obtain ⟨e1, d, fs, e2, e3, e4⟩ := e'
    refine ke ex cls dx H' g'.noOwn st'.gs R'.finish (l'.trans g'.noOwn_le) ⟨e1, d, fs, e2, e3, e4.mono g'.noOwn_le⟩ q'

/-! ### a def is called -/
def dFrzL : List En → DSt → (List D → DSt → Prop) → Prop
  | [], st, k => k [] st
  | e :: es, st, k => dFrz e st fun d st1 => dFrzL es st1 fun ds st2 => k (d :: ds) st2
theorem Rel.frzL {K : PySem.W.Frag} {H0 H : Hp} {g0 : Gh} {σ : L2.St} : ∀ {vs : List V} {es : List En} {g : Gh} {st : DSt} {k : List D → DSt → Prop}, Rel K H0 g0 σ H st g → HasHL K σ g vs es → dFrzL es st k →
    ∃ g' st' ds, Rel K H0 g0 σ H st' g' ∧ Le g g' ∧ Lt g g' ∧ HasL K g' vs ds ∧ k ds st' ∧ st'.gs = st.gs
  | _, _, g, st, k, R, .nil, f => ⟨g, st, [], R, Le.refl g, Lt.refl g, .nil, f, rfl⟩
  | _, _, g, st, k, R, .cons h t, f => by
    obtain ⟨g1, st1, d, R1, l1, m1, h1, f1, e1⟩ := R.frzR (h.toR (H0 := H0) (H := H)) f
    obtain ⟨g2, st2, ds, R2, l2, m2, h2, f2, e2⟩ := Rel.frzL R1 (t.mono l1) f1
    exact ⟨g2, st2, d :: ds, R2, l1.trans l2, m1.trans m2, .cons _ _ _ _ (h1.mono l2) h2, f2, e2.trans e1⟩
def dCall (n : Nat) (S : DSpec) (da : DA) : DE := fun st Q E => da st (fun es st1 => dFrzL es st1 fun ds st2 => ds.length = n ∧
  S ds st2.gs (fun en gs => Q en { st2 with gs := gs }) (fun ex gs => E ex { st2 with gs := gs })) E
theorem call_sim {K : PySem.W.Frag} {H0 H : Hp} {g0 g : Gh} {σ : L2.St} {st : DSt} {n : Nat} {S : DSpec} {vs : List V} {es : List En} {W : WX} {Q2 : En → DSt → Prop} {E2 : DX} {Q : VK} (R : Rel K H0 g0 σ H st g) (hh : HasHL K σ g vs es)
    (f : dFrzL es st fun ds st2 => ds.length = n ∧ S ds st2.gs (fun en gs => Q2 en { st2 with gs := gs }) (fun ex gs => E2 ex { st2 with gs := gs }))
    (k : ∀ v H' st' g' en, Rel K H0 g0 σ H' st' g' → Le g g' → Lt g g' → HasR K H0 σ H' g' v en → Q2 en st' → Q v H') (kx : PostX K H0 g0 g E2 W) : spOf K n S vs H Q (WE W σ) := by
  obtain ⟨g1, st1, ds, R1, l1, m1, h1, ⟨e1, f1⟩, _⟩ := R.frzL hh f
  refine ⟨g1.noOwn, ds, st1.gs, _, _, R1.enter, h1.mono g1.noOwn_le, e1, f1, fun v H' g' gs' en C l' r q => ?_, fun ex cls dx H' g' gs' C l' e q => ?_⟩
  · obtain ⟨R2, a1, a2, a3⟩ := R1.leave C
    exact k v H' _ _ en R2 (l1.trans a1) (m1.trans a2) (HasR.leave R1 C r a3) q
  · obtain ⟨R2, a1, a2, a3⟩ := R1.leave C
    obtain ⟨w1, d, fs, w2, w3, w4⟩ := e
    refine kx ex cls dx σ H' _ _ R2 (l1.trans a1) ⟨w1, d, fs, w2, w3, w4.mono a3⟩ q
section
variable {X : Cx} {k n : Nat} {f : Addr} {fd : FuncData} {ps ks : List Str} {S : DSpec} {x : Str} {p pos : Pos} {e : Expr} {es : List Expr} {ta tk : WX → TA} {da dk : DA}
theorem q_call (F : FnOk X.prog X.w X.K X.mg X.base (L2.CX X.prog X.w) k f fd ps (spOf X.K n S)) (hr : Room k X.A) (hg : Gl X x) (hm : X.mg x = some (.ref f)) (hk : PySem.W.keepIn X.K (.ref f) = true) (hb : Binds X.K fd ps [])
    (ha : QA X (e :: es) ta da) (hdb : (x == ("__debug__" : Str)) = false := by decide) (he : starEach (e :: es) X.env = (false, eval e X.env) :: starEach es X.env := by rfl) (hpl : (backTo pos (starEach es X.env)).any (·.1) = false := by rfl) :
    QE X (.Call (.Name x p) (e :: es) [] pos) (fun W => tCallS (spOf X.K n S) (WE W) (ta W)) (dCall n S da) := by
  refine ⟨fun W tk => pe_callS F hr hg hm hk hb (fun σ => passAt tk σ) (ha.pa W tk) hdb he hpl, ?_⟩
  intro H0 g0 W σ H st g Q2 E2 Q R q k kx
  refine ha.sim H0 g0 W σ H st g _ E2 _ R q (fun vs H1 st1 g1 es R1 l1 m1 r1 q1 => ?_) kx
  exact call_sim R1 r1 q1 (fun v H' st' g' en R' l' m' r' q' => k v H' st' g' en R' (l1.trans l') (m1.trans m') r' q') (kx.mono l1)
end
end VL

set_option Elab.async false
set_option linter.all false
set_option maxRecDepth 100000
set_option maxHeartbeats 4000000
namespace VL
open PySem PySem.Spec PyProof.Rows L2

section
variable {K : PySem.W.Frag} {g : Gh} {H : Hp} {v : V}
/-! ### what is read -/
theorem Rdd.int {i : Int} (h : Rdd K g H v (.int i)) : v = .int i := by
  rcases h with h | ⟨a, ho, _, _, c⟩
  · cases h with
    | obj a ho d h c => cases c
    | int i => rfl
  · cases c
theorem Rdd.bl {b : Bool} (h : Rdd K g H v (.bl b)) : v = .bl b := by
  rcases h with h | ⟨a, ho, _, _, c⟩
  · exact has_bl h
  · cases c
theorem Rdd.non (h : Rdd K g H v .non) : v = .non := by
  rcases h with h | ⟨a, ho, _, _, c⟩
  · cases h with
    | obj a ho d h c => cases c
    | non => rfl
  · cases c
theorem Rdd.str {x : Str} (h : Rdd K g H v (.str x)) : v = .str x ∧ StrOk x := by
  rcases h with h | ⟨a, ho, _, _, c⟩
  · cases h with
    | obj a ho d h c => cases c
    | str x z => exact ⟨rfl, z⟩
  · cases c
theorem Rdd.lst {ds : List D} (e : Ex g.G H) (h : Rdd K g H v (.lst ds)) : ∃ a vs, v = .ref a ∧ H a = some (.lst vs) ∧ HasL K g vs ds ∧ ds.length ≤ sizeLine := by
  rcases h with h | ⟨a, ho, rfl, h, c⟩
  · cases h with
    | obj a ho d h c =>
      cases c with
      | lst vs ds c z => exact ⟨a, vs, rfl, e a _ h, c, z⟩
  · cases c with
    | lst vs ds c z => exact ⟨a, vs, rfl, h, c, z⟩
theorem Rdd.tup {ds : List D} (e : Ex g.G H) (h : Rdd K g H v (.tup ds)) : ∃ a vs, v = .ref a ∧ SqT K H a vs ∧ HasL K g vs ds ∧ ds.length ≤ sizeLine ∧ Has K g v (.tup ds) := by
  rcases h with h | ⟨a, ho, rfl, h, c⟩
  · have h' := h
    cases h with
    | obj a ho d h c => cases c
    | tup a vs ds h c z => exact ⟨a, vs, rfl, e.sqT h, c, z, h'⟩
  · cases c
theorem Rdd.scr {ns : List Int} (e : Ex g.G H) (h : Rdd K g H v (.scr ns)) : ∃ a, v = .ref a ∧ SqL K H a (ns.map V.int) ∧ ns.length ≤ 63 := by
  rcases h with h | ⟨a, ho, rfl, h, c⟩
  · cases h with
    | obj a ho d h c => cases c
    | scr a ns h z => exact ⟨a, rfl, e.sqL h, z⟩
  · cases c
theorem HasL.int : ∀ {vs : List V} {ns : List Int}, HasL K g vs (ns.map D.int) → vs = ns.map V.int
  | _, [], .nil => rfl
  | _, n :: ns, .cons v _ vs _ h t => by
    have e := Rdd.int (K := K) (g := g) (H := fun _ => none) (.inl h)
    rw [e, HasL.int t]; rfl
theorem HasL.bl : ∀ {vs : List V} {ns : List Bool}, HasL K g vs (ns.map D.bl) → vs = ns.map V.bl
  | _, [], .nil => rfl
  | _, n :: ns, .cons v _ vs _ h t => by
    have e := has_bl h
    rw [e, HasL.bl t]; rfl
theorem HasL.str : ∀ {vs : List V} {ns : List Str}, HasL K g vs (ns.map D.str) → vs = ns.map V.str ∧ ∀ x ∈ ns, StrOk x
  | _, [], .nil => ⟨rfl, fun _ h => by cases h⟩
  | _, n :: ns, .cons v _ vs _ h t => by
    have e := Rdd.str (K := K) (g := g) (H := fun _ => none) (.inl h)
    obtain ⟨e1, e2⟩ := HasL.str t
    refine ⟨by rw [e.1, e1]; rfl, fun x hx => ?_⟩
    rcases List.mem_cons.mp hx with rfl | hx
    · exact e.2
    · exact e2 x hx
theorem hasL_ints (ns : List Int) : HasL K g (ns.map V.int) (ns.map D.int) := by
  induction ns with
  | nil => exact .nil
  | cons n ns ih => exact .cons _ _ _ _ (.int n) ih
theorem hasL_strs {xs : List Str} (h : ∀ x ∈ xs, StrOk x) : HasL K g (xs.map V.str) (xs.map D.str) := by
  induction xs with
  | nil => exact .nil
  | cons n ns ih => exact .cons _ _ _ _ (.str n (h n (List.mem_cons_self))) (ih fun x hx => h x (List.mem_cons_of_mem _ hx))
end

/-! ### new things in hand -/
section
variable {K : PySem.W.Frag} {H0 H : Hp} {g0 g : Gh} {σ : L2.St} {st : DSt}
/-- a new thing, in hand -/
theorem Rel.newR (R : Rel K H0 g0 σ H st g) {p : Addr} {ho : HO} {d : D} (hp : H p = none) (c : Con K g ho d) : Rel K H0 g0 σ (upd H p ho) st g ∧ HasR K H0 σ (upd H p ho) g (.ref p) (.ow d) :=
  ⟨R.temp hp, p, ho, rfl, upd_same, c, R.noG hp, R.noC hp, R.fresh hp⟩
/-- a new tuple -/
theorem Rel.newT (R : Rel K H0 g0 σ H st g) {p : Addr} {vs : List V} {ds : List D} (hp : H p = none) (c : HasL K g vs ds) (z : ds.length ≤ sizeLine) : ∃ g', Rel K H0 g0 σ (upd H p (.tup vs)) st g' ∧ Le g g' ∧ Lt g g' ∧ Has K g' (.ref p) (.tup ds) := by
  have l : Le g { g with G := upd g.G p (.tup vs) } := le_frz (R.noG hp)
  exact ⟨_, (R.temp hp).frz upd_same (R.noG hp) (R.noC hp) (R.fresh hp), l, lt_frz, .tup p vs ds (SqT.of (show upd g.G p (.tup vs) p = _ from upd_same)) (c.mono l) z⟩
end

/-! ### operators -/
abbrev DOp := D → D → (En → Prop) → Prop
section
variable {K : PySem.W.Frag}
/-- a rule on two ints -/
theorem so_I {C : Int → Int → Prop} {f : Int → Int → Int} {op : DOp} (ho : ∀ x y Q, op x y Q → ∃ i j, x = .int i ∧ y = .int j ∧ C i j ∧ Q (.sh (.int (f i j)))) : SimOp K (rI C fun i j => .int (f i j)) op := by
  intro H0 g0 σ H st g x y dx dy Q2 Q R rx ry h k
  obtain ⟨i, j, rfl, rfl, c, q⟩ := ho _ _ _ h
  exact ⟨i, j, rx.int, ry.int, c, k _ H g (.sh (.int (f i j))) R (Le.refl g) (Lt.refl g) (Has.int _) q⟩
theorem so_I0 {f : Int → Int → Int} {op : DOp} (ho : ∀ x y Q, op x y Q → ∃ i j, x = .int i ∧ y = .int j ∧ Q (.sh (.int (f i j)))) : SimOp K (rI0 fun i j => .int (f i j)) op := by
  intro H0 g0 σ H st g x y dx dy Q2 Q R rx ry h k
  obtain ⟨i, j, rfl, rfl, q⟩ := ho _ _ _ h
  exact ⟨i, j, rx.int, ry.int, k _ H g (.sh (.int (f i j))) R (Le.refl g) (Lt.refl g) (Has.int _) q⟩
theorem so_B0 {f : Int → Int → Bool} {op : DOp} (ho : ∀ x y Q, op x y Q → ∃ i j, x = .int i ∧ y = .int j ∧ Q (.sh (.bl (f i j)))) : SimOp K (rI0 fun i j => .bl (f i j)) op := by
  intro H0 g0 σ H st g x y dx dy Q2 Q R rx ry h k
  obtain ⟨i, j, rfl, rfl, q⟩ := ho _ _ _ h
  exact ⟨i, j, rx.int, ry.int, k _ H g (.sh (.bl (f i j))) R (Le.refl g) (Lt.refl g) (Has.bl _) q⟩
end

theorem strOk_append {a b : Str} (h1 : PyData.strOk a = true) (h2 : PyData.strOk b = true) : PyData.strOk (a ++ b) = true := by
  have e : (a ++ b).cps = a.cps ++ b.cps := rfl
  unfold PyData.strOk at *
  rw [e, Array.all_append, h1, h2]; rfl
theorem str_len_append (a b : Str) : (a ++ b).length = a.length + b.length := by
  have e : (a ++ b).cps = a.cps ++ b.cps := rfl
  unfold Str.length
  rw [e, Array.size_append]


def dopAdd : DOp := fun x y Q => match x, y with
  | .int i, .int j => Q (.sh (.int (i + j)))
  | .str a, .str b => a.length + b.length ≤ sizeLine ∧ Q (.sh (.str (a ++ b)))
  | .tup xs, .tup ys => xs.length + ys.length ≤ sizeLine ∧ Q (.sh (.tup (xs ++ ys)))
  | .lst xs, .lst ys => xs.length + ys.length ≤ sizeLine ∧ Q (.ow (.lst (xs ++ ys)))
  | _, _ => False
def rAddU (K : PySem.W.Frag) : R2 := fun x y H Q => rI0 (fun i j => .int (i + j)) x y H Q ∨ (∃ i j, x = .str i ∧ y = .str j ∧ i.length + j.length ≤ sizeLine ∧ Q (.str (i ++ j)) H) ∨ rCatA K x y H Q ∨ rCat x y H Q
theorem op_addU {X : Cx} : OpR X (binaryOp .Add) (rAddU X.K) := op_add.or (op_add_str.or (op_catA.or op_cat))
theorem nil_of {K : PySem.W.Frag} {g : Gh} {vs : List V} {ds : List D} (h : HasL K g vs ds) : vs = [] ↔ ds = [] := by
  cases h with
  | nil => simp
  | cons => simp
theorem so_add {K : PySem.W.Frag} : SimOp K (rAddU K) dopAdd := by
  intro H0 g0 σ H st g x y dx dy Q2 Q R rx ry h k
  unfold dopAdd at h
  split at h
  · exact .inl ⟨_, _, rx.int, ry.int, k _ H g (.sh (.int _)) R (Le.refl g) (Lt.refl g) (Has.int _) h⟩
  · rename_i a b
    obtain ⟨ea, ha⟩ := rx.str
    obtain ⟨eb, hb⟩ := ry.str
    refine .inr (.inl ⟨a, b, ea, eb, h.1, k _ H g (.sh (.str _)) R (Le.refl g) (Lt.refl g) (Has.str _ ⟨?_, strOk_append ha.2 hb.2⟩) h.2⟩)
    rw [str_len_append]; exact h.1
  · rename_i xs ys
    obtain ⟨a, vs, rfl, ta, ha, za, wa⟩ := rx.tup R.ex
    obtain ⟨b, ws, rfl, tb, hb, zb, wb⟩ := ry.tup R.ex
    refine .inr (.inr (.inl ⟨a, b, vs, ws, rfl, rfl, ta, tb, ?_, fun e => ?_, fun _ e => ?_, fun ne ne2 p hp => ?_⟩))
    · rw [ha.length, hb.length]; exact h.1
    · have := (nil_of ha).mp e
      subst this
      exact k _ H g (.sh (.tup ys)) R (Le.refl g) (Lt.refl g) wb h.2
    · have := (nil_of hb).mp e
      subst this
      have h2 := h.2
      rw [List.append_nil] at h2
      exact k _ H g (.sh (.tup xs)) R (Le.refl g) (Lt.refl g) wa h2
    · obtain ⟨g', R', l, m, hh⟩ := R.newT hp (ha.append hb) (by rw [List.length_append]; exact h.1)
      exact k _ _ g' (.sh (.tup (xs ++ ys))) R' l m hh h.2
  · rename_i xs ys
    obtain ⟨a, vs, rfl, ta, ha, za⟩ := rx.lst R.ex
    obtain ⟨b, ws, rfl, tb, hb, zb⟩ := ry.lst R.ex
    refine .inr (.inr (.inr ⟨a, b, vs, ws, rfl, rfl, ta, tb, ?_, fun p hp => ?_⟩))
    · rw [ha.length, hb.length]; exact h.1
    · obtain ⟨R', r⟩ := R.newR hp (Con.lst _ _ (ha.append hb) (by rw [List.length_append]; exact h.1))
      exact k _ _ g (.ow (.lst (xs ++ ys))) R' (Le.refl g) (Lt.refl g) r h.2
  · exact h.elim
/-! ### numbers -/
def dopI (C : Int → Int → Prop) (f : Int → Int → Int) : DOp := fun x y Q => match x, y with
  | .int i, .int j => C i j ∧ Q (.sh (.int (f i j)))
  | _, _ => False
def dopI0 (f : Int → Int → Int) : DOp := fun x y Q => match x, y with
  | .int i, .int j => Q (.sh (.int (f i j)))
  | _, _ => False
def dopB0 (f : Int → Int → Bool) : DOp := fun x y Q => match x, y with
  | .int i, .int j => Q (.sh (.bl (f i j)))
  | _, _ => False
theorem so_dI {K : PySem.W.Frag} {C : Int → Int → Prop} {f : Int → Int → Int} : SimOp K (rI C fun i j => .int (f i j)) (dopI C f) := so_I fun x y Q h => by
  unfold dopI at h
  split at h
  · exact ⟨_, _, rfl, rfl, h.1, h.2⟩
  · exact h.elim
theorem so_dI0 {K : PySem.W.Frag} {f : Int → Int → Int} : SimOp K (rI0 fun i j => .int (f i j)) (dopI0 f) := so_I0 fun x y Q h => by
  unfold dopI0 at h
  split at h
  · exact ⟨_, _, rfl, rfl, h⟩
  · exact h.elim
theorem so_dB0 {K : PySem.W.Frag} {f : Int → Int → Bool} : SimOp K (rI0 fun i j => .bl (f i j)) (dopB0 f) := so_B0 fun x y Q h => by
  unfold dopB0 at h
  split at h
  · exact ⟨_, _, rfl, rfl, h⟩
  · exact h.elim
abbrev dopSub : DOp := dopI0 fun i j => i - j
abbrev dopMul : DOp := dopI CMulW fun i j => i * j
abbrev dopDiv : DOp := dopI CDiv fun i j => i / j
abbrev dopMod : DOp := dopI (fun _ j => 0 < j) fun i j => i % j
abbrev dopLt : DOp := dopB0 fun i j => decide (i < j)
abbrev dopLe : DOp := dopB0 fun i j => decide (i ≤ j)
abbrev dopGt : DOp := dopB0 fun i j => decide (j < i)
abbrev dopGe : DOp := dopB0 fun i j => decide (j ≤ i)
/-! ### equality -/
mutual
def D.py : D → PyData
  | .non => .none
  | .bl b => .bool b
  | .int i => .int i
  | .str x => .str x
  | .tup xs => .tuple (pyL xs)
  | .lst xs => .list (pyL xs)
  | _ => .dict []
def pyL : List D → List PyData
  | [] => []
  | d :: ds => d.py :: pyL ds
end
mutual
/-- plain data of depth at most n -/
def D.plain : Nat → D → Bool
  | _, .non => true
  | _, .bl _ => true
  | _, .int _ => true
  | _, .str _ => true
  | 0, _ => false
  | n + 1, .tup xs => plainL n xs
  | n + 1, .lst xs => plainL n xs
  | _ + 1, _ => false
def plainL : Nat → List D → Bool
  | _, [] => true
  | n, d :: ds => d.plain n && plainL n ds
end
theorem plainL_all (n : Nat) (ds : List D) : plainL n ds = ds.all (·.plain n) := by
  induction ds with
  | nil => simp [plainL]
  | cons d ds ih => rw [plainL, List.all_cons, ih]
section
variable {K : PySem.W.Frag} {g : Gh} {H : Hp}
mutual
theorem Has.dp (e : Ex g.G H) : ∀ {n : Nat} {v : V} {d : D}, Has K g v d → d.plain n = true → Dp K H v d.py ∧ PyData.canLay0 d.py = true ∧ PyData.depth d.py ≤ n
  | n, _, _, .non, _ => by simp only [D.py]; exact ⟨.non, by decide, by simp [PyData.depth]⟩
  | n, _, _, .bl b, _ => by simp only [D.py]; exact ⟨.bl b, by simp [PyData.canLay0], by simp [PyData.depth]⟩
  | n, _, _, .int i, _ => by simp only [D.py]; exact ⟨.int i, by simp [PyData.canLay0], by simp [PyData.depth]⟩
  | n, _, _, .str x h, _ => by simp only [D.py]; exact ⟨.str x, by simp [PyData.canLay0, h.2], by simp [PyData.depth]⟩
  | 0, _, _, .obj a ho d h c, p => by
    cases c with
    | lst vs ds c z => simp [D.plain] at p
  | n + 1, _, _, .obj a ho d h c, p => by
    cases c with
    | lst vs ds c z =>
      simp only [D.plain] at p
      obtain ⟨q1, q2, q3⟩ := HasL.dp e c p
      simp only [D.py]
      exact ⟨.lst (SqL.of (e a _ h)) q1, by simp only [PyData.canLay0]; exact q2, by simp only [PyData.depth]; omega⟩
  | 0, _, _, .tup a vs ds h c z, p => by simp [D.plain] at p
  | n + 1, _, _, .tup a vs ds h c z, p => by
    simp only [D.plain] at p
    obtain ⟨q1, q2, q3⟩ := HasL.dp e c p
    simp only [D.py]
    exact ⟨.tup (e.sqT h) q1, by simp only [PyData.canLay0]; exact q2, by simp only [PyData.depth]; omega⟩
  | n, _, _, .scr a ns h z, p => by cases n <;> simp [D.plain] at p
  | n, _, _, .box a h, p => by cases n <;> simp [D.plain] at p
  | n, _, _, .mref a k h, p => by cases n <;> simp [D.plain] at p
theorem HasL.dp (e : Ex g.G H) : ∀ {n : Nat} {vs : List V} {ds : List D}, HasL K g vs ds → plainL n ds = true → DpAll K H vs (pyL ds) ∧ PyData.canLayAll0 (pyL ds) = true ∧ PyData.depthAll (pyL ds) ≤ n
  | n, _, _, .nil, _ => by simp only [pyL]; exact ⟨.nil, by simp [PyData.canLayAll0], by simp [PyData.depthAll]⟩
  | n, _, _, .cons v d vs ds h t, p => by
    rw [plainL, Bool.and_eq_true] at p
    obtain ⟨a1, a2, a3⟩ := Has.dp e h p.1
    obtain ⟨b1, b2, b3⟩ := HasL.dp e t p.2
    simp only [pyL]
    exact ⟨.cons a1 b1, by simp [PyData.canLayAll0, a2, b2], by simp only [PyData.depthAll]; omega⟩
end
theorem Rdd.dp (e : Ex g.G H) {n : Nat} {v : V} {d : D} (h : Rdd K g H v d) (p : d.plain n = true) : Dp K H v d.py ∧ PyData.canLay0 d.py = true ∧ PyData.depth d.py ≤ n := by
  rcases h with h | ⟨a, ho, rfl, h, c⟩
  · exact Has.dp e h p
  · cases c with
    | lst vs ds c z =>
      cases n with
      | zero => simp [D.plain] at p
      | succ n =>
        simp only [D.plain] at p
        obtain ⟨q1, q2, q3⟩ := HasL.dp e c p
        simp only [D.py]
        exact ⟨.lst (SqL.of h) q1, by simp only [PyData.canLay0]; exact q2, by simp only [PyData.depth]; omega⟩
end
def eqD (x y : D) : Bool := PyData.eqv x.py y.py
def dopEq : DOp := fun x y Q => x.plain 60 = true ∧ y.plain 60 = true ∧ Q (.sh (.bl (eqD x y)))
def dopNe : DOp := fun x y Q => x.plain 60 = true ∧ y.plain 60 = true ∧ Q (.sh (.bl (!eqD x y)))
theorem shaped_of {d : PyData} (h1 : PyData.canLay0 d = true) (h2 : PyData.depth d ≤ 60) : SeqAt.shaped d = true := by
  unfold SeqAt.shaped
  rw [h1, Bool.true_and]
  exact decide_eq_true (by omega)
theorem so_eq {K : PySem.W.Frag} : SimOp K (rEqD K) dopEq := by
  intro H0 g0 σ H st g x y dx dy Q2 Q R rx ry h k
  obtain ⟨p1, p2, q⟩ := h
  obtain ⟨a1, a2, a3⟩ := rx.dp R.ex p1
  obtain ⟨b1, b2, b3⟩ := ry.dp R.ex p2
  exact ⟨_, _, a1, b1, shaped_of a2 a3, shaped_of b2 b3, k _ H g (.sh (.bl (eqD dx dy))) R (Le.refl g) (Lt.refl g) (Has.bl _) q⟩
theorem so_ne {K : PySem.W.Frag} : SimOp K (rNeD K) dopNe := by
  intro H0 g0 σ H st g x y dx dy Q2 Q R rx ry h k
  obtain ⟨p1, p2, q⟩ := h
  obtain ⟨a1, a2, a3⟩ := rx.dp R.ex p1
  obtain ⟨b1, b2, b3⟩ := ry.dp R.ex p2
  exact ⟨_, _, a1, b1, shaped_of a2 a3, shaped_of b2 b3, k _ H g (.sh (.bl (!eqD dx dy))) R (Le.refl g) (Lt.refl g) (Has.bl _) q⟩
/-! ### in -/
def rInU (K : PySem.W.Frag) : R2 := fun x y H Q => rIn K false x y H Q ∨ (∃ i j, x = .str i ∧ y = .str j ∧ Q (.bl (!(Builtin.Str.occurrences j i 0 j.length 1).isEmpty)) H)
theorem op_inU {X : Cx} : OpR X (compareOp .In) (rInU X.K) := op_in_seq.or op_in_str
def rNinU (K : PySem.W.Frag) : R2 := fun x y H Q => rIn K true x y H Q ∨ (∃ i j, x = .str i ∧ y = .str j ∧ Q (.bl (!(!(Builtin.Str.occurrences j i 0 j.length 1).isEmpty))) H)
theorem op_ninU {X : Cx} : OpR X (compareOp .NotIn) (rNinU X.K) := op_notIn_seq.or op_notin_str
def D.flat : D → Bool
  | .non => true
  | .bl _ => true
  | .int _ => true
  | .str _ => true
  | _ => false
def inD (x : D) (ys : List D) : Bool := ys.any fun y => eqD y x
def inStr (i j : Str) : Bool := !(Builtin.Str.occurrences j i 0 j.length 1).isEmpty
def dopIn : DOp := fun x y Q => match x, y with
  | .str i, .str j => Q (.sh (.bl (inStr i j)))
  | x, .tup ys => x.flat = true ∧ ys.all D.flat = true ∧ Q (.sh (.bl (inD x ys)))
  | x, .lst ys => x.flat = true ∧ ys.all D.flat = true ∧ Q (.sh (.bl (inD x ys)))
  | _, _ => False
def dopNin : DOp := fun x y Q => match x, y with
  | .str i, .str j => Q (.sh (.bl (!inStr i j)))
  | x, .tup ys => x.flat = true ∧ ys.all D.flat = true ∧ Q (.sh (.bl (!inD x ys)))
  | x, .lst ys => x.flat = true ∧ ys.all D.flat = true ∧ Q (.sh (.bl (!inD x ys)))
  | _, _ => False
/-- a flat thing as a value -/
def D.v : D → V
  | .bl b => .bl b
  | .int i => .int i
  | .str x => .str x
  | _ => .non
section
variable {K : PySem.W.Frag} {g : Gh} {H : Hp}
theorem Rdd.flat {v : V} {d : D} (h : Rdd K g H v d) (f : d.flat = true) : v = d.v ∧ flatV v = true := by
  cases d with
  | non => rw [h.non]; exact ⟨rfl, rfl⟩
  | bl b => rw [h.bl]; exact ⟨rfl, rfl⟩
  | int i => rw [h.int]; exact ⟨rfl, rfl⟩
  | str x => rw [h.str.1]; exact ⟨rfl, rfl⟩
  | _ => cases f
theorem HasL.flat : ∀ {vs : List V} {ds : List D}, HasL K g vs ds → ds.all D.flat = true → vs = ds.map D.v ∧ vs.all flatV = true
  | _, _, .nil, _ => ⟨rfl, rfl⟩
  | _, _, .cons v d vs ds h t, f => by
    rw [List.all_cons, Bool.and_eq_true] at f
    obtain ⟨a1, a2⟩ := Rdd.flat (H := fun _ => none) (.inl h) f.1
    obtain ⟨b1, b2⟩ := HasL.flat t f.2
    exact ⟨by rw [List.map_cons, ← a1, ← b1], by rw [List.all_cons, a2, b2]; rfl⟩
theorem eqV_eqD {x y : D} (fx : x.flat = true) (fy : y.flat = true) : eqV x.v y.v = eqD x y := by
  cases x <;> first
    | (simp [D.flat] at fx; done)
    | (cases y <;> first
        | (simp [D.flat] at fy; done)
        | (simp [eqD, D.py, PyData.eqv, eqV, D.v]; done))
theorem inV_inD {x : D} (fx : x.flat = true) : ∀ {ys : List D}, ys.all D.flat = true → inV x.v (ys.map D.v) = inD x ys
  | [], _ => rfl
  | y :: ys, f => by
    rw [List.all_cons, Bool.and_eq_true] at f
    have ih := inV_inD fx f.2
    unfold inV inD at *
    rw [List.map_cons, List.any_cons, List.any_cons, ih, eqV_eqD f.1 fx]
end
theorem so_in {K : PySem.W.Frag} : SimOp K (rInU K) dopIn := by
  intro H0 g0 σ H st g x y dx dy Q2 Q R rx ry h k
  unfold dopIn at h
  split at h
  · exact .inr ⟨_, _, rx.str.1, ry.str.1, k _ H g (.sh (.bl _)) R (Le.refl g) (Lt.refl g) (Has.bl _) h⟩
  · rename_i ys
    obtain ⟨f1, f2, q⟩ := h
    obtain ⟨ex, fx⟩ := rx.flat f1
    obtain ⟨a, vs, rfl, ta, ha, za, _⟩ := ry.tup R.ex
    obtain ⟨ev, fv⟩ := ha.flat f2
    refine .inl ⟨a, vs, rfl, .inr ta, fx, fv, ?_⟩
    have e : inV x vs = inD dx ys := by rw [ex, ev]; exact inV_inD f1 f2
    show Q (.bl (inV x vs)) H
    rw [e]
    exact k _ H g (.sh (.bl _)) R (Le.refl g) (Lt.refl g) (Has.bl _) q
  · rename_i ys
    obtain ⟨f1, f2, q⟩ := h
    obtain ⟨ex, fx⟩ := rx.flat f1
    obtain ⟨a, vs, rfl, ta, ha, za⟩ := ry.lst R.ex
    obtain ⟨ev, fv⟩ := ha.flat f2
    refine .inl ⟨a, vs, rfl, .inl (SqL.of ta), fx, fv, ?_⟩
    have e : inV x vs = inD dx ys := by rw [ex, ev]; exact inV_inD f1 f2
    show Q (.bl (inV x vs)) H
    rw [e]
    exact k _ H g (.sh (.bl _)) R (Le.refl g) (Lt.refl g) (Has.bl _) q
  · exact h.elim
theorem so_nin {K : PySem.W.Frag} : SimOp K (rNinU K) dopNin := by
  intro H0 g0 σ H st g x y dx dy Q2 Q R rx ry h k
  unfold dopNin at h
  split at h
  · exact .inr ⟨_, _, rx.str.1, ry.str.1, k _ H g (.sh (.bl _)) R (Le.refl g) (Lt.refl g) (Has.bl _) h⟩
  · rename_i ys
    obtain ⟨f1, f2, q⟩ := h
    obtain ⟨ex, fx⟩ := rx.flat f1
    obtain ⟨a, vs, rfl, ta, ha, za, _⟩ := ry.tup R.ex
    obtain ⟨ev, fv⟩ := ha.flat f2
    refine .inl ⟨a, vs, rfl, .inr ta, fx, fv, ?_⟩
    have e : inV x vs = inD dx ys := by rw [ex, ev]; exact inV_inD f1 f2
    show Q (.bl (!inV x vs)) H
    rw [e]
    exact k _ H g (.sh (.bl _)) R (Le.refl g) (Lt.refl g) (Has.bl _) q
  · rename_i ys
    obtain ⟨f1, f2, q⟩ := h
    obtain ⟨ex, fx⟩ := rx.flat f1
    obtain ⟨a, vs, rfl, ta, ha, za⟩ := ry.lst R.ex
    obtain ⟨ev, fv⟩ := ha.flat f2
    refine .inl ⟨a, vs, rfl, .inl (SqL.of ta), fx, fv, ?_⟩
    have e : inV x vs = inD dx ys := by rw [ex, ev]; exact inV_inD f1 f2
    show Q (.bl (!inV x vs)) H
    rw [e]
    exact k _ H g (.sh (.bl _)) R (Le.refl g) (Lt.refl g) (Has.bl _) q
  · exact h.elim
/-! ### an item -/
theorem atI_hasL {K : PySem.W.Frag} {g : Gh} {vs : List V} {ds : List D} {i : Int} {d : D} (h : HasL K g vs ds) (e : atI ds i = some d) : ∃ v, atI vs i = some v ∧ Has K g v d := by
  unfold atI at *
  rw [h.length]
  cases q : ixN ds.length i with
  | none => rw [q] at e; cases e
  | some j =>
    rw [q] at e
    exact h.get e
def dopIx : DOp := fun x y Q => match x, y with
  | .lst ds, .int i => ∃ d, atI ds i = some d ∧ Q (.sh d)
  | .tup ds, .int i => ∃ d, atI ds i = some d ∧ Q (.sh d)
  | .str z, .int i => ∃ c, atI z.cps.toList i = some c ∧ Q (.sh (.str ⟨#[c]⟩))
  | .scr ns, .int i => ∃ n, atI ns i = some n ∧ Q (.sh (.int n))
  | _, _ => False
theorem strOk_at {z : Str} {i : Int} {c : Nat} (h : StrOk z) (e : atI z.cps.toList i = some c) : StrOk ⟨#[c]⟩ := by
  obtain ⟨j, _, e1, _⟩ := atI_get e
  refine ⟨(show (1 : Nat) ≤ sizeLine by decide), ?_⟩
  have h2 := h.2
  unfold PyData.strOk at *
  have h3 : z.cps.toList.all (· < 0x110000) = true := by rw [Array.all_toList]; exact h2
  have h4 := List.all_eq_true.mp h3 c (List.mem_of_getElem? e1)
  simpa using h4
theorem so_ix {K : PySem.W.Frag} : SimOp K (rIx K) dopIx := by
  intro H0 g0 σ H st g x y dx dy Q2 Q R rx ry h k
  unfold dopIx at h
  split at h
  · obtain ⟨d, e, q⟩ := h
    obtain ⟨a, vs, rfl, ta, ha, za⟩ := rx.lst R.ex
    obtain ⟨v, e', hv⟩ := atI_hasL ha e
    exact .inl ⟨a, vs, _, v, rfl, ry.int, SqL.of ta, e', k v H g (.sh d) R (Le.refl g) (Lt.refl g) hv q⟩
  · obtain ⟨d, e, q⟩ := h
    obtain ⟨a, vs, rfl, ta, ha, za, _⟩ := rx.tup R.ex
    obtain ⟨v, e', hv⟩ := atI_hasL ha e
    exact .inr (.inl ⟨a, vs, _, v, rfl, ry.int, ta, e', k v H g (.sh d) R (Le.refl g) (Lt.refl g) hv q⟩)
  · obtain ⟨c, e, q⟩ := h
    obtain ⟨ez, hz⟩ := rx.str
    exact .inr (.inr ⟨_, _, c, ez, ry.int, hz.1, e, k _ H g (.sh (.str ⟨#[c]⟩)) R (Le.refl g) (Lt.refl g) (Has.str _ (strOk_at hz e)) q⟩)
  · obtain ⟨n, e, q⟩ := h
    rename_i ns i
    obtain ⟨a, rfl, ta, _⟩ := rx.scr R.ex
    refine .inl ⟨a, ns.map V.int, i, .int n, rfl, ry.int, ta, ?_, k _ H g (.sh (.int n)) R (Le.refl g) (Lt.refl g) (Has.int n) q⟩
    unfold atI at *
    rw [List.length_map]
    cases q : ixN ns.length i with
    | none => rw [q] at e; cases e
    | some j =>
      rw [q] at e
      have e' : ns[j]? = some n := e
      show (ns.map V.int)[j]? = _
      rw [List.getElem?_map, e']; rfl
  · exact h.elim
section
variable {X : Cx} {e a b c : Expr} {pos : Pos} {ta tb tc : WX → TE} {da db dc : DE}
theorem q_ix (ha : QE X a ta da) (hb : QE X b tb db) (hs : PlainIx b) : QE X (.Subscript a b pos) (fun W => tOp (rIx X.K) (ta W) (tb W)) (dBin dopIx da db) :=
  ⟨fun W tk => pe_ix ix_seq (ha.pe W tk) (hb.pe W tk) hs, sim_bin so_ix ha.sim hb.sim⟩
/-! ### a < b < c -/
def dChain (op op' : DOp) (da db dc : DE) : DE := fun st Q E => da st (fun e1 st1 => db st1 (fun e2 st2 =>
  match view st2 e1.hold, view st2 e2.hold with
  | some x, some y => op x y fun en => ∃ k, en = .sh (.bl k) ∧ if k = true then dc st2 (fun e3 st3 => match view st3 e2.hold, view st3 e3.hold with
      | some y, some z => op' y z fun en => Q en st3
      | _, _ => False) E else Q (.sh (.bl false)) st2
  | _, _ => False) E) E
theorem sim_chain {K : PySem.W.Frag} {r r' : R2} {op op' : DOp} (so : SimOp K r op) (so' : SimOp K r' op') (ha : SimE K ta da) (hb : SimE K tb db) (hc : SimE K tc dc) : SimE K (fun W => tChain r r' (ta W) (tb W) (tc W)) (dChain op op' da db dc) := by
  intro H0 g0 W σ H st g Q2 E2 Q R h k kx
  refine ha H0 g0 W σ H st g _ E2 _ R h (fun v1 H1 st1 g1 e1 R1 l1 m1 r1 h1 => ?_) kx
  obtain ⟨g1', R1', l1', m1', hh1⟩ := R1.hold r1
  refine hb H0 g0 W σ H1 st1 g1' _ E2 _ R1' h1 (fun v2 H2 st2 g2 e2 R2 l2 m2 r2 h2 => ?_) (kx.mono (l1.trans l1'))
  obtain ⟨g2', R2', l2', m2', hh2⟩ := R2.hold r2
  split at h2
  · rename_i x y ex ey
    have hh1' := hh1.mono (l2.trans l2')
    refine so H0 g0 σ H2 st2 g2' v1 v2 x y _ _ R2' (view_rdd R2' (hh1'.toR (H0 := H0) (H := H2)) ex) (view_rdd R2' (hh2.toR (H0 := H0) (H := H2)) ey) h2 fun v H3 g3 en R3 l3 m3 r3 q3 => ?_
    obtain ⟨b, rfl, q3⟩ := q3
    have ev := has_bl r3
    subst ev
    refine ⟨b, rfl, ?_⟩
    have L := (l1.trans l1').trans ((l2.trans l2').trans l3)
    have M := (m1.trans m1').trans ((m2.trans m2').trans m3)
    cases b with
    | true =>
      rw [if_pos rfl] at q3 ⊢
      refine hc H0 g0 W σ H3 st2 g3 _ E2 _ R3 q3 (fun v4 H4 st4 g4 e4 R4 l4 m4 r4 h4 => ?_) (kx.mono L)
      obtain ⟨g4', R4', l4', m4', hh4⟩ := R4.hold r4
      split at h4
      · rename_i y' z ey' ez
        have hh2' := hh2.mono ((l3.trans l4).trans l4')
        exact so' H0 g0 σ H4 st4 g4' v2 v4 y' z _ _ R4' (view_rdd R4' (hh2'.toR (H0 := H0) (H := H4)) ey') (view_rdd R4' (hh4.toR (H0 := H0) (H := H4)) ez) h4
          fun v H' g' en R' l' m' r' q' => k v H' st4 g' en R' (L.trans ((l4.trans l4').trans l')) (M.trans ((m4.trans m4').trans m')) r' q'
      · exact h4.elim
    | false =>
      rw [if_neg Bool.false_ne_true] at q3 ⊢
      exact k _ H3 st2 g3 (.sh (.bl false)) R3 L M (Has.bl false) q3
  · exact h2.elim
theorem q_chain {op op' : CmpOp} {r r' : R2} {dop dop' : DOp} (ho : OpR X (compareOp op) r) (ho' : OpR X (compareOp op') r') (so : SimOp X.K r dop) (so' : SimOp X.K r' dop') (ha : QE X a ta da) (hb : QE X b tb db) (hc : QE X c tc dc)
    (hm : lastMarks [op, op'] [b, c] = false := by with_unfolding_all rfl) : QE X (.Compare a [op, op'] [b, c] pos) (fun W => tChain r r' (ta W) (tb W) (tc W)) (dChain dop dop' da db dc) :=
  ⟨fun W tk => pe_chain ho ho' (ha.pe W tk) (hb.pe W tk) (hc.pe W tk) hm, sim_chain so so' ha.sim hb.sim hc.sim⟩
theorem qt_chain {op op' : CmpOp} {r r' : R2} {dop dop' : DOp} (ho : OpR X (compareOp op) r) (ho' : OpR X (compareOp op') r') (so : SimOp X.K r dop) (so' : SimOp X.K r' dop') (ha : QE X a ta da) (hb : QE X b tb db) (hc : QE X c tc dc)
    (hm : lastMarks [op, op'] [b, c] = false := by with_unfolding_all rfl) : QT X (.Compare a [op, op'] [b, c] pos) (fun W => tTest (tChain r r' (ta W) (tb W) (tc W))) (dTest (dChain dop dop' da db dc)) :=
  ⟨fun W tk => pt_chain ho ho' (ha.pe W tk) (hb.pe W tk) (hc.pe W tk) hm, sim_test (sim_chain so so' ha.sim hb.sim hc.sim)⟩
end
end VL

set_option Elab.async false
set_option linter.all false
set_option maxRecDepth 100000
set_option maxHeartbeats 4000000
namespace VL
open PySem PySem.Spec PyProof.Rows L2

/-! ### displays -/
def dTupE (da : DA) : DE := fun st Q E => da st (fun es st1 => dFrzL es st1 fun ds st2 => ds.length ≤ sizeLine ∧ Q (.sh (.tup ds)) st2) E
def dLstE (da : DA) : DE := fun st Q E => da st (fun es st1 => dFrzL es st1 fun ds st2 => ds.length ≤ sizeLine ∧ Q (.ow (.lst ds)) st2) E
section
variable {X : Cx} {e a b c o : Expr} {es : List Expr} {pos apos : Pos} {ta tb tc te to : WX → TE} {da db dc de dob : DE} {tr : WX → TA} {dr : DA}
theorem q_tup {x1} (h : QA X es tr dr) : QE X (.Tuple es x1 pos) (fun W => tTup (tr W)) (dTupE dr) := by
  refine ⟨fun W tk => pe_tup (h.pa W tk), ?_⟩
  intro H0 g0 W σ H st g Q2 E2 Q R q k kx
  refine h.sim H0 g0 W σ H st g _ E2 _ R q (fun vs H1 st1 g1 es R1 l1 m1 r1 q1 => ?_) kx
  obtain ⟨g2, st2, ds, R2, l2, m2, h2, ⟨z, q2⟩, _⟩ := R1.frzL r1 q1
  refine ⟨by rw [h2.length]; exact z, fun p hp => ?_⟩
  obtain ⟨g3, R3, l3, m3, h3⟩ := R2.newT hp h2 z
  exact k _ _ st2 g3 (.sh (.tup ds)) R3 ((l1.trans l2).trans l3) ((m1.trans m2).trans m3) h3 q2
theorem q_lst (h : QA X es tr dr) : QE X (.List es pos) (fun W => tLst (tr W)) (dLstE dr) := by
  refine ⟨fun W tk => pe_lst (h.pa W tk), ?_⟩
  intro H0 g0 W σ H st g Q2 E2 Q R q k kx
  refine h.sim H0 g0 W σ H st g _ E2 _ R q (fun vs H1 st1 g1 es R1 l1 m1 r1 q1 => ?_) kx
  obtain ⟨g2, st2, ds, R2, l2, m2, h2, ⟨z, q2⟩, _⟩ := R1.frzL r1 q1
  refine ⟨by rw [h2.length]; exact z, fun p hp => ?_⟩
  obtain ⟨R3, r⟩ := R2.newR hp (Con.lst _ _ h2 z)
  exact k _ _ st2 g2 (.ow (.lst ds)) R3 (l1.trans l2) (m1.trans m2) r q2
/-! ### slices -/
abbrev DO := DSt → (Option Int → DSt → Prop) → DX → Prop
def SimO (K : PySem.W.Frag) (t : WX → TO) (d : DO) : Prop :=
  ∀ H0 g0 W σ H st g (Q2 : Option Int → DSt → Prop) (E2 : DX) (Q : Option Int → Hp → Prop), Rel K H0 g0 σ H st g → d st Q2 E2 →
    (∀ o H' st' g', Rel K H0 g0 σ H' st' g' → Le g g' → Lt g g' → Q2 o st' → Q o H') → PostX K H0 g0 g E2 W → t W σ H Q
structure QO (X : Cx) (e : Option Expr) (t : WX → TO) (d : DO) : Prop where
  po : ∀ W, Takes X W → PO X e (t W)
  sim : SimO X.K t d
def dNoPart : DO := fun st Q _ => Q none st
def dPart (de : DE) : DO := fun st Q E => de st (fun en st1 => ∃ i, view st1 en = some (.int i) ∧ Q (some i) st1) E
theorem qo_none : QO X none (fun _ => tNoPart) dNoPart := ⟨fun _ _ => po_none, fun H0 g0 W σ H st g Q2 E2 Q R q k _ => k none H st g R (Le.refl g) (Lt.refl g) q⟩
theorem qo_some (h : QE X e te de) : QO X (some e) (fun W => tPart (te W)) (dPart de) := by
  refine ⟨fun W tk => po_some (h.pe W tk), ?_⟩
  intro H0 g0 W σ H st g Q2 E2 Q R q k kx
  refine h.sim H0 g0 W σ H st g _ E2 _ R q (fun v H1 st1 g1 en R1 l1 m1 r1 q1 => ?_) kx
  obtain ⟨i, ei, q1⟩ := q1
  exact ⟨i, (view_rdd R1 r1 ei).int, k (some i) H1 st1 g1 R1 l1 m1 q1⟩
def cutL {α : Type} (xs : List α) (lo hi : Option Int) : List α := (xs.drop (HT.sIx xs.length 0 lo)).take (HT.sIx xs.length xs.length hi - HT.sIx xs.length 0 lo)
theorem cutL_length {α : Type} (xs : List α) (lo hi : Option Int) : (cutL xs lo hi).length ≤ xs.length := by
  unfold cutL
  rw [List.length_take, List.length_drop]
  omega
theorem HasL.cut {K : PySem.W.Frag} {g : Gh} {vs : List V} {ds : List D} (h : HasL K g vs ds) (lo hi : Option Int) : HasL K g (cutV vs lo hi) (cutL ds lo hi) := by
  unfold cutV cutL
  rw [h.length]
  exact (h.drop _).take _
def dopSl (x : D) (lo hi : Option Int) (Q : En → Prop) : Prop := match x with
  | .lst ds => Q (.ow (.lst (cutL ds lo hi)))
  | .tup ds => Q (.sh (.tup (cutL ds lo hi)))
  | .str z => Q (.sh (.str (cutS z lo hi)))
  | .scr ns => Q (.ow (.lst ((cutL ns lo hi).map D.int)))
  | _ => False
def rSlU (K : PySem.W.Frag) : V → Option Int → Option Int → Hp → VK → Prop := fun x lo hi H Q => rSlL K x lo hi H Q ∨ rSlA K x lo hi H Q ∨ rSlS x lo hi H Q
theorem sl_U : SlR X (rSlU X.K) := sl_list.or (sl_tupA.or sl_str)
def dSl (de : DE) (dl dh : DO) : DE := fun st Q E => de st (fun en st1 => dl st1 (fun lo st2 => dh st2 (fun hi st3 =>
  match view st3 en.hold with
  | some x => dopSl x lo hi fun en' => Q en' st3
  | none => False) E) E) E
theorem strOk_cut {z : Str} (h : StrOk z) (lo hi : Option Int) : StrOk (cutS z lo hi) := by
  have h3 : z.cps.toList.all (· < 0x110000) = true := by rw [Array.all_toList]; exact h.2
  constructor
  · show (((z.cps.toList.drop _).take _).toArray).size ≤ sizeLine
    rw [List.size_toArray, List.length_take, List.length_drop, Array.length_toList]
    have := h.1
    show min _ (z.length - _) ≤ sizeLine
    omega
  · unfold PyData.strOk cutS
    rw [← Array.all_toList]
    refine List.all_eq_true.mpr fun x hx => ?_
    exact List.all_eq_true.mp h3 x (List.mem_of_mem_drop (List.mem_of_mem_take hx))
theorem cutL_map {α β : Type} (f : α → β) (xs : List α) (lo hi : Option Int) : cutL (xs.map f) lo hi = (cutL xs lo hi).map f := by
  unfold cutL
  rw [List.length_map, List.map_take, List.map_drop]
theorem so_sl {K : PySem.W.Frag} {H0 H : Hp} {g0 g : Gh} {σ : L2.St} {st : DSt} {x : V} {dx : D} {lo hi : Option Int} {Q2 : En → Prop} {Q : VK} (R : Rel K H0 g0 σ H st g) (rx : Rdd K g H x dx) (h : dopSl dx lo hi Q2)
    (k : ∀ v H' g' en, Rel K H0 g0 σ H' st g' → Le g g' → Lt g g' → HasR K H0 σ H' g' v en → Q2 en → Q v H') : rSlU K x lo hi H Q := by
  unfold dopSl at h
  split at h
  · rename_i ds
    obtain ⟨a, vs, rfl, ta, ha, za⟩ := rx.lst R.ex
    refine .inl ⟨a, vs, rfl, SqL.of ta, fun p hp => ?_⟩
    obtain ⟨R', r⟩ := R.newR hp (Con.lst _ _ (ha.cut lo hi) (Nat.le_trans (cutL_length _ _ _) za))
    exact k _ _ g (.ow _) R' (Le.refl g) (Lt.refl g) r h
  · rename_i ds
    obtain ⟨a, vs, rfl, ta, ha, za, wa⟩ := rx.tup R.ex
    refine .inr (.inl ⟨a, vs, rfl, ta, fun w => ?_, fun w p hp => ?_⟩)
    · have e : cutL ds lo hi = ds := by
        unfold cutL
        rw [← ha.length, w.1, w.2, List.drop_zero, Nat.sub_zero, ha.length, List.take_length]
      rw [e] at h
      exact k _ H g (.sh _) R (Le.refl g) (Lt.refl g) wa h
    · obtain ⟨g', R', l, m, hh⟩ := R.newT hp (ha.cut lo hi) (Nat.le_trans (cutL_length _ _ _) za)
      exact k _ _ g' (.sh _) R' l m hh h
  · obtain ⟨ez, hz⟩ := rx.str
    exact .inr (.inr ⟨_, ez, hz.1, k _ H g (.sh (.str _)) R (Le.refl g) (Lt.refl g) (Has.str _ (strOk_cut hz lo hi)) h⟩)
  · rename_i ns
    obtain ⟨a, rfl, ta, z⟩ := rx.scr R.ex
    refine .inl ⟨a, _, rfl, ta, fun p hp => ?_⟩
    have e : cutV (ns.map V.int) lo hi = (cutL ns lo hi).map V.int := cutL_map V.int ns lo hi
    rw [e]
    have zl : ((cutL ns lo hi).map D.int).length ≤ sizeLine := by
      rw [List.length_map]
      have := cutL_length ns lo hi
      exact Nat.le_trans (Nat.le_trans this z) (by decide)
    obtain ⟨R', r⟩ := R.newR hp (Con.lst _ _ (hasL_ints (cutL ns lo hi)) zl)
    exact k _ _ g (.ow _) R' (Le.refl g) (Lt.refl g) r h
  · exact h.elim
theorem q_sl {lo hi : Option Expr} {tl th : WX → TO} {dl dh : DO} {p2 : Pos} (he : QE X e te de) (hl : QO X lo tl dl) (hu : QO X hi th dh) : QE X (.Subscript e (.Slice lo hi none p2) pos) (fun W => tSl (rSlU X.K) (te W) (tl W) (th W)) (dSl de dl dh) := by
  refine ⟨fun W tk => pe_slice sl_U (he.pe W tk) (hl.po W tk) (hu.po W tk), ?_⟩
  intro H0 g0 W σ H st g Q2 E2 Q R q k kx
  refine he.sim H0 g0 W σ H st g _ E2 _ R q (fun v H1 st1 g1 en R1 l1 m1 r1 q1 => ?_) kx
  obtain ⟨g1', R1', l1', m1', h1⟩ := R1.hold r1
  have L1 := l1.trans l1'
  have M1 := m1.trans m1'
  refine hl.sim H0 g0 W σ H1 st1 g1' _ E2 _ R1' q1 (fun lo H2 st2 g2 R2 l2 m2 q2 => ?_) (kx.mono L1)
  refine hu.sim H0 g0 W σ H2 st2 g2 _ E2 _ R2 q2 (fun hi H3 st3 g3 R3 l3 m3 q3 => ?_) (kx.mono (L1.trans l2))
  split at q3
  · rename_i x ex
    have h3 := h1.mono (l2.trans l3)
    exact so_sl R3 (view_rdd R3 (h3.toR (H0 := H0) (H := H3)) ex) q3 fun v H' g' en R' l' m' r' q' => k v H' st3 g' en R' ((L1.trans l2).trans (l3.trans l')) ((M1.trans m2).trans (m3.trans m')) r' q'
  · exact q3.elim
/-! ### built-in calls -/
inductive RddL (K : PySem.W.Frag) (g : Gh) (H : Hp) : List V → List D → Prop
  | nil : RddL K g H [] []
  | cons {v : V} {d : D} {vs : List V} {ds : List D} (h : Rdd K g H v d) (t : RddL K g H vs ds) : RddL K g H (v :: vs) (d :: ds)
def viewL (st : DSt) : List En → Option (List D)
  | [] => some []
  | e :: es => match view st e, viewL st es with
    | some d, some ds => some (d :: ds)
    | _, _ => none
theorem viewL_rdd {K : PySem.W.Frag} {H0 H : Hp} {g0 g : Gh} {σ : L2.St} {st : DSt} (R : Rel K H0 g0 σ H st g) : ∀ {vs : List V} {es : List En} {ds : List D}, HasHL K σ g vs es → viewL st es = some ds → RddL K g H vs ds
  | _, _, _, .nil, e => by cases e; exact .nil
  | _, _, _, .cons h t, e => by
    unfold viewL at e
    split at e
    · rename_i d ds' e1 e2
      cases e
      exact .cons (view_rdd R (h.toR (H0 := H0) (H := H)) e1) (viewL_rdd R t e2)
    · cases e
abbrev DCall := List D → (En → Prop) → Prop
def SimC (K : PySem.W.Frag) (r : List V → Hp → VK → Prop) (op : DCall) : Prop :=
  ∀ H0 g0 σ H st g vs ds (Q2 : En → Prop) (Q : VK), Rel K H0 g0 σ H st g → RddL K g H vs ds → op ds Q2 →
    (∀ v H' g' en, Rel K H0 g0 σ H' st g' → Le g g' → Lt g g' → HasR K H0 σ H' g' v en → Q2 en → Q v H') → r vs H Q
def dCB (op : DCall) (da : DA) : DE := fun st Q E => da st (fun es st1 => match viewL st1 es with
  | some ds => op ds fun en => Q en st1
  | none => False) E
theorem sim_cb {K : PySem.W.Frag} {r : List V → Hp → VK → Prop} {op : DCall} (so : SimC K r op) (h : SimA K tr dr) : SimE K (fun W => tCB r (tr W)) (dCB op dr) := by
  intro H0 g0 W σ H st g Q2 E2 Q R q k kx
  refine h H0 g0 W σ H st g _ E2 _ R q (fun vs H1 st1 g1 es R1 l1 m1 r1 q1 => ?_) kx
  split at q1
  · rename_i ds e
    exact so H0 g0 σ H1 st1 g1 vs ds _ _ R1 (viewL_rdd R1 r1 e) q1 fun v H' g' en R' l' m' r' q' => k v H' st1 g' en R' (l1.trans l') (m1.trans m') r' q'
  · exact q1.elim
theorem q_cb {x : Str} {p : Pos} {id : String} {r : List V → Hp → VK → Prop} {op : DCall} (hc : CallR X (.builtin id) r) (so : SimC X.K r op) (hg : Gl X x) (hm : X.mg x = none) (hv : bootBuiltins x = some (.builtin id)) (ha : QA X (e :: es) tr dr) (hn : x ≠ "__name__" := by decide) (hdb : (x == ("__debug__" : Str)) = false := by decide)
    (he : starEach (e :: es) X.env = (false, eval e X.env) :: starEach es X.env := by rfl) (hpl : (backTo pos (starEach es X.env)).any (·.1) = false := by rfl) : QE X (.Call (.Name x p) (e :: es) [] pos) (fun W => tCB r (tr W)) (dCB op dr) :=
  ⟨fun W tk => pe_callB hc hg hm hv (ha.pa W tk) hn hdb he hpl, sim_cb so ha.sim⟩
theorem q_ct {x : Str} {p : Pos} {T : String} {r : List V → Hp → VK → Prop} {op : DCall} (hc : CallR X (.type T) r) (so : SimC X.K r op) (hg : Gl X x) (hm : X.mg x = none) (hv : bootBuiltins x = some (.type T)) (ha : QA X (e :: es) tr dr) (hn : x ≠ "__name__" := by decide) (hdb : (x == ("__debug__" : Str)) = false := by decide)
    (he : starEach (e :: es) X.env = (false, eval e X.env) :: starEach es X.env := by rfl) (hpl : (backTo pos (starEach es X.env)).any (·.1) = false := by rfl) : QE X (.Call (.Name x p) (e :: es) [] pos) (fun W => tCB r (tr W)) (dCB op dr) :=
  ⟨fun W tk => pe_callTy hc hg hm hv (ha.pa W tk) hn hdb he hpl, sim_cb so ha.sim⟩
/-- len -/
def dopLen : DCall := fun ds Q => match ds with
  | [.lst xs] => Q (.sh (.int (xs.length : Nat)))
  | [.tup xs] => Q (.sh (.int (xs.length : Nat)))
  | [.str z] => Q (.sh (.int (z.length : Nat)))
  | [.scr ns] => Q (.sh (.int (ns.length : Nat)))
  | _ => False
def rLenU (K : PySem.W.Frag) : List V → Hp → VK → Prop := fun xs H Q => (∃ p ys, xs = [.ref p] ∧ (SqL K H p ys ∨ SqT K H p ys) ∧ Q (.int ys.length) H) ∨ (∃ z, xs = [.str z] ∧ z.length ≤ sizeLine ∧ Q (.int z.length) H)
theorem cr_lenU : CallR X (.builtin "len") (rLenU X.K) := call_len_seq.or call_len_str
theorem sc_len {K : PySem.W.Frag} : SimC K (rLenU K) dopLen := by
  intro H0 g0 σ H st g vs ds Q2 Q R rr h k
  unfold dopLen at h
  split at h
  · cases rr with
    | cons rx t =>
      cases t
      obtain ⟨a, vs, rfl, ta, ha, za⟩ := rx.lst R.ex
      refine .inl ⟨a, vs, rfl, .inl (SqL.of ta), ?_⟩
      rw [ha.length]
      exact k _ H g (.sh (.int _)) R (Le.refl g) (Lt.refl g) (Has.int _) h
  · cases rr with
    | cons rx t =>
      cases t
      obtain ⟨a, vs, rfl, ta, ha, za, _⟩ := rx.tup R.ex
      refine .inl ⟨a, vs, rfl, .inr ta, ?_⟩
      rw [ha.length]
      exact k _ H g (.sh (.int _)) R (Le.refl g) (Lt.refl g) (Has.int _) h
  · cases rr with
    | cons rx t =>
      cases t
      obtain ⟨ez, hz⟩ := rx.str
      exact .inr ⟨_, by rw [ez], hz.1, k _ H g (.sh (.int _)) R (Le.refl g) (Lt.refl g) (Has.int _) h⟩
  · cases rr with
    | cons rx t =>
      cases t
      obtain ⟨a, rfl, ta, _⟩ := rx.scr R.ex
      refine .inl ⟨a, _, rfl, .inl ta, ?_⟩
      rw [List.length_map]
      exact k _ H g (.sh (.int _)) R (Le.refl g) (Lt.refl g) (Has.int _) h
  · exact h.elim
end
end VL

set_option Elab.async false
set_option linter.all false
set_option maxRecDepth 100000
set_option maxHeartbeats 4000000
namespace VL
open PySem PySem.Spec PyProof.Rows L2
section
variable {K : PySem.W.Frag}
def dopAbs : DCall := fun ds Q => match ds with
  | [.int i] => Q (.sh (.int (if i < 0 then -i else i)))
  | _ => False
theorem sc_abs : SimC K (fun xs H Q => ∃ i, xs = [.int i] ∧ Q (.int (if i < 0 then -i else i)) H) dopAbs := by
  intro H0 g0 σ H st g vs ds Q2 Q R rr h k
  unfold dopAbs at h
  split at h
  · cases rr with
    | cons rx t =>
      cases t
      exact ⟨_, by rw [rx.int], k _ H g (.sh (.int _)) R (Le.refl g) (Lt.refl g) (Has.int _) h⟩
  · exact h.elim
def dopInt : DCall := fun ds Q => match ds with
  | [.int i] => Q (.sh (.int i))
  | [.bl b] => Q (.sh (.int (if b then 1 else 0)))
  | _ => False
theorem sc_int : SimC K (fun xs H Q => (∃ i, xs = [.int i] ∧ Q (.int i) H) ∨ ∃ k, xs = [.bl k] ∧ Q (.int (if k then 1 else 0)) H) dopInt := by
  intro H0 g0 σ H st g vs ds Q2 Q R rr h k
  unfold dopInt at h
  split at h
  · cases rr with
    | cons rx t =>
      cases t
      exact .inl ⟨_, by rw [rx.int], k _ H g (.sh (.int _)) R (Le.refl g) (Lt.refl g) (Has.int _) h⟩
  · cases rr with
    | cons rx t =>
      cases t
      exact .inr ⟨_, by rw [rx.bl], k _ H g (.sh (.int _)) R (Le.refl g) (Lt.refl g) (Has.int _) h⟩
  · exact h.elim
/-- the ints of a list of data, if it is one of ints -/
def intsOf : List D → Option (List Int)
  | [] => some []
  | .int i :: ds => (intsOf ds).map (i :: ·)
  | _ :: _ => none
theorem intsOf_eq : ∀ {ds : List D} {ns : List Int}, intsOf ds = some ns → ds = ns.map D.int
  | [], _, h => by cases h; rfl
  | .int i :: ds, ns, h => by
    unfold intsOf at h
    cases q : intsOf ds with
    | none => rw [q] at h; cases h
    | some ms =>
      rw [q] at h
      cases h
      rw [intsOf_eq q]; rfl
  | .non :: _, _, h => by cases h
  | .bl _ :: _, _, h => by cases h
  | .str _ :: _, _, h => by cases h
  | .tup _ :: _, _, h => by cases h
  | .lst _ :: _, _, h => by cases h
  | .dct _ :: _, _, h => by cases h
  | .exc _ _ :: _, _, h => by cases h
  | .box :: _, _, h => by cases h
  | .mref _ :: _, _, h => by cases h
  | .scr _ :: _, _, h => by cases h
theorem intsOf_map (ns : List Int) : intsOf (ns.map D.int) = some ns := by
  induction ns with
  | nil => rfl
  | cons n ns ih => simp [intsOf, ih]
def blsOf : List D → Option (List Bool)
  | [] => some []
  | .bl i :: ds => (blsOf ds).map (i :: ·)
  | _ :: _ => none
theorem blsOf_eq : ∀ {ds : List D} {ns : List Bool}, blsOf ds = some ns → ds = ns.map D.bl
  | [], _, h => by cases h; rfl
  | .bl i :: ds, ns, h => by
    unfold blsOf at h
    cases q : blsOf ds with
    | none => rw [q] at h; cases h
    | some ms =>
      rw [q] at h
      cases h
      rw [blsOf_eq q]; rfl
  | .non :: _, _, h => by cases h
  | .int _ :: _, _, h => by cases h
  | .str _ :: _, _, h => by cases h
  | .tup _ :: _, _, h => by cases h
  | .lst _ :: _, _, h => by cases h
  | .dct _ :: _, _, h => by cases h
  | .exc _ _ :: _, _, h => by cases h
  | .box :: _, _, h => by cases h
  | .mref _ :: _, _, h => by cases h
  | .scr _ :: _, _, h => by cases h
theorem blsOf_map (ns : List Bool) : blsOf (ns.map D.bl) = some ns := by
  induction ns with
  | nil => rfl
  | cons n ns ih => simp [blsOf, ih]
def strsOf : List D → Option (List Str)
  | [] => some []
  | .str i :: ds => (strsOf ds).map (i :: ·)
  | _ :: _ => none
theorem strsOf_eq : ∀ {ds : List D} {ns : List Str}, strsOf ds = some ns → ds = ns.map D.str
  | [], _, h => by cases h; rfl
  | .str i :: ds, ns, h => by
    unfold strsOf at h
    cases q : strsOf ds with
    | none => rw [q] at h; cases h
    | some ms =>
      rw [q] at h
      cases h
      rw [strsOf_eq q]; rfl
  | .non :: _, _, h => by cases h
  | .int _ :: _, _, h => by cases h
  | .bl _ :: _, _, h => by cases h
  | .tup _ :: _, _, h => by cases h
  | .lst _ :: _, _, h => by cases h
  | .dct _ :: _, _, h => by cases h
  | .exc _ _ :: _, _, h => by cases h
  | .box :: _, _, h => by cases h
  | .mref _ :: _, _, h => by cases h
  | .scr _ :: _, _, h => by cases h
theorem strsOf_map (ns : List Str) : strsOf (ns.map D.str) = some ns := by
  induction ns with
  | nil => rfl
  | cons n ns ih => simp [strsOf, ih]
def dopSum : DCall := fun ds Q => match ds with
  | [.lst xs] => ∃ ns, intsOf xs = some ns ∧ Q (.sh (.int ns.sum))
  | _ => False
theorem sc_sum : SimC K (rSum K) dopSum := by
  intro H0 g0 σ H st g vs ds Q2 Q R rr h k
  unfold dopSum at h
  split at h
  · cases rr with
    | cons rx t =>
      cases t
      obtain ⟨ns, e, q⟩ := h
      have e' := intsOf_eq e
      subst e'
      obtain ⟨a, vs, rfl, ta, ha, za⟩ := rx.lst R.ex
      have ev := ha.int
      subst ev
      exact ⟨a, ns, rfl, SqL.of ta, k _ H g (.sh (.int _)) R (Le.refl g) (Lt.refl g) (Has.int _) q⟩
  · exact h.elim
def dopAll : DCall := fun ds Q => match ds with
  | [.lst xs] => ∃ ns, blsOf xs = some ns ∧ Q (.sh (.bl (ns.all id)))
  | _ => False
theorem sc_all : SimC K (rAll K) dopAll := by
  intro H0 g0 σ H st g vs ds Q2 Q R rr h k
  unfold dopAll at h
  split at h
  · cases rr with
    | cons rx t =>
      cases t
      obtain ⟨ns, e, q⟩ := h
      have e' := blsOf_eq e
      subst e'
      obtain ⟨a, vs, rfl, ta, ha, za⟩ := rx.lst R.ex
      have ev := ha.bl
      subst ev
      exact ⟨a, ns, rfl, SqL.of ta, k _ H g (.sh (.bl _)) R (Le.refl g) (Lt.refl g) (Has.bl _) q⟩
  · exact h.elim
def dopAny : DCall := fun ds Q => match ds with
  | [.lst xs] => ∃ ns, blsOf xs = some ns ∧ Q (.sh (.bl (ns.any id)))
  | _ => False
theorem sc_any : SimC K (rAny K) dopAny := by
  intro H0 g0 σ H st g vs ds Q2 Q R rr h k
  unfold dopAny at h
  split at h
  · cases rr with
    | cons rx t =>
      cases t
      obtain ⟨ns, e, q⟩ := h
      have e' := blsOf_eq e
      subst e'
      obtain ⟨a, vs, rfl, ta, ha, za⟩ := rx.lst R.ex
      have ev := ha.bl
      subst ev
      exact ⟨a, ns, rfl, SqL.of ta, k _ H g (.sh (.bl _)) R (Le.refl g) (Lt.refl g) (Has.bl _) q⟩
  · exact h.elim
def dopMax : DCall := fun ds Q => match ds with
  | [.int i, .int j] => Q (.sh (.int (if j > i then j else i)))
  | _ => False
theorem sc_max : SimC K (fun xs H Q => ∃ i j, xs = [.int i, .int j] ∧ Q (.int (if j > i then j else i)) H) dopMax := by
  intro H0 g0 σ H st g vs ds Q2 Q R rr h k
  unfold dopMax at h
  split at h
  · cases rr with
    | cons rx t =>
      cases t with
      | cons ry t =>
        cases t
        exact ⟨_, _, by rw [rx.int, ry.int], k _ H g (.sh (.int _)) R (Le.refl g) (Lt.refl g) (Has.int _) h⟩
  · exact h.elim
def dopMin : DCall := fun ds Q => match ds with
  | [.int i, .int j] => Q (.sh (.int (if j < i then j else i)))
  | _ => False
theorem sc_min : SimC K (fun xs H Q => ∃ i j, xs = [.int i, .int j] ∧ Q (.int (if j < i then j else i)) H) dopMin := by
  intro H0 g0 σ H st g vs ds Q2 Q R rr h k
  unfold dopMin at h
  split at h
  · cases rr with
    | cons rx t =>
      cases t with
      | cons ry t =>
        cases t
        exact ⟨_, _, by rw [rx.int, ry.int], k _ H g (.sh (.int _)) R (Le.refl g) (Lt.refl g) (Has.int _) h⟩
  · exact h.elim
def dopList : DCall := fun ds Q => match ds with
  | [.lst xs] => Q (.ow (.lst xs))
  | [.tup xs] => Q (.ow (.lst xs))
  | _ => False
theorem sc_list : SimC K (fun xs H Q => ∃ p ys, xs = [.ref p] ∧ (SqL K H p ys ∨ SqT K H p ys) ∧ ∀ l, H l = none → Q (.ref l) (upd H l (.lst ys))) dopList := by
  intro H0 g0 σ H st g vs ds Q2 Q R rr h k
  unfold dopList at h
  split at h
  · cases rr with
    | cons rx t =>
      cases t
      obtain ⟨a, vs, rfl, ta, ha, za⟩ := rx.lst R.ex
      refine ⟨a, vs, rfl, .inl (SqL.of ta), fun p hp => ?_⟩
      obtain ⟨R', r⟩ := R.newR hp (Con.lst _ _ ha za)
      exact k _ _ g (.ow _) R' (Le.refl g) (Lt.refl g) r h
  · cases rr with
    | cons rx t =>
      cases t
      obtain ⟨a, vs, rfl, ta, ha, za, _⟩ := rx.tup R.ex
      refine ⟨a, vs, rfl, .inr ta, fun p hp => ?_⟩
      obtain ⟨R', r⟩ := R.newR hp (Con.lst _ _ ha za)
      exact k _ _ g (.ow _) R' (Le.refl g) (Lt.refl g) r h
  · exact h.elim
def dopTuple : DCall := fun ds Q => match ds with
  | [.lst xs] => Q (.sh (.tup xs))
  | [.tup xs] => Q (.sh (.tup xs))
  | _ => False
theorem sc_tuple : SimC K (fun xs H Q => ∃ p ys, xs = [.ref p] ∧ ((SqL K H p ys ∧ ∀ l, H l = none → Q (.ref l) (upd H l (.tup ys))) ∨ (SqT K H p ys ∧ Q (.ref p) H))) dopTuple := by
  intro H0 g0 σ H st g vs ds Q2 Q R rr h k
  unfold dopTuple at h
  split at h
  · cases rr with
    | cons rx t =>
      cases t
      obtain ⟨a, vs, rfl, ta, ha, za⟩ := rx.lst R.ex
      refine ⟨a, vs, rfl, .inl ⟨SqL.of ta, fun p hp => ?_⟩⟩
      obtain ⟨g', R', l, m, hh⟩ := R.newT hp ha za
      exact k _ _ g' (.sh _) R' l m hh h
  · cases rr with
    | cons rx t =>
      cases t
      obtain ⟨a, vs, rfl, ta, ha, za, wa⟩ := rx.tup R.ex
      exact ⟨a, vs, rfl, .inr ⟨ta, k _ H g (.sh _) R (Le.refl g) (Lt.refl g) wa h⟩⟩
  · exact h.elim
/-- sorted(ints): the arrangement by size -/
def dopSortI : DCall := fun ds Q => match ds with
  | [.lst xs] => ∃ ns, intsOf xs = some ns ∧ ∀ ms : List Int, ms.Perm ns → ms.Pairwise (· ≤ ·) → Q (.ow (.lst (ms.map D.int)))
  | _ => False
theorem sc_sortI : SimC K (rSortedI K) dopSortI := by
  intro H0 g0 σ H st g vs ds Q2 Q R rr h k
  unfold dopSortI at h
  split at h
  · cases rr with
    | cons rx t =>
      cases t
      obtain ⟨ns, e, q⟩ := h
      have e' := intsOf_eq e
      subst e'
      obtain ⟨a, vs, rfl, ta, ha, za⟩ := rx.lst R.ex
      have ev := ha.int
      subst ev
      refine ⟨a, ns, rfl, SqL.of ta, fun ms p pm pw hp => ?_⟩
      have zl : (ms.map D.int).length ≤ sizeLine := by
        rw [List.length_map, pm.length_eq]
        rw [List.length_map] at za; exact za
      obtain ⟨R', r⟩ := R.newR hp (Con.lst _ _ (hasL_ints ms) zl)
      exact k _ _ g (.ow _) R' (Le.refl g) (Lt.refl g) r (q ms pm pw)
  · exact h.elim
/-! ### isinstance -/
/-- the built-in type of data -/
def D.ty : D → Option String
  | .non => some "NoneType"
  | .bl _ => some "bool"
  | .int _ => some "int"
  | .str _ => some "str"
  | .tup _ => some "tuple"
  | .lst _ => some "list"
  | .scr _ => some "list"
  | .box => some "list"
  | _ => none
theorem Rdd.tyx {g : Gh} {H : Hp} {v : V} {d : D} {T : String} (e : Ex g.G H) (h : Rdd K g H v d) (hd : d ≠ .box) (t : d.ty = some T) : TyX K H v (.type T) := by
  cases d with
  | non => cases t; rw [h.non]; exact .base .non
  | bl b => cases t; rw [h.bl]; exact .base (.bl b)
  | int i => cases t; rw [h.int]; exact .base (.int i)
  | str x => cases t; rw [h.str.1]; exact .base (.str x)
  | tup xs =>
    cases t
    obtain ⟨a, vs, rfl, ta, _⟩ := h.tup e
    rcases ta with (ta | ⟨o, ta⟩) | ⟨o, its, n, hk, hc, _⟩
    · exact .base (.tup ta)
    · exact .fTuple ta
    · exact .kTuple hk hc
  | lst xs =>
    cases t
    obtain ⟨a, vs, rfl, ta, _⟩ := h.lst e
    exact .base (.lst ta)
  | scr ns =>
    cases t
    obtain ⟨a, rfl, ta, _⟩ := h.scr e
    rcases ta with (ta | ⟨o, ta⟩) | ⟨o, its, n, hk, hc, _⟩
    · exact .base (.lst ta)
    · exact .base (.frz ta)
    · exact .kList hk hc
  | box => exact absurd rfl hd
  | _ => cases t
end
section
variable {X : Cx} {e a : Expr} {pos : Pos} {te : WX → TE} {de : DE}
/-- isinstance(x, T), T a built-in class -/
def dIsi (T : String) (de : DE) : DE := fun st Q E => de st (fun en st1 => ∃ d S b, view st1 en.hold = some d ∧ d ≠ .box ∧ d.ty = some S ∧ kitB S T = some b ∧ Q (.sh (.bl b)) st1) E
theorem q_isi {p p2 : Pos} {x : Str} {T : String} (he : QE X e te de) (hg : Gl X "isinstance") (hm : X.mg "isinstance" = none) (hgT : Gl X x) (hmT : X.mg x = none) (hv : bootBuiltins x = some (.type T)) (hn : x ≠ "__name__" := by decide) (hdx : (x == ("__debug__" : Str)) = false := by decide)
    (hs : starEach [e, .Name x p2] X.env = (false, eval e X.env) :: starEach [.Name x p2] X.env := by rfl) (hs2 : starEach [.Name x p2] X.env = (false, eval (.Name x p2) X.env) :: starEach [] X.env := by rfl) (hpl : (backTo pos (starEach [.Name x p2] X.env)).any (·.1) = false := by rfl) :
    QE X (.Call (.Name "isinstance" p) [e, .Name x p2] [] pos) (fun W => tCB (rIsi X.K) (tCons (te W) (tCons (tC (.ty T)) tNil))) (dIsi T de) := by
  refine ⟨fun W tk => pe_callB call_isi hg hm (by decide +kernel) (pa_cons (he.pe W tk) (pa_cons (pe_bltn (v := .ty T) hgT hmT hv rfl hn hdx) pa_nil hs2) hs) (by decide) (by decide) hs hpl, ?_⟩
  intro H0 g0 W σ H st g Q2 E2 Q R q k kx
  refine he.sim H0 g0 W σ H st g _ E2 _ R q (fun v H1 st1 g1 en R1 l1 m1 r1 q1 => ?_) kx
  obtain ⟨g2, R2, l2, m2, h2⟩ := R1.hold r1
  obtain ⟨d, S, b, ed, nb, es, kb, q1⟩ := q1
  have rd := view_rdd R2 (h2.toR (H0 := H0) (H := H1)) ed
  exact ⟨v, .ty T, _, _, b, rfl, .ty T, rd.tyx R2.ex nb es, kit_ty kb, k _ H1 st1 g2 (.sh (.bl b)) R2 (l1.trans l2) (m1.trans m2) (Has.bl b) q1⟩
/-- isinstance(x, (S, T)) -/
def dIsi2 (S T : String) (de : DE) : DE := fun st Q E => de st (fun en st1 => ∃ d Y b c, view st1 en.hold = some d ∧ d ≠ .box ∧ d.ty = some Y ∧ kitB Y S = some b ∧ kitB Y T = some c ∧ Q (.sh (.bl (b || c))) st1) E
theorem q_isi2 {p p2 p3 p4 : Pos} {x y : Str} {S T : String} {k1 : _} (he : QE X e te de) (hg : Gl X "isinstance") (hm : X.mg "isinstance" = none) (hgS : Gl X x) (hmS : X.mg x = none) (hvS : bootBuiltins x = some (.type S)) (hgT : Gl X y) (hmT : X.mg y = none) (hvT : bootBuiltins y = some (.type T))
    (hn : x ≠ "__name__" := by decide) (hdx : (x == ("__debug__" : Str)) = false := by decide) (hn' : y ≠ "__name__" := by decide) (hdy : (y == ("__debug__" : Str)) = false := by decide)
    (hs : starEach [e, .Tuple [.Name x p2, .Name y p3] k1 p4] X.env = (false, eval e X.env) :: starEach [.Tuple [.Name x p2, .Name y p3] k1 p4] X.env := by rfl) (hs2 : starEach [.Tuple [.Name x p2, .Name y p3] k1 p4] X.env = (false, eval (.Tuple [.Name x p2, .Name y p3] k1 p4) X.env) :: starEach [] X.env := by rfl)
    (hs3 : starEach [.Name x p2, .Name y p3] X.env = (false, eval (.Name x p2) X.env) :: starEach [.Name y p3] X.env := by rfl) (hs4 : starEach [.Name y p3] X.env = (false, eval (.Name y p3) X.env) :: starEach [] X.env := by rfl)
    (hpl : (backTo pos (starEach [.Tuple [.Name x p2, .Name y p3] k1 p4] X.env)).any (·.1) = false := by rfl) :
    QE X (.Call (.Name "isinstance" p) [e, .Tuple [.Name x p2, .Name y p3] k1 p4] [] pos) (fun W => tCB (rIsiT X.K) (tCons (te W) (tCons (tTup (tCons (tC (.ty S)) (tCons (tC (.ty T)) tNil))) tNil))) (dIsi2 S T de) := by
  refine ⟨fun W tk => pe_callB call_isiT hg hm (by decide +kernel) (pa_cons (he.pe W tk) (pa_cons (pe_tup (pa_cons (pe_bltn (v := .ty S) hgS hmS hvS rfl hn hdx) (pa_cons (pe_bltn (v := .ty T) hgT hmT hvT rfl hn' hdy) pa_nil hs4) hs3)) pa_nil hs2) hs) (by decide) (by decide) hs hpl, ?_⟩
  intro H0 g0 W σ H st g Q2 E2 Q R q k kx
  refine he.sim H0 g0 W σ H st g _ E2 _ R q (fun v H1 st1 g1 en R1 l1 m1 r1 q1 => ?_) kx
  obtain ⟨g2, R2, l2, m2, h2⟩ := R1.hold r1
  obtain ⟨d, Y, b, c, ed, nb, es, kb, kc, q1⟩ := q1
  refine ⟨(show 2 ≤ sizeLine by decide), fun t ht => ?_⟩
  have R3 := R2.temp (ho := .tup [.ty S, .ty T]) ht
  have rd := view_rdd R3 (h2.toR (H0 := H0) (H := upd H1 t (.tup [.ty S, .ty T]))) ed
  refine ⟨v, t, _, _, _, b || c, rfl, upd_same, .cons (.ty S) (.cons (.ty T) .nil), rd.tyx R3.ex nb es, kitAny_cons (kit_ty kb) (fun eb => ?_) (fun eb => by rw [eb]; rfl), k _ _ st1 g2 (.sh (.bl (b || c))) R3 (l1.trans l2) (m1.trans m2) (Has.bl _) q1⟩
  rw [eb, Bool.false_or]
  refine kitAny_cons (kit_ty kc) (fun ec => ?_) (fun ec => ec)
  rw [ec]; exact kitAny_nil
end
end VL

set_option Elab.async false
set_option linter.all false
set_option maxRecDepth 100000
set_option maxHeartbeats 4000000
namespace VL
open PySem PySem.Spec PyProof.Rows L2

/-! ### what is walked: its items, told ahead -/
/-- J yields the data ds, one by one, while the ghost only grows -/
structure Yields (K : PySem.W.Frag) (g : Gh) (J : It) (ds : List D) : Prop where
  go : ∀ i H, i < ds.length → Ex g.G H → J.go i H
  yld : ∀ i H x H' (d : D), ds[i]? = some d → Ex g.G H → J.yld i H x H' → H' = H ∧ Has K g x d
  stop : ∀ i H, ds.length ≤ i → Ex g.G H → J.stop i H
abbrev DI := DSt → (List D → DSt → Prop) → DX → Prop
def SimI (K : PySem.W.Frag) (t : WX → TI) (d : DI) : Prop :=
  ∀ H0 g0 W σ H st g (Q2 : List D → DSt → Prop) (E2 : DX) (Q : It → Hp → Prop), Rel K H0 g0 σ H st g → d st Q2 E2 →
    (∀ J H' st' g' ds, Rel K H0 g0 σ H' st' g' → Le g g' → Lt g g' → Yields K g' J ds → ds.length ≤ sizeLine → Q2 ds st' → Q J H') → PostX K H0 g0 g E2 W → t W σ H Q
structure QI (X : Cx) (tg e : Expr) (t : WX → TI) (d : DI) : Prop where
  pi : ∀ W, Takes X W → PI X tg e (t W)
  sim : SimI X.K t d
theorem Yields.list {K : PySem.W.Frag} {g : Gh} {a : Addr} {vs : List V} {ds : List D} (h : SqL K g.G a vs) (hl : HasL K g vs ds) : Yields K g (Itl K a) ds where
  go := fun i H hi e => by
    obtain ⟨d, hd⟩ : ∃ d, ds[i]? = some d := ⟨ds[i], List.getElem?_eq_getElem hi⟩
    obtain ⟨v, hv, _⟩ := hl.get hd
    exact ⟨vs, v, e.sqL h, hv⟩
  yld := fun i H x H' d hd e y => by
    obtain ⟨v, hv, r⟩ := hl.get hd
    obtain ⟨e1, y⟩ := y
    have := y vs (e.sqL h)
    rw [hv] at this; cases this
    exact ⟨e1, r⟩
  stop := fun i H hi e => ⟨vs, e.sqL h, by rw [hl.length]; exact hi⟩
theorem Yields.tuple {K : PySem.W.Frag} {g : Gh} {a : Addr} {vs : List V} {ds : List D} (h : SqT K g.G a vs) (hl : HasL K g vs ds) : Yields K g (Itt K a) ds where
  go := fun i H hi e => by
    obtain ⟨d, hd⟩ : ∃ d, ds[i]? = some d := ⟨ds[i], List.getElem?_eq_getElem hi⟩
    obtain ⟨v, hv, _⟩ := hl.get hd
    exact ⟨vs, v, e.sqT h, hv⟩
  yld := fun i H x H' d hd e y => by
    obtain ⟨v, hv, r⟩ := hl.get hd
    obtain ⟨e1, y⟩ := y
    have := y vs (e.sqT h)
    rw [hv] at this; cases this
    exact ⟨e1, r⟩
  stop := fun i H hi e => ⟨vs, e.sqT h, by rw [hl.length]; exact hi⟩
/-- the ints from lo on, n of them -/
def rangeD (lo : Int) (n : Nat) : List D := (List.range n).map fun (i : Nat) => D.int (lo + i)
theorem rangeD_length (lo : Int) (n : Nat) : (rangeD lo n).length = n := by simp [rangeD]
theorem Yields.range {K : PySem.W.Frag} {g : Gh} (lo : Int) (n : Nat) : Yields K g (Itr lo n) (rangeD lo n) where
  go := fun i H hi e => by rw [rangeD_length] at hi; exact hi
  yld := fun i H x H' d hd e y => by
    obtain ⟨e1, e2⟩ := y
    subst e2
    refine ⟨e1, ?_⟩
    unfold rangeD at hd
    have hi : i < n := by
      have := (List.getElem?_eq_some_iff.mp hd).1
      simpa using this
    rw [List.getElem?_map, List.getElem?_range hi] at hd
    cases hd; exact .int _
  stop := fun i H hi e => by rw [rangeD_length] at hi; exact hi
section
variable {X : Cx} {tg e a b : Expr} {es : List Expr} {pos p : Pos} {te ta tb : WX → TE} {de da db : DE} {tr : WX → TA} {dr : DA}
/-- over a list or a tuple, shared from then on -/
def dSeqI (de : DE) : DI := fun st Q E => de st (fun en st1 => dFrz en st1 fun d st2 => match d with
  | .lst ds => Q ds st2
  | .tup ds => Q ds st2
  | _ => False) E
/-- over a list or a tuple -/
def iSeq (K : PySem.W.Frag) (tl : TE) : TI := fun σ H R => tl σ H fun x H1 => ∃ a, x = .ref a ∧ (((∃ xs, SqL K H1 a xs) ∧ R (Itl K a) H1) ∨ ((∃ xs, SqT K H1 a xs) ∧ R (Itt K a) H1))
theorem pi_seq {l : Expr} {tl : TE} (hl : PE X l tl) : PI X tg l (iSeq X.K tl) := by
  refine ⟨fun pins s σ H R I h => ?_⟩
  refine thn (hl.run pins s σ H _ I h) fun v s1 hh => ?_
  obtain ⟨x, H1, I1, r1, a, rfl, q⟩ := hh
  have fin : ∀ {b : Addr}, b ∈ [s1.heap.objs.size] → FpOk X pins H1 b := fun {b} hb => by
    have eb : b = s1.heap.objs.size := by simpa using hb
    rw [eb]; exact I1.fpOk (Nat.le_refl _) (I1.hok.fresh (Nat.le_refl _))
  obtain rfl : v = .ref a := r1
  rcases q with ⟨⟨xs, hq⟩, q⟩ | ⟨⟨xs, hq⟩, q⟩
  · obtain ⟨us, _, pl, _⟩ := I1.list hq
    exact wpAny_pyIter_list pl.isList ⟨_, [s1.heap.objs.size], _, _, H1, rfl, I1.kept (t' := s1.toks) (fun b o w => Heap.get?_push_of_some _ w), turn_list a _, ⟨_, Heap.get?_push_size _ rfl, rfl, rfl⟩, fun b hb => fin hb, q⟩
  · obtain ⟨us, _, pt, _⟩ := I1.tuple hq
    exact wpAny_pyIter_tuple (show s1.heap.IsTuple a us.toArray from pt) ⟨_, [s1.heap.objs.size], _, _, H1, rfl, I1.kept (t' := s1.toks) (fun b o w => Heap.get?_push_of_some _ w), turn_tuple a _, ⟨_, Heap.get?_push_size _ rfl, rfl, rfl⟩, fun b hb => fin hb, q⟩
theorem qi_seq (he : QE X e te de) : QI X tg e (fun W => iSeq X.K (te W)) (dSeqI de) := by
  refine ⟨fun W tk => pi_seq (he.pe W tk), ?_⟩
  intro H0 g0 W σ H st g Q2 E2 Q R q k kx
  refine he.sim H0 g0 W σ H st g _ E2 _ R q (fun v H1 st1 g1 en R1 l1 m1 r1 q1 => ?_) kx
  obtain ⟨g2, st2, d, R2, l2, m2, h2, q2, _⟩ := R1.frzR r1 q1
  split at q2
  · cases h2 with
    | obj a ho d h c =>
      cases c with
      | lst vs ds c z => exact ⟨a, rfl, .inl ⟨⟨vs, SqL.of (R2.ex a _ h)⟩, k _ H1 st2 g2 _ R2 (l1.trans l2) (m1.trans m2) (Yields.list (SqL.of h) c) z q2⟩⟩
  · cases h2 with
    | obj a ho d h c => cases c
    | tup a vs ds h c z => exact ⟨a, rfl, .inr ⟨⟨vs, R2.ex.sqT h⟩, k _ H1 st2 g2 _ R2 (l1.trans l2) (m1.trans m2) (Yields.tuple h c) z q2⟩⟩
  · exact q2.elim
/-- range(n), range(a, b) -/
def dRng1 (da : DE) : DI := fun st Q E => da st (fun en st1 => ∃ j, view st1 en = some (.int j) ∧ -(2 ^ 62) ≤ j ∧ j ≤ 16777216 ∧ Q (rangeD 0 j.toNat) st1) E
theorem qi_range1 (hg : Gl X "range") (hm : X.mg "range" = none) (ha : QE X a ta da) (hs : starEach [a] X.env = (false, eval a X.env) :: starEach [] X.env := by rfl) : QI X tg (.Call (.Name "range" p) [a] [] pos) (fun W => iRng1 (tCons (ta W) tNil)) (dRng1 da) := by
  refine ⟨fun W tk => pi_range1 hg hm (pa_cons (ha.pe W tk) pa_nil hs) hs, ?_⟩
  intro H0 g0 W σ H st g Q2 E2 Q R q k kx
  refine ha.sim H0 g0 W σ H st g _ E2 _ R q (fun v H1 st1 g1 en R1 l1 m1 r1 q1 => ?_) kx
  obtain ⟨j, ej, b1, b2, q1⟩ := q1
  exact ⟨j, by rw [(view_rdd R1 r1 ej).int], b1, by omega, k _ H1 st1 g1 _ R1 l1 m1 (Yields.range 0 _) (by rw [rangeD_length, sizeLine_eq]; omega) q1⟩
def dRng2 (da db : DE) : DI := fun st Q E => da st (fun e1 st1 => db st1 (fun e2 st2 => ∃ i j, view st2 e1.hold = some (.int i) ∧ view st2 e2 = some (.int j) ∧ (-(2 ^ 62) ≤ i ∧ i < 2 ^ 62 ∧ -(2 ^ 62) ≤ j ∧ j < 2 ^ 62 ∧ j - i ≤ 16777216) ∧ Q (rangeD i (j - i).toNat) st2) E) E
theorem qi_range2 (hg : Gl X "range") (hm : X.mg "range" = none) (ha : QE X a ta da) (hb : QE X b tb db) (hs : starEach [a, b] X.env = (false, eval a X.env) :: starEach [b] X.env := by rfl) (hs2 : starEach [b] X.env = (false, eval b X.env) :: starEach [] X.env := by rfl) :
    QI X tg (.Call (.Name "range" p) [a, b] [] pos) (fun W => iRng2 (tCons (ta W) (tCons (tb W) tNil))) (dRng2 da db) := by
  refine ⟨fun W tk => pi_range2 hg hm (pa_cons (ha.pe W tk) (pa_cons (hb.pe W tk) pa_nil hs2) hs) (by rw [hs, hs2]; rfl) (by rw [hs2]; rfl), ?_⟩
  intro H0 g0 W σ H st g Q2 E2 Q R q k kx
  refine ha.sim H0 g0 W σ H st g _ E2 _ R q (fun v H1 st1 g1 en R1 l1 m1 r1 q1 => ?_) kx
  obtain ⟨g1', R1', l1', m1', h1⟩ := R1.hold r1
  refine hb.sim H0 g0 W σ H1 st1 g1' _ E2 _ R1' q1 (fun v2 H2 st2 g2 en2 R2 l2 m2 r2 q2 => ?_) (kx.mono (l1.trans l1'))
  obtain ⟨i, j, ei, ej, ⟨bd1, bd2, bd3, bd4, bd5⟩, q2⟩ := q2
  have e1 := (view_rdd R2 ((h1.mono l2).toR (H0 := H0) (H := H2)) ei).int
  have e2 := (view_rdd R2 r2 ej).int
  exact ⟨i, j, by rw [e1, e2], ⟨bd1, bd2, bd3, bd4⟩, k _ H2 st2 g2 _ R2 ((l1.trans l1').trans l2) ((m1.trans m1').trans m2) (Yields.range i _) (by rw [rangeD_length, sizeLine_eq]; omega) q2⟩
end

/-! ### for -/
def dLoop (dg : DG) (db : DS) (N : DEnds) : List D → DSt → Prop
  | [], st => N.nx st
  | d :: ds, st => dg (.sh d) st (fun st1 => db { N with nx := dLoop dg db N ds, ct := dLoop dg db N ds, bk := N.nx } st1) N.ex
def dFor (di : DI) (dg : DG) (db : DS) : DS := fun N st => di st (fun ds st1 => dLoop dg db N ds st1) N.ex
theorem drop_cons {α : Type} {xs : List α} {i : Nat} {x : α} (h : xs[i]? = some x) : xs.drop i = x :: xs.drop (i + 1) := by
  obtain ⟨hi, e⟩ := List.getElem?_eq_some_iff.mp h
  rw [List.drop_eq_getElem_cons hi, e]
theorem sim_for {K : PySem.W.Frag} {ti : WX → TI} {tg : WX → TG} {tb : WX → TS} {di : DI} {dg : DG} {db : DS} {ws : List Nat} (hi : SimI K ti di) (hg : SimG K ws tg dg) (hb : SimS K tb db) : SimS K (fun W => tFor (ti W) (tg W) (tb W)) (dFor di dg db) := by
  intro H0 g0 W σ H st g D2 D R q kn kr kb kc kx
  refine hi H0 g0 W σ H st g _ D2.ex _ R q (fun J H1 st1 g1 ds R1 l1 m1 y zz q1 => ?_) kx
  refine ⟨fun i m σ' H' => m = ds.length - i ∧ i ≤ ds.length ∧ ∃ st' g', Rel K H0 g0 σ' H' st' g' ∧ Le g g' ∧ Le g1 g' ∧ dLoop dg db D2 (ds.drop i) st', ⟨_, rfl, Nat.zero_le _, st1, g1, R1, l1, Le.refl _, q1⟩, ?_⟩
  rintro i m σ' H' ⟨rfl, hle, st', g', R', la, lb, q'⟩
  have ex : Ex g1.G H' := lb.ex.trans R'.ex
  by_cases hlt : i < ds.length
  · obtain ⟨d, hd⟩ : ∃ d, ds[i]? = some d := ⟨ds[i], List.getElem?_eq_getElem hlt⟩
    rw [drop_cons hd] at q'
    refine .inr ⟨y.go i H' hlt ex, fun σ'' H'' => ∃ st'' g'', Rel K H0 g0 σ'' H'' st'' g'' ∧ Le g g'' ∧ Le g1 g'' ∧ dLoop dg db D2 (ds.drop (i + 1)) st'', fun σ'' H'' ⟨st'', g'', w⟩ => ⟨ds.length - (i + 1), by omega, rfl, hlt, st'', g'', w⟩, fun x H2 yy => ?_⟩
    obtain ⟨rfl, hx⟩ := y.yld i H' x H2 d hd ex yy
    refine hg H0 g0 W σ' H2 st' g' x (.sh d) _ D2.ex _ R' (Has.mono lb hx) q' (fun σ3 H3 st3 g3 R3 l3 m3 _ q3 => ?_) (kx.mono la)
    refine hb H0 g0 W σ3 H3 st3 g3 _ _ R3 q3 (fun σ4 H4 st4 g4 R4 l4 q4 => ?_) (fun v σ4 H4 st4 g4 en R4 l4 r4 q4 => ?_) (fun σ4 H4 st4 g4 R4 l4 q4 => ?_) (fun σ4 H4 st4 g4 R4 l4 q4 => ?_) (kx.mono (la.trans l3))
    · exact ⟨st4, g4, R4, (la.trans l3).trans l4, (lb.trans l3).trans l4, q4⟩
    · exact kr v σ4 H4 st4 g4 en R4 ((la.trans l3).trans l4) r4 q4
    · exact kn σ4 H4 st4 g4 R4 ((la.trans l3).trans l4) q4
    · exact ⟨st4, g4, R4, (la.trans l3).trans l4, (lb.trans l3).trans l4, q4⟩
  · have e : i = ds.length := by omega
    subst e
    rw [List.drop_length] at q'
    exact .inl ⟨y.stop _ H' (Nat.le_refl _) ex, kn σ' H' st' g' R' la q'⟩
section
variable {X : Cx} {tg iter c : Expr} {body : List Stmt} {pos : Pos} {ti : WX → TI} {tgt : WX → TG} {tb : WX → TS} {di : DI} {dg : DG} {db : DS} {tc : WX → TT} {dc : DT} {ws : List Nat}
theorem qs_for (hp : PassesOwn (model X.prog X.w) X.A X.env X.xe) (hc : X.calm = true) (hi : QI X tg iter ti di) (hg : QG X tg ws tgt dg) (hb : QSs X body tb db) (hs : ∀ x, foldedSetIterable iter X.env x = pure x := by intro _; rfl) :
    QS X (.For tg iter body [] pos) (fun W => tFor (ti W) (tgt W) (tb W)) (dFor di dg db) := ⟨fun W tk => ps_for hp hc (hi.pi W tk) (hg.pg W tk) (hb.ps W tk) hs, sim_for hi.sim hg.sim hb.sim⟩
/-! ### while -/
def dWhile (dc : DT) (db : DS) : DS := fun D st => ∃ I : Nat → DSt → Prop, (∃ m, I m st) ∧ ∀ m st, I m st →
  dc st (fun b st1 => if b = true then db { D with nx := fun st' => ∃ m', m' < m ∧ I m' st', ct := fun st' => ∃ m', m' < m ∧ I m' st', bk := D.nx } st1 else D.nx st1) D.ex
theorem qs_while (hp : PassesOwn (model X.prog X.w) X.A X.env X.xe) (hc : QT X c tc dc) (hb : QSs X body tb db) : QS X (.While c body [] pos) (fun W => tWhile (tc W) (tb W)) (dWhile dc db) := by
  refine ⟨fun W tk => ps_while hp (hc.pt W tk) (hb.ps W tk), ?_⟩
  intro H0 g0 W σ H st g D2 D R q kn kr kb kc kx
  obtain ⟨I, ⟨m0, i0⟩, turn⟩ := q
  refine ⟨fun m σ' H' => ∃ st' g', Rel X.K H0 g0 σ' H' st' g' ∧ Le g g' ∧ I m st', ⟨m0, st, g, R, Le.refl g, i0⟩, ?_⟩
  rintro m σ' H' ⟨st', g', R', la, i'⟩
  refine hc.sim H0 g0 W σ' H' st' g' _ D2.ex _ R' (turn m st' i') (fun b H1 st1 g1 R1 l1 m1 q1 => ?_) (kx.mono la)
  cases b with
  | true =>
    rw [if_pos rfl] at q1 ⊢
    refine ⟨fun σ'' H'' => ∃ m' st'' g'', m' < m ∧ Rel X.K H0 g0 σ'' H'' st'' g'' ∧ Le g g'' ∧ I m' st'', fun σ'' H'' ⟨m', st'', g'', h1, h2⟩ => ⟨m', h1, st'', g'', h2⟩, ?_⟩
    refine hb.sim H0 g0 W σ' H1 st1 g1 _ _ R1 q1 (fun σ4 H4 st4 g4 R4 l4 q4 => ?_) (fun v σ4 H4 st4 g4 en R4 l4 r4 q4 => kr v σ4 H4 st4 g4 en R4 ((la.trans l1).trans l4) r4 q4)
      (fun σ4 H4 st4 g4 R4 l4 q4 => kn σ4 H4 st4 g4 R4 ((la.trans l1).trans l4) q4) (fun σ4 H4 st4 g4 R4 l4 q4 => ?_) (kx.mono (la.trans l1))
    · obtain ⟨m', hm, i4⟩ := q4
      exact ⟨m', st4, g4, hm, R4, (la.trans l1).trans l4, i4⟩
    · obtain ⟨m', hm, i4⟩ := q4
      exact ⟨m', st4, g4, hm, R4, (la.trans l1).trans l4, i4⟩
  | false =>
    rw [if_neg Bool.false_ne_true] at q1 ⊢
    exact kn σ' H1 st1 g1 R1 (la.trans l1) q1
end
end VL

set_option Elab.async false
set_option linter.all false
set_option maxRecDepth 100000
set_option maxHeartbeats 4000000
namespace VL
open PySem PySem.Spec PyProof.Rows L2

/-! ### slots forgotten -/
def wipeS (l : List (Option En)) : List Nat → List (Option En)
  | [] => l
  | i :: is => (wipeS l is).set i none
def DSt.wipe (st : DSt) (vs : List Nat) : DSt := { st with sl := wipeS st.sl vs }
section
variable {K : PySem.W.Frag} {H0 H : Hp} {g0 g : Gh} {σ : L2.St} {st : DSt}
theorem Rel.wipe (R : Rel K H0 g0 σ H st g) : ∀ vs : List Nat, ∃ g', Rel K H0 g0 (L2.wipe σ vs) H (st.wipe vs) g' ∧ Le g g' ∧ Lt g g' ∧ g'.G = g.G ∧ g'.tm = g.tm
  | [] => ⟨g, R, Le.refl g, Lt.refl g, rfl, rfl⟩
  | i :: is => by
    obtain ⟨g', R', l, m, e1, e2⟩ := Rel.wipe R is
    exact ⟨g'.drop i, R'.drop i none, l.trans (g'.drop_le i), m.trans (g'.drop_lt i), e1, e2⟩
theorem wipeS_in {i : Nat} : ∀ {vs : List Nat} {l : List (Option En)}, i ∈ vs → ∀ en, (wipeS l vs)[i]? ≠ some (some en)
  | v :: vs, l, h, en => by
    unfold wipeS
    by_cases e : v = i
    · subst e
      by_cases hl : v < (wipeS l vs).length
      · rw [List.getElem?_set_self hl]; intro z; cases z
      · rw [List.getElem?_eq_none (by rw [List.length_set]; omega)]; intro z; cases z
    · rw [List.getElem?_set_ne e]
      rcases List.mem_cons.mp h with z | z
      · exact absurd z.symm e
      · exact wipeS_in z en
/-- the slots vs are not told of: other values may stand there -/
theorem Rel.anew {σ' : L2.St} {vs : List Nat} (R : Rel K H0 g0 σ H st g) (hn : ∀ i ∈ vs, ∀ en, st.sl[i]? ≠ some (some en)) (hl : σ'.length = σ.length) (he : ∀ j, j ∉ vs → σ'[j]? = σ[j]?) : Rel K H0 g0 σ' H st g where
  ex := R.ex
  le := R.le
  lt := R.lt
  ng := R.ng
  h0 := R.h0
  td := R.td
  cg := fun a t e => by
    obtain ⟨q1, q2, q3⟩ := R.cg a t e
    refine ⟨q1, q2, ?_⟩
    cases t with
    | box => exact q3
    | mu n => exact q3
    | own i =>
      obtain ⟨d, o, w0, w2, w1, r⟩ := q3
      exact ⟨d, o, w0, by rw [he i fun z => hn i z _ w0]; exact w2, w1, r⟩
    | tmp => exact q3
  gf := R.gf
  fr := R.fr
  sl := fun i en e => by
    have q := R.sl i en e
    have ne : i ∉ vs := fun z => hn i z _ e
    cases en with
    | sh d =>
      obtain ⟨v, e1, r⟩ := q
      exact ⟨v, by rw [he i ne]; exact e1, r⟩
    | ow d => exact q
    | lc k => exact q
  mu := R.mu
  inj := R.inj
  len := R.len.trans hl.symm
/-- a new cell for the while being -/
theorem Rel.toTmp (R : Rel K H0 g0 σ H st g) {p : Addr} {ho : HO} {d : D} (hp : H p = none) (c : Con K g ho d) :
    ∃ g', Rel K H0 g0 σ (upd H p ho) st g' ∧ Le g g' ∧ Lt g g' ∧ g'.C p = some .tmp ∧ g'.tm p = some d ∧ H0 p = none := by
  have R1 := R.temp (ho := ho) hp
  have h1 := R.noG hp
  have h2 := R.noC hp
  have h3 := R.fresh hp
  let g' : Gh := { G := g.G, C := fun b => if b = p then some .tmp else g.C b, tm := fun b => if b = p then some d else g.tm b }
  have l : Le g g' := by
    refine ⟨Ex.refl _, fun a t q k => ?_⟩
    show (if a = p then some .tmp else g.C a) = some t
    rw [if_neg]
    · exact q
    · rintro rfl; rw [h2] at q; cases q
  have lt : Lt g g' := by
    intro a u q k
    have n : a ≠ p := by rintro rfl; rw [h2] at q; cases q
    exact ⟨by show (if a = p then some .tmp else g.C a) = some .tmp; rw [if_neg n]; exact q, by show (if a = p then some d else g.tm a) = some u; rw [if_neg n]; exact k⟩
  have off : ∀ {a t}, g'.C a = some t → (a = p ∧ t = .tmp) ∨ (a ≠ p ∧ g.C a = some t) := fun {a t} q => by
    have q' : (if a = p then some .tmp else g.C a) = some t := q
    by_cases z : a = p
    · rw [if_pos z] at q'; cases q'; exact .inl ⟨z, rfl⟩
    · rw [if_neg z] at q'; exact .inr ⟨z, q'⟩
  refine ⟨g', ⟨R1.ex, R1.le.trans l, R1.lt.trans lt, R1.ng, R1.h0, R1.td, fun a t q => ?_, R1.gf, R1.fr, fun i en q => ?_, fun n u q => ?_, fun a b n q1 q2 => ?_, R1.len⟩, l, lt, if_pos rfl, if_pos rfl, h3⟩
  · rcases off q with ⟨rfl, rfl⟩ | ⟨z, q'⟩
    · exact ⟨h1, .inl h3, d, ho, if_pos rfl, upd_same, c.mono l⟩
    · obtain ⟨w1, w2, w3⟩ := R1.cg a t q'
      refine ⟨w1, w2, ?_⟩
      cases t with
      | box => exact w3
      | mu j =>
        obtain ⟨u, o, x0, x1, r⟩ := w3
        exact ⟨u, o, x0, x1, r.mono l⟩
      | own j =>
        obtain ⟨u, o, x0, x2, x1, r⟩ := w3
        exact ⟨u, o, x0, x2, x1, r.mono l⟩
      | tmp =>
        obtain ⟨u, o, x0, x1, r⟩ := w3
        exact ⟨u, o, by show (if a = p then some d else g.tm a) = some u; rw [if_neg z]; exact x0, x1, r.mono l⟩
  · have w := R1.sl i en q
    cases en with
    | sh u =>
      obtain ⟨v, e1, r⟩ := w
      exact ⟨v, e1, r.mono l⟩
    | ow u =>
      obtain ⟨a, w⟩ := w
      refine ⟨a, ?_⟩
      show (if a = p then some .tmp else g.C a) = some (.own i)
      rw [if_neg, w]
      rintro rfl
      rw [h2] at w; cases w
    | lc k => exact w
  · obtain ⟨a, w⟩ := R1.mu n u q
    exact ⟨a, l.cs a _ w rfl⟩
  · rcases off q1 with ⟨_, z⟩ | ⟨_, z1⟩
    · cases z
    · rcases off q2 with ⟨_, z⟩ | ⟨_, z2⟩
      · cases z
      · exact R1.inj a b n z1 z2
/-- the cell is written -/
theorem Rel.writeTmp (R : Rel K H0 g0 σ H st g) {p : Addr} {ho : HO} {d : D} (ht : g.C p = some .tmp) (h3 : H0 p = none) (c : Con K g ho d) :
    ∃ g', Rel K H0 g0 σ (upd H p ho) st g' ∧ Le g g' ∧ (∀ a u, a ≠ p → g.C a = some .tmp → g.tm a = some u → g'.C a = some .tmp ∧ g'.tm a = some u) ∧ g'.C p = some .tmp ∧ g'.tm p = some d := by
  let g' : Gh := { g with tm := fun b => if b = p then some d else g.tm b }
  have l : Le g g' := ⟨Ex.refl _, fun _ _ q _ => q⟩
  have n0 : ∀ {a t}, g0.C a = some t → a ≠ p := fun {a t} e => by
    rintro rfl
    exact R.h0 a t e h3
  refine ⟨g', ⟨fun a o q => ?_, R.le.trans l, fun a u q w => ?_, R.ng, R.h0, R.td, fun a t q => ?_, R.gf, fun a o q w => ?_, fun i en q => ?_, R.mu, R.inj, R.len⟩, l, fun a u n q w => ⟨q, by show (if a = p then some d else g.tm a) = some u; rw [if_neg n]; exact w⟩, ht, if_pos rfl⟩
  · have e := R.ex a o q
    rw [upd_ne]
    · exact e
    · rintro rfl
      have := (R.cg a _ ht).1
      rw [q] at this; cases this
  · have z := R.lt a u q w
    exact ⟨z.1, by show (if a = p then some d else g.tm a) = some u; rw [if_neg (n0 q)]; exact z.2⟩
  · obtain ⟨w1, w2, w3⟩ := R.cg a t q
    refine ⟨w1, w2, ?_⟩
    by_cases z : a = p
    · subst z
      have q' : g.C a = some t := q
      rw [ht] at q'; cases q'
      exact ⟨d, ho, if_pos rfl, upd_same, c.mono l⟩
    · cases t with
      | box =>
        obtain ⟨i, b, m, k, e1, r⟩ := w3
        exact ⟨i, b, m, k, by rw [upd_ne z]; exact e1, r⟩
      | mu j =>
        obtain ⟨u, o, x0, x1, r⟩ := w3
        exact ⟨u, o, x0, by rw [upd_ne z]; exact x1, r.mono l⟩
      | own j =>
        obtain ⟨u, o, x0, x2, x1, r⟩ := w3
        exact ⟨u, o, x0, x2, by rw [upd_ne z]; exact x1, r.mono l⟩
      | tmp =>
        obtain ⟨u, o, x0, x1, r⟩ := w3
        exact ⟨u, o, by show (if a = p then some d else g.tm a) = some u; rw [if_neg z]; exact x0, by rw [upd_ne z]; exact x1, r.mono l⟩
  · rw [upd_ne]
    · exact R.fr a o q w
    · rintro rfl; rw [h3] at q; cases q
  · have w := R.sl i en q
    cases en with
    | sh u =>
      obtain ⟨v, e1, r⟩ := w
      exact ⟨v, e1, r.mono l⟩
    | ow u => exact w
    | lc k => exact w
/-- the cell is in hand -/
theorem Rel.ofTmp (R : Rel K H0 g0 σ H st g) {p : Addr} {d : D} (ht : g.C p = some .tmp) (hd : g.tm p = some d) (h3 : H0 p = none) :
    ∃ g', Rel K H0 g0 σ H st g' ∧ Le g g' ∧ (∀ a u, a ≠ p → g.C a = some .tmp → g.tm a = some u → g'.C a = some .tmp ∧ g'.tm a = some u) ∧ HasR K H0 σ H g' (.ref p) (.ow d) := by
  let g' : Gh := { g with C := fun b => if b = p then none else g.C b }
  have l : Le g g' := by
    refine ⟨Ex.refl _, fun a t q k => ?_⟩
    show (if a = p then none else g.C a) = some t
    rw [if_neg]
    · exact q
    · rintro rfl; rw [ht] at q; cases q; cases k
  have off : ∀ {a t}, g'.C a = some t → a ≠ p ∧ g.C a = some t := fun {a t} q => by
    have q' : (if a = p then none else g.C a) = some t := q
    by_cases z : a = p
    · rw [if_pos z] at q'; cases q'
    · rw [if_neg z] at q'; exact ⟨z, q'⟩
  have n0 : ∀ {a t}, g0.C a = some t → a ≠ p := fun {a t} e => by
    rintro rfl
    exact R.h0 a t e h3
  obtain ⟨w1, _, u, ho, x0, x1, x2⟩ := R.cg p _ ht
  rw [hd] at x0; cases x0
  refine ⟨g', ⟨R.ex, R.le.trans l, fun a u q w => ?_, R.ng, R.h0, R.td, fun a t q => ?_, R.gf, R.fr, fun i en q => ?_, fun n u q => ?_, fun a b n q1 q2 => R.inj a b n (off q1).2 (off q2).2, R.len⟩, l, fun a u n q w => ⟨by show (if a = p then none else g.C a) = some .tmp; rw [if_neg n]; exact q, w⟩, p, ho, rfl, x1, x2.mono l, w1, if_pos rfl, h3⟩
  · have z := R.lt a u q w
    exact ⟨by show (if a = p then none else g.C a) = some .tmp; rw [if_neg (n0 q)]; exact z.1, z.2⟩
  · obtain ⟨z, q'⟩ := off q
    obtain ⟨y1, y2, y3⟩ := R.cg a t q'
    refine ⟨y1, y2, ?_⟩
    cases t with
    | box => exact y3
    | mu j =>
      obtain ⟨u, o, x0, x1, r⟩ := y3
      exact ⟨u, o, x0, x1, r.mono l⟩
    | own j =>
      obtain ⟨u, o, x0, x2, x1, r⟩ := y3
      exact ⟨u, o, x0, x2, x1, r.mono l⟩
    | tmp =>
      obtain ⟨u, o, x0, x1, r⟩ := y3
      exact ⟨u, o, x0, x1, r.mono l⟩
  · have w := R.sl i en q
    cases en with
    | sh u =>
      obtain ⟨v, e1, r⟩ := w
      exact ⟨v, e1, r.mono l⟩
    | ow u =>
      obtain ⟨a, w⟩ := w
      refine ⟨a, ?_⟩
      show (if a = p then none else g.C a) = some (.own i)
      rw [if_neg, w]
      rintro rfl
      rw [ht] at w; cases w
    | lc k => exact w
  · obtain ⟨a, w⟩ := R.mu n u q
    exact ⟨a, l.cs a _ w rfl⟩
end

/-! ### [elt for target in iter if ..] -/
def dLcL (vs : List Nat) (dg : DG) (dt : DT) (de : DE) (Q : En → DSt → Prop) : List D → List D → DSt → Prop
  | [], acc, st => Q (.ow (.lst acc)) st
  | d :: ds, acc, st => dg (.sh d) st (fun st1 => dt st1 (fun b st2 => if b = true then de st2 (fun en st3 => dFrz en st3 fun y st4 => dLcL vs dg dt de Q ds (acc ++ [y]) (st4.wipe vs)) (fun _ _ => False)
      else dLcL vs dg dt de Q ds acc (st2.wipe vs)) (fun _ _ => False)) (fun _ _ => False)
def dLc (vs : List Nat) (di : DI) (dg : DG) (dt : DT) (de : DE) : DE := fun st Q E => di st (fun ds st1 => dLcL vs dg dt de Q ds [] (st1.wipe vs)) E
abbrev W0 : WX := fun _ _ _ _ => False
theorem wipe_len (σ : L2.St) : ∀ vs : List Nat, (L2.wipe σ vs).length = σ.length
  | [] => rfl
  | i :: is => by
    show ((L2.wipe σ is).set i none).length = _
    rw [List.length_set, wipe_len σ is]
theorem wipe_at {σ : L2.St} {j : Nat} : ∀ {vs : List Nat}, j ∉ vs → (L2.wipe σ vs)[j]? = σ[j]?
  | [], _ => rfl
  | i :: is, h => by
    show ((L2.wipe σ is).set i none)[j]? = _
    rw [List.getElem?_set_ne (fun e => h (by rw [e]; exact List.mem_cons_self)), wipe_at fun z => h (List.mem_cons_of_mem _ z)]
theorem wipe_in {σ : L2.St} {j : Nat} (hj : j < σ.length) : ∀ {vs : List Nat}, j ∈ vs → (L2.wipe σ vs)[j]? = some none
  | i :: is, h => by
    show ((L2.wipe σ is).set i none)[j]? = _
    by_cases e : i = j
    · subst e
      rw [List.getElem?_set_self (by rw [wipe_len]; exact hj)]
    · rw [List.getElem?_set_ne e]
      rcases List.mem_cons.mp h with z | z
      · exact absurd z.symm e
      · exact wipe_in hj z
theorem wipe_same {σ σ' : L2.St} {vs : List Nat} (hl : σ'.length = σ.length) (he : ∀ j, j ∉ vs → σ'[j]? = (L2.wipe σ vs)[j]?) : L2.wipe σ' vs = L2.wipe σ vs := by
  apply List.ext_getElem?
  intro j
  by_cases h : j ∈ vs
  · by_cases hj : j < σ.length
    · rw [wipe_in hj h, wipe_in (by rw [hl]; exact hj) h]
    · rw [List.getElem?_eq_none (by rw [wipe_len, hl]; omega), List.getElem?_eq_none (by rw [wipe_len]; omega)]
  · rw [wipe_at h, he j h]
theorem sim_lc {K : PySem.W.Frag} {ti : WX → TI} {tg : WX → TG} {tt : WX → TT} {te : WX → TE} {di : DI} {dg : DG} {dt : DT} {de : DE} {ws vs : List Nat} (hi : SimI K ti di) (hg : SimG K ws tg dg) (ht : SimT K tt dt) (he : SimE K te de) (hw : ∀ i ∈ ws, i ∈ vs) :
    SimE K (fun W => tLc (ti W) (tg W0) (tt W0) (te W0) vs) (dLc vs di dg dt de) := by
  intro H0 g0 W σ H st g Q2 E2 Q R q k kx
  refine hi H0 g0 W σ H st g _ E2 _ R q (fun J H1 st1 g1 ds R1 l1 m1 y zz q1 => ?_) kx
  intro p hp
  obtain ⟨gw, Rw, lw, mw, _, _⟩ := R1.wipe vs
  obtain ⟨g2, R2, l2, m2, t2, d2, hz⟩ := Rw.toTmp (ho := .lst []) (d := .lst []) hp (Con.lst [] [] .nil (Nat.zero_le _))
  have px : ∀ {g' : Gh}, PostX K H0 g0 g' (fun _ _ => False) W0 := fun {g'} ex cls dx σ' H' st' g'' _ _ _ z => z.elim
  -- what holds between two turns
  let Inv : Nat → Hp → List D → DSt → Gh → Prop := fun i H' acc st' g' => Rel K H0 g0 (L2.wipe σ vs) H' st' g' ∧ Le g1 g' ∧ (∀ a u, a ≠ p → g1.C a = some .tmp → g1.tm a = some u → g'.C a = some .tmp ∧ g'.tm a = some u) ∧ g'.C p = some .tmp ∧ g'.tm p = some (.lst acc) ∧
    (∀ j ∈ vs, ∀ en, st'.sl[j]? ≠ some (some en)) ∧ acc.length ≤ i
  have lam : ∀ {a u}, g1.C a = some .tmp → g1.tm a = some u → a ≠ p := fun {a u} z _ => by
    rintro rfl
    rw [R1.noC hp] at z; cases z
  refine ⟨fun i m H' => m = ds.length - i ∧ i ≤ ds.length ∧ ∃ acc st' g', Inv i H' acc st' g' ∧ dLcL vs dg dt de Q2 (ds.drop i) acc st', ⟨_, rfl, Nat.zero_le _, [], st1.wipe vs, g2, ⟨R2, lw.trans l2, fun a u _ z w => m2 a u (mw a u z w).1 (mw a u z w).2, t2, d2, fun j hj en => wipeS_in hj en, Nat.le_refl _⟩, q1⟩, ?_⟩
  rintro i m H' ⟨rfl, hle, acc, st', g', ⟨R', la, lb, tp, dp, hn, hlen⟩, q'⟩
  have ex : Ex g1.G H' := la.ex.trans R'.ex
  by_cases hlt : i < ds.length
  · obtain ⟨d, hd⟩ : ∃ d, ds[i]? = some d := ⟨ds[i], List.getElem?_eq_getElem hlt⟩
    rw [drop_cons hd] at q'
    refine .inr ⟨y.go i H' hlt ex, fun H'' => ∃ acc' st'' g'', Inv (i + 1) H'' acc' st'' g'' ∧ dLcL vs dg dt de Q2 (ds.drop (i + 1)) acc' st'', fun H'' ⟨acc', st'', g'', w⟩ => ⟨ds.length - (i + 1), by omega, rfl, hlt, acc', st'', g'', w⟩, fun x H3 yy => ?_⟩
    obtain ⟨rfl, hx⟩ := y.yld i H' x H3 d hd ex yy
    refine hg H0 g0 W0 (L2.wipe σ vs) H3 st' g' x (.sh d) _ _ _ R' (Has.mono la hx) q' (fun σ4 H4 st4 g4 R4 l4 m4 out q4 => ?_) px
    have len4 : σ4.length = σ.length := by rw [out.1, wipe_len]
    have same4 : L2.wipe σ4 vs = L2.wipe σ vs := wipe_same len4 fun j hj => out.2 j fun z => hj (hw j z)
    refine ⟨same4, ?_⟩
    refine ht H0 g0 W0 σ4 H4 st4 g4 _ _ _ R4 q4 (fun b H5 st5 g5 R5 l5 m5 q5 => ?_) px
    have kp5 := m4.trans m5
    have L5 := la.trans (l4.trans l5)
    -- back to the outer slots
    have back : ∀ {H6 : Hp} {st6 : DSt} {g6 : Gh}, Rel K H0 g0 σ4 H6 st6 g6 → ∃ g7, Rel K H0 g0 (L2.wipe σ vs) H6 (st6.wipe vs) g7 ∧ Le g6 g7 ∧ Lt g6 g7 := fun {H6 st6 g6} R6 => by
      obtain ⟨g7, R7, l7, m7, _, _⟩ := R6.wipe vs
      rw [same4] at R7
      exact ⟨g7, R7, l7, m7⟩
    cases b with
    | false =>
      rw [if_neg Bool.false_ne_true] at q5 ⊢
      obtain ⟨g7, R7, l7, m7⟩ := back R5
      have kp7 := kp5.trans m7
      exact ⟨acc, st5.wipe vs, g7, ⟨R7, L5.trans l7, fun a u n z w => kp7 a u (lb a u n z w).1 (lb a u n z w).2, (kp7 p _ tp dp).1, (kp7 p _ tp dp).2, fun j hj en => wipeS_in hj en, Nat.le_succ_of_le hlen⟩, q5⟩
    | true =>
      rw [if_pos rfl] at q5 ⊢
      refine he H0 g0 W0 σ4 H5 st5 g5 _ _ _ R5 q5 (fun v H6 st6 g6 en R6 l6 m6 r6 q6 => ?_) px
      obtain ⟨g7, st7, yd, R7, l7, m7, h7, q7, _⟩ := R6.frzR r6 q6
      obtain ⟨g8, R8, l8, m8⟩ := back R7
      have kp8 := (kp5.trans (m6.trans m7)).trans m8
      have tp8 := (kp8 p _ tp dp).1
      have dp8 := (kp8 p _ tp dp).2
      obtain ⟨_, _, u, ho, x0, x1, x2⟩ := R8.cg p _ tp8
      rw [dp8] at x0
      cases x0
      cases x2 with
      | lst us ds2 c z =>
        have hv : HasL K g8 (us ++ [v]) (acc ++ [yd]) := c.append (.cons _ _ _ _ (h7.mono l8) .nil)
        have hz2 : (acc ++ [yd]).length ≤ sizeLine := by
          rw [List.length_append]
          show acc.length + 1 ≤ sizeLine
          omega
        obtain ⟨g9, R9, l9, m9, t9, d9⟩ := R8.writeTmp tp8 hz (Con.lst _ _ hv hz2)
        refine ⟨us, x1, ?_, acc ++ [yd], st7.wipe vs, g9, ⟨R9, (L5.trans (l6.trans l7)).trans (l8.trans l9), fun a w n z1 w1 => ?_, t9, d9, fun j hj en => wipeS_in hj en, ?_⟩, q7⟩
        · rw [c.length]; omega
        · have e1 := lb a w n z1 w1
          have e2 := kp8 a w e1.1 e1.2
          exact m9 a w n e2.1 e2.2
        · rw [List.length_append]
          show acc.length + 1 ≤ i + 1
          omega
  · have e : i = ds.length := by omega
    subst e
    rw [List.drop_length] at q'
    refine .inl ⟨y.stop _ H' (Nat.le_refl _) ex, ?_⟩
    obtain ⟨g3, R3, l3, m3, r3⟩ := R'.ofTmp tp dp hz
    have R4 : Rel K H0 g0 σ H' st' g3 := R3.anew hn (wipe_len σ vs).symm fun j hj => (wipe_at hj).symm
    refine k (.ref p) H' st' g3 (.ow (.lst acc)) R4 ((l1.trans la).trans l3) (fun a u z w => ?_) r3 q'
    have e1 := m1 a u z w
    have n := lam e1.1 e1.2
    have e2 := lb a u n e1.1 e1.2
    exact m3 a u n e2.1 e2.2
end VL

set_option Elab.async false
set_option linter.all false
set_option maxRecDepth 100000
set_option maxHeartbeats 4000000
namespace VL
open PySem PySem.Spec PyProof.Rows L2

section
variable {X : Cx} {elt tg iter : Expr} {ifs : List Expr} {scope : Scope} {own : List (Str × Nat)} {pos : Pos} {ti : WX → TI} {tgt : WX → TG} {tt : WX → TT} {te : WX → TE} {di : DI} {dg : DG} {dt : DT} {de : DE} {ws : List Nat}
structure QTs (X : Cx) (ifs : List Expr) (t : WX → TT) (d : DT) : Prop where
  pt : ∀ W, Takes X W → PTs X ifs (t W)
  sim : SimT X.K t d
def dYes : DT := fun st Q _ => Q true st
theorem qts_nil : QTs X [] (fun _ => tYes) dYes := ⟨fun _ _ => pts_nil, fun H0 g0 W σ H st g Q2 E2 Q R q k kx => k true H st g R (Le.refl g) (Lt.refl g) q⟩
theorem qts_one {c : Expr} (h : QT X c tt dt) : QTs X [c] tt dt := ⟨fun W tk => pts_one (h.pt W tk), h.sim⟩
theorem q_lc (own : List (Str × Nat)) (hc : X.calm = true) (hN : X.N.Nodup) (hi : QI X tg iter ti di) (ok : BlkOk X.N X.env.scope scope own)
    (hg : ∀ (s : Shared) (H : Hp) (C : Addr) (cl : List (Str × Addr)) (fp : List Addr), QG (X.blk s H scope (compEnvC scope cl C X.env) fp) tg ws tgt dg) (ht : ∀ (s : Shared) (H : Hp) (C : Addr) (cl : List (Str × Addr)) (fp : List Addr), QTs (X.blk s H scope (compEnvC scope cl C X.env) fp) ifs tt dt)
    (he : ∀ (s : Shared) (H : Hp) (C : Addr) (cl : List (Str × Addr)) (fp : List Addr), QE (X.blk s H scope (compEnvC scope cl C X.env) fp) elt te de) (hw : ∀ i ∈ ws, i ∈ own.map (·.2) := by decide) (hs : ∀ x, foldedSetIterable iter X.env x = pure x := by intro _; rfl) :
    QE X (.ListComp elt [⟨tg, iter, ifs, 0⟩] scope pos) (fun W => tLc (ti W) (tgt W0) (tt W0) (te W0) (own.map (·.2))) (dLc (own.map (·.2)) di dg dt de) :=
  ⟨fun W tk => pe_lc hc hN (hi.pi W tk) ok (fun s H C cl fp => (hg s H C cl fp).pg W0 takes0) (fun s H C cl fp => (ht s H C cl fp).pt W0 takes0) (fun s H C cl fp => (he s H C cl fp).pe W0 takes0) hs,
    sim_lc hi.sim (hg X.s_0 X.H_0 0 [] []).sim (ht X.s_0 X.H_0 0 [] []).sim (he X.s_0 X.H_0 0 [] []).sim hw⟩
theorem qs_setLc {i : Nat} {y : Str} {py spos : Pos} (own : List (Str × Nat)) (hc : X.calm = true) (hN : X.N.Nodup) (hy : X.N[i]? = some y) (hyl : X.env.scope.names.lookup y = some .local)
    (hsw : swapsWith (.ListComp elt [⟨tg, iter, ifs, 0⟩] scope pos) (some (.Name y py)) spos.line X.env = pure true) (hi : QI X tg iter ti di) (ok : BlkOk X.N X.env.scope scope own)
    (hg : ∀ (s : Shared) (H : Hp) (C : Addr) (cl : List (Str × Addr)) (fp : List Addr), QG (X.blk s H scope (compEnvC scope cl C X.env) fp) tg ws tgt dg) (ht : ∀ (s : Shared) (H : Hp) (C : Addr) (cl : List (Str × Addr)) (fp : List Addr), QTs (X.blk s H scope (compEnvC scope cl C X.env) fp) ifs tt dt)
    (he : ∀ (s : Shared) (H : Hp) (C : Addr) (cl : List (Str × Addr)) (fp : List Addr), QE (X.blk s H scope (compEnvC scope cl C X.env) fp) elt te de) (hw : ∀ i ∈ ws, i ∈ own.map (·.2) := by decide) (hs : ∀ x, foldedSetIterable iter X.env x = pure x := by intro _; rfl) :
    QS X (.Assign [.Name y py] (.ListComp elt [⟨tg, iter, ifs, 0⟩] scope pos) spos) (fun W => tAsg (tLc (ti W) (tgt W0) (tt W0) (te W0) (own.map (·.2))) (gName i)) (dAsg (dLc (own.map (·.2)) di dg dt de) (dName i)) :=
  ⟨fun W tk => ps_setLc hc hN hy hyl hsw (hi.pi W tk) ok (fun s H C cl fp => (hg s H C cl fp).pg W0 takes0) (fun s H C cl fp => (ht s H C cl fp).pt W0 takes0) (fun s H C cl fp => (he s H C cl fp).pe W0 takes0) hs,
    sim_asg (tg := fun _ => gName i) (sim_lc hi.sim (hg X.s_0 X.H_0 0 [] []).sim (ht X.s_0 X.H_0 0 [] []).sim (he X.s_0 X.H_0 0 [] []).sim hw) sim_name⟩
end

/-! ### targets: (a, b, ..) -/
abbrev DGs := List D → DSt → (DSt → Prop) → DX → Prop
def SimGs (K : PySem.W.Frag) (ws : List Nat) (t : WX → TGs) (d : DGs) : Prop :=
  ∀ H0 g0 W σ H st g vs ds (Q2 : DSt → Prop) (E2 : DX) (Q : L2.St → Hp → Prop), Rel K H0 g0 σ H st g → HasL K g vs ds → d ds st Q2 E2 →
    (∀ σ' H' st' g', Rel K H0 g0 σ' H' st' g' → Le g g' → Lt g g' → But ws σ σ' → Q2 st' → Q σ' H') → PostX K H0 g0 g E2 W → t W vs σ H Q
structure QGs (X : Cx) (es : List Expr) (ws : List Nat) (t : WX → TGs) (d : DGs) : Prop where
  pgs : ∀ W, Takes X W → PGs X es (t W)
  sim : SimGs X.K ws t d
def dgNil : DGs := fun ds st Q _ => ds = [] ∧ Q st
def dgCons (d : DG) (r : DGs) : DGs := fun ds st Q E => ∃ x xs, ds = x :: xs ∧ d (.sh x) st (fun st1 => r xs st1 Q E) E
section
variable {X : Cx} {e a b c : Expr} {es : List Expr} {pos : Pos} {tg : WX → TG} {dg : DG} {tgs : WX → TGs} {dgs : DGs} {ws ws' : List Nat} {te ta tb : WX → TE} {de da db : DE}
theorem qgs_nil : QGs X [] [] (fun _ => gNil) dgNil := ⟨fun _ _ => pgs_nil, fun H0 g0 W σ H st g vs ds Q2 E2 Q R hl q k kx => by
  obtain ⟨rfl, q⟩ := q
  cases hl
  exact ⟨rfl, k σ H st g R (Le.refl g) (Lt.refl g) ⟨rfl, fun _ _ => rfl⟩ q⟩⟩
theorem qgs_cons (h1 : QG X e ws tg dg) (h2 : QGs X es ws' tgs dgs) (hs : (assignEach (e :: es) X.env).map (·.2) = assign e X.env :: (assignEach es X.env).map (·.2) := by rfl) : QGs X (e :: es) (ws ++ ws') (fun W => gCons (tg W) (tgs W)) (dgCons dg dgs) := by
  refine ⟨fun W tk => pgs_cons (h1.pg W tk) (h2.pgs W tk) hs, ?_⟩
  intro H0 g0 W σ H st g vs ds Q2 E2 Q R hl q k kx
  obtain ⟨x, xs, rfl, q⟩ := q
  cases hl with
  | cons v _ vs _ h t =>
    refine ⟨v, vs, rfl, ?_⟩
    refine h1.sim H0 g0 W σ H st g v (.sh x) _ E2 _ R h q (fun σ1 H1 st1 g1 R1 l1 m1 o1 q1 => ?_) kx
    refine h2.sim H0 g0 W σ1 H1 st1 g1 vs xs _ E2 _ R1 (t.mono l1) q1 (fun σ2 H2 st2 g2 R2 l2 m2 o2 q2 => ?_) (kx.mono l1)
    refine k σ2 H2 st2 g2 R2 (l1.trans l2) (m1.trans m2) ⟨o2.1.trans o1.1, fun j hj => ?_⟩ q2
    rw [o2.2 j fun z => hj (List.mem_append_right _ z), o1.2 j fun z => hj (List.mem_append_left _ z)]
/-- (a, b, ..) = a tuple -/
def dgTup (n : Nat) (r : DGs) : DG := fun en st Q E => ∃ ds, view st en = some (.tup ds) ∧ ds.length = n ∧ r ds st Q E
theorem qg_tup {k n : _} (hc : X.calm = true) (h : QGs X es ws tgs dgs) (hn : (assignEach es X.env).length = n := by rfl) (hst : (assignEach es X.env).findIdx? (·.1) = none := by rfl) : QG X (.Tuple es k pos) ws (fun W => gTup X.K n (tgs W)) (dgTup n dgs) := by
  refine ⟨fun W tk => pg_tup hc (h.pgs W tk) hn hst, ?_⟩
  intro H0 g0 W σ H st g v en Q2 E2 Q R r q k kx
  obtain ⟨ds, ed, el, q⟩ := q
  obtain ⟨a, vs, rfl, ta, ha, za, _⟩ := (view_rdd R r ed).tup R.ex
  exact ⟨a, vs, rfl, ta, by rw [ha.length]; exact el, h.sim H0 g0 W σ H st g vs ds _ E2 _ R ha q k kx⟩
/-- (a, b, ..) = a list -/
def dgUnl (n : Nat) (r : DGs) : DG := fun en st Q E => ∃ ds, view st en = some (.lst ds) ∧ ds.length = n ∧ r ds st Q E
theorem qg_unl {k n : _} (hc : X.calm = true) (h : QGs X es ws tgs dgs) (hn : (assignEach es X.env).length = n := by rfl) (hst : (assignEach es X.env).findIdx? (·.1) = none := by rfl) : QG X (.Tuple es k pos) ws (fun W => gUnl X.K n (tgs W)) (dgUnl n dgs) := by
  refine ⟨fun W tk => pg_unl hc (h.pgs W tk) hn hst, ?_⟩
  intro H0 g0 W σ H st g v en Q2 E2 Q R r q k kx
  obtain ⟨ds, ed, el, q⟩ := q
  obtain ⟨a, vs, rfl, ta, ha, za⟩ := (view_rdd R r ed).lst R.ex
  exact ⟨a, vs, rfl, SqL.of ta, by rw [ha.length]; exact el, h.sim H0 g0 W σ H st g vs ds _ E2 _ R ha q k kx⟩
end
/-! ### a slot's own thing is written -/
section
variable {K : PySem.W.Frag} {H0 H : Hp} {g0 g : Gh} {σ : L2.St} {st : DSt}
theorem Rel.writeOw (R : Rel K H0 g0 σ H st g) {i : Nat} {a : Addr} {d' : D} {ho : HO} (ha : g.C a = some (.own i)) (c : Con K g ho d') : Rel K H0 g0 σ (upd H a ho) { st with sl := st.sl.set i (some (.ow d')) } g := by
  obtain ⟨w1, w2, d, o, x0, x2, x1, r⟩ := R.cg a _ ha
  have h3 : H0 a = none := by
    rcases w2 with q | q
    · exact q
    · exact absurd q (R.ng a i)
  have hi : i < st.sl.length := (List.getElem?_eq_some_iff.mp x0).1
  refine ⟨fun b o q => ?_, R.le, R.lt, R.ng, R.h0, R.td, fun b t q => ?_, R.gf, fun b o q w => ?_, fun j en q => ?_, R.mu, R.inj, by rw [List.length_set]; exact R.len⟩
  · have e := R.ex b o q
    rw [upd_ne]
    · exact e
    · rintro rfl; rw [w1] at q; cases q
  · obtain ⟨y1, y2, y3⟩ := R.cg b t q
    refine ⟨y1, y2, ?_⟩
    by_cases z : b = a
    · subst z
      rw [ha] at q; cases q
      exact ⟨d', ho, List.getElem?_set_self hi, x2, upd_same, c⟩
    · cases t with
      | box =>
        obtain ⟨n, b', m, k, e1, r⟩ := y3
        exact ⟨n, b', m, k, by rw [upd_ne z]; exact e1, r⟩
      | mu j =>
        obtain ⟨u, o, x0, x1, r⟩ := y3
        exact ⟨u, o, x0, by rw [upd_ne z]; exact x1, r⟩
      | own j =>
        obtain ⟨u, o, v0, v2, v1, r⟩ := y3
        have ij : i ≠ j := by
          rintro rfl
          rw [x2] at v2; cases v2; exact z rfl
        exact ⟨u, o, by rw [List.getElem?_set_ne ij]; exact v0, v2, by rw [upd_ne z]; exact v1, r⟩
      | tmp =>
        obtain ⟨u, o, x0, x1, r⟩ := y3
        exact ⟨u, o, x0, by rw [upd_ne z]; exact x1, r⟩
  · rw [upd_ne]
    · exact R.fr b o q w
    · rintro rfl; rw [h3] at q; cases q
  · by_cases ij : i = j
    · subst ij
      rw [List.getElem?_set_self hi] at q
      cases q
      exact ⟨a, ha⟩
    · rw [List.getElem?_set_ne ij] at q
      exact R.sl j en q
/-- a shared changing thing is written -/
theorem Rel.writeMu (R : Rel K H0 g0 σ H st g) {n : Nat} {a : Addr} {d' : D} {ho : HO} (ha : g.C a = some (.mu n)) (c : Con K g ho d') : Rel K H0 g0 σ (upd H a ho) { st with gs := { st.gs with mu := st.gs.mu.set n d' } } g := by
  obtain ⟨w1, w2, d, o, x0, x1, r⟩ := R.cg a _ ha
  have hi : n < st.gs.mu.length := (List.getElem?_eq_some_iff.mp x0).1
  refine ⟨fun b o q => ?_, R.le, R.lt, R.ng, R.h0, R.td, fun b t q => ?_, R.gf, fun b o q w => ?_, R.sl, fun j u q => ?_, R.inj, R.len⟩
  · have e := R.ex b o q
    rw [upd_ne]
    · exact e
    · rintro rfl; rw [w1] at q; cases q
  · obtain ⟨y1, y2, y3⟩ := R.cg b t q
    refine ⟨y1, y2, ?_⟩
    by_cases z : b = a
    · subst z
      rw [ha] at q; cases q
      exact ⟨d', ho, List.getElem?_set_self hi, upd_same, c⟩
    · cases t with
      | box =>
        obtain ⟨m0, b', m, k, e1, r⟩ := y3
        exact ⟨m0, b', m, k, by rw [upd_ne z]; exact e1, r⟩
      | mu j =>
        obtain ⟨u, o, v0, v1, r⟩ := y3
        have nj : n ≠ j := by
          rintro rfl
          exact z (R.inj b a n q ha)
        exact ⟨u, o, by rw [List.getElem?_set_ne nj]; exact v0, by rw [upd_ne z]; exact v1, r⟩
      | own j =>
        obtain ⟨u, o, v0, v2, v1, r⟩ := y3
        exact ⟨u, o, v0, v2, by rw [upd_ne z]; exact v1, r⟩
      | tmp =>
        obtain ⟨u, o, x0, x1, r⟩ := y3
        exact ⟨u, o, x0, by rw [upd_ne z]; exact x1, r⟩
  · rw [upd_ne]
    · exact R.fr b o q w
    · rintro rfl
      rcases w2 with z | z
      · rw [z] at q; cases q
      · rw [w] at z; cases z
  · by_cases nj : n = j
    · subst nj
      exact ⟨a, ha⟩
    · rw [List.getElem?_set_ne nj] at q
      exact R.mu j u q
end
/-! ### methods of a list -/
/-- a method that changes its list: from the items and the arguments (shared) to the items and what is told -/
abbrev DMeth := List D → List D → (List D → En → Prop) → Prop
/-- the receiver: a slot that has the list by itself, or a shared changing list -/
def mtAt (op : DMeth) (en : En) (ds : List D) (Q : En → DSt → Prop) (st : DSt) : Prop := match en with
  | .lc i => match st.sl[i]? with
    | some (some (.ow (.lst xs))) => op xs ds fun ys en' => Q en' { st with sl := st.sl.set i (some (.ow (.lst ys))) }
    | _ => False
  | .sh (.mref n) => match st.gs.mu[n]? with
    | some (.lst xs) => op xs ds fun ys en' => Q en' { st with gs := { st.gs with mu := st.gs.mu.set n (.lst ys) } }
    | _ => False
  | _ => False
def dMt (op : DMeth) (de : DE) (da : DA) : DE := fun st Q E => de st (fun en st1 => (∃ xs, view st1 en = some (.lst xs)) ∧ da st1 (fun es st2 => dFrzL es st2 fun ds st3 => mtAt op en ds Q st3) E) E
def dMt0 (op : DMeth) (de : DE) : DE := fun st Q E => de st (fun en st1 => mtAt op en [] Q st1) E
def SimM (K : PySem.W.Frag) (r : V → List V → Hp → VK → Prop) (op : DMeth) : Prop :=
  ∀ (g : Gh) (H : Hp) (a : Addr) (xs : List V) (dx : List D) (vs : List V) (ds : List D) (Q2 : List D → En → Prop) (Q : VK), Ex g.G H → H a = some (.lst xs) → HasL K g xs dx → dx.length ≤ sizeLine → HasL K g vs ds → op dx ds Q2 →
    (∀ v ys dy d, HasL K g ys dy → dy.length ≤ sizeLine → Has K g v d → Q2 dy (.sh d) → Q v (upd H a (.lst ys))) → r (.ref a) vs H Q
section
variable {X : Cx} {e o : Expr} {es : List Expr} {apos pos : Pos} {te : WX → TE} {de : DE} {ta : WX → TA} {da : DA} {r : V → List V → Hp → VK → Prop} {op : DMeth}
theorem sim_mtAt {K : PySem.W.Frag} (sm : SimM K r op) {H0 H1 H : Hp} {g0 g1 g : Gh} {σ : L2.St} {st : DSt} {v : V} {en : En} {vs : List V} {ds : List D} {Q2 : En → DSt → Prop} {Q : VK} (r1 : HasR K H0 σ H1 g1 v en) (l : Le g1 g) (R : Rel K H0 g0 σ H st g) (hv : HasL K g vs ds) (q : mtAt op en ds Q2 st)
    (k : ∀ v H' st' g' en, Rel K H0 g0 σ H' st' g' → Le g g' → Lt g g' → HasR K H0 σ H' g' v en → Q2 en st' → Q v H') : r v vs H Q := by
  unfold mtAt at q
  cases en with
  | ow d => exact q.elim
  | lc i =>
    have hs : σ[i]? = some (some v) := r1
    dsimp only at q
    split at q
    · rename_i xs es
      obtain ⟨a, ho, ca, ea, eh, c, _⟩ := R.own es
      rw [hs] at ea; cases ea
      cases c with
      | lst us _ c z =>
        refine sm g H a us xs vs ds _ Q R.ex eh c z hv q fun w ys dy d hy zy hw qq => ?_
        exact k w _ _ g (.sh d) (R.writeOw ca (Con.lst ys dy hy zy)) (Le.refl g) (Lt.refl g) hw qq
    · exact q.elim
  | sh d =>
    cases d with
    | mref n =>
      have r1' : Has K g1 v (.mref n) := r1
      dsimp only at q
      split at q
      · rename_i xs es
        have r3 := r1'.mono l
        cases r3 with
        | obj a ho d h c => cases c
        | mref a n ca =>
          obtain ⟨_, _, d, ho, x0, x1, c⟩ := R.cg a _ ca
          rw [es] at x0; cases x0
          cases c with
          | lst us _ c z =>
            refine sm g H a us xs vs ds _ Q R.ex x1 c z hv q fun w ys dy d hy zy hw qq => ?_
            exact k w _ _ g (.sh d) (R.writeMu ca (Con.lst ys dy hy zy)) (Le.refl g) (Lt.refl g) hw qq
      · exact q.elim
    | _ => exact q.elim
theorem mtAt_list {op : DMeth} {en : En} {ds : List D} {Q : En → DSt → Prop} {st : DSt} (q : mtAt op en ds Q st) : ∃ xs, view st en = some (.lst xs) := by
  unfold mtAt at q
  cases en with
  | ow d => exact q.elim
  | lc i =>
    dsimp only at q
    split at q
    · rename_i xs es
      exact ⟨xs, by unfold view; dsimp only; rw [es]⟩
    · exact q.elim
  | sh d =>
    cases d with
    | mref n =>
      dsimp only at q
      split at q
      · rename_i xs es
        exact ⟨xs, es⟩
      · exact q.elim
    | _ => exact q.elim
theorem tyV_lst {K : PySem.W.Frag} {g : Gh} {H : Hp} {v : V} {xs : List D} (e : Ex g.G H) (h : Rdd K g H v (.lst xs)) : tyV K "list" v H := by
  obtain ⟨a, vs, rfl, ta, _⟩ := h.lst e
  exact .inl ⟨rfl, vs, SqL.of ta⟩
theorem sim_mt {K : PySem.W.Frag} (sm : SimM K r op) (ho : SimE K te de) (ha : SimA K ta da) : SimE K (fun W => tBM K "list" r (te W) (ta W)) (dMt op de da) := by
  intro H0 g0 W σ H st g Q2 E2 Q R q k kx
  refine ho H0 g0 W σ H st g _ E2 _ R q (fun v H1 st1 g1 en R1 l1 m1 r1 q1 => ?_) kx
  obtain ⟨⟨xs, ex⟩, q1⟩ := q1
  refine ⟨tyV_lst R1.ex (view_rdd R1 r1 ex), ?_⟩
  refine ha H0 g0 W σ H1 st1 g1 _ E2 _ R1 q1 (fun vs H2 st2 g2 es R2 l2 m2 r2 q2 => ?_) (kx.mono l1)
  obtain ⟨g3, st3, ds, R3, l3, m3, h3, q3, _⟩ := R2.frzL r2 q2
  exact sim_mtAt sm r1 (l2.trans l3) R3 h3 q3 fun v H' st' g' en R' l' m' r' q' => k v H' st' g' en R' (l1.trans ((l2.trans l3).trans l')) (m1.trans ((m2.trans m3).trans m')) r' q'
theorem sim_mt0 {K : PySem.W.Frag} (sm : SimM K r op) (ho : SimE K te de) : SimE K (fun W => tBM0 K "list" r (te W)) (dMt0 op de) := by
  intro H0 g0 W σ H st g Q2 E2 Q R q k kx
  refine ho H0 g0 W σ H st g _ E2 _ R q (fun v H1 st1 g1 en R1 l1 m1 r1 q1 => ?_) kx
  obtain ⟨xs, ex⟩ := mtAt_list q1
  refine ⟨tyV_lst R1.ex (view_rdd R1 r1 ex), ?_⟩
  exact sim_mtAt sm r1 (Le.refl g1) R1 .nil q1 fun v H' st' g' en R' l' m' r' q' => k v H' st' g' en R' (l1.trans l') (m1.trans m') r' q'
theorem q_mt {name : Str} (mk : ∀ (to : TE) (t : TA), PE X o to → PA X (e :: es) t → PE X (.Call (.Attribute o name apos) (e :: es) [] pos) (tBM X.K "list" r to t)) (sm : SimM X.K r op) (ho : QE X o te de) (ha : QA X (e :: es) ta da) :
    QE X (.Call (.Attribute o name apos) (e :: es) [] pos) (fun W => tBM X.K "list" r (te W) (ta W)) (dMt op de da) :=
  ⟨fun W tk => mk _ _ (ho.pe W tk) (ha.pa W tk), sim_mt sm ho.sim ha.sim⟩
theorem q_mt0 {name : Str} (mk : ∀ (to : TE), PE X o to → PE X (.Call (.Attribute o name apos) [] [] pos) (tBM0 X.K "list" r to)) (sm : SimM X.K r op) (ho : QE X o te de) :
    QE X (.Call (.Attribute o name apos) [] [] pos) (fun W => tBM0 X.K "list" r (te W)) (dMt0 op de) :=
  ⟨fun W tk => mk _ (ho.pe W tk), sim_mt0 sm ho.sim⟩
end
section
variable {K : PySem.W.Frag}
def dmAppend : DMeth := fun xs ds Q => ∃ y, ds = [y] ∧ xs.length < sizeLine ∧ Q (xs ++ [y]) (.sh .non)
theorem sm_append : SimM K rAppend dmAppend := by
  intro g H a xs dx vs ds Q2 Q ex hH hx zx hv h k
  obtain ⟨y, rfl, z, q⟩ := h
  cases hv with
  | cons v _ _ _ hv t =>
    cases t
    refine ⟨a, xs, v, rfl, rfl, hH, by rw [hx.length]; exact z, k .non _ _ _ (hx.append (.cons _ _ _ _ hv .nil)) ?_ Has.non q⟩
    rw [List.length_append]; exact z
def dmPopAt : DMeth := fun xs ds Q => ∃ i k y, ds = [.int i] ∧ -(2 ^ 63) ≤ i ∧ i < 2 ^ 63 ∧ seqIndex? i xs.length = some k ∧ xs[k]? = some y ∧ Q (xs.eraseIdx k) (.sh y)
theorem HasL.erase {g : Gh} : ∀ {vs : List V} {ds : List D} (i : Nat), HasL K g vs ds → HasL K g (vs.eraseIdx i) (ds.eraseIdx i)
  | _, _, _, .nil => .nil
  | _, _, 0, .cons _ _ _ _ _ t => t
  | _, _, i + 1, .cons _ _ _ _ h t => .cons _ _ _ _ h (HasL.erase i t)
theorem sm_popAt : SimM K rPopAt dmPopAt := by
  intro g H a xs dx vs ds Q2 Q ex hH hx zx hv h k
  obtain ⟨i, j, y, rfl, b1, b2, ej, ey, q⟩ := h
  cases hv with
  | cons v _ _ _ hv t =>
    cases t
    have e1 := Rdd.int (H := H) (.inl hv)
    subst e1
    obtain ⟨w, hw, rw'⟩ := hx.get ey
    refine ⟨a, xs, i, j, w, rfl, rfl, hH, b1, b2, by rw [hx.length]; exact ej, hw, k w _ _ y (hx.erase j) ?_ rw' q⟩
    exact Nat.le_trans (len_erase dx j) zx
def dmPop : DMeth := fun xs ds Q => ∃ y, ds = [] ∧ xs[xs.length - 1]? = some y ∧ Q xs.dropLast (.sh y)
theorem HasL.dropLast {g : Gh} {vs : List V} {ds : List D} (h : HasL K g vs ds) : HasL K g vs.dropLast ds.dropLast := by
  rw [List.dropLast_eq_take, List.dropLast_eq_take, h.length]
  exact h.take _
theorem sm_pop : SimM K rPop dmPop := by
  intro g H a xs dx vs ds Q2 Q ex hH hx zx hv h k
  obtain ⟨y, rfl, ey, q⟩ := h
  cases hv
  obtain ⟨w, hw, rw'⟩ := hx.get ey
  refine ⟨a, xs, w, rfl, rfl, hH, by rw [hx.length]; exact hw, k w _ _ y hx.dropLast ?_ rw' q⟩
  rw [List.length_dropLast]; omega
def dmInsert : DMeth := fun xs ds Q => ∃ i y, ds = [.int i, y] ∧ xs.length < sizeLine ∧ 0 ≤ i ∧ i < 2 ^ 63 ∧ Q (xs.take i.toNat ++ [y] ++ xs.drop i.toNat) (.sh .non)
theorem sm_insert : SimM K (fun x vs H Q => ∃ (l : Addr) (xs : List V) (i : Int) (y : V), x = .ref l ∧ vs = [.int i, y] ∧ H l = some (.lst xs) ∧ xs.length < sizeLine ∧ 0 ≤ i ∧ i < 2 ^ 63 ∧ Q .non (upd H l (.lst (xs.take i.toNat ++ [y] ++ xs.drop i.toNat)))) dmInsert := by
  intro g H a xs dx vs ds Q2 Q ex hH hx zx hv h k
  obtain ⟨i, y, rfl, z, b1, b2, q⟩ := h
  cases hv with
  | cons v _ _ _ hv t =>
    cases t with
    | cons w _ _ _ hw t =>
      cases t
      have e1 := Rdd.int (H := H) (.inl hv)
      subst e1
      refine ⟨a, xs, i, w, rfl, rfl, hH, by rw [hx.length]; exact z, b1, b2, k .non _ _ _ (((hx.take _).append (.cons _ _ _ _ hw .nil)).append (hx.drop _)) ?_ Has.non q⟩
      rw [List.length_append, List.length_append, List.length_take, List.length_drop]
      show min i.toNat dx.length + 1 + (dx.length - i.toNat) ≤ sizeLine
      omega
def dmReverse : DMeth := fun xs ds Q => ds = [] ∧ Q xs.reverse (.sh .non)
theorem sm_reverse : SimM K rReverse dmReverse := by
  intro g H a xs dx vs ds Q2 Q ex hH hx zx hv h k
  obtain ⟨rfl, q⟩ := h
  cases hv
  exact ⟨a, xs, rfl, rfl, hH, k .non _ _ _ hx.reverse (by rw [List.length_reverse]; exact zx) Has.non q⟩
def dmClear : DMeth := fun xs ds Q => ds = [] ∧ Q [] (.sh .non)
theorem sm_clear : SimM K rClear dmClear := by
  intro g H a xs dx vs ds Q2 Q ex hH hx zx hv h k
  obtain ⟨rfl, q⟩ := h
  cases hv
  exact ⟨a, xs, rfl, rfl, hH, k .non _ _ _ .nil (Nat.zero_le _) Has.non q⟩
def dmExtend : DMeth := fun xs ds Q => ∃ ys, ds = [.lst ys] ∧ xs.length + ys.length ≤ sizeLine ∧ Q (xs ++ ys) (.sh .non)
theorem sm_extend : SimM K rExtend dmExtend := by
  intro g H a xs dx vs ds Q2 Q ex hH hx zx hv h k
  obtain ⟨ys, rfl, z, q⟩ := h
  cases hv with
  | cons v _ _ _ hv t =>
    cases t
    cases hv with
    | obj b ho d hb c =>
      cases c with
      | lst us _ c zz =>
        refine ⟨a, b, xs, us, rfl, rfl, hH, ex b _ hb, by rw [hx.length, c.length]; exact z, k .non _ _ _ (hx.append c) ?_ Has.non q⟩
        rw [List.length_append]; exact z
end
/-! ### l[i] = v -/
section
variable {X : Cx} {o i : Expr} {pos : Pos} {to ti : WX → TE} {dob dix : DE}
/-- the list of slot n | of a shared changing list -/
def setAt (en : En) (j : Int) (v : D) (Q : DSt → Prop) (st : DSt) : Prop := match en with
  | .lc n => match st.sl[n]? with
    | some (some (.ow (.lst xs))) => ∃ k, ixN xs.length j = some k ∧ Q { st with sl := st.sl.set n (some (.ow (.lst (xs.set k v)))) }
    | _ => False
  | .sh (.mref n) => match st.gs.mu[n]? with
    | some (.lst xs) => ∃ k, ixN xs.length j = some k ∧ Q { st with gs := { st.gs with mu := st.gs.mu.set n (.lst (xs.set k v)) } }
    | _ => False
  | _ => False
def dgSub (dob dix : DE) : DG := fun en st Q E => dFrz en st fun v st0 => dob st0 (fun eo st1 => dix st1 (fun ei st2 => ∃ j, view st2 ei = some (.int j) ∧ setAt eo j v Q st2) E) E
theorem qg_sub (ho : QE X o to dob) (hi : QE X i ti dix)
    (ha : ∀ v, assign (.Subscript o i pos) X.env v = (do
      let ov ← holding [v] (eval o X.env)
      let iv ← holding [v, ov] (eval i X.env)
      standAt pos
      holding [v, ov, iv] (setItem ov iv v)
      release [v, ov, iv] []) := by intro _; rfl) : QG X (.Subscript o i pos) [] (fun W => gSub (to W) (ti W) rSetL) (dgSub dob dix) := by
  refine ⟨fun W tk => pg_sub (ho.pe W tk) (hi.pe W tk) set_list ha, ?_⟩
  intro H0 g0 W σ H st g v en Q2 E2 Q R r q k kx
  obtain ⟨ga, sta, dv, Ra, la, ma, hva, qa, _⟩ := R.frzR r q
  refine ho.sim H0 g0 W σ H sta ga _ E2 _ Ra qa (fun vo H1 st1 g1 eo R1 l1 m1 r1 q1 => ?_) (kx.mono la)
  refine hi.sim H0 g0 W σ H1 st1 g1 _ E2 _ R1 q1 (fun vi H2 st2 g2 ei R2 l2 m2 r2 q2 => ?_) (kx.mono (la.trans l1))
  obtain ⟨j, ej, q2⟩ := q2
  have e1 := (view_rdd R2 r2 ej).int
  subst e1
  have L := la.trans (l1.trans l2)
  have M := ma.trans (m1.trans m2)
  have hv2 := hva.mono (l1.trans l2)
  unfold setAt at q2
  cases eo with
  | ow d => exact q2.elim
  | lc n =>
    have hs : σ[n]? = some (some vo) := r1
    dsimp only at q2
    split at q2
    · rename_i xs es
      obtain ⟨kk, ek, q2⟩ := q2
      obtain ⟨a, hoo, ca, ea, eh, c, _⟩ := R2.own es
      rw [hs] at ea; cases ea
      cases c with
      | lst us _ c z => exact ⟨a, us, j, kk, rfl, rfl, eh, by rw [c.length]; exact ek, k σ _ _ g2 (R2.writeOw ca (Con.lst _ _ (c.set hv2 kk) (by rw [List.length_set]; exact z))) L M ⟨rfl, fun _ _ => rfl⟩ q2⟩
    · exact q2.elim
  | sh d =>
    cases d with
    | mref n =>
      have r1' : Has X.K g1 vo (.mref n) := r1
      dsimp only at q2
      split at q2
      · rename_i xs es
        obtain ⟨kk, ek, q2⟩ := q2
        have r3 := r1'.mono l2
        cases r3 with
        | obj a ho d h c => cases c
        | mref a n ca =>
          obtain ⟨_, _, d, hoo, x0, x1, c⟩ := R2.cg a _ ca
          rw [es] at x0; cases x0
          cases c with
          | lst us _ c z => exact ⟨a, us, j, kk, rfl, rfl, x1, by rw [c.length]; exact ek, k σ _ _ g2 (R2.writeMu ca (Con.lst _ _ (c.set hv2 kk) (by rw [List.length_set]; exact z))) L M ⟨rfl, fun _ _ => rfl⟩ q2⟩
      · exact q2.elim
    | _ => exact q2.elim
end
end VL

set_option Elab.async false
set_option linter.all false
set_option maxRecDepth 100000
set_option maxHeartbeats 4000000
namespace VL
open PySem PySem.Spec PyProof.Rows L2

/-! ### several things evaluated, then stored: a, b = x, y -/
/-- gripped: what is new stands in a cell of its own, that was none in gb -/
def HasW (K : PySem.W.Frag) (H0 : Hp) (σ : L2.St) (gb g : Gh) (v : V) : En → Prop
  | .sh d => Has K g v d
  | .ow d => ∃ p, v = .ref p ∧ gb.C p ≠ some .tmp ∧ g.C p = some .tmp ∧ g.tm p = some d ∧ H0 p = none
  | .lc i => σ[i]? = some (some v)
section
variable {K : PySem.W.Frag} {H0 H : Hp} {g0 g gb : Gh} {σ : L2.St} {st : DSt} {v : V}
theorem HasW.mono {g' : Gh} {en : En} (l : Le g g') (m : Lt g g') (h : HasW K H0 σ gb g v en) : HasW K H0 σ gb g' v en := by
  cases en with
  | sh d => exact Has.mono l h
  | lc i => exact h
  | ow d =>
    obtain ⟨p, e1, e2, e3, e4, e5⟩ := h
    exact ⟨p, e1, e2, (m p d e3 e4).1, (m p d e3 e4).2, e5⟩
/-- what is in hand is gripped -/
theorem Rel.grip (R : Rel K H0 g0 σ H st g) {en : En} (h : HasR K H0 σ H g v en) : ∃ g', Rel K H0 g0 σ H st g' ∧ Le g g' ∧ Lt g g' ∧ HasW K H0 σ g g' v en := by
  cases en with
  | sh d => exact ⟨g, R, Le.refl g, Lt.refl g, h⟩
  | lc i => exact ⟨g, R, Le.refl g, Lt.refl g, h⟩
  | ow d =>
    obtain ⟨p, ho, rfl, e, c, h1, h2, h3⟩ := h
    let g' : Gh := { G := g.G, C := fun b => if b = p then some .tmp else g.C b, tm := fun b => if b = p then some d else g.tm b }
    have l : Le g g' := by
      refine ⟨Ex.refl _, fun a t q k => ?_⟩
      show (if a = p then some .tmp else g.C a) = some t
      rw [if_neg]
      · exact q
      · rintro rfl; rw [h2] at q; cases q
    have lt : Lt g g' := by
      intro a u q k
      have n : a ≠ p := by rintro rfl; rw [h2] at q; cases q
      exact ⟨by show (if a = p then some .tmp else g.C a) = some .tmp; rw [if_neg n]; exact q, by show (if a = p then some d else g.tm a) = some u; rw [if_neg n]; exact k⟩
    have off : ∀ {a t}, g'.C a = some t → (a = p ∧ t = .tmp) ∨ (a ≠ p ∧ g.C a = some t) := fun {a t} q => by
      have q' : (if a = p then some .tmp else g.C a) = some t := q
      by_cases z : a = p
      · rw [if_pos z] at q'; cases q'; exact .inl ⟨z, rfl⟩
      · rw [if_neg z] at q'; exact .inr ⟨z, q'⟩
    refine ⟨g', ⟨R.ex, R.le.trans l, R.lt.trans lt, R.ng, R.h0, R.td, fun a t q => ?_, R.gf, R.fr, fun i en q => ?_, fun n u q => ?_, fun a b n q1 q2 => ?_, R.len⟩, l, lt, p, rfl, (by rw [h2]; intro z; cases z), if_pos rfl, if_pos rfl, h3⟩
    · rcases off q with ⟨rfl, rfl⟩ | ⟨z, q'⟩
      · exact ⟨h1, .inl h3, d, ho, if_pos rfl, e, c.mono l⟩
      · obtain ⟨w1, w2, w3⟩ := R.cg a t q'
        refine ⟨w1, w2, ?_⟩
        cases t with
        | box => exact w3
        | mu j =>
          obtain ⟨u, o, x0, x1, r⟩ := w3
          exact ⟨u, o, x0, x1, r.mono l⟩
        | own j =>
          obtain ⟨u, o, x0, x2, x1, r⟩ := w3
          exact ⟨u, o, x0, x2, x1, r.mono l⟩
        | tmp =>
          obtain ⟨u, o, x0, x1, r⟩ := w3
          exact ⟨u, o, by show (if a = p then some d else g.tm a) = some u; rw [if_neg z]; exact x0, x1, r.mono l⟩
    · have w := R.sl i en q
      cases en with
      | sh u =>
        obtain ⟨v, e1, r⟩ := w
        exact ⟨v, e1, r.mono l⟩
      | ow u =>
        obtain ⟨a, w⟩ := w
        refine ⟨a, ?_⟩
        show (if a = p then some .tmp else g.C a) = some (.own i)
        rw [if_neg, w]
        rintro rfl
        rw [h2] at w; cases w
      | lc k => exact w
    · obtain ⟨a, w⟩ := R.mu n u q
      exact ⟨a, l.cs a _ w rfl⟩
    · rcases off q1 with ⟨_, z⟩ | ⟨_, z1⟩
      · cases z
      · rcases off q2 with ⟨_, z⟩ | ⟨_, z2⟩
        · cases z
        · exact R.inj a b n z1 z2
end
inductive Grip (K : PySem.W.Frag) (H0 : Hp) (σ : L2.St) (g : Gh) : Gh → List V → List En → Prop
  | nil (gb : Gh) : Grip K H0 σ g gb [] []
  | cons {gb : Gh} {v : V} {e : En} {vs : List V} {es : List En} (gb' : Gh) (h : HasW K H0 σ gb g v e) (hb : ∀ p, gb'.C p ≠ some .tmp → gb.C p ≠ some .tmp) (hd : ∀ p d, v = .ref p → e = .ow d → gb'.C p = some .tmp) (t : Grip K H0 σ g gb' vs es) : Grip K H0 σ g gb (v :: vs) (e :: es)
section
variable {K : PySem.W.Frag} {H0 H : Hp} {g0 g : Gh} {σ σ' : L2.St} {st : DSt} {v : V}
theorem Grip.mono {g' : Gh} (l : Le g g') (m : Lt g g') : ∀ {gb vs es}, Grip K H0 σ g gb vs es → Grip K H0 σ g' gb vs es
  | _, _, _, .nil gb => .nil gb
  | _, _, _, .cons gb' h hb hd t => .cons gb' (h.mono l m) hb hd (Grip.mono l m t)
theorem HasW.base {gb gb' : Gh} {en : En} (hb : ∀ p, gb'.C p ≠ some .tmp → gb.C p ≠ some .tmp) (h : HasW K H0 σ gb' g v en) : HasW K H0 σ gb g v en := by
  cases en with
  | sh d => exact h
  | lc i => exact h
  | ow d =>
    obtain ⟨p, e1, e2, e3⟩ := h
    exact ⟨p, e1, hb p e2, e3⟩
theorem Grip.base {gb gb' : Gh} (hb : ∀ p, gb'.C p ≠ some .tmp → gb.C p ≠ some .tmp) : ∀ {vs es}, Grip K H0 σ g gb' vs es → Grip K H0 σ g gb vs es
  | _, _, .nil _ => .nil gb
  | _, _, .cons g2 h h2 hd t => .cons g2 (h.base hb) (fun p q => hb p (h2 p q)) hd t
end
def dRNil : DA := fun st Q _ => Q [] st
def dRCons (d : DE) (r : DA) : DA := fun st Q E => d st (fun e st1 => r st1 (fun es st2 => Q (e :: es) st2) E) E
def SimAR (K : PySem.W.Frag) (t : WX → TA) (d : DA) : Prop :=
  ∀ H0 g0 W σ H st g (Q2 : List En → DSt → Prop) (E2 : DX) (Q : List V → Hp → Prop), Rel K H0 g0 σ H st g → d st Q2 E2 →
    (∀ vs H' st' g' es, Rel K H0 g0 σ H' st' g' → Le g g' → Lt g g' → Grip K H0 σ g' g vs es → Q2 es st' → Q vs H') → PostX K H0 g0 g E2 W → t W σ H Q
structure QAR (X : Cx) (es : List Expr) (t : WX → TA) (d : DA) : Prop where
  pa : ∀ W, Takes X W → PA X es (t W)
  sim : SimAR X.K t d
section
variable {X : Cx} {e a b c : Expr} {es : List Expr} {pos : Pos} {ta tb tc : WX → TE} {da db dc : DE} {tr : WX → TA} {dr : DA}
theorem qar_nil : QAR X [] (fun _ => tNil) dRNil := ⟨fun _ _ => pa_nil, fun H0 g0 W σ H st g Q2 E2 Q R q k kx => k [] H st g [] R (Le.refl g) (Lt.refl g) (.nil g) q⟩
theorem tmp_up {K : PySem.W.Frag} {H0 H : Hp} {g0 g g' : Gh} {σ : L2.St} {st : DSt} (R : Rel K H0 g0 σ H st g) (m : Lt g g') (p : Addr) (h : g'.C p ≠ some .tmp) : g.C p ≠ some .tmp := fun q => by
  obtain ⟨_, _, d, ho, x0, _⟩ := R.cg p _ q
  exact h (m p d q x0).1
theorem qar_cons (ha : QE X e ta da) (hr : QAR X es tr dr) (hs : starEach (e :: es) X.env = (false, eval e X.env) :: starEach es X.env := by rfl) : QAR X (e :: es) (fun W => tCons (ta W) (tr W)) (dRCons da dr) := by
  refine ⟨fun W tk => pa_cons (ha.pe W tk) (hr.pa W tk) hs, ?_⟩
  intro H0 g0 W σ H st g Q2 E2 Q R q k kx
  refine ha.sim H0 g0 W σ H st g _ E2 _ R q (fun v H1 st1 g1 en R1 l1 m1 r1 q1 => ?_) kx
  obtain ⟨g1', R1', l1', m1', h1⟩ := R1.grip r1
  refine hr.sim H0 g0 W σ H1 st1 g1' _ E2 _ R1' q1 (fun vs H2 st2 g2 es R2 l2 m2 r2 q2 => ?_) (kx.mono (l1.trans l1'))
  refine k (v :: vs) H2 st2 g2 _ R2 ((l1.trans l1').trans l2) ((m1.trans m1').trans m2) (.cons g1' ((h1.base (tmp_up R m1)).mono l2 m2) (tmp_up R (m1.trans m1')) (fun p d e1 e2 => ?_) r2) q2
  subst e1
  subst e2
  obtain ⟨p', e1, _, e3, _⟩ := h1
  cases e1
  exact e3
end
/-! ### stored -/
def dKeep (en : En) (st : DSt) (k : En → DSt → Prop) : Prop := match en with
  | .lc i => dFrz (.lc i) st fun d st1 => k (.sh d) st1
  | e => k e st
def dKeepL : List En → DSt → (List En → DSt → Prop) → Prop
  | [], st, k => k [] st
  | e :: es, st, k => dKeep e st fun e' st1 => dKeepL es st1 fun es' st2 => k (e' :: es') st2
def dStoreL : List Nat → List En → DSt → (DSt → Prop) → Prop
  | [], [], st, k => k st
  | i :: is, e :: es, st, k => dStore i e st fun st1 => dStoreL is es st1 k
  | _, _, _, _ => False
def setL (σ : L2.St) : List Nat → List V → L2.St
  | i :: is, v :: vs => setL (σ.set i (some v)) is vs
  | _, _ => σ
section
variable {K : PySem.W.Frag} {H0 H : Hp} {g0 : Gh}
theorem Rel.keepL {σ : L2.St} : ∀ {vs : List V} {es : List En} {g gb : Gh} {st : DSt} {k : List En → DSt → Prop}, Rel K H0 g0 σ H st g → Grip K H0 σ g gb vs es → dKeepL es st k →
    ∃ g' st' es', Rel K H0 g0 σ H st' g' ∧ Le g g' ∧ Lt g g' ∧ Grip K H0 σ g' gb vs es' ∧ (∀ e ∈ es', ∀ i, e ≠ .lc i) ∧ k es' st'
  | _, _, g, gb, st, k, R, .nil _, q => ⟨g, st, [], R, Le.refl g, Lt.refl g, .nil gb, fun _ h => (by cases h), q⟩
  | _, _, g, gb, st, k, R, .cons (v := v) (e := e) (vs := vs) (es := es) gb' h hb hd t, q => by
    have q' : dKeep e st fun e' st1 => dKeepL es st1 fun es' st2 => k (e' :: es') st2 := q
    cases e with
    | sh d =>
      obtain ⟨g2, st2, es2, R2, l2, m2, t2, n2, q2⟩ := Rel.keepL R t (show dKeepL es st fun es' st2 => k (.sh d :: es') st2 from q')
      exact ⟨g2, st2, .sh d :: es2, R2, l2, m2, .cons gb' (h.mono l2 m2) hb (fun p u _ z => by cases z) t2, fun e he i => by
        rcases List.mem_cons.mp he with z | z
        · rw [z]; intro w; cases w
        · exact n2 e z i, q2⟩
    | ow d =>
      obtain ⟨g2, st2, es2, R2, l2, m2, t2, n2, q2⟩ := Rel.keepL R t (show dKeepL es st fun es' st2 => k (.ow d :: es') st2 from q')
      exact ⟨g2, st2, .ow d :: es2, R2, l2, m2, .cons gb' (h.mono l2 m2) hb hd t2, fun e he i => by
        rcases List.mem_cons.mp he with z | z
        · rw [z]; intro w; cases w
        · exact n2 e z i, q2⟩
    | lc i =>
      obtain ⟨g1, st1, d, R1, l1, m1, h1, q1, _⟩ := R.frzR (en := .lc i) h (show dFrz (.lc i) st (fun d st1 => dKeepL es st1 fun es' st2 => k (.sh d :: es') st2) from q')
      obtain ⟨g2, st2, es2, R2, l2, m2, t2, n2, q2⟩ := Rel.keepL R1 (t.mono l1 m1) q1
      exact ⟨g2, st2, .sh d :: es2, R2, l1.trans l2, m1.trans m2, .cons gb' (show HasW K H0 σ gb g2 v (.sh d) from h1.mono l2) hb (fun p u _ z => by cases z) t2, fun e he i => by
        rcases List.mem_cons.mp he with z | z
        · rw [z]; intro w; cases w
        · exact n2 e z i, q2⟩
/-- the others stand when one cell is let go -/
theorem Grip.less {σ σ' : L2.St} {g g' : Gh} {p : Addr} (l : Le g g') (m : ∀ a u, a ≠ p → g.C a = some .tmp → g.tm a = some u → g'.C a = some .tmp ∧ g'.tm a = some u) : ∀ {gb vs es}, Grip K H0 σ g gb vs es → gb.C p = some .tmp → (∀ e ∈ es, ∀ i, e ≠ .lc i) → Grip K H0 σ' g' gb vs es
  | _, _, _, .nil gb, _, _ => .nil gb
  | _, _, _, .cons (v := v) (e := e) gb' h hb hd t, hp, hn => by
    have hp' : gb'.C p = some .tmp := Classical.byContradiction fun z => hb p z hp
    refine .cons gb' ?_ hb hd (Grip.less l m t hp' fun e he => hn e (List.mem_cons_of_mem _ he))
    cases e with
    | sh d => exact Has.mono l h
    | lc i => exact absurd rfl (hn _ List.mem_cons_self i)
    | ow d =>
      obtain ⟨a, e1, e2, e3, e4, e5⟩ := h
      have n : a ≠ p := by rintro rfl; exact e2 hp
      exact ⟨a, e1, e2, (m a d n e3 e4).1, (m a d n e3 e4).2, e5⟩
theorem Grip.slots {σ σ' : L2.St} {g : Gh} : ∀ {gb vs es}, Grip K H0 σ g gb vs es → (∀ e ∈ es, ∀ i, e ≠ .lc i) → Grip K H0 σ' g gb vs es
  | _, _, _, .nil gb, _ => .nil gb
  | _, _, _, .cons (v := v) (e := e) gb' h hb hd t, hn => by
    refine .cons gb' ?_ hb hd (Grip.slots t fun e he => hn e (List.mem_cons_of_mem _ he))
    cases e with
    | sh d => exact h
    | lc i => exact absurd rfl (hn _ List.mem_cons_self i)
    | ow d => exact h
theorem Rel.storeL : ∀ {is : List Nat} {vs : List V} {es : List En} {σ : L2.St} {g gb : Gh} {st : DSt} {k : DSt → Prop}, Rel K H0 g0 σ H st g → Grip K H0 σ g gb vs es → (∀ e ∈ es, ∀ i, e ≠ .lc i) → dStoreL is es st k →
    is.length = vs.length ∧ ∃ g' st', Rel K H0 g0 (setL σ is vs) H st' g' ∧ Le g g' ∧ k st'
  | [], _, _, σ, g, gb, st, k, R, .nil _, _, q => ⟨rfl, g, st, R, Le.refl g, q⟩
  | i :: is, _, _, σ, g, gb, st, k, R, .nil _, _, q => q.elim
  | [], _, _, σ, g, gb, st, k, R, .cons _ _ _ _ _, _, q => q.elim
  | i :: is, _, _, σ, g, gb, st, k, R, .cons (v := v) (e := e) (vs := vs) (es := es) gb' h hb hd t, hn, q => by
    have q' : dStore i e st fun st1 => dStoreL is es st1 k := q
    have hn' : ∀ e ∈ es, ∀ i, e ≠ .lc i := fun e he => hn e (List.mem_cons_of_mem _ he)
    cases e with
    | lc j => exact absurd rfl (hn _ List.mem_cons_self j)
    | sh d =>
      obtain ⟨g1, R1, l1, m1⟩ := R.setSh i (show Has K g v d from h)
      obtain ⟨el, g2, st2, R2, l2, q2⟩ := Rel.storeL R1 ((t.mono l1 m1).slots hn') hn' q'
      exact ⟨by rw [List.length_cons, List.length_cons, el], g2, st2, R2, l1.trans l2, q2⟩
    | ow d =>
      obtain ⟨p, rfl, e2, e3, e4, e5⟩ := h
      obtain ⟨hi, q'⟩ := q'
      obtain ⟨g1, R1, l1, m1, p', ho, ep, w1, w2, w3, w4, w5⟩ := R.ofTmp e3 e4 e5
      cases ep
      obtain ⟨g2, R2, l2, m2⟩ := R1.setOw i hi w1 w2 w3 w4 w5
      have t1 := Grip.less (σ' := σ) l1 m1 t (hd p d rfl rfl) hn'
      obtain ⟨el, g3, st3, R3, l3, q3⟩ := Rel.storeL R2 ((t1.mono l2 m2).slots hn') hn' q'
      exact ⟨by rw [List.length_cons, List.length_cons, el], g3, st3, R3, (l1.trans l2).trans l3, q3⟩
end
/-- names = expressions -/
def dPar (is : List Nat) (da : DA) : DS := fun N st => da st (fun es st1 => dKeepL es st1 fun es' st2 => dStoreL is es' st2 N.nx) N.ex
section
variable {X : Cx} {a b c : Expr} {ta : WX → TA} {da : DA} {pos : Pos}
theorem par_core {K : PySem.W.Frag} {H0 H : Hp} {g0 g : Gh} {σ : L2.St} {st : DSt} {W : WX} {N2 : DEnds} {is : List Nat} {P : List V → Hp → Prop} (h : SimAR K ta da) (R : Rel K H0 g0 σ H st g) (q : dPar is da N2 st) (kx : PostX K H0 g0 g N2.ex W)
    (k : ∀ vs H' st' g', vs.length = is.length → Rel K H0 g0 (setL σ is vs) H' st' g' → Le g g' → N2.nx st' → P vs H') : ta W σ H P := by
  refine h H0 g0 W σ H st g _ N2.ex _ R q (fun vs H1 st1 g1 es R1 l1 m1 t1 q1 => ?_) kx
  obtain ⟨g2, st2, es2, R2, l2, m2, t2, n2, q2⟩ := R1.keepL t1 q1
  obtain ⟨el, g3, st3, R3, l3, q3⟩ := Rel.storeL R2 t2 n2 q2
  exact k vs H1 st3 g3 el.symm R3 (l1.trans (l2.trans l3)) q3
theorem qs_par {i j : Nat} {x y : Str} {px py pt : Pos} {kt k2 pt2} (hc : X.calm = true) (hN : X.N.Nodup) (hi : X.N[i]? = some x) (hj : X.N[j]? = some y) (hij : i ≠ j)
    (hx : X.env.scope.names.lookup x = some .local) (hy : X.env.scope.names.lookup y = some .local) (ha : QAR X [a, b] ta da)
    (hw : swappedStores [.Tuple [.Name x px, .Name y py] kt pt] (.Tuple [a, b] k2 pt2) X.env = pure (some [x, y]))
    (hs : swapsWithSole [.Tuple [.Name x px, .Name y py] kt pt] (.Tuple [a, b] k2 pt2) pos.line X.env = pure false := by rfl) :
    QS X (.Assign [.Tuple [.Name x px, .Name y py] kt pt] (.Tuple [a, b] k2 pt2) pos) (fun W => tPar i j (ta W)) (dPar [i, j] da) := by
  refine ⟨fun W tk => ps_par hc hN hi hj hij hx hy (ha.pa W tk) hw hs, ?_⟩
  intro H0 g0 W σ H st g D2 N R q kn kr kb kc kx
  refine par_core ha.sim R q kx fun vs H' st' g' el R' l' q' => ?_
  match vs, el with
  | [v, w], _ => exact ⟨v, w, rfl, kn _ H' st' g' R' l' q'⟩
theorem qs_par3 {i j l : Nat} {x y z : Str} {px py pz pt : Pos} {kt k2 pt2} (hc : X.calm = true) (hN : X.N.Nodup) (hi : X.N[i]? = some x) (hj : X.N[j]? = some y) (hl : X.N[l]? = some z) (hij : i ≠ j) (hil : i ≠ l) (hjl : j ≠ l)
    (hx : X.env.scope.names.lookup x = some .local) (hy : X.env.scope.names.lookup y = some .local) (hz : X.env.scope.names.lookup z = some .local) (ha : QAR X [a, b, c] ta da)
    (hw : swappedStores [.Tuple [.Name x px, .Name y py, .Name z pz] kt pt] (.Tuple [a, b, c] k2 pt2) X.env = pure (some [x, y, z]))
    (hs : swapsWithSole [.Tuple [.Name x px, .Name y py, .Name z pz] kt pt] (.Tuple [a, b, c] k2 pt2) pos.line X.env = pure false := by rfl) :
    QS X (.Assign [.Tuple [.Name x px, .Name y py, .Name z pz] kt pt] (.Tuple [a, b, c] k2 pt2) pos) (fun W => tPar3 i j l (ta W)) (dPar [i, j, l] da) := by
  refine ⟨fun W tk => ps_par3 hc hN hi hj hl hij hil hjl hx hy hz (ha.pa W tk) hw hs, ?_⟩
  intro H0 g0 W σ H st g D2 N R q kn kr kb kc kx
  refine par_core ha.sim R q kx fun vs H' st' g' el R' l' q' => ?_
  match vs, el with
  | [u, v, w], _ => exact ⟨u, v, w, rfl, kn _ H' st' g' R' l' q'⟩
end
end VL

set_option Elab.async false
set_option linter.all false
set_option maxRecDepth 100000
set_option maxHeartbeats 4000000
namespace VL
open PySem PySem.Spec PyProof.Rows L2

/-- the set that set(..) begins with -/
abbrev nuS (w : World) : Obj := { cls := .type "set", dict := none, data := .set #[] 0 (.fresh 0 0 (!w.params.followText "set-order")) }
section
variable {P : Program} {w : World} {A : Around} {E : Value → Shared → Prop} {s : Shared}
/-- set(l), l a list of ints -/
theorem set_of_list {l : Addr} {us : Array Value} (ks : List Int) {Q : Value → Shared → Prop} (calm : A.handled = none) (hL : s.heap.IsList l us) (hI : IntsAre us.toList ks) (few : ks.length + 1 < scanBound)
    (fin : ∀ (hp : Heap) (tk c : Nat), SetR w hp s.heap.objs.size (fun j => decide (j ∈ ks)) c → c ≤ ks.length → (∀ b o, s.heap.get? b = some o → hp.get? b = some o) → Q (.ref s.heap.objs.size) { s with heap := hp, toks := tk }) :
    wpAny (model P w) A (call (.type "set") [.ref l]) Q E s := by
  have size : us.size = ks.length := by
    have := IntsAre.length hI
    simpa using this
  obtain ⟨_, _, mro⟩ := F.called_set.mro
  have m1 := F.called_set.made
  have m2 := F.called_set.sub
  refine wpAny_call (codeAny_of_tree ?_)
  show wpAny _ _ (callAny (.type "set") _) _ _ _
  refine wpAny_pure ⟨Code.quiet_builtin _ (by decide +kernel), codeAny_builtin F.entry_type_call ?_⟩
  rw [Around.under_plain (weight_type_call_type "set" [.ref l] []) rfl]
  have c1 := F.called_set.notType
  have c2 := F.called_set.canCreate
  have c3 := F.typeCall_set_1 (.ref l)
  repeat (any_goals (first | assumption | wp_step))
  refine codeAny_mono (code_set_led1 (.ref l) (E := E) (Q₁ := fun x t => x = .ref s.heap.objs.size ∧ t = { s with heap := s.heap.push (nuS w) }) ⟨rfl, rfl⟩) fun r t hr => ?_
  rcases r with e | fl
  · exact hr
  cases fl with
  | ret x =>
    obtain ⟨rfl, rfl⟩ := hr
    have at0 : (s.heap.push (nuS w)).get? s.heap.objs.size = some (nuS w) := Heap.get?_push_size _ rfl
    have ty0 : Shared.TypeIs { s with heap := s.heap.push (nuS w) } (.ref s.heap.objs.size) "set" := ⟨_, at0, rfl⟩
    have i1 := F.called_set.init.lookup
    have i2 := F.called_set.init.bind (.ref s.heap.objs.size)
    repeat (any_goals (first | assumption | wp_step))
    refine codeAny_mono (codeAny_call_builtin (R := wants (fun r t => r = .none ∧ ∃ hp tk c, t = { s with heap := hp, toks := tk } ∧ SetR w hp s.heap.objs.size (fun j => decide (j ∈ ks)) c ∧ c ≤ ks.length ∧
        (∀ b o, s.heap.get? b = some o → hp.get? b = some o)) E) F.called_set.init.plain F.entry_set_init (check_set_init_1 ty0 ?_)) fun r2 t2 hr2 => ?_
    · obtain ⟨ol, ho, hc, nl, hd⟩ := hL
      obtain ⟨ocl, odi, oda, osl⟩ := ol
      simp only at hc hd
      subst hc; subst hd
      have ho1 : (s.heap.push (nuS w)).get? l = some { cls := .type "list", dict := odi, data := .seq us nl, slots := osl } := Heap.get?_push_of_some _ ho
      have k1 := F.sub_list_set
      have k2 := F.sub_list_frozenset
      have k3 : (Value.type "list" == Value.type "dict") = false := by decide
      have hL1 : (s.heap.push (nuS w)).IsList l us := ⟨_, ho1, rfl, nl, rfl⟩
      unfold Builtin.«set.__init__» noKeywords Builtin.Frozenset.updateFrom
      generalize epi : pyIter = PI
      wp_walk
      subst epi
      refine wpAny_pyIter_list hL1 ?_
      refine wpAny_bind (wpAny_runValue ?_)
      have lt : l < s.heap.objs.size := Heap.lt_size ho
      have calm3 : A.in1.in1.in1.handled = none := by simp [calm]
      have z1 : (s.heap.push (nuS w)).objs.size = s.heap.objs.size + 1 := Heap.size_push ..
      have n1 : l ≠ (s.heap.push (nuS w)).objs.size := by
        rw [z1]
        exact Nat.ne_of_lt (Nat.lt_succ_of_lt lt)
      have n2 : s.heap.objs.size ∉ [(s.heap.push (nuS w)).objs.size, l] := by
        rw [z1]
        intro hm
        simp only [List.mem_cons, List.not_mem_nil, or_false] at hm
        rcases hm with q | q
        · exact Nat.ne_of_lt (Nat.lt_succ_self _) q
        · exact Nat.ne_of_gt lt q
      have vals : ∀ (i : Nat) (v : Value), us[i]? = some v → ∃ k t, ks[i]? = some k ∧ v = .int k t := fun i v hv => by
        have hi : i < ks.length := by rw [← size]; exact (Array.getElem?_eq_some_iff.mp hv).1
        obtain ⟨t, e⟩ := PyProof.Rows.IntsAre.int_at hI i v (by simpa using hv)
        refine ⟨ks[i], t, List.getElem?_eq_getElem hi, ?_⟩
        rw [e, List.getD_eq_getElem?_getD, List.getElem?_eq_getElem hi] <;> rfl
      refine set_update_ints ((Walks.list calm3 _ l n1 us).toS) s.heap.objs.size n2 ks size few vals (us.size - 0) 0 _ rfl (Nat.zero_le _) ⟨⟨_, Heap.get?_push_size _ rfl, rfl, rfl⟩, hL1.push _⟩ ⟨0, Nat.le_refl 0, setR_new_at (Heap.get?_push_of_some _ at0)⟩ fun t3 c mv hc hS => ?_
      obtain ⟨hp, g3, d3, tk, o3⟩ := t3
      obtain rfl : g3 = s.gens := mv.gens
      obtain rfl : d3 = s.drawn := mv.drawn
      obtain rfl : o3 = s.os := mv.os
      show wpAny _ _ _ _ _ _
      refine wpAny_pure ?_
      show wpAny _ _ (ret Value.none) _ _ _
      refine wpAny_pure ⟨rfl, hp, tk, c, rfl, hS, by rw [← size]; exact hc, fun b o e => ?_⟩
      have lb : b < s.heap.objs.size := Heap.lt_size e
      refine mv.heap b o (fun hm => ?_) (Heap.get?_push_of_some _ (Heap.get?_push_of_some _ e))
      simp only [List.mem_cons, List.not_mem_nil, or_false] at hm
      rw [z1] at hm
      rcases hm with q | q
      · exact Nat.ne_of_lt lb q
      · exact Nat.ne_of_lt (Nat.lt_succ_of_lt lb) q
    · rcases r2 with e | fl2
      · exact hr2
      cases fl2 with
      | ret r =>
        obtain ⟨rfl, hp, tk, c, rfl, hS, hc, hk⟩ := hr2
        repeat (any_goals (first | assumption | wp_step))
        exact fin _ _ _ hS hc hk
      | _ => exact hr2.elim
  | _ => exact hr.elim
end
end VL

set_option Elab.async false
set_option linter.all false
set_option maxRecDepth 100000
set_option maxHeartbeats 4000000
namespace VL
open PySem PySem.Spec PyProof.Rows L2

/-! ### keywords -/
def pick {α : Type} (pi : List Nat) (xs : List α) : List α := pi.filterMap (xs[·]?)
theorem pick_cons {α : Type} (i : Nat) (pi : List Nat) (xs : List α) : pick (i :: pi) xs = (match xs[i]? with | some x => x :: pick pi xs | none => pick pi xs) := by
  unfold pick
  rw [List.filterMap_cons]
  cases xs[i]? <;> rfl
theorem valsPick {vs : List V} {us : List Value} (h : Vals vs us) : ∀ pi : List Nat, Vals (VL.pick pi vs) (VL.pick pi us)
  | [] => .nil
  | i :: pi => by
    rw [pick_cons, pick_cons]
    have ih := valsPick h pi
    cases e : vs[i]? with
    | none =>
      have e2 : us[i]? = none := by
        rw [List.getElem?_eq_none_iff] at e ⊢
        rw [← h.length]; exact e
      rw [e2]; exact ih
    | some v =>
      obtain ⟨u, e2, rr⟩ := h.get e
      rw [e2]
      exact .cons rr ih
theorem HasL.pick {K : PySem.W.Frag} {g : Gh} {vs : List V} {ds : List D} (h : HasL K g vs ds) : ∀ pi : List Nat, HasL K g (VL.pick pi vs) (VL.pick pi ds)
  | [] => .nil
  | i :: pi => by
    rw [pick_cons, pick_cons]
    have ih := HasL.pick h pi
    cases e : ds[i]? with
    | none =>
      have e2 : vs[i]? = none := by
        rw [List.getElem?_eq_none_iff] at e ⊢
        rw [h.length]; exact e
      rw [e2]; exact ih
    | some d =>
      obtain ⟨v, e2, r⟩ := h.get e
      rw [e2]
      exact .cons _ _ _ _ r ih
/-- n by position, those of the names ks behind: how they come to the parameters -/
def KB (K : PySem.W.Frag) (fd : FuncData) (ps ks : List Str) (n : Nat) (pi : List Nat) : Prop :=
  ∀ (s : Shared) (us ws : List Value), K.In s.heap → us.length = n → ws.length = ks.length → BindsTo s fd ⟨us, ks.zip ws⟩ (ps.zip (pick pi (us ++ ws)))
def tCallW (sp : Sp) (n m : Nat) (pi : List Nat) (E : L2.St → XK) (t tk : TA) : TE := fun σ H Q => t σ H fun vs H1 => tk σ H1 fun zs H2 => vs.length = n ∧ zs.length = m ∧ sp (pick pi (vs ++ zs)) H2 Q (E σ)
structure QK (X : Cx) (kws : List Keyword) (t : WX → TA) (d : DA) : Prop where
  pk : ∀ W, Takes X W → PK X kws (t W)
  sim : SimA X.K t d
def dCallW (n m : Nat) (np : Nat) (pi : List Nat) (S : DSpec) (da dk : DA) : DE := fun st Q E => da st (fun es st1 => dk st1 (fun fs st2 => es.length = n ∧ fs.length = m ∧ dFrzL (pick pi (es ++ fs)) st2 fun ds st3 => ds.length = np ∧
  S ds st3.gs (fun en gs => Q en { st3 with gs := gs }) (fun ex gs => E ex { st3 with gs := gs })) E) E
theorem HasHL.length {K : PySem.W.Frag} {σ : L2.St} {g : Gh} : ∀ {vs : List V} {es : List En}, HasHL K σ g vs es → vs.length = es.length
  | _, _, .nil => rfl
  | _, _, .cons _ t => by rw [List.length_cons, List.length_cons, t.length]
theorem HasHL.append {K : PySem.W.Frag} {σ : L2.St} {g : Gh} : ∀ {vs ws : List V} {es fs : List En}, HasHL K σ g vs es → HasHL K σ g ws fs → HasHL K σ g (vs ++ ws) (es ++ fs)
  | _, _, _, _, .nil, s => s
  | _, _, _, _, .cons h t, s => .cons h (HasHL.append t s)
theorem HasHL.get {K : PySem.W.Frag} {σ : L2.St} {g : Gh} : ∀ {vs : List V} {es : List En} {i : Nat} {e : En}, HasHL K σ g vs es → es[i]? = some e → ∃ v, vs[i]? = some v ∧ HasH K σ g v e
  | _, _, _, _, .nil, e => by simp at e
  | _, _, 0, _, .cons h _, e => by simp at e; subst e; exact ⟨_, rfl, h⟩
  | _, _, i + 1, _, .cons _ t, e => by
    obtain ⟨v', h1, h2⟩ := HasHL.get (i := i) t (by simpa using e)
    exact ⟨v', by simpa using h1, h2⟩
theorem HasHL.pick {K : PySem.W.Frag} {σ : L2.St} {g : Gh} {vs : List V} {es : List En} (h : HasHL K σ g vs es) : ∀ pi : List Nat, HasHL K σ g (VL.pick pi vs) (VL.pick pi es)
  | [] => .nil
  | i :: pi => by
    rw [pick_cons, pick_cons]
    have ih := HasHL.pick h pi
    cases e : es[i]? with
    | none =>
      have e2 : vs[i]? = none := by
        rw [List.getElem?_eq_none_iff] at e ⊢
        rw [h.length]; exact e
      rw [e2]; exact ih
    | some d =>
      obtain ⟨v, e2, r⟩ := h.get e
      rw [e2]
      exact .cons r ih
section
variable {X : Cx} {k n : Nat} {f : Addr} {fd : FuncData} {ps ks : List Str} {S : DSpec} {x : Str} {p pos kpos : Pos} {e : Expr} {es : List Expr} {kws : List Keyword} {ta tk te : WX → TA} {da dk : DA} {pi : List Nat} {tv : WX → TE} {dv : DE} {nm : Option Str}
theorem qk_nil : QK X [] (fun _ => tNil) dNil := ⟨fun _ _ => pk_nil, qa_nil.sim⟩
theorem qk_cons (ha : QE X e tv dv) (hr : QK X kws tk dk) : QK X (⟨nm, e, kpos⟩ :: kws) (fun W => tCons (tv W) (tk W)) (dCons dv dk) := ⟨fun W z => pk_cons (ha.pe W z) (hr.pk W z), sim_cons ha.sim hr.sim⟩
theorem run_kw {W : WX} {pins : List (Addr × Obj)} {σ : L2.St} {H : Hp} {s : Shared} {Q : VK} {us ws : List Value} {vs zs : List V} {sp : Sp} (F : FnOk X.prog X.w X.K X.mg X.base (L2.CX X.prog X.w) k f fd ps sp) (hr : Room k X.A) (hb : KB X.K fd ps ks n pi) (tk : Takes X W)
    (I : Inv X pins σ H s) (r : Vals vs us) (rz : Vals zs ws) (e1 : vs.length = n) (e2 : zs.length = ks.length) (h : sp (pick pi (vs ++ zs)) H Q (WE W σ)) : wpAny (model X.prog X.w) X.A (call (.ref f) us (ks.zip ws)) (EP X pins σ Q) X.xe s := by
  have r2 := valsPick (r.append rz) pi
  refine wpAny_call (codeAny_mono (F.run X.A X.stack s H ⟨us, ks.zip ws⟩ _ _ Q (WE W σ) hr I.env0 (hb s us ws I.kIn (by rw [← r.length]; exact e1) (by rw [← rz.length]; exact e2)) r2 h) fun r s' hq => ?_)
  cases r with
  | error e => exact passAt tk σ pins H s e s' I hq
  | ok fl =>
    cases fl with
    | ret u => exact I.after hq
    | next => exact False.elim hq
    | brk => exact False.elim hq
    | cont => exact False.elim hq
theorem sim_callW {K : PySem.W.Frag} {m np : Nat} (ha : SimA K ta da) (hk : SimA K tk dk) : SimE K (fun W => tCallW (spOf K np S) n m pi (WE W) (ta W) (tk W)) (dCallW n m np pi S da dk) := by
  intro H0 g0 W σ H st g Q2 E2 Q R q k kx
  refine ha H0 g0 W σ H st g _ E2 _ R q (fun vs H1 st1 g1 es R1 l1 m1 r1 q1 => ?_) kx
  refine hk H0 g0 W σ H1 st1 g1 _ E2 _ R1 q1 (fun zs H2 st2 g2 fs R2 l2 m2 r2 q2 => ?_) (kx.mono l1)
  obtain ⟨n1, n2, q2⟩ := q2
  have hh := ((r1.mono l2).append r2).pick pi
  exact ⟨by rw [r1.length]; exact n1, by rw [r2.length]; exact n2, call_sim R2 hh q2 (fun v H' st' g' en R' l' m' r' q' => k v H' st' g' en R' ((l1.trans l2).trans l') ((m1.trans m2).trans m') r' q') (kx.mono (l1.trans l2))⟩
/-- f(k = v, ..) -/
theorem q_callK0 {m np : Nat} (F : FnOk X.prog X.w X.K X.mg X.base (L2.CX X.prog X.w) k f fd ps (spOf X.K np S)) (hr : Room k X.A) (hg : Gl X x) (hm : X.mg x = some (.ref f)) (hk : PySem.W.keepIn X.K (.ref f) = true) (hb : KB X.K fd ps ks 0 pi) (hm' : m = ks.length)
    (hkw : QK X kws tk dk) (hdb : (x == ("__debug__" : Str)) = false := by decide) (hall : (backToKw pos (keywordEach kws X.env)).all (·.1.isSome) = true := by rfl) (hks : (backToKw pos (keywordEach kws X.env)).filterMap (·.1) = ks := by rfl)
    (hpl : ((backTo pos (starEach [] X.env)).any (·.1) || (backToKw pos (keywordEach kws X.env)).any (·.1.isNone)) = false := by rfl) :
    QE X (.Call (.Name x p) [] kws pos) (fun W => tCallW (spOf X.K np S) 0 m pi (WE W) tNil (tk W)) (dCallW 0 m np pi S dNil dk) := by
  refine ⟨fun W tk => ⟨fun pins s σ H Q I h => ?_⟩, sim_callW qa_nil.sim hkw.sim⟩
  refine wpAny_Call_Name_kw (ld_glob I hg hm ?_ hdb)
  refine PySem.W.callWith_KW0 (h₀ := X.base) I.ok.mod.kin hk hall (thn ((hkw.pk W tk).run pos pins s σ H _ I h) fun ws s2 ⟨zs, H2, I2, rz, n1, n2, q2⟩ => ⟨I2.kIn, ?_⟩) hpl
  rw [hks]
  exact run_kw (us := []) (vs := []) F hr hb tk I2 .nil rz n1 (n2.trans hm') q2
/-- f(e, .., k = v, ..) -/
theorem q_callK {m np : Nat} (F : FnOk X.prog X.w X.K X.mg X.base (L2.CX X.prog X.w) k f fd ps (spOf X.K np S)) (hr : Room k X.A) (hg : Gl X x) (hm : X.mg x = some (.ref f)) (hk : PySem.W.keepIn X.K (.ref f) = true) (hb : KB X.K fd ps ks n pi) (hm' : m = ks.length)
    (ha : QA X (e :: es) ta da) (hkw : QK X kws tk dk) (hdb : (x == ("__debug__" : Str)) = false := by decide) (hall : (backToKw pos (keywordEach kws X.env)).all (·.1.isSome) = true := by rfl) (hks : (backToKw pos (keywordEach kws X.env)).filterMap (·.1) = ks := by rfl)
    (he : starEach (e :: es) X.env = (false, eval e X.env) :: starEach es X.env := by rfl)
    (hpl : ((backTo pos (starEach (e :: es) X.env)).any (·.1) || (backToKw pos (keywordEach kws X.env)).any (·.1.isNone)) = false := by rfl) :
    QE X (.Call (.Name x p) (e :: es) kws pos) (fun W => tCallW (spOf X.K np S) n m pi (WE W) (ta W) (tk W)) (dCallW n m np pi S da dk) := by
  refine ⟨fun W tk => ⟨fun pins s σ H Q I h => ?_⟩, sim_callW ha.sim hkw.sim⟩
  refine wpAny_Call_Name_kw (ld_glob I hg hm ?_ hdb)
  refine PySem.W.callWith_KW (h₀ := X.base) I.ok.mod.kin hk hall (thn ((ha.pa W tk).run pos pins s σ H _ I h) fun us s1 ⟨vs, H1, I1, r, q⟩ => ?_) hpl he
  refine thn ((hkw.pk W tk).run pos pins s1 σ H1 _ I1 q) fun ws s2 ⟨zs, H2, I2, rz, n1, n2, q2⟩ => ⟨I2.kIn, ?_⟩
  rw [hks]
  exact run_kw F hr hb tk I2 r rz n1 (n2.trans hm') q2
end

/-! ### methods of a text -/
theorem strOk_iff (x : Str) : PyData.strOk x = true ↔ ∀ c ∈ x.cps.toList, c < 0x110000 := by
  unfold PyData.strOk
  rw [← Array.all_toList, List.all_eq_true]
  exact ⟨fun h c hc => by simpa using h c hc, fun h c hc => by simpa using h c hc⟩
theorem strOk_sub {x : Str} (h : PyData.strOk x = true) (i j : Nat) : PyData.strOk (Builtin.Str.strSub x i j) = true := by
  rw [strOk_iff] at h ⊢
  intro c hc
  unfold Builtin.Str.strSub at hc
  refine h c ?_
  have : (x.cps.extract i j).toList = (x.cps.toList.take j).drop i := by simp [List.extract_eq_drop_take, List.drop_take]
  rw [this] at hc
  exact List.mem_of_mem_take (List.mem_of_mem_drop hc)
theorem strOk_join {a : Str} (ha : PyData.strOk a = true) : ∀ {ys : List Str}, (∀ y ∈ ys, PyData.strOk y = true) → PyData.strOk (Str.join a ys) = true
  | [], _ => (by decide +kernel : PyData.strOk Str.empty = true)
  | [y], h => h y List.mem_cons_self
  | y :: z :: r, h => strOk_append (strOk_append (h y List.mem_cons_self) ha) (strOk_join ha fun w hw => h w (List.mem_cons_of_mem _ hw))
theorem txt_join (a : Str) (ys : List Str) : Txt.join a ys = Str.join a ys := StrLaws.glued_eq_join a ys
abbrev DM1 := Str → D → (En → Prop) → Prop
def dM1 (op : DM1) (de da : DE) : DE := fun st Q E => de st (fun e1 st1 => ∃ a, e1 = .sh (.str a) ∧ da st1 (fun e2 st2 => match view st2 e2 with
  | some y => op a y fun en => Q en st2
  | none => False) E) E
def SimM1 (K : PySem.W.Frag) (r : V → List V → Hp → VK → Prop) (op : DM1) : Prop :=
  ∀ H0 g0 σ H st g a y dy (Q2 : En → Prop) (Q : VK), Rel K H0 g0 σ H st g → StrOk a → Rdd K g H y dy → op a dy Q2 →
    (∀ v H' g' en, Rel K H0 g0 σ H' st g' → Le g g' → Lt g g' → HasR K H0 σ H' g' v en → Q2 en → Q v H') → r (.str a) [y] H Q
theorem sim_m1 {K : PySem.W.Frag} {r : V → List V → Hp → VK → Prop} {op : DM1} {te ta : WX → TE} {de da : DE} (so : SimM1 K r op) (ho : SimE K te de) (ha : SimE K ta da) : SimE K (fun W => tM1 r (te W) (ta W)) (dM1 op de da) := by
  intro H0 g0 W σ H st g Q2 E2 Q R q k kx
  refine ho H0 g0 W σ H st g _ E2 _ R q (fun v H1 st1 g1 en R1 l1 m1 r1 q1 => ?_) kx
  obtain ⟨a, rfl, q1⟩ := q1
  obtain ⟨ev, oa⟩ := Rdd.str (K := K) (g := g1) (H := H1) (.inl r1)
  subst ev
  refine ⟨⟨a, rfl⟩, ha H0 g0 W σ H1 st1 g1 _ E2 _ R1 q1 (fun u H2 st2 g2 e2 R2 l2 m2 r2 q2 => ?_) (kx.mono l1)⟩
  split at q2
  · rename_i y ey
    exact so H0 g0 σ H2 st2 g2 a u y _ _ R2 oa (view_rdd R2 r2 ey) q2 fun v H' g' en R' l' m' r' q' => k v H' st2 g' en R' ((l1.trans l2).trans l') ((m1.trans m2).trans m') r' q'
  · exact q2.elim
def dopJoin : DM1 := fun a y Q => match y with
  | .lst xs => ∃ ys, strsOf xs = some ys ∧ (ys.map (·.length)).sum + ys.length * a.length ≤ 16777216 ∧ Q (.sh (.str (Str.join a ys)))
  | .tup xs => ∃ ys, strsOf xs = some ys ∧ (ys.map (·.length)).sum + ys.length * a.length ≤ 16777216 ∧ Q (.sh (.str (Str.join a ys)))
  | _ => False
def rJoinU (K : PySem.W.Frag) : V → List V → Hp → VK → Prop := fun x xs H Q => ∃ a p, ∃ ys : List Str, x = .str a ∧ xs = [.ref p] ∧ (SqL K H p (ys.map V.str) ∨ SqT K H p (ys.map V.str)) ∧
      (ys.map (·.length)).sum + ys.length * a.length ≤ 16777216 ∧ Q (.str (Txt.join a ys)) H
theorem strOk_joined {a : Str} {ys : List Str} (oa : StrOk a) (h : ∀ y ∈ ys, StrOk y) (z : (ys.map (·.length)).sum + ys.length * a.length ≤ 16777216) : StrOk (Str.join a ys) :=
  ⟨Nat.le_trans (StrLaws.join_length_le a ys) (by rw [sizeLine_eq]; exact z), strOk_join oa.2 fun y hy => (h y hy).2⟩
theorem sm1_join {K : PySem.W.Frag} : SimM1 K (rJoinU K) dopJoin := by
  intro H0 g0 σ H st g a y dy Q2 Q R oa ry h k
  unfold dopJoin at h
  split at h
  · obtain ⟨ys, e, z, q⟩ := h
    have e' := strsOf_eq e
    subst e'
    obtain ⟨p, vs, rfl, tp, hp, _⟩ := ry.lst R.ex
    obtain ⟨ev, oy⟩ := hp.str
    subst ev
    refine ⟨a, p, ys, rfl, rfl, .inl (SqL.of tp), z, ?_⟩
    rw [txt_join]
    exact k _ H g (.sh (.str _)) R (Le.refl g) (Lt.refl g) (Has.str _ (strOk_joined oa oy z)) q
  · obtain ⟨ys, e, z, q⟩ := h
    have e' := strsOf_eq e
    subst e'
    obtain ⟨p, vs, rfl, tp, hp, _⟩ := ry.tup R.ex
    obtain ⟨ev, oy⟩ := hp.str
    subst ev
    refine ⟨a, p, ys, rfl, rfl, .inr tp, z, ?_⟩
    rw [txt_join]
    exact k _ H g (.sh (.str _)) R (Le.refl g) (Lt.refl g) (Has.str _ (strOk_joined oa oy z)) q
  · exact h.elim
def dopStripC : DM1 := fun a y Q => match y with
  | .str b => Q (.sh (.str (Txt.stripChars a b)))
  | _ => False
theorem sm1_stripC {K : PySem.W.Frag} : SimM1 K (fun x xs H Q => ∃ a b, x = .str a ∧ xs = [.str b] ∧ a.length ≤ sizeLine ∧ Q (.str (Txt.stripChars a b)) H) dopStripC := by
  intro H0 g0 σ H st g a y dy Q2 Q R oa ry h k
  unfold dopStripC at h
  split at h
  · rename_i b
    refine ⟨a, b, rfl, by rw [ry.str.1], oa.1, k _ H g (.sh (.str _)) R (Le.refl g) (Lt.refl g) (Has.str _ ⟨Nat.le_trans (PyProof.Rows.len_stripChars a b) oa.1, ?_⟩) h⟩
    unfold Txt.stripChars Txt.stripBy
    split
    · exact oa.2
    · exact strOk_sub oa.2 _ _
  · exact h.elim
section
variable {X : Cx} {e o : Expr} {apos pos : Pos} {to te : WX → TE} {dob de : DE}
theorem q_join (ho : QE X o to dob) (he : QE X e te de) (hs : starEach [e] X.env = [(false, eval e X.env)] := by rfl) (hbase : attributeBase o "join" X.env (eval o X.env) = eval o X.env := by rfl) (hline : (apos.endLine == pos.line) = true := by rfl) :
    QE X (.Call (.Attribute o "join" apos) [e] [] pos) (fun W => tM1 (rJoinU X.K) (to W) (te W)) (dM1 dopJoin dob de) := ⟨fun W tk => pe_join (ho.pe W tk) (he.pe W tk) hs hbase hline, sim_m1 sm1_join ho.sim he.sim⟩
theorem q_stripC (ho : QE X o to dob) (he : QE X e te de) (hs : starEach [e] X.env = [(false, eval e X.env)] := by rfl) (hbase : attributeBase o "strip" X.env (eval o X.env) = eval o X.env := by rfl) (hline : (apos.endLine == pos.line) = true := by rfl) :
    QE X (.Call (.Attribute o "strip" apos) [e] [] pos) (fun W => tM1 (fun x xs H Q => ∃ a b, x = .str a ∧ xs = [.str b] ∧ a.length ≤ sizeLine ∧ Q (.str (Txt.stripChars a b)) H) (to W) (te W)) (dM1 dopStripC dob de) :=
  ⟨fun W tk => pe_m1 PySem.F.slot_str_strip PySem.F.type_str_strip mt_stripChars (ho.pe W tk) (he.pe W tk) hs hbase hline, sim_m1 sm1_stripC ho.sim he.sim⟩
end

/-! ### list(range(n)), ** -/
section
variable {X : Cx} {e : Expr} {pos : Pos} {te : WX → TE} {de : DE}
def dLsR (de : DE) : DE := fun st Q E => de st (fun en st1 => ∃ n : Int, view st1 en = some (.int n) ∧ n ≤ 16777216 ∧ -(2 ^ 62) ≤ n ∧ Q (.ow (.lst (rangeD 0 n.toNat))) st1) E
theorem rgV_range (n : Int) : rgV 0 n = (List.range n.toNat).map fun i => V.int ((i : Nat) : Int) := by
  unfold rgV
  rw [Int.sub_zero]
  exact List.map_congr_left fun i _ => by rw [Int.zero_add]
theorem rangeD_ints (n : Nat) : rangeD 0 n = ((List.range n).map fun i => ((i : Nat) : Int)).map D.int := by
  unfold rangeD
  rw [List.map_map]
  exact List.map_congr_left fun i _ => by show D.int (0 + i) = _; rw [Int.zero_add]; rfl
theorem q_lsR {p p2 pos2 : Pos} (hc : X.calm = true) (hg : Gl X "list") (hm : X.mg "list" = none) (hg2 : Gl X "range") (hm2 : X.mg "range" = none) (he : QE X e te de) (na : starEach [e] X.env = (false, eval e X.env) :: starEach [] X.env := by rfl)
    (na2 : starEach [.Call (.Name "range" p2) [e] [] pos2] X.env = (false, eval (.Call (.Name "range" p2) [e] [] pos2) X.env) :: starEach [] X.env := by rfl) :
    QE X (.Call (.Name "list" p) [.Call (.Name "range" p2) [e] [] pos2] [] pos) (fun W => tLstRg (tRg1 (te W))) (dLsR de) := by
  refine ⟨fun W tk => pe_listRg hc hg hm (prg_1 hg2 hm2 (he.pe W tk) na) na2, ?_⟩
  intro H0 g0 W σ H st g Q2 E2 Q R q k kx
  refine he.sim H0 g0 W σ H st g _ E2 _ R q (fun v H1 st1 g1 en R1 l1 m1 r1 q1 => ?_) kx
  obtain ⟨n, ev, b1, b2, q1⟩ := q1
  have e1 := (view_rdd R1 r1 ev).int
  refine ⟨n, e1, ⟨by omega, by omega, b2, by omega, by omega⟩, fun p hp => ?_⟩
  have e2 : rgV 0 n = ((List.range n.toNat).map fun i => ((i : Nat) : Int)).map V.int := by
    rw [rgV_range, List.map_map]; rfl
  rw [e2]
  obtain ⟨R', r⟩ := R1.newR hp (Con.lst _ _ (hasL_ints ((List.range n.toNat).map fun i => ((i : Nat) : Int))) (by rw [List.length_map, List.length_map, List.length_range, sizeLine_eq]; omega))
  rw [← rangeD_ints] at r
  exact k _ _ st1 g1 (.ow _) R' l1 m1 r q1
end
def CPowW (i j : Int) : Prop := 0 ≤ j ∧ (Builtin.Int.intBits i : Int) * j ≤ 2 ^ 27
theorem op_powW {X : Cx} : OpR X (binaryOp .Pow) (rI CPowW fun i j => .int (i ^ j.toNat)) := opI fun _ _ _ _ _ _ _ hc q => pow_int hc.1 hc.2 q
abbrev dopPow : DOp := dopI CPowW fun i j => i ^ j.toNat

/-! ### sorted(set(l)) -/
section
variable {X : Cx} {e : Expr} {pos p p2 pos2 : Pos} {te : WX → TE} {de : DE}
def rSetI (K : PySem.W.Frag) (w : World) : List V → Hp → VK → Prop := fun vs H Q => ∃ (a : Addr) (ks : List Int), vs = [V.ref a] ∧ SqL K H a (ks.map V.int) ∧ ks.length + 1 < scanBound ∧
  ∀ p c, H p = none → c ≤ ks.length → Q (.ref p) (upd H p (SetO w p (fun j => decide (j ∈ ks)) c))
theorem cr_setI (hc : X.calm = true) : CallR X (.type "set") (rSetI X.K X.w) := by
  intro pins s σ H vs us Q I r h
  obtain ⟨a, ks, rfl, ha, few, q⟩ := h
  rw [Vals.ref1 r]
  obtain ⟨its, rv, pl, hz⟩ := I.list ha
  refine set_of_list ks (I.ok.hd hc) pl.isList (ints_of_vals rv) few fun hp tk c hS hcl keep => ?_
  exact ⟨.ref s.heap.objs.size, upd H s.heap.objs.size (SetO X.w s.heap.objs.size (fun j => decide (j ∈ ks)) c), I.laid (t' := tk) keep (Nat.le_refl _) (setO_new hS), rfl, q _ c (I.hok.fresh (Nat.le_refl _)) hcl⟩
/-- sorted(set(l)), l a list of fewer than 64 ints -/
def dSortSet (de : DE) : DE := fun st Q E => de st (fun en st1 => ∃ xs ks, view st1 en.hold = some (.lst xs) ∧ intsOf xs = some ks ∧ ks.length < 64 ∧ ∀ ms : List Int, ms.Pairwise (· < ·) → (∀ k : Int, k ∈ ms ↔ k ∈ ks) → Q (.ow (.lst (ms.map D.int))) st1) E
theorem q_sortSet (hc : X.calm = true) (hg : Gl X "sorted") (hm : X.mg "sorted" = none) (hg2 : Gl X "set") (hm2 : X.mg "set" = none) (he : QE X e te de) (na : starEach [e] X.env = (false, eval e X.env) :: starEach [] X.env := by rfl)
    (na2 : starEach [.Call (.Name "set" p2) [e] [] pos2] X.env = (false, eval (.Call (.Name "set" p2) [e] [] pos2) X.env) :: starEach [] X.env := by rfl) (hpl : (backTo pos (starEach [] X.env)).any (·.1) = false := by rfl) (hpl2 : (backTo pos2 (starEach [] X.env)).any (·.1) = false := by rfl) :
    QE X (.Call (.Name "sorted" p) [.Call (.Name "set" p2) [e] [] pos2] [] pos) (fun W => tCB (rSortedSet X.w) (tCons (tCB (rSetI X.K X.w) (tCons (te W) tNil)) tNil)) (dSortSet de) := by
  refine ⟨fun W tk => pe_callB (cr_sortedSet hc) hg hm (by decide +kernel) (pa_cons (pe_callTy (cr_setI hc) hg2 hm2 (by decide +kernel) (pa_cons (he.pe W tk) pa_nil na) (by decide) (by decide) na hpl2) pa_nil na2) (by decide) (by decide) na2 hpl, ?_⟩
  intro H0 g0 W σ H st g Q2 E2 Q R q k kx
  refine he.sim H0 g0 W σ H st g _ E2 _ R q (fun v H1 st1 g1 en R1 l1 m1 r1 q1 => ?_) kx
  obtain ⟨g2, R2, l2, m2, h2⟩ := R1.hold r1
  obtain ⟨xs, ks, ev, ek, few, q1⟩ := q1
  have ek' := intsOf_eq ek
  subst ek'
  obtain ⟨a, vs, rfl, ta, ha, za⟩ := (view_rdd R2 (h2.toR (H0 := H0) (H := H1)) ev).lst R2.ex
  have evs := ha.int
  subst evs
  refine ⟨a, ks, rfl, SqL.of ta, (by unfold scanBound; omega), fun p c hp hc' => ?_⟩
  refine ⟨p, _, c, rfl, upd_same, by omega, fun ms p3 pw mem hl hp3 => ?_⟩
  have R3 := R2.temp (ho := SetO X.w p (fun j => decide (j ∈ ks)) c) hp
  have zl : (ms.map D.int).length ≤ sizeLine := by rw [List.length_map, hl, sizeLine_eq]; omega
  obtain ⟨R4, r4⟩ := R3.newR hp3 (Con.lst _ _ (hasL_ints ms) zl)
  exact k _ _ st1 g2 (.ow _) R4 (l1.trans l2) (m1.trans m2) r4 (q1 ms pw fun j => by rw [mem j]; exact decide_eq_true_iff)
end
end VL

set_option Elab.async false
set_option linter.all false
set_option maxRecDepth 100000
set_option maxHeartbeats 4000000
namespace VL
open PySem PySem.Spec PyProof.Rows L2

/-! ### draw boxes -/
section
variable {K : PySem.W.Frag} {H0 H : Hp} {g0 g : Gh} {σ : L2.St} {st : DSt} {v : V}
/-- a new list of four becomes a box -/
theorem Rel.toBox (R : Rel K H0 g0 σ H st g) {n m k : Int} {c : Bool} (h : HasR K H0 σ H g v (.ow (.lst [.int n, .bl c, .int m, .int k]))) (h1 : 0 ≤ n) (h2 : 0 ≤ m) (h3 : m < 2147483648) (h4 : 0 ≤ k) (h5 : k ≤ st.gs.T) :
    ∃ g', Rel K H0 g0 σ H st g' ∧ Le g g' ∧ Lt g g' ∧ Has K g' v .box := by
  obtain ⟨p, ho, rfl, e, cc, z1, z2, z3⟩ := h
  have box : BoxAt st.gs.T H p := by
    cases cc with
    | lst vs ds hl z =>
      cases hl with
      | cons a _ _ _ ha t =>
        cases t with
        | cons b _ _ _ hb t =>
          cases t with
          | cons d _ _ _ hd t =>
            cases t with
            | cons f _ _ _ hf t =>
              cases t
              have e1 := Rdd.int (H := H) (.inl ha)
              have e2 := has_bl hb
              have e3 := Rdd.int (H := H) (.inl hd)
              have e4 := Rdd.int (H := H) (.inl hf)
              subst e1; subst e2; subst e3; subst e4
              exact ⟨n, c, m, k, e, h1, h2, h3, h4, h5⟩
  let g' : Gh := { G := g.G, C := fun b => if b = p then some .box else g.C b, tm := g.tm }
  have l : Le g g' := by
    refine ⟨Ex.refl _, fun a t q k => ?_⟩
    show (if a = p then some .box else g.C a) = some t
    rw [if_neg]
    · exact q
    · rintro rfl; rw [z2] at q; cases q
  have lt : Lt g g' := by
    intro a u q k
    have nn : a ≠ p := by rintro rfl; rw [z2] at q; cases q
    exact ⟨by show (if a = p then some .box else g.C a) = some .tmp; rw [if_neg nn]; exact q, k⟩
  have off : ∀ {a t}, g'.C a = some t → (a = p ∧ t = .box) ∨ (a ≠ p ∧ g.C a = some t) := fun {a t} q => by
    have q' : (if a = p then some .box else g.C a) = some t := q
    by_cases z : a = p
    · rw [if_pos z] at q'; cases q'; exact .inl ⟨z, rfl⟩
    · rw [if_neg z] at q'; exact .inr ⟨z, q'⟩
  refine ⟨g', ⟨R.ex, R.le.trans l, R.lt.trans lt, R.ng, R.h0, R.td, fun a t q => ?_, R.gf, R.fr, fun i en q => ?_, fun n u q => ?_, fun a b n q1 q2 => ?_, R.len⟩, l, lt, .box p (if_pos rfl)⟩
  · rcases off q with ⟨rfl, rfl⟩ | ⟨z, q'⟩
    · exact ⟨z1, .inl z3, box⟩
    · obtain ⟨w1, w2, w3⟩ := R.cg a t q'
      refine ⟨w1, w2, ?_⟩
      cases t with
      | box => exact w3
      | mu j =>
        obtain ⟨u, o, x0, x1, r⟩ := w3
        exact ⟨u, o, x0, x1, r.mono l⟩
      | own j =>
        obtain ⟨u, o, x0, x2, x1, r⟩ := w3
        exact ⟨u, o, x0, x2, x1, r.mono l⟩
      | tmp =>
        obtain ⟨u, o, x0, x1, r⟩ := w3
        exact ⟨u, o, x0, x1, r.mono l⟩
  · have w := R.sl i en q
    cases en with
    | sh u =>
      obtain ⟨v, e1, r⟩ := w
      exact ⟨v, e1, r.mono l⟩
    | ow u =>
      obtain ⟨a, w⟩ := w
      refine ⟨a, ?_⟩
      show (if a = p then some .box else g.C a) = some (.own i)
      rw [if_neg, w]
      rintro rfl
      rw [z2] at w; cases w
    | lc k => exact w
  · obtain ⟨a, w⟩ := R.mu n u q
    exact ⟨a, l.cs a _ w rfl⟩
  · rcases off q1 with ⟨_, z⟩ | ⟨_, y1⟩
    · cases z
    · rcases off q2 with ⟨_, z⟩ | ⟨_, y2⟩
      · cases z
      · exact R.inj a b n y1 y2
/-- a box is written -/
theorem Rel.writeBox (R : Rel K H0 g0 σ H st g) {a : Addr} {T' : Nat} {xs : List V} (ha : g.C a = some .box) (hT : st.gs.T ≤ T') (hb : BoxAt T' (upd H a (.lst xs)) a) : Rel K H0 g0 σ (upd H a (.lst xs)) { st with gs := { st.gs with T := T' } } g := by
  obtain ⟨w1, w2, w3⟩ := R.cg a _ ha
  refine ⟨fun b o q => ?_, R.le, R.lt, R.ng, R.h0, R.td, fun b t q => ?_, R.gf, fun b o q w => ?_, R.sl, R.mu, R.inj, R.len⟩
  · have e := R.ex b o q
    rw [upd_ne]
    · exact e
    · rintro rfl; rw [w1] at q; cases q
  · obtain ⟨y1, y2, y3⟩ := R.cg b t q
    refine ⟨y1, y2, ?_⟩
    by_cases z : b = a
    · subst z
      rw [ha] at q; cases q
      exact hb
    · cases t with
      | box =>
        obtain ⟨m0, b', m, k, e1, r1, r2, r3, r4, r5⟩ := y3
        exact ⟨m0, b', m, k, by rw [upd_ne z]; exact e1, r1, r2, r3, r4, Int.le_trans r5 (by exact_mod_cast hT)⟩
      | mu j =>
        obtain ⟨u, o, v0, v1, r⟩ := y3
        exact ⟨u, o, v0, by rw [upd_ne z]; exact v1, r⟩
      | own j =>
        obtain ⟨u, o, v0, v2, v1, r⟩ := y3
        exact ⟨u, o, v0, v2, by rw [upd_ne z]; exact v1, r⟩
      | tmp =>
        obtain ⟨u, o, x0, x1, r⟩ := y3
        exact ⟨u, o, x0, by rw [upd_ne z]; exact x1, r⟩
  · rw [upd_ne]
    · exact R.fr b o q w
    · rintro rfl
      rcases w2 with z | z
      · rw [z] at q; cases q
      · rw [w] at z; cases z
theorem has_box (h : Has K g v .box) : ∃ a, v = .ref a ∧ g.C a = some .box := by
  cases h with
  | obj a ho d h c => cases c
  | box a h => exact ⟨a, rfl, h⟩
end
/-- what may stand in a box -/
def boxOk (T : Nat) : Nat → D → Prop
  | 0, x => ∃ n : Int, x = .int n ∧ 0 ≤ n
  | 1, x => ∃ c, x = .bl c
  | 2, x => ∃ m : Int, x = .int m ∧ 0 ≤ m ∧ m < 2147483648
  | 3, x => ∃ k : Int, x = .int k ∧ 0 ≤ k ∧ k ≤ T
  | _, _ => False
/-- box[j] -/
def dBoxIx (j : Nat) (da : DE) : DE := fun st Q E => da st (fun en st1 => en = .sh .box ∧ j < 4 ∧ ∀ x, boxOk st1.gs.T j x → Q (.sh x) st1) E
/-- [.., .., .., 0] becomes a box -/
def dToBox (da : DE) : DE := fun st Q E => da st (fun en st1 => (∃ n c m k, en = .ow (.lst [.int n, .bl c, .int m, .int k]) ∧ 0 ≤ n ∧ 0 ≤ m ∧ m < 2147483648 ∧ 0 ≤ k ∧ k ≤ st1.gs.T) ∧ Q (.sh .box) st1) E
/-- box[j] = v -/
def dgBox (j : Nat) (db : DE) : DG := fun en st Q E => match j, en with
  | 0, .sh (.int n) => 0 ≤ n ∧ db st (fun eb st1 => eb = .sh .box ∧ Q st1) E
  | 3, .sh (.int k) => 0 ≤ k ∧ db st (fun eb st1 => eb = .sh .box ∧ k ≤ st1.gs.T + 1 ∧ Q { st1 with gs := { st1.gs with T := st1.gs.T + 1 } }) E
  | _, _ => False
section
variable {X : Cx} {e a o : Expr} {pos p : Pos} {kk : _} {ta to : WX → TE} {da dob : DE}
theorem q_toBox (h : QE X e ta da) : QE X e ta (dToBox da) := by
  refine ⟨h.pe, ?_⟩
  intro H0 g0 W σ H st g Q2 E2 Q R q k kx
  refine h.sim H0 g0 W σ H st g _ E2 _ R q (fun v H1 st1 g1 en R1 l1 m1 r1 q1 => ?_) kx
  obtain ⟨⟨n, c, m, j, rfl, h1, h2, h3, h4, h5⟩, q1⟩ := q1
  obtain ⟨g2, R2, l2, m2, hb⟩ := R1.toBox r1 h1 h2 h3 h4 h5
  exact k v H1 st1 g2 (.sh .box) R2 (l1.trans l2) (m1.trans m2) hb q1
theorem q_boxIx (j : Nat) (ha : QE X a ta da) (hs : PlainIx (.Constant (.int (j : Int)) kk p)) : QE X (.Subscript a (.Constant (.int (j : Int)) kk p) pos) (fun W => tOp (rIx X.K) (ta W) (tC (.int (j : Int)))) (dBoxIx j da) := by
  refine ⟨fun W tk => pe_ix ix_seq (ha.pe W tk) pe_int hs, ?_⟩
  intro H0 g0 W σ H st g Q2 E2 Q R q k kx
  refine ha.sim H0 g0 W σ H st g _ E2 _ R q (fun v H1 st1 g1 en R1 l1 m1 r1 q1 => ?_) kx
  obtain ⟨rfl, hj, q1⟩ := q1
  obtain ⟨b, rfl, cb⟩ := has_box r1
  obtain ⟨_, _, n, c, m, i, eb, b1, b2, b3, b4, b5⟩ := R1.cg b _ cb
  have go : ∀ (x : V) (d : D), [V.int n, V.bl c, V.int m, V.int i][j]? = some x → Has X.K g1 x d → boxOk st1.gs.T j d → rIx X.K (.ref b) (.int (j : Int)) H1 Q := fun x d ex hx ok => by
    refine .inl ⟨b, _, (j : Int), x, rfl, rfl, SqL.of eb, ?_, k x H1 st1 g1 (.sh d) R1 l1 m1 hx (q1 d ok)⟩
    have hj4 : ((j : Int)) < (([V.int n, V.bl c, V.int m, V.int i].length : Nat) : Int) := by show (j : Int) < 4; omega
    show (ixN _ _).bind _ = _
    unfold ixN
    rw [if_pos (Int.natCast_nonneg j), if_pos hj4]
    exact ex
  match j, hj with
  | 0, _ => exact go _ (.int n) rfl (.int n) ⟨n, rfl, b1⟩
  | 1, _ => exact go _ (.bl c) rfl (.bl c) ⟨c, rfl⟩
  | 2, _ => exact go _ (.int m) rfl (.int m) ⟨m, rfl, b2, b3⟩
  | 3, _ => exact go _ (.int i) rfl (.int i) ⟨i, rfl, b4, b5⟩
theorem qg_box (j : Nat) (ho : QE X o to dob)
    (ha : ∀ v, assign (.Subscript o (.Constant (.int (j : Int)) kk p) pos) X.env v = (do
      let ov ← holding [v] (eval o X.env)
      let iv ← holding [v, ov] (eval (.Constant (.int (j : Int)) kk p) X.env)
      standAt pos
      holding [v, ov, iv] (setItem ov iv v)
      release [v, ov, iv] []) := by intro _; rfl) : QG X (.Subscript o (.Constant (.int (j : Int)) kk p) pos) [] (fun W => gSub (to W) (tC (.int (j : Int))) rSetL) (dgBox j dob) := by
  refine ⟨fun W tk => pg_sub (ho.pe W tk) pe_int set_list ha, ?_⟩
  intro H0 g0 W σ H st g v en Q2 E2 Q R r q k kx
  unfold dgBox at q
  split at q
  · rename_i n
    obtain ⟨h0, q⟩ := q
    have ev := Rdd.int (H := H) (.inl r)
    subst ev
    refine ho.sim H0 g0 W σ H st g _ E2 _ R q (fun vo H1 st1 g1 eo R1 l1 m1 r1 q1 => ?_) kx
    obtain ⟨rfl, q1⟩ := q1
    obtain ⟨b, rfl, cb⟩ := has_box r1
    obtain ⟨_, _, n1, c, m, i, eb, b1, b2, b3, b4, b5⟩ := R1.cg b _ cb
    refine ⟨b, _, (0 : Nat), 0, rfl, rfl, eb, rfl, k σ _ _ g1 (R1.writeBox cb (Nat.le_refl _) ⟨n, c, m, i, upd_same, h0, b2, b3, b4, b5⟩) l1 m1 ⟨rfl, fun _ _ => rfl⟩ q1⟩
  · rename_i n
    obtain ⟨h0, q⟩ := q
    have ev := Rdd.int (H := H) (.inl r)
    subst ev
    refine ho.sim H0 g0 W σ H st g _ E2 _ R q (fun vo H1 st1 g1 eo R1 l1 m1 r1 q1 => ?_) kx
    obtain ⟨rfl, hk, q1⟩ := q1
    obtain ⟨b, rfl, cb⟩ := has_box r1
    obtain ⟨_, _, n1, c, m, i, eb, b1, b2, b3, b4, b5⟩ := R1.cg b _ cb
    refine ⟨b, _, (3 : Nat), 3, rfl, rfl, eb, rfl, k σ _ _ g1 (R1.writeBox (T' := st1.gs.T + 1) cb (Nat.le_succ _) ⟨n1, c, m, n, upd_same, b1, b2, b3, h0, hk⟩) l1 m1 ⟨rfl, fun _ _ => rfl⟩ q1⟩
  · exact q.elim
end
end VL

set_option Elab.async false
set_option linter.all false
set_option maxRecDepth 100000
set_option maxHeartbeats 4000000
namespace VL
open PySem PySem.Spec PyProof.Rows L2
/-- a def that may be called by its name -/
structure Callee (P : Program) (w : World) (K : PySem.W.Frag) (mg : Str → Option Value) (base : Heap) (x : Str) (st : Stmt) (k : Nat) (ps : List Str) (S : DSpec) where
  f : Addr
  fd : FuncData
  F : Fun K x x st f fd
  ok : FnOk P w K mg base (L2.CX P w) k f fd ps (spOf K ps.length S)
  m : mg x = some (.ref f)
  kp : PySem.W.keepIn K (.ref f) = true
  b : Binds K fd ps []
theorem kbOf {K : PySem.W.Frag} {x qual : Str} {st : Stmt} {f : Addr} {fd : FuncData} {ps ks : List Str} {n : Nat} {pi : List Nat} (F : Fun K x qual st f fd)
    (h : ∀ (kV doc pm : Value) (an : Option Addr) (cdv ct : Value) (us ws : List Value), us.length = n → ws.length = ks.length → bindArgs (PySem.W.fnOf x qual (defArgs st) (defBody st) (defScope st) .none kV doc pm an cdv ct) ⟨us, ks.zip ws⟩ = pure (ps.zip (pick pi (us ++ ws)))) : KB K fd ps ks n pi := by
  obtain ⟨oc, od, kV, doc, pm, an, cdv, ct, osl, rfl, lk, hcd⟩ := F.ex
  exact fun s us ws _ h1 h2 => .of_eq (h kV doc pm an cdv ct us ws h1 h2)
section
variable {X : Cx} {x : Str} {pos : Pos} {i : Int} {z : Str} {t : Tok}
/-- a module's constant -/
theorem q_globI (hg : Gl X x) (hm : X.mg x = some (.int i t)) (hd : (x == ("__debug__" : Str)) = false := by decide) : QE X (.Name x pos) (fun _ => tC (.int i)) (dC (.int i)) := q_glob hg hm ⟨t, rfl⟩ (fun _ => .int _) hd
theorem q_globS (hg : Gl X x) (hm : X.mg x = some (.str z t)) (hz : StrOk z) (hd : (x == ("__debug__" : Str)) = false := by decide) : QE X (.Name x pos) (fun _ => tC (.str z)) (dC (.str z)) := q_glob hg hm ⟨t, rfl⟩ (fun _ => .str _ hz) hd
end
section
variable {X : Cx} {elt tg iter : Expr} {ifs : List Expr} {scope : Scope} {own : List (Str × Nat)} {pos : Pos} {ti : WX → TI} {tgt : WX → TG} {tt : WX → TT} {te : WX → TE} {di : DI} {dg : DG} {dt : DT} {de : DE} {ws : List Nat}
/-- the block of a comprehension, as it may be -/
abbrev Bk0 (X : Cx) (scope : Scope) : Cx := X.blk X.s_0 X.H_0 scope (compEnvC scope [] 0 X.env) []
theorem q_lc' (own : List (Str × Nat)) (hc : X.calm = true) (hN : X.N.Nodup) (hi : QI X tg iter ti di) (ok : BlkOk X.N X.env.scope scope own)
    (hg0 : QG (Bk0 X scope) tg ws tgt dg) (ht0 : QTs (Bk0 X scope) ifs tt dt) (he0 : QE (Bk0 X scope) elt te de)
    (hg : ∀ (s : Shared) (H : Hp) (C : Addr) (cl : List (Str × Addr)) (fp : List Addr), QG (X.blk s H scope (compEnvC scope cl C X.env) fp) tg ws tgt dg) (ht : ∀ (s : Shared) (H : Hp) (C : Addr) (cl : List (Str × Addr)) (fp : List Addr), QTs (X.blk s H scope (compEnvC scope cl C X.env) fp) ifs tt dt)
    (he : ∀ (s : Shared) (H : Hp) (C : Addr) (cl : List (Str × Addr)) (fp : List Addr), QE (X.blk s H scope (compEnvC scope cl C X.env) fp) elt te de) (hw : ∀ i ∈ ws, i ∈ own.map (·.2) := by decide) (hs : ∀ x, foldedSetIterable iter X.env x = pure x := by intro _; rfl) :
    QE X (.ListComp elt [⟨tg, iter, ifs, 0⟩] scope pos) (fun W => tLc (ti W) (tgt W0) (tt W0) (te W0) (own.map (·.2))) (dLc (own.map (·.2)) di dg dt de) := q_lc own hc hN hi ok hg ht he hw hs
theorem qs_setLc' {i : Nat} {y : Str} {py spos : Pos} (own : List (Str × Nat)) (hc : X.calm = true) (hN : X.N.Nodup) (hy : X.N[i]? = some y) (hyl : X.env.scope.names.lookup y = some .local)
    (hsw : swapsWith (.ListComp elt [⟨tg, iter, ifs, 0⟩] scope pos) (some (.Name y py)) spos.line X.env = pure true) (hi : QI X tg iter ti di) (ok : BlkOk X.N X.env.scope scope own)
    (hg0 : QG (Bk0 X scope) tg ws tgt dg) (ht0 : QTs (Bk0 X scope) ifs tt dt) (he0 : QE (Bk0 X scope) elt te de)
    (hg : ∀ (s : Shared) (H : Hp) (C : Addr) (cl : List (Str × Addr)) (fp : List Addr), QG (X.blk s H scope (compEnvC scope cl C X.env) fp) tg ws tgt dg) (ht : ∀ (s : Shared) (H : Hp) (C : Addr) (cl : List (Str × Addr)) (fp : List Addr), QTs (X.blk s H scope (compEnvC scope cl C X.env) fp) ifs tt dt)
    (he : ∀ (s : Shared) (H : Hp) (C : Addr) (cl : List (Str × Addr)) (fp : List Addr), QE (X.blk s H scope (compEnvC scope cl C X.env) fp) elt te de) (hw : ∀ i ∈ ws, i ∈ own.map (·.2) := by decide) (hs : ∀ x, foldedSetIterable iter X.env x = pure x := by intro _; rfl) :
    QS X (.Assign [.Name y py] (.ListComp elt [⟨tg, iter, ifs, 0⟩] scope pos) spos) (fun W => tAsg (tLc (ti W) (tgt W0) (tt W0) (te W0) (own.map (·.2))) (gName i)) (dAsg (dLc (own.map (·.2)) di dg dt de) (dName i)) := qs_setLc own hc hN hy hyl hsw hi ok hg ht he hw hs
end
/-- what the law is entered with -/
def ghost0 (H : Hp) : Gh := { G := H, C := fun _ => none, tm := fun _ => none }
theorem rel0 {K : PySem.W.Frag} (H : Hp) : Rel K H (ghost0 H) [] H ⟨[], ⟨[], 0⟩⟩ (ghost0 H) where
  ex := Ex.refl _
  le := Le.refl _
  lt := Lt.refl _
  ng := fun a i e => by cases e
  h0 := fun a t e => by cases e
  td := fun a e => by cases e
  cg := fun a t e => by cases e
  gf := fun a o e => .inl e
  fr := fun a o e _ => e
  sl := fun i en e => by simp at e
  mu := fun n d e => by simp at e
  inj := fun a b n e _ => by cases e
  len := rfl
theorem spLaw_of {K : PySem.W.Frag} {S : DSpec} {H : Hp} {a : Addr} {ns : List Int} (hl : ns.length ≤ 63) (hS : SqL K H a (ns.map V.int)) (h : S [.scr ns] ⟨[], 0⟩ (fun en _ => en = .sh (.bl true)) (fun _ _ => False)) :
    spOf K 1 S [.ref a] H (fun v _ => v = .bl true) fun _ _ _ => False := by
  refine ⟨ghost0 H, [.scr ns], ⟨[], 0⟩, _, _, rel0 H, .cons _ _ _ _ (.scr a ns hS hl) .nil, rfl, h, fun v H' g' gs' en R l r q => ?_, fun ex cls dx H' g' gs' R l e q => q⟩
  subst q
  exact has_bl r
theorem cx_none {P : Program} {w : World} {H : Hp} {s : Shared} {e : Value} {s' : Shared} (h : L2.CX P w [] H s (fun _ _ _ => False) e s') : False := by
  obtain ⟨a, B, H', cls, d, _, _, _, _, _, _, _, q⟩ := h
  exact q
end VL

set_option Elab.async false
set_option linter.all false
set_option maxRecDepth 100000
set_option maxHeartbeats 4000000
namespace VL
open PySem PySem.Spec PyProof.Rows L2

/-! ### a comprehension over a slot's own list, which stays the slot's own -/
section
variable {K : PySem.W.Frag} {H0 H : Hp} {g0 g : Gh} {σ : L2.St} {st : DSt}
/-- what slot i has by itself becomes a temporary thing -/
theorem Rel.ownTmp (R : Rel K H0 g0 σ H st g) {i : Nat} {d : D} (h : st.sl[i]? = some (some (.ow d))) :
    ∃ g' a, g.C a = some (.own i) ∧ σ[i]? = some (some (.ref a)) ∧ H0 a = none ∧ Rel K H0 g0 σ H { st with sl := st.sl.set i none } g' ∧ Le g g' ∧ Lt g g' ∧ g'.C a = some .tmp ∧ g'.tm a = some d := by
  obtain ⟨a, ho, ea, es, eh, c, hg, h0⟩ := R.own h
  let g' : Gh := { G := g.G, C := fun b => if b = a then some .tmp else g.C b, tm := fun b => if b = a then some d else g.tm b }
  have l : Le g g' := by
    refine ⟨Ex.refl _, fun b t e k => ?_⟩
    show (if b = a then some .tmp else g.C b) = some t
    rw [if_neg]
    · exact e
    · rintro rfl; rw [ea] at e; cases e; cases k
  have lt : Lt g g' := by
    intro b u e k
    have n : b ≠ a := by rintro rfl; rw [ea] at e; cases e
    exact ⟨by show (if b = a then some .tmp else g.C b) = some .tmp; rw [if_neg n]; exact e, by show (if b = a then some d else g.tm b) = some u; rw [if_neg n]; exact k⟩
  have off : ∀ {b t}, g'.C b = some t → (b = a ∧ t = .tmp) ∨ (b ≠ a ∧ g.C b = some t) := fun {b t} q => by
    have q' : (if b = a then some .tmp else g.C b) = some t := q
    by_cases z : b = a
    · rw [if_pos z] at q'; cases q'; exact .inl ⟨z, rfl⟩
    · rw [if_neg z] at q'; exact .inr ⟨z, q'⟩
  refine ⟨g', a, ea, es, h0, ⟨R.ex, R.le.trans l, R.lt.trans lt, R.ng, R.h0, R.td, fun b t q => ?_, R.gf, R.fr, fun j en q => ?_, fun n u q => ?_, fun b b' n q1 q2 => ?_, by rw [List.length_set]; exact R.len⟩, l, lt, if_pos rfl, if_pos rfl⟩
  · rcases off q with ⟨rfl, rfl⟩ | ⟨z, q'⟩
    · exact ⟨hg, .inl h0, d, ho, if_pos rfl, eh, c.mono l⟩
    · obtain ⟨w1, w2, w3⟩ := R.cg b t q'
      refine ⟨w1, w2, ?_⟩
      cases t with
      | box => exact w3
      | mu j =>
        obtain ⟨u, o, x0, x1, r⟩ := w3
        exact ⟨u, o, x0, x1, r.mono l⟩
      | own j =>
        obtain ⟨u, o, x0, x2, x1, r⟩ := w3
        have ij : i ≠ j := by
          rintro rfl
          rw [es] at x2; cases x2; exact z rfl
        exact ⟨u, o, by rw [List.getElem?_set_ne ij]; exact x0, x2, x1, r.mono l⟩
      | tmp =>
        obtain ⟨u, o, x0, x1, r⟩ := w3
        exact ⟨u, o, by show (if b = a then some d else g.tm b) = some u; rw [if_neg z]; exact x0, x1, r.mono l⟩
  · by_cases ij : i = j
    · subst ij
      rw [List.getElem?_set_self (List.getElem?_eq_some_iff.mp h).1] at q
      cases q
    · rw [List.getElem?_set_ne ij] at q
      have w := R.sl j en q
      cases en with
      | sh u =>
        obtain ⟨v, e1, r⟩ := w
        exact ⟨v, e1, r.mono l⟩
      | ow u =>
        obtain ⟨b, w⟩ := w
        refine ⟨b, ?_⟩
        show (if b = a then some .tmp else g.C b) = some (.own j)
        rw [if_neg, w]
        rintro rfl
        rw [ea] at w; cases w; exact ij rfl
      | lc k => exact w
  · obtain ⟨b, w⟩ := R.mu n u q
    exact ⟨b, l.cs b _ w rfl⟩
  · rcases off q1 with ⟨_, z⟩ | ⟨_, y1⟩
    · cases z
    · rcases off q2 with ⟨_, z⟩ | ⟨_, y2⟩
      · cases z
      · exact R.inj b b' n y1 y2
/-- .. and comes back -/
theorem Rel.tmpOwn (R : Rel K H0 g0 σ H st g) {i : Nat} {d : D} {a : Addr} (ha : g.C a = some .tmp) (hd : g.tm a = some d) (hs : σ[i]? = some (some (.ref a))) (h0 : H0 a = none) (hn : st.sl[i]? = some none) :
    ∃ g', Rel K H0 g0 σ H { st with sl := st.sl.set i (some (.ow d)) } g' ∧ Le g g' ∧ (∀ b u, b ≠ a → g.C b = some .tmp → g.tm b = some u → g'.C b = some .tmp ∧ g'.tm b = some u) ∧ g'.G = g.G ∧ ∀ b, b ≠ a → g'.C b = g.C b := by
  obtain ⟨w1, _, u0, ho, x0, x1, c⟩ := R.cg a _ ha
  rw [hd] at x0; cases x0
  have hi : i < st.sl.length := (List.getElem?_eq_some_iff.mp hn).1
  let g' : Gh := { g with C := fun b => if b = a then some (.own i) else g.C b }
  have l : Le g g' := by
    refine ⟨Ex.refl _, fun b t e k => ?_⟩
    show (if b = a then some (.own i) else g.C b) = some t
    rw [if_neg]
    · exact e
    · rintro rfl; rw [ha] at e; cases e; cases k
  have lt : ∀ b u, b ≠ a → g.C b = some .tmp → g.tm b = some u → g'.C b = some .tmp ∧ g'.tm b = some u := fun b u n e k => ⟨by show (if b = a then some (.own i) else g.C b) = some .tmp; rw [if_neg n]; exact e, k⟩
  have off : ∀ {b t}, g'.C b = some t → (b = a ∧ t = .own i) ∨ (b ≠ a ∧ g.C b = some t) := fun {b t} q => by
    have q' : (if b = a then some (.own i) else g.C b) = some t := q
    by_cases z : b = a
    · rw [if_pos z] at q'; cases q'; exact .inl ⟨z, rfl⟩
    · rw [if_neg z] at q'; exact .inr ⟨z, q'⟩
  have n0 : ∀ {b t}, g0.C b = some t → b ≠ a := fun {b t} e => by
    rintro rfl
    exact R.h0 b t e h0
  refine ⟨g', ⟨R.ex, R.le.trans l, fun b u q w => ?_, R.ng, R.h0, R.td, fun b t q => ?_, R.gf, R.fr, fun j en q => ?_, fun n u q => ?_, fun b b' n q1 q2 => ?_, by rw [List.length_set]; exact R.len⟩, l, lt, rfl, fun b n => if_neg n⟩
  · have z := R.lt b u q w
    exact lt b u (n0 q) z.1 z.2
  · rcases off q with ⟨rfl, rfl⟩ | ⟨z, q'⟩
    · exact ⟨w1, .inl h0, d, ho, List.getElem?_set_self hi, hs, x1, c.mono l⟩
    · obtain ⟨y1, y2, y3⟩ := R.cg b t q'
      refine ⟨y1, y2, ?_⟩
      cases t with
      | box => exact y3
      | mu j =>
        obtain ⟨u, o, x0, x1, r⟩ := y3
        exact ⟨u, o, x0, x1, r.mono l⟩
      | own j =>
        obtain ⟨u, o, x0, x2, x1, r⟩ := y3
        have ij : i ≠ j := by
          rintro rfl
          rw [hn] at x0; cases x0
        exact ⟨u, o, by rw [List.getElem?_set_ne ij]; exact x0, x2, x1, r.mono l⟩
      | tmp =>
        obtain ⟨u, o, x0, x1, r⟩ := y3
        exact ⟨u, o, x0, x1, r.mono l⟩
  · by_cases ij : i = j
    · subst ij
      rw [List.getElem?_set_self hi] at q
      cases q
      exact ⟨a, if_pos rfl⟩
    · rw [List.getElem?_set_ne ij] at q
      have w := R.sl j en q
      cases en with
      | sh u =>
        obtain ⟨v, e1, r⟩ := w
        exact ⟨v, e1, r.mono l⟩
      | ow u =>
        obtain ⟨b, w⟩ := w
        refine ⟨b, ?_⟩
        show (if b = a then some (.own i) else g.C b) = some (.own j)
        rw [if_neg, w]
        rintro rfl
        rw [ha] at w; cases w
      | lc k => exact w
  · obtain ⟨b, w⟩ := R.mu n u q
    exact ⟨b, l.cs b _ w rfl⟩
  · rcases off q1 with ⟨_, z⟩ | ⟨_, y1⟩
    · cases z
    · rcases off q2 with ⟨_, z⟩ | ⟨_, y2⟩
      · cases z
      · exact R.inj b b' n y1 y2
end
def dLcO (i0 : Nat) (vs : List Nat) (dg : DG) (dt : DT) (de : DE) : DE := fun st Q E => ∃ ds, st.sl[i0]? = some (some (.ow (.lst ds))) ∧ i0 ∉ vs ∧
  dLcL vs dg dt de (fun en st' => st'.sl[i0]? = some none ∧ Q en { st' with sl := st'.sl.set i0 (some (.ow (.lst ds))) }) ds [] (DSt.wipe { st with sl := st.sl.set i0 none } vs)
theorem sim_lcO {K : PySem.W.Frag} {tg : WX → TG} {tt : WX → TT} {te : WX → TE} {dg : DG} {dt : DT} {de : DE} {ws vs : List Nat} {i0 : Nat} (hg : SimG K ws tg dg) (ht : SimT K tt dt) (he : SimE K te de) (hw : ∀ i ∈ ws, i ∈ vs) :
    SimE K (fun W => tLc (iSeq K (tVar i0)) (tg W0) (tt W0) (te W0) vs) (dLcO i0 vs dg dt de) := by
  intro H0 g0 W σ H st g Q2 E2 Q R q k kx
  obtain ⟨ds, es, i0v, q1⟩ := q
  obtain ⟨gn, b0, ob, sb, hb0, Rn, ln, mn, tb, db⟩ := R.ownTmp es
  have cons0 : ∀ {H' : Hp} {σ' : L2.St} {st' : DSt} {g' : Gh}, Rel K H0 g0 σ' H' st' g' → g'.C b0 = some .tmp → g'.tm b0 = some (.lst ds) → ∃ us, H' b0 = some (.lst us) ∧ HasL K g' us ds ∧ ds.length ≤ sizeLine := fun {H' σ' st' g'} R' z1 z2 => by
    obtain ⟨_, _, u, ho, x0, x1, c⟩ := R'.cg b0 _ z1
    rw [z2] at x0; cases x0
    cases c with
    | lst us _ c z => exact ⟨us, x1, c, z⟩
  obtain ⟨us0, hu0, _, zz⟩ := cons0 Rn tb db
  refine ⟨.ref b0, sb, b0, rfl, .inl ⟨⟨us0, SqL.of hu0⟩, ?_⟩⟩
  intro p hp
  obtain ⟨gw, Rw, lw, mw, _, _⟩ := Rn.wipe vs
  obtain ⟨g2, R2, l2, m2, t2, d2, hz⟩ := Rw.toTmp (ho := .lst []) (d := .lst []) hp (Con.lst [] [] .nil (Nat.zero_le _))
  have px : ∀ {g' : Gh}, PostX K H0 g0 g' (fun _ _ => False) W0 := fun {g'} ex cls dx σ' H' st' g'' _ _ _ z => z.elim
  let Inv : Nat → Hp → List D → DSt → Gh → Prop := fun i H' acc st' g' => Rel K H0 g0 (L2.wipe σ vs) H' st' g' ∧ Le gn g' ∧ (∀ a u, a ≠ p → gn.C a = some .tmp → gn.tm a = some u → g'.C a = some .tmp ∧ g'.tm a = some u) ∧ g'.C p = some .tmp ∧ g'.tm p = some (.lst acc) ∧
    (∀ j ∈ vs, ∀ en, st'.sl[j]? ≠ some (some en)) ∧ acc.length ≤ i
  have lam : ∀ {a u}, gn.C a = some .tmp → gn.tm a = some u → a ≠ p := fun {a u} z _ => by
    rintro rfl
    rw [Rn.noC hp] at z; cases z
  have pb : b0 ≠ p := lam tb db
  let Qe : En → DSt → Prop := fun en st' => st'.sl[i0]? = some none ∧ Q2 en { st' with sl := st'.sl.set i0 (some (.ow (.lst ds))) }
  refine ⟨fun i m H' => m = ds.length - i ∧ i ≤ ds.length ∧ ∃ acc st' g', Inv i H' acc st' g' ∧ dLcL vs dg dt de Qe (ds.drop i) acc st', ⟨_, rfl, Nat.zero_le _, [], _, g2, ⟨R2, lw.trans l2, fun a u _ z w => m2 a u (mw a u z w).1 (mw a u z w).2, t2, d2, fun j hj en => wipeS_in hj en, Nat.le_refl _⟩, q1⟩, ?_⟩
  rintro i m H' ⟨rfl, hle, acc, st', g', ⟨R', la, lb, tp, dp, hn, hlen⟩, q'⟩
  obtain ⟨us, hu, hus, _⟩ := cons0 R' (lb b0 _ pb tb db).1 (lb b0 _ pb tb db).2
  by_cases hlt : i < ds.length
  · obtain ⟨d, hd⟩ : ∃ d, ds[i]? = some d := ⟨ds[i], List.getElem?_eq_getElem hlt⟩
    rw [drop_cons hd] at q'
    obtain ⟨x0, hx0, hx⟩ := hus.get hd
    refine .inr ⟨⟨us, x0, SqL.of hu, hx0⟩, fun H'' => ∃ acc' st'' g'', Inv (i + 1) H'' acc' st'' g'' ∧ dLcL vs dg dt de Qe (ds.drop (i + 1)) acc' st'', fun H'' ⟨acc', st'', g'', w⟩ => ⟨ds.length - (i + 1), by omega, rfl, hlt, acc', st'', g'', w⟩, fun x H3 yy => ?_⟩
    obtain ⟨rfl, yy⟩ := yy
    have exx := yy us (SqL.of hu)
    rw [hx0] at exx
    cases exx
    refine hg H0 g0 W0 (L2.wipe σ vs) H3 st' g' x0 (.sh d) _ _ _ R' hx q' (fun σ4 H4 st4 g4 R4 l4 m4 out q4 => ?_) px
    have len4 : σ4.length = σ.length := by rw [out.1, wipe_len]
    have same4 : L2.wipe σ4 vs = L2.wipe σ vs := wipe_same len4 fun j hj => out.2 j fun z => hj (hw j z)
    refine ⟨same4, ?_⟩
    refine ht H0 g0 W0 σ4 H4 st4 g4 _ _ _ R4 q4 (fun b H5 st5 g5 R5 l5 m5 q5 => ?_) px
    have kp5 := m4.trans m5
    have L5 := la.trans (l4.trans l5)
    have back : ∀ {H6 : Hp} {st6 : DSt} {g6 : Gh}, Rel K H0 g0 σ4 H6 st6 g6 → ∃ g7, Rel K H0 g0 (L2.wipe σ vs) H6 (st6.wipe vs) g7 ∧ Le g6 g7 ∧ Lt g6 g7 := fun {H6 st6 g6} R6 => by
      obtain ⟨g7, R7, l7, m7, _, _⟩ := R6.wipe vs
      rw [same4] at R7
      exact ⟨g7, R7, l7, m7⟩
    cases b with
    | false =>
      rw [if_neg Bool.false_ne_true] at q5 ⊢
      obtain ⟨g7, R7, l7, m7⟩ := back R5
      have kp7 := kp5.trans m7
      exact ⟨acc, st5.wipe vs, g7, ⟨R7, L5.trans l7, fun a u n z w => kp7 a u (lb a u n z w).1 (lb a u n z w).2, (kp7 p _ tp dp).1, (kp7 p _ tp dp).2, fun j hj en => wipeS_in hj en, Nat.le_succ_of_le hlen⟩, q5⟩
    | true =>
      rw [if_pos rfl] at q5 ⊢
      refine he H0 g0 W0 σ4 H5 st5 g5 _ _ _ R5 q5 (fun v H6 st6 g6 en R6 l6 m6 r6 q6 => ?_) px
      obtain ⟨g7, st7, yd, R7, l7, m7, h7, q7, _⟩ := R6.frzR r6 q6
      obtain ⟨g8, R8, l8, m8⟩ := back R7
      have kp8 := (kp5.trans (m6.trans m7)).trans m8
      have tp8 := (kp8 p _ tp dp).1
      have dp8 := (kp8 p _ tp dp).2
      obtain ⟨_, _, u, ho, x0, x1, x2⟩ := R8.cg p _ tp8
      rw [dp8] at x0
      cases x0
      cases x2 with
      | lst vs8 ds2 c z =>
        have hv : HasL K g8 (vs8 ++ [v]) (acc ++ [yd]) := c.append (.cons _ _ _ _ (h7.mono l8) .nil)
        have hz2 : (acc ++ [yd]).length ≤ sizeLine := by
          rw [List.length_append]
          show acc.length + 1 ≤ sizeLine
          omega
        obtain ⟨g9, R9, l9, m9, t9, d9⟩ := R8.writeTmp tp8 hz (Con.lst _ _ hv hz2)
        refine ⟨vs8, x1, ?_, acc ++ [yd], st7.wipe vs, g9, ⟨R9, (L5.trans (l6.trans l7)).trans (l8.trans l9), fun a w n z1 w1 => ?_, t9, d9, fun j hj en => wipeS_in hj en, ?_⟩, q7⟩
        · rw [c.length]; omega
        · have e1 := lb a w n z1 w1
          have e2 := kp8 a w e1.1 e1.2
          exact m9 a w n e2.1 e2.2
        · rw [List.length_append]
          show acc.length + 1 ≤ i + 1
          omega
  · have e : i = ds.length := by omega
    subst e
    rw [List.drop_length] at q'
    refine .inl ⟨⟨us, SqL.of hu, by rw [hus.length]; exact Nat.le_refl _⟩, ?_⟩
    obtain ⟨nn, q'⟩ := (show Qe (.ow (.lst acc)) st' from q')
    obtain ⟨g3, R3, l3, m3, r3⟩ := R'.ofTmp tp dp hz
    have R4 : Rel K H0 g0 σ H' st' g3 := R3.anew hn (wipe_len σ vs).symm fun j hj => (wipe_at hj).symm
    have b3 := m3 b0 _ pb (lb b0 _ pb tb db).1 (lb b0 _ pb tb db).2
    obtain ⟨g5, R5, l5, m5, eG, eC⟩ := R4.tmpOwn b3.1 b3.2 sb hb0 nn
    have r5 : HasR K H0 σ H' g5 (.ref p) (.ow (.lst acc)) := by
      obtain ⟨p', ho, ep, w1, w2, w3, w4, w5⟩ := r3
      cases ep
      exact ⟨p, ho, rfl, w1, w2.mono l5, by rw [eG]; exact w3, by rw [eC p pb.symm]; exact w4, w5⟩
    refine k (.ref p) H' _ g5 (.ow (.lst acc)) R5 ((ln.trans la).trans (l3.trans l5)) (fun a u z w => ?_) r5 q'
    have e1 := mn a u z w
    have n := lam e1.1 e1.2
    have e2 := lb a u n e1.1 e1.2
    have e3 := m3 a u n e2.1 e2.2
    refine m5 a u ?_ e3.1 e3.2
    rintro rfl
    rw [ob] at z; cases z
section
variable {X : Cx} {elt tg : Expr} {x : Str} {px : Pos} {ifs : List Expr} {scope : Scope} {own : List (Str × Nat)} {pos : Pos} {tgt : WX → TG} {tt : WX → TT} {te : WX → TE} {dg : DG} {dt : DT} {de : DE} {ws : List Nat}
theorem q_lcO (i0 : Nat) (own : List (Str × Nat)) (hc : X.calm = true) (hN : X.N.Nodup) (hx : QE X (.Name x px) (fun _ => tVar i0) (dVar i0)) (ok : BlkOk X.N X.env.scope scope own)
    (hg0 : QG (Bk0 X scope) tg ws tgt dg) (ht0 : QTs (Bk0 X scope) ifs tt dt) (he0 : QE (Bk0 X scope) elt te de)
    (hg : ∀ (s : Shared) (H : Hp) (C : Addr) (cl : List (Str × Addr)) (fp : List Addr), QG (X.blk s H scope (compEnvC scope cl C X.env) fp) tg ws tgt dg) (ht : ∀ (s : Shared) (H : Hp) (C : Addr) (cl : List (Str × Addr)) (fp : List Addr), QTs (X.blk s H scope (compEnvC scope cl C X.env) fp) ifs tt dt)
    (he : ∀ (s : Shared) (H : Hp) (C : Addr) (cl : List (Str × Addr)) (fp : List Addr), QE (X.blk s H scope (compEnvC scope cl C X.env) fp) elt te de) (hw : ∀ i ∈ ws, i ∈ own.map (·.2) := by decide) (hs : ∀ y, foldedSetIterable (.Name x px) X.env y = pure y := by intro _; rfl) :
    QE X (.ListComp elt [⟨tg, .Name x px, ifs, 0⟩] scope pos) (fun W => tLc (iSeq X.K (tVar i0)) (tgt W0) (tt W0) (te W0) (own.map (·.2))) (dLcO i0 (own.map (·.2)) dg dt de) :=
  ⟨(q_lc own hc hN (qi_seq hx) ok hg ht he hw hs).pe, sim_lcO hg0.sim ht0.sim he0.sim hw⟩
end
end VL

set_option Elab.async false
set_option linter.all false
set_option maxRecDepth 100000
set_option maxHeartbeats 4000000
namespace VL
open PySem PySem.Spec PyProof.Rows L2
/-! ### loops by invariants -/
theorem dLcL_run {vs : List Nat} {dg : DG} {dt : DT} {de : DE} {Q : En → DSt → Prop} (I : List D → List D → DSt → Prop) (fin : ∀ acc st, I [] acc st → Q (.ow (.lst acc)) st)
    (step : ∀ d ds acc st (K : List D → DSt → Prop), I (d :: ds) acc st → (∀ acc' st', I ds acc' st' → K acc' st') → dg (.sh d) st (fun st1 => dt st1 (fun b st2 => if b = true then de st2 (fun en st3 => dFrz en st3 fun y st4 => K (acc ++ [y]) (st4.wipe vs)) (fun _ _ => False) else K acc (st2.wipe vs)) (fun _ _ => False)) (fun _ _ => False)) :
    ∀ ds acc st, I ds acc st → dLcL vs dg dt de Q ds acc st := by
  intro ds
  induction ds with
  | nil => intro acc st h; exact fin acc st h
  | cons d ds ih => intro acc st h; exact step d ds acc st (fun acc' st' => dLcL vs dg dt de Q ds acc' st') h (fun acc' st' h' => ih acc' st' h')
theorem drop_of {α : Type} {xs : List α} {i : Nat} {d : α} {ds : List α} (h : d :: ds = xs.drop i) : xs[i]? = some d ∧ ds = xs.drop (i + 1) := by
  have e : (xs.drop i)[0]? = some d := by rw [← h]; rfl
  rw [List.getElem?_drop] at e
  refine ⟨by simpa using e, ?_⟩
  have e2 : (xs.drop i).drop 1 = ds := by rw [← h]; rfl
  rw [← e2, List.drop_drop]
theorem dLcL_ix {vs : List Nat} {dg : DG} {dt : DT} {de : DE} {Q : En → DSt → Prop} {ds : List D} (I : Nat → List D → DSt → Prop) (fin : ∀ acc st, I ds.length acc st → Q (.ow (.lst acc)) st)
    (step : ∀ i d acc st (K : List D → DSt → Prop), ds[i]? = some d → i < ds.length → I i acc st → (∀ acc' st', I (i + 1) acc' st' → K acc' st') → dg (.sh d) st (fun st1 => dt st1 (fun b st2 => if b = true then de st2 (fun en st3 => dFrz en st3 fun y st4 => K (acc ++ [y]) (st4.wipe vs)) (fun _ _ => False) else K acc (st2.wipe vs)) (fun _ _ => False)) (fun _ _ => False)) :
    ∀ acc st, I 0 acc st → dLcL vs dg dt de Q ds acc st := by
  intro acc st h
  refine dLcL_run (fun r acc st => ∃ i, r = ds.drop i ∧ i ≤ ds.length ∧ I i acc st) ?_ ?_ ds acc st ⟨0, by simp, Nat.zero_le _, h⟩
  · rintro acc st ⟨i, e, hi, q⟩
    have : ds.length ≤ i := List.drop_eq_nil_iff.mp e.symm
    have e2 : i = ds.length := by omega
    subst e2
    exact fin acc st q
  · rintro d r acc st K ⟨i, e, hi, q⟩ k
    obtain ⟨e1, e2⟩ := drop_of e
    have hl : i < ds.length := (List.getElem?_eq_some_iff.mp e1).1
    exact step i d acc st K e1 hl q fun acc' st' h' => k acc' st' ⟨i + 1, e2, hl, h'⟩
theorem dLoop_ix {dg : DG} {db : DS} {N : DEnds} {ds : List D} (I : Nat → DSt → Prop) (fin : ∀ st, I ds.length st → N.nx st)
    (step : ∀ i d st (K : DSt → Prop), ds[i]? = some d → i < ds.length → I i st → (∀ st', I (i + 1) st' → K st') → dg (.sh d) st (fun st1 => db { N with nx := K, ct := K, bk := N.nx } st1) N.ex) :
    ∀ st, I 0 st → dLoop dg db N ds st := by
  have go : ∀ (r : List D) (i : Nat) st, r = ds.drop i → i ≤ ds.length → I i st → dLoop dg db N r st := by
    intro r
    induction r with
    | nil =>
      intro i st e hi q
      have : ds.length ≤ i := List.drop_eq_nil_iff.mp e.symm
      have e2 : i = ds.length := by omega
      subst e2
      exact fin st q
    | cons d r ih =>
      intro i st e hi q
      obtain ⟨e1, e2⟩ := drop_of e
      have hl : i < ds.length := (List.getElem?_eq_some_iff.mp e1).1
      exact step i d st (dLoop dg db N r) e1 hl q fun st' h' => ih (i + 1) st' e2 hl h'
  intro st h
  exact go ds 0 st (by simp) (Nat.zero_le _) h
/-! ### small facts -/
theorem rangeD_get {lo : Int} {n i : Nat} {d : D} (h : (rangeD lo n)[i]? = some d) : d = .int (lo + i) ∧ i < n := by
  unfold rangeD at h
  have hi : i < n := by
    have := (List.getElem?_eq_some_iff.mp h).1
    simpa using this
  rw [List.getElem?_map, List.getElem?_range hi] at h
  cases h
  exact ⟨rfl, hi⟩
theorem range0_get {n i : Nat} {d : D} (h : (rangeD 0 n)[i]? = some d) : d = .int (i : Int) ∧ i < n := by
  obtain ⟨e, hi⟩ := rangeD_get h
  exact ⟨by rw [e, Int.zero_add], hi⟩
theorem atI_nat' {α : Type} {xs : List α} {i : Nat} {x : α} (h : xs[i]? = some x) : atI xs (i : Int) = some x := by
  have hl : i < xs.length := (List.getElem?_eq_some_iff.mp h).1
  unfold atI ixN
  rw [if_pos (Int.natCast_nonneg i), if_pos (by omega)]
  exact h
theorem atI_of {α : Type} {xs : List α} {i : Int} {x : α} (h0 : 0 ≤ i) (h : xs[i.toNat]? = some x) : atI xs i = some x := by
  have hl : i.toNat < xs.length := (List.getElem?_eq_some_iff.mp h).1
  unfold atI ixN
  rw [if_pos h0, if_pos (by omega)]
  exact h
theorem eqD_int (a b : Int) : eqD (.int a) (.int b) = (a == b) := by simp [eqD, D.py, PyData.eqv]
theorem eqD_str (a b : Str) : eqD (.str a) (.str b) = (a == b) := by simp [eqD, D.py, PyData.eqv]
theorem eqD_lst (a b : List D) : eqD (.lst a) (.lst b) = PyData.eqvAll (pyL a) (pyL b) := by simp [eqD, D.py, PyData.eqv]
theorem plain_int (n : Nat) (a : Int) : (D.int a).plain n = true := by cases n <;> simp [D.plain]
theorem plain_str (n : Nat) (a : Str) : (D.str a).plain n = true := by cases n <;> simp [D.plain]
theorem plain_bl (n : Nat) (a : Bool) : (D.bl a).plain n = true := by cases n <;> simp [D.plain]
theorem plain_non (n : Nat) : D.non.plain n = true := by cases n <;> simp [D.plain]
theorem box0 {T : Nat} {P : D → Prop} : (∀ x, boxOk T 0 x → P x) ↔ ∀ n : Int, 0 ≤ n → P (.int n) := ⟨fun h n q => h _ ⟨n, rfl, q⟩, fun h x ⟨n, e, q⟩ => e ▸ h n q⟩
theorem box1 {T : Nat} {P : D → Prop} : (∀ x, boxOk T 1 x → P x) ↔ ∀ c : Bool, P (.bl c) := ⟨fun h n => h _ ⟨n, rfl⟩, fun h x ⟨n, e⟩ => e ▸ h n⟩
theorem box2 {T : Nat} {P : D → Prop} : (∀ x, boxOk T 2 x → P x) ↔ ∀ n : Int, 0 ≤ n → n < 2147483648 → P (.int n) := ⟨fun h n q r => h _ ⟨n, rfl, q, r⟩, fun h x ⟨n, e, q, r⟩ => e ▸ h n q r⟩
theorem box3 {T : Nat} {P : D → Prop} : (∀ x, boxOk T 3 x → P x) ↔ ∀ n : Int, 0 ≤ n → n ≤ T → P (.int n) := ⟨fun h n q r => h _ ⟨n, rfl, q, r⟩, fun h x ⟨n, e, q, r⟩ => e ▸ h n q r⟩
theorem log_lt {i : Int} {k : Nat} (hk : 0 < k) (h : i.natAbs < 2 ^ k) : i.natAbs.log2 < k := by
  by_cases z : i.natAbs = 0
  · rw [z]; simpa using hk
  · exact (Nat.log2_lt z).mpr h
theorem bits_le {i : Int} {k : Nat} (hk : 0 < k) (h : i.natAbs < 2 ^ k) : Builtin.Int.intBits i ≤ k := by
  unfold Builtin.Int.intBits
  split
  · omega
  · have := log_lt hk h
    omega
/-- factors of fewer than 64 bits -/
theorem mul_ok {i j : Int} (h1 : i.natAbs < 2 ^ 64) (h2 : j.natAbs < 2 ^ 64) : CMulW i j := by
  have a := log_lt (by decide) h1
  have b := log_lt (by decide) h2
  unfold CMulW
  omega
theorem pow_ok {i j : Int} (h1 : i.natAbs < 2 ^ 64) (h2 : 0 ≤ j) (h3 : j ≤ 1000) : CPowW i j := by
  refine ⟨h2, ?_⟩
  have a : (Builtin.Int.intBits i : Int) ≤ 64 := by exact_mod_cast bits_le (k := 64) (by decide) h1
  calc (Builtin.Int.intBits i : Int) * j ≤ 64 * j := Int.mul_le_mul_of_nonneg_right a h2
    _ ≤ 2 ^ 27 := by omega
theorem kb_int_int : kitB "int" "int" = some true := by decide +kernel
theorem kb_int_bool : kitB "int" "bool" = some false := by decide +kernel
theorem kb_str_str : kitB "str" "str" = some true := by decide +kernel
theorem kb_list_list : kitB "list" "list" = some true := by decide +kernel
theorem kb_list_tuple : kitB "list" "tuple" = some false := by decide +kernel
theorem kb_tuple_list : kitB "tuple" "list" = some false := by decide +kernel
theorem kb_tuple_tuple : kitB "tuple" "tuple" = some true := by decide +kernel
end VL

set_option Elab.async false
set_option linter.all false
set_option maxRecDepth 100000
set_option maxHeartbeats 4000000
namespace VL
namespace K02
open PySem PySem.Spec PyProof.Rows L2
/-! ### the plain side: crowds as lists of letters -/
def mk (l : List Nat) : Str := ⟨l.toArray⟩
def ch (c : Nat) : D := .str ⟨#[c]⟩
def abc (l : List Nat) : Prop := ∀ c ∈ l, c = 97 ∨ c = 98 ∨ c = 99
def intL (ns : List Int) : List D := ns.map D.int
def isSeq (d : D) (xs : List D) : Prop := d = .lst xs ∨ d = .tup xs
def places (ns : List Int) (m : Nat) : Prop := ns.Pairwise (· < ·) ∧ (∀ n ∈ ns, 0 ≤ n ∧ n < m) ∧ ns.length ≤ 2000
def mat (l : List Nat) (ns : List Int) : List Nat := ns.map fun n => l.getD n.toNat 0
/-- a deed on l, and what comes of it -/
inductive Deed (l : List Nat) : D → List Nat → Prop
  | without (p : Int) (k : Str) (hk : StrOk k) (h0 : 0 ≤ p) (h1 : p < l.length) : Deed l (.lst [.int 0, .int p, .str k]) (l.eraseIdx p.toNat)
  | moved (p : Int) (k : Str) (hk : StrOk k) (h0 : 1 ≤ p) (h1 : p < l.length) : Deed l (.lst [.int 1, .int p, .str k]) (l.take (p.toNat - 1) ++ [l.getD p.toNat 0, l.getD (p.toNat - 1) 0] ++ l.drop (p.toNat + 1))
  | doubled (p : Int) (k : Str) (hk : StrOk k) (h0 : 0 ≤ p) (h1 : p < l.length) (h2 : l.length < 2000) : Deed l (.lst [.int 2, .int p, .str k]) (l.take (p.toNat + 1) ++ l.drop p.toNat)
  | changed (p : Int) (c : Nat) (hc : c = 97 ∨ c = 98 ∨ c = 99) (h0 : 0 ≤ p) (h1 : p < l.length) : Deed l (.lst [.int 3, .int p, ch c]) (l.set p.toNat c)
  | part (ns : List Int) (k : Str) (hk : StrOk k) (h : places ns l.length) : Deed l (.lst [.int 4, .lst (intL ns), .str k]) (mat l ns)
def later (gs : GSt) (n : Nat) (gs' : GSt) : Prop := gs'.mu = gs.mu ∧ gs.T ≤ gs'.T ∧ gs'.T ≤ gs.T + n
/-! ### what each def promises -/
def S_is_integer : DSpec := fun ds gs Q _ => ∃ i, ds = [.int i] ∧ Q (.sh (.bl true)) gs
def S_is_within : DSpec := fun ds gs Q _ => ∃ v lo hi, ds = [.int v, .int lo, .int hi] ∧ Q (.sh (.bl (decide (lo ≤ v) && decide (v ≤ hi)))) gs
def S_is_index : DSpec := fun ds gs Q _ => ∃ v m, ds = [.int v, .int m] ∧ Q (.sh (.bl (decide (0 ≤ v) && decide (v < m)))) gs
def S_is_list : DSpec := fun ds gs Q _ => ∃ d xs, ds = [d] ∧ isSeq d xs ∧ Q (.sh (.bl true)) gs
def S_ascends : DSpec := fun ds gs Q _ => ∃ d ns, ds = [d] ∧ isSeq d (intL ns) ∧ ns.length ≤ 2000 ∧ ns.Pairwise (· < ·) ∧ Q (.sh (.bl true)) gs
def S_are_places : DSpec := fun ds gs Q _ => ∃ d ns, ∃ m : Nat, ds = [d, .int m] ∧ isSeq d (intL ns) ∧ places ns m ∧ Q (.sh (.bl true)) gs
def S_is_kind : DSpec := fun ds gs Q _ => ∃ c, ds = [ch c, .int 3] ∧ (c = 97 ∨ c = 98 ∨ c = 99) ∧ Q (.sh (.bl true)) gs
def S_is_string_of : DSpec := fun ds gs Q _ => ∃ l, ds = [.str (mk l), .int 3] ∧ abc l ∧ l.length ≤ 2000 ∧ Q (.sh (.bl true)) gs
def S_check_kinds : DSpec := fun ds gs Q _ => ds = [.int 3] ∧ Q (.sh .non) gs
def S_is_crowd : DSpec := fun ds gs Q _ => ∃ l, ds = [.int 3, .str (mk l)] ∧ abc l ∧ l.length ≤ 2000 ∧ Q (.sh (.bl true)) gs
def S_check_crowd : DSpec := fun ds gs Q _ => ∃ l, ds = [.int 3, .str (mk l)] ∧ abc l ∧ l.length ≤ 2000 ∧ Q (.sh .non) gs
def S_check_place : DSpec := fun ds gs Q _ => ∃ l p first, ds = [.str (mk l), .int p, .int first] ∧ 0 ≤ p ∧ first ≤ p ∧ p < (l.length : Int) ∧ Q (.sh .non) gs
def S_without : DSpec := fun ds gs Q _ => ∃ l p, ds = [.str (mk l), .int p] ∧ abc l ∧ l.length ≤ 2000 ∧ 0 ≤ p ∧ p < (l.length : Int) ∧ Q (.sh (.str (mk (l.eraseIdx p.toNat)))) gs
def S_moved_up : DSpec := fun ds gs Q _ => ∃ l p, ds = [.str (mk l), .int p] ∧ abc l ∧ l.length ≤ 2000 ∧ 1 ≤ p ∧ p < (l.length : Int) ∧ Q (.sh (.str (mk (l.take (p.toNat - 1) ++ [l.getD p.toNat 0, l.getD (p.toNat - 1) 0] ++ l.drop (p.toNat + 1))))) gs
def S_doubled : DSpec := fun ds gs Q _ => ∃ l p, ds = [.str (mk l), .int p] ∧ abc l ∧ l.length < 2000 ∧ 0 ≤ p ∧ p < (l.length : Int) ∧ Q (.sh (.str (mk (l.take (p.toNat + 1) ++ l.drop p.toNat)))) gs
def S_changed : DSpec := fun ds gs Q _ => ∃ l p c, ds = [.str (mk l), .int p, ch c] ∧ (c = 97 ∨ c = 98 ∨ c = 99) ∧ abc l ∧ l.length ≤ 2000 ∧ 0 ≤ p ∧ p < (l.length : Int) ∧ Q (.sh (.str (mk (l.set p.toNat c)))) gs
def S_part : DSpec := fun ds gs Q _ => ∃ l d ns, ds = [.str (mk l), d] ∧ isSeq d (intL ns) ∧ abc l ∧ l.length ≤ 2000 ∧ places ns l.length ∧ Q (.sh (.str (mk (mat l ns)))) gs
def S__law_cell : DSpec := fun ds gs Q _ => ∃ ns k, ds = [.scr ns, .int k] ∧ 0 ≤ k ∧ k < 1000000 ∧ ∀ z, Q (.sh (.int z)) gs
def S__law_box : DSpec := fun ds gs Q _ => ∃ z, ds = [.int z] ∧ Q (.sh .box) gs
def S__law_take : DSpec := fun ds gs Q _ => ∃ m, ds = [.box, .int m] ∧ 0 < m ∧ m < 1000000 ∧ gs.T ≤ 1000000 ∧ ∀ r gs', 0 ≤ r → r < m → later gs 1 gs' → Q (.sh (.int r)) gs'
def S__law_begun : DSpec := fun ds gs Q _ => ∃ b, ds = [.box, .bl b] ∧ gs.T ≤ 900000 ∧ ∀ l gs', abc l → l.length ≤ 2000 → later gs 20 gs' → Q (.ow (.lst (l.map ch))) gs'
def S__law_chosen : DSpec := fun ds gs Q _ => ∃ m : Nat, ds = [.box, .int m] ∧ m ≤ 2000 ∧ gs.T ≤ 900000 ∧ ∀ ns gs', places ns m → later gs 20 gs' → Q (.ow (.lst (intL ns))) gs'
def S__law_place : DSpec := fun ds gs Q _ => ∃ low : Int, ∃ m : Nat, ds = [.box, .int low, .int m] ∧ 0 ≤ low ∧ low < m ∧ m ≤ 2000 ∧ gs.T ≤ 900000 ∧ ∀ r gs', low ≤ r → r < m → later gs 5 gs' → Q (.sh (.int r)) gs'
def S__law_deed : DSpec := fun ds gs Q _ => ∃ l w, ds = [.box, .lst (l.map ch), .int w] ∧ abc l ∧ l.length ≤ 2000 ∧ 0 ≤ w ∧ w ≤ 4 ∧ gs.T ≤ 800000 ∧
  ∀ dd l' gs', Deed l dd l' → later gs 40 gs' → Q (.sh (.tup [dd, .lst (l'.map ch)])) gs'
def S__law_told : DSpec := fun ds gs Q _ => ∃ l dd l' t, ds = [.str (mk l), dd, .int t] ∧ Deed l dd l' ∧ abc l ∧ l.length ≤ 2000 ∧ Q (.sh (.str (mk l'))) gs
def S__law_is : DSpec := fun ds gs Q _ => ∃ l, ds = [.str (mk l), .lst (l.map ch)] ∧ abc l ∧ l.length ≤ 4000 ∧ Q (.sh (.bl true)) gs
def S_law : DSpec := fun ds gs Q _ => ∃ ns, ds = [.scr ns] ∧ gs = ⟨[], 0⟩ ∧ ∀ gs', Q (.sh (.bl true)) gs'
theorem S_law_true (ns : List Int) (h : ns.length ≤ 63) : S_law [.scr ns] ⟨[], 0⟩ (fun en _ => en = .sh (.bl true)) (fun _ _ => False) := ⟨ns, rfl, rfl, fun _ => rfl⟩
end K02
end VL

set_option Elab.async false
set_option linter.all false
set_option maxRecDepth 100000
set_option maxHeartbeats 4000000
namespace VL
namespace K02
open PySem PySem.Spec PyProof.Rows L2
def d_is_integer : DS := (dRet (dAndV (dIsi "int" (dVar 0)) (dNotV (dIsi "bool" (dVar 0)))))
def d_is_within : DS := (dRet (dAndV (dCall 1 S_is_integer (dCons (dVar 0) dNil)) (dChain dopLe dopLe (dVar 1) (dVar 0) (dVar 2))))
def d_is_index : DS := (dRet (dAndV (dCall 1 S_is_integer (dCons (dVar 0) dNil)) (dChain dopLe dopLt (dC (.int 0)) (dVar 0) (dVar 1))))
def d_is_list : DS := (dRet (dIsi2 "list" "tuple" (dVar 0)))
def d_ascends : DS := (dRet (dCB dopAll (dCons (dLc [1] (dRng1 (dBin dopSub (dCB dopLen (dCons (dVar 0) dNil)) (dC (.int 1)))) (dName 1) dYes (dBin dopLt (dBin dopIx (dVar 0) (dVar 1)) (dBin dopIx (dVar 0) (dBin dopAdd (dVar 1) (dC (.int 1)))))) dNil)))
def d_are_places : DS := (dRet (dAndV (dCall 1 S_is_list (dCons (dVar 0) dNil)) (dAndV (dCB dopAll (dCons (dLc [2] (dSeqI (dVar 0)) (dName 2) dYes (dCall 2 S_is_index (dCons (dVar 2) (dCons (dVar 1) dNil)))) dNil)) (dCall 1 S_ascends (dCons (dVar 0) dNil)))))
def d_is_kind : DS := (dRet (dAndV (dIsi "str" (dVar 0)) (dAndV (dBin dopEq (dCB dopLen (dCons (dVar 0) dNil)) (dC (.int 1))) (dBin dopIn (dVar 0) (dSl (dC (.str "abc")) dNoPart (dPart (dVar 1)))))))
def d_is_string_of : DS := (dRet (dAndV (dIsi "str" (dVar 0)) (dBin dopEq (dM1 dopStripC (dVar 0) (dSl (dC (.str "abc")) dNoPart (dPart (dVar 1)))) (dC (.str "")))))
def d_check_kinds_1t : DS := dNever
def d_check_kinds : DS := (dIfS (dNot (dTest (dCall 3 S_is_within (dCons (dVar 0) (dCons (dC (.int 1)) (dCons (dC (.int 3)) dNil)))))) d_check_kinds_1t dNext)
def d_is_crowd_1 : DS := (dDrop (dCall 1 S_check_kinds (dCons (dVar 0) dNil)))
def d_is_crowd_2 : DS := (dRet (dAndV (dIsi "str" (dVar 1)) (dAndV (dBin dopLe (dCB dopLen (dCons (dVar 1) dNil)) (dC (.int 2000))) (dCall 2 S_is_string_of (dCons (dVar 1) (dCons (dVar 0) dNil))))))
def d_is_crowd : DS := (dSeq d_is_crowd_1 d_is_crowd_2)
def d_check_crowd_1t : DS := dNever
def d_check_crowd : DS := (dIfS (dNot (dTest (dCall 2 S_is_crowd (dCons (dVar 0) (dCons (dVar 1) dNil))))) d_check_crowd_1t dNext)
def d_check_place_1t : DS := dNever
def d_check_place : DS := (dIfS (dOr (dNot (dTest (dCall 2 S_is_index (dCons (dVar 1) (dCons (dCB dopLen (dCons (dVar 0) dNil)) dNil))))) (dTest (dBin dopLt (dVar 1) (dVar 2)))) d_check_place_1t dNext)
def d_without_1 : DS := (dDrop (dCall 2 S_check_crowd (dCons (dC (.int 3)) (dCons (dVar 0) dNil))))
def d_without_2 : DS := (dDrop (dCall 3 S_check_place (dCons (dVar 0) (dCons (dVar 1) (dCons (dC (.int 0)) dNil)))))
def d_without_3 : DS := (dRet (dBin dopAdd (dSl (dVar 0) dNoPart (dPart (dVar 1))) (dSl (dVar 0) (dPart (dBin dopAdd (dVar 1) (dC (.int 1)))) dNoPart)))
def d_without : DS := (dSeq d_without_1 (dSeq d_without_2 d_without_3))
def d_moved_up_1 : DS := (dDrop (dCall 2 S_check_crowd (dCons (dC (.int 3)) (dCons (dVar 0) dNil))))
def d_moved_up_2 : DS := (dDrop (dCall 3 S_check_place (dCons (dVar 0) (dCons (dVar 1) (dCons (dC (.int 1)) dNil)))))
def d_moved_up_3 : DS := (dRet (dBin dopAdd (dBin dopAdd (dBin dopAdd (dSl (dVar 0) dNoPart (dPart (dBin dopSub (dVar 1) (dC (.int 1))))) (dBin dopIx (dVar 0) (dVar 1))) (dBin dopIx (dVar 0) (dBin dopSub (dVar 1) (dC (.int 1))))) (dSl (dVar 0) (dPart (dBin dopAdd (dVar 1) (dC (.int 1)))) dNoPart)))
def d_moved_up : DS := (dSeq d_moved_up_1 (dSeq d_moved_up_2 d_moved_up_3))
def d_doubled_1 : DS := (dDrop (dCall 2 S_check_crowd (dCons (dC (.int 3)) (dCons (dVar 0) dNil))))
def d_doubled_2t : DS := dNever
def d_doubled_2 : DS := (dIfS (dTest (dBin dopEq (dCB dopLen (dCons (dVar 0) dNil)) (dC (.int 2000)))) d_doubled_2t dNext)
def d_doubled_3 : DS := (dDrop (dCall 3 S_check_place (dCons (dVar 0) (dCons (dVar 1) (dCons (dC (.int 0)) dNil)))))
def d_doubled_4 : DS := (dRet (dBin dopAdd (dSl (dVar 0) dNoPart (dPart (dBin dopAdd (dVar 1) (dC (.int 1))))) (dSl (dVar 0) (dPart (dVar 1)) dNoPart)))
def d_doubled : DS := (dSeq d_doubled_1 (dSeq d_doubled_2 (dSeq d_doubled_3 d_doubled_4)))
def d_changed_1 : DS := (dDrop (dCall 2 S_check_crowd (dCons (dC (.int 3)) (dCons (dVar 0) dNil))))
def d_changed_2 : DS := (dDrop (dCall 3 S_check_place (dCons (dVar 0) (dCons (dVar 1) (dCons (dC (.int 0)) dNil)))))
def d_changed_3t : DS := dNever
def d_changed_3 : DS := (dIfS (dNot (dTest (dCall 2 S_is_kind (dCons (dVar 2) (dCons (dC (.int 3)) dNil))))) d_changed_3t dNext)
def d_changed_4 : DS := (dRet (dBin dopAdd (dBin dopAdd (dSl (dVar 0) dNoPart (dPart (dVar 1))) (dVar 2)) (dSl (dVar 0) (dPart (dBin dopAdd (dVar 1) (dC (.int 1)))) dNoPart)))
def d_changed : DS := (dSeq d_changed_1 (dSeq d_changed_2 (dSeq d_changed_3 d_changed_4)))
def d_part_1 : DS := (dDrop (dCall 2 S_check_crowd (dCons (dC (.int 3)) (dCons (dVar 0) dNil))))
def d_part_2t : DS := dNever
def d_part_2 : DS := (dIfS (dNot (dTest (dCall 2 S_are_places (dCons (dVar 1) (dCons (dCB dopLen (dCons (dVar 0) dNil)) dNil))))) d_part_2t dNext)
def d_part_3 : DS := (dRet (dM1 dopJoin (dC (.str "")) (dLc [2] (dSeqI (dVar 1)) (dName 2) dYes (dBin dopIx (dVar 0) (dVar 2)))))
def d_part : DS := (dSeq d_part_1 (dSeq d_part_2 d_part_3))
def d__law_cell : DS := (dRet (dIf (dTest (dBin dopLt (dVar 1) (dCB dopLen (dCons (dVar 0) dNil)))) (dBin dopIx (dVar 0) (dVar 1)) (dBin dopAdd (dBin dopMul (dC (.int 7919)) (dVar 1)) (dBin dopMod (dCB dopInt (dCons (dCB dopSum (dCons (dSl (dVar 0) dNoPart (dPart (dC (.int 1)))) dNil)) dNil)) (dC (.int 1000003))))))
def d__law_box : DS := (dRet (dToBox (dLstE (dCons (dCB dopAbs (dCons (dVar 0) dNil)) (dCons (dBin dopGe (dCB dopAbs (dCons (dVar 0) dNil)) (dBin dopPow (dC (.int 10)) (dC (.int 18)))) (dCons (dBin dopMod (dCB dopInt (dCons (dCB dopAbs (dCons (dVar 0) dNil)) dNil)) (dC (.int 2147483629))) (dCons (dC (.int 0)) dNil)))))))
def d__law_take_1t_1 : DS := (dAsg (dBin dopMod (dCB dopInt (dCons (dBoxIx 0 (dVar 0)) dNil)) (dVar 1)) (dName 3))
def d__law_take_1t_2 : DS := (dAsg (dBin dopDiv (dBoxIx 0 (dVar 0)) (dVar 1)) (dgBox 0 (dVar 0)))
def d__law_take_1t_3 : DS := (dRet (dVar 3))
def d__law_take_1t : DS := (dSeq d__law_take_1t_1 (dSeq d__law_take_1t_2 d__law_take_1t_3))
def d__law_take_1 : DS := (dIfS (dAnd (dTest (dBoxIx 1 (dVar 0))) (dTest (dBin dopGt (dBoxIx 0 (dVar 0)) (dC (.int 0))))) d__law_take_1t dNext)
def d__law_take_2 : DS := (dAsg (dBin dopAdd (dBoxIx 3 (dVar 0)) (dC (.int 1))) (dgBox 3 (dVar 0)))
def d__law_take_3 : DS := (dAsg (dBin dopMod (dCB dopInt (dCons (dBin dopPow (dBin dopAdd (dBin dopAdd (dBoxIx 2 (dVar 0)) (dBin dopMul (dC (.int 15485867)) (dBoxIx 3 (dVar 0)))) (dC (.int 179425033))) (dC (.int 5))) dNil)) (dC (.int 2147483647))) (dName 2))
def d__law_take_4 : DS := (dRet (dBin dopMod (dCB dopInt (dCons (dBin dopDiv (dBin dopMod (dCB dopInt (dCons (dBin dopPow (dBin dopAdd (dBin dopMul (dVar 2) (dC (.int 48271))) (dBin dopMul (dC (.int 7919)) (dBoxIx 3 (dVar 0)))) (dC (.int 3))) dNil)) (dC (.int 2147483587))) (dC (.int 64))) dNil)) (dVar 1)))
def d__law_take : DS := (dSeq d__law_take_1 (dSeq d__law_take_2 (dSeq d__law_take_3 d__law_take_4)))
def d__law_begun_1 : DS := (dAsg (dLc [4] (dRng1 (dBin dopAdd (dC (.int 1)) (dCall 2 S__law_take (dCons (dVar 0) (dCons (dC (.int 11)) dNil))))) (dName 4) dYes (dBin dopIx (dC (.str "abc")) (dCall 2 S__law_take (dCons (dVar 0) (dCons (dC (.int 3)) dNil))))) (dName 2))
def d__law_begun_2 : DS := (dAsg (dIf (dTest (dVar 1)) (dBin dopAdd (dC (.int 1985)) (dCall 2 S__law_take (dCons (dVar 0) (dCons (dC (.int 16)) dNil)))) (dBin dopIx (dLstE (dCons (dC (.int 0)) (dCons (dC (.int 1)) (dCons (dC (.int 2)) (dCons (dC (.int 3)) (dCons (dC (.int 5)) (dCons (dC (.int 9)) (dCons (dC (.int 17)) (dCons (dC (.int 30)) dNil))))))))) (dCall 2 S__law_take (dCons (dVar 0) (dCons (dC (.int 8)) dNil))))) (dName 3))
def d__law_begun_3 : DS := (dRet (dLc [4] (dRng1 (dVar 3)) (dName 4) dYes (dBin dopIx (dVar 2) (dBin dopMod (dCB dopInt (dCons (dBin dopAdd (dBin dopMul (dVar 4) (dVar 4)) (dBin dopDiv (dVar 4) (dC (.int 7)))) dNil)) (dCB dopLen (dCons (dVar 2) dNil))))))
def d__law_begun : DS := (dSeq d__law_begun_1 (dSeq d__law_begun_2 d__law_begun_3))
def d__law_chosen_1 : DS := (dAsg (dCall 2 S__law_take (dCons (dVar 0) (dCons (dC (.int 5)) dNil))) (dName 2))
def d__law_chosen_2t : DS := (dRet (dLsR (dVar 1)))
def d__law_chosen_2 : DS := (dIfS (dTest (dBin dopEq (dVar 2) (dC (.int 0)))) d__law_chosen_2t dNext)
def d__law_chosen_3t : DS := (dRet (dLstE dNil))
def d__law_chosen_3 : DS := (dIfS (dTest (dBin dopEq (dVar 2) (dC (.int 1)))) d__law_chosen_3t dNext)
def d__law_chosen_4t_1 : DS := (dAsg (dBin dopAdd (dC (.int 2)) (dCall 2 S__law_take (dCons (dVar 0) (dCons (dC (.int 2)) dNil)))) (dName 3))
def d__law_chosen_4t_2 : DS := (dRet (dLc [5] (dRng1 (dVar 1)) (dName 5) (dTest (dBin dopEq (dBin dopMod (dCB dopInt (dCons (dVar 5) dNil)) (dVar 3)) (dC (.int 0)))) (dVar 5)))
def d__law_chosen_4t : DS := (dSeq d__law_chosen_4t_1 d__law_chosen_4t_2)
def d__law_chosen_4 : DS := (dIfS (dTest (dBin dopEq (dVar 2) (dC (.int 2)))) d__law_chosen_4t dNext)
def d__law_chosen_5t_1 : DS := (dAsg (dCall 2 S__law_take (dCons (dVar 0) (dCons (dCB dopMax (dCons (dC (.int 1)) (dCons (dVar 1) dNil))) dNil))) (dName 4))
def d__law_chosen_5t_2 : DS := (dRet (dLc [5] (dRng1 (dVar 1)) (dName 5) (dTest (dBin dopNe (dVar 5) (dVar 4))) (dVar 5)))
def d__law_chosen_5t : DS := (dSeq d__law_chosen_5t_1 d__law_chosen_5t_2)
def d__law_chosen_5 : DS := (dIfS (dTest (dBin dopEq (dVar 2) (dC (.int 3)))) d__law_chosen_5t dNext)
def d__law_chosen_6 : DS := (dRet (dIf (dTest (dBin dopGt (dVar 1) (dC (.int 0)))) (dSortSet (dLc [6] (dRng1 (dC (.int 12))) (dName 6) dYes (dCall 2 S__law_take (dCons (dVar 0) (dCons (dVar 1) dNil))))) (dLstE dNil)))
def d__law_chosen : DS := (dSeq d__law_chosen_1 (dSeq d__law_chosen_2 (dSeq d__law_chosen_3 (dSeq d__law_chosen_4 (dSeq d__law_chosen_5 d__law_chosen_6)))))
def d__law_place : DS := (dRet (dBin dopIx (dLstE (dCons (dVar 1) (dCons (dBin dopSub (dVar 2) (dC (.int 1))) (dCons (dBin dopAdd (dVar 1) (dCall 2 S__law_take (dCons (dVar 0) (dCons (dBin dopSub (dVar 2) (dVar 1)) dNil)))) dNil)))) (dCall 2 S__law_take (dCons (dVar 0) (dCons (dC (.int 3)) dNil)))))
def d__law_deed_1 : DS := (dAsg (dCB dopLen (dCons (dVar 1) dNil)) (dName 3))
def d__law_deed_2t_1 : DS := (dAsg (dCall 2 S__law_chosen (dCons (dVar 0) (dCons (dVar 3) dNil))) (dName 5))
def d__law_deed_2t_2 : DS := (dRet (dTupE (dCons (dLstE (dCons (dC (.int 4)) (dCons (dVar 5) (dCons (dC (.str "")) dNil)))) (dCons (dLc [6] (dSeqI (dVar 5)) (dName 6) dYes (dBin dopIx (dVar 1) (dVar 6))) dNil))))
def d__law_deed_2t : DS := (dSeq d__law_deed_2t_1 d__law_deed_2t_2)
def d__law_deed_2 : DS := (dIfS (dOr (dTest (dBin dopEq (dVar 2) (dC (.int 4)))) (dOr (dTest (dBin dopEq (dVar 3) (dC (.int 0)))) (dOr (dAnd (dTest (dBin dopEq (dVar 2) (dC (.int 1)))) (dTest (dBin dopEq (dVar 3) (dC (.int 1))))) (dAnd (dTest (dBin dopEq (dVar 2) (dC (.int 2)))) (dTest (dBin dopEq (dVar 3) (dC (.int 2000)))))))) d__law_deed_2t dNext)
def d__law_deed_3 : DS := (dPar [6, 7] (dRCons (dCall 3 S__law_place (dCons (dVar 0) (dCons (dCB dopInt (dCons (dBin dopEq (dVar 2) (dC (.int 1))) dNil)) (dCons (dVar 3) dNil)))) (dRCons (dBin dopIx (dC (.str "abc")) (dCall 2 S__law_take (dCons (dVar 0) (dCons (dC (.int 3)) dNil)))) dRNil)))
def d__law_deed_4 : DS := (dAsg (dCB dopList (dCons (dVar 1) dNil)) (dName 4))
def d__law_deed_5t : DS := (dDrop (dMt dmPopAt (dVar 4) (dCons (dVar 6) dNil)))
def d__law_deed_5e_1t : DS := (dAsg (dBin dopAdd (dBin dopAdd (dSl (dVar 1) dNoPart (dPart (dBin dopSub (dVar 6) (dC (.int 1))))) (dLstE (dCons (dBin dopIx (dVar 1) (dVar 6)) (dCons (dBin dopIx (dVar 1) (dBin dopSub (dVar 6) (dC (.int 1)))) dNil)))) (dSl (dVar 1) (dPart (dBin dopAdd (dVar 6) (dC (.int 1)))) dNoPart)) (dName 4))
def d__law_deed_5e_1e_1t : DS := (dDrop (dMt dmInsert (dVar 4) (dCons (dVar 6) (dCons (dBin dopIx (dVar 1) (dVar 6)) dNil))))
def d__law_deed_5e_1e_1e : DS := (dAsg (dVar 7) (dgSub (dVar 4) (dVar 6)))
def d__law_deed_5e_1e : DS := (dIfS (dTest (dBin dopEq (dVar 2) (dC (.int 2)))) d__law_deed_5e_1e_1t d__law_deed_5e_1e_1e)
def d__law_deed_5e : DS := (dIfS (dTest (dBin dopEq (dVar 2) (dC (.int 1)))) d__law_deed_5e_1t d__law_deed_5e_1e)
def d__law_deed_5 : DS := (dIfS (dTest (dBin dopEq (dVar 2) (dC (.int 0)))) d__law_deed_5t d__law_deed_5e)
def d__law_deed_6 : DS := (dRet (dTupE (dCons (dLstE (dCons (dVar 2) (dCons (dVar 6) (dCons (dVar 7) dNil)))) (dCons (dVar 4) dNil))))
def d__law_deed : DS := (dSeq d__law_deed_1 (dSeq d__law_deed_2 (dSeq d__law_deed_3 (dSeq d__law_deed_4 (dSeq d__law_deed_5 d__law_deed_6)))))
def d__law_told_1 : DS := (dAsg (dVar 1) (dgUnl 3 (dgCons (dName 5) (dgCons (dName 6) (dgCons (dName 7) dgNil)))))
def d__law_told_2t : DS := (dRet (dIf (dTest (dBin dopEq (dVar 2) (dC (.int 0)))) (dCall 2 S_without (dCons (dVar 0) (dCons (dVar 6) dNil))) (dCallW 0 2 2 [1, 0] S_without dNil (dCons (dVar 6) (dCons (dVar 0) dNil)))))
def d__law_told_2 : DS := (dIfS (dTest (dBin dopEq (dVar 5) (dC (.int 0)))) d__law_told_2t dNext)
def d__law_told_3t : DS := (dRet (dIf (dTest (dBin dopEq (dVar 2) (dC (.int 0)))) (dCall 2 S_moved_up (dCons (dVar 0) (dCons (dVar 6) dNil))) (dCallW 0 2 2 [1, 0] S_moved_up dNil (dCons (dVar 6) (dCons (dVar 0) dNil)))))
def d__law_told_3 : DS := (dIfS (dTest (dBin dopEq (dVar 5) (dC (.int 1)))) d__law_told_3t dNext)
def d__law_told_4t : DS := (dRet (dIf (dTest (dBin dopEq (dVar 2) (dC (.int 0)))) (dCall 2 S_doubled (dCons (dVar 0) (dCons (dVar 6) dNil))) (dCallW 0 2 2 [1, 0] S_doubled dNil (dCons (dVar 6) (dCons (dVar 0) dNil)))))
def d__law_told_4 : DS := (dIfS (dTest (dBin dopEq (dVar 5) (dC (.int 2)))) d__law_told_4t dNext)
def d__law_told_5t : DS := (dRet (dIf (dTest (dBin dopEq (dVar 2) (dC (.int 0)))) (dCall 3 S_changed (dCons (dVar 0) (dCons (dVar 6) (dCons (dVar 7) dNil)))) (dCallW 0 3 3 [1, 2, 0] S_changed dNil (dCons (dVar 7) (dCons (dVar 0) (dCons (dVar 6) dNil))))))
def d__law_told_5 : DS := (dIfS (dTest (dBin dopEq (dVar 5) (dC (.int 3)))) d__law_told_5t dNext)
def d__law_told_6 : DS := (dAsg (dCB dopList (dCons (dVar 6) dNil)) (dName 3))
def d__law_told_7 : DS := (dAsg (dIf (dTest (dBin dopEq (dVar 2) (dC (.int 0)))) (dCall 2 S_part (dCons (dVar 0) (dCons (dCB dopTuple (dCons (dVar 6) dNil)) dNil))) (dCallW 0 2 2 [1, 0] S_part dNil (dCons (dVar 3) (dCons (dVar 0) dNil)))) (dName 4))
def d__law_told_8 : DS := (dRet (dIf (dTest (dBin dopEq (dVar 3) (dVar 6))) (dVar 4) (dC .non)))
def d__law_told : DS := (dSeq d__law_told_1 (dSeq d__law_told_2 (dSeq d__law_told_3 (dSeq d__law_told_4 (dSeq d__law_told_5 (dSeq d__law_told_6 (dSeq d__law_told_7 d__law_told_8)))))))
def d__law_is_1t : DS := (dRet (dC (.bl false)))
def d__law_is_1 : DS := (dIfS (dOr (dNot (dTest (dIsi "str" (dVar 0)))) (dTest (dBin dopNe (dCB dopLen (dCons (dVar 0) dNil)) (dCB dopLen (dCons (dVar 1) dNil))))) d__law_is_1t dNext)
def d__law_is_2 : DS := (dRet (dBin dopEq (dLc [2] (dRng1 (dCB dopLen (dCons (dVar 1) dNil))) (dName 2) (dTest (dBin dopNe (dBin dopIx (dVar 0) (dVar 2)) (dBin dopIx (dVar 1) (dVar 2)))) (dVar 2)) (dLstE dNil)))
def d__law_is : DS := (dSeq d__law_is_1 d__law_is_2)
def d_law_1 : DS := (dAsg (dLc [11] (dRng1 (dC (.int 4))) (dName 11) dYes (dCall 1 S__law_box (dCons (dCall 2 S__law_cell (dCons (dVar 0) (dCons (dVar 11) dNil))) dNil))) (dName 1))
def d_law_2 : DS := (dAsg (dBin dopEq (dCall 2 S__law_take (dCons (dBin dopIx (dVar 1) (dC (.int 0))) (dCons (dC (.int 8)) dNil))) (dC (.int 0))) (dName 2))
def d_law_3 : DS := (dAsg (dLc [11] (dRng1 (dC (.int 2))) (dName 11) dYes (dCall 2 S__law_begun (dCons (dBin dopIx (dVar 1) (dVar 11)) (dCons (dAndV (dVar 2) (dBin dopEq (dVar 11) (dC (.int 0)))) dNil)))) (dName 3))
def d_law_4 : DS := (dPar [5, 6] (dRCons (dLcO 3 [13] (dName 13) dYes (dM1 dopJoin (dC (.str "")) (dVar 13))) (dRCons (dLstE dNil) dRNil)))
def d_law_5b_1 : DS := (dPar [11, 12] (dRCons (dBin dopMod (dCB dopInt (dCons (dVar 4) dNil)) (dC (.int 2))) (dRCons (dBin dopIx (dVar 1) (dBin dopMod (dCB dopInt (dCons (dBin dopDiv (dVar 4) (dC (.int 2))) dNil)) (dC (.int 4)))) dRNil)))
def d_law_5b_2 : DS := (dAsg (dCall 3 S__law_deed (dCons (dVar 12) (dCons (dBin dopIx (dVar 3) (dVar 11)) (dCons (dIf (dOr (dTest (dBin dopGt (dVar 4) (dC (.int 9)))) (dTest (dVar 2))) (dCall 2 S__law_take (dCons (dVar 12) (dCons (dC (.int 5)) dNil))) (dBin dopMod (dCB dopInt (dCons (dBin dopDiv (dVar 4) (dC (.int 2))) dNil)) (dC (.int 5)))) dNil)))) (dgTup 2 (dgCons (dName 9) (dgCons (dName 10) dgNil))))
def d_law_5b_3 : DS := (dAsg (dCall 3 S__law_told (dCons (dBin dopIx (dVar 5) (dVar 11)) (dCons (dVar 9) (dCons (dCall 2 S__law_take (dCons (dVar 12) (dCons (dC (.int 2)) dNil))) dNil)))) (dName 7))
def d_law_5b_4t : DS := (dRet (dC (.bl false)))
def d_law_5b_4 : DS := (dIfS (dNot (dTest (dCall 2 S__law_is (dCons (dVar 7) (dCons (dVar 10) dNil))))) d_law_5b_4t dNext)
def d_law_5b_5t : DS := (dDrop (dMt dmAppend (dVar 6) (dCons (dLstE (dCons (dBin dopIx (dVar 5) (dVar 11)) (dCons (dVar 9) (dCons (dVar 10) dNil)))) dNil)))
def d_law_5b_5 : DS := (dIfS (dTest (dBin dopLt (dVar 4) (dC (.int 2)))) d_law_5b_5t dNext)
def d_law_5b_6 : DS := (dAsg (dTupE (dCons (dVar 10) (dCons (dVar 7) dNil))) (dgTup 2 (dgCons (dgSub (dVar 3) (dVar 11)) (dgCons (dgSub (dVar 5) (dVar 11)) dgNil))))
def d_law_5b_7t_1 : DS := (dAsg (dCall 2 S__law_begun (dCons (dVar 12) (dCons (dC (.bl false)) dNil))) (dgSub (dVar 3) (dVar 11)))
def d_law_5b_7t_2 : DS := (dAsg (dM1 dopJoin (dC (.str "")) (dBin dopIx (dVar 3) (dVar 11))) (dgSub (dVar 5) (dVar 11)))
def d_law_5b_7t : DS := (dSeq d_law_5b_7t_1 d_law_5b_7t_2)
def d_law_5b_7 : DS := (dIfS (dAnd (dTest (dBin dopLt (dCB dopLen (dCons (dVar 10) dNil)) (dC (.int 2)))) (dTest (dBin dopLt (dVar 4) (dC (.int 30))))) d_law_5b_7t dNext)
def d_law_5 : DS := (dFor (dRng1 (dC (.int 36))) (dName 4) (dSeq d_law_5b_1 (dSeq d_law_5b_2 (dSeq d_law_5b_3 (dSeq d_law_5b_4 (dSeq d_law_5b_5 (dSeq d_law_5b_6 d_law_5b_7)))))))
def d_law_6b_1t : DS := (dRet (dC (.bl false)))
def d_law_6 : DS := (dFor (dSeqI (dVar 6)) (dgUnl 3 (dgCons (dName 8) (dgCons (dName 9) (dgCons (dName 10) dgNil)))) (dIfS (dOr (dNot (dTest (dCall 2 S__law_is (dCons (dCall 3 S__law_told (dCons (dVar 8) (dCons (dVar 9) (dCons (dC (.int 0)) dNil)))) (dCons (dVar 10) dNil))))) (dNot (dTest (dCall 2 S__law_is (dCons (dCall 3 S__law_told (dCons (dVar 8) (dCons (dVar 9) (dCons (dC (.int 1)) dNil)))) (dCons (dVar 10) dNil)))))) d_law_6b_1t dNext))
def d_law_7 : DS := (dRet (dC (.bl true)))
def d_law : DS := (dSeq d_law_1 (dSeq d_law_2 (dSeq d_law_3 (dSeq d_law_4 (dSeq d_law_5 (dSeq d_law_6 d_law_7))))))
end K02
end VL

set_option Elab.async false
set_option linter.all false
set_option maxRecDepth 100000
set_option maxHeartbeats 4000000
namespace VL
namespace K02
open PySem PySem.Spec PyProof.Rows L2
theorem vc_is_integer : ∀ ds gs Q2 E2, ds.length = 1 → S_is_integer ds gs Q2 E2 → d_is_integer { nx := fun st => Q2 (.sh .non) st.gs, rt := fun en st => dBack en st fun en' => Q2 en' st.gs, ex := fun ex st => E2 ex st.gs } ⟨initS 1 ds, gs⟩ := by
  rintro _ gs Q E - ⟨i, rfl, h⟩
  simp [d_is_integer, dRet, dRetN, dAndV, dOrV, dNotV, dIf, dIsi, dIsi2, dVar, dC, dBin, dChain, dTest, dAnd, dOr, dNot, dCons, dNil, dFrzL, dFrz, dCall, dCallW, dSeq, dNext, dIfS, dNever, dDrop, dAsg, dName, dStore, dPar, dRCons, dRNil, dKeepL, dKeep, dStoreL, dSl, dPart, dNoPart, dopSl, dCB, viewL, view, En.hold, D.ty, dBack, initS, dopAdd, dopI, dopI0, dopB0, dopSub, dopMul, dopDiv, dopMod, dopLt, dopLe, dopGt, dopGe, dopEq, dopNe, dopIn, dopIx, dTupE, dLstE, dopLen, dopAbs, dopInt, dopSum, dopAll, dopMax, dopList, dopTuple, dLc, dLcO, dYes, dRng1, dSeqI, dgNil, dgCons, dgTup, dgUnl, dMt, mtAt, dmAppend, dmPopAt, dmInsert, dgSub, setAt, dBoxIx, dToBox, dgBox, dM1, dopJoin, dopStripC, dLsR, dopPow, dSortSet, dFor, DSt.wipe, wipeS, pick, eqD_int, eqD_str, plain_int, plain_str, plain_bl, plain_non, kb_int_int, kb_int_bool, kb_str_str, kb_list_list, kb_list_tuple, kb_tuple_list, kb_tuple_tuple, List.replicate, box0, box1, box2, box3, h]
theorem vc_is_within : ∀ ds gs Q2 E2, ds.length = 3 → S_is_within ds gs Q2 E2 → d_is_within { nx := fun st => Q2 (.sh .non) st.gs, rt := fun en st => dBack en st fun en' => Q2 en' st.gs, ex := fun ex st => E2 ex st.gs } ⟨initS 3 ds, gs⟩ := by
  rintro _ gs Q E - ⟨v, lo, hi, rfl, h⟩
  simp [d_is_within, S_is_integer, dRet, dRetN, dAndV, dOrV, dNotV, dIf, dIsi, dIsi2, dVar, dC, dBin, dChain, dTest, dAnd, dOr, dNot, dCons, dNil, dFrzL, dFrz, dCall, dCallW, dSeq, dNext, dIfS, dNever, dDrop, dAsg, dName, dStore, dPar, dRCons, dRNil, dKeepL, dKeep, dStoreL, dSl, dPart, dNoPart, dopSl, dCB, viewL, view, En.hold, D.ty, dBack, initS, dopAdd, dopI, dopI0, dopB0, dopSub, dopMul, dopDiv, dopMod, dopLt, dopLe, dopGt, dopGe, dopEq, dopNe, dopIn, dopIx, dTupE, dLstE, dopLen, dopAbs, dopInt, dopSum, dopAll, dopMax, dopList, dopTuple, dLc, dLcO, dYes, dRng1, dSeqI, dgNil, dgCons, dgTup, dgUnl, dMt, mtAt, dmAppend, dmPopAt, dmInsert, dgSub, setAt, dBoxIx, dToBox, dgBox, dM1, dopJoin, dopStripC, dLsR, dopPow, dSortSet, dFor, DSt.wipe, wipeS, pick, eqD_int, eqD_str, plain_int, plain_str, plain_bl, plain_non, kb_int_int, kb_int_bool, kb_str_str, kb_list_list, kb_list_tuple, kb_tuple_list, kb_tuple_tuple, List.replicate, box0, box1, box2, box3]
  by_cases c : lo ≤ v <;> simpa [c] using h
theorem vc_is_index : ∀ ds gs Q2 E2, ds.length = 2 → S_is_index ds gs Q2 E2 → d_is_index { nx := fun st => Q2 (.sh .non) st.gs, rt := fun en st => dBack en st fun en' => Q2 en' st.gs, ex := fun ex st => E2 ex st.gs } ⟨initS 2 ds, gs⟩ := by
  rintro _ gs Q E - ⟨v, m, rfl, h⟩
  simp [d_is_index, S_is_integer, dRet, dRetN, dAndV, dOrV, dNotV, dIf, dIsi, dIsi2, dVar, dC, dBin, dChain, dTest, dAnd, dOr, dNot, dCons, dNil, dFrzL, dFrz, dCall, dCallW, dSeq, dNext, dIfS, dNever, dDrop, dAsg, dName, dStore, dPar, dRCons, dRNil, dKeepL, dKeep, dStoreL, dSl, dPart, dNoPart, dopSl, dCB, viewL, view, En.hold, D.ty, dBack, initS, dopAdd, dopI, dopI0, dopB0, dopSub, dopMul, dopDiv, dopMod, dopLt, dopLe, dopGt, dopGe, dopEq, dopNe, dopIn, dopIx, dTupE, dLstE, dopLen, dopAbs, dopInt, dopSum, dopAll, dopMax, dopList, dopTuple, dLc, dLcO, dYes, dRng1, dSeqI, dgNil, dgCons, dgTup, dgUnl, dMt, mtAt, dmAppend, dmPopAt, dmInsert, dgSub, setAt, dBoxIx, dToBox, dgBox, dM1, dopJoin, dopStripC, dLsR, dopPow, dSortSet, dFor, DSt.wipe, wipeS, pick, eqD_int, eqD_str, plain_int, plain_str, plain_bl, plain_non, kb_int_int, kb_int_bool, kb_str_str, kb_list_list, kb_list_tuple, kb_tuple_list, kb_tuple_tuple, List.replicate, box0, box1, box2, box3]
  by_cases c : 0 ≤ v <;> simpa [c] using h
theorem vc_is_list : ∀ ds gs Q2 E2, ds.length = 1 → S_is_list ds gs Q2 E2 → d_is_list { nx := fun st => Q2 (.sh .non) st.gs, rt := fun en st => dBack en st fun en' => Q2 en' st.gs, ex := fun ex st => E2 ex st.gs } ⟨initS 1 ds, gs⟩ := by
  rintro _ gs Q E - ⟨d, xs, rfl, rfl | rfl, h⟩ <;> simp [d_is_list, dRet, dRetN, dAndV, dOrV, dNotV, dIf, dIsi, dIsi2, dVar, dC, dBin, dChain, dTest, dAnd, dOr, dNot, dCons, dNil, dFrzL, dFrz, dCall, dCallW, dSeq, dNext, dIfS, dNever, dDrop, dAsg, dName, dStore, dPar, dRCons, dRNil, dKeepL, dKeep, dStoreL, dSl, dPart, dNoPart, dopSl, dCB, viewL, view, En.hold, D.ty, dBack, initS, dopAdd, dopI, dopI0, dopB0, dopSub, dopMul, dopDiv, dopMod, dopLt, dopLe, dopGt, dopGe, dopEq, dopNe, dopIn, dopIx, dTupE, dLstE, dopLen, dopAbs, dopInt, dopSum, dopAll, dopMax, dopList, dopTuple, dLc, dLcO, dYes, dRng1, dSeqI, dgNil, dgCons, dgTup, dgUnl, dMt, mtAt, dmAppend, dmPopAt, dmInsert, dgSub, setAt, dBoxIx, dToBox, dgBox, dM1, dopJoin, dopStripC, dLsR, dopPow, dSortSet, dFor, DSt.wipe, wipeS, pick, eqD_int, eqD_str, plain_int, plain_str, plain_bl, plain_non, kb_int_int, kb_int_bool, kb_str_str, kb_list_list, kb_list_tuple, kb_tuple_list, kb_tuple_tuple, List.replicate, box0, box1, box2, box3, h]
theorem intL_get {ns : List Int} {i : Nat} {n : Int} (h : ns[i]? = some n) : (intL ns)[i]? = some (.int n) := by
  unfold intL
  rw [List.getElem?_map, h]; rfl
theorem bls_true : ∀ n : Nat, blsOf (List.replicate n (D.bl true)) = some (List.replicate n true)
  | 0 => rfl
  | n + 1 => by rw [List.replicate_succ, List.replicate_succ, blsOf, bls_true n]; rfl
theorem all_true (n : Nat) : (List.replicate n true).all id = true := by simp
theorem rep_snoc {α : Type} (n : Nat) (x : α) : List.replicate n x ++ [x] = List.replicate (n + 1) x := by rw [List.replicate_succ']
theorem vc_ascends : ∀ ds gs Q2 E2, ds.length = 1 → S_ascends ds gs Q2 E2 → d_ascends { nx := fun st => Q2 (.sh .non) st.gs, rt := fun en st => dBack en st fun en' => Q2 en' st.gs, ex := fun ex st => E2 ex st.gs } ⟨initS 2 ds, gs⟩ := by
  rintro _ gs Q E - ⟨d, ns, rfl, hd, hl, hp, h⟩
  have len : (intL ns).length = ns.length := by simp [intL]
  have body : ∀ (st0 : DSt), st0 = ⟨[some (.sh d), none], gs⟩ → ∀ (Qe : En → DSt → Prop), (∀ n, Qe (.ow (.lst (List.replicate n (.bl true)))) st0) → dLcL [1] (dName 1) dYes (dBin dopLt (dBin dopIx (dVar 0) (dVar 1)) (dBin dopIx (dVar 0) (dBin dopAdd (dVar 1) (dC (.int 1))))) Qe (rangeD 0 (ns.length - 1)) [] st0 := by
    rintro _ rfl Qe hq
    refine dLcL_ix (fun i acc st => st = ⟨[some (.sh d), none], gs⟩ ∧ acc = List.replicate i (.bl true)) ?_ ?_ _ _ ⟨rfl, rfl⟩
    · rintro acc st ⟨rfl, rfl⟩
      exact hq _
    · rintro i dd acc st K hd' hi ⟨rfl, rfl⟩ k
      obtain ⟨rfl, hi⟩ := range0_get hd'
      have h1 : i + 1 < ns.length := by omega
      have a1 : atI (intL ns) (i : Int) = some (.int (ns[i]'(by omega))) := atI_nat' (intL_get (List.getElem?_eq_getElem (by omega)))
      have a2 : atI (intL ns) ((i : Int) + 1) = some (.int (ns[i + 1]'h1)) := atI_nat' (i := i + 1) (intL_get (List.getElem?_eq_getElem h1))
      have lt : ns[i]'(by omega) < ns[i + 1]'h1 := List.pairwise_iff_getElem.mp hp i (i + 1) (by omega) h1 (by omega)
      have kk := k _ _ ⟨rfl, rfl⟩
      rw [← rep_snoc] at kk
      rcases hd with rfl | rfl <;> (simp [dRet, dRetN, dAndV, dOrV, dNotV, dIf, dIsi, dIsi2, dVar, dC, dBin, dChain, dTest, dAnd, dOr, dNot, dCons, dNil, dFrzL, dFrz, dCall, dCallW, dSeq, dNext, dIfS, dNever, dDrop, dAsg, dName, dStore, dPar, dRCons, dRNil, dKeepL, dKeep, dStoreL, dSl, dPart, dNoPart, dopSl, dCB, viewL, view, En.hold, D.ty, dBack, initS, dopAdd, dopI, dopI0, dopB0, dopSub, dopMul, dopDiv, dopMod, dopLt, dopLe, dopGt, dopGe, dopEq, dopNe, dopIn, dopIx, dTupE, dLstE, dopLen, dopAbs, dopInt, dopSum, dopAll, dopMax, dopList, dopTuple, dLc, dLcO, dYes, dRng1, dSeqI, dgNil, dgCons, dgTup, dgUnl, dMt, mtAt, dmAppend, dmPopAt, dmInsert, dgSub, setAt, dBoxIx, dToBox, dgBox, dM1, dopJoin, dopStripC, dLsR, dopPow, dSortSet, dFor, DSt.wipe, wipeS, pick, eqD_int, eqD_str, plain_int, plain_str, plain_bl, plain_non, kb_int_int, kb_int_bool, kb_str_str, kb_list_list, kb_list_tuple, kb_tuple_list, kb_tuple_tuple, List.replicate, box0, box1, box2, box3, a1, a2, lt]; exact kk)
  rcases hd with rfl | rfl
  · simp [d_ascends, dRet, dRetN, dAndV, dOrV, dNotV, dIf, dIsi, dIsi2, dVar, dC, dBin, dChain, dTest, dAnd, dOr, dNot, dCons, dNil, dFrzL, dFrz, dCall, dCallW, dSeq, dNext, dIfS, dNever, dDrop, dAsg, dName, dStore, dPar, dRCons, dRNil, dKeepL, dKeep, dStoreL, dSl, dPart, dNoPart, dopSl, dCB, viewL, view, En.hold, D.ty, dBack, initS, dopAdd, dopI, dopI0, dopB0, dopSub, dopMul, dopDiv, dopMod, dopLt, dopLe, dopGt, dopGe, dopEq, dopNe, dopIn, dopIx, dTupE, dLstE, dopLen, dopAbs, dopInt, dopSum, dopAll, dopMax, dopList, dopTuple, dLc, dLcO, dYes, dRng1, dSeqI, dgNil, dgCons, dgTup, dgUnl, dMt, mtAt, dmAppend, dmPopAt, dmInsert, dgSub, setAt, dBoxIx, dToBox, dgBox, dM1, dopJoin, dopStripC, dLsR, dopPow, dSortSet, dFor, DSt.wipe, wipeS, pick, eqD_int, eqD_str, plain_int, plain_str, plain_bl, plain_non, kb_int_int, kb_int_bool, kb_str_str, kb_list_list, kb_list_tuple, kb_tuple_list, kb_tuple_tuple, List.replicate, box0, box1, box2, box3, len]
    refine ⟨by omega, by omega, body _ rfl _ fun n => ?_⟩
    simp [dRet, dRetN, dAndV, dOrV, dNotV, dIf, dIsi, dIsi2, dVar, dC, dBin, dChain, dTest, dAnd, dOr, dNot, dCons, dNil, dFrzL, dFrz, dCall, dCallW, dSeq, dNext, dIfS, dNever, dDrop, dAsg, dName, dStore, dPar, dRCons, dRNil, dKeepL, dKeep, dStoreL, dSl, dPart, dNoPart, dopSl, dCB, viewL, view, En.hold, D.ty, dBack, initS, dopAdd, dopI, dopI0, dopB0, dopSub, dopMul, dopDiv, dopMod, dopLt, dopLe, dopGt, dopGe, dopEq, dopNe, dopIn, dopIx, dTupE, dLstE, dopLen, dopAbs, dopInt, dopSum, dopAll, dopMax, dopList, dopTuple, dLc, dLcO, dYes, dRng1, dSeqI, dgNil, dgCons, dgTup, dgUnl, dMt, mtAt, dmAppend, dmPopAt, dmInsert, dgSub, setAt, dBoxIx, dToBox, dgBox, dM1, dopJoin, dopStripC, dLsR, dopPow, dSortSet, dFor, DSt.wipe, wipeS, pick, eqD_int, eqD_str, plain_int, plain_str, plain_bl, plain_non, kb_int_int, kb_int_bool, kb_str_str, kb_list_list, kb_list_tuple, kb_tuple_list, kb_tuple_tuple, List.replicate, box0, box1, box2, box3, bls_true]
    exact h
  · simp [d_ascends, dRet, dRetN, dAndV, dOrV, dNotV, dIf, dIsi, dIsi2, dVar, dC, dBin, dChain, dTest, dAnd, dOr, dNot, dCons, dNil, dFrzL, dFrz, dCall, dCallW, dSeq, dNext, dIfS, dNever, dDrop, dAsg, dName, dStore, dPar, dRCons, dRNil, dKeepL, dKeep, dStoreL, dSl, dPart, dNoPart, dopSl, dCB, viewL, view, En.hold, D.ty, dBack, initS, dopAdd, dopI, dopI0, dopB0, dopSub, dopMul, dopDiv, dopMod, dopLt, dopLe, dopGt, dopGe, dopEq, dopNe, dopIn, dopIx, dTupE, dLstE, dopLen, dopAbs, dopInt, dopSum, dopAll, dopMax, dopList, dopTuple, dLc, dLcO, dYes, dRng1, dSeqI, dgNil, dgCons, dgTup, dgUnl, dMt, mtAt, dmAppend, dmPopAt, dmInsert, dgSub, setAt, dBoxIx, dToBox, dgBox, dM1, dopJoin, dopStripC, dLsR, dopPow, dSortSet, dFor, DSt.wipe, wipeS, pick, eqD_int, eqD_str, plain_int, plain_str, plain_bl, plain_non, kb_int_int, kb_int_bool, kb_str_str, kb_list_list, kb_list_tuple, kb_tuple_list, kb_tuple_tuple, List.replicate, box0, box1, box2, box3, len]
    refine ⟨by omega, by omega, body _ rfl _ fun n => ?_⟩
    simp [dRet, dRetN, dAndV, dOrV, dNotV, dIf, dIsi, dIsi2, dVar, dC, dBin, dChain, dTest, dAnd, dOr, dNot, dCons, dNil, dFrzL, dFrz, dCall, dCallW, dSeq, dNext, dIfS, dNever, dDrop, dAsg, dName, dStore, dPar, dRCons, dRNil, dKeepL, dKeep, dStoreL, dSl, dPart, dNoPart, dopSl, dCB, viewL, view, En.hold, D.ty, dBack, initS, dopAdd, dopI, dopI0, dopB0, dopSub, dopMul, dopDiv, dopMod, dopLt, dopLe, dopGt, dopGe, dopEq, dopNe, dopIn, dopIx, dTupE, dLstE, dopLen, dopAbs, dopInt, dopSum, dopAll, dopMax, dopList, dopTuple, dLc, dLcO, dYes, dRng1, dSeqI, dgNil, dgCons, dgTup, dgUnl, dMt, mtAt, dmAppend, dmPopAt, dmInsert, dgSub, setAt, dBoxIx, dToBox, dgBox, dM1, dopJoin, dopStripC, dLsR, dopPow, dSortSet, dFor, DSt.wipe, wipeS, pick, eqD_int, eqD_str, plain_int, plain_str, plain_bl, plain_non, kb_int_int, kb_int_bool, kb_str_str, kb_list_list, kb_list_tuple, kb_tuple_list, kb_tuple_tuple, List.replicate, box0, box1, box2, box3, bls_true]
    exact h
theorem vc_are_places : ∀ ds gs Q2 E2, ds.length = 2 → S_are_places ds gs Q2 E2 → d_are_places { nx := fun st => Q2 (.sh .non) st.gs, rt := fun en st => dBack en st fun en' => Q2 en' st.gs, ex := fun ex st => E2 ex st.gs } ⟨initS 3 ds, gs⟩ := by
  rintro _ gs Q E - ⟨d, ns, m, rfl, hd, ⟨hp, hr, hl⟩, h⟩
  have body : ∀ (st0 : DSt), st0 = ⟨[some (.sh d), some (.sh (.int m)), none], gs⟩ → ∀ (Qe : En → DSt → Prop), (∀ n, Qe (.ow (.lst (List.replicate n (.bl true)))) st0) → dLcL [2] (dName 2) dYes (dCall 2 S_is_index (dCons (dVar 2) (dCons (dVar 1) dNil))) Qe (intL ns) [] st0 := by
    rintro _ rfl Qe hq
    refine dLcL_ix (fun i acc st => st = ⟨[some (.sh d), some (.sh (.int m)), none], gs⟩ ∧ acc = List.replicate i (.bl true)) ?_ ?_ _ _ ⟨rfl, rfl⟩
    · rintro acc st ⟨rfl, rfl⟩
      exact hq _
    · rintro i dd acc st K hd' hi ⟨rfl, rfl⟩ k
      unfold intL at hd'
      rw [List.getElem?_map] at hd'
      obtain ⟨n, hn, rfl⟩ := Option.map_eq_some_iff.mp hd'
      obtain ⟨r1, r2⟩ := hr n (List.mem_of_getElem? hn)
      have kk := k _ _ ⟨rfl, rfl⟩
      rw [← rep_snoc] at kk
      simp [dRet, dRetN, dAndV, dOrV, dNotV, dIf, dIsi, dIsi2, dVar, dC, dBin, dChain, dTest, dAnd, dOr, dNot, dCons, dNil, dFrzL, dFrz, dCall, dCallW, dSeq, dNext, dIfS, dNever, dDrop, dAsg, dName, dStore, dPar, dRCons, dRNil, dKeepL, dKeep, dStoreL, dSl, dPart, dNoPart, dopSl, dCB, viewL, view, En.hold, D.ty, dBack, initS, dopAdd, dopI, dopI0, dopB0, dopSub, dopMul, dopDiv, dopMod, dopLt, dopLe, dopGt, dopGe, dopEq, dopNe, dopIn, dopIx, dTupE, dLstE, dopLen, dopAbs, dopInt, dopSum, dopAll, dopMax, dopList, dopTuple, dLc, dLcO, dYes, dRng1, dSeqI, dgNil, dgCons, dgTup, dgUnl, dMt, mtAt, dmAppend, dmPopAt, dmInsert, dgSub, setAt, dBoxIx, dToBox, dgBox, dM1, dopJoin, dopStripC, dLsR, dopPow, dSortSet, dFor, DSt.wipe, wipeS, pick, eqD_int, eqD_str, plain_int, plain_str, plain_bl, plain_non, kb_int_int, kb_int_bool, kb_str_str, kb_list_list, kb_list_tuple, kb_tuple_list, kb_tuple_tuple, List.replicate, box0, box1, box2, box3, S_is_index, r1, r2]
      exact ⟨n, m, ⟨rfl, rfl⟩, by simpa [r1, r2] using kk⟩
  rcases hd with rfl | rfl
  · simp [d_are_places, dRet, dRetN, dAndV, dOrV, dNotV, dIf, dIsi, dIsi2, dVar, dC, dBin, dChain, dTest, dAnd, dOr, dNot, dCons, dNil, dFrzL, dFrz, dCall, dCallW, dSeq, dNext, dIfS, dNever, dDrop, dAsg, dName, dStore, dPar, dRCons, dRNil, dKeepL, dKeep, dStoreL, dSl, dPart, dNoPart, dopSl, dCB, viewL, view, En.hold, D.ty, dBack, initS, dopAdd, dopI, dopI0, dopB0, dopSub, dopMul, dopDiv, dopMod, dopLt, dopLe, dopGt, dopGe, dopEq, dopNe, dopIn, dopIx, dTupE, dLstE, dopLen, dopAbs, dopInt, dopSum, dopAll, dopMax, dopList, dopTuple, dLc, dLcO, dYes, dRng1, dSeqI, dgNil, dgCons, dgTup, dgUnl, dMt, mtAt, dmAppend, dmPopAt, dmInsert, dgSub, setAt, dBoxIx, dToBox, dgBox, dM1, dopJoin, dopStripC, dLsR, dopPow, dSortSet, dFor, DSt.wipe, wipeS, pick, eqD_int, eqD_str, plain_int, plain_str, plain_bl, plain_non, kb_int_int, kb_int_bool, kb_str_str, kb_list_list, kb_list_tuple, kb_tuple_list, kb_tuple_tuple, List.replicate, box0, box1, box2, box3, S_is_list, isSeq]
    refine body _ rfl _ fun n => ?_
    simp [dRet, dRetN, dAndV, dOrV, dNotV, dIf, dIsi, dIsi2, dVar, dC, dBin, dChain, dTest, dAnd, dOr, dNot, dCons, dNil, dFrzL, dFrz, dCall, dCallW, dSeq, dNext, dIfS, dNever, dDrop, dAsg, dName, dStore, dPar, dRCons, dRNil, dKeepL, dKeep, dStoreL, dSl, dPart, dNoPart, dopSl, dCB, viewL, view, En.hold, D.ty, dBack, initS, dopAdd, dopI, dopI0, dopB0, dopSub, dopMul, dopDiv, dopMod, dopLt, dopLe, dopGt, dopGe, dopEq, dopNe, dopIn, dopIx, dTupE, dLstE, dopLen, dopAbs, dopInt, dopSum, dopAll, dopMax, dopList, dopTuple, dLc, dLcO, dYes, dRng1, dSeqI, dgNil, dgCons, dgTup, dgUnl, dMt, mtAt, dmAppend, dmPopAt, dmInsert, dgSub, setAt, dBoxIx, dToBox, dgBox, dM1, dopJoin, dopStripC, dLsR, dopPow, dSortSet, dFor, DSt.wipe, wipeS, pick, eqD_int, eqD_str, plain_int, plain_str, plain_bl, plain_non, kb_int_int, kb_int_bool, kb_str_str, kb_list_list, kb_list_tuple, kb_tuple_list, kb_tuple_tuple, List.replicate, box0, box1, box2, box3, bls_true]
    exact ⟨_, ns, rfl, .inl rfl, hl, hp, by simpa using h⟩
  · simp [d_are_places, dRet, dRetN, dAndV, dOrV, dNotV, dIf, dIsi, dIsi2, dVar, dC, dBin, dChain, dTest, dAnd, dOr, dNot, dCons, dNil, dFrzL, dFrz, dCall, dCallW, dSeq, dNext, dIfS, dNever, dDrop, dAsg, dName, dStore, dPar, dRCons, dRNil, dKeepL, dKeep, dStoreL, dSl, dPart, dNoPart, dopSl, dCB, viewL, view, En.hold, D.ty, dBack, initS, dopAdd, dopI, dopI0, dopB0, dopSub, dopMul, dopDiv, dopMod, dopLt, dopLe, dopGt, dopGe, dopEq, dopNe, dopIn, dopIx, dTupE, dLstE, dopLen, dopAbs, dopInt, dopSum, dopAll, dopMax, dopList, dopTuple, dLc, dLcO, dYes, dRng1, dSeqI, dgNil, dgCons, dgTup, dgUnl, dMt, mtAt, dmAppend, dmPopAt, dmInsert, dgSub, setAt, dBoxIx, dToBox, dgBox, dM1, dopJoin, dopStripC, dLsR, dopPow, dSortSet, dFor, DSt.wipe, wipeS, pick, eqD_int, eqD_str, plain_int, plain_str, plain_bl, plain_non, kb_int_int, kb_int_bool, kb_str_str, kb_list_list, kb_list_tuple, kb_tuple_list, kb_tuple_tuple, List.replicate, box0, box1, box2, box3, S_is_list, isSeq]
    refine body _ rfl _ fun n => ?_
    simp [dRet, dRetN, dAndV, dOrV, dNotV, dIf, dIsi, dIsi2, dVar, dC, dBin, dChain, dTest, dAnd, dOr, dNot, dCons, dNil, dFrzL, dFrz, dCall, dCallW, dSeq, dNext, dIfS, dNever, dDrop, dAsg, dName, dStore, dPar, dRCons, dRNil, dKeepL, dKeep, dStoreL, dSl, dPart, dNoPart, dopSl, dCB, viewL, view, En.hold, D.ty, dBack, initS, dopAdd, dopI, dopI0, dopB0, dopSub, dopMul, dopDiv, dopMod, dopLt, dopLe, dopGt, dopGe, dopEq, dopNe, dopIn, dopIx, dTupE, dLstE, dopLen, dopAbs, dopInt, dopSum, dopAll, dopMax, dopList, dopTuple, dLc, dLcO, dYes, dRng1, dSeqI, dgNil, dgCons, dgTup, dgUnl, dMt, mtAt, dmAppend, dmPopAt, dmInsert, dgSub, setAt, dBoxIx, dToBox, dgBox, dM1, dopJoin, dopStripC, dLsR, dopPow, dSortSet, dFor, DSt.wipe, wipeS, pick, eqD_int, eqD_str, plain_int, plain_str, plain_bl, plain_non, kb_int_int, kb_int_bool, kb_str_str, kb_list_list, kb_list_tuple, kb_tuple_list, kb_tuple_tuple, List.replicate, box0, box1, box2, box3, bls_true]
    exact ⟨_, ns, rfl, .inr rfl, hl, hp, by simpa using h⟩
theorem in_abc (c : Nat) (hc : c = 97 ∨ c = 98 ∨ c = 99) : inStr ⟨#[c]⟩ (cutS "abc" none (some 3)) = true := by
  rcases hc with rfl | rfl | rfl <;> decide +kernel
theorem vc_is_kind : ∀ ds gs Q2 E2, ds.length = 2 → S_is_kind ds gs Q2 E2 → d_is_kind { nx := fun st => Q2 (.sh .non) st.gs, rt := fun en st => dBack en st fun en' => Q2 en' st.gs, ex := fun ex st => E2 ex st.gs } ⟨initS 2 ds, gs⟩ := by
  rintro _ gs Q E - ⟨c, rfl, hc, h⟩
  simp [d_is_kind, dRet, dRetN, dAndV, dOrV, dNotV, dIf, dIsi, dIsi2, dVar, dC, dBin, dChain, dTest, dAnd, dOr, dNot, dCons, dNil, dFrzL, dFrz, dCall, dCallW, dSeq, dNext, dIfS, dNever, dDrop, dAsg, dName, dStore, dPar, dRCons, dRNil, dKeepL, dKeep, dStoreL, dSl, dPart, dNoPart, dopSl, dCB, viewL, view, En.hold, D.ty, dBack, initS, dopAdd, dopI, dopI0, dopB0, dopSub, dopMul, dopDiv, dopMod, dopLt, dopLe, dopGt, dopGe, dopEq, dopNe, dopIn, dopIx, dTupE, dLstE, dopLen, dopAbs, dopInt, dopSum, dopAll, dopMax, dopList, dopTuple, dLc, dLcO, dYes, dRng1, dSeqI, dgNil, dgCons, dgTup, dgUnl, dMt, mtAt, dmAppend, dmPopAt, dmInsert, dgSub, setAt, dBoxIx, dToBox, dgBox, dM1, dopJoin, dopStripC, dLsR, dopPow, dSortSet, dFor, DSt.wipe, wipeS, pick, eqD_int, eqD_str, plain_int, plain_str, plain_bl, plain_non, kb_int_int, kb_int_bool, kb_str_str, kb_list_list, kb_list_tuple, kb_tuple_list, kb_tuple_tuple, List.replicate, box0, box1, box2, box3, ch, in_abc c hc, Str.length]
  exact h
end K02
end VL

set_option Elab.async false
set_option linter.all false
set_option maxRecDepth 100000
set_option maxHeartbeats 4000000
namespace VL
namespace K02
open PySem PySem.Spec PyProof.Rows L2
theorem mk_len (l : List Nat) : (mk l).length = l.length := by unfold mk Str.length; simp
theorem mk_inj {a b : List Nat} (h : mk a = mk b) : a = b := by
  have := congrArg (fun x : Str => x.cps.toList) h
  simpa [mk] using this
theorem mk_append (a b : List Nat) : mk a ++ mk b = mk (a ++ b) := by
  have e : (mk a ++ mk b).cps = (mk a).cps ++ (mk b).cps := rfl
  show Str.mk (mk a ++ mk b).cps = _
  rw [e]; unfold mk; simp
theorem mk_cut (l : List Nat) (lo hi : Option Int) : cutS (mk l) lo hi = mk (cutL l lo hi) := by
  unfold cutS cutL
  rw [mk_len]
  simp [mk]
theorem abc_ch (c : Nat) : (cutS "abc" none (some 3)).cps.contains c = true ↔ c = 97 ∨ c = 98 ∨ c = 99 := by
  have e : cutS "abc" none (some 3) = ⟨#[97, 98, 99]⟩ := by decide +kernel
  rw [e]
  simp
theorem strip_abc (l : List Nat) (h : abc l) : Txt.stripChars (mk l) (cutS "abc" none (some 3)) = "" := by
  unfold Txt.stripChars
  rw [PyProof.Rows.stripBy_eq]
  have e : stripLo (cutS "abc" none (some 3)).cps.contains true (mk l) = l.length := by
    unfold stripLo
    rw [if_pos rfl, show (mk l).cps.toList = l from by simp [mk]]
    have : ∀ l : List Nat, abc l → l.takeWhile (cutS "abc" none (some 3)).cps.contains = l := by
      intro l
      induction l with
      | nil => intro _; rfl
      | cons c l ih =>
        intro h
        rw [List.takeWhile_cons, if_pos ((abc_ch c).mpr (h c List.mem_cons_self)), ih fun d hd => h d (List.mem_cons_of_mem _ hd)]
    rw [this l h]
  rw [e]
  unfold Builtin.Str.strSub
  have z : (mk l).cps.extract l.length (stripHi (cutS "abc" none (some 3)).cps.contains true (mk l) l.length) = #[] := by
    apply Array.eq_empty_of_size_eq_zero
    rw [Array.size_extract]
    have : (mk l).cps.size = l.length := by simp [mk]
    omega
  rw [z]
  decide +kernel
theorem cut_take {α : Type} (l : List α) {p : Int} (h0 : 0 ≤ p) (h1 : p ≤ l.length) : cutL l none (some p) = l.take p.toNat := by
  unfold cutL HT.sIx
  simp only [if_neg (show ¬ p < 0 by omega)]
  rw [show min p.toNat l.length = p.toNat from by omega, Nat.sub_zero, List.drop_zero]
theorem cut_drop {α : Type} (l : List α) {p : Int} (h0 : 0 ≤ p) (h1 : p ≤ l.length) : cutL l (some p) none = l.drop p.toNat := by
  unfold cutL HT.sIx
  simp only [if_neg (show ¬ p < 0 by omega)]
  rw [show min p.toNat l.length = p.toNat from by omega, List.take_of_length_le (by rw [List.length_drop]; exact Nat.le_refl _)]
theorem mk_at (l : List Nat) {p : Int} (h0 : 0 ≤ p) (h1 : p < l.length) : atI (mk l).cps.toList p = some (l.getD p.toNat 0) := by
  refine atI_of h0 ?_
  rw [show (mk l).cps.toList = l from by simp [mk], List.getD_eq_getElem?_getD, List.getElem?_eq_getElem (by omega)]
  rfl
theorem mk1 (c : Nat) : (⟨#[c]⟩ : Str) = mk [c] := rfl
theorem sz : sizeLine = 16777216 := sizeLine_eq
theorem vc_is_string_of : ∀ ds gs Q2 E2, ds.length = 2 → S_is_string_of ds gs Q2 E2 → d_is_string_of { nx := fun st => Q2 (.sh .non) st.gs, rt := fun en st => dBack en st fun en' => Q2 en' st.gs, ex := fun ex st => E2 ex st.gs } ⟨initS 2 ds, gs⟩ := by
  rintro _ gs Q E - ⟨l, rfl, hl, hn, h⟩
  simp [d_is_string_of, dRet, dRetN, dAndV, dOrV, dNotV, dIf, dIsi, dIsi2, dVar, dC, dBin, dChain, dTest, dAnd, dOr, dNot, dCons, dNil, dFrzL, dFrz, dCall, dCallW, dSeq, dNext, dIfS, dNever, dDrop, dAsg, dName, dStore, dPar, dRCons, dRNil, dKeepL, dKeep, dStoreL, dSl, dPart, dNoPart, dopSl, dCB, viewL, view, En.hold, D.ty, dBack, initS, dopAdd, dopI, dopI0, dopB0, dopSub, dopMul, dopDiv, dopMod, dopLt, dopLe, dopGt, dopGe, dopEq, dopNe, dopIn, dopIx, dTupE, dLstE, dopLen, dopAbs, dopInt, dopSum, dopAll, dopMax, dopList, dopTuple, dLc, dLcO, dYes, dRng1, dSeqI, dgNil, dgCons, dgTup, dgUnl, dMt, mtAt, dmAppend, dmPopAt, dmInsert, dgSub, setAt, dBoxIx, dToBox, dgBox, dM1, dopJoin, dopStripC, dLsR, dopPow, dSortSet, dFor, DSt.wipe, wipeS, pick, eqD_int, eqD_str, plain_int, plain_str, plain_bl, plain_non, kb_int_int, kb_int_bool, kb_str_str, kb_list_list, kb_list_tuple, kb_tuple_list, kb_tuple_tuple, List.replicate, box0, box1, box2, box3, strip_abc l hl, h]
theorem vc_check_kinds : ∀ ds gs Q2 E2, ds.length = 1 → S_check_kinds ds gs Q2 E2 → d_check_kinds { nx := fun st => Q2 (.sh .non) st.gs, rt := fun en st => dBack en st fun en' => Q2 en' st.gs, ex := fun ex st => E2 ex st.gs } ⟨initS 1 ds, gs⟩ := by
  rintro _ gs Q E - ⟨rfl, h⟩
  simp [d_check_kinds, d_check_kinds_1t, dRet, dRetN, dAndV, dOrV, dNotV, dIf, dIsi, dIsi2, dVar, dC, dBin, dChain, dTest, dAnd, dOr, dNot, dCons, dNil, dFrzL, dFrz, dCall, dCallW, dSeq, dNext, dIfS, dNever, dDrop, dAsg, dName, dStore, dPar, dRCons, dRNil, dKeepL, dKeep, dStoreL, dSl, dPart, dNoPart, dopSl, dCB, viewL, view, En.hold, D.ty, dBack, initS, dopAdd, dopI, dopI0, dopB0, dopSub, dopMul, dopDiv, dopMod, dopLt, dopLe, dopGt, dopGe, dopEq, dopNe, dopIn, dopIx, dTupE, dLstE, dopLen, dopAbs, dopInt, dopSum, dopAll, dopMax, dopList, dopTuple, dLc, dLcO, dYes, dRng1, dSeqI, dgNil, dgCons, dgTup, dgUnl, dMt, mtAt, dmAppend, dmPopAt, dmInsert, dgSub, setAt, dBoxIx, dToBox, dgBox, dM1, dopJoin, dopStripC, dLsR, dopPow, dSortSet, dFor, DSt.wipe, wipeS, pick, eqD_int, eqD_str, plain_int, plain_str, plain_bl, plain_non, kb_int_int, kb_int_bool, kb_str_str, kb_list_list, kb_list_tuple, kb_tuple_list, kb_tuple_tuple, List.replicate, box0, box1, box2, box3, S_is_within]
  exact ⟨3, 1, 3, ⟨rfl, rfl, rfl⟩, by simpa using h⟩
theorem vc_is_crowd : ∀ ds gs Q2 E2, ds.length = 2 → S_is_crowd ds gs Q2 E2 → d_is_crowd { nx := fun st => Q2 (.sh .non) st.gs, rt := fun en st => dBack en st fun en' => Q2 en' st.gs, ex := fun ex st => E2 ex st.gs } ⟨initS 2 ds, gs⟩ := by
  rintro _ gs Q E - ⟨l, rfl, hl, hn, h⟩
  simp [d_is_crowd, d_is_crowd_1, d_is_crowd_2, dRet, dRetN, dAndV, dOrV, dNotV, dIf, dIsi, dIsi2, dVar, dC, dBin, dChain, dTest, dAnd, dOr, dNot, dCons, dNil, dFrzL, dFrz, dCall, dCallW, dSeq, dNext, dIfS, dNever, dDrop, dAsg, dName, dStore, dPar, dRCons, dRNil, dKeepL, dKeep, dStoreL, dSl, dPart, dNoPart, dopSl, dCB, viewL, view, En.hold, D.ty, dBack, initS, dopAdd, dopI, dopI0, dopB0, dopSub, dopMul, dopDiv, dopMod, dopLt, dopLe, dopGt, dopGe, dopEq, dopNe, dopIn, dopIx, dTupE, dLstE, dopLen, dopAbs, dopInt, dopSum, dopAll, dopMax, dopList, dopTuple, dLc, dLcO, dYes, dRng1, dSeqI, dgNil, dgCons, dgTup, dgUnl, dMt, mtAt, dmAppend, dmPopAt, dmInsert, dgSub, setAt, dBoxIx, dToBox, dgBox, dM1, dopJoin, dopStripC, dLsR, dopPow, dSortSet, dFor, DSt.wipe, wipeS, pick, eqD_int, eqD_str, plain_int, plain_str, plain_bl, plain_non, kb_int_int, kb_int_bool, kb_str_str, kb_list_list, kb_list_tuple, kb_tuple_list, kb_tuple_tuple, List.replicate, box0, box1, box2, box3, S_check_kinds, S_is_string_of, mk_len]
  rw [if_pos (by omega)]
  exact ⟨l, rfl, hl, hn, h⟩
theorem vc_check_crowd : ∀ ds gs Q2 E2, ds.length = 2 → S_check_crowd ds gs Q2 E2 → d_check_crowd { nx := fun st => Q2 (.sh .non) st.gs, rt := fun en st => dBack en st fun en' => Q2 en' st.gs, ex := fun ex st => E2 ex st.gs } ⟨initS 2 ds, gs⟩ := by
  rintro _ gs Q E - ⟨l, rfl, hl, hn, h⟩
  simp [d_check_crowd, d_check_crowd_1t, dRet, dRetN, dAndV, dOrV, dNotV, dIf, dIsi, dIsi2, dVar, dC, dBin, dChain, dTest, dAnd, dOr, dNot, dCons, dNil, dFrzL, dFrz, dCall, dCallW, dSeq, dNext, dIfS, dNever, dDrop, dAsg, dName, dStore, dPar, dRCons, dRNil, dKeepL, dKeep, dStoreL, dSl, dPart, dNoPart, dopSl, dCB, viewL, view, En.hold, D.ty, dBack, initS, dopAdd, dopI, dopI0, dopB0, dopSub, dopMul, dopDiv, dopMod, dopLt, dopLe, dopGt, dopGe, dopEq, dopNe, dopIn, dopIx, dTupE, dLstE, dopLen, dopAbs, dopInt, dopSum, dopAll, dopMax, dopList, dopTuple, dLc, dLcO, dYes, dRng1, dSeqI, dgNil, dgCons, dgTup, dgUnl, dMt, mtAt, dmAppend, dmPopAt, dmInsert, dgSub, setAt, dBoxIx, dToBox, dgBox, dM1, dopJoin, dopStripC, dLsR, dopPow, dSortSet, dFor, DSt.wipe, wipeS, pick, eqD_int, eqD_str, plain_int, plain_str, plain_bl, plain_non, kb_int_int, kb_int_bool, kb_str_str, kb_list_list, kb_list_tuple, kb_tuple_list, kb_tuple_tuple, List.replicate, box0, box1, box2, box3, S_is_crowd]
  exact ⟨l, rfl, hl, hn, h⟩
theorem vc_check_place : ∀ ds gs Q2 E2, ds.length = 3 → S_check_place ds gs Q2 E2 → d_check_place { nx := fun st => Q2 (.sh .non) st.gs, rt := fun en st => dBack en st fun en' => Q2 en' st.gs, ex := fun ex st => E2 ex st.gs } ⟨initS 3 ds, gs⟩ := by
  rintro _ gs Q E - ⟨l, p, first, rfl, h0, h1, h2, h⟩
  simp [d_check_place, d_check_place_1t, dRet, dRetN, dAndV, dOrV, dNotV, dIf, dIsi, dIsi2, dVar, dC, dBin, dChain, dTest, dAnd, dOr, dNot, dCons, dNil, dFrzL, dFrz, dCall, dCallW, dSeq, dNext, dIfS, dNever, dDrop, dAsg, dName, dStore, dPar, dRCons, dRNil, dKeepL, dKeep, dStoreL, dSl, dPart, dNoPart, dopSl, dCB, viewL, view, En.hold, D.ty, dBack, initS, dopAdd, dopI, dopI0, dopB0, dopSub, dopMul, dopDiv, dopMod, dopLt, dopLe, dopGt, dopGe, dopEq, dopNe, dopIn, dopIx, dTupE, dLstE, dopLen, dopAbs, dopInt, dopSum, dopAll, dopMax, dopList, dopTuple, dLc, dLcO, dYes, dRng1, dSeqI, dgNil, dgCons, dgTup, dgUnl, dMt, mtAt, dmAppend, dmPopAt, dmInsert, dgSub, setAt, dBoxIx, dToBox, dgBox, dM1, dopJoin, dopStripC, dLsR, dopPow, dSortSet, dFor, DSt.wipe, wipeS, pick, eqD_int, eqD_str, plain_int, plain_str, plain_bl, plain_non, kb_int_int, kb_int_bool, kb_str_str, kb_list_list, kb_list_tuple, kb_tuple_list, kb_tuple_tuple, List.replicate, box0, box1, box2, box3, S_is_index, mk_len]
  exact ⟨p, l.length, ⟨rfl, rfl⟩, ⟨h0, h2⟩, h1, h⟩
theorem vc_without : ∀ ds gs Q2 E2, ds.length = 2 → S_without ds gs Q2 E2 → d_without { nx := fun st => Q2 (.sh .non) st.gs, rt := fun en st => dBack en st fun en' => Q2 en' st.gs, ex := fun ex st => E2 ex st.gs } ⟨initS 2 ds, gs⟩ := by
  rintro _ gs Q E - ⟨l, p, rfl, hl, hn, h0, h1, h⟩
  simp [d_without, d_without_1, d_without_2, d_without_3, dRet, dRetN, dAndV, dOrV, dNotV, dIf, dIsi, dIsi2, dVar, dC, dBin, dChain, dTest, dAnd, dOr, dNot, dCons, dNil, dFrzL, dFrz, dCall, dCallW, dSeq, dNext, dIfS, dNever, dDrop, dAsg, dName, dStore, dPar, dRCons, dRNil, dKeepL, dKeep, dStoreL, dSl, dPart, dNoPart, dopSl, dCB, viewL, view, En.hold, D.ty, dBack, initS, dopAdd, dopI, dopI0, dopB0, dopSub, dopMul, dopDiv, dopMod, dopLt, dopLe, dopGt, dopGe, dopEq, dopNe, dopIn, dopIx, dTupE, dLstE, dopLen, dopAbs, dopInt, dopSum, dopAll, dopMax, dopList, dopTuple, dLc, dLcO, dYes, dRng1, dSeqI, dgNil, dgCons, dgTup, dgUnl, dMt, mtAt, dmAppend, dmPopAt, dmInsert, dgSub, setAt, dBoxIx, dToBox, dgBox, dM1, dopJoin, dopStripC, dLsR, dopPow, dSortSet, dFor, DSt.wipe, wipeS, pick, eqD_int, eqD_str, plain_int, plain_str, plain_bl, plain_non, kb_int_int, kb_int_bool, kb_str_str, kb_list_list, kb_list_tuple, kb_tuple_list, kb_tuple_tuple, List.replicate, box0, box1, box2, box3, S_check_crowd, S_check_place, mk_cut, mk_append, mk_len]
  refine ⟨l, rfl, hl, hn, l, p, 0, ⟨rfl, rfl, rfl⟩, h0, h0, h1, ?_⟩
  rw [cut_take l h0 (by omega), cut_drop l (by omega) (by omega)]
  refine ⟨by rw [sz, List.length_take, List.length_drop]; omega, ?_⟩
  rw [show (p + 1).toNat = p.toNat + 1 from by omega, ← List.eraseIdx_eq_take_drop_succ]
  exact h
theorem vc_moved_up : ∀ ds gs Q2 E2, ds.length = 2 → S_moved_up ds gs Q2 E2 → d_moved_up { nx := fun st => Q2 (.sh .non) st.gs, rt := fun en st => dBack en st fun en' => Q2 en' st.gs, ex := fun ex st => E2 ex st.gs } ⟨initS 2 ds, gs⟩ := by
  rintro _ gs Q E - ⟨l, p, rfl, hl, hn, h0, h1, h⟩
  simp [d_moved_up, d_moved_up_1, d_moved_up_2, d_moved_up_3, dRet, dRetN, dAndV, dOrV, dNotV, dIf, dIsi, dIsi2, dVar, dC, dBin, dChain, dTest, dAnd, dOr, dNot, dCons, dNil, dFrzL, dFrz, dCall, dCallW, dSeq, dNext, dIfS, dNever, dDrop, dAsg, dName, dStore, dPar, dRCons, dRNil, dKeepL, dKeep, dStoreL, dSl, dPart, dNoPart, dopSl, dCB, viewL, view, En.hold, D.ty, dBack, initS, dopAdd, dopI, dopI0, dopB0, dopSub, dopMul, dopDiv, dopMod, dopLt, dopLe, dopGt, dopGe, dopEq, dopNe, dopIn, dopIx, dTupE, dLstE, dopLen, dopAbs, dopInt, dopSum, dopAll, dopMax, dopList, dopTuple, dLc, dLcO, dYes, dRng1, dSeqI, dgNil, dgCons, dgTup, dgUnl, dMt, mtAt, dmAppend, dmPopAt, dmInsert, dgSub, setAt, dBoxIx, dToBox, dgBox, dM1, dopJoin, dopStripC, dLsR, dopPow, dSortSet, dFor, DSt.wipe, wipeS, pick, eqD_int, eqD_str, plain_int, plain_str, plain_bl, plain_non, kb_int_int, kb_int_bool, kb_str_str, kb_list_list, kb_list_tuple, kb_tuple_list, kb_tuple_tuple, List.replicate, box0, box1, box2, box3, S_check_crowd, S_check_place, mk_cut, mk_append, mk_len]
  refine ⟨l, rfl, hl, hn, l, p, 1, ⟨rfl, rfl, rfl⟩, by omega, h0, h1, ?_⟩
  refine ⟨_, mk_at l (by omega) h1, ?_, _, mk_at l (by omega) (by omega), ?_⟩
  all_goals simp only [mk1, mk_append, mk_len]
  all_goals rw [cut_take l (show 0 ≤ p - 1 by omega) (by omega)]
  · rw [sz, List.length_take]; simp only [List.length_cons, List.length_nil]; omega
  rw [cut_drop l (show 0 ≤ p + 1 by omega) (by omega)]
  simp only [List.length_append, List.length_take, List.length_drop, List.length_cons, List.length_nil, sz]
  refine ⟨by omega, by omega, ?_⟩
  rw [show (p - 1).toNat = p.toNat - 1 from by omega, show (p + 1).toNat = p.toNat + 1 from by omega]
  simpa using h
theorem vc_doubled : ∀ ds gs Q2 E2, ds.length = 2 → S_doubled ds gs Q2 E2 → d_doubled { nx := fun st => Q2 (.sh .non) st.gs, rt := fun en st => dBack en st fun en' => Q2 en' st.gs, ex := fun ex st => E2 ex st.gs } ⟨initS 2 ds, gs⟩ := by
  rintro _ gs Q E - ⟨l, p, rfl, hl, hn, h0, h1, h⟩
  simp [d_doubled, d_doubled_1, d_doubled_2t, d_doubled_2, d_doubled_3, d_doubled_4, dRet, dRetN, dAndV, dOrV, dNotV, dIf, dIsi, dIsi2, dVar, dC, dBin, dChain, dTest, dAnd, dOr, dNot, dCons, dNil, dFrzL, dFrz, dCall, dCallW, dSeq, dNext, dIfS, dNever, dDrop, dAsg, dName, dStore, dPar, dRCons, dRNil, dKeepL, dKeep, dStoreL, dSl, dPart, dNoPart, dopSl, dCB, viewL, view, En.hold, D.ty, dBack, initS, dopAdd, dopI, dopI0, dopB0, dopSub, dopMul, dopDiv, dopMod, dopLt, dopLe, dopGt, dopGe, dopEq, dopNe, dopIn, dopIx, dTupE, dLstE, dopLen, dopAbs, dopInt, dopSum, dopAll, dopMax, dopList, dopTuple, dLc, dLcO, dYes, dRng1, dSeqI, dgNil, dgCons, dgTup, dgUnl, dMt, mtAt, dmAppend, dmPopAt, dmInsert, dgSub, setAt, dBoxIx, dToBox, dgBox, dM1, dopJoin, dopStripC, dLsR, dopPow, dSortSet, dFor, DSt.wipe, wipeS, pick, eqD_int, eqD_str, plain_int, plain_str, plain_bl, plain_non, kb_int_int, kb_int_bool, kb_str_str, kb_list_list, kb_list_tuple, kb_tuple_list, kb_tuple_tuple, List.replicate, box0, box1, box2, box3, S_check_crowd, S_check_place, mk_cut, mk_append, mk_len]
  refine ⟨l, rfl, hl, by omega, by omega, l, p, 0, ⟨rfl, rfl, rfl⟩, h0, h0, h1, ?_⟩
  rw [cut_take l (show 0 ≤ p + 1 by omega) (by omega), cut_drop l h0 (by omega)]
  simp only [List.length_take, List.length_drop, sz]
  refine ⟨by omega, ?_⟩
  rw [show (p + 1).toNat = p.toNat + 1 from by omega]
  exact h
theorem vc_changed : ∀ ds gs Q2 E2, ds.length = 3 → S_changed ds gs Q2 E2 → d_changed { nx := fun st => Q2 (.sh .non) st.gs, rt := fun en st => dBack en st fun en' => Q2 en' st.gs, ex := fun ex st => E2 ex st.gs } ⟨initS 3 ds, gs⟩ := by
  rintro _ gs Q E - ⟨l, p, c, rfl, hc, hl, hn, h0, h1, h⟩
  simp [d_changed, d_changed_1, d_changed_2, d_changed_3t, d_changed_3, d_changed_4, dRet, dRetN, dAndV, dOrV, dNotV, dIf, dIsi, dIsi2, dVar, dC, dBin, dChain, dTest, dAnd, dOr, dNot, dCons, dNil, dFrzL, dFrz, dCall, dCallW, dSeq, dNext, dIfS, dNever, dDrop, dAsg, dName, dStore, dPar, dRCons, dRNil, dKeepL, dKeep, dStoreL, dSl, dPart, dNoPart, dopSl, dCB, viewL, view, En.hold, D.ty, dBack, initS, dopAdd, dopI, dopI0, dopB0, dopSub, dopMul, dopDiv, dopMod, dopLt, dopLe, dopGt, dopGe, dopEq, dopNe, dopIn, dopIx, dTupE, dLstE, dopLen, dopAbs, dopInt, dopSum, dopAll, dopMax, dopList, dopTuple, dLc, dLcO, dYes, dRng1, dSeqI, dgNil, dgCons, dgTup, dgUnl, dMt, mtAt, dmAppend, dmPopAt, dmInsert, dgSub, setAt, dBoxIx, dToBox, dgBox, dM1, dopJoin, dopStripC, dLsR, dopPow, dSortSet, dFor, DSt.wipe, wipeS, pick, eqD_int, eqD_str, plain_int, plain_str, plain_bl, plain_non, kb_int_int, kb_int_bool, kb_str_str, kb_list_list, kb_list_tuple, kb_tuple_list, kb_tuple_tuple, List.replicate, box0, box1, box2, box3, S_check_crowd, S_check_place, S_is_kind, mk_cut, mk_append, mk_len, ch]
  refine ⟨l, rfl, hl, hn, l, p, 0, ⟨rfl, rfl, rfl⟩, h0, h0, h1, hc, ?_⟩
  rw [cut_take l h0 (by omega), cut_drop l (show 0 ≤ p + 1 by omega) (by omega)]
  simp only [mk1, mk_append, mk_len, List.length_append, List.length_take, List.length_drop, List.length_cons, List.length_nil, sz]
  refine ⟨by omega, by omega, ?_⟩
  rw [show (p + 1).toNat = p.toNat + 1 from by omega]
  rw [List.set_eq_take_append_cons_drop, if_pos (by omega)] at h
  simpa using h
theorem ch_strs (xs : List Nat) : strsOf (xs.map ch) = some (xs.map fun c => mk [c]) := by
  induction xs with
  | nil => rfl
  | cons c xs ih =>
    rw [List.map_cons, List.map_cons]
    unfold ch strsOf
    show (strsOf (xs.map ch)).map _ = _
    rw [ih]; rfl
theorem join_mk : ∀ xs : List Nat, Str.join "" (xs.map fun c => mk [c]) = mk xs
  | [] => by decide +kernel
  | [c] => rfl
  | c :: d :: xs => by
    show mk [c] ++ "" ++ Str.join "" ((d :: xs).map fun c => mk [c]) = _
    rw [join_mk (d :: xs), show ("" : Str) = mk [] from by decide +kernel, mk_append, mk_append]; rfl
theorem join_fit (xs : List Nat) : ((xs.map fun c => mk [c]).map (·.length)).sum + (xs.map fun c => mk [c]).length * ("" : Str).length = xs.length := by
  have e : ("" : Str).length = 0 := by decide +kernel
  rw [e, Nat.mul_zero, Nat.add_zero, List.map_map]
  induction xs with
  | nil => rfl
  | cons c xs ih => rw [List.map_cons, List.sum_cons, ih]; simp [mk_len]; omega
/-- rows of letters at places -/
theorem mat_take (l : List Nat) (ns : List Int) (i : Nat) (n : Int) (h : ns[i]? = some n) : (mat l (ns.take i)).map ch ++ [ch (l.getD n.toNat 0)] = (mat l (ns.take (i + 1))).map ch := by
  rw [List.take_add_one, h]
  simp [mat]
theorem vc_part : ∀ ds gs Q2 E2, ds.length = 2 → S_part ds gs Q2 E2 → d_part { nx := fun st => Q2 (.sh .non) st.gs, rt := fun en st => dBack en st fun en' => Q2 en' st.gs, ex := fun ex st => E2 ex st.gs } ⟨initS 3 ds, gs⟩ := by
  rintro _ gs Q E - ⟨l, d, ns, rfl, hd, hl, hn, ⟨hp, hr, hz⟩, h⟩
  have body : ∀ (st0 : DSt), st0 = ⟨[some (.sh (.str (mk l))), some (.sh d), none], gs⟩ → ∀ (Qe : En → DSt → Prop), Qe (.ow (.lst ((mat l ns).map ch))) st0 → dLcL [2] (dName 2) dYes (dBin dopIx (dVar 0) (dVar 2)) Qe (intL ns) [] st0 := by
    rintro _ rfl Qe hq
    refine dLcL_ix (fun i acc st => st = ⟨[some (.sh (.str (mk l))), some (.sh d), none], gs⟩ ∧ acc = (mat l (ns.take i)).map ch) ?_ ?_ _ _ ⟨rfl, by simp [mat]⟩
    · rintro acc st ⟨rfl, rfl⟩
      rw [List.take_of_length_le (by simp [intL])]
      exact hq
    · rintro i dd acc st K hd' hi ⟨rfl, rfl⟩ k
      unfold intL at hd'
      rw [List.getElem?_map] at hd'
      obtain ⟨n, hn', rfl⟩ := Option.map_eq_some_iff.mp hd'
      obtain ⟨r1, r2⟩ := hr n (List.mem_of_getElem? hn')
      have kk := k _ _ ⟨rfl, rfl⟩
      rw [← mat_take l ns i n hn'] at kk
      simp [dRet, dRetN, dAndV, dOrV, dNotV, dIf, dIsi, dIsi2, dVar, dC, dBin, dChain, dTest, dAnd, dOr, dNot, dCons, dNil, dFrzL, dFrz, dCall, dCallW, dSeq, dNext, dIfS, dNever, dDrop, dAsg, dName, dStore, dPar, dRCons, dRNil, dKeepL, dKeep, dStoreL, dSl, dPart, dNoPart, dopSl, dCB, viewL, view, En.hold, D.ty, dBack, initS, dopAdd, dopI, dopI0, dopB0, dopSub, dopMul, dopDiv, dopMod, dopLt, dopLe, dopGt, dopGe, dopEq, dopNe, dopIn, dopIx, dTupE, dLstE, dopLen, dopAbs, dopInt, dopSum, dopAll, dopMax, dopList, dopTuple, dLc, dLcO, dYes, dRng1, dSeqI, dgNil, dgCons, dgTup, dgUnl, dMt, mtAt, dmAppend, dmPopAt, dmInsert, dgSub, setAt, dBoxIx, dToBox, dgBox, dM1, dopJoin, dopStripC, dLsR, dopPow, dSortSet, dFor, DSt.wipe, wipeS, pick, eqD_int, eqD_str, plain_int, plain_str, plain_bl, plain_non, kb_int_int, kb_int_bool, kb_str_str, kb_list_list, kb_list_tuple, kb_tuple_list, kb_tuple_tuple, List.replicate, box0, box1, box2, box3, mk_at l r1 r2]
      exact kk
  rcases hd with rfl | rfl
  all_goals
    simp [d_part, d_part_1, d_part_2t, d_part_2, d_part_3, dRet, dRetN, dAndV, dOrV, dNotV, dIf, dIsi, dIsi2, dVar, dC, dBin, dChain, dTest, dAnd, dOr, dNot, dCons, dNil, dFrzL, dFrz, dCall, dCallW, dSeq, dNext, dIfS, dNever, dDrop, dAsg, dName, dStore, dPar, dRCons, dRNil, dKeepL, dKeep, dStoreL, dSl, dPart, dNoPart, dopSl, dCB, viewL, view, En.hold, D.ty, dBack, initS, dopAdd, dopI, dopI0, dopB0, dopSub, dopMul, dopDiv, dopMod, dopLt, dopLe, dopGt, dopGe, dopEq, dopNe, dopIn, dopIx, dTupE, dLstE, dopLen, dopAbs, dopInt, dopSum, dopAll, dopMax, dopList, dopTuple, dLc, dLcO, dYes, dRng1, dSeqI, dgNil, dgCons, dgTup, dgUnl, dMt, mtAt, dmAppend, dmPopAt, dmInsert, dgSub, setAt, dBoxIx, dToBox, dgBox, dM1, dopJoin, dopStripC, dLsR, dopPow, dSortSet, dFor, DSt.wipe, wipeS, pick, eqD_int, eqD_str, plain_int, plain_str, plain_bl, plain_non, kb_int_int, kb_int_bool, kb_str_str, kb_list_list, kb_list_tuple, kb_tuple_list, kb_tuple_tuple, List.replicate, box0, box1, box2, box3, S_check_crowd, S_are_places, mk_len]
    refine ⟨l, rfl, hl, hn, _, ns, l.length, ⟨rfl, rfl⟩, by first | exact .inl rfl | exact .inr rfl, ⟨hp, hr, hz⟩, ?_⟩
    refine body _ rfl _ ?_
    simp [dRet, dRetN, dAndV, dOrV, dNotV, dIf, dIsi, dIsi2, dVar, dC, dBin, dChain, dTest, dAnd, dOr, dNot, dCons, dNil, dFrzL, dFrz, dCall, dCallW, dSeq, dNext, dIfS, dNever, dDrop, dAsg, dName, dStore, dPar, dRCons, dRNil, dKeepL, dKeep, dStoreL, dSl, dPart, dNoPart, dopSl, dCB, viewL, view, En.hold, D.ty, dBack, initS, dopAdd, dopI, dopI0, dopB0, dopSub, dopMul, dopDiv, dopMod, dopLt, dopLe, dopGt, dopGe, dopEq, dopNe, dopIn, dopIx, dTupE, dLstE, dopLen, dopAbs, dopInt, dopSum, dopAll, dopMax, dopList, dopTuple, dLc, dLcO, dYes, dRng1, dSeqI, dgNil, dgCons, dgTup, dgUnl, dMt, mtAt, dmAppend, dmPopAt, dmInsert, dgSub, setAt, dBoxIx, dToBox, dgBox, dM1, dopJoin, dopStripC, dLsR, dopPow, dSortSet, dFor, DSt.wipe, wipeS, pick, eqD_int, eqD_str, plain_int, plain_str, plain_bl, plain_non, kb_int_int, kb_int_bool, kb_str_str, kb_list_list, kb_list_tuple, kb_tuple_list, kb_tuple_tuple, List.replicate, box0, box1, box2, box3, ch_strs, join_mk]
    have e := join_fit (mat l ns)
    have e2 : (mat l ns).length = ns.length := by simp [mat]
    simp at e
    refine ⟨?_, h⟩
    omega
end K02
end VL

set_option Elab.async false
set_option linter.all false
set_option maxRecDepth 100000
set_option maxHeartbeats 4000000
namespace VL
namespace K02
open PySem PySem.Spec PyProof.Rows L2
theorem vc__law_cell : ∀ ds gs Q2 E2, ds.length = 2 → S__law_cell ds gs Q2 E2 → d__law_cell { nx := fun st => Q2 (.sh .non) st.gs, rt := fun en st => dBack en st fun en' => Q2 en' st.gs, ex := fun ex st => E2 ex st.gs } ⟨initS 2 ds, gs⟩ := by
  rintro _ gs Q E - ⟨ns, k, rfl, h0, h1, h⟩
  simp [d__law_cell, dRet, dRetN, dAndV, dOrV, dNotV, dIf, dIsi, dIsi2, dVar, dC, dBin, dChain, dTest, dAnd, dOr, dNot, dCons, dNil, dFrzL, dFrz, dCall, dCallW, dSeq, dNext, dIfS, dNever, dDrop, dAsg, dName, dStore, dPar, dRCons, dRNil, dKeepL, dKeep, dStoreL, dSl, dPart, dNoPart, dopSl, dCB, viewL, view, En.hold, D.ty, dBack, initS, dopAdd, dopI, dopI0, dopB0, dopSub, dopMul, dopDiv, dopMod, dopLt, dopLe, dopGt, dopGe, dopEq, dopNe, dopIn, dopIx, dTupE, dLstE, dopLen, dopAbs, dopInt, dopSum, dopAll, dopMax, dopList, dopTuple, dLc, dLcO, dYes, dRng1, dSeqI, dgNil, dgCons, dgTup, dgUnl, dMt, mtAt, dmAppend, dmPopAt, dmInsert, dgSub, setAt, dBoxIx, dToBox, dgBox, dM1, dopJoin, dopStripC, dLsR, dopPow, dSortSet, dFor, DSt.wipe, wipeS, pick, eqD_int, eqD_str, plain_int, plain_str, plain_bl, plain_non, kb_int_int, kb_int_bool, kb_str_str, kb_list_list, kb_list_tuple, kb_tuple_list, kb_tuple_tuple, List.replicate, box0, box1, box2, box3]
  split
  · rename_i c
    have hk : k.toNat < ns.length := by omega
    exact ⟨_, atI_of h0 (List.getElem?_eq_getElem hk), h _⟩
  · refine ⟨mul_ok (by omega) (by omega), _, intsOf_map _, h _⟩
theorem vc__law_box : ∀ ds gs Q2 E2, ds.length = 1 → S__law_box ds gs Q2 E2 → d__law_box { nx := fun st => Q2 (.sh .non) st.gs, rt := fun en st => dBack en st fun en' => Q2 en' st.gs, ex := fun ex st => E2 ex st.gs } ⟨initS 1 ds, gs⟩ := by
  rintro _ gs Q E - ⟨z, rfl, h⟩
  simp [d__law_box, dRet, dRetN, dAndV, dOrV, dNotV, dIf, dIsi, dIsi2, dVar, dC, dBin, dChain, dTest, dAnd, dOr, dNot, dCons, dNil, dFrzL, dFrz, dCall, dCallW, dSeq, dNext, dIfS, dNever, dDrop, dAsg, dName, dStore, dPar, dRCons, dRNil, dKeepL, dKeep, dStoreL, dSl, dPart, dNoPart, dopSl, dCB, viewL, view, En.hold, D.ty, dBack, initS, dopAdd, dopI, dopI0, dopB0, dopSub, dopMul, dopDiv, dopMod, dopLt, dopLe, dopGt, dopGe, dopEq, dopNe, dopIn, dopIx, dTupE, dLstE, dopLen, dopAbs, dopInt, dopSum, dopAll, dopMax, dopList, dopTuple, dLc, dLcO, dYes, dRng1, dSeqI, dgNil, dgCons, dgTup, dgUnl, dMt, mtAt, dmAppend, dmPopAt, dmInsert, dgSub, setAt, dBoxIx, dToBox, dgBox, dM1, dopJoin, dopStripC, dLsR, dopPow, dSortSet, dFor, DSt.wipe, wipeS, pick, eqD_int, eqD_str, plain_int, plain_str, plain_bl, plain_non, kb_int_int, kb_int_bool, kb_str_str, kb_list_list, kb_list_tuple, kb_tuple_list, kb_tuple_tuple, List.replicate, box0, box1, box2, box3]
  refine ⟨pow_ok (by omega) (by omega) (by omega), by decide, ⟨if z < 0 then -z else z, ?_⟩, h⟩
  have hz : 0 ≤ (if z < 0 then -z else z) := by split <;> omega
  generalize (if z < 0 then -z else z) = y at hz
  have m1 := Int.emod_nonneg y (show (2147483629 : Int) ≠ 0 by decide)
  have m2 := Int.emod_lt_of_pos y (show (0 : Int) < 2147483629 by decide)
  by_cases c : y < 1000000000000000000
  · exact .inl ⟨_, 0, ⟨rfl, c, rfl, rfl⟩, hz, m1, by omega, by omega, by omega⟩
  · exact .inr ⟨_, 0, ⟨rfl, by omega, rfl, rfl⟩, hz, m1, by omega, by omega, by omega⟩
theorem vc__law_take : ∀ ds gs Q2 E2, ds.length = 2 → S__law_take ds gs Q2 E2 → d__law_take { nx := fun st => Q2 (.sh .non) st.gs, rt := fun en st => dBack en st fun en' => Q2 en' st.gs, ex := fun ex st => E2 ex st.gs } ⟨initS 4 ds, gs⟩ := by
  rintro _ gs Q E - ⟨m, rfl, h0, h1, hT, h⟩
  have kk : ∀ r : Int, Q (.sh (.int (r % m))) { mu := gs.mu, T := gs.T + 1 } := fun r => h _ _ (Int.emod_nonneg _ (by omega)) (Int.emod_lt_of_pos _ h0) ⟨rfl, Nat.le_succ _, Nat.le_refl _⟩
  have tail : ∀ n : Int, 0 ≤ n → n < 2147483648 → ∀ n1 : Int, 0 ≤ n1 → n1 ≤ (gs.T : Int) + 1 → CMulW 15485867 n1 ∧ CPowW (n + 15485867 * n1 + 179425033) 5 ∧ CMulW ((n + 15485867 * n1 + 179425033) ^ 5 % 2147483647) 48271 ∧
      ∀ n2 : Int, 0 ≤ n2 → n2 ≤ (gs.T : Int) + 1 → CMulW 7919 n2 ∧ CPowW ((n + 15485867 * n1 + 179425033) ^ 5 % 2147483647 * 48271 + 7919 * n2) 3 ∧
        CDiv (((n + 15485867 * n1 + 179425033) ^ 5 % 2147483647 * 48271 + 7919 * n2) ^ 3 % 2147483587) 64 ∧ 0 < m ∧
          Q (.sh (.int (((n + 15485867 * n1 + 179425033) ^ 5 % 2147483647 * 48271 + 7919 * n2) ^ 3 % 2147483587 / 64 % m))) { mu := gs.mu, T := gs.T + 1 } := by
    intro n b1 b2 n1 c1 c2
    have e1 := Int.emod_nonneg ((n + 15485867 * n1 + 179425033) ^ 5) (show (2147483647 : Int) ≠ 0 by decide)
    have e2 := Int.emod_lt_of_pos ((n + 15485867 * n1 + 179425033) ^ 5) (show (0 : Int) < 2147483647 by decide)
    generalize hx : (n + 15485867 * n1 + 179425033) ^ 5 % 2147483647 = x at e1 e2
    refine ⟨mul_ok (by omega) (by omega), pow_ok (by omega) (by omega) (by omega), mul_ok (by omega) (by omega), fun n2 d1 d2 => ?_⟩
    exact ⟨mul_ok (by omega) (by omega), pow_ok (by omega) (by omega) (by omega), ⟨by decide, by decide⟩, h0, kk _⟩
  simp [d__law_take, d__law_take_1t_1, d__law_take_1t_2, d__law_take_1t_3, d__law_take_1t, d__law_take_1, d__law_take_2, d__law_take_3, d__law_take_4, dRet, dRetN, dAndV, dOrV, dNotV, dIf, dIsi, dIsi2, dVar, dC, dBin, dChain, dTest, dAnd, dOr, dNot, dCons, dNil, dFrzL, dFrz, dCall, dCallW, dSeq, dNext, dIfS, dNever, dDrop, dAsg, dName, dStore, dPar, dRCons, dRNil, dKeepL, dKeep, dStoreL, dSl, dPart, dNoPart, dopSl, dCB, viewL, view, En.hold, D.ty, dBack, initS, dopAdd, dopI, dopI0, dopB0, dopSub, dopMul, dopDiv, dopMod, dopLt, dopLe, dopGt, dopGe, dopEq, dopNe, dopIn, dopIx, dTupE, dLstE, dopLen, dopAbs, dopInt, dopSum, dopAll, dopMax, dopList, dopTuple, dLc, dLcO, dYes, dRng1, dSeqI, dgNil, dgCons, dgTup, dgUnl, dMt, mtAt, dmAppend, dmPopAt, dmInsert, dgSub, setAt, dBoxIx, dToBox, dgBox, dM1, dopJoin, dopStripC, dLsR, dopPow, dSortSet, dFor, DSt.wipe, wipeS, pick, eqD_int, eqD_str, plain_int, plain_str, plain_bl, plain_non, kb_int_int, kb_int_bool, kb_str_str, kb_list_list, kb_list_tuple, kb_tuple_list, kb_tuple_tuple, List.replicate, box0, box1, box2, box3]
  refine ⟨fun n b1 b2 => ⟨by omega, b2, tail⟩, fun n b1 => ?_⟩
  split
  · intro n2 b2
    refine ⟨h0, fun n3 b3 => ⟨⟨h0, by omega⟩, Int.ediv_nonneg b3 (by omega), ?_⟩⟩
    exact h _ gs (Int.emod_nonneg _ (by omega)) (Int.emod_lt_of_pos _ h0) ⟨rfl, Nat.le_refl _, Nat.le_succ _⟩
  · intro n2 b2 b3
    exact ⟨by omega, b3, tail⟩
theorem later.trans {a b c : GSt} {m n : Nat} (h : later a m b) (k : later b n c) : later a (m + n) c := ⟨k.1.trans h.1, Nat.le_trans h.2.1 k.2.1, by have := h.2.2; have := k.2.2; omega⟩
theorem later.mono {a b : GSt} {m n : Nat} (h : later a m b) (k : m ≤ n) : later a n b := ⟨h.1, h.2.1, by have := h.2.2; omega⟩
theorem later.refl (a : GSt) : later a 0 a := ⟨rfl, Nat.le_refl _, Nat.le_refl _⟩
theorem vc__law_place : ∀ ds gs Q2 E2, ds.length = 3 → S__law_place ds gs Q2 E2 → d__law_place { nx := fun st => Q2 (.sh .non) st.gs, rt := fun en st => dBack en st fun en' => Q2 en' st.gs, ex := fun ex st => E2 ex st.gs } ⟨initS 3 ds, gs⟩ := by
  rintro _ gs Q E - ⟨low, m, rfl, h0, h1, h2, hT, h⟩
  simp [d__law_place, dRet, dRetN, dAndV, dOrV, dNotV, dIf, dIsi, dIsi2, dVar, dC, dBin, dChain, dTest, dAnd, dOr, dNot, dCons, dNil, dFrzL, dFrz, dCall, dCallW, dSeq, dNext, dIfS, dNever, dDrop, dAsg, dName, dStore, dPar, dRCons, dRNil, dKeepL, dKeep, dStoreL, dSl, dPart, dNoPart, dopSl, dCB, viewL, view, En.hold, D.ty, dBack, initS, dopAdd, dopI, dopI0, dopB0, dopSub, dopMul, dopDiv, dopMod, dopLt, dopLe, dopGt, dopGe, dopEq, dopNe, dopIn, dopIx, dTupE, dLstE, dopLen, dopAbs, dopInt, dopSum, dopAll, dopMax, dopList, dopTuple, dLc, dLcO, dYes, dRng1, dSeqI, dgNil, dgCons, dgTup, dgUnl, dMt, mtAt, dmAppend, dmPopAt, dmInsert, dgSub, setAt, dBoxIx, dToBox, dgBox, dM1, dopJoin, dopStripC, dLsR, dopPow, dSortSet, dFor, DSt.wipe, wipeS, pick, eqD_int, eqD_str, plain_int, plain_str, plain_bl, plain_non, kb_int_int, kb_int_bool, kb_str_str, kb_list_list, kb_list_tuple, kb_tuple_list, kb_tuple_tuple, List.replicate, box0, box1, box2, box3, S__law_take]
  refine ⟨h1, by omega, by omega, fun r g1 r1 r2 l1 => ⟨by decide, by have := l1.2.2; omega, fun q g2 q1 q2 l2 => ?_⟩⟩
  have fin : ∀ z : Int, low ≤ z → z < m → Q (.sh (.int z)) g2 := fun z z1 z2 => h z g2 z1 z2 ((l1.trans l2).mono (by omega))
  have c : q = 0 ∨ q = 1 ∨ q = 2 := by omega
  rcases c with rfl | rfl | rfl
  · exact ⟨_, rfl, fin _ (by omega) (by omega)⟩
  · exact ⟨_, rfl, fin _ (by omega) (by omega)⟩
  · exact ⟨_, rfl, fin _ (by omega) (by omega)⟩
theorem ch_at {l : List Nat} {i : Nat} (hi : i < l.length) : atI (l.map ch) (i : Int) = some (ch (l.getD i 0)) := by
  refine atI_nat' ?_
  rw [List.getElem?_map, List.getD_eq_getElem?_getD, List.getElem?_eq_getElem hi]; rfl
theorem eqv_nil : eqD (.lst []) (.lst []) = true := by simp [eqD_lst, pyL, PyData.eqvAll]
theorem vc__law_is : ∀ ds gs Q2 E2, ds.length = 2 → S__law_is ds gs Q2 E2 → d__law_is { nx := fun st => Q2 (.sh .non) st.gs, rt := fun en st => dBack en st fun en' => Q2 en' st.gs, ex := fun ex st => E2 ex st.gs } ⟨initS 3 ds, gs⟩ := by
  rintro _ gs Q E - ⟨l, rfl, hl, hn, h⟩
  simp [d__law_is, d__law_is_1t, d__law_is_1, d__law_is_2, dRet, dRetN, dAndV, dOrV, dNotV, dIf, dIsi, dIsi2, dVar, dC, dBin, dChain, dTest, dAnd, dOr, dNot, dCons, dNil, dFrzL, dFrz, dCall, dCallW, dSeq, dNext, dIfS, dNever, dDrop, dAsg, dName, dStore, dPar, dRCons, dRNil, dKeepL, dKeep, dStoreL, dSl, dPart, dNoPart, dopSl, dCB, viewL, view, En.hold, D.ty, dBack, initS, dopAdd, dopI, dopI0, dopB0, dopSub, dopMul, dopDiv, dopMod, dopLt, dopLe, dopGt, dopGe, dopEq, dopNe, dopIn, dopIx, dTupE, dLstE, dopLen, dopAbs, dopInt, dopSum, dopAll, dopMax, dopList, dopTuple, dLc, dLcO, dYes, dRng1, dSeqI, dgNil, dgCons, dgTup, dgUnl, dMt, mtAt, dmAppend, dmPopAt, dmInsert, dgSub, setAt, dBoxIx, dToBox, dgBox, dM1, dopJoin, dopStripC, dLsR, dopPow, dSortSet, dFor, DSt.wipe, wipeS, pick, eqD_int, eqD_str, plain_int, plain_str, plain_bl, plain_non, kb_int_int, kb_int_bool, kb_str_str, kb_list_list, kb_list_tuple, kb_tuple_list, kb_tuple_tuple, List.replicate, box0, box1, box2, box3, mk_len]
  refine ⟨by omega, ?_⟩
  refine dLcL_ix (fun i acc st => st = ⟨[some (.sh (.str (mk l))), some (.sh (.lst (l.map ch))), none], gs⟩ ∧ acc = []) ?_ ?_ _ _ ⟨rfl, rfl⟩
  · rintro acc st ⟨rfl, rfl⟩
    simp [eqv_nil, D.plain, plainL, h]
  · rintro i dd acc st K hd' hi ⟨rfl, rfl⟩ k
    obtain ⟨rfl, hi⟩ := range0_get hd'
    have kk := k _ _ ⟨rfl, rfl⟩
    have a1 : atI (mk l).cps.toList (i : Int) = some (l.getD i 0) := mk_at l (by omega) (by omega)
    simp [dRet, dRetN, dAndV, dOrV, dNotV, dIf, dIsi, dIsi2, dVar, dC, dBin, dChain, dTest, dAnd, dOr, dNot, dCons, dNil, dFrzL, dFrz, dCall, dCallW, dSeq, dNext, dIfS, dNever, dDrop, dAsg, dName, dStore, dPar, dRCons, dRNil, dKeepL, dKeep, dStoreL, dSl, dPart, dNoPart, dopSl, dCB, viewL, view, En.hold, D.ty, dBack, initS, dopAdd, dopI, dopI0, dopB0, dopSub, dopMul, dopDiv, dopMod, dopLt, dopLe, dopGt, dopGe, dopEq, dopNe, dopIn, dopIx, dTupE, dLstE, dopLen, dopAbs, dopInt, dopSum, dopAll, dopMax, dopList, dopTuple, dLc, dLcO, dYes, dRng1, dSeqI, dgNil, dgCons, dgTup, dgUnl, dMt, mtAt, dmAppend, dmPopAt, dmInsert, dgSub, setAt, dBoxIx, dToBox, dgBox, dM1, dopJoin, dopStripC, dLsR, dopPow, dSortSet, dFor, DSt.wipe, wipeS, pick, eqD_int, eqD_str, plain_int, plain_str, plain_bl, plain_non, kb_int_int, kb_int_bool, kb_str_str, kb_list_list, kb_list_tuple, kb_tuple_list, kb_tuple_tuple, List.replicate, box0, box1, box2, box3, a1, ch_at hi, ch]
    exact kk
end K02
end VL

set_option Elab.async false
set_option linter.all false
set_option maxRecDepth 100000
set_option maxHeartbeats 1000000
namespace VL
namespace K02
open PySem PySem.Spec PyProof.Rows L2
theorem at_abc {r : Int} (h0 : 0 ≤ r) (h1 : r < 3) : ∃ c, atI (Str.ofString "abc").cps.toList r = some c ∧ (c = 97 ∨ c = 98 ∨ c = 99) := by
  have e : (Str.ofString "abc").cps.toList = [97, 98, 99] := by decide +kernel
  rw [e]
  have c : r = 0 ∨ r = 1 ∨ r = 2 := by omega
  rcases c with rfl | rfl | rfl
  · exact ⟨97, rfl, .inl rfl⟩
  · exact ⟨98, rfl, .inr (.inl rfl)⟩
  · exact ⟨99, rfl, .inr (.inr rfl)⟩
theorem abc_snoc {l : List Nat} {c : Nat} (h : abc l) (hc : c = 97 ∨ c = 98 ∨ c = 99) : abc (l ++ [c]) := fun d hd => by
  rcases List.mem_append.mp hd with z | z
  · exact h d z
  · rw [List.mem_singleton.mp z]; exact hc
theorem begun1 (N : DEnds) (b : Bool) (gs : GSt) (hT : gs.T ≤ 900000) (k : ∀ l g, abc l → 1 ≤ l.length → l.length ≤ 11 → later gs 12 g → N.nx ⟨[some (.sh .box), some (.sh (.bl b)), some (.ow (.lst (l.map ch))), none, none], g⟩) :
    d__law_begun_1 N ⟨[some (.sh .box), some (.sh (.bl b)), none, none, none], gs⟩ := by
  simp [d__law_begun_1, dRet, dRetN, dAndV, dOrV, dNotV, dIf, dIsi, dIsi2, dVar, dC, dBin, dChain, dTest, dAnd, dOr, dNot, dCons, dNil, dFrzL, dFrz, dCall, dCallW, dSeq, dNext, dIfS, dNever, dDrop, dAsg, dName, dStore, dPar, dRCons, dRNil, dKeepL, dKeep, dStoreL, dSl, dPart, dNoPart, dopSl, dCB, viewL, view, En.hold, D.ty, dBack, initS, dopAdd, dopI, dopI0, dopB0, dopSub, dopMul, dopDiv, dopMod, dopLt, dopLe, dopGt, dopGe, dopEq, dopNe, dopIn, dopIx, dTupE, dLstE, dopLen, dopAbs, dopInt, dopSum, dopAll, dopMax, dopList, dopTuple, dLc, dLcO, dYes, dRng1, dSeqI, dgNil, dgCons, dgTup, dgUnl, dMt, mtAt, dmAppend, dmPopAt, dmInsert, dgSub, setAt, dBoxIx, dToBox, dgBox, dM1, dopJoin, dopStripC, dLsR, dopPow, dSortSet, dFor, DSt.wipe, wipeS, pick, eqD_int, eqD_str, plain_int, plain_str, plain_bl, plain_non, kb_int_int, kb_int_bool, kb_str_str, kb_list_list, kb_list_tuple, kb_tuple_list, kb_tuple_tuple, List.replicate, box0, box1, box2, box3, S__law_take]
  refine ⟨by omega, fun r g1 r1 r2 l1 => ⟨by omega, by omega, ?_⟩⟩
  refine dLcL_ix (fun i acc st => ∃ l g2, st = ⟨[some (.sh .box), some (.sh (.bl b)), none, none, none], g2⟩ ∧ acc = l.map ch ∧ l.length = i ∧ abc l ∧ later g1 i g2) ?_ ?_ _ _ ⟨[], g1, rfl, rfl, rfl, by simp [abc], later.refl _⟩
  · rintro acc st ⟨l, g2, rfl, rfl, e, hl, l2⟩
    rw [rangeD_length] at e l2
    simp [dRet, dRetN, dAndV, dOrV, dNotV, dIf, dIsi, dIsi2, dVar, dC, dBin, dChain, dTest, dAnd, dOr, dNot, dCons, dNil, dFrzL, dFrz, dCall, dCallW, dSeq, dNext, dIfS, dNever, dDrop, dAsg, dName, dStore, dPar, dRCons, dRNil, dKeepL, dKeep, dStoreL, dSl, dPart, dNoPart, dopSl, dCB, viewL, view, En.hold, D.ty, dBack, initS, dopAdd, dopI, dopI0, dopB0, dopSub, dopMul, dopDiv, dopMod, dopLt, dopLe, dopGt, dopGe, dopEq, dopNe, dopIn, dopIx, dTupE, dLstE, dopLen, dopAbs, dopInt, dopSum, dopAll, dopMax, dopList, dopTuple, dLc, dLcO, dYes, dRng1, dSeqI, dgNil, dgCons, dgTup, dgUnl, dMt, mtAt, dmAppend, dmPopAt, dmInsert, dgSub, setAt, dBoxIx, dToBox, dgBox, dM1, dopJoin, dopStripC, dLsR, dopPow, dSortSet, dFor, DSt.wipe, wipeS, pick, eqD_int, eqD_str, plain_int, plain_str, plain_bl, plain_non, kb_int_int, kb_int_bool, kb_str_str, kb_list_list, kb_list_tuple, kb_tuple_list, kb_tuple_tuple, List.replicate, box0, box1, box2, box3]
    exact k l g2 hl (by omega) (by omega) ((l1.trans l2).mono (by omega))
  · rintro i dd acc st K hd' hi ⟨l, g2, rfl, rfl, rfl, hl, l2⟩ k
    obtain ⟨rfl, hi⟩ := range0_get hd'
    have t1 := l1.2.2
    have t2 := l2.2.2
    simp [dRet, dRetN, dAndV, dOrV, dNotV, dIf, dIsi, dIsi2, dVar, dC, dBin, dChain, dTest, dAnd, dOr, dNot, dCons, dNil, dFrzL, dFrz, dCall, dCallW, dSeq, dNext, dIfS, dNever, dDrop, dAsg, dName, dStore, dPar, dRCons, dRNil, dKeepL, dKeep, dStoreL, dSl, dPart, dNoPart, dopSl, dCB, viewL, view, En.hold, D.ty, dBack, initS, dopAdd, dopI, dopI0, dopB0, dopSub, dopMul, dopDiv, dopMod, dopLt, dopLe, dopGt, dopGe, dopEq, dopNe, dopIn, dopIx, dTupE, dLstE, dopLen, dopAbs, dopInt, dopSum, dopAll, dopMax, dopList, dopTuple, dLc, dLcO, dYes, dRng1, dSeqI, dgNil, dgCons, dgTup, dgUnl, dMt, mtAt, dmAppend, dmPopAt, dmInsert, dgSub, setAt, dBoxIx, dToBox, dgBox, dM1, dopJoin, dopStripC, dLsR, dopPow, dSortSet, dFor, DSt.wipe, wipeS, pick, eqD_int, eqD_str, plain_int, plain_str, plain_bl, plain_non, kb_int_int, kb_int_bool, kb_str_str, kb_list_list, kb_list_tuple, kb_tuple_list, kb_tuple_tuple, List.replicate, box0, box1, box2, box3, S__law_take]
    refine ⟨by omega, fun q g3 q1 q2 l3 => ?_⟩
    obtain ⟨c, ec, hc⟩ := at_abc q1 q2
    refine ⟨c, ec, ?_⟩
    have kk := k _ _ ⟨l ++ [c], g3, rfl, rfl, by simp, abc_snoc hl hc, l2.trans l3⟩
    simpa [ch] using kk
theorem begun2 (N : DEnds) (b : Bool) (x : Option En) (gs : GSt) (hT : gs.T ≤ 950000) (k : ∀ m g, 0 ≤ m → m ≤ 2000 → later gs 1 g → N.nx ⟨[some (.sh .box), some (.sh (.bl b)), x, some (.sh (.int m)), none], g⟩) :
    d__law_begun_2 N ⟨[some (.sh .box), some (.sh (.bl b)), x, none, none], gs⟩ := by
  have eight : ∀ q : Int, 0 ≤ q → q < 8 → ∃ z : Int, atI [D.int 0, D.int 1, D.int 2, D.int 3, D.int 5, D.int 9, D.int 17, D.int 30] q = some (.int z) ∧ 0 ≤ z ∧ z ≤ 30 := by
    intro q q1 q2
    have c : q = 0 ∨ q = 1 ∨ q = 2 ∨ q = 3 ∨ q = 4 ∨ q = 5 ∨ q = 6 ∨ q = 7 := by omega
    rcases c with rfl | rfl | rfl | rfl | rfl | rfl | rfl | rfl <;> exact ⟨_, rfl, by omega, by omega⟩
  cases b
  · simp [d__law_begun_2, dRet, dRetN, dAndV, dOrV, dNotV, dIf, dIsi, dIsi2, dVar, dC, dBin, dChain, dTest, dAnd, dOr, dNot, dCons, dNil, dFrzL, dFrz, dCall, dCallW, dSeq, dNext, dIfS, dNever, dDrop, dAsg, dName, dStore, dPar, dRCons, dRNil, dKeepL, dKeep, dStoreL, dSl, dPart, dNoPart, dopSl, dCB, viewL, view, En.hold, D.ty, dBack, initS, dopAdd, dopI, dopI0, dopB0, dopSub, dopMul, dopDiv, dopMod, dopLt, dopLe, dopGt, dopGe, dopEq, dopNe, dopIn, dopIx, dTupE, dLstE, dopLen, dopAbs, dopInt, dopSum, dopAll, dopMax, dopList, dopTuple, dLc, dLcO, dYes, dRng1, dSeqI, dgNil, dgCons, dgTup, dgUnl, dMt, mtAt, dmAppend, dmPopAt, dmInsert, dgSub, setAt, dBoxIx, dToBox, dgBox, dM1, dopJoin, dopStripC, dLsR, dopPow, dSortSet, dFor, DSt.wipe, wipeS, pick, eqD_int, eqD_str, plain_int, plain_str, plain_bl, plain_non, kb_int_int, kb_int_bool, kb_str_str, kb_list_list, kb_list_tuple, kb_tuple_list, kb_tuple_tuple, List.replicate, box0, box1, box2, box3, S__law_take]
    refine ⟨by decide, by omega, fun r g1 r1 r2 l1 => ?_⟩
    obtain ⟨z, ez, z1, z2⟩ := eight r r1 r2
    exact ⟨_, ez, k z g1 z1 (by omega) l1⟩
  · simp [d__law_begun_2, dRet, dRetN, dAndV, dOrV, dNotV, dIf, dIsi, dIsi2, dVar, dC, dBin, dChain, dTest, dAnd, dOr, dNot, dCons, dNil, dFrzL, dFrz, dCall, dCallW, dSeq, dNext, dIfS, dNever, dDrop, dAsg, dName, dStore, dPar, dRCons, dRNil, dKeepL, dKeep, dStoreL, dSl, dPart, dNoPart, dopSl, dCB, viewL, view, En.hold, D.ty, dBack, initS, dopAdd, dopI, dopI0, dopB0, dopSub, dopMul, dopDiv, dopMod, dopLt, dopLe, dopGt, dopGe, dopEq, dopNe, dopIn, dopIx, dTupE, dLstE, dopLen, dopAbs, dopInt, dopSum, dopAll, dopMax, dopList, dopTuple, dLc, dLcO, dYes, dRng1, dSeqI, dgNil, dgCons, dgTup, dgUnl, dMt, mtAt, dmAppend, dmPopAt, dmInsert, dgSub, setAt, dBoxIx, dToBox, dgBox, dM1, dopJoin, dopStripC, dLsR, dopPow, dSortSet, dFor, DSt.wipe, wipeS, pick, eqD_int, eqD_str, plain_int, plain_str, plain_bl, plain_non, kb_int_int, kb_int_bool, kb_str_str, kb_list_list, kb_list_tuple, kb_tuple_list, kb_tuple_tuple, List.replicate, box0, box1, box2, box3, S__law_take]
    exact ⟨by omega, fun r g1 r1 r2 l1 => k _ g1 (by omega) (by omega) l1⟩
theorem begun3 (N : DEnds) (b : Bool) (bl : List Nat) (hb : abc bl) (h1 : 1 ≤ bl.length) (h2 : bl.length ≤ 11) (m : Int) (m0 : 0 ≤ m) (m1 : m ≤ 2000) (gs : GSt) (k : ∀ l st, st.gs = gs → abc l → l.length ≤ 2000 → N.rt (.ow (.lst (l.map ch))) st) :
    d__law_begun_3 N ⟨[some (.sh .box), some (.sh (.bl b)), some (.ow (.lst (bl.map ch))), some (.sh (.int m)), none], gs⟩ := by
  simp [d__law_begun_3, dRet, dRetN, dAndV, dOrV, dNotV, dIf, dIsi, dIsi2, dVar, dC, dBin, dChain, dTest, dAnd, dOr, dNot, dCons, dNil, dFrzL, dFrz, dCall, dCallW, dSeq, dNext, dIfS, dNever, dDrop, dAsg, dName, dStore, dPar, dRCons, dRNil, dKeepL, dKeep, dStoreL, dSl, dPart, dNoPart, dopSl, dCB, viewL, view, En.hold, D.ty, dBack, initS, dopAdd, dopI, dopI0, dopB0, dopSub, dopMul, dopDiv, dopMod, dopLt, dopLe, dopGt, dopGe, dopEq, dopNe, dopIn, dopIx, dTupE, dLstE, dopLen, dopAbs, dopInt, dopSum, dopAll, dopMax, dopList, dopTuple, dLc, dLcO, dYes, dRng1, dSeqI, dgNil, dgCons, dgTup, dgUnl, dMt, mtAt, dmAppend, dmPopAt, dmInsert, dgSub, setAt, dBoxIx, dToBox, dgBox, dM1, dopJoin, dopStripC, dLsR, dopPow, dSortSet, dFor, DSt.wipe, wipeS, pick, eqD_int, eqD_str, plain_int, plain_str, plain_bl, plain_non, kb_int_int, kb_int_bool, kb_str_str, kb_list_list, kb_list_tuple, kb_tuple_list, kb_tuple_tuple, List.replicate, box0, box1, box2, box3]
  refine ⟨by omega, by omega, ?_⟩
  refine dLcL_ix (fun i acc st => ∃ l, st = ⟨[some (.sh .box), some (.sh (.bl b)), some (.ow (.lst (bl.map ch))), some (.sh (.int m)), none], gs⟩ ∧ acc = l.map ch ∧ l.length = i ∧ abc l) ?_ ?_ _ _ ⟨[], rfl, rfl, rfl, by simp [abc]⟩
  · rintro acc st ⟨l, rfl, rfl, e, hl⟩
    rw [rangeD_length] at e
    exact k l _ rfl hl (by omega)
  · rintro i dd acc st K hd' hi ⟨l, rfl, rfl, rfl, hl⟩ k
    obtain ⟨rfl, hi⟩ := range0_get hd'
    simp [dRet, dRetN, dAndV, dOrV, dNotV, dIf, dIsi, dIsi2, dVar, dC, dBin, dChain, dTest, dAnd, dOr, dNot, dCons, dNil, dFrzL, dFrz, dCall, dCallW, dSeq, dNext, dIfS, dNever, dDrop, dAsg, dName, dStore, dPar, dRCons, dRNil, dKeepL, dKeep, dStoreL, dSl, dPart, dNoPart, dopSl, dCB, viewL, view, En.hold, D.ty, dBack, initS, dopAdd, dopI, dopI0, dopB0, dopSub, dopMul, dopDiv, dopMod, dopLt, dopLe, dopGt, dopGe, dopEq, dopNe, dopIn, dopIx, dTupE, dLstE, dopLen, dopAbs, dopInt, dopSum, dopAll, dopMax, dopList, dopTuple, dLc, dLcO, dYes, dRng1, dSeqI, dgNil, dgCons, dgTup, dgUnl, dMt, mtAt, dmAppend, dmPopAt, dmInsert, dgSub, setAt, dBoxIx, dToBox, dgBox, dM1, dopJoin, dopStripC, dLsR, dopPow, dSortSet, dFor, DSt.wipe, wipeS, pick, eqD_int, eqD_str, plain_int, plain_str, plain_bl, plain_non, kb_int_int, kb_int_bool, kb_str_str, kb_list_list, kb_list_tuple, kb_tuple_list, kb_tuple_tuple, List.replicate, box0, box1, box2, box3]
    refine ⟨mul_ok (by omega) (by omega), ⟨by decide, by decide⟩, by omega, ?_⟩
    have e1 := Int.emod_nonneg (((l.length : Int) * l.length + (l.length : Int) / 7)) (show (bl.length : Int) ≠ 0 by omega)
    have e2 := Int.emod_lt_of_pos (((l.length : Int) * l.length + (l.length : Int) / 7)) (show (0 : Int) < bl.length by omega)
    generalize ((l.length : Int) * l.length + (l.length : Int) / 7) % (bl.length : Int) = q at e1 e2
    obtain ⟨j, rfl⟩ : ∃ j : Nat, q = (j : Int) := ⟨q.toNat, by omega⟩
    have hj : j < bl.length := by omega
    refine ⟨_, ch_at hj, ?_⟩
    have hc : bl.getD j 0 ∈ bl := by rw [List.getD_eq_getElem?_getD, List.getElem?_eq_getElem hj]; exact List.getElem_mem hj
    have kk := k _ _ ⟨l ++ [bl.getD j 0], rfl, rfl, by simp, abc_snoc hl (hb _ hc)⟩
    rw [List.map_append] at kk
    exact kk
theorem vc__law_begun : ∀ ds gs Q2 E2, ds.length = 2 → S__law_begun ds gs Q2 E2 → d__law_begun { nx := fun st => Q2 (.sh .non) st.gs, rt := fun en st => dBack en st fun en' => Q2 en' st.gs, ex := fun ex st => E2 ex st.gs } ⟨initS 5 ds, gs⟩ := by
  rintro _ gs Q E - ⟨b, rfl, hT, h⟩
  show dSeq _ _ _ ⟨[some (.sh .box), some (.sh (.bl b)), none, none, none], gs⟩
  refine begun1 _ b gs hT fun l g hl h1 h2 l1 => ?_
  have t1 := l1.2.2
  refine begun2 _ b _ g (by omega) fun m g2 m0 m1 l2 => ?_
  refine begun3 _ b l hl h1 h2 m m0 m1 g2 fun l' st e hl' hn => ?_
  subst e
  exact h l' st.gs hl' hn ((l1.trans l2).mono (by omega))
end K02
end VL

set_option Elab.async false
set_option linter.all false
set_option maxRecDepth 100000
set_option maxHeartbeats 1000000
namespace VL
namespace K02
open PySem PySem.Spec PyProof.Rows L2
/-- the ints below m of a kind, ascending -/
theorem places_snoc {ns : List Int} {i m : Nat} (hp : places ns i) (hi : i < m) (hm : m ≤ 2000) (hl : ns.length ≤ i) : places (ns ++ [(i : Int)]) (i + 1) := by
  obtain ⟨p1, p2, p3⟩ := hp
  refine ⟨List.pairwise_append.mpr ⟨p1, List.pairwise_singleton _ _, fun a ha b hb => ?_⟩, fun n hn => ?_, by rw [List.length_append]; simp only [List.length_cons, List.length_nil]; omega⟩
  · rw [List.mem_singleton.mp hb]; exact (p2 a ha).2
  · rcases List.mem_append.mp hn with z | z
    · have := p2 n z; omega
    · rw [List.mem_singleton.mp z]; omega
theorem places_up {ns : List Int} {i m : Nat} (hp : places ns i) (hi : i ≤ m) : places ns m := ⟨hp.1, fun n hn => by have := hp.2.1 n hn; omega, hp.2.2⟩
theorem places_all (m : Nat) (hm : m ≤ 2000) : places ((List.range m).map fun i => ((i : Nat) : Int)) m := by
  refine ⟨?_, fun n hn => ?_, by simp; omega⟩
  · rw [List.pairwise_map]
    exact List.pairwise_lt_range.imp fun h => by omega
  · obtain ⟨i, hi, rfl⟩ := List.mem_map.mp hn
    have := List.mem_range.mp hi
    omega
theorem len_sub : ∀ (ms ns : List Int), ms.Nodup → (∀ n ∈ ms, n ∈ ns) → ms.length ≤ ns.length
  | [], _, _, _ => Nat.zero_le _
  | m :: ms, ns, nd, h => by
    have hm := h m List.mem_cons_self
    have e := List.length_erase_of_mem hm
    have pos := List.length_pos_of_mem hm
    obtain ⟨n1, n2⟩ := List.nodup_cons.mp nd
    have ih := len_sub ms (ns.erase m) n2 fun n hn => (List.mem_erase_of_ne (fun z => n1 (by rw [← z]; exact hn))).mpr (h n (List.mem_cons_of_mem _ hn))
    rw [List.length_cons]
    omega
/-- a comprehension that picks ints -/
theorem picks {dt : DT} {Qe : En → DSt → Prop} {m : Nat} (hm : m ≤ 2000) (a b c d e : Option En) (g : GSt) (f : Nat → Bool)
    (ht : ∀ (i : Nat) (Q : Bool → DSt → Prop) (E : DX), i < m → Q (f i) ⟨[a, b, c, d, e, some (.sh (.int (i : Int))), none], g⟩ → dt ⟨[a, b, c, d, e, some (.sh (.int (i : Int))), none], g⟩ Q E)
    (k : ∀ ns, places ns m → Qe (.ow (.lst (intL ns))) ⟨[a, b, c, d, e, none, none], g⟩) : dLcL [5] (dName 5) dt (dVar 5) Qe (rangeD 0 m) [] ⟨[a, b, c, d, e, none, none], g⟩ := by
  refine dLcL_ix (fun i acc st => st = ⟨[a, b, c, d, e, none, none], g⟩ ∧ ∃ ns, acc = intL ns ∧ places ns i ∧ ns.length ≤ i) ?_ ?_ _ _ ⟨rfl, [], rfl, ⟨.nil, fun n hn => (by cases hn), Nat.zero_le _⟩, Nat.zero_le _⟩
  · rintro acc st ⟨rfl, ns, rfl, hp, _⟩
    rw [rangeD_length] at hp
    exact k ns hp
  · rintro i dd acc st K hd' hi ⟨rfl, ns, rfl, hp, hl⟩ kk
    obtain ⟨rfl, hi⟩ := range0_get hd'
    show dStore 5 (.sh (.int (i : Int))) _ _
    simp only [dStore]
    refine ht i _ _ hi ?_
    by_cases c : f i = true
    · rw [if_pos c]
      have k1 := kk _ _ ⟨rfl, ns ++ [(i : Int)], rfl, places_snoc hp hi hm hl, by simp; omega⟩
      simp [dRet, dRetN, dAndV, dOrV, dNotV, dIf, dIsi, dIsi2, dVar, dC, dBin, dChain, dTest, dAnd, dOr, dNot, dCons, dNil, dFrzL, dFrz, dCall, dCallW, dSeq, dNext, dIfS, dNever, dDrop, dAsg, dName, dStore, dPar, dRCons, dRNil, dKeepL, dKeep, dStoreL, dSl, dPart, dNoPart, dopSl, dCB, viewL, view, En.hold, D.ty, dBack, initS, dopAdd, dopI, dopI0, dopB0, dopSub, dopMul, dopDiv, dopMod, dopLt, dopLe, dopGt, dopGe, dopEq, dopNe, dopIn, dopIx, dTupE, dLstE, dopLen, dopAbs, dopInt, dopSum, dopAll, dopMax, dopList, dopTuple, dLc, dLcO, dYes, dRng1, dSeqI, dgNil, dgCons, dgTup, dgUnl, dMt, mtAt, dmAppend, dmPopAt, dmInsert, dgSub, setAt, dBoxIx, dToBox, dgBox, dM1, dopJoin, dopStripC, dLsR, dopPow, dSortSet, dFor, DSt.wipe, wipeS, pick, eqD_int, eqD_str, plain_int, plain_str, plain_bl, plain_non, kb_int_int, kb_int_bool, kb_str_str, kb_list_list, kb_list_tuple, kb_tuple_list, kb_tuple_tuple, List.replicate, box0, box1, box2, box3]
      simpa [intL] using k1
    · rw [if_neg c]
      exact kk _ _ ⟨rfl, ns, rfl, places_up hp (Nat.le_succ i), Nat.le_succ_of_le hl⟩
theorem vc__law_chosen : ∀ ds gs Q2 E2, ds.length = 2 → S__law_chosen ds gs Q2 E2 → d__law_chosen { nx := fun st => Q2 (.sh .non) st.gs, rt := fun en st => dBack en st fun en' => Q2 en' st.gs, ex := fun ex st => E2 ex st.gs } ⟨initS 7 ds, gs⟩ := by
  rintro _ gs Q E - ⟨m, rfl, hm, hT, h⟩
  show dSeq _ _ _ ⟨[some (.sh .box), some (.sh (.int m)), none, none, none, none, none], gs⟩
  simp [d__law_chosen, d__law_chosen_1, d__law_chosen_2t, d__law_chosen_2, d__law_chosen_3t, d__law_chosen_3, d__law_chosen_4t_1, d__law_chosen_4t_2, d__law_chosen_4t, d__law_chosen_4, d__law_chosen_5t_1, d__law_chosen_5t_2, d__law_chosen_5t, d__law_chosen_5, d__law_chosen_6, dRet, dRetN, dAndV, dOrV, dNotV, dIf, dIsi, dIsi2, dVar, dC, dBin, dChain, dTest, dAnd, dOr, dNot, dCons, dNil, dFrzL, dFrz, dCall, dCallW, dSeq, dNext, dIfS, dNever, dDrop, dAsg, dName, dStore, dPar, dRCons, dRNil, dKeepL, dKeep, dStoreL, dSl, dPart, dNoPart, dopSl, dCB, viewL, view, En.hold, D.ty, dBack, initS, dopAdd, dopI, dopI0, dopB0, dopSub, dopMul, dopDiv, dopMod, dopLt, dopLe, dopGt, dopGe, dopEq, dopNe, dopIn, dopIx, dTupE, dLstE, dopLen, dopAbs, dopInt, dopSum, dopAll, dopMax, dopList, dopTuple, dLc, dLcO, dYes, dRng1, dSeqI, dgNil, dgCons, dgTup, dgUnl, dMt, mtAt, dmAppend, dmPopAt, dmInsert, dgSub, setAt, dBoxIx, dToBox, dgBox, dM1, dopJoin, dopStripC, dLsR, dopPow, dSortSet, dFor, DSt.wipe, wipeS, pick, eqD_int, eqD_str, plain_int, plain_str, plain_bl, plain_non, kb_int_int, kb_int_bool, kb_str_str, kb_list_list, kb_list_tuple, kb_tuple_list, kb_tuple_tuple, List.replicate, box0, box1, box2, box3, S__law_take]
  refine ⟨by omega, fun r g1 r1 r2 l1 => ?_⟩
  have t1 := l1.2.2
  have ret : ∀ ns g2, places ns m → later g1 15 g2 → Q (.ow (.lst (intL ns))) g2 := fun ns g2 hp l2 => h ns g2 hp ((l1.trans l2).mono (by omega))
  have nil : places [] m := ⟨.nil, fun n hn => (by cases hn), Nat.zero_le _⟩
  split
  · refine ⟨by omega, ?_⟩
    rw [rangeD_ints]
    exact ret _ g1 (places_all m hm) ((later.refl g1).mono (by omega))
  split
  · exact ret [] g1 nil ((later.refl g1).mono (by omega))
  split
  · refine ⟨by omega, fun q g2 q1 q2 l2 => ⟨by omega, ?_⟩⟩
    refine picks hm _ _ _ _ _ _ (fun i => ((i : Int) % (2 + q) == 0)) (fun i Q E hi kq => ?_) fun ns hp => ?_
    · simp [dRet, dRetN, dAndV, dOrV, dNotV, dIf, dIsi, dIsi2, dVar, dC, dBin, dChain, dTest, dAnd, dOr, dNot, dCons, dNil, dFrzL, dFrz, dCall, dCallW, dSeq, dNext, dIfS, dNever, dDrop, dAsg, dName, dStore, dPar, dRCons, dRNil, dKeepL, dKeep, dStoreL, dSl, dPart, dNoPart, dopSl, dCB, viewL, view, En.hold, D.ty, dBack, initS, dopAdd, dopI, dopI0, dopB0, dopSub, dopMul, dopDiv, dopMod, dopLt, dopLe, dopGt, dopGe, dopEq, dopNe, dopIn, dopIx, dTupE, dLstE, dopLen, dopAbs, dopInt, dopSum, dopAll, dopMax, dopList, dopTuple, dLc, dLcO, dYes, dRng1, dSeqI, dgNil, dgCons, dgTup, dgUnl, dMt, mtAt, dmAppend, dmPopAt, dmInsert, dgSub, setAt, dBoxIx, dToBox, dgBox, dM1, dopJoin, dopStripC, dLsR, dopPow, dSortSet, dFor, DSt.wipe, wipeS, pick, eqD_int, eqD_str, plain_int, plain_str, plain_bl, plain_non, kb_int_int, kb_int_bool, kb_str_str, kb_list_list, kb_list_tuple, kb_tuple_list, kb_tuple_tuple, List.replicate, box0, box1, box2, box3]
      refine ⟨by omega, ?_⟩
      simpa using kq
    · exact ret ns g2 hp (l2.mono (by omega))
  split
  · refine ⟨by split <;> omega, by split <;> omega, by omega, fun q g2 q1 q2 l2 => ⟨by omega, ?_⟩⟩
    refine picks hm _ _ _ _ _ _ (fun i => !((i : Int) == q)) (fun i Q E hi kq => ?_) fun ns hp => ?_
    · simp [dRet, dRetN, dAndV, dOrV, dNotV, dIf, dIsi, dIsi2, dVar, dC, dBin, dChain, dTest, dAnd, dOr, dNot, dCons, dNil, dFrzL, dFrz, dCall, dCallW, dSeq, dNext, dIfS, dNever, dDrop, dAsg, dName, dStore, dPar, dRCons, dRNil, dKeepL, dKeep, dStoreL, dSl, dPart, dNoPart, dopSl, dCB, viewL, view, En.hold, D.ty, dBack, initS, dopAdd, dopI, dopI0, dopB0, dopSub, dopMul, dopDiv, dopMod, dopLt, dopLe, dopGt, dopGe, dopEq, dopNe, dopIn, dopIx, dTupE, dLstE, dopLen, dopAbs, dopInt, dopSum, dopAll, dopMax, dopList, dopTuple, dLc, dLcO, dYes, dRng1, dSeqI, dgNil, dgCons, dgTup, dgUnl, dMt, mtAt, dmAppend, dmPopAt, dmInsert, dgSub, setAt, dBoxIx, dToBox, dgBox, dM1, dopJoin, dopStripC, dLsR, dopPow, dSortSet, dFor, DSt.wipe, wipeS, pick, eqD_int, eqD_str, plain_int, plain_str, plain_bl, plain_non, kb_int_int, kb_int_bool, kb_str_str, kb_list_list, kb_list_tuple, kb_tuple_list, kb_tuple_tuple, List.replicate, box0, box1, box2, box3]
      by_cases c : (i : Int) = q
      · exact .inl ⟨c, by simpa [c] using kq⟩
      · refine .inr ⟨c, ?_⟩
        have cb : ((i : Int) == q) = false := by simpa using c
        simpa [cb] using kq
    · exact ret ns g2 hp (l2.mono (by omega))
  split
  · rename_i hm0
    refine dLcL_ix (fun i acc st => ∃ ns g2, st = ⟨[some (.sh .box), some (.sh (.int m)), some (.sh (.int r)), none, none, none, none], g2⟩ ∧ acc = intL ns ∧ ns.length = i ∧ (∀ n ∈ ns, 0 ≤ n ∧ n < (m : Int)) ∧ later g1 i g2) ?_ ?_ _ _ ⟨[], g1, rfl, rfl, rfl, by simp, later.refl _⟩
    · rintro acc st ⟨ns, g2, rfl, rfl, hn, hr, l2⟩
      rw [rangeD_length] at hn l2
      simp only []
      refine ⟨_, rfl, ns, intsOf_map ns, by omega, fun ms pw mem => ?_⟩
      have sub : ∀ n ∈ ms, 0 ≤ n ∧ n < (m : Int) := fun n hn => hr n ((mem n).mp hn)
      have len : ms.length ≤ 2000 := by
        have nd : ms.Nodup := pw.imp fun h => by omega
        have := len_sub ms ns nd fun n hn => (mem n).mp hn
        omega
      exact ret ms g2 ⟨pw, sub, len⟩ (l2.mono (by omega))
    · rintro i dd acc st K hd' hi ⟨ns, g2, rfl, rfl, rfl, hr, l2⟩ kk
      obtain ⟨rfl, hi⟩ := range0_get hd'
      have t2 := l2.2.2
      simp [dRet, dRetN, dAndV, dOrV, dNotV, dIf, dIsi, dIsi2, dVar, dC, dBin, dChain, dTest, dAnd, dOr, dNot, dCons, dNil, dFrzL, dFrz, dCall, dCallW, dSeq, dNext, dIfS, dNever, dDrop, dAsg, dName, dStore, dPar, dRCons, dRNil, dKeepL, dKeep, dStoreL, dSl, dPart, dNoPart, dopSl, dCB, viewL, view, En.hold, D.ty, dBack, initS, dopAdd, dopI, dopI0, dopB0, dopSub, dopMul, dopDiv, dopMod, dopLt, dopLe, dopGt, dopGe, dopEq, dopNe, dopIn, dopIx, dTupE, dLstE, dopLen, dopAbs, dopInt, dopSum, dopAll, dopMax, dopList, dopTuple, dLc, dLcO, dYes, dRng1, dSeqI, dgNil, dgCons, dgTup, dgUnl, dMt, mtAt, dmAppend, dmPopAt, dmInsert, dgSub, setAt, dBoxIx, dToBox, dgBox, dM1, dopJoin, dopStripC, dLsR, dopPow, dSortSet, dFor, DSt.wipe, wipeS, pick, eqD_int, eqD_str, plain_int, plain_str, plain_bl, plain_non, kb_int_int, kb_int_bool, kb_str_str, kb_list_list, kb_list_tuple, kb_tuple_list, kb_tuple_tuple, List.replicate, box0, box1, box2, box3, S__law_take]
      refine ⟨hm0, by omega, by omega, fun q g3 q1 q2 l3 => ?_⟩
      have k1 := kk _ _ ⟨ns ++ [q], g3, rfl, rfl, by simp, fun n hn => ?_, l2.trans l3⟩
      · simpa [intL] using k1
      · rcases List.mem_append.mp hn with z | z
        · exact hr n z
        · rw [List.mem_singleton.mp z]; exact ⟨q1, q2⟩
  · exact ret [] g1 nil ((later.refl g1).mono (by omega))
theorem deed_test (N : DEnds) (l : List Nat) (w : Int) (gs : GSt) (k1 : d__law_deed_2t N ⟨[some (.sh .box), some (.sh (.lst (l.map ch))), some (.sh (.int w)), some (.sh (.int (l.length : Nat))), none, none, none, none], gs⟩)
    (k2 : w ≠ 4 → l ≠ [] → ¬ (w = 1 ∧ l.length = 1) → ¬ (w = 2 ∧ l.length = 2000) → N.nx ⟨[some (.sh .box), some (.sh (.lst (l.map ch))), some (.sh (.int w)), some (.sh (.int (l.length : Nat))), none, none, none, none], gs⟩) :
    d__law_deed_2 N ⟨[some (.sh .box), some (.sh (.lst (l.map ch))), some (.sh (.int w)), some (.sh (.int (l.length : Nat))), none, none, none, none], gs⟩ := by
  generalize hA : d__law_deed_2t = A at k1
  simp [d__law_deed_2, hA, dRet, dRetN, dAndV, dOrV, dNotV, dIf, dIsi, dIsi2, dVar, dC, dBin, dChain, dTest, dAnd, dOr, dNot, dCons, dNil, dFrzL, dFrz, dCall, dCallW, dSeq, dNext, dIfS, dNever, dDrop, dAsg, dName, dStore, dPar, dRCons, dRNil, dKeepL, dKeep, dStoreL, dSl, dPart, dNoPart, dopSl, dCB, viewL, view, En.hold, D.ty, dBack, initS, dopAdd, dopI, dopI0, dopB0, dopSub, dopMul, dopDiv, dopMod, dopLt, dopLe, dopGt, dopGe, dopEq, dopNe, dopIn, dopIx, dTupE, dLstE, dopLen, dopAbs, dopInt, dopSum, dopAll, dopMax, dopList, dopTuple, dLc, dLcO, dYes, dRng1, dSeqI, dgNil, dgCons, dgTup, dgUnl, dMt, mtAt, dmAppend, dmPopAt, dmInsert, dgSub, setAt, dBoxIx, dToBox, dgBox, dM1, dopJoin, dopStripC, dLsR, dopPow, dSortSet, dFor, DSt.wipe, wipeS, pick, eqD_int, eqD_str, plain_int, plain_str, plain_bl, plain_non, kb_int_int, kb_int_bool, kb_str_str, kb_list_list, kb_list_tuple, kb_tuple_list, kb_tuple_tuple, List.replicate, box0, box1, box2, box3]
  repeat' split
  all_goals first
    | exact k1
    | (refine k2 (by omega) (by assumption) (by omega) (by omega))
theorem deed_part (N : DEnds) (l : List Nat) (hl : abc l) (hn : l.length ≤ 2000) (w : Int) (gs : GSt) (hT : gs.T ≤ 800000) (k : ∀ ns st, places ns l.length → later gs 20 st.gs → N.rt (.sh (.tup [.lst [.int 4, .lst (intL ns), .str ""], .lst ((mat l ns).map ch)])) st) :
    d__law_deed_2t N ⟨[some (.sh .box), some (.sh (.lst (l.map ch))), some (.sh (.int w)), some (.sh (.int (l.length : Nat))), none, none, none, none], gs⟩ := by
  simp [d__law_deed_2t, d__law_deed_2t_1, d__law_deed_2t_2, dRet, dRetN, dAndV, dOrV, dNotV, dIf, dIsi, dIsi2, dVar, dC, dBin, dChain, dTest, dAnd, dOr, dNot, dCons, dNil, dFrzL, dFrz, dCall, dCallW, dSeq, dNext, dIfS, dNever, dDrop, dAsg, dName, dStore, dPar, dRCons, dRNil, dKeepL, dKeep, dStoreL, dSl, dPart, dNoPart, dopSl, dCB, viewL, view, En.hold, D.ty, dBack, initS, dopAdd, dopI, dopI0, dopB0, dopSub, dopMul, dopDiv, dopMod, dopLt, dopLe, dopGt, dopGe, dopEq, dopNe, dopIn, dopIx, dTupE, dLstE, dopLen, dopAbs, dopInt, dopSum, dopAll, dopMax, dopList, dopTuple, dLc, dLcO, dYes, dRng1, dSeqI, dgNil, dgCons, dgTup, dgUnl, dMt, mtAt, dmAppend, dmPopAt, dmInsert, dgSub, setAt, dBoxIx, dToBox, dgBox, dM1, dopJoin, dopStripC, dLsR, dopPow, dSortSet, dFor, DSt.wipe, wipeS, pick, eqD_int, eqD_str, plain_int, plain_str, plain_bl, plain_non, kb_int_int, kb_int_bool, kb_str_str, kb_list_list, kb_list_tuple, kb_tuple_list, kb_tuple_tuple, List.replicate, box0, box1, box2, box3, S__law_chosen]
  refine ⟨l.length, rfl, hn, by omega, fun ns g1 hp l1 => ⟨by decide, ?_⟩⟩
  refine dLcL_ix (fun i acc st => st = ⟨[some (.sh .box), some (.sh (.lst (l.map ch))), some (.sh (.int w)), some (.sh (.int (l.length : Nat))), none, some (.sh (.lst (intL ns))), none, none], g1⟩ ∧ acc = (mat l (ns.take i)).map ch) ?_ ?_ _ _ ⟨rfl, by simp [mat]⟩
  · rintro acc st ⟨rfl, rfl⟩
    rw [List.take_of_length_le (by simp [intL])]
    exact ⟨by decide, k ns _ hp l1⟩
  · rintro i dd acc st K hd' hi ⟨rfl, rfl⟩ kk
    unfold intL at hd'
    rw [List.getElem?_map] at hd'
    obtain ⟨n, hn', rfl⟩ := Option.map_eq_some_iff.mp hd'
    obtain ⟨r1, r2⟩ := hp.2.1 n (List.mem_of_getElem? hn')
    have k1 := kk _ _ ⟨rfl, rfl⟩
    rw [← mat_take l ns i n hn'] at k1
    obtain ⟨j, rfl⟩ : ∃ j : Nat, n = (j : Int) := ⟨n.toNat, by omega⟩
    have hj : j < l.length := by omega
    simp [dRet, dRetN, dAndV, dOrV, dNotV, dIf, dIsi, dIsi2, dVar, dC, dBin, dChain, dTest, dAnd, dOr, dNot, dCons, dNil, dFrzL, dFrz, dCall, dCallW, dSeq, dNext, dIfS, dNever, dDrop, dAsg, dName, dStore, dPar, dRCons, dRNil, dKeepL, dKeep, dStoreL, dSl, dPart, dNoPart, dopSl, dCB, viewL, view, En.hold, D.ty, dBack, initS, dopAdd, dopI, dopI0, dopB0, dopSub, dopMul, dopDiv, dopMod, dopLt, dopLe, dopGt, dopGe, dopEq, dopNe, dopIn, dopIx, dTupE, dLstE, dopLen, dopAbs, dopInt, dopSum, dopAll, dopMax, dopList, dopTuple, dLc, dLcO, dYes, dRng1, dSeqI, dgNil, dgCons, dgTup, dgUnl, dMt, mtAt, dmAppend, dmPopAt, dmInsert, dgSub, setAt, dBoxIx, dToBox, dgBox, dM1, dopJoin, dopStripC, dLsR, dopPow, dSortSet, dFor, DSt.wipe, wipeS, pick, eqD_int, eqD_str, plain_int, plain_str, plain_bl, plain_non, kb_int_int, kb_int_bool, kb_str_str, kb_list_list, kb_list_tuple, kb_tuple_list, kb_tuple_tuple, List.replicate, box0, box1, box2, box3, ch_at hj]
    exact k1
theorem deed3 (N : DEnds) (l : List Nat) (hn : l.length ≤ 2000) (w : Int) (hw : w = 1 → 1 < l.length) (hne : l ≠ []) (gs : GSt) (hT : gs.T ≤ 800000)
    (k : ∀ (p : Int) (c : Nat) (g : GSt), 0 ≤ p → (w = 1 → 1 ≤ p) → p < (l.length : Int) → (c = 97 ∨ c = 98 ∨ c = 99) → later gs 10 g → N.nx ⟨[some (.sh .box), some (.sh (.lst (l.map ch))), some (.sh (.int w)), some (.sh (.int (l.length : Nat))), none, none, some (.sh (.int p)), some (.sh (ch c))], g⟩) :
    d__law_deed_3 N ⟨[some (.sh .box), some (.sh (.lst (l.map ch))), some (.sh (.int w)), some (.sh (.int (l.length : Nat))), none, none, none, none], gs⟩ := by
  have pos : 0 < l.length := List.length_pos_iff.mpr hne
  simp [d__law_deed_3, dRet, dRetN, dAndV, dOrV, dNotV, dIf, dIsi, dIsi2, dVar, dC, dBin, dChain, dTest, dAnd, dOr, dNot, dCons, dNil, dFrzL, dFrz, dCall, dCallW, dSeq, dNext, dIfS, dNever, dDrop, dAsg, dName, dStore, dPar, dRCons, dRNil, dKeepL, dKeep, dStoreL, dSl, dPart, dNoPart, dopSl, dCB, viewL, view, En.hold, D.ty, dBack, initS, dopAdd, dopI, dopI0, dopB0, dopSub, dopMul, dopDiv, dopMod, dopLt, dopLe, dopGt, dopGe, dopEq, dopNe, dopIn, dopIx, dTupE, dLstE, dopLen, dopAbs, dopInt, dopSum, dopAll, dopMax, dopList, dopTuple, dLc, dLcO, dYes, dRng1, dSeqI, dgNil, dgCons, dgTup, dgUnl, dMt, mtAt, dmAppend, dmPopAt, dmInsert, dgSub, setAt, dBoxIx, dToBox, dgBox, dM1, dopJoin, dopStripC, dLsR, dopPow, dSortSet, dFor, DSt.wipe, wipeS, pick, eqD_int, eqD_str, plain_int, plain_str, plain_bl, plain_non, kb_int_int, kb_int_bool, kb_str_str, kb_list_list, kb_list_tuple, kb_tuple_list, kb_tuple_tuple, List.replicate, box0, box1, box2, box3, S__law_place, S__law_take]
  refine ⟨_, l.length, ⟨rfl, rfl⟩, by split <;> omega, by split <;> omega, hn, by omega, fun r g1 r1 r2 l1 => ?_⟩
  have t1 := l1.2.2
  refine ⟨by omega, fun q g2 q1 q2 l2 => ?_⟩
  obtain ⟨c, ec, hc⟩ := at_abc q1 q2
  have r0 : 0 ≤ r := by split at r1 <;> omega
  exact ⟨c, ec, by simpa [ch] using k r c g2 r0 (fun z => by rw [if_pos z] at r1; exact r1) r2 hc ((l1.trans l2).mono (by omega))⟩
theorem ok_ch {c : Nat} (hc : c = 97 ∨ c = 98 ∨ c = 99) : StrOk ⟨#[c]⟩ := by
  rcases hc with rfl | rfl | rfl <;> exact ⟨by decide +kernel, by decide +kernel⟩
theorem ixN_nat {n j : Nat} (h : j < n) : ixN n (j : Int) = some j := by
  unfold ixN
  rw [if_pos (by omega), if_pos (by omega)]; rfl
theorem deed4 (N : DEnds) (l : List Nat) (w p : Int) (c : Nat) (g : GSt) (k : N.nx ⟨[some (.sh .box), some (.sh (.lst (l.map ch))), some (.sh (.int w)), some (.sh (.int (l.length : Nat))), some (.ow (.lst (l.map ch))), none, some (.sh (.int p)), some (.sh (ch c))], g⟩) :
    d__law_deed_4 N ⟨[some (.sh .box), some (.sh (.lst (l.map ch))), some (.sh (.int w)), some (.sh (.int (l.length : Nat))), none, none, some (.sh (.int p)), some (.sh (ch c))], g⟩ := by
  simp [d__law_deed_4, dRet, dRetN, dAndV, dOrV, dNotV, dIf, dIsi, dIsi2, dVar, dC, dBin, dChain, dTest, dAnd, dOr, dNot, dCons, dNil, dFrzL, dFrz, dCall, dCallW, dSeq, dNext, dIfS, dNever, dDrop, dAsg, dName, dStore, dPar, dRCons, dRNil, dKeepL, dKeep, dStoreL, dSl, dPart, dNoPart, dopSl, dCB, viewL, view, En.hold, D.ty, dBack, initS, dopAdd, dopI, dopI0, dopB0, dopSub, dopMul, dopDiv, dopMod, dopLt, dopLe, dopGt, dopGe, dopEq, dopNe, dopIn, dopIx, dTupE, dLstE, dopLen, dopAbs, dopInt, dopSum, dopAll, dopMax, dopList, dopTuple, dLc, dLcO, dYes, dRng1, dSeqI, dgNil, dgCons, dgTup, dgUnl, dMt, mtAt, dmAppend, dmPopAt, dmInsert, dgSub, setAt, dBoxIx, dToBox, dgBox, dM1, dopJoin, dopStripC, dLsR, dopPow, dSortSet, dFor, DSt.wipe, wipeS, pick, eqD_int, eqD_str, plain_int, plain_str, plain_bl, plain_non, kb_int_int, kb_int_bool, kb_str_str, kb_list_list, kb_list_tuple, kb_tuple_list, kb_tuple_tuple, List.replicate, box0, box1, box2, box3, ch]
  simpa [ch] using k
theorem deed5 (N : DEnds) (l : List Nat) (hn : l.length ≤ 2000) (w p : Int) (c : Nat) (hc : c = 97 ∨ c = 98 ∨ c = 99) (h0 : 0 ≤ p) (h1 : w = 1 → 1 ≤ p) (h2 : p < l.length) (hw : 0 ≤ w) (hw4 : w < 4) (h3 : w = 2 → l.length < 2000) (g : GSt)
    (k : ∀ l', Deed l (.lst [.int w, .int p, ch c]) l' → N.nx ⟨[some (.sh .box), some (.sh (.lst (l.map ch))), some (.sh (.int w)), some (.sh (.int (l.length : Nat))), some (.ow (.lst (l'.map ch))), none, some (.sh (.int p)), some (.sh (ch c))], g⟩) :
    d__law_deed_5 N ⟨[some (.sh .box), some (.sh (.lst (l.map ch))), some (.sh (.int w)), some (.sh (.int (l.length : Nat))), some (.ow (.lst (l.map ch))), none, some (.sh (.int p)), some (.sh (ch c))], g⟩ := by
  obtain ⟨j, rfl⟩ : ∃ j : Nat, p = (j : Int) := ⟨p.toNat, by omega⟩
  have hj : j < l.length := by omega
  have at0 := ch_at hj
  simp [d__law_deed, d__law_deed_1, d__law_deed_2t_1, d__law_deed_2t_2, d__law_deed_2t, d__law_deed_2, d__law_deed_3, d__law_deed_4, d__law_deed_5t, d__law_deed_5e_1t, d__law_deed_5e_1e_1t, d__law_deed_5e_1e_1e, d__law_deed_5e_1e, d__law_deed_5e, d__law_deed_5, d__law_deed_6, dRet, dRetN, dAndV, dOrV, dNotV, dIf, dIsi, dIsi2, dVar, dC, dBin, dChain, dTest, dAnd, dOr, dNot, dCons, dNil, dFrzL, dFrz, dCall, dCallW, dSeq, dNext, dIfS, dNever, dDrop, dAsg, dName, dStore, dPar, dRCons, dRNil, dKeepL, dKeep, dStoreL, dSl, dPart, dNoPart, dopSl, dCB, viewL, view, En.hold, D.ty, dBack, initS, dopAdd, dopI, dopI0, dopB0, dopSub, dopMul, dopDiv, dopMod, dopLt, dopLe, dopGt, dopGe, dopEq, dopNe, dopIn, dopIx, dTupE, dLstE, dopLen, dopAbs, dopInt, dopSum, dopAll, dopMax, dopList, dopTuple, dLc, dLcO, dYes, dRng1, dSeqI, dgNil, dgCons, dgTup, dgUnl, dMt, mtAt, dmAppend, dmPopAt, dmInsert, dgSub, setAt, dBoxIx, dToBox, dgBox, dM1, dopJoin, dopStripC, dLsR, dopPow, dSortSet, dFor, DSt.wipe, wipeS, pick, eqD_int, eqD_str, plain_int, plain_str, plain_bl, plain_non, kb_int_int, kb_int_bool, kb_str_str, kb_list_list, kb_list_tuple, kb_tuple_list, kb_tuple_tuple, List.replicate, box0, box1, box2, box3]
  split
  · rename_i w0
    subst w0
    refine ⟨by omega, j, (ixN_seq (ixN_nat hj)).1, ⟨_, _, List.getElem?_eq_getElem hj, rfl⟩, ?_⟩
    have kk := k _ (.without (j : Int) _ (ok_ch hc) h0 h2)
    have e : (l.eraseIdx j).map ch = (l.map ch).eraseIdx j := by
      rw [List.eraseIdx_eq_take_drop_succ, List.eraseIdx_eq_take_drop_succ, List.map_append, List.map_take, List.map_drop]
    rw [show ((j : Int)).toNat = j from by omega, e] at kk
    exact kk
  split
  · rename_i _ w1
    subst w1
    have j1 := h1 rfl
    obtain ⟨i, rfl⟩ : ∃ i : Nat, j = i + 1 := ⟨j - 1, by omega⟩
    have at1 := ch_at (l := l) (i := i) (by omega)
    refine ⟨_, at0, _, (by rw [show ((i + 1 : Nat) : Int) - 1 = (i : Int) from by omega]; exact at1), by decide, ?_⟩
    rw [cut_take _ (show 0 ≤ ((i + 1 : Nat) : Int) - 1 by omega) (by rw [List.length_map]; omega), cut_drop _ (show 0 ≤ ((i + 1 : Nat) : Int) + 1 by omega) (by rw [List.length_map]; omega)]
    rw [show (((i + 1 : Nat) : Int) - 1).toNat = i from by omega, show (((i + 1 : Nat) : Int) + 1).toNat = i + 2 from by omega]
    simp only [List.length_take, List.length_drop, List.length_map, sz]
    refine ⟨by omega, by omega, ?_⟩
    have kk := k _ (.moved ((i + 1 : Nat) : Int) _ (ok_ch hc) j1 h2)
    simp at kk ⊢
    exact kk
  split
  · rename_i _ _ w2
    subst w2
    refine ⟨_, at0, _, _, ⟨rfl, rfl⟩, by rw [sz]; omega, by omega, by omega, ?_⟩
    have kk := k _ (.doubled (j : Int) _ (ok_ch hc) h0 h2 (h3 rfl))
    have e : (l.take (j + 1) ++ l.drop j).map ch = (l.map ch).take j ++ ch (l.getD j 0) :: (l.map ch).drop j := by
      have t : l.take (j + 1) = l.take j ++ [l.getD j 0] := by
        rw [List.take_add_one, List.getD_eq_getElem?_getD, List.getElem?_eq_getElem hj]
        rfl
      rw [t]
      simp only [List.map_append, List.map_take, List.map_drop, List.map_cons, List.map_nil, List.append_assoc, List.cons_append, List.nil_append]
    rw [show ((j : Int)).toNat = j from by omega] at kk ⊢
    rw [e] at kk
    exact kk
  · have w3 : w = 3 := by omega
    subst w3
    refine ⟨j, ixN_nat hj, ?_⟩
    have kk := k _ (.changed (j : Int) c hc h0 h2)
    simp at kk ⊢
    exact kk
theorem vc__law_deed : ∀ ds gs Q2 E2, ds.length = 3 → S__law_deed ds gs Q2 E2 → d__law_deed { nx := fun st => Q2 (.sh .non) st.gs, rt := fun en st => dBack en st fun en' => Q2 en' st.gs, ex := fun ex st => E2 ex st.gs } ⟨initS 8 ds, gs⟩ := by
  rintro _ gs Q E - ⟨l, w, rfl, hl, hn, hw, hw4, hT, h⟩
  show dSeq _ _ _ ⟨[some (.sh .box), some (.sh (.lst (l.map ch))), some (.sh (.int w)), none, none, none, none, none], gs⟩
  have one : ∀ N : DEnds, N.nx ⟨[some (.sh .box), some (.sh (.lst (l.map ch))), some (.sh (.int w)), some (.sh (.int (l.length : Nat))), none, none, none, none], gs⟩ → d__law_deed_1 N ⟨[some (.sh .box), some (.sh (.lst (l.map ch))), some (.sh (.int w)), none, none, none, none, none], gs⟩ := fun N q => by
    simp [d__law_deed_1, dRet, dRetN, dAndV, dOrV, dNotV, dIf, dIsi, dIsi2, dVar, dC, dBin, dChain, dTest, dAnd, dOr, dNot, dCons, dNil, dFrzL, dFrz, dCall, dCallW, dSeq, dNext, dIfS, dNever, dDrop, dAsg, dName, dStore, dPar, dRCons, dRNil, dKeepL, dKeep, dStoreL, dSl, dPart, dNoPart, dopSl, dCB, viewL, view, En.hold, D.ty, dBack, initS, dopAdd, dopI, dopI0, dopB0, dopSub, dopMul, dopDiv, dopMod, dopLt, dopLe, dopGt, dopGe, dopEq, dopNe, dopIn, dopIx, dTupE, dLstE, dopLen, dopAbs, dopInt, dopSum, dopAll, dopMax, dopList, dopTuple, dLc, dLcO, dYes, dRng1, dSeqI, dgNil, dgCons, dgTup, dgUnl, dMt, mtAt, dmAppend, dmPopAt, dmInsert, dgSub, setAt, dBoxIx, dToBox, dgBox, dM1, dopJoin, dopStripC, dLsR, dopPow, dSortSet, dFor, DSt.wipe, wipeS, pick, eqD_int, eqD_str, plain_int, plain_str, plain_bl, plain_non, kb_int_int, kb_int_bool, kb_str_str, kb_list_list, kb_list_tuple, kb_tuple_list, kb_tuple_tuple, List.replicate, box0, box1, box2, box3]
    exact q
  refine one _ ?_
  refine deed_test _ l w gs (deed_part _ l hl hn w gs hT fun ns st hp l1 => ?_) fun n4 nn n1 n2 => ?_
  · exact h _ _ st.gs (.part ns "" ⟨by decide +kernel, by decide +kernel⟩ hp) (l1.mono (by omega))
  refine deed3 _ l hn w (fun z => ?_) nn gs hT fun p c g p0 p1 p2 hc l1 => ?_
  · have pos : 0 < l.length := List.length_pos_iff.mpr nn
    have : l.length ≠ 1 := fun e => n1 ⟨z, e⟩
    omega
  refine deed4 _ l w p c g ?_
  refine deed5 _ l hn w p c hc p0 p1 p2 hw (by omega) (fun z => ?_) g fun l' hd => ?_
  · have : l.length ≠ 2000 := fun e => n2 ⟨z, e⟩
    omega
  · simp [d__law_deed_6, dRet, dRetN, dAndV, dOrV, dNotV, dIf, dIsi, dIsi2, dVar, dC, dBin, dChain, dTest, dAnd, dOr, dNot, dCons, dNil, dFrzL, dFrz, dCall, dCallW, dSeq, dNext, dIfS, dNever, dDrop, dAsg, dName, dStore, dPar, dRCons, dRNil, dKeepL, dKeep, dStoreL, dSl, dPart, dNoPart, dopSl, dCB, viewL, view, En.hold, D.ty, dBack, initS, dopAdd, dopI, dopI0, dopB0, dopSub, dopMul, dopDiv, dopMod, dopLt, dopLe, dopGt, dopGe, dopEq, dopNe, dopIn, dopIx, dTupE, dLstE, dopLen, dopAbs, dopInt, dopSum, dopAll, dopMax, dopList, dopTuple, dLc, dLcO, dYes, dRng1, dSeqI, dgNil, dgCons, dgTup, dgUnl, dMt, mtAt, dmAppend, dmPopAt, dmInsert, dgSub, setAt, dBoxIx, dToBox, dgBox, dM1, dopJoin, dopStripC, dLsR, dopPow, dSortSet, dFor, DSt.wipe, wipeS, pick, eqD_int, eqD_str, plain_int, plain_str, plain_bl, plain_non, kb_int_int, kb_int_bool, kb_str_str, kb_list_list, kb_list_tuple, kb_tuple_list, kb_tuple_tuple, List.replicate, box0, box1, box2, box3, ch]
    refine ⟨by decide, by decide, ?_⟩
    have := h _ l' g hd (l1.mono (by omega))
    simpa [ch] using this
end K02
end VL

set_option Elab.async false
set_option linter.all false
set_option maxRecDepth 100000
set_option maxHeartbeats 1000000
namespace VL
namespace K02
open PySem PySem.Spec PyProof.Rows L2
theorem plain_intL (n : Nat) (ns : List Int) : (D.lst (intL ns)).plain (n + 1) = true := by
  simp only [D.plain]
  rw [plainL_all]
  simp [intL, plain_int]
theorem eqv_intL (ns : List Int) : eqD (.lst (intL ns)) (.lst (intL ns)) = true := by
  rw [eqD_lst]
  unfold intL
  induction ns with
  | nil => simp [pyL, PyData.eqvAll]
  | cons n ns ih => simp [pyL, PyData.eqvAll, D.py, PyData.eqv, ih]
theorem told1 (N : DEnds) (gs : GSt) (a t w x k : D) (hN : N.nx ⟨[some (.sh a), some (.sh (.lst [w, x, k])), some (.sh t), none, none, some (.sh w), some (.sh x), some (.sh k)], gs⟩) :
    d__law_told_1 N ⟨[some (.sh a), some (.sh (.lst [w, x, k])), some (.sh t), none, none, none, none, none], gs⟩ := by
  simp [d__law_told_1, dRet, dRetN, dAndV, dOrV, dNotV, dIf, dIsi, dIsi2, dVar, dC, dBin, dChain, dTest, dAnd, dOr, dNot, dCons, dNil, dFrzL, dFrz, dCall, dCallW, dSeq, dNext, dIfS, dNever, dDrop, dAsg, dName, dStore, dPar, dRCons, dRNil, dKeepL, dKeep, dStoreL, dSl, dPart, dNoPart, dopSl, dCB, viewL, view, En.hold, D.ty, dBack, initS, dopAdd, dopI, dopI0, dopB0, dopSub, dopMul, dopDiv, dopMod, dopLt, dopLe, dopGt, dopGe, dopEq, dopNe, dopIn, dopIx, dTupE, dLstE, dopLen, dopAbs, dopInt, dopSum, dopAll, dopMax, dopList, dopTuple, dLc, dLcO, dYes, dRng1, dSeqI, dgNil, dgCons, dgTup, dgUnl, dMt, mtAt, dmAppend, dmPopAt, dmInsert, dgSub, setAt, dBoxIx, dToBox, dgBox, dM1, dopJoin, dopStripC, dLsR, dopPow, dSortSet, dFor, DSt.wipe, wipeS, pick, eqD_int, eqD_str, plain_int, plain_str, plain_bl, plain_non, kb_int_int, kb_int_bool, kb_str_str, kb_list_list, kb_list_tuple, kb_tuple_list, kb_tuple_tuple, List.replicate, box0, box1, box2, box3]
  exact ⟨w, [x, k], ⟨rfl, rfl⟩, x, [k], rfl, k, [], rfl, rfl, hN⟩
section
variable (N : DEnds) (gs : GSt) (a t x k dd : D) (w : Int)
theorem told2 (h1 : w = 0 → d__law_told_2t N ⟨[some (.sh a), some (.sh dd), some (.sh t), none, none, some (.sh (.int w)), some (.sh x), some (.sh k)], gs⟩) (h2 : w ≠ 0 → N.nx ⟨[some (.sh a), some (.sh dd), some (.sh t), none, none, some (.sh (.int w)), some (.sh x), some (.sh k)], gs⟩) :
    d__law_told_2 N ⟨[some (.sh a), some (.sh dd), some (.sh t), none, none, some (.sh (.int w)), some (.sh x), some (.sh k)], gs⟩ := by
  generalize hA : d__law_told_2t = A at h1
  simp [d__law_told_2, hA, dRet, dRetN, dAndV, dOrV, dNotV, dIf, dIsi, dIsi2, dVar, dC, dBin, dChain, dTest, dAnd, dOr, dNot, dCons, dNil, dFrzL, dFrz, dCall, dCallW, dSeq, dNext, dIfS, dNever, dDrop, dAsg, dName, dStore, dPar, dRCons, dRNil, dKeepL, dKeep, dStoreL, dSl, dPart, dNoPart, dopSl, dCB, viewL, view, En.hold, D.ty, dBack, initS, dopAdd, dopI, dopI0, dopB0, dopSub, dopMul, dopDiv, dopMod, dopLt, dopLe, dopGt, dopGe, dopEq, dopNe, dopIn, dopIx, dTupE, dLstE, dopLen, dopAbs, dopInt, dopSum, dopAll, dopMax, dopList, dopTuple, dLc, dLcO, dYes, dRng1, dSeqI, dgNil, dgCons, dgTup, dgUnl, dMt, mtAt, dmAppend, dmPopAt, dmInsert, dgSub, setAt, dBoxIx, dToBox, dgBox, dM1, dopJoin, dopStripC, dLsR, dopPow, dSortSet, dFor, DSt.wipe, wipeS, pick, eqD_int, eqD_str, plain_int, plain_str, plain_bl, plain_non, kb_int_int, kb_int_bool, kb_str_str, kb_list_list, kb_list_tuple, kb_tuple_list, kb_tuple_tuple, List.replicate, box0, box1, box2, box3]
  split <;> first | exact h1 (by assumption) | exact h2 (by assumption)
theorem told3 (h1 : w = 1 → d__law_told_3t N ⟨[some (.sh a), some (.sh dd), some (.sh t), none, none, some (.sh (.int w)), some (.sh x), some (.sh k)], gs⟩) (h2 : w ≠ 1 → N.nx ⟨[some (.sh a), some (.sh dd), some (.sh t), none, none, some (.sh (.int w)), some (.sh x), some (.sh k)], gs⟩) :
    d__law_told_3 N ⟨[some (.sh a), some (.sh dd), some (.sh t), none, none, some (.sh (.int w)), some (.sh x), some (.sh k)], gs⟩ := by
  generalize hA : d__law_told_3t = A at h1
  simp [d__law_told_3, hA, dRet, dRetN, dAndV, dOrV, dNotV, dIf, dIsi, dIsi2, dVar, dC, dBin, dChain, dTest, dAnd, dOr, dNot, dCons, dNil, dFrzL, dFrz, dCall, dCallW, dSeq, dNext, dIfS, dNever, dDrop, dAsg, dName, dStore, dPar, dRCons, dRNil, dKeepL, dKeep, dStoreL, dSl, dPart, dNoPart, dopSl, dCB, viewL, view, En.hold, D.ty, dBack, initS, dopAdd, dopI, dopI0, dopB0, dopSub, dopMul, dopDiv, dopMod, dopLt, dopLe, dopGt, dopGe, dopEq, dopNe, dopIn, dopIx, dTupE, dLstE, dopLen, dopAbs, dopInt, dopSum, dopAll, dopMax, dopList, dopTuple, dLc, dLcO, dYes, dRng1, dSeqI, dgNil, dgCons, dgTup, dgUnl, dMt, mtAt, dmAppend, dmPopAt, dmInsert, dgSub, setAt, dBoxIx, dToBox, dgBox, dM1, dopJoin, dopStripC, dLsR, dopPow, dSortSet, dFor, DSt.wipe, wipeS, pick, eqD_int, eqD_str, plain_int, plain_str, plain_bl, plain_non, kb_int_int, kb_int_bool, kb_str_str, kb_list_list, kb_list_tuple, kb_tuple_list, kb_tuple_tuple, List.replicate, box0, box1, box2, box3]
  split <;> first | exact h1 (by assumption) | exact h2 (by assumption)
theorem told4 (h1 : w = 2 → d__law_told_4t N ⟨[some (.sh a), some (.sh dd), some (.sh t), none, none, some (.sh (.int w)), some (.sh x), some (.sh k)], gs⟩) (h2 : w ≠ 2 → N.nx ⟨[some (.sh a), some (.sh dd), some (.sh t), none, none, some (.sh (.int w)), some (.sh x), some (.sh k)], gs⟩) :
    d__law_told_4 N ⟨[some (.sh a), some (.sh dd), some (.sh t), none, none, some (.sh (.int w)), some (.sh x), some (.sh k)], gs⟩ := by
  generalize hA : d__law_told_4t = A at h1
  simp [d__law_told_4, hA, dRet, dRetN, dAndV, dOrV, dNotV, dIf, dIsi, dIsi2, dVar, dC, dBin, dChain, dTest, dAnd, dOr, dNot, dCons, dNil, dFrzL, dFrz, dCall, dCallW, dSeq, dNext, dIfS, dNever, dDrop, dAsg, dName, dStore, dPar, dRCons, dRNil, dKeepL, dKeep, dStoreL, dSl, dPart, dNoPart, dopSl, dCB, viewL, view, En.hold, D.ty, dBack, initS, dopAdd, dopI, dopI0, dopB0, dopSub, dopMul, dopDiv, dopMod, dopLt, dopLe, dopGt, dopGe, dopEq, dopNe, dopIn, dopIx, dTupE, dLstE, dopLen, dopAbs, dopInt, dopSum, dopAll, dopMax, dopList, dopTuple, dLc, dLcO, dYes, dRng1, dSeqI, dgNil, dgCons, dgTup, dgUnl, dMt, mtAt, dmAppend, dmPopAt, dmInsert, dgSub, setAt, dBoxIx, dToBox, dgBox, dM1, dopJoin, dopStripC, dLsR, dopPow, dSortSet, dFor, DSt.wipe, wipeS, pick, eqD_int, eqD_str, plain_int, plain_str, plain_bl, plain_non, kb_int_int, kb_int_bool, kb_str_str, kb_list_list, kb_list_tuple, kb_tuple_list, kb_tuple_tuple, List.replicate, box0, box1, box2, box3]
  split <;> first | exact h1 (by assumption) | exact h2 (by assumption)
theorem told5 (h1 : w = 3 → d__law_told_5t N ⟨[some (.sh a), some (.sh dd), some (.sh t), none, none, some (.sh (.int w)), some (.sh x), some (.sh k)], gs⟩) (h2 : w ≠ 3 → N.nx ⟨[some (.sh a), some (.sh dd), some (.sh t), none, none, some (.sh (.int w)), some (.sh x), some (.sh k)], gs⟩) :
    d__law_told_5 N ⟨[some (.sh a), some (.sh dd), some (.sh t), none, none, some (.sh (.int w)), some (.sh x), some (.sh k)], gs⟩ := by
  generalize hA : d__law_told_5t = A at h1
  simp [d__law_told_5, hA, dRet, dRetN, dAndV, dOrV, dNotV, dIf, dIsi, dIsi2, dVar, dC, dBin, dChain, dTest, dAnd, dOr, dNot, dCons, dNil, dFrzL, dFrz, dCall, dCallW, dSeq, dNext, dIfS, dNever, dDrop, dAsg, dName, dStore, dPar, dRCons, dRNil, dKeepL, dKeep, dStoreL, dSl, dPart, dNoPart, dopSl, dCB, viewL, view, En.hold, D.ty, dBack, initS, dopAdd, dopI, dopI0, dopB0, dopSub, dopMul, dopDiv, dopMod, dopLt, dopLe, dopGt, dopGe, dopEq, dopNe, dopIn, dopIx, dTupE, dLstE, dopLen, dopAbs, dopInt, dopSum, dopAll, dopMax, dopList, dopTuple, dLc, dLcO, dYes, dRng1, dSeqI, dgNil, dgCons, dgTup, dgUnl, dMt, mtAt, dmAppend, dmPopAt, dmInsert, dgSub, setAt, dBoxIx, dToBox, dgBox, dM1, dopJoin, dopStripC, dLsR, dopPow, dSortSet, dFor, DSt.wipe, wipeS, pick, eqD_int, eqD_str, plain_int, plain_str, plain_bl, plain_non, kb_int_int, kb_int_bool, kb_str_str, kb_list_list, kb_list_tuple, kb_tuple_list, kb_tuple_tuple, List.replicate, box0, box1, box2, box3]
  split <;> first | exact h1 (by assumption) | exact h2 (by assumption)
end
/-- all of a deed's ifs -/
theorem told_go (N : DEnds) (gs : GSt) (a t x k : D) (w : Int)
    (h2 : w = 0 → ∀ N' : DEnds, N'.rt = N.rt → d__law_told_2t N' ⟨[some (.sh a), some (.sh (.lst [.int w, x, k])), some (.sh t), none, none, some (.sh (.int w)), some (.sh x), some (.sh k)], gs⟩)
    (h3 : w = 1 → ∀ N' : DEnds, N'.rt = N.rt → d__law_told_3t N' ⟨[some (.sh a), some (.sh (.lst [.int w, x, k])), some (.sh t), none, none, some (.sh (.int w)), some (.sh x), some (.sh k)], gs⟩)
    (h4 : w = 2 → ∀ N' : DEnds, N'.rt = N.rt → d__law_told_4t N' ⟨[some (.sh a), some (.sh (.lst [.int w, x, k])), some (.sh t), none, none, some (.sh (.int w)), some (.sh x), some (.sh k)], gs⟩)
    (h5 : w = 3 → ∀ N' : DEnds, N'.rt = N.rt → d__law_told_5t N' ⟨[some (.sh a), some (.sh (.lst [.int w, x, k])), some (.sh t), none, none, some (.sh (.int w)), some (.sh x), some (.sh k)], gs⟩)
    (h6 : w ≠ 0 → w ≠ 1 → w ≠ 2 → w ≠ 3 → (dSeq d__law_told_6 (dSeq d__law_told_7 d__law_told_8)) N ⟨[some (.sh a), some (.sh (.lst [.int w, x, k])), some (.sh t), none, none, some (.sh (.int w)), some (.sh x), some (.sh k)], gs⟩) :
    d__law_told N ⟨[some (.sh a), some (.sh (.lst [.int w, x, k])), some (.sh t), none, none, none, none, none], gs⟩ := by
  show dSeq _ _ _ _
  refine told1 _ gs a t (.int w) x k ?_
  refine told2 _ gs a t x k _ w (fun z => h2 z _ rfl) fun n0 => ?_
  refine told3 _ gs a t x k _ w (fun z => h3 z _ rfl) fun n1 => ?_
  refine told4 _ gs a t x k _ w (fun z => h4 z _ rfl) fun n2 => ?_
  refine told5 _ gs a t x k _ w (fun z => h5 z _ rfl) fun n3 => ?_
  exact h6 n0 n1 n2 n3
theorem told_part (N : DEnds) (gs : GSt) (l : List Nat) (hl : abc l) (hn : l.length ≤ 2000) (t : Int) (ns : List Int) (hp : places ns l.length) (k : Str) (dd : D) (kk : ∀ st, st.gs = gs → N.rt (.sh (.str (mk (mat l ns)))) st) :
    (dSeq d__law_told_6 (dSeq d__law_told_7 d__law_told_8)) N ⟨[some (.sh (.str (mk l))), some (.sh dd), some (.sh (.int t)), none, none, some (.sh (.int 4)), some (.sh (.lst (intL ns))), some (.sh (.str k))], gs⟩ := by
  by_cases c : t = 0
  · subst c
    simp [d__law_told_6, d__law_told_7, d__law_told_8, dRet, dRetN, dAndV, dOrV, dNotV, dIf, dIsi, dIsi2, dVar, dC, dBin, dChain, dTest, dAnd, dOr, dNot, dCons, dNil, dFrzL, dFrz, dCall, dCallW, dSeq, dNext, dIfS, dNever, dDrop, dAsg, dName, dStore, dPar, dRCons, dRNil, dKeepL, dKeep, dStoreL, dSl, dPart, dNoPart, dopSl, dCB, viewL, view, En.hold, D.ty, dBack, initS, dopAdd, dopI, dopI0, dopB0, dopSub, dopMul, dopDiv, dopMod, dopLt, dopLe, dopGt, dopGe, dopEq, dopNe, dopIn, dopIx, dTupE, dLstE, dopLen, dopAbs, dopInt, dopSum, dopAll, dopMax, dopList, dopTuple, dLc, dLcO, dYes, dRng1, dSeqI, dgNil, dgCons, dgTup, dgUnl, dMt, mtAt, dmAppend, dmPopAt, dmInsert, dgSub, setAt, dBoxIx, dToBox, dgBox, dM1, dopJoin, dopStripC, dLsR, dopPow, dSortSet, dFor, DSt.wipe, wipeS, pick, eqD_int, eqD_str, plain_int, plain_str, plain_bl, plain_non, kb_int_int, kb_int_bool, kb_str_str, kb_list_list, kb_list_tuple, kb_tuple_list, kb_tuple_tuple, List.replicate, box0, box1, box2, box3, S_part, plain_intL, eqv_intL]
    refine ⟨l, _, ⟨rfl, rfl⟩, ns, .inr rfl, hl, hn, hp, kk _ rfl⟩
  · simp [d__law_told_6, d__law_told_7, d__law_told_8, dRet, dRetN, dAndV, dOrV, dNotV, dIf, dIsi, dIsi2, dVar, dC, dBin, dChain, dTest, dAnd, dOr, dNot, dCons, dNil, dFrzL, dFrz, dCall, dCallW, dSeq, dNext, dIfS, dNever, dDrop, dAsg, dName, dStore, dPar, dRCons, dRNil, dKeepL, dKeep, dStoreL, dSl, dPart, dNoPart, dopSl, dCB, viewL, view, En.hold, D.ty, dBack, initS, dopAdd, dopI, dopI0, dopB0, dopSub, dopMul, dopDiv, dopMod, dopLt, dopLe, dopGt, dopGe, dopEq, dopNe, dopIn, dopIx, dTupE, dLstE, dopLen, dopAbs, dopInt, dopSum, dopAll, dopMax, dopList, dopTuple, dLc, dLcO, dYes, dRng1, dSeqI, dgNil, dgCons, dgTup, dgUnl, dMt, mtAt, dmAppend, dmPopAt, dmInsert, dgSub, setAt, dBoxIx, dToBox, dgBox, dM1, dopJoin, dopStripC, dLsR, dopPow, dSortSet, dFor, DSt.wipe, wipeS, pick, eqD_int, eqD_str, plain_int, plain_str, plain_bl, plain_non, kb_int_int, kb_int_bool, kb_str_str, kb_list_list, kb_list_tuple, kb_tuple_list, kb_tuple_tuple, List.replicate, box0, box1, box2, box3, S_part, plain_intL, eqv_intL, c]
    refine ⟨l, _, ⟨rfl, rfl⟩, ns, .inl rfl, hl, hn, hp, kk _ rfl⟩
theorem vc__law_told : ∀ ds gs Q2 E2, ds.length = 3 → S__law_told ds gs Q2 E2 → d__law_told { nx := fun st => Q2 (.sh .non) st.gs, rt := fun en st => dBack en st fun en' => Q2 en' st.gs, ex := fun ex st => E2 ex st.gs } ⟨initS 8 ds, gs⟩ := by
  rintro _ gs Q E - ⟨l, dd, l', t, rfl, hd, hl, hn, h⟩
  cases hd with
  | without p k hk h0 h1 =>
    refine told_go _ gs _ _ _ _ 0 (fun _ N' e => ?_) (fun z => absurd z (by decide)) (fun z => absurd z (by decide)) (fun z => absurd z (by decide)) (fun z => absurd rfl z)
    by_cases c : t = 0
    · simp [d__law_told_2t, dRet, dRetN, dAndV, dOrV, dNotV, dIf, dIsi, dIsi2, dVar, dC, dBin, dChain, dTest, dAnd, dOr, dNot, dCons, dNil, dFrzL, dFrz, dCall, dCallW, dSeq, dNext, dIfS, dNever, dDrop, dAsg, dName, dStore, dPar, dRCons, dRNil, dKeepL, dKeep, dStoreL, dSl, dPart, dNoPart, dopSl, dCB, viewL, view, En.hold, D.ty, dBack, initS, dopAdd, dopI, dopI0, dopB0, dopSub, dopMul, dopDiv, dopMod, dopLt, dopLe, dopGt, dopGe, dopEq, dopNe, dopIn, dopIx, dTupE, dLstE, dopLen, dopAbs, dopInt, dopSum, dopAll, dopMax, dopList, dopTuple, dLc, dLcO, dYes, dRng1, dSeqI, dgNil, dgCons, dgTup, dgUnl, dMt, mtAt, dmAppend, dmPopAt, dmInsert, dgSub, setAt, dBoxIx, dToBox, dgBox, dM1, dopJoin, dopStripC, dLsR, dopPow, dSortSet, dFor, DSt.wipe, wipeS, pick, eqD_int, eqD_str, plain_int, plain_str, plain_bl, plain_non, kb_int_int, kb_int_bool, kb_str_str, kb_list_list, kb_list_tuple, kb_tuple_list, kb_tuple_tuple, List.replicate, box0, box1, box2, box3, S_without, c, e]
      exact ⟨l, p, ⟨rfl, rfl⟩, hl, hn, h0, h1, h⟩
    · simp [d__law_told_2t, dRet, dRetN, dAndV, dOrV, dNotV, dIf, dIsi, dIsi2, dVar, dC, dBin, dChain, dTest, dAnd, dOr, dNot, dCons, dNil, dFrzL, dFrz, dCall, dCallW, dSeq, dNext, dIfS, dNever, dDrop, dAsg, dName, dStore, dPar, dRCons, dRNil, dKeepL, dKeep, dStoreL, dSl, dPart, dNoPart, dopSl, dCB, viewL, view, En.hold, D.ty, dBack, initS, dopAdd, dopI, dopI0, dopB0, dopSub, dopMul, dopDiv, dopMod, dopLt, dopLe, dopGt, dopGe, dopEq, dopNe, dopIn, dopIx, dTupE, dLstE, dopLen, dopAbs, dopInt, dopSum, dopAll, dopMax, dopList, dopTuple, dLc, dLcO, dYes, dRng1, dSeqI, dgNil, dgCons, dgTup, dgUnl, dMt, mtAt, dmAppend, dmPopAt, dmInsert, dgSub, setAt, dBoxIx, dToBox, dgBox, dM1, dopJoin, dopStripC, dLsR, dopPow, dSortSet, dFor, DSt.wipe, wipeS, pick, eqD_int, eqD_str, plain_int, plain_str, plain_bl, plain_non, kb_int_int, kb_int_bool, kb_str_str, kb_list_list, kb_list_tuple, kb_tuple_list, kb_tuple_tuple, List.replicate, box0, box1, box2, box3, S_without, c, e]
      exact ⟨l, p, ⟨rfl, rfl⟩, hl, hn, h0, h1, h⟩
  | moved p k hk h0 h1 =>
    refine told_go _ gs _ _ _ _ 1 (fun z => absurd z (by decide)) (fun _ N' e => ?_) (fun z => absurd z (by decide)) (fun z => absurd z (by decide)) (fun _ z => absurd rfl z)
    by_cases c : t = 0
    · simp [d__law_told_3t, dRet, dRetN, dAndV, dOrV, dNotV, dIf, dIsi, dIsi2, dVar, dC, dBin, dChain, dTest, dAnd, dOr, dNot, dCons, dNil, dFrzL, dFrz, dCall, dCallW, dSeq, dNext, dIfS, dNever, dDrop, dAsg, dName, dStore, dPar, dRCons, dRNil, dKeepL, dKeep, dStoreL, dSl, dPart, dNoPart, dopSl, dCB, viewL, view, En.hold, D.ty, dBack, initS, dopAdd, dopI, dopI0, dopB0, dopSub, dopMul, dopDiv, dopMod, dopLt, dopLe, dopGt, dopGe, dopEq, dopNe, dopIn, dopIx, dTupE, dLstE, dopLen, dopAbs, dopInt, dopSum, dopAll, dopMax, dopList, dopTuple, dLc, dLcO, dYes, dRng1, dSeqI, dgNil, dgCons, dgTup, dgUnl, dMt, mtAt, dmAppend, dmPopAt, dmInsert, dgSub, setAt, dBoxIx, dToBox, dgBox, dM1, dopJoin, dopStripC, dLsR, dopPow, dSortSet, dFor, DSt.wipe, wipeS, pick, eqD_int, eqD_str, plain_int, plain_str, plain_bl, plain_non, kb_int_int, kb_int_bool, kb_str_str, kb_list_list, kb_list_tuple, kb_tuple_list, kb_tuple_tuple, List.replicate, box0, box1, box2, box3, S_moved_up, c, e]
      exact ⟨l, p, ⟨rfl, rfl⟩, hl, hn, h0, h1, by simpa using h⟩
    · simp [d__law_told_3t, dRet, dRetN, dAndV, dOrV, dNotV, dIf, dIsi, dIsi2, dVar, dC, dBin, dChain, dTest, dAnd, dOr, dNot, dCons, dNil, dFrzL, dFrz, dCall, dCallW, dSeq, dNext, dIfS, dNever, dDrop, dAsg, dName, dStore, dPar, dRCons, dRNil, dKeepL, dKeep, dStoreL, dSl, dPart, dNoPart, dopSl, dCB, viewL, view, En.hold, D.ty, dBack, initS, dopAdd, dopI, dopI0, dopB0, dopSub, dopMul, dopDiv, dopMod, dopLt, dopLe, dopGt, dopGe, dopEq, dopNe, dopIn, dopIx, dTupE, dLstE, dopLen, dopAbs, dopInt, dopSum, dopAll, dopMax, dopList, dopTuple, dLc, dLcO, dYes, dRng1, dSeqI, dgNil, dgCons, dgTup, dgUnl, dMt, mtAt, dmAppend, dmPopAt, dmInsert, dgSub, setAt, dBoxIx, dToBox, dgBox, dM1, dopJoin, dopStripC, dLsR, dopPow, dSortSet, dFor, DSt.wipe, wipeS, pick, eqD_int, eqD_str, plain_int, plain_str, plain_bl, plain_non, kb_int_int, kb_int_bool, kb_str_str, kb_list_list, kb_list_tuple, kb_tuple_list, kb_tuple_tuple, List.replicate, box0, box1, box2, box3, S_moved_up, c, e]
      exact ⟨l, p, ⟨rfl, rfl⟩, hl, hn, h0, h1, by simpa using h⟩
  | doubled p k hk h0 h1 h2 =>
    refine told_go _ gs _ _ _ _ 2 (fun z => absurd z (by decide)) (fun z => absurd z (by decide)) (fun _ N' e => ?_) (fun z => absurd z (by decide)) (fun _ _ z => absurd rfl z)
    by_cases c : t = 0
    · simp [d__law_told_4t, dRet, dRetN, dAndV, dOrV, dNotV, dIf, dIsi, dIsi2, dVar, dC, dBin, dChain, dTest, dAnd, dOr, dNot, dCons, dNil, dFrzL, dFrz, dCall, dCallW, dSeq, dNext, dIfS, dNever, dDrop, dAsg, dName, dStore, dPar, dRCons, dRNil, dKeepL, dKeep, dStoreL, dSl, dPart, dNoPart, dopSl, dCB, viewL, view, En.hold, D.ty, dBack, initS, dopAdd, dopI, dopI0, dopB0, dopSub, dopMul, dopDiv, dopMod, dopLt, dopLe, dopGt, dopGe, dopEq, dopNe, dopIn, dopIx, dTupE, dLstE, dopLen, dopAbs, dopInt, dopSum, dopAll, dopMax, dopList, dopTuple, dLc, dLcO, dYes, dRng1, dSeqI, dgNil, dgCons, dgTup, dgUnl, dMt, mtAt, dmAppend, dmPopAt, dmInsert, dgSub, setAt, dBoxIx, dToBox, dgBox, dM1, dopJoin, dopStripC, dLsR, dopPow, dSortSet, dFor, DSt.wipe, wipeS, pick, eqD_int, eqD_str, plain_int, plain_str, plain_bl, plain_non, kb_int_int, kb_int_bool, kb_str_str, kb_list_list, kb_list_tuple, kb_tuple_list, kb_tuple_tuple, List.replicate, box0, box1, box2, box3, S_doubled, c, e]
      exact ⟨l, p, ⟨rfl, rfl⟩, hl, h2, h0, h1, h⟩
    · simp [d__law_told_4t, dRet, dRetN, dAndV, dOrV, dNotV, dIf, dIsi, dIsi2, dVar, dC, dBin, dChain, dTest, dAnd, dOr, dNot, dCons, dNil, dFrzL, dFrz, dCall, dCallW, dSeq, dNext, dIfS, dNever, dDrop, dAsg, dName, dStore, dPar, dRCons, dRNil, dKeepL, dKeep, dStoreL, dSl, dPart, dNoPart, dopSl, dCB, viewL, view, En.hold, D.ty, dBack, initS, dopAdd, dopI, dopI0, dopB0, dopSub, dopMul, dopDiv, dopMod, dopLt, dopLe, dopGt, dopGe, dopEq, dopNe, dopIn, dopIx, dTupE, dLstE, dopLen, dopAbs, dopInt, dopSum, dopAll, dopMax, dopList, dopTuple, dLc, dLcO, dYes, dRng1, dSeqI, dgNil, dgCons, dgTup, dgUnl, dMt, mtAt, dmAppend, dmPopAt, dmInsert, dgSub, setAt, dBoxIx, dToBox, dgBox, dM1, dopJoin, dopStripC, dLsR, dopPow, dSortSet, dFor, DSt.wipe, wipeS, pick, eqD_int, eqD_str, plain_int, plain_str, plain_bl, plain_non, kb_int_int, kb_int_bool, kb_str_str, kb_list_list, kb_list_tuple, kb_tuple_list, kb_tuple_tuple, List.replicate, box0, box1, box2, box3, S_doubled, c, e]
      exact ⟨l, p, ⟨rfl, rfl⟩, hl, h2, h0, h1, h⟩
  | changed p c' hc h0 h1 =>
    refine told_go _ gs _ _ _ _ 3 (fun z => absurd z (by decide)) (fun z => absurd z (by decide)) (fun z => absurd z (by decide)) (fun _ N' e => ?_) (fun _ _ _ z => absurd rfl z)
    by_cases c : t = 0
    · simp [d__law_told_5t, dRet, dRetN, dAndV, dOrV, dNotV, dIf, dIsi, dIsi2, dVar, dC, dBin, dChain, dTest, dAnd, dOr, dNot, dCons, dNil, dFrzL, dFrz, dCall, dCallW, dSeq, dNext, dIfS, dNever, dDrop, dAsg, dName, dStore, dPar, dRCons, dRNil, dKeepL, dKeep, dStoreL, dSl, dPart, dNoPart, dopSl, dCB, viewL, view, En.hold, D.ty, dBack, initS, dopAdd, dopI, dopI0, dopB0, dopSub, dopMul, dopDiv, dopMod, dopLt, dopLe, dopGt, dopGe, dopEq, dopNe, dopIn, dopIx, dTupE, dLstE, dopLen, dopAbs, dopInt, dopSum, dopAll, dopMax, dopList, dopTuple, dLc, dLcO, dYes, dRng1, dSeqI, dgNil, dgCons, dgTup, dgUnl, dMt, mtAt, dmAppend, dmPopAt, dmInsert, dgSub, setAt, dBoxIx, dToBox, dgBox, dM1, dopJoin, dopStripC, dLsR, dopPow, dSortSet, dFor, DSt.wipe, wipeS, pick, eqD_int, eqD_str, plain_int, plain_str, plain_bl, plain_non, kb_int_int, kb_int_bool, kb_str_str, kb_list_list, kb_list_tuple, kb_tuple_list, kb_tuple_tuple, List.replicate, box0, box1, box2, box3, S_changed, c, e, ch]
      exact ⟨l, p, c', ⟨rfl, rfl, rfl⟩, hc, hl, hn, h0, h1, h⟩
    · simp [d__law_told_5t, dRet, dRetN, dAndV, dOrV, dNotV, dIf, dIsi, dIsi2, dVar, dC, dBin, dChain, dTest, dAnd, dOr, dNot, dCons, dNil, dFrzL, dFrz, dCall, dCallW, dSeq, dNext, dIfS, dNever, dDrop, dAsg, dName, dStore, dPar, dRCons, dRNil, dKeepL, dKeep, dStoreL, dSl, dPart, dNoPart, dopSl, dCB, viewL, view, En.hold, D.ty, dBack, initS, dopAdd, dopI, dopI0, dopB0, dopSub, dopMul, dopDiv, dopMod, dopLt, dopLe, dopGt, dopGe, dopEq, dopNe, dopIn, dopIx, dTupE, dLstE, dopLen, dopAbs, dopInt, dopSum, dopAll, dopMax, dopList, dopTuple, dLc, dLcO, dYes, dRng1, dSeqI, dgNil, dgCons, dgTup, dgUnl, dMt, mtAt, dmAppend, dmPopAt, dmInsert, dgSub, setAt, dBoxIx, dToBox, dgBox, dM1, dopJoin, dopStripC, dLsR, dopPow, dSortSet, dFor, DSt.wipe, wipeS, pick, eqD_int, eqD_str, plain_int, plain_str, plain_bl, plain_non, kb_int_int, kb_int_bool, kb_str_str, kb_list_list, kb_list_tuple, kb_tuple_list, kb_tuple_tuple, List.replicate, box0, box1, box2, box3, S_changed, c, e, ch]
      exact ⟨l, p, c', ⟨rfl, rfl, rfl⟩, hc, hl, hn, h0, h1, h⟩
  | part ns k hk hp =>
    refine told_go _ gs _ _ _ _ 4 (fun z => absurd z (by decide)) (fun z => absurd z (by decide)) (fun z => absurd z (by decide)) (fun z => absurd z (by decide)) (fun _ _ _ _ => ?_)
    exact told_part _ gs l hl hn t ns hp k _ fun st e => by subst e; exact h
end K02
end VL

set_option Elab.async false
set_option linter.all false
set_option maxRecDepth 100000
set_option maxHeartbeats 1000000
namespace VL
namespace K02
open PySem PySem.Spec PyProof.Rows L2
def boxes : Option En := some (.ow (.lst [.box, .box, .box, .box]))
def rowD (l : List Nat) : D := .lst (l.map ch)
def crowdD (l : List Nat) : D := .str (mk l)
def okR (l : List Nat) : Prop := abc l ∧ l.length ≤ 2000
def okRs (r : List (List Nat)) : Prop := r.length = 2 ∧ ∀ l ∈ r, okR l
def FirstOk (d : D) : Prop := ∃ l dd l', d = .lst [.str (mk l), dd, .lst (l'.map ch)] ∧ Deed l dd l' ∧ okR l
theorem box_at (i : Nat) (h : i < 4) : atI [D.box, D.box, D.box, D.box] (i : Int) = some .box := by
  have c : i = 0 ∨ i = 1 ∨ i = 2 ∨ i = 3 := by omega
  rcases c with rfl | rfl | rfl | rfl <;> rfl
theorem law1 (N : DEnds) (ns : List Int) (gs : GSt) (k : N.nx ⟨[some (.sh (.scr ns)), boxes, none, none, none, none, none, none, none, none, none, none, none, none], gs⟩) :
    d_law_1 N ⟨[some (.sh (.scr ns)), none, none, none, none, none, none, none, none, none, none, none, none, none], gs⟩ := by
  simp [d_law_1, dRet, dRetN, dAndV, dOrV, dNotV, dIf, dIsi, dIsi2, dVar, dC, dBin, dChain, dTest, dAnd, dOr, dNot, dCons, dNil, dFrzL, dFrz, dCall, dCallW, dSeq, dNext, dIfS, dNever, dDrop, dAsg, dName, dStore, dPar, dRCons, dRNil, dKeepL, dKeep, dStoreL, dSl, dPart, dNoPart, dopSl, dCB, viewL, view, En.hold, D.ty, dBack, initS, dopAdd, dopI, dopI0, dopB0, dopSub, dopMul, dopDiv, dopMod, dopLt, dopLe, dopGt, dopGe, dopEq, dopNe, dopIn, dopIx, dTupE, dLstE, dopLen, dopAbs, dopInt, dopSum, dopAll, dopMax, dopList, dopTuple, dLc, dLcO, dYes, dRng1, dSeqI, dgNil, dgCons, dgTup, dgUnl, dMt, mtAt, dmAppend, dmPopAt, dmInsert, dgSub, setAt, dBoxIx, dToBox, dgBox, dM1, dopJoin, dopStripC, dLsR, dopPow, dSortSet, dFor, DSt.wipe, wipeS, pick, eqD_int, eqD_str, plain_int, plain_str, plain_bl, plain_non, kb_int_int, kb_int_bool, kb_str_str, kb_list_list, kb_list_tuple, kb_tuple_list, kb_tuple_tuple, List.replicate, box0, box1, box2, box3, S__law_box, S__law_cell]
  refine dLcL_ix (fun i acc st => st = ⟨[some (.sh (.scr ns)), none, none, none, none, none, none, none, none, none, none, none, none, none], gs⟩ ∧ acc = List.replicate i .box) ?_ ?_ _ _ ⟨rfl, rfl⟩
  · rintro acc st ⟨rfl, rfl⟩
    simp [rangeD_length]
    exact k
  · rintro i dd acc st K hd' hi ⟨rfl, rfl⟩ kk
    obtain ⟨rfl, hi⟩ := range0_get hd'
    have k1 := kk _ _ ⟨rfl, rfl⟩
    rw [← rep_snoc] at k1
    simp [dRet, dRetN, dAndV, dOrV, dNotV, dIf, dIsi, dIsi2, dVar, dC, dBin, dChain, dTest, dAnd, dOr, dNot, dCons, dNil, dFrzL, dFrz, dCall, dCallW, dSeq, dNext, dIfS, dNever, dDrop, dAsg, dName, dStore, dPar, dRCons, dRNil, dKeepL, dKeep, dStoreL, dSl, dPart, dNoPart, dopSl, dCB, viewL, view, En.hold, D.ty, dBack, initS, dopAdd, dopI, dopI0, dopB0, dopSub, dopMul, dopDiv, dopMod, dopLt, dopLe, dopGt, dopGe, dopEq, dopNe, dopIn, dopIx, dTupE, dLstE, dopLen, dopAbs, dopInt, dopSum, dopAll, dopMax, dopList, dopTuple, dLc, dLcO, dYes, dRng1, dSeqI, dgNil, dgCons, dgTup, dgUnl, dMt, mtAt, dmAppend, dmPopAt, dmInsert, dgSub, setAt, dBoxIx, dToBox, dgBox, dM1, dopJoin, dopStripC, dLsR, dopPow, dSortSet, dFor, DSt.wipe, wipeS, pick, eqD_int, eqD_str, plain_int, plain_str, plain_bl, plain_non, kb_int_int, kb_int_bool, kb_str_str, kb_list_list, kb_list_tuple, kb_tuple_list, kb_tuple_tuple, List.replicate, box0, box1, box2, box3, S__law_box, S__law_cell]
    exact ⟨ns, i, ⟨rfl, rfl⟩, by omega, by omega, k1⟩
theorem law2 (N : DEnds) (ns : List Int) (gs : GSt) (hT : gs.T ≤ 100) (k : ∀ b g, later gs 1 g → N.nx ⟨[some (.sh (.scr ns)), boxes, some (.sh (.bl b)), none, none, none, none, none, none, none, none, none, none, none], g⟩) :
    d_law_2 N ⟨[some (.sh (.scr ns)), boxes, none, none, none, none, none, none, none, none, none, none, none, none], gs⟩ := by
  simp [d_law_2, dRet, dRetN, dAndV, dOrV, dNotV, dIf, dIsi, dIsi2, dVar, dC, dBin, dChain, dTest, dAnd, dOr, dNot, dCons, dNil, dFrzL, dFrz, dCall, dCallW, dSeq, dNext, dIfS, dNever, dDrop, dAsg, dName, dStore, dPar, dRCons, dRNil, dKeepL, dKeep, dStoreL, dSl, dPart, dNoPart, dopSl, dCB, viewL, view, En.hold, D.ty, dBack, initS, dopAdd, dopI, dopI0, dopB0, dopSub, dopMul, dopDiv, dopMod, dopLt, dopLe, dopGt, dopGe, dopEq, dopNe, dopIn, dopIx, dTupE, dLstE, dopLen, dopAbs, dopInt, dopSum, dopAll, dopMax, dopList, dopTuple, dLc, dLcO, dYes, dRng1, dSeqI, dgNil, dgCons, dgTup, dgUnl, dMt, mtAt, dmAppend, dmPopAt, dmInsert, dgSub, setAt, dBoxIx, dToBox, dgBox, dM1, dopJoin, dopStripC, dLsR, dopPow, dSortSet, dFor, DSt.wipe, wipeS, pick, eqD_int, eqD_str, plain_int, plain_str, plain_bl, plain_non, kb_int_int, kb_int_bool, kb_str_str, kb_list_list, kb_list_tuple, kb_tuple_list, kb_tuple_tuple, List.replicate, box0, box1, box2, box3, S__law_take, boxes]
  exact ⟨_, box_at 0 (by decide), 8, ⟨rfl, rfl⟩, by decide, by decide, by omega, fun r g r1 r2 l1 => k _ g l1⟩
theorem law3 (N : DEnds) (ns : List Int) (b : Bool) (gs : GSt) (hT : gs.T ≤ 200) (k : ∀ r g, okRs r → later gs 40 g → N.nx ⟨[some (.sh (.scr ns)), boxes, some (.sh (.bl b)), some (.ow (.lst (r.map rowD))), none, none, none, none, none, none, none, none, none, none], g⟩) :
    d_law_3 N ⟨[some (.sh (.scr ns)), boxes, some (.sh (.bl b)), none, none, none, none, none, none, none, none, none, none, none], gs⟩ := by
  simp [d_law_3, dRet, dRetN, dAndV, dOrV, dNotV, dIf, dIsi, dIsi2, dVar, dC, dBin, dChain, dTest, dAnd, dOr, dNot, dCons, dNil, dFrzL, dFrz, dCall, dCallW, dSeq, dNext, dIfS, dNever, dDrop, dAsg, dName, dStore, dPar, dRCons, dRNil, dKeepL, dKeep, dStoreL, dSl, dPart, dNoPart, dopSl, dCB, viewL, view, En.hold, D.ty, dBack, initS, dopAdd, dopI, dopI0, dopB0, dopSub, dopMul, dopDiv, dopMod, dopLt, dopLe, dopGt, dopGe, dopEq, dopNe, dopIn, dopIx, dTupE, dLstE, dopLen, dopAbs, dopInt, dopSum, dopAll, dopMax, dopList, dopTuple, dLc, dLcO, dYes, dRng1, dSeqI, dgNil, dgCons, dgTup, dgUnl, dMt, mtAt, dmAppend, dmPopAt, dmInsert, dgSub, setAt, dBoxIx, dToBox, dgBox, dM1, dopJoin, dopStripC, dLsR, dopPow, dSortSet, dFor, DSt.wipe, wipeS, pick, eqD_int, eqD_str, plain_int, plain_str, plain_bl, plain_non, kb_int_int, kb_int_bool, kb_str_str, kb_list_list, kb_list_tuple, kb_tuple_list, kb_tuple_tuple, List.replicate, box0, box1, box2, box3]
  refine dLcL_ix (fun i acc st => ∃ r g, st = ⟨[some (.sh (.scr ns)), boxes, some (.sh (.bl b)), none, none, none, none, none, none, none, none, none, none, none], g⟩ ∧ acc = r.map rowD ∧ r.length = i ∧ (∀ l ∈ r, okR l) ∧ later gs (20 * i) g) ?_ ?_ _ _ ⟨[], gs, rfl, rfl, rfl, by simp, later.refl _⟩
  · rintro acc st ⟨r, g, rfl, rfl, e, hr, l1⟩
    rw [rangeD_length] at e l1
    exact ⟨(by show 3 < 14; decide), k r g ⟨e, hr⟩ (l1.mono (by omega))⟩
  · rintro i dd acc st K hd' hi ⟨r, g, rfl, rfl, rfl, hr, l1⟩ kk
    obtain ⟨rfl, hi⟩ := range0_get hd'
    have t1 := l1.2.2
    have cont : ∀ x, (S__law_begun [.box, .bl x] g (fun en gs => dFrz en ⟨[some (.sh (.scr ns)), boxes, some (.sh (.bl b)), none, none, none, none, none, none, none, none, some (.sh (.int (r.length : Nat))), none, none], gs⟩ fun y st4 => K (r.map rowD ++ [y]) (st4.wipe [11])) (fun _ _ => False)) := fun x => by
      refine ⟨x, rfl, by omega, fun l g2 a1 a2 l2 => ?_⟩
      have k1 := kk ((r ++ [l]).map rowD) ⟨[some (.sh (.scr ns)), boxes, some (.sh (.bl b)), none, none, none, none, none, none, none, none, none, none, none], g2⟩ ⟨r ++ [l], g2, rfl, rfl, by simp, fun y hy => ?_, (l1.trans l2).mono (by omega)⟩
      · rw [List.map_append] at k1
        exact k1
      · rcases List.mem_append.mp hy with z | z
        · exact hr y z
        · rw [List.mem_singleton.mp z]; exact ⟨a1, a2⟩
    have bx := box_at r.length (by omega)
    simp only [boxes] at cont ⊢
    cases b
    · simp [dRet, dRetN, dAndV, dOrV, dNotV, dIf, dIsi, dIsi2, dVar, dC, dBin, dChain, dTest, dAnd, dOr, dNot, dCons, dNil, dFrzL, dFrz, dCall, dCallW, dSeq, dNext, dIfS, dNever, dDrop, dAsg, dName, dStore, dPar, dRCons, dRNil, dKeepL, dKeep, dStoreL, dSl, dPart, dNoPart, dopSl, dCB, viewL, view, En.hold, D.ty, dBack, initS, dopAdd, dopI, dopI0, dopB0, dopSub, dopMul, dopDiv, dopMod, dopLt, dopLe, dopGt, dopGe, dopEq, dopNe, dopIn, dopIx, dTupE, dLstE, dopLen, dopAbs, dopInt, dopSum, dopAll, dopMax, dopList, dopTuple, dLc, dLcO, dYes, dRng1, dSeqI, dgNil, dgCons, dgTup, dgUnl, dMt, mtAt, dmAppend, dmPopAt, dmInsert, dgSub, setAt, dBoxIx, dToBox, dgBox, dM1, dopJoin, dopStripC, dLsR, dopPow, dSortSet, dFor, DSt.wipe, wipeS, pick, eqD_int, eqD_str, plain_int, plain_str, plain_bl, plain_non, kb_int_int, kb_int_bool, kb_str_str, kb_list_list, kb_list_tuple, kb_tuple_list, kb_tuple_tuple, List.replicate, box0, box1, box2, box3, bx]
      exact cont _
    · simp [dRet, dRetN, dAndV, dOrV, dNotV, dIf, dIsi, dIsi2, dVar, dC, dBin, dChain, dTest, dAnd, dOr, dNot, dCons, dNil, dFrzL, dFrz, dCall, dCallW, dSeq, dNext, dIfS, dNever, dDrop, dAsg, dName, dStore, dPar, dRCons, dRNil, dKeepL, dKeep, dStoreL, dSl, dPart, dNoPart, dopSl, dCB, viewL, view, En.hold, D.ty, dBack, initS, dopAdd, dopI, dopI0, dopB0, dopSub, dopMul, dopDiv, dopMod, dopLt, dopLe, dopGt, dopGe, dopEq, dopNe, dopIn, dopIx, dTupE, dLstE, dopLen, dopAbs, dopInt, dopSum, dopAll, dopMax, dopList, dopTuple, dLc, dLcO, dYes, dRng1, dSeqI, dgNil, dgCons, dgTup, dgUnl, dMt, mtAt, dmAppend, dmPopAt, dmInsert, dgSub, setAt, dBoxIx, dToBox, dgBox, dM1, dopJoin, dopStripC, dLsR, dopPow, dSortSet, dFor, DSt.wipe, wipeS, pick, eqD_int, eqD_str, plain_int, plain_str, plain_bl, plain_non, kb_int_int, kb_int_bool, kb_str_str, kb_list_list, kb_list_tuple, kb_tuple_list, kb_tuple_tuple, List.replicate, box0, box1, box2, box3, bx]
      exact cont _
theorem law4 (N : DEnds) (ns : List Int) (b : Bool) (r : List (List Nat)) (hr : okRs r) (gs : GSt) (k : N.nx ⟨[some (.sh (.scr ns)), boxes, some (.sh (.bl b)), some (.ow (.lst (r.map rowD))), none, some (.ow (.lst (r.map crowdD))), some (.ow (.lst [])), none, none, none, none, none, none, none], gs⟩) :
    d_law_4 N ⟨[some (.sh (.scr ns)), boxes, some (.sh (.bl b)), some (.ow (.lst (r.map rowD))), none, none, none, none, none, none, none, none, none, none], gs⟩ := by
  simp [d_law_4, dRet, dRetN, dAndV, dOrV, dNotV, dIf, dIsi, dIsi2, dVar, dC, dBin, dChain, dTest, dAnd, dOr, dNot, dCons, dNil, dFrzL, dFrz, dCall, dCallW, dSeq, dNext, dIfS, dNever, dDrop, dAsg, dName, dStore, dPar, dRCons, dRNil, dKeepL, dKeep, dStoreL, dSl, dPart, dNoPart, dopSl, dCB, viewL, view, En.hold, D.ty, dBack, initS, dopAdd, dopI, dopI0, dopB0, dopSub, dopMul, dopDiv, dopMod, dopLt, dopLe, dopGt, dopGe, dopEq, dopNe, dopIn, dopIx, dTupE, dLstE, dopLen, dopAbs, dopInt, dopSum, dopAll, dopMax, dopList, dopTuple, dLc, dLcO, dYes, dRng1, dSeqI, dgNil, dgCons, dgTup, dgUnl, dMt, mtAt, dmAppend, dmPopAt, dmInsert, dgSub, setAt, dBoxIx, dToBox, dgBox, dM1, dopJoin, dopStripC, dLsR, dopPow, dSortSet, dFor, DSt.wipe, wipeS, pick, eqD_int, eqD_str, plain_int, plain_str, plain_bl, plain_non, kb_int_int, kb_int_bool, kb_str_str, kb_list_list, kb_list_tuple, kb_tuple_list, kb_tuple_tuple, List.replicate, box0, box1, box2, box3]
  refine dLcL_ix (fun i acc st => st = ⟨[some (.sh (.scr ns)), boxes, some (.sh (.bl b)), none, none, none, none, none, none, none, none, none, none, none], gs⟩ ∧ acc = (r.take i).map crowdD) ?_ ?_ _ _ ⟨rfl, by simp⟩
  · rintro acc st ⟨rfl, rfl⟩
    rw [List.take_of_length_le (by simp)]
    refine ⟨rfl, ?_⟩
    simp
    exact k
  · rintro i dd acc st K hd' hi ⟨rfl, rfl⟩ kk
    rw [List.getElem?_map] at hd'
    obtain ⟨l, hl, rfl⟩ := Option.map_eq_some_iff.mp hd'
    obtain ⟨a1, a2⟩ := hr.2 l (List.mem_of_getElem? hl)
    have k1 := kk _ _ ⟨rfl, rfl⟩
    have e := join_fit l
    rw [List.take_add_one, hl, List.map_append] at k1
    simp [dRet, dRetN, dAndV, dOrV, dNotV, dIf, dIsi, dIsi2, dVar, dC, dBin, dChain, dTest, dAnd, dOr, dNot, dCons, dNil, dFrzL, dFrz, dCall, dCallW, dSeq, dNext, dIfS, dNever, dDrop, dAsg, dName, dStore, dPar, dRCons, dRNil, dKeepL, dKeep, dStoreL, dSl, dPart, dNoPart, dopSl, dCB, viewL, view, En.hold, D.ty, dBack, initS, dopAdd, dopI, dopI0, dopB0, dopSub, dopMul, dopDiv, dopMod, dopLt, dopLe, dopGt, dopGe, dopEq, dopNe, dopIn, dopIx, dTupE, dLstE, dopLen, dopAbs, dopInt, dopSum, dopAll, dopMax, dopList, dopTuple, dLc, dLcO, dYes, dRng1, dSeqI, dgNil, dgCons, dgTup, dgUnl, dMt, mtAt, dmAppend, dmPopAt, dmInsert, dgSub, setAt, dBoxIx, dToBox, dgBox, dM1, dopJoin, dopStripC, dLsR, dopPow, dSortSet, dFor, DSt.wipe, wipeS, pick, eqD_int, eqD_str, plain_int, plain_str, plain_bl, plain_non, kb_int_int, kb_int_bool, kb_str_str, kb_list_list, kb_list_tuple, kb_tuple_list, kb_tuple_tuple, List.replicate, box0, box1, box2, box3, rowD, ch_strs, join_mk]
    simp at e
    exact ⟨by omega, by simpa [crowdD] using k1⟩
end K02
end VL

set_option Elab.async false
set_option linter.all false
set_option maxRecDepth 100000
set_option maxHeartbeats 1000000
namespace VL
namespace K02
open PySem PySem.Spec PyProof.Rows L2
theorem Deed.ok {l : List Nat} {dd : D} {l' : List Nat} (h : Deed l dd l') (hl : okR l) : okR l' := by
  obtain ⟨ha, hn⟩ := hl
  have get : ∀ i : Nat, i < l.length → l.getD i 0 = 97 ∨ l.getD i 0 = 98 ∨ l.getD i 0 = 99 := fun i hi => ha _ (by rw [List.getD_eq_getElem?_getD, List.getElem?_eq_getElem hi]; exact List.getElem_mem hi)
  cases h with
  | without p k hk h0 h1 =>
    refine ⟨fun c hc => ha c (List.mem_of_mem_eraseIdx hc), ?_⟩
    have := List.length_eraseIdx_le l p.toNat
    omega
  | moved p k hk h0 h1 =>
    refine ⟨fun c hc => ?_, ?_⟩
    · rcases List.mem_append.mp hc with z | z
      · rcases List.mem_append.mp z with z | z
        · exact ha c (List.mem_of_mem_take z)
        · simp only [List.mem_cons, List.not_mem_nil, or_false] at z
          rcases z with rfl | rfl
          · exact get _ (by omega)
          · exact get _ (by omega)
      · exact ha c (List.mem_of_mem_drop z)
    · simp only [List.length_append, List.length_take, List.length_drop, List.length_cons, List.length_nil]
      omega
  | doubled p k hk h0 h1 h2 =>
    refine ⟨fun c hc => ?_, ?_⟩
    · rcases List.mem_append.mp hc with z | z
      · exact ha c (List.mem_of_mem_take z)
      · exact ha c (List.mem_of_mem_drop z)
    · simp only [List.length_append, List.length_take, List.length_drop]
      omega
  | changed p c hc h0 h1 =>
    refine ⟨fun d hd => ?_, by rw [List.length_set]; exact hn⟩
    rcases List.mem_or_eq_of_mem_set hd with z | z
    · exact ha d z
    · rw [z]; exact hc
  | part ns k hk hp =>
    refine ⟨fun c hc => ?_, by simp only [mat, List.length_map]; exact hp.2.2⟩
    obtain ⟨n, hn', rfl⟩ := List.mem_map.mp hc
    have := hp.2.1 n hn'
    exact get _ (by omega)
theorem at_map {α : Type} {r : List α} {f : α → D} {k : Nat} {x : α} (h : r[k]? = some x) : atI (r.map f) (k : Int) = some (f x) := atI_nat' (by rw [List.getElem?_map, h]; rfl)
section
variable (N : DEnds) (ns : List Int) (b : Bool) (r : List (List Nat)) (hr : okRs r) (i : Nat) (hi : i < 36) (fs : List D) (x7 x9 x10 x11 x12 : Option En)
abbrev S0 (ns : List Int) (b : Bool) (r : List (List Nat)) (i : Nat) (cs : List D) (fs : List D) (x7 x9 x10 x11 x12 : Option En) (g : GSt) : DSt :=
  ⟨[some (.sh (.scr ns)), boxes, some (.sh (.bl b)), some (.ow (.lst (r.map rowD))), some (.sh (.int (i : Int))), some (.ow (.lst cs)), some (.ow (.lst fs)), x7, none, x9, x10, x11, x12, none], g⟩
theorem body1 (g : GSt) (cs : List D) (hi : i < 36) (k : ∀ j : Nat, j < 2 → N.nx (S0 ns b r i cs fs x7 x9 x10 (some (.sh (.int j))) (some (.sh .box)) g)) : d_law_5b_1 N (S0 ns b r i cs fs x7 x9 x10 x11 x12 g) := by
  have bx := box_at (i / 2 % 4) (by omega)
  have e1 : (i : Int) / 2 % 4 = ((i / 2 % 4 : Nat) : Int) := by omega
  have kk := k (i % 2) (by omega)
  have e2 : ((i % 2 : Nat) : Int) = (i : Int) % 2 := by omega
  rw [e2] at kk
  rw [← e1] at bx
  simp [d_law_5b_1, dRet, dRetN, dAndV, dOrV, dNotV, dIf, dIsi, dIsi2, dVar, dC, dBin, dChain, dTest, dAnd, dOr, dNot, dCons, dNil, dFrzL, dFrz, dCall, dCallW, dSeq, dNext, dIfS, dNever, dDrop, dAsg, dName, dStore, dPar, dRCons, dRNil, dKeepL, dKeep, dStoreL, dSl, dPart, dNoPart, dopSl, dCB, viewL, view, En.hold, D.ty, dBack, initS, dopAdd, dopI, dopI0, dopB0, dopSub, dopMul, dopDiv, dopMod, dopLt, dopLe, dopGt, dopGe, dopEq, dopNe, dopIn, dopIx, dTupE, dLstE, dopLen, dopAbs, dopInt, dopSum, dopAll, dopMax, dopList, dopTuple, dLc, dLcO, dYes, dRng1, dSeqI, dgNil, dgCons, dgTup, dgUnl, dMt, mtAt, dmAppend, dmPopAt, dmInsert, dgSub, setAt, dBoxIx, dToBox, dgBox, dM1, dopJoin, dopStripC, dLsR, dopPow, dSortSet, dFor, DSt.wipe, wipeS, pick, eqD_int, eqD_str, plain_int, plain_str, plain_bl, plain_non, kb_int_int, kb_int_bool, kb_str_str, kb_list_list, kb_list_tuple, kb_tuple_list, kb_tuple_tuple, List.replicate, box0, box1, box2, box3, boxes, bx]
  refine ⟨⟨by decide, by decide⟩, ?_⟩
  exact kk
theorem body2 (g : GSt) (hT : g.T ≤ 10000) (cs : List D) (j : Nat) (l : List Nat) (hj : r[j]? = some l) (hl : okR l) (hi : i < 36)
    (k : ∀ dd l' g', Deed l dd l' → later g 50 g' → N.nx (S0 ns b r i cs fs x7 (some (.sh dd)) (some (.sh (rowD l'))) (some (.sh (.int j))) (some (.sh .box)) g')) :
    d_law_5b_2 N (S0 ns b r i cs fs x7 x9 x10 (some (.sh (.int j))) (some (.sh .box)) g) := by
  have rowat : atI (r.map rowD) (j : Int) = some (rowD l) := at_map hj
  have cont : ∀ w g1, 0 ≤ w → w ≤ 4 → later g 5 g1 → S__law_deed [.box, rowD l, .int w] g1 (fun en gs => (dgTup 2 (dgCons (dName 9) (dgCons (dName 10) dgNil))) en (S0 ns b r i cs fs x7 x9 x10 (some (.sh (.int j))) (some (.sh .box)) gs) N.nx N.ex) (fun ex gs => N.ex ex (S0 ns b r i cs fs x7 x9 x10 (some (.sh (.int j))) (some (.sh .box)) gs)) := by
    intro w g1 w0 w4 l1
    have t1 := l1.2.2
    refine ⟨l, w, rfl, hl.1, hl.2, w0, w4, by omega, fun dd l' g2 hd l2 => ?_⟩
    simp [dRet, dRetN, dAndV, dOrV, dNotV, dIf, dIsi, dIsi2, dVar, dC, dBin, dChain, dTest, dAnd, dOr, dNot, dCons, dNil, dFrzL, dFrz, dCall, dCallW, dSeq, dNext, dIfS, dNever, dDrop, dAsg, dName, dStore, dPar, dRCons, dRNil, dKeepL, dKeep, dStoreL, dSl, dPart, dNoPart, dopSl, dCB, viewL, view, En.hold, D.ty, dBack, initS, dopAdd, dopI, dopI0, dopB0, dopSub, dopMul, dopDiv, dopMod, dopLt, dopLe, dopGt, dopGe, dopEq, dopNe, dopIn, dopIx, dTupE, dLstE, dopLen, dopAbs, dopInt, dopSum, dopAll, dopMax, dopList, dopTuple, dLc, dLcO, dYes, dRng1, dSeqI, dgNil, dgCons, dgTup, dgUnl, dMt, mtAt, dmAppend, dmPopAt, dmInsert, dgSub, setAt, dBoxIx, dToBox, dgBox, dM1, dopJoin, dopStripC, dLsR, dopPow, dSortSet, dFor, DSt.wipe, wipeS, pick, eqD_int, eqD_str, plain_int, plain_str, plain_bl, plain_non, kb_int_int, kb_int_bool, kb_str_str, kb_list_list, kb_list_tuple, kb_tuple_list, kb_tuple_tuple, List.replicate, box0, box1, box2, box3]
    exact ⟨_, _, ⟨rfl, rfl⟩, _, _, rfl, rfl, k dd l' g2 hd ((l1.trans l2).mono (by omega))⟩
  simp only [d_law_5b_2, dAsg, dCall]
  have c := cont
  simp [dRet, dRetN, dAndV, dOrV, dNotV, dIf, dIsi, dIsi2, dVar, dC, dBin, dChain, dTest, dAnd, dOr, dNot, dCons, dNil, dFrzL, dFrz, dCall, dCallW, dSeq, dNext, dIfS, dNever, dDrop, dAsg, dName, dStore, dPar, dRCons, dRNil, dKeepL, dKeep, dStoreL, dSl, dPart, dNoPart, dopSl, dCB, viewL, view, En.hold, D.ty, dBack, initS, dopAdd, dopI, dopI0, dopB0, dopSub, dopMul, dopDiv, dopMod, dopLt, dopLe, dopGt, dopGe, dopEq, dopNe, dopIn, dopIx, dTupE, dLstE, dopLen, dopAbs, dopInt, dopSum, dopAll, dopMax, dopList, dopTuple, dLc, dLcO, dYes, dRng1, dSeqI, dgNil, dgCons, dgTup, dgUnl, dMt, mtAt, dmAppend, dmPopAt, dmInsert, dgSub, setAt, dBoxIx, dToBox, dgBox, dM1, dopJoin, dopStripC, dLsR, dopPow, dSortSet, dFor, DSt.wipe, wipeS, pick, eqD_int, eqD_str, plain_int, plain_str, plain_bl, plain_non, kb_int_int, kb_int_bool, kb_str_str, kb_list_list, kb_list_tuple, kb_tuple_list, kb_tuple_tuple, List.replicate, box0, box1, box2, box3, S__law_take, rowat] at c ⊢
  split
  · exact ⟨by omega, fun q g1 q1 q2 l1 => c q g1 q1 (by omega) (l1.mono (by omega))⟩
  split
  · exact ⟨by omega, fun q g1 q1 q2 l1 => c q g1 q1 (by omega) (l1.mono (by omega))⟩
  · exact ⟨⟨by decide, by decide⟩, c _ g (Int.emod_nonneg _ (by decide)) (by have := Int.emod_lt_of_pos ((i : Int) / 2) (show (0 : Int) < 5 by decide); omega) ((later.refl g).mono (by omega))⟩
theorem body3 (g : GSt) (hT : g.T ≤ 20000) (j : Nat) (l l' : List Nat) (hj : r[j]? = some l) (hl : okR l) (dd : D) (hd : Deed l dd l')
    (k : ∀ g', later g 1 g' → N.nx (S0 ns b r i (r.map crowdD) fs (some (.sh (crowdD l'))) (some (.sh dd)) (some (.sh (rowD l'))) (some (.sh (.int j))) (some (.sh .box)) g')) :
    d_law_5b_3 N (S0 ns b r i (r.map crowdD) fs x7 (some (.sh dd)) (some (.sh (rowD l'))) (some (.sh (.int j))) (some (.sh .box)) g) := by
  have cat : atI (r.map crowdD) (j : Int) = some (crowdD l) := at_map hj
  simp [d_law_5b_3, dRet, dRetN, dAndV, dOrV, dNotV, dIf, dIsi, dIsi2, dVar, dC, dBin, dChain, dTest, dAnd, dOr, dNot, dCons, dNil, dFrzL, dFrz, dCall, dCallW, dSeq, dNext, dIfS, dNever, dDrop, dAsg, dName, dStore, dPar, dRCons, dRNil, dKeepL, dKeep, dStoreL, dSl, dPart, dNoPart, dopSl, dCB, viewL, view, En.hold, D.ty, dBack, initS, dopAdd, dopI, dopI0, dopB0, dopSub, dopMul, dopDiv, dopMod, dopLt, dopLe, dopGt, dopGe, dopEq, dopNe, dopIn, dopIx, dTupE, dLstE, dopLen, dopAbs, dopInt, dopSum, dopAll, dopMax, dopList, dopTuple, dLc, dLcO, dYes, dRng1, dSeqI, dgNil, dgCons, dgTup, dgUnl, dMt, mtAt, dmAppend, dmPopAt, dmInsert, dgSub, setAt, dBoxIx, dToBox, dgBox, dM1, dopJoin, dopStripC, dLsR, dopPow, dSortSet, dFor, DSt.wipe, wipeS, pick, eqD_int, eqD_str, plain_int, plain_str, plain_bl, plain_non, kb_int_int, kb_int_bool, kb_str_str, kb_list_list, kb_list_tuple, kb_tuple_list, kb_tuple_tuple, List.replicate, box0, box1, box2, box3, S__law_take, cat]
  exact ⟨by omega, fun q g1 q1 q2 l1 => ⟨l, dd, l', q, rfl, hd, hl.1, hl.2, k g1 l1⟩⟩
theorem body4 (g : GSt) (j : Nat) (cs : List D) (l' : List Nat) (hl : okR l') (dd : D)
    (k : N.nx (S0 ns b r i cs fs (some (.sh (crowdD l'))) (some (.sh dd)) (some (.sh (rowD l'))) (some (.sh (.int j))) (some (.sh .box)) g)) :
    d_law_5b_4 N (S0 ns b r i cs fs (some (.sh (crowdD l'))) (some (.sh dd)) (some (.sh (rowD l'))) (some (.sh (.int j))) (some (.sh .box)) g) := by
  simp [d_law_5b_4, d_law_5b_4t, dRet, dRetN, dAndV, dOrV, dNotV, dIf, dIsi, dIsi2, dVar, dC, dBin, dChain, dTest, dAnd, dOr, dNot, dCons, dNil, dFrzL, dFrz, dCall, dCallW, dSeq, dNext, dIfS, dNever, dDrop, dAsg, dName, dStore, dPar, dRCons, dRNil, dKeepL, dKeep, dStoreL, dSl, dPart, dNoPart, dopSl, dCB, viewL, view, En.hold, D.ty, dBack, initS, dopAdd, dopI, dopI0, dopB0, dopSub, dopMul, dopDiv, dopMod, dopLt, dopLe, dopGt, dopGe, dopEq, dopNe, dopIn, dopIx, dTupE, dLstE, dopLen, dopAbs, dopInt, dopSum, dopAll, dopMax, dopList, dopTuple, dLc, dLcO, dYes, dRng1, dSeqI, dgNil, dgCons, dgTup, dgUnl, dMt, mtAt, dmAppend, dmPopAt, dmInsert, dgSub, setAt, dBoxIx, dToBox, dgBox, dM1, dopJoin, dopStripC, dLsR, dopPow, dSortSet, dFor, DSt.wipe, wipeS, pick, eqD_int, eqD_str, plain_int, plain_str, plain_bl, plain_non, kb_int_int, kb_int_bool, kb_str_str, kb_list_list, kb_list_tuple, kb_tuple_list, kb_tuple_tuple, List.replicate, box0, box1, box2, box3, S__law_is, crowdD, rowD]
  exact ⟨l', ⟨rfl, rfl⟩, hl.1, by have := hl.2; omega, k⟩
theorem body5 (g : GSt) (j : Nat) (l l' : List Nat) (hj : r[j]? = some l) (hl : okR l) (dd : D) (hd : Deed l dd l') (hf : ∀ d ∈ fs, FirstOk d) (hfl : fs.length ≤ 100)
    (k : ∀ fs', (∀ d ∈ fs', FirstOk d) → fs'.length ≤ fs.length + 1 → N.nx (S0 ns b r i (r.map crowdD) fs' (some (.sh (crowdD l'))) (some (.sh dd)) (some (.sh (rowD l'))) (some (.sh (.int j))) (some (.sh .box)) g)) :
    d_law_5b_5 N (S0 ns b r i (r.map crowdD) fs (some (.sh (crowdD l'))) (some (.sh dd)) (some (.sh (rowD l'))) (some (.sh (.int j))) (some (.sh .box)) g) := by
  have cat : atI (r.map crowdD) (j : Int) = some (crowdD l) := at_map hj
  simp [d_law_5b_5, d_law_5b_5t, dRet, dRetN, dAndV, dOrV, dNotV, dIf, dIsi, dIsi2, dVar, dC, dBin, dChain, dTest, dAnd, dOr, dNot, dCons, dNil, dFrzL, dFrz, dCall, dCallW, dSeq, dNext, dIfS, dNever, dDrop, dAsg, dName, dStore, dPar, dRCons, dRNil, dKeepL, dKeep, dStoreL, dSl, dPart, dNoPart, dopSl, dCB, viewL, view, En.hold, D.ty, dBack, initS, dopAdd, dopI, dopI0, dopB0, dopSub, dopMul, dopDiv, dopMod, dopLt, dopLe, dopGt, dopGe, dopEq, dopNe, dopIn, dopIx, dTupE, dLstE, dopLen, dopAbs, dopInt, dopSum, dopAll, dopMax, dopList, dopTuple, dLc, dLcO, dYes, dRng1, dSeqI, dgNil, dgCons, dgTup, dgUnl, dMt, mtAt, dmAppend, dmPopAt, dmInsert, dgSub, setAt, dBoxIx, dToBox, dgBox, dM1, dopJoin, dopStripC, dLsR, dopPow, dSortSet, dFor, DSt.wipe, wipeS, pick, eqD_int, eqD_str, plain_int, plain_str, plain_bl, plain_non, kb_int_int, kb_int_bool, kb_str_str, kb_list_list, kb_list_tuple, kb_tuple_list, kb_tuple_tuple, List.replicate, box0, box1, box2, box3, cat]
  split
  · refine ⟨by decide, by rw [sz]; omega, k (fs ++ [.lst [crowdD l, dd, rowD l']]) (fun d hd' => ?_) (by simp)⟩
    rcases List.mem_append.mp hd' with z | z
    · exact hf d z
    · rw [List.mem_singleton.mp z]; exact ⟨l, dd, l', rfl, hd, hl⟩
  · exact k fs hf (Nat.le_succ _)
theorem body6 (g : GSt) (j : Nat) (hj : j < r.length) (l' : List Nat) (dd : D)
    (k : N.nx (S0 ns b (r.set j l') i ((r.set j l').map crowdD) fs (some (.sh (crowdD l'))) (some (.sh dd)) (some (.sh (rowD l'))) (some (.sh (.int j))) (some (.sh .box)) g)) :
    d_law_5b_6 N (S0 ns b r i (r.map crowdD) fs (some (.sh (crowdD l'))) (some (.sh dd)) (some (.sh (rowD l'))) (some (.sh (.int j))) (some (.sh .box)) g) := by
  simp [d_law_5b_6, dRet, dRetN, dAndV, dOrV, dNotV, dIf, dIsi, dIsi2, dVar, dC, dBin, dChain, dTest, dAnd, dOr, dNot, dCons, dNil, dFrzL, dFrz, dCall, dCallW, dSeq, dNext, dIfS, dNever, dDrop, dAsg, dName, dStore, dPar, dRCons, dRNil, dKeepL, dKeep, dStoreL, dSl, dPart, dNoPart, dopSl, dCB, viewL, view, En.hold, D.ty, dBack, initS, dopAdd, dopI, dopI0, dopB0, dopSub, dopMul, dopDiv, dopMod, dopLt, dopLe, dopGt, dopGe, dopEq, dopNe, dopIn, dopIx, dTupE, dLstE, dopLen, dopAbs, dopInt, dopSum, dopAll, dopMax, dopList, dopTuple, dLc, dLcO, dYes, dRng1, dSeqI, dgNil, dgCons, dgTup, dgUnl, dMt, mtAt, dmAppend, dmPopAt, dmInsert, dgSub, setAt, dBoxIx, dToBox, dgBox, dM1, dopJoin, dopStripC, dLsR, dopPow, dSortSet, dFor, DSt.wipe, wipeS, pick, eqD_int, eqD_str, plain_int, plain_str, plain_bl, plain_non, kb_int_int, kb_int_bool, kb_str_str, kb_list_list, kb_list_tuple, kb_tuple_list, kb_tuple_tuple, List.replicate, box0, box1, box2, box3]
  refine ⟨by decide, _, _, ⟨rfl, rfl⟩, j, ixN_nat hj, _, _, rfl, j, ixN_nat hj, rfl, ?_⟩
  rw [← List.map_set, show crowdD l' = crowdD l' from rfl, ← List.map_set]
  exact k
theorem okRs_set {r : List (List Nat)} (hr : okRs r) (j : Nat) {l : List Nat} (hl : okR l) : okRs (r.set j l) := ⟨by rw [List.length_set]; exact hr.1, fun y hy => by
  rcases List.mem_or_eq_of_mem_set hy with z | z
  · exact hr.2 y z
  · rw [z]; exact hl⟩
theorem body7 (g : GSt) (hT : g.T ≤ 30000) (hr : okRs r) (j : Nat) (hj : j < 2) (l' : List Nat) (dd : D)
    (k : ∀ r' g', okRs r' → later g 30 g' → N.nx (S0 ns b r' i (r'.map crowdD) fs (some (.sh (crowdD l'))) (some (.sh dd)) (some (.sh (rowD l'))) (some (.sh (.int j))) (some (.sh .box)) g')) :
    d_law_5b_7 N (S0 ns b r i (r.map crowdD) fs (some (.sh (crowdD l'))) (some (.sh dd)) (some (.sh (rowD l'))) (some (.sh (.int j))) (some (.sh .box)) g) := by
  have jl : j < r.length := by rw [hr.1]; exact hj
  have t2 : d_law_5b_7t N (S0 ns b r i (r.map crowdD) fs (some (.sh (crowdD l'))) (some (.sh dd)) (some (.sh (rowD l'))) (some (.sh (.int j))) (some (.sh .box)) g) := by
    show dSeq _ _ _ _
    have one : ∀ N : DEnds, (∀ l g', okR l → later g 30 g' → N.nx (S0 ns b (r.set j l) i (r.map crowdD) fs (some (.sh (crowdD l'))) (some (.sh dd)) (some (.sh (rowD l'))) (some (.sh (.int j))) (some (.sh .box)) g')) → d_law_5b_7t_1 N (S0 ns b r i (r.map crowdD) fs (some (.sh (crowdD l'))) (some (.sh dd)) (some (.sh (rowD l'))) (some (.sh (.int j))) (some (.sh .box)) g) := by
      intro N kk
      simp [d_law_5b_7t_1, dRet, dRetN, dAndV, dOrV, dNotV, dIf, dIsi, dIsi2, dVar, dC, dBin, dChain, dTest, dAnd, dOr, dNot, dCons, dNil, dFrzL, dFrz, dCall, dCallW, dSeq, dNext, dIfS, dNever, dDrop, dAsg, dName, dStore, dPar, dRCons, dRNil, dKeepL, dKeep, dStoreL, dSl, dPart, dNoPart, dopSl, dCB, viewL, view, En.hold, D.ty, dBack, initS, dopAdd, dopI, dopI0, dopB0, dopSub, dopMul, dopDiv, dopMod, dopLt, dopLe, dopGt, dopGe, dopEq, dopNe, dopIn, dopIx, dTupE, dLstE, dopLen, dopAbs, dopInt, dopSum, dopAll, dopMax, dopList, dopTuple, dLc, dLcO, dYes, dRng1, dSeqI, dgNil, dgCons, dgTup, dgUnl, dMt, mtAt, dmAppend, dmPopAt, dmInsert, dgSub, setAt, dBoxIx, dToBox, dgBox, dM1, dopJoin, dopStripC, dLsR, dopPow, dSortSet, dFor, DSt.wipe, wipeS, pick, eqD_int, eqD_str, plain_int, plain_str, plain_bl, plain_non, kb_int_int, kb_int_bool, kb_str_str, kb_list_list, kb_list_tuple, kb_tuple_list, kb_tuple_tuple, List.replicate, box0, box1, box2, box3, S__law_begun]
      refine ⟨by omega, fun l g' a1 a2 l1 => ⟨j, ixN_nat jl, ?_⟩⟩
      have k1 := kk l g' ⟨a1, a2⟩ (l1.mono (by omega))
      rw [S0, List.map_set] at k1
      exact k1
    refine one _ fun l g' hl l1 => ?_
    have hr' := okRs_set hr j hl
    have cat : atI ((r.map rowD).set j (rowD l)) (j : Int) = some (.lst (l.map ch)) := atI_nat' (List.getElem?_set_self (by rw [List.length_map]; exact jl))
    have e := join_fit l
    simp at e
    have k1 := k (r.set j l) g' hr' l1
    simp only [S0, List.map_set] at k1
    simp [d_law_5b_7t_2, dRet, dRetN, dAndV, dOrV, dNotV, dIf, dIsi, dIsi2, dVar, dC, dBin, dChain, dTest, dAnd, dOr, dNot, dCons, dNil, dFrzL, dFrz, dCall, dCallW, dSeq, dNext, dIfS, dNever, dDrop, dAsg, dName, dStore, dPar, dRCons, dRNil, dKeepL, dKeep, dStoreL, dSl, dPart, dNoPart, dopSl, dCB, viewL, view, En.hold, D.ty, dBack, initS, dopAdd, dopI, dopI0, dopB0, dopSub, dopMul, dopDiv, dopMod, dopLt, dopLe, dopGt, dopGe, dopEq, dopNe, dopIn, dopIx, dTupE, dLstE, dopLen, dopAbs, dopInt, dopSum, dopAll, dopMax, dopList, dopTuple, dLc, dLcO, dYes, dRng1, dSeqI, dgNil, dgCons, dgTup, dgUnl, dMt, mtAt, dmAppend, dmPopAt, dmInsert, dgSub, setAt, dBoxIx, dToBox, dgBox, dM1, dopJoin, dopStripC, dLsR, dopPow, dSortSet, dFor, DSt.wipe, wipeS, pick, eqD_int, eqD_str, plain_int, plain_str, plain_bl, plain_non, kb_int_int, kb_int_bool, kb_str_str, kb_list_list, kb_list_tuple, kb_tuple_list, kb_tuple_tuple, List.replicate, box0, box1, box2, box3, cat, ch_strs, join_mk]
    exact ⟨by have := hl.2; omega, j, ixN_nat jl, k1⟩
  generalize hA : d_law_5b_7t = A at t2
  simp [d_law_5b_7, hA, dRet, dRetN, dAndV, dOrV, dNotV, dIf, dIsi, dIsi2, dVar, dC, dBin, dChain, dTest, dAnd, dOr, dNot, dCons, dNil, dFrzL, dFrz, dCall, dCallW, dSeq, dNext, dIfS, dNever, dDrop, dAsg, dName, dStore, dPar, dRCons, dRNil, dKeepL, dKeep, dStoreL, dSl, dPart, dNoPart, dopSl, dCB, viewL, view, En.hold, D.ty, dBack, initS, dopAdd, dopI, dopI0, dopB0, dopSub, dopMul, dopDiv, dopMod, dopLt, dopLe, dopGt, dopGe, dopEq, dopNe, dopIn, dopIx, dTupE, dLstE, dopLen, dopAbs, dopInt, dopSum, dopAll, dopMax, dopList, dopTuple, dLc, dLcO, dYes, dRng1, dSeqI, dgNil, dgCons, dgTup, dgUnl, dMt, mtAt, dmAppend, dmPopAt, dmInsert, dgSub, setAt, dBoxIx, dToBox, dgBox, dM1, dopJoin, dopStripC, dLsR, dopPow, dSortSet, dFor, DSt.wipe, wipeS, pick, eqD_int, eqD_str, plain_int, plain_str, plain_bl, plain_non, kb_int_int, kb_int_bool, kb_str_str, kb_list_list, kb_list_tuple, kb_tuple_list, kb_tuple_tuple, List.replicate, box0, box1, box2, box3, rowD]
  have k0 := k r g hr ((later.refl g).mono (by omega))
  split
  · split
    · exact t2
    · exact k0
  · exact k0
/-- one turn -/
theorem turn (g : GSt) (hT : g.T ≤ 200 + 100 * i) (hi : i < 36) (hr : okRs r) (hf : ∀ d ∈ fs, FirstOk d) (hfl : fs.length ≤ i)
    (k : ∀ r' fs' y7 y9 y10 y11 y12 g', okRs r' → (∀ d ∈ fs', FirstOk d) → fs'.length ≤ i + 1 → later g 100 g' → N.nx (S0 ns b r' i (r'.map crowdD) fs' y7 y9 y10 y11 y12 g')) :
    (dSeq d_law_5b_1 (dSeq d_law_5b_2 (dSeq d_law_5b_3 (dSeq d_law_5b_4 (dSeq d_law_5b_5 (dSeq d_law_5b_6 d_law_5b_7)))))) N (S0 ns b r i (r.map crowdD) fs x7 x9 x10 x11 x12 g) := by
  refine body1 _ ns b r i fs x7 x9 x10 x11 x12 g _ hi fun j hj => ?_
  have jl : j < r.length := by rw [hr.1]; exact hj
  have hl := hr.2 _ (List.getElem_mem jl)
  refine body2 _ ns b r i fs x7 x9 x10 g (by omega) _ j r[j] (List.getElem?_eq_getElem jl) hl hi fun dd l' g1 hd l1 => ?_
  have t1 := l1.2.2
  refine body3 _ ns b r i fs x7 g1 (by omega) j r[j] l' (List.getElem?_eq_getElem jl) hl dd hd fun g2 l2 => ?_
  have t2 := l2.2.2
  have hl' := hd.ok hl
  refine body4 _ ns b r i fs g2 j _ l' hl' dd ?_
  refine body5 _ ns b r i fs g2 j r[j] l' (List.getElem?_eq_getElem jl) hl dd hd hf (by omega) fun fs' hf' hfl' => ?_
  refine body6 _ ns b r i fs' g2 j jl l' dd ?_
  refine body7 _ ns b (r.set j l') i fs' g2 (by omega) (okRs_set hr j hl') j hj l' dd fun r' g3 hr' l3 => ?_
  exact k r' fs' _ _ _ _ _ g3 hr' hf' (by omega) (((l1.trans l2).trans l3).mono (by omega))
end
end K02
end VL

set_option Elab.async false
set_option linter.all false
set_option maxRecDepth 100000
set_option maxHeartbeats 1000000
namespace VL
namespace K02
open PySem PySem.Spec PyProof.Rows L2
theorem law5 (N : DEnds) (ns : List Int) (b : Bool) (r : List (List Nat)) (hr : okRs r) (g : GSt) (hT : g.T ≤ 200)
    (k : ∀ a3 a4 a5 a7 a9 a10 a11 a12 fs g', (∀ d ∈ fs, FirstOk d) → fs.length ≤ 36 → N.nx ⟨[some (.sh (.scr ns)), boxes, some (.sh (.bl b)), a3, a4, a5, some (.ow (.lst fs)), a7, none, a9, a10, a11, a12, none], g'⟩) :
    d_law_5 N ⟨[some (.sh (.scr ns)), boxes, some (.sh (.bl b)), some (.ow (.lst (r.map rowD))), none, some (.ow (.lst (r.map crowdD))), some (.ow (.lst [])), none, none, none, none, none, none, none], g⟩ := by
  show dFor _ _ _ _ _
  unfold dFor dRng1 dC
  refine ⟨36, rfl, by omega, by omega, ?_⟩
  refine dLoop_ix (fun i st => ∃ r fs x4 x7 x9 x10 x11 x12 g', st = ⟨[some (.sh (.scr ns)), boxes, some (.sh (.bl b)), some (.ow (.lst (r.map rowD))), x4, some (.ow (.lst (r.map crowdD))), some (.ow (.lst fs)), x7, none, x9, x10, x11, x12, none], g'⟩ ∧ okRs r ∧ (∀ d ∈ fs, FirstOk d) ∧ fs.length ≤ i ∧ g'.T ≤ 200 + 100 * i) ?_ ?_ _
    ⟨r, [], _, _, _, _, _, _, g, rfl, hr, by simp, Nat.zero_le _, by omega⟩
  · rintro st ⟨r, fs, x4, x7, x9, x10, x11, x12, g', rfl, _, hf, hl, _⟩
    exact k _ _ _ _ _ _ _ _ fs g' hf hl
  · rintro i d st K hd hi ⟨r, fs, x4, x7, x9, x10, x11, x12, g', rfl, hr, hf, hl, hT'⟩ kk
    obtain ⟨rfl, hi⟩ := range0_get hd
    have hi' : i < 36 := hi
    show (dSeq d_law_5b_1 (dSeq d_law_5b_2 (dSeq d_law_5b_3 (dSeq d_law_5b_4 (dSeq d_law_5b_5 (dSeq d_law_5b_6 d_law_5b_7)))))) _ (S0 ns b r i (r.map crowdD) fs x7 x9 x10 x11 x12 g')
    refine turn _ ns b r i fs x7 x9 x10 x11 x12 g' hT' hi' hr hf hl fun r' fs' y7 y9 y10 y11 y12 g2 hr' hf' hl' l2 => ?_
    have t2 := l2.2.2
    exact kk _ ⟨r', fs', _, _, _, _, _, _, g2, rfl, hr', hf', hl', by omega⟩
theorem law6 (N : DEnds) (a0 a1 a2 a3 a4 a5 a7 a9 a10 a11 a12 : Option En) (fs : List D) (hf : ∀ d ∈ fs, FirstOk d) (g : GSt) (k : ∀ st, N.nx st) :
    d_law_6 N ⟨[a0, a1, a2, a3, a4, a5, some (.ow (.lst fs)), a7, none, a9, a10, a11, a12, none], g⟩ := by
  show dFor _ _ _ _ _
  show dLoop _ _ _ fs ⟨[a0, a1, a2, a3, a4, a5, some (.sh (.lst fs)), a7, none, a9, a10, a11, a12, none], g⟩
  refine dLoop_ix (fun i st => ∃ x8 x9 x10, st = ⟨[a0, a1, a2, a3, a4, a5, some (.sh (.lst fs)), a7, x8, x9, x10, a11, a12, none], g⟩) ?_ ?_ _ ⟨_, _, _, rfl⟩
  · rintro st ⟨x8, x9, x10, rfl⟩
    exact k _
  · rintro i d st K hd hi ⟨x8, x9, x10, rfl⟩ kk
    obtain ⟨l, dd, l', rfl, de, hl⟩ := hf d (List.mem_of_getElem? hd)
    have hl' := de.ok hl
    have fin : ∀ x, K ⟨[a0, a1, a2, a3, a4, a5, some (.sh (.lst fs)), a7, some (.sh (.str (mk l))), some (.sh dd), some (.sh (.lst (l'.map ch))), a11, a12, none], x⟩ ∨ True := fun _ => .inr trivial
    have k1 := kk ⟨[a0, a1, a2, a3, a4, a5, some (.sh (.lst fs)), a7, some (.sh (.str (mk l))), some (.sh dd), some (.sh (.lst (l'.map ch))), a11, a12, none], g⟩ ⟨_, _, _, rfl⟩
    have told : ∀ (t : Int) (Q : En → GSt → Prop) (E : Exn → GSt → Prop), Q (.sh (.str (mk l'))) g → S__law_told [.str (mk l), dd, .int t] g Q E := fun t Q E q => ⟨l, dd, l', t, rfl, de, hl.1, hl.2, q⟩
    have is : ∀ (Q : En → GSt → Prop) (E : Exn → GSt → Prop), Q (.sh (.bl true)) g → S__law_is [.str (mk l'), .lst (l'.map ch)] g Q E := fun Q E q => ⟨l', rfl, hl'.1, by have := hl'.2; omega, q⟩
    simp [dRet, dRetN, dAndV, dOrV, dNotV, dIf, dIsi, dIsi2, dVar, dC, dBin, dChain, dTest, dAnd, dOr, dNot, dCons, dNil, dFrzL, dFrz, dCall, dCallW, dSeq, dNext, dIfS, dNever, dDrop, dAsg, dName, dStore, dPar, dRCons, dRNil, dKeepL, dKeep, dStoreL, dSl, dPart, dNoPart, dopSl, dCB, viewL, view, En.hold, D.ty, dBack, initS, dopAdd, dopI, dopI0, dopB0, dopSub, dopMul, dopDiv, dopMod, dopLt, dopLe, dopGt, dopGe, dopEq, dopNe, dopIn, dopIx, dTupE, dLstE, dopLen, dopAbs, dopInt, dopSum, dopAll, dopMax, dopList, dopTuple, dLc, dLcO, dYes, dRng1, dSeqI, dgNil, dgCons, dgTup, dgUnl, dMt, mtAt, dmAppend, dmPopAt, dmInsert, dgSub, setAt, dBoxIx, dToBox, dgBox, dM1, dopJoin, dopStripC, dLsR, dopPow, dSortSet, dFor, DSt.wipe, wipeS, pick, eqD_int, eqD_str, plain_int, plain_str, plain_bl, plain_non, kb_int_int, kb_int_bool, kb_str_str, kb_list_list, kb_list_tuple, kb_tuple_list, kb_tuple_tuple, List.replicate, box0, box1, box2, box3]
    exact ⟨_, _, ⟨rfl, rfl⟩, _, _, rfl, _, _, rfl, rfl, told 0 _ _ (is _ _ (.inr ⟨rfl, told 1 _ _ (is _ _ (.inr ⟨rfl, k1⟩))⟩))⟩
theorem vc_law : ∀ ds gs Q2 E2, ds.length = 1 → S_law ds gs Q2 E2 → d_law { nx := fun st => Q2 (.sh .non) st.gs, rt := fun en st => dBack en st fun en' => Q2 en' st.gs, ex := fun ex st => E2 ex st.gs } ⟨initS 14 ds, gs⟩ := by
  rintro _ gs Q E - ⟨ns, rfl, rfl, h⟩
  show dSeq _ _ _ ⟨[some (.sh (.scr ns)), none, none, none, none, none, none, none, none, none, none, none, none, none], _⟩
  refine law1 _ ns _ ?_
  refine law2 _ ns _ (by decide) fun b g1 l1 => ?_
  have t1 := l1.2.2
  refine law3 _ ns b g1 (by simp at t1; omega) fun r g2 hr l2 => ?_
  have t2 := l2.2.2
  refine law4 _ ns b r hr g2 ?_
  refine law5 _ ns b r hr g2 (by simp at t1; omega) fun a3 a4 a5 a7 a9 a10 a11 a12 fs g3 hf hfl => ?_
  refine law6 _ _ _ _ _ _ _ _ _ _ _ _ fs hf g3 fun st => ?_
  exact h _
end K02
end VL

set_option Elab.async false
set_option linter.all false
set_option maxRecDepth 100000
set_option maxHeartbeats 4000000
namespace VL
namespace K02
open PySem PySem.Spec PyProof.Rows L2
def top (i : Nat) : Stmt := PySem.Challenge.pw_seatsworn_k02_changed_crowds.main.body.getD i (.Pass ⟨0, 0, 0, 0⟩)
abbrev s_is_integer : Stmt := top 9
abbrev N_is_integer : List Str := ["value"]
theorem sc_is_integer : FnScope N_is_integer ["value"] (defScope s_is_integer) := ⟨rfl, rfl, rfl, by decide +kernel, rfl, by decide +kernel, by decide +kernel⟩
abbrev s_is_within : Stmt := top 10
abbrev N_is_within : List Str := ["value", "low", "high"]
theorem sc_is_within : FnScope N_is_within ["value", "low", "high"] (defScope s_is_within) := ⟨rfl, rfl, rfl, by decide +kernel, rfl, by decide +kernel, by decide +kernel⟩
abbrev s_is_index : Stmt := top 11
abbrev N_is_index : List Str := ["value", "many"]
theorem sc_is_index : FnScope N_is_index ["value", "many"] (defScope s_is_index) := ⟨rfl, rfl, rfl, by decide +kernel, rfl, by decide +kernel, by decide +kernel⟩
abbrev s_is_list : Stmt := top 12
abbrev N_is_list : List Str := ["value"]
theorem sc_is_list : FnScope N_is_list ["value"] (defScope s_is_list) := ⟨rfl, rfl, rfl, by decide +kernel, rfl, by decide +kernel, by decide +kernel⟩
abbrev s_ascends : Stmt := top 13
abbrev N_ascends : List Str := ["items", "at"]
theorem sc_ascends : FnScope N_ascends ["items"] (defScope s_ascends) := ⟨rfl, rfl, rfl, by decide +kernel, rfl, by decide +kernel, by decide +kernel⟩
abbrev s_are_places : Stmt := top 14
abbrev N_are_places : List Str := ["value", "many", "item"]
theorem sc_are_places : FnScope N_are_places ["value", "many"] (defScope s_are_places) := ⟨rfl, rfl, rfl, by decide +kernel, rfl, by decide +kernel, by decide +kernel⟩
abbrev s_is_kind : Stmt := top 15
abbrev N_is_kind : List Str := ["value", "kinds"]
theorem sc_is_kind : FnScope N_is_kind ["value", "kinds"] (defScope s_is_kind) := ⟨rfl, rfl, rfl, by decide +kernel, rfl, by decide +kernel, by decide +kernel⟩
abbrev s_is_string_of : Stmt := top 16
abbrev N_is_string_of : List Str := ["value", "kinds"]
theorem sc_is_string_of : FnScope N_is_string_of ["value", "kinds"] (defScope s_is_string_of) := ⟨rfl, rfl, rfl, by decide +kernel, rfl, by decide +kernel, by decide +kernel⟩
abbrev s_check_kinds : Stmt := top 20
abbrev N_check_kinds : List Str := ["kinds"]
theorem sc_check_kinds : FnScope N_check_kinds ["kinds"] (defScope s_check_kinds) := ⟨rfl, rfl, rfl, by decide +kernel, rfl, by decide +kernel, by decide +kernel⟩
abbrev s_is_crowd : Stmt := top 21
abbrev N_is_crowd : List Str := ["kinds", "value"]
theorem sc_is_crowd : FnScope N_is_crowd ["kinds", "value"] (defScope s_is_crowd) := ⟨rfl, rfl, rfl, by decide +kernel, rfl, by decide +kernel, by decide +kernel⟩
abbrev s_check_crowd : Stmt := top 22
abbrev N_check_crowd : List Str := ["kinds", "crowd"]
theorem sc_check_crowd : FnScope N_check_crowd ["kinds", "crowd"] (defScope s_check_crowd) := ⟨rfl, rfl, rfl, by decide +kernel, rfl, by decide +kernel, by decide +kernel⟩
abbrev s_check_place : Stmt := top 23
abbrev N_check_place : List Str := ["crowd", "place", "first"]
theorem sc_check_place : FnScope N_check_place ["crowd", "place", "first"] (defScope s_check_place) := ⟨rfl, rfl, rfl, by decide +kernel, rfl, by decide +kernel, by decide +kernel⟩
abbrev s_without : Stmt := top 24
abbrev N_without : List Str := ["crowd", "place"]
theorem sc_without : FnScope N_without ["crowd", "place"] (defScope s_without) := ⟨rfl, rfl, rfl, by decide +kernel, rfl, by decide +kernel, by decide +kernel⟩
abbrev s_moved_up : Stmt := top 25
abbrev N_moved_up : List Str := ["crowd", "place"]
theorem sc_moved_up : FnScope N_moved_up ["crowd", "place"] (defScope s_moved_up) := ⟨rfl, rfl, rfl, by decide +kernel, rfl, by decide +kernel, by decide +kernel⟩
abbrev s_doubled : Stmt := top 26
abbrev N_doubled : List Str := ["crowd", "place"]
theorem sc_doubled : FnScope N_doubled ["crowd", "place"] (defScope s_doubled) := ⟨rfl, rfl, rfl, by decide +kernel, rfl, by decide +kernel, by decide +kernel⟩
abbrev s_changed : Stmt := top 27
abbrev N_changed : List Str := ["crowd", "place", "kind"]
theorem sc_changed : FnScope N_changed ["crowd", "place", "kind"] (defScope s_changed) := ⟨rfl, rfl, rfl, by decide +kernel, rfl, by decide +kernel, by decide +kernel⟩
abbrev s_part : Stmt := top 28
abbrev N_part : List Str := ["crowd", "places", "place"]
theorem sc_part : FnScope N_part ["crowd", "places"] (defScope s_part) := ⟨rfl, rfl, rfl, by decide +kernel, rfl, by decide +kernel, by decide +kernel⟩
abbrev s__law_cell : Stmt := top 30
abbrev N__law_cell : List Str := ["script", "k"]
theorem sc__law_cell : FnScope N__law_cell ["script", "k"] (defScope s__law_cell) := ⟨rfl, rfl, rfl, by decide +kernel, rfl, by decide +kernel, by decide +kernel⟩
abbrev s__law_box : Stmt := top 31
abbrev N__law_box : List Str := ["great"]
theorem sc__law_box : FnScope N__law_box ["great"] (defScope s__law_box) := ⟨rfl, rfl, rfl, by decide +kernel, rfl, by decide +kernel, by decide +kernel⟩
abbrev s__law_take : Stmt := top 32
abbrev N__law_take : List Str := ["box", "many", "mixed", "digit"]
theorem sc__law_take : FnScope N__law_take ["box", "many"] (defScope s__law_take) := ⟨rfl, rfl, rfl, by decide +kernel, rfl, by decide +kernel, by decide +kernel⟩
abbrev s__law_begun : Stmt := top 33
abbrev N__law_begun : List Str := ["box", "great", "block", "many", "k"]
theorem sc__law_begun : FnScope N__law_begun ["box", "great"] (defScope s__law_begun) := ⟨rfl, rfl, rfl, by decide +kernel, rfl, by decide +kernel, by decide +kernel⟩
abbrev s__law_chosen : Stmt := top 34
abbrev N__law_chosen : List Str := ["box", "many", "way", "step", "out", "place", "k"]
theorem sc__law_chosen : FnScope N__law_chosen ["box", "many"] (defScope s__law_chosen) := ⟨rfl, rfl, rfl, by decide +kernel, rfl, by decide +kernel, by decide +kernel⟩
abbrev s__law_place : Stmt := top 35
abbrev N__law_place : List Str := ["box", "low", "many"]
theorem sc__law_place : FnScope N__law_place ["box", "low", "many"] (defScope s__law_place) := ⟨rfl, rfl, rfl, by decide +kernel, rfl, by decide +kernel, by decide +kernel⟩
abbrev s__law_deed : Stmt := top 36
abbrev N__law_deed : List Str := ["box", "row", "which", "many", "after", "places", "place", "kind"]
theorem sc__law_deed : FnScope N__law_deed ["box", "row", "which"] (defScope s__law_deed) := ⟨rfl, rfl, rfl, by decide +kernel, rfl, by decide +kernel, by decide +kernel⟩
abbrev s__law_told : Stmt := top 37
abbrev N__law_told : List Str := ["crowd", "deed", "turn", "given", "told", "which", "x", "kind"]
theorem sc__law_told : FnScope N__law_told ["crowd", "deed", "turn"] (defScope s__law_told) := ⟨rfl, rfl, rfl, by decide +kernel, rfl, by decide +kernel, by decide +kernel⟩
abbrev s__law_is : Stmt := top 38
abbrev N__law_is : List Str := ["told", "row", "k"]
theorem sc__law_is : FnScope N__law_is ["told", "row"] (defScope s__law_is) := ⟨rfl, rfl, rfl, by decide +kernel, rfl, by decide +kernel, by decide +kernel⟩
abbrev s_law : Stmt := top 39
abbrev N_law : List Str := ["script", "boxes", "great", "rows", "turn", "crowds", "firsts", "told", "crowd", "deed", "due", "k", "box", "row"]
theorem sc_law : FnScope N_law ["script"] (defScope s_law) := ⟨rfl, rfl, rfl, by decide +kernel, rfl, by decide +kernel, by decide +kernel⟩
structure Bi (mg : Str → Option Value) where
  bool : mg "bool" = none
  int : mg "int" = none
  isinstance : mg "isinstance" = none
  list : mg "list" = none
  tuple : mg "tuple" = none
  all : mg "all" = none
  len : mg "len" = none
  range : mg "range" = none
  str : mg "str" = none
  sum : mg "sum" = none
  abs : mg "abs" = none
  max : mg "max" = none
  set : mg "set" = none
  sorted : mg "sorted" = none
  t_KINDS : Tok
  KINDS : mg "KINDS" = some (.str "abc" t_KINDS)
  t_MOST_KINDS : Tok
  MOST_KINDS : mg "MOST_KINDS" = some (.int 3 t_MOST_KINDS)
  t_MOST_ASKERS : Tok
  MOST_ASKERS : mg "MOST_ASKERS" = some (.int 2000 t_MOST_ASKERS)
theorem ok_KINDS : StrOk "abc" := ⟨by decide +kernel, by decide +kernel⟩
section
variable {P : Program} {w : World} {K : PySem.W.Frag} {mg : Str → Option Value} {base : Heap} {f : Addr} {fd : FuncData}
theorem ok_is_integer (B : Bi mg) (F : Fun K "is_integer" "is_integer" s_is_integer f fd) : FnOk P w K mg base (L2.CX P w) 1 f fd ["value"] (spOf K 1 S_is_integer) :=
  VL.Fun.okD F (k := 0) (d := d_is_integer) sc_is_integer (by
    intro cdv A outer s H E hr
    exact ⟨_, (qss_one (qs_ret (q_and (q_isi (qv 0) rfl B.isinstance rfl B.int (by decide +kernel)) (q_one (q_not (q_isi (qv 0) rfl B.isinstance rfl B.bool (by decide +kernel)))))))⟩) vc_is_integer
theorem ok_is_within (B : Bi mg) (C_is_integer : Callee P w K mg base "is_integer" s_is_integer 1 ["value"] S_is_integer) (F : Fun K "is_within" "is_within" s_is_within f fd) : FnOk P w K mg base (L2.CX P w) 2 f fd ["value", "low", "high"] (spOf K 3 S_is_within) :=
  VL.Fun.okD F (k := 1) (d := d_is_within) sc_is_within (by
    intro cdv A outer s H E hr
    exact ⟨_, (qss_one (qs_ret (q_and (q_call C_is_integer.ok (hr.mono (by decide)) rfl C_is_integer.m C_is_integer.kp C_is_integer.b (qa_cons (qv 0) qa_nil)) (q_one (q_chain op_le op_le so_dB0 so_dB0 (qv 1) (qv 0) (qv 2))))))⟩) vc_is_within
theorem ok_is_index (B : Bi mg) (C_is_integer : Callee P w K mg base "is_integer" s_is_integer 1 ["value"] S_is_integer) (F : Fun K "is_index" "is_index" s_is_index f fd) : FnOk P w K mg base (L2.CX P w) 2 f fd ["value", "many"] (spOf K 2 S_is_index) :=
  VL.Fun.okD F (k := 1) (d := d_is_index) sc_is_index (by
    intro cdv A outer s H E hr
    exact ⟨_, (qss_one (qs_ret (q_and (q_call C_is_integer.ok (hr.mono (by decide)) rfl C_is_integer.m C_is_integer.kp C_is_integer.b (qa_cons (qv 0) qa_nil)) (q_one (q_chain op_le op_lt so_dB0 so_dB0 q_int (qv 0) (qv 1))))))⟩) vc_is_index
theorem ok_is_list (B : Bi mg) (F : Fun K "is_list" "is_list" s_is_list f fd) : FnOk P w K mg base (L2.CX P w) 1 f fd ["value"] (spOf K 1 S_is_list) :=
  VL.Fun.okD F (k := 0) (d := d_is_list) sc_is_list (by
    intro cdv A outer s H E hr
    exact ⟨_, (qss_one (qs_ret (q_isi2 (qv 0) rfl B.isinstance rfl B.list (by decide +kernel) rfl B.tuple (by decide +kernel))))⟩) vc_is_list
theorem ok_ascends (B : Bi mg) (F : Fun K "ascends" "ascends" s_ascends f fd) : FnOk P w K mg base (L2.CX P w) 1 f fd ["items"] (spOf K 1 S_ascends) :=
  VL.Fun.okD F (k := 0) (d := d_ascends) sc_ascends (by
    intro cdv A outer s H E hr
    exact ⟨_, (qss_one (qs_ret (q_cb (cr_all rfl) sc_all rfl B.all (by decide +kernel) (qa_cons (q_lc' [("at", 1)] rfl sc_ascends.nd (qi_range1 rfl B.range (q_op op_sub so_dI0 (q_cb cr_lenU sc_len rfl B.len (by decide +kernel) (qa_cons (qv 0) qa_nil)) q_int)) (blkOk_by (N := N_ascends) (sc := defScope s_ascends) (own := [("at", 1)]) (by decide +kernel)) (qg_name (i := 1) sc_ascends.nd rfl (Or.inl rfl)) qts_nil (q_cmp op_lt so_dB0 (q_ix (qv 0) (qv 1) (fun _ _ => rfl)) (q_ix (qv 0) (q_op op_addU so_add (qv 1) q_int) (fun _ _ => rfl)) (nomark _)) (fun _ _ _ _ _ => by exact (qg_name (i := 1) sc_ascends.nd rfl (Or.inl rfl))) (fun _ _ _ _ _ => by exact qts_nil) (fun _ _ _ _ _ => by exact (q_cmp op_lt so_dB0 (q_ix (qv 0) (qv 1) (fun _ _ => rfl)) (q_ix (qv 0) (q_op op_addU so_add (qv 1) q_int) (fun _ _ => rfl)) (nomark _)))) qa_nil))))⟩) vc_ascends
theorem ok_are_places (B : Bi mg) (C_is_index : Callee P w K mg base "is_index" s_is_index 2 ["value", "many"] S_is_index) (C_is_list : Callee P w K mg base "is_list" s_is_list 1 ["value"] S_is_list) (C_ascends : Callee P w K mg base "ascends" s_ascends 1 ["items"] S_ascends) (F : Fun K "are_places" "are_places" s_are_places f fd) : FnOk P w K mg base (L2.CX P w) 3 f fd ["value", "many"] (spOf K 2 S_are_places) :=
  VL.Fun.okD F (k := 2) (d := d_are_places) sc_are_places (by
    intro cdv A outer s H E hr
    exact ⟨_, (qss_one (qs_ret (q_and (q_call C_is_list.ok (hr.mono (by decide)) rfl C_is_list.m C_is_list.kp C_is_list.b (qa_cons (qv 0) qa_nil)) (q_and (q_cb (cr_all rfl) sc_all rfl B.all (by decide +kernel) (qa_cons (q_lc' [("item", 2)] rfl sc_are_places.nd (qi_seq (qv 0)) (blkOk_by (N := N_are_places) (sc := defScope s_are_places) (own := [("item", 2)]) (by decide +kernel)) (qg_name (i := 2) sc_are_places.nd rfl (Or.inl rfl)) qts_nil (q_call C_is_index.ok (hr.mono (by decide)) rfl C_is_index.m C_is_index.kp C_is_index.b (qa_cons (qv 2) (qa_cons (qv 1) qa_nil))) (fun _ _ _ _ _ => by exact (qg_name (i := 2) sc_are_places.nd rfl (Or.inl rfl))) (fun _ _ _ _ _ => by exact qts_nil) (fun _ _ _ _ _ => by exact (q_call C_is_index.ok (hr.mono (by decide)) rfl C_is_index.m C_is_index.kp C_is_index.b (qa_cons (qv 2) (qa_cons (qv 1) qa_nil))))) qa_nil)) (q_one (q_call C_ascends.ok (hr.mono (by decide)) rfl C_ascends.m C_ascends.kp C_ascends.b (qa_cons (qv 0) qa_nil)))))))⟩) vc_are_places
theorem ok_is_kind (B : Bi mg) (F : Fun K "is_kind" "is_kind" s_is_kind f fd) : FnOk P w K mg base (L2.CX P w) 1 f fd ["value", "kinds"] (spOf K 2 S_is_kind) :=
  VL.Fun.okD F (k := 0) (d := d_is_kind) sc_is_kind (by
    intro cdv A outer s H E hr
    exact ⟨_, (qss_one (qs_ret (q_and (q_isi (qv 0) rfl B.isinstance rfl B.str (by decide +kernel)) (q_and (q_cmp (op_eqD hr.units) so_eq (q_cb cr_lenU sc_len rfl B.len (by decide +kernel) (qa_cons (qv 0) qa_nil)) q_int (nomark _)) (q_one (q_cmp op_inU so_in (qv 0) (q_sl (q_globS rfl B.KINDS ok_KINDS) qo_none (qo_some (qv 1))) rfl))))))⟩) vc_is_kind
theorem ok_is_string_of (B : Bi mg) (F : Fun K "is_string_of" "is_string_of" s_is_string_of f fd) : FnOk P w K mg base (L2.CX P w) 1 f fd ["value", "kinds"] (spOf K 2 S_is_string_of) :=
  VL.Fun.okD F (k := 0) (d := d_is_string_of) sc_is_string_of (by
    intro cdv A outer s H E hr
    exact ⟨_, (qss_one (qs_ret (q_and (q_isi (qv 0) rfl B.isinstance rfl B.str (by decide +kernel)) (q_one (q_cmp (op_eqD hr.units) so_eq (q_stripC (qv 0) (q_sl (q_globS rfl B.KINDS ok_KINDS) qo_none (qo_some (qv 1)))) q_str (nomark _))))))⟩) vc_is_string_of
theorem ok_check_kinds (B : Bi mg) (C_is_within : Callee P w K mg base "is_within" s_is_within 2 ["value", "low", "high"] S_is_within) (F : Fun K "check_kinds" "check_kinds" s_check_kinds f fd) : FnOk P w K mg base (L2.CX P w) 3 f fd ["kinds"] (spOf K 1 S_check_kinds) :=
  VL.Fun.okD F (k := 2) (d := d_check_kinds) sc_check_kinds (by
    intro cdv A outer s H E hr
    exact ⟨_, (qss_one (qs_if (qt_not (qt_val (q_call C_is_within.ok (hr.mono (by decide)) rfl C_is_within.m C_is_within.kp C_is_within.b (qa_cons (qv 0) (qa_cons q_int (qa_cons (q_globI rfl B.MOST_KINDS) qa_nil)))))) (qss_one qs_never) qss_nil))⟩) vc_check_kinds
theorem ok_is_crowd (B : Bi mg) (C_is_string_of : Callee P w K mg base "is_string_of" s_is_string_of 1 ["value", "kinds"] S_is_string_of) (C_check_kinds : Callee P w K mg base "check_kinds" s_check_kinds 3 ["kinds"] S_check_kinds) (F : Fun K "is_crowd" "is_crowd" s_is_crowd f fd) : FnOk P w K mg base (L2.CX P w) 4 f fd ["kinds", "value"] (spOf K 2 S_is_crowd) :=
  VL.Fun.okD F (k := 3) (d := d_is_crowd) sc_is_crowd (by
    intro cdv A outer s H E hr
    exact ⟨_, (qss_cons (qs_expr (q_call C_check_kinds.ok (hr.mono (by decide)) rfl C_check_kinds.m C_check_kinds.kp C_check_kinds.b (qa_cons (qv 0) qa_nil))) (qss_one (qs_ret (q_and (q_isi (qv 1) rfl B.isinstance rfl B.str (by decide +kernel)) (q_and (q_cmp op_le so_dB0 (q_cb cr_lenU sc_len rfl B.len (by decide +kernel) (qa_cons (qv 1) qa_nil)) (q_globI rfl B.MOST_ASKERS) (nomark _)) (q_one (q_call C_is_string_of.ok (hr.mono (by decide)) rfl C_is_string_of.m C_is_string_of.kp C_is_string_of.b (qa_cons (qv 1) (qa_cons (qv 0) qa_nil)))))))))⟩) vc_is_crowd
theorem ok_check_crowd (B : Bi mg) (C_is_crowd : Callee P w K mg base "is_crowd" s_is_crowd 4 ["kinds", "value"] S_is_crowd) (F : Fun K "check_crowd" "check_crowd" s_check_crowd f fd) : FnOk P w K mg base (L2.CX P w) 5 f fd ["kinds", "crowd"] (spOf K 2 S_check_crowd) :=
  VL.Fun.okD F (k := 4) (d := d_check_crowd) sc_check_crowd (by
    intro cdv A outer s H E hr
    exact ⟨_, (qss_one (qs_if (qt_not (qt_val (q_call C_is_crowd.ok (hr.mono (by decide)) rfl C_is_crowd.m C_is_crowd.kp C_is_crowd.b (qa_cons (qv 0) (qa_cons (qv 1) qa_nil))))) (qss_one qs_never) qss_nil))⟩) vc_check_crowd
theorem ok_check_place (B : Bi mg) (C_is_index : Callee P w K mg base "is_index" s_is_index 2 ["value", "many"] S_is_index) (F : Fun K "check_place" "check_place" s_check_place f fd) : FnOk P w K mg base (L2.CX P w) 3 f fd ["crowd", "place", "first"] (spOf K 3 S_check_place) :=
  VL.Fun.okD F (k := 2) (d := d_check_place) sc_check_place (by
    intro cdv A outer s H E hr
    exact ⟨_, (qss_one (qs_if (QW.t (qw_or (qt_not (qt_val (q_call C_is_index.ok (hr.mono (by decide)) rfl C_is_index.m C_is_index.kp C_is_index.b (qa_cons (qv 1) (qa_cons (q_cb cr_lenU sc_len rfl B.len (by decide +kernel) (qa_cons (qv 0) qa_nil)) qa_nil))))) (qw_or1 (qt_cmp op_lt so_dB0 (qv 1) (qv 2) (nomark _))))) (qss_one qs_never) qss_nil))⟩) vc_check_place
theorem ok_without (B : Bi mg) (C_check_crowd : Callee P w K mg base "check_crowd" s_check_crowd 5 ["kinds", "crowd"] S_check_crowd) (C_check_place : Callee P w K mg base "check_place" s_check_place 3 ["crowd", "place", "first"] S_check_place) (F : Fun K "without" "without" s_without f fd) : FnOk P w K mg base (L2.CX P w) 6 f fd ["crowd", "place"] (spOf K 2 S_without) :=
  VL.Fun.okD F (k := 5) (d := d_without) sc_without (by
    intro cdv A outer s H E hr
    exact ⟨_, (qss_cons (qs_expr (q_call C_check_crowd.ok (hr.mono (by decide)) rfl C_check_crowd.m C_check_crowd.kp C_check_crowd.b (qa_cons (q_globI rfl B.MOST_KINDS) (qa_cons (qv 0) qa_nil)))) (qss_cons (qs_expr (q_call C_check_place.ok (hr.mono (by decide)) rfl C_check_place.m C_check_place.kp C_check_place.b (qa_cons (qv 0) (qa_cons (qv 1) (qa_cons q_int qa_nil))))) (qss_one (qs_ret (q_op op_addU so_add (q_sl (qv 0) qo_none (qo_some (qv 1))) (q_sl (qv 0) (qo_some (q_op op_addU so_add (qv 1) q_int)) qo_none))))))⟩) vc_without
theorem ok_moved_up (B : Bi mg) (C_check_crowd : Callee P w K mg base "check_crowd" s_check_crowd 5 ["kinds", "crowd"] S_check_crowd) (C_check_place : Callee P w K mg base "check_place" s_check_place 3 ["crowd", "place", "first"] S_check_place) (F : Fun K "moved_up" "moved_up" s_moved_up f fd) : FnOk P w K mg base (L2.CX P w) 6 f fd ["crowd", "place"] (spOf K 2 S_moved_up) :=
  VL.Fun.okD F (k := 5) (d := d_moved_up) sc_moved_up (by
    intro cdv A outer s H E hr
    exact ⟨_, (qss_cons (qs_expr (q_call C_check_crowd.ok (hr.mono (by decide)) rfl C_check_crowd.m C_check_crowd.kp C_check_crowd.b (qa_cons (q_globI rfl B.MOST_KINDS) (qa_cons (qv 0) qa_nil)))) (qss_cons (qs_expr (q_call C_check_place.ok (hr.mono (by decide)) rfl C_check_place.m C_check_place.kp C_check_place.b (qa_cons (qv 0) (qa_cons (qv 1) (qa_cons q_int qa_nil))))) (qss_one (qs_ret (q_op op_addU so_add (q_op op_addU so_add (q_op op_addU so_add (q_sl (qv 0) qo_none (qo_some (q_op op_sub so_dI0 (qv 1) q_int))) (q_ix (qv 0) (qv 1) (fun _ _ => rfl))) (q_ix (qv 0) (q_op op_sub so_dI0 (qv 1) q_int) (fun _ _ => rfl))) (q_sl (qv 0) (qo_some (q_op op_addU so_add (qv 1) q_int)) qo_none))))))⟩) vc_moved_up
theorem ok_doubled (B : Bi mg) (C_check_crowd : Callee P w K mg base "check_crowd" s_check_crowd 5 ["kinds", "crowd"] S_check_crowd) (C_check_place : Callee P w K mg base "check_place" s_check_place 3 ["crowd", "place", "first"] S_check_place) (F : Fun K "doubled" "doubled" s_doubled f fd) : FnOk P w K mg base (L2.CX P w) 6 f fd ["crowd", "place"] (spOf K 2 S_doubled) :=
  VL.Fun.okD F (k := 5) (d := d_doubled) sc_doubled (by
    intro cdv A outer s H E hr
    exact ⟨_, (qss_cons (qs_expr (q_call C_check_crowd.ok (hr.mono (by decide)) rfl C_check_crowd.m C_check_crowd.kp C_check_crowd.b (qa_cons (q_globI rfl B.MOST_KINDS) (qa_cons (qv 0) qa_nil)))) (qss_cons (qs_if (qt_cmp (op_eqD hr.units) so_eq (q_cb cr_lenU sc_len rfl B.len (by decide +kernel) (qa_cons (qv 0) qa_nil)) (q_globI rfl B.MOST_ASKERS) (nomark _)) (qss_one qs_never) qss_nil) (qss_cons (qs_expr (q_call C_check_place.ok (hr.mono (by decide)) rfl C_check_place.m C_check_place.kp C_check_place.b (qa_cons (qv 0) (qa_cons (qv 1) (qa_cons q_int qa_nil))))) (qss_one (qs_ret (q_op op_addU so_add (q_sl (qv 0) qo_none (qo_some (q_op op_addU so_add (qv 1) q_int))) (q_sl (qv 0) (qo_some (qv 1)) qo_none)))))))⟩) vc_doubled
theorem ok_changed (B : Bi mg) (C_is_kind : Callee P w K mg base "is_kind" s_is_kind 1 ["value", "kinds"] S_is_kind) (C_check_crowd : Callee P w K mg base "check_crowd" s_check_crowd 5 ["kinds", "crowd"] S_check_crowd) (C_check_place : Callee P w K mg base "check_place" s_check_place 3 ["crowd", "place", "first"] S_check_place) (F : Fun K "changed" "changed" s_changed f fd) : FnOk P w K mg base (L2.CX P w) 6 f fd ["crowd", "place", "kind"] (spOf K 3 S_changed) :=
  VL.Fun.okD F (k := 5) (d := d_changed) sc_changed (by
    intro cdv A outer s H E hr
    exact ⟨_, (qss_cons (qs_expr (q_call C_check_crowd.ok (hr.mono (by decide)) rfl C_check_crowd.m C_check_crowd.kp C_check_crowd.b (qa_cons (q_globI rfl B.MOST_KINDS) (qa_cons (qv 0) qa_nil)))) (qss_cons (qs_expr (q_call C_check_place.ok (hr.mono (by decide)) rfl C_check_place.m C_check_place.kp C_check_place.b (qa_cons (qv 0) (qa_cons (qv 1) (qa_cons q_int qa_nil))))) (qss_cons (qs_if (qt_not (qt_val (q_call C_is_kind.ok (hr.mono (by decide)) rfl C_is_kind.m C_is_kind.kp C_is_kind.b (qa_cons (qv 2) (qa_cons (q_globI rfl B.MOST_KINDS) qa_nil))))) (qss_one qs_never) qss_nil) (qss_one (qs_ret (q_op op_addU so_add (q_op op_addU so_add (q_sl (qv 0) qo_none (qo_some (qv 1))) (qv 2)) (q_sl (qv 0) (qo_some (q_op op_addU so_add (qv 1) q_int)) qo_none)))))))⟩) vc_changed
theorem ok_part (B : Bi mg) (C_are_places : Callee P w K mg base "are_places" s_are_places 3 ["value", "many"] S_are_places) (C_check_crowd : Callee P w K mg base "check_crowd" s_check_crowd 5 ["kinds", "crowd"] S_check_crowd) (F : Fun K "part" "part" s_part f fd) : FnOk P w K mg base (L2.CX P w) 6 f fd ["crowd", "places"] (spOf K 2 S_part) :=
  VL.Fun.okD F (k := 5) (d := d_part) sc_part (by
    intro cdv A outer s H E hr
    exact ⟨_, (qss_cons (qs_expr (q_call C_check_crowd.ok (hr.mono (by decide)) rfl C_check_crowd.m C_check_crowd.kp C_check_crowd.b (qa_cons (q_globI rfl B.MOST_KINDS) (qa_cons (qv 0) qa_nil)))) (qss_cons (qs_if (qt_not (qt_val (q_call C_are_places.ok (hr.mono (by decide)) rfl C_are_places.m C_are_places.kp C_are_places.b (qa_cons (qv 1) (qa_cons (q_cb cr_lenU sc_len rfl B.len (by decide +kernel) (qa_cons (qv 0) qa_nil)) qa_nil))))) (qss_one qs_never) qss_nil) (qss_one (qs_ret (q_join q_str (q_lc' [("place", 2)] rfl sc_part.nd (qi_seq (qv 1)) (blkOk_by (N := N_part) (sc := defScope s_part) (own := [("place", 2)]) (by decide +kernel)) (qg_name (i := 2) sc_part.nd rfl (Or.inl rfl)) qts_nil (q_ix (qv 0) (qv 2) (fun _ _ => rfl)) (fun _ _ _ _ _ => by exact (qg_name (i := 2) sc_part.nd rfl (Or.inl rfl))) (fun _ _ _ _ _ => by exact qts_nil) (fun _ _ _ _ _ => by exact (q_ix (qv 0) (qv 2) (fun _ _ => rfl)))))))))⟩) vc_part
theorem ok__law_cell (B : Bi mg) (F : Fun K "_law_cell" "_law_cell" s__law_cell f fd) : FnOk P w K mg base (L2.CX P w) 1 f fd ["script", "k"] (spOf K 2 S__law_cell) :=
  VL.Fun.okD F (k := 0) (d := d__law_cell) sc__law_cell (by
    intro cdv A outer s H E hr
    exact ⟨_, (qss_one (qs_ret (q_if (qt_cmp op_lt so_dB0 (qv 1) (q_cb cr_lenU sc_len rfl B.len (by decide +kernel) (qa_cons (qv 0) qa_nil)) (nomark _)) (q_ix (qv 0) (qv 1) (fun _ _ => rfl)) (q_op op_addU so_add (q_op op_mulW so_dI q_int (qv 1)) (q_op op_mod so_dI (q_ct call_int1 sc_int rfl B.int (by decide +kernel) (qa_cons (q_cb (cr_sum rfl) sc_sum rfl B.sum (by decide +kernel) (qa_cons (q_sl (qv 0) qo_none (qo_some q_int)) qa_nil)) qa_nil)) q_int)))))⟩) vc__law_cell
theorem ok__law_box (B : Bi mg) (F : Fun K "_law_box" "_law_box" s__law_box f fd) : FnOk P w K mg base (L2.CX P w) 1 f fd ["great"] (spOf K 1 S__law_box) :=
  VL.Fun.okD F (k := 0) (d := d__law_box) sc__law_box (by
    intro cdv A outer s H E hr
    exact ⟨_, (qss_one (qs_ret (q_toBox (q_lst (qa_cons (q_cb call_abs sc_abs rfl B.abs (by decide +kernel) (qa_cons (qv 0) qa_nil)) (qa_cons (q_cmp op_ge so_dB0 (q_cb call_abs sc_abs rfl B.abs (by decide +kernel) (qa_cons (qv 0) qa_nil)) (q_op op_powW so_dI q_int q_int) (nomark _)) (qa_cons (q_op op_mod so_dI (q_ct call_int1 sc_int rfl B.int (by decide +kernel) (qa_cons (q_cb call_abs sc_abs rfl B.abs (by decide +kernel) (qa_cons (qv 0) qa_nil)) qa_nil)) q_int) (qa_cons q_int qa_nil))))))))⟩) vc__law_box
theorem ok__law_take (B : Bi mg) (F : Fun K "_law_take" "_law_take" s__law_take f fd) : FnOk P w K mg base (L2.CX P w) 1 f fd ["box", "many"] (spOf K 2 S__law_take) :=
  VL.Fun.okD F (k := 0) (d := d__law_take) sc__law_take (by
    intro cdv A outer s H E hr
    exact ⟨_, (qss_cons (qs_if (QW.t (qw_and (qt_val (q_boxIx 1 (qv 0) (fun _ _ => rfl))) (qw_and1 (qt_cmp op_gt so_dB0 (q_boxIx 0 (qv 0) (fun _ _ => rfl)) q_int (nomark _))))) (qss_cons (qs_set (i := 3) sc__law_take.nd rfl (Or.inl rfl) (q_op op_mod so_dI (q_ct call_int1 sc_int rfl B.int (by decide +kernel) (qa_cons (q_boxIx 0 (qv 0) (fun _ _ => rfl)) qa_nil)) (qv 1))) (qss_cons (qs_asg (q_op op_fdiv so_dI (q_boxIx 0 (qv 0) (fun _ _ => rfl)) (qv 1)) (qg_box 0 (qv 0))) (qss_one (qs_ret (qv 3))))) qss_nil) (qss_cons (qs_asg (q_op op_addU so_add (q_boxIx 3 (qv 0) (fun _ _ => rfl)) q_int) (qg_box 3 (qv 0))) (qss_cons (qs_set (i := 2) sc__law_take.nd rfl (Or.inl rfl) (q_op op_mod so_dI (q_ct call_int1 sc_int rfl B.int (by decide +kernel) (qa_cons (q_op op_powW so_dI (q_op op_addU so_add (q_op op_addU so_add (q_boxIx 2 (qv 0) (fun _ _ => rfl)) (q_op op_mulW so_dI q_int (q_boxIx 3 (qv 0) (fun _ _ => rfl)))) q_int) q_int) qa_nil)) q_int)) (qss_one (qs_ret (q_op op_mod so_dI (q_ct call_int1 sc_int rfl B.int (by decide +kernel) (qa_cons (q_op op_fdiv so_dI (q_op op_mod so_dI (q_ct call_int1 sc_int rfl B.int (by decide +kernel) (qa_cons (q_op op_powW so_dI (q_op op_addU so_add (q_op op_mulW so_dI (qv 2) q_int) (q_op op_mulW so_dI q_int (q_boxIx 3 (qv 0) (fun _ _ => rfl)))) q_int) qa_nil)) q_int) q_int) qa_nil)) (qv 1)))))))⟩) vc__law_take
theorem ok__law_begun (B : Bi mg) (C__law_take : Callee P w K mg base "_law_take" s__law_take 1 ["box", "many"] S__law_take) (F : Fun K "_law_begun" "_law_begun" s__law_begun f fd) : FnOk P w K mg base (L2.CX P w) 2 f fd ["box", "great"] (spOf K 2 S__law_begun) :=
  VL.Fun.okD F (k := 1) (d := d__law_begun) sc__law_begun (by
    intro cdv A outer s H E hr
    exact ⟨_, (qss_cons (qs_set (i := 2) sc__law_begun.nd rfl (Or.inr rfl) (q_lc' [("k", 4)] rfl sc__law_begun.nd (qi_range1 rfl B.range (q_op op_addU so_add q_int (q_call C__law_take.ok (hr.mono (by decide)) rfl C__law_take.m C__law_take.kp C__law_take.b (qa_cons (qv 0) (qa_cons q_int qa_nil))))) (blkOk_by (N := N__law_begun) (sc := defScope s__law_begun) (own := [("k", 4)]) (by decide +kernel)) (qg_name (i := 4) sc__law_begun.nd rfl (Or.inl rfl)) qts_nil (q_ix q_str (q_call C__law_take.ok (hr.mono (by decide)) rfl C__law_take.m C__law_take.kp C__law_take.b (qa_cons (qv 0) (qa_cons q_int qa_nil))) (fun _ _ => rfl)) (fun _ _ _ _ _ => by exact (qg_name (i := 4) sc__law_begun.nd rfl (Or.inl rfl))) (fun _ _ _ _ _ => by exact qts_nil) (fun _ _ _ _ _ => by exact (q_ix q_str (q_call C__law_take.ok (hr.mono (by decide)) rfl C__law_take.m C__law_take.kp C__law_take.b (qa_cons (qv 0) (qa_cons q_int qa_nil))) (fun _ _ => rfl))))) (qss_cons (qs_set (i := 3) sc__law_begun.nd rfl (Or.inl rfl) (q_if (qt_val (qv 1)) (q_op op_addU so_add q_int (q_call C__law_take.ok (hr.mono (by decide)) rfl C__law_take.m C__law_take.kp C__law_take.b (qa_cons (qv 0) (qa_cons q_int qa_nil)))) (q_ix (q_lst (qa_cons q_int (qa_cons q_int (qa_cons q_int (qa_cons q_int (qa_cons q_int (qa_cons q_int (qa_cons q_int (qa_cons q_int qa_nil))))))))) (q_call C__law_take.ok (hr.mono (by decide)) rfl C__law_take.m C__law_take.kp C__law_take.b (qa_cons (qv 0) (qa_cons q_int qa_nil))) (fun _ _ => rfl)))) (qss_one (qs_ret (q_lc' [("k", 4)] rfl sc__law_begun.nd (qi_range1 rfl B.range (qv 3)) (blkOk_by (N := N__law_begun) (sc := defScope s__law_begun) (own := [("k", 4)]) (by decide +kernel)) (qg_name (i := 4) sc__law_begun.nd rfl (Or.inl rfl)) qts_nil (q_ix (qv 2) (q_op op_mod so_dI (q_ct call_int1 sc_int rfl B.int (by decide +kernel) (qa_cons (q_op op_addU so_add (q_op op_mulW so_dI (qv 4) (qv 4)) (q_op op_fdiv so_dI (qv 4) q_int)) qa_nil)) (q_cb cr_lenU sc_len rfl B.len (by decide +kernel) (qa_cons (qv 2) qa_nil))) (fun _ _ => rfl)) (fun _ _ _ _ _ => by exact (qg_name (i := 4) sc__law_begun.nd rfl (Or.inl rfl))) (fun _ _ _ _ _ => by exact qts_nil) (fun _ _ _ _ _ => by exact (q_ix (qv 2) (q_op op_mod so_dI (q_ct call_int1 sc_int rfl B.int (by decide +kernel) (qa_cons (q_op op_addU so_add (q_op op_mulW so_dI (qv 4) (qv 4)) (q_op op_fdiv so_dI (qv 4) q_int)) qa_nil)) (q_cb cr_lenU sc_len rfl B.len (by decide +kernel) (qa_cons (qv 2) qa_nil))) (fun _ _ => rfl))))))))⟩) vc__law_begun
theorem ok__law_chosen (B : Bi mg) (C__law_take : Callee P w K mg base "_law_take" s__law_take 1 ["box", "many"] S__law_take) (F : Fun K "_law_chosen" "_law_chosen" s__law_chosen f fd) : FnOk P w K mg base (L2.CX P w) 2 f fd ["box", "many"] (spOf K 2 S__law_chosen) :=
  VL.Fun.okD F (k := 1) (d := d__law_chosen) sc__law_chosen (by
    intro cdv A outer s H E hr
    exact ⟨_, (qss_cons (qs_set (i := 2) sc__law_chosen.nd rfl (Or.inl rfl) (q_call C__law_take.ok (hr.mono (by decide)) rfl C__law_take.m C__law_take.kp C__law_take.b (qa_cons (qv 0) (qa_cons q_int qa_nil)))) (qss_cons (qs_if (qt_cmp (op_eqD hr.units) so_eq (qv 2) q_int (nomark _)) (qss_one (qs_ret (q_lsR rfl rfl B.list rfl B.range (qv 1)))) qss_nil) (qss_cons (qs_if (qt_cmp (op_eqD hr.units) so_eq (qv 2) q_int (nomark _)) (qss_one (qs_ret (q_lst qa_nil))) qss_nil) (qss_cons (qs_if (qt_cmp (op_eqD hr.units) so_eq (qv 2) q_int (nomark _)) (qss_cons (qs_set (i := 3) sc__law_chosen.nd rfl (Or.inr rfl) (q_op op_addU so_add q_int (q_call C__law_take.ok (hr.mono (by decide)) rfl C__law_take.m C__law_take.kp C__law_take.b (qa_cons (qv 0) (qa_cons q_int qa_nil))))) (qss_one (qs_ret (q_lc' [("place", 5)] rfl sc__law_chosen.nd (qi_range1 rfl B.range (qv 1)) (blkOk_by (N := N__law_chosen) (sc := defScope s__law_chosen) (own := [("place", 5)]) (by decide +kernel)) (qg_name (i := 5) sc__law_chosen.nd rfl (Or.inl rfl)) (qts_one (qt_cmp (op_eqD hr.units) so_eq (q_op op_mod so_dI (q_ct call_int1 sc_int rfl B.int (by decide +kernel) (qa_cons (qv 5) qa_nil)) (qv 3)) q_int (nomark _))) (qv 5) (fun _ _ _ _ _ => by exact (qg_name (i := 5) sc__law_chosen.nd rfl (Or.inl rfl))) (fun _ _ _ _ _ => by exact (qts_one (qt_cmp (op_eqD hr.units) so_eq (q_op op_mod so_dI (q_ct call_int1 sc_int rfl B.int (by decide +kernel) (qa_cons (qv 5) qa_nil)) (qv 3)) q_int (nomark _)))) (fun _ _ _ _ _ => by exact (qv 5)))))) qss_nil) (qss_cons (qs_if (qt_cmp (op_eqD hr.units) so_eq (qv 2) q_int (nomark _)) (qss_cons (qs_set (i := 4) sc__law_chosen.nd rfl (Or.inr rfl) (q_call C__law_take.ok (hr.mono (by decide)) rfl C__law_take.m C__law_take.kp C__law_take.b (qa_cons (qv 0) (qa_cons (q_cb (call_max2 rfl) sc_max rfl B.max (by decide +kernel) (qa_cons q_int (qa_cons (qv 1) qa_nil))) qa_nil)))) (qss_one (qs_ret (q_lc' [("place", 5)] rfl sc__law_chosen.nd (qi_range1 rfl B.range (qv 1)) (blkOk_by (N := N__law_chosen) (sc := defScope s__law_chosen) (own := [("place", 5)]) (by decide +kernel)) (qg_name (i := 5) sc__law_chosen.nd rfl (Or.inl rfl)) (qts_one (qt_cmp (op_neD hr.units) so_ne (qv 5) (qv 4) (nomark _))) (qv 5) (fun _ _ _ _ _ => by exact (qg_name (i := 5) sc__law_chosen.nd rfl (Or.inl rfl))) (fun _ _ _ _ _ => by exact (qts_one (qt_cmp (op_neD hr.units) so_ne (qv 5) (qv 4) (nomark _)))) (fun _ _ _ _ _ => by exact (qv 5)))))) qss_nil) (qss_one (qs_ret (q_if (qt_cmp op_gt so_dB0 (qv 1) q_int (nomark _)) (q_sortSet rfl rfl B.sorted rfl B.set (q_lc' [("k", 6)] rfl sc__law_chosen.nd (qi_range1 rfl B.range q_int) (blkOk_by (N := N__law_chosen) (sc := defScope s__law_chosen) (own := [("k", 6)]) (by decide +kernel)) (qg_name (i := 6) sc__law_chosen.nd rfl (Or.inl rfl)) qts_nil (q_call C__law_take.ok (hr.mono (by decide)) rfl C__law_take.m C__law_take.kp C__law_take.b (qa_cons (qv 0) (qa_cons (qv 1) qa_nil))) (fun _ _ _ _ _ => by exact (qg_name (i := 6) sc__law_chosen.nd rfl (Or.inl rfl))) (fun _ _ _ _ _ => by exact qts_nil) (fun _ _ _ _ _ => by exact (q_call C__law_take.ok (hr.mono (by decide)) rfl C__law_take.m C__law_take.kp C__law_take.b (qa_cons (qv 0) (qa_cons (qv 1) qa_nil)))))) (q_lst qa_nil)))))))))⟩) vc__law_chosen
theorem ok__law_place (B : Bi mg) (C__law_take : Callee P w K mg base "_law_take" s__law_take 1 ["box", "many"] S__law_take) (F : Fun K "_law_place" "_law_place" s__law_place f fd) : FnOk P w K mg base (L2.CX P w) 2 f fd ["box", "low", "many"] (spOf K 3 S__law_place) :=
  VL.Fun.okD F (k := 1) (d := d__law_place) sc__law_place (by
    intro cdv A outer s H E hr
    exact ⟨_, (qss_one (qs_ret (q_ix (q_lst (qa_cons (qv 1) (qa_cons (q_op op_sub so_dI0 (qv 2) q_int) (qa_cons (q_op op_addU so_add (qv 1) (q_call C__law_take.ok (hr.mono (by decide)) rfl C__law_take.m C__law_take.kp C__law_take.b (qa_cons (qv 0) (qa_cons (q_op op_sub so_dI0 (qv 2) (qv 1)) qa_nil)))) qa_nil)))) (q_call C__law_take.ok (hr.mono (by decide)) rfl C__law_take.m C__law_take.kp C__law_take.b (qa_cons (qv 0) (qa_cons q_int qa_nil))) (fun _ _ => rfl))))⟩) vc__law_place
theorem ok__law_deed (B : Bi mg) (C__law_take : Callee P w K mg base "_law_take" s__law_take 1 ["box", "many"] S__law_take) (C__law_chosen : Callee P w K mg base "_law_chosen" s__law_chosen 2 ["box", "many"] S__law_chosen) (C__law_place : Callee P w K mg base "_law_place" s__law_place 2 ["box", "low", "many"] S__law_place) (F : Fun K "_law_deed" "_law_deed" s__law_deed f fd) : FnOk P w K mg base (L2.CX P w) 3 f fd ["box", "row", "which"] (spOf K 3 S__law_deed) :=
  VL.Fun.okD F (k := 2) (d := d__law_deed) sc__law_deed (by
    intro cdv A outer s H E hr
    exact ⟨_, (qss_cons (qs_set (i := 3) sc__law_deed.nd rfl (Or.inl rfl) (q_cb cr_lenU sc_len rfl B.len (by decide +kernel) (qa_cons (qv 1) qa_nil))) (qss_cons (qs_if (QW.t (qw_or (qt_cmp (op_eqD hr.units) so_eq (qv 2) q_int (nomark _)) (qw_or (qt_cmp (op_eqD hr.units) so_eq (qv 3) q_int (nomark _)) (qw_or (QW.t (qw_and (qt_cmp (op_eqD hr.units) so_eq (qv 2) q_int (nomark _)) (qw_and1 (qt_cmp (op_eqD hr.units) so_eq (qv 3) q_int (nomark _))))) (qw_or1 (QW.t (qw_and (qt_cmp (op_eqD hr.units) so_eq (qv 2) q_int (nomark _)) (qw_and1 (qt_cmp (op_eqD hr.units) so_eq (qv 3) q_int (nomark _)))))))))) (qss_cons (qs_set (i := 5) sc__law_deed.nd rfl (Or.inl rfl) (q_call C__law_chosen.ok (hr.mono (by decide)) rfl C__law_chosen.m C__law_chosen.kp C__law_chosen.b (qa_cons (qv 0) (qa_cons (qv 3) qa_nil)))) (qss_one (qs_ret (q_tup (qa_cons (q_lst (qa_cons q_int (qa_cons (qv 5) (qa_cons q_str qa_nil)))) (qa_cons (q_lc' [("place", 6)] rfl sc__law_deed.nd (qi_seq (qv 5)) (blkOk_by (N := N__law_deed) (sc := defScope s__law_deed) (own := [("place", 6)]) (by decide +kernel)) (qg_name (i := 6) sc__law_deed.nd rfl (Or.inl rfl)) qts_nil (q_ix (qv 1) (qv 6) (fun _ _ => rfl)) (fun _ _ _ _ _ => by exact (qg_name (i := 6) sc__law_deed.nd rfl (Or.inl rfl))) (fun _ _ _ _ _ => by exact qts_nil) (fun _ _ _ _ _ => by exact (q_ix (qv 1) (qv 6) (fun _ _ => rfl)))) qa_nil)))))) qss_nil) (qss_cons (qs_par (i := 6) (j := 7) rfl sc__law_deed.nd rfl rfl (by decide) rfl rfl (qar_cons (q_call C__law_place.ok (hr.mono (by decide)) rfl C__law_place.m C__law_place.kp C__law_place.b (qa_cons (qv 0) (qa_cons (q_ct call_int1 sc_int rfl B.int (by decide +kernel) (qa_cons (q_cmp (op_eqD hr.units) so_eq (qv 2) q_int (nomark _)) qa_nil)) (qa_cons (qv 3) qa_nil)))) (qar_cons (q_ix q_str (q_call C__law_take.ok (hr.mono (by decide)) rfl C__law_take.m C__law_take.kp C__law_take.b (qa_cons (qv 0) (qa_cons q_int qa_nil))) (fun _ _ => rfl)) qar_nil)) (by rfl)) (qss_cons (qs_set (i := 4) sc__law_deed.nd rfl (Or.inl rfl) (q_ct call_list_of sc_list rfl B.list (by decide +kernel) (qa_cons (qv 1) qa_nil))) (qss_cons (qs_if (qt_cmp (op_eqD hr.units) so_eq (qv 2) q_int (nomark _)) (qss_one (qs_expr (q_mt (fun to t ho ha => pe_bm PySem.F.plainAttrs_list PySem.F.slot_list_pop PySem.F.type_list_pop mt_popAt ho ha) sm_popAt (qv 4) (qa_cons (qv 6) qa_nil)))) (qss_one (qs_if (qt_cmp (op_eqD hr.units) so_eq (qv 2) q_int (nomark _)) (qss_one (qs_set (i := 4) sc__law_deed.nd rfl (Or.inl rfl) (q_op op_addU so_add (q_op op_addU so_add (q_sl (qv 1) qo_none (qo_some (q_op op_sub so_dI0 (qv 6) q_int))) (q_lst (qa_cons (q_ix (qv 1) (qv 6) (fun _ _ => rfl)) (qa_cons (q_ix (qv 1) (q_op op_sub so_dI0 (qv 6) q_int) (fun _ _ => rfl)) qa_nil)))) (q_sl (qv 1) (qo_some (q_op op_addU so_add (qv 6) q_int)) qo_none)))) (qss_one (qs_if (qt_cmp (op_eqD hr.units) so_eq (qv 2) q_int (nomark _)) (qss_one (qs_expr (q_mt (fun to t ho ha => pe_bm PySem.F.plainAttrs_list PySem.F.slot_list_insert PySem.F.type_list_insert mt_insert ho ha) sm_insert (qv 4) (qa_cons (qv 6) (qa_cons (q_ix (qv 1) (qv 6) (fun _ _ => rfl)) qa_nil))))) (qss_one (qs_asg (qv 7) (qg_sub (qv 4) (qv 6))))))))) (qss_one (qs_ret (q_tup (qa_cons (q_lst (qa_cons (qv 2) (qa_cons (qv 6) (qa_cons (qv 7) qa_nil)))) (qa_cons (qv 4) qa_nil))))))))))⟩) vc__law_deed
theorem ok__law_told (B : Bi mg) (C_without : Callee P w K mg base "without" s_without 6 ["crowd", "place"] S_without) (C_moved_up : Callee P w K mg base "moved_up" s_moved_up 6 ["crowd", "place"] S_moved_up) (C_doubled : Callee P w K mg base "doubled" s_doubled 6 ["crowd", "place"] S_doubled) (C_changed : Callee P w K mg base "changed" s_changed 6 ["crowd", "place", "kind"] S_changed) (C_part : Callee P w K mg base "part" s_part 6 ["crowd", "places"] S_part) (F : Fun K "_law_told" "_law_told" s__law_told f fd) : FnOk P w K mg base (L2.CX P w) 7 f fd ["crowd", "deed", "turn"] (spOf K 3 S__law_told) :=
  VL.Fun.okD F (k := 6) (d := d__law_told) sc__law_told (by
    intro cdv A outer s H E hr
    exact ⟨_, (qss_cons (qs_asg (qv 1) (qg_unl rfl (qgs_cons (qg_name (i := 5) sc__law_told.nd rfl (Or.inl rfl)) (qgs_cons (qg_name (i := 6) sc__law_told.nd rfl (Or.inl rfl)) (qgs_cons (qg_name (i := 7) sc__law_told.nd rfl (Or.inl rfl)) qgs_nil))))) (qss_cons (qs_if (qt_cmp (op_eqD hr.units) so_eq (qv 5) q_int (nomark _)) (qss_one (qs_ret (q_if (qt_cmp (op_eqD hr.units) so_eq (qv 2) q_int (nomark _)) (q_call C_without.ok (hr.mono (by decide)) rfl C_without.m C_without.kp C_without.b (qa_cons (qv 0) (qa_cons (qv 6) qa_nil))) (q_callK0 (S := S_without) (ks := ["place", "crowd"]) C_without.ok (hr.mono (by decide)) rfl C_without.m C_without.kp (kbOf C_without.F (ks := ["place", "crowd"]) (n := 0) (pi := [1, 0]) fun _ _ _ _ _ _ us ws h1 h2 => match us, ws, h1, h2 with | [], [_, _], _, _ => rfl) rfl (qk_cons (qv 6) (qk_cons (qv 0) qk_nil)))))) qss_nil) (qss_cons (qs_if (qt_cmp (op_eqD hr.units) so_eq (qv 5) q_int (nomark _)) (qss_one (qs_ret (q_if (qt_cmp (op_eqD hr.units) so_eq (qv 2) q_int (nomark _)) (q_call C_moved_up.ok (hr.mono (by decide)) rfl C_moved_up.m C_moved_up.kp C_moved_up.b (qa_cons (qv 0) (qa_cons (qv 6) qa_nil))) (q_callK0 (S := S_moved_up) (ks := ["place", "crowd"]) C_moved_up.ok (hr.mono (by decide)) rfl C_moved_up.m C_moved_up.kp (kbOf C_moved_up.F (ks := ["place", "crowd"]) (n := 0) (pi := [1, 0]) fun _ _ _ _ _ _ us ws h1 h2 => match us, ws, h1, h2 with | [], [_, _], _, _ => rfl) rfl (qk_cons (qv 6) (qk_cons (qv 0) qk_nil)))))) qss_nil) (qss_cons (qs_if (qt_cmp (op_eqD hr.units) so_eq (qv 5) q_int (nomark _)) (qss_one (qs_ret (q_if (qt_cmp (op_eqD hr.units) so_eq (qv 2) q_int (nomark _)) (q_call C_doubled.ok (hr.mono (by decide)) rfl C_doubled.m C_doubled.kp C_doubled.b (qa_cons (qv 0) (qa_cons (qv 6) qa_nil))) (q_callK0 (S := S_doubled) (ks := ["place", "crowd"]) C_doubled.ok (hr.mono (by decide)) rfl C_doubled.m C_doubled.kp (kbOf C_doubled.F (ks := ["place", "crowd"]) (n := 0) (pi := [1, 0]) fun _ _ _ _ _ _ us ws h1 h2 => match us, ws, h1, h2 with | [], [_, _], _, _ => rfl) rfl (qk_cons (qv 6) (qk_cons (qv 0) qk_nil)))))) qss_nil) (qss_cons (qs_if (qt_cmp (op_eqD hr.units) so_eq (qv 5) q_int (nomark _)) (qss_one (qs_ret (q_if (qt_cmp (op_eqD hr.units) so_eq (qv 2) q_int (nomark _)) (q_call C_changed.ok (hr.mono (by decide)) rfl C_changed.m C_changed.kp C_changed.b (qa_cons (qv 0) (qa_cons (qv 6) (qa_cons (qv 7) qa_nil)))) (q_callK0 (S := S_changed) (ks := ["kind", "crowd", "place"]) C_changed.ok (hr.mono (by decide)) rfl C_changed.m C_changed.kp (kbOf C_changed.F (ks := ["kind", "crowd", "place"]) (n := 0) (pi := [1, 2, 0]) fun _ _ _ _ _ _ us ws h1 h2 => match us, ws, h1, h2 with | [], [_, _, _], _, _ => rfl) rfl (qk_cons (qv 7) (qk_cons (qv 0) (qk_cons (qv 6) qk_nil))))))) qss_nil) (qss_cons (qs_set (i := 3) sc__law_told.nd rfl (Or.inl rfl) (q_ct call_list_of sc_list rfl B.list (by decide +kernel) (qa_cons (qv 6) qa_nil))) (qss_cons (qs_set (i := 4) sc__law_told.nd rfl (Or.inl rfl) (q_if (qt_cmp (op_eqD hr.units) so_eq (qv 2) q_int (nomark _)) (q_call C_part.ok (hr.mono (by decide)) rfl C_part.m C_part.kp C_part.b (qa_cons (qv 0) (qa_cons (q_ct call_tuple_of sc_tuple rfl B.tuple (by decide +kernel) (qa_cons (qv 6) qa_nil)) qa_nil))) (q_callK0 (S := S_part) (ks := ["places", "crowd"]) C_part.ok (hr.mono (by decide)) rfl C_part.m C_part.kp (kbOf C_part.F (ks := ["places", "crowd"]) (n := 0) (pi := [1, 0]) fun _ _ _ _ _ _ us ws h1 h2 => match us, ws, h1, h2 with | [], [_, _], _, _ => rfl) rfl (qk_cons (qv 3) (qk_cons (qv 0) qk_nil))))) (qss_one (qs_ret (q_if (qt_cmp (op_eqD hr.units) so_eq (qv 3) (qv 6) (nomark _)) (qv 4) q_non))))))))))⟩) vc__law_told
theorem ok__law_is (B : Bi mg) (F : Fun K "_law_is" "_law_is" s__law_is f fd) : FnOk P w K mg base (L2.CX P w) 1 f fd ["told", "row"] (spOf K 2 S__law_is) :=
  VL.Fun.okD F (k := 0) (d := d__law_is) sc__law_is (by
    intro cdv A outer s H E hr
    exact ⟨_, (qss_cons (qs_if (QW.t (qw_or (qt_not (qt_val (q_isi (qv 0) rfl B.isinstance rfl B.str (by decide +kernel)))) (qw_or1 (qt_cmp (op_neD hr.units) so_ne (q_cb cr_lenU sc_len rfl B.len (by decide +kernel) (qa_cons (qv 0) qa_nil)) (q_cb cr_lenU sc_len rfl B.len (by decide +kernel) (qa_cons (qv 1) qa_nil)) (nomark _))))) (qss_one (qs_ret q_bl)) qss_nil) (qss_one (qs_ret (q_cmp (op_eqD hr.units) so_eq (q_lc' [("k", 2)] rfl sc__law_is.nd (qi_range1 rfl B.range (q_cb cr_lenU sc_len rfl B.len (by decide +kernel) (qa_cons (qv 1) qa_nil))) (blkOk_by (N := N__law_is) (sc := defScope s__law_is) (own := [("k", 2)]) (by decide +kernel)) (qg_name (i := 2) sc__law_is.nd rfl (Or.inl rfl)) (qts_one (qt_cmp (op_neD hr.units) so_ne (q_ix (qv 0) (qv 2) (fun _ _ => rfl)) (q_ix (qv 1) (qv 2) (fun _ _ => rfl)) (nomark _))) (qv 2) (fun _ _ _ _ _ => by exact (qg_name (i := 2) sc__law_is.nd rfl (Or.inl rfl))) (fun _ _ _ _ _ => by exact (qts_one (qt_cmp (op_neD hr.units) so_ne (q_ix (qv 0) (qv 2) (fun _ _ => rfl)) (q_ix (qv 1) (qv 2) (fun _ _ => rfl)) (nomark _)))) (fun _ _ _ _ _ => by exact (qv 2))) (q_lst qa_nil) (nomark _)))))⟩) vc__law_is
theorem ok_law (B : Bi mg) (C__law_cell : Callee P w K mg base "_law_cell" s__law_cell 1 ["script", "k"] S__law_cell) (C__law_box : Callee P w K mg base "_law_box" s__law_box 1 ["great"] S__law_box) (C__law_take : Callee P w K mg base "_law_take" s__law_take 1 ["box", "many"] S__law_take) (C__law_begun : Callee P w K mg base "_law_begun" s__law_begun 2 ["box", "great"] S__law_begun) (C__law_deed : Callee P w K mg base "_law_deed" s__law_deed 3 ["box", "row", "which"] S__law_deed) (C__law_told : Callee P w K mg base "_law_told" s__law_told 7 ["crowd", "deed", "turn"] S__law_told) (C__law_is : Callee P w K mg base "_law_is" s__law_is 1 ["told", "row"] S__law_is) (F : Fun K "law" "law" s_law f fd) : FnOk P w K mg base (L2.CX P w) 8 f fd ["script"] (spOf K 1 S_law) :=
  VL.Fun.okD F (k := 7) (d := d_law) sc_law (by
    intro cdv A outer s H E hr
    exact ⟨_, (qss_cons (qs_set (i := 1) sc_law.nd rfl (Or.inr rfl) (q_lc' [("k", 11)] rfl sc_law.nd (qi_range1 rfl B.range q_int) (blkOk_by (N := N_law) (sc := defScope s_law) (own := [("k", 11)]) (by decide +kernel)) (qg_name (i := 11) sc_law.nd rfl (Or.inl rfl)) qts_nil (q_call C__law_box.ok (hr.mono (by decide)) rfl C__law_box.m C__law_box.kp C__law_box.b (qa_cons (q_call C__law_cell.ok (hr.mono (by decide)) rfl C__law_cell.m C__law_cell.kp C__law_cell.b (qa_cons (qv 0) (qa_cons (qv 11) qa_nil))) qa_nil)) (fun _ _ _ _ _ => by exact (qg_name (i := 11) sc_law.nd rfl (Or.inl rfl))) (fun _ _ _ _ _ => by exact qts_nil) (fun _ _ _ _ _ => by exact (q_call C__law_box.ok (hr.mono (by decide)) rfl C__law_box.m C__law_box.kp C__law_box.b (qa_cons (q_call C__law_cell.ok (hr.mono (by decide)) rfl C__law_cell.m C__law_cell.kp C__law_cell.b (qa_cons (qv 0) (qa_cons (qv 11) qa_nil))) qa_nil))))) (qss_cons (qs_set (i := 2) sc_law.nd rfl (Or.inr rfl) (q_cmp (op_eqD hr.units) so_eq (q_call C__law_take.ok (hr.mono (by decide)) rfl C__law_take.m C__law_take.kp C__law_take.b (qa_cons (q_ix (qv 1) q_int (fun _ _ => rfl)) (qa_cons q_int qa_nil))) q_int (nomark _))) (qss_cons (qs_setLc' (i := 3) [("k", 11)] rfl sc_law.nd rfl rfl (sw_true rfl rfl rfl (by decide +kernel)) (qi_range1 rfl B.range q_int) (blkOk_by (N := N_law) (sc := defScope s_law) (own := [("k", 11)]) (by decide +kernel)) (qg_name (i := 11) sc_law.nd rfl (Or.inl rfl)) qts_nil (q_call C__law_begun.ok (hr.mono (by decide)) rfl C__law_begun.m C__law_begun.kp C__law_begun.b (qa_cons (q_ix (qv 1) (qv 11) (fun _ _ => rfl)) (qa_cons (q_and (qv 2) (q_one (q_cmp (op_eqD hr.units) so_eq (qv 11) q_int (nomark _)))) qa_nil))) (fun _ _ _ _ _ => by exact (qg_name (i := 11) sc_law.nd rfl (Or.inl rfl))) (fun _ _ _ _ _ => by exact qts_nil) (fun _ _ _ _ _ => by exact (q_call C__law_begun.ok (hr.mono (by decide)) rfl C__law_begun.m C__law_begun.kp C__law_begun.b (qa_cons (q_ix (qv 1) (qv 11) (fun _ _ => rfl)) (qa_cons (q_and (qv 2) (q_one (q_cmp (op_eqD hr.units) so_eq (qv 11) q_int (nomark _)))) qa_nil))))) (qss_cons (qs_par (i := 5) (j := 6) rfl sc_law.nd rfl rfl (by decide) rfl rfl (qar_cons (q_lcO 3 [("row", 13)] rfl sc_law.nd (qv 3) (blkOk_by (N := N_law) (sc := defScope s_law) (own := [("row", 13)]) (by decide +kernel)) (qg_name (i := 13) sc_law.nd rfl (Or.inl rfl)) qts_nil (q_join q_str (qv 13)) (fun _ _ _ _ _ => by exact (qg_name (i := 13) sc_law.nd rfl (Or.inl rfl))) (fun _ _ _ _ _ => by exact qts_nil) (fun _ _ _ _ _ => by exact (q_join q_str (qv 13)))) (qar_cons (q_lst qa_nil) qar_nil)) (by rfl)) (qss_cons (qs_for (passes_of rfl) rfl (qi_range1 rfl B.range q_int) (qg_name (i := 4) sc_law.nd rfl (Or.inl rfl)) (qss_cons (qs_par (i := 11) (j := 12) rfl sc_law.nd rfl rfl (by decide) rfl rfl (qar_cons (q_op op_mod so_dI (q_ct call_int1 sc_int rfl B.int (by decide +kernel) (qa_cons (qv 4) qa_nil)) q_int) (qar_cons (q_ix (qv 1) (q_op op_mod so_dI (q_ct call_int1 sc_int rfl B.int (by decide +kernel) (qa_cons (q_op op_fdiv so_dI (qv 4) q_int) qa_nil)) q_int) (fun _ _ => rfl)) qar_nil)) (by rfl)) (qss_cons (qs_asg (q_call C__law_deed.ok (hr.mono (by decide)) rfl C__law_deed.m C__law_deed.kp C__law_deed.b (qa_cons (qv 12) (qa_cons (q_ix (qv 3) (qv 11) (fun _ _ => rfl)) (qa_cons (q_if (QW.t (qw_or (qt_cmp op_gt so_dB0 (qv 4) q_int (nomark _)) (qw_or1 (qt_val (qv 2))))) (q_call C__law_take.ok (hr.mono (by decide)) rfl C__law_take.m C__law_take.kp C__law_take.b (qa_cons (qv 12) (qa_cons q_int qa_nil))) (q_op op_mod so_dI (q_ct call_int1 sc_int rfl B.int (by decide +kernel) (qa_cons (q_op op_fdiv so_dI (qv 4) q_int) qa_nil)) q_int)) qa_nil)))) (qg_tup rfl (qgs_cons (qg_name (i := 9) sc_law.nd rfl (Or.inl rfl)) (qgs_cons (qg_name (i := 10) sc_law.nd rfl (Or.inl rfl)) qgs_nil)))) (qss_cons (qs_set (i := 7) sc_law.nd rfl (Or.inl rfl) (q_call C__law_told.ok (hr.mono (by decide)) rfl C__law_told.m C__law_told.kp C__law_told.b (qa_cons (q_ix (qv 5) (qv 11) (fun _ _ => rfl)) (qa_cons (qv 9) (qa_cons (q_call C__law_take.ok (hr.mono (by decide)) rfl C__law_take.m C__law_take.kp C__law_take.b (qa_cons (qv 12) (qa_cons q_int qa_nil))) qa_nil))))) (qss_cons (qs_if (qt_not (qt_val (q_call C__law_is.ok (hr.mono (by decide)) rfl C__law_is.m C__law_is.kp C__law_is.b (qa_cons (qv 7) (qa_cons (qv 10) qa_nil))))) (qss_one (qs_ret q_bl)) qss_nil) (qss_cons (qs_if (qt_cmp op_lt so_dB0 (qv 4) q_int (nomark _)) (qss_one (qs_expr (q_mt (fun to t ho ha => pe_bm PySem.F.plainAttrs_list PySem.F.slot_list_append PySem.F.type_list_append mt_append ho ha) sm_append (qv 6) (qa_cons (q_lst (qa_cons (q_ix (qv 5) (qv 11) (fun _ _ => rfl)) (qa_cons (qv 9) (qa_cons (qv 10) qa_nil)))) qa_nil)))) qss_nil) (qss_cons (qs_asg (q_tup (qa_cons (qv 10) (qa_cons (qv 7) qa_nil))) (qg_tup rfl (qgs_cons (qg_sub (qv 3) (qv 11)) (qgs_cons (qg_sub (qv 5) (qv 11)) qgs_nil)))) (qss_one (qs_if (QW.t (qw_and (qt_cmp op_lt so_dB0 (q_cb cr_lenU sc_len rfl B.len (by decide +kernel) (qa_cons (qv 10) qa_nil)) q_int (nomark _)) (qw_and1 (qt_cmp op_lt so_dB0 (qv 4) q_int (nomark _))))) (qss_cons (qs_asg (q_call C__law_begun.ok (hr.mono (by decide)) rfl C__law_begun.m C__law_begun.kp C__law_begun.b (qa_cons (qv 12) (qa_cons q_bl qa_nil))) (qg_sub (qv 3) (qv 11))) (qss_one (qs_asg (q_join q_str (q_ix (qv 3) (qv 11) (fun _ _ => rfl))) (qg_sub (qv 5) (qv 11))))) qss_nil))))))))) (qss_cons (qs_for (passes_of rfl) rfl (qi_seq (qv 6)) (qg_unl rfl (qgs_cons (qg_name (i := 8) sc_law.nd rfl (Or.inl rfl)) (qgs_cons (qg_name (i := 9) sc_law.nd rfl (Or.inl rfl)) (qgs_cons (qg_name (i := 10) sc_law.nd rfl (Or.inl rfl)) qgs_nil)))) (qss_one (qs_if (QW.t (qw_or (qt_not (qt_val (q_call C__law_is.ok (hr.mono (by decide)) rfl C__law_is.m C__law_is.kp C__law_is.b (qa_cons (q_call C__law_told.ok (hr.mono (by decide)) rfl C__law_told.m C__law_told.kp C__law_told.b (qa_cons (qv 8) (qa_cons (qv 9) (qa_cons q_int qa_nil)))) (qa_cons (qv 10) qa_nil))))) (qw_or1 (qt_not (qt_val (q_call C__law_is.ok (hr.mono (by decide)) rfl C__law_is.m C__law_is.kp C__law_is.b (qa_cons (q_call C__law_told.ok (hr.mono (by decide)) rfl C__law_told.m C__law_told.kp C__law_told.b (qa_cons (qv 8) (qa_cons (qv 9) (qa_cons q_int qa_nil)))) (qa_cons (qv 10) qa_nil)))))))) (qss_one (qs_ret q_bl)) qss_nil))) (qss_one (qs_ret q_bl))))))))⟩) vc_law
end
theorem all_mk {l : PySem.W.OpenLaw} {w : World} {K : PySem.W.Frag} {h : Heap} {mg : Str → Option Value} {fa : Addr} (X : K.In h) (G : h.Ns mainGlobals mg) (hfa : mg "law" = some (.ref fa))
    {f0 : Addr} {od0 an0 : Option Addr} {sl0 : Array (Option Value)} {oc0 kV0 dc0 pm0 cd0 ct0 : Value} (a0 : PySem.W.nsIn K mainGlobals "is_integer" = some (some (.ref f0))) (l0 : K.lookup f0 = some ⟨oc0, od0, .func (PySem.W.fnOf "is_integer" "is_integer" (defArgs s_is_integer) (defBody s_is_integer) (defScope s_is_integer) .none kV0 dc0 pm0 an0 cd0 ct0), sl0⟩) (c0 : PySem.W.codeIn K cd0 "is_integer" = true) (k0 : PySem.W.keepIn K (.ref f0) = true)
    {f1 : Addr} {od1 an1 : Option Addr} {sl1 : Array (Option Value)} {oc1 kV1 dc1 pm1 cd1 ct1 : Value} (a1 : PySem.W.nsIn K mainGlobals "is_within" = some (some (.ref f1))) (l1 : K.lookup f1 = some ⟨oc1, od1, .func (PySem.W.fnOf "is_within" "is_within" (defArgs s_is_within) (defBody s_is_within) (defScope s_is_within) .none kV1 dc1 pm1 an1 cd1 ct1), sl1⟩) (c1 : PySem.W.codeIn K cd1 "is_within" = true) (k1 : PySem.W.keepIn K (.ref f1) = true)
    {f2 : Addr} {od2 an2 : Option Addr} {sl2 : Array (Option Value)} {oc2 kV2 dc2 pm2 cd2 ct2 : Value} (a2 : PySem.W.nsIn K mainGlobals "is_index" = some (some (.ref f2))) (l2 : K.lookup f2 = some ⟨oc2, od2, .func (PySem.W.fnOf "is_index" "is_index" (defArgs s_is_index) (defBody s_is_index) (defScope s_is_index) .none kV2 dc2 pm2 an2 cd2 ct2), sl2⟩) (c2 : PySem.W.codeIn K cd2 "is_index" = true) (k2 : PySem.W.keepIn K (.ref f2) = true)
    {f3 : Addr} {od3 an3 : Option Addr} {sl3 : Array (Option Value)} {oc3 kV3 dc3 pm3 cd3 ct3 : Value} (a3 : PySem.W.nsIn K mainGlobals "is_list" = some (some (.ref f3))) (l3 : K.lookup f3 = some ⟨oc3, od3, .func (PySem.W.fnOf "is_list" "is_list" (defArgs s_is_list) (defBody s_is_list) (defScope s_is_list) .none kV3 dc3 pm3 an3 cd3 ct3), sl3⟩) (c3 : PySem.W.codeIn K cd3 "is_list" = true) (k3 : PySem.W.keepIn K (.ref f3) = true)
    {f4 : Addr} {od4 an4 : Option Addr} {sl4 : Array (Option Value)} {oc4 kV4 dc4 pm4 cd4 ct4 : Value} (a4 : PySem.W.nsIn K mainGlobals "ascends" = some (some (.ref f4))) (l4 : K.lookup f4 = some ⟨oc4, od4, .func (PySem.W.fnOf "ascends" "ascends" (defArgs s_ascends) (defBody s_ascends) (defScope s_ascends) .none kV4 dc4 pm4 an4 cd4 ct4), sl4⟩) (c4 : PySem.W.codeIn K cd4 "ascends" = true) (k4 : PySem.W.keepIn K (.ref f4) = true)
    {f5 : Addr} {od5 an5 : Option Addr} {sl5 : Array (Option Value)} {oc5 kV5 dc5 pm5 cd5 ct5 : Value} (a5 : PySem.W.nsIn K mainGlobals "are_places" = some (some (.ref f5))) (l5 : K.lookup f5 = some ⟨oc5, od5, .func (PySem.W.fnOf "are_places" "are_places" (defArgs s_are_places) (defBody s_are_places) (defScope s_are_places) .none kV5 dc5 pm5 an5 cd5 ct5), sl5⟩) (c5 : PySem.W.codeIn K cd5 "are_places" = true) (k5 : PySem.W.keepIn K (.ref f5) = true)
    {f6 : Addr} {od6 an6 : Option Addr} {sl6 : Array (Option Value)} {oc6 kV6 dc6 pm6 cd6 ct6 : Value} (a6 : PySem.W.nsIn K mainGlobals "is_kind" = some (some (.ref f6))) (l6 : K.lookup f6 = some ⟨oc6, od6, .func (PySem.W.fnOf "is_kind" "is_kind" (defArgs s_is_kind) (defBody s_is_kind) (defScope s_is_kind) .none kV6 dc6 pm6 an6 cd6 ct6), sl6⟩) (c6 : PySem.W.codeIn K cd6 "is_kind" = true) (k6 : PySem.W.keepIn K (.ref f6) = true)
    {f7 : Addr} {od7 an7 : Option Addr} {sl7 : Array (Option Value)} {oc7 kV7 dc7 pm7 cd7 ct7 : Value} (a7 : PySem.W.nsIn K mainGlobals "is_string_of" = some (some (.ref f7))) (l7 : K.lookup f7 = some ⟨oc7, od7, .func (PySem.W.fnOf "is_string_of" "is_string_of" (defArgs s_is_string_of) (defBody s_is_string_of) (defScope s_is_string_of) .none kV7 dc7 pm7 an7 cd7 ct7), sl7⟩) (c7 : PySem.W.codeIn K cd7 "is_string_of" = true) (k7 : PySem.W.keepIn K (.ref f7) = true)
    {f8 : Addr} {od8 an8 : Option Addr} {sl8 : Array (Option Value)} {oc8 kV8 dc8 pm8 cd8 ct8 : Value} (a8 : PySem.W.nsIn K mainGlobals "check_kinds" = some (some (.ref f8))) (l8 : K.lookup f8 = some ⟨oc8, od8, .func (PySem.W.fnOf "check_kinds" "check_kinds" (defArgs s_check_kinds) (defBody s_check_kinds) (defScope s_check_kinds) .none kV8 dc8 pm8 an8 cd8 ct8), sl8⟩) (c8 : PySem.W.codeIn K cd8 "check_kinds" = true) (k8 : PySem.W.keepIn K (.ref f8) = true)
    {f9 : Addr} {od9 an9 : Option Addr} {sl9 : Array (Option Value)} {oc9 kV9 dc9 pm9 cd9 ct9 : Value} (a9 : PySem.W.nsIn K mainGlobals "is_crowd" = some (some (.ref f9))) (l9 : K.lookup f9 = some ⟨oc9, od9, .func (PySem.W.fnOf "is_crowd" "is_crowd" (defArgs s_is_crowd) (defBody s_is_crowd) (defScope s_is_crowd) .none kV9 dc9 pm9 an9 cd9 ct9), sl9⟩) (c9 : PySem.W.codeIn K cd9 "is_crowd" = true) (k9 : PySem.W.keepIn K (.ref f9) = true)
    {f10 : Addr} {od10 an10 : Option Addr} {sl10 : Array (Option Value)} {oc10 kV10 dc10 pm10 cd10 ct10 : Value} (a10 : PySem.W.nsIn K mainGlobals "check_crowd" = some (some (.ref f10))) (l10 : K.lookup f10 = some ⟨oc10, od10, .func (PySem.W.fnOf "check_crowd" "check_crowd" (defArgs s_check_crowd) (defBody s_check_crowd) (defScope s_check_crowd) .none kV10 dc10 pm10 an10 cd10 ct10), sl10⟩) (c10 : PySem.W.codeIn K cd10 "check_crowd" = true) (k10 : PySem.W.keepIn K (.ref f10) = true)
    {f11 : Addr} {od11 an11 : Option Addr} {sl11 : Array (Option Value)} {oc11 kV11 dc11 pm11 cd11 ct11 : Value} (a11 : PySem.W.nsIn K mainGlobals "check_place" = some (some (.ref f11))) (l11 : K.lookup f11 = some ⟨oc11, od11, .func (PySem.W.fnOf "check_place" "check_place" (defArgs s_check_place) (defBody s_check_place) (defScope s_check_place) .none kV11 dc11 pm11 an11 cd11 ct11), sl11⟩) (c11 : PySem.W.codeIn K cd11 "check_place" = true) (k11 : PySem.W.keepIn K (.ref f11) = true)
    {f12 : Addr} {od12 an12 : Option Addr} {sl12 : Array (Option Value)} {oc12 kV12 dc12 pm12 cd12 ct12 : Value} (a12 : PySem.W.nsIn K mainGlobals "without" = some (some (.ref f12))) (l12 : K.lookup f12 = some ⟨oc12, od12, .func (PySem.W.fnOf "without" "without" (defArgs s_without) (defBody s_without) (defScope s_without) .none kV12 dc12 pm12 an12 cd12 ct12), sl12⟩) (c12 : PySem.W.codeIn K cd12 "without" = true) (k12 : PySem.W.keepIn K (.ref f12) = true)
    {f13 : Addr} {od13 an13 : Option Addr} {sl13 : Array (Option Value)} {oc13 kV13 dc13 pm13 cd13 ct13 : Value} (a13 : PySem.W.nsIn K mainGlobals "moved_up" = some (some (.ref f13))) (l13 : K.lookup f13 = some ⟨oc13, od13, .func (PySem.W.fnOf "moved_up" "moved_up" (defArgs s_moved_up) (defBody s_moved_up) (defScope s_moved_up) .none kV13 dc13 pm13 an13 cd13 ct13), sl13⟩) (c13 : PySem.W.codeIn K cd13 "moved_up" = true) (k13 : PySem.W.keepIn K (.ref f13) = true)
    {f14 : Addr} {od14 an14 : Option Addr} {sl14 : Array (Option Value)} {oc14 kV14 dc14 pm14 cd14 ct14 : Value} (a14 : PySem.W.nsIn K mainGlobals "doubled" = some (some (.ref f14))) (l14 : K.lookup f14 = some ⟨oc14, od14, .func (PySem.W.fnOf "doubled" "doubled" (defArgs s_doubled) (defBody s_doubled) (defScope s_doubled) .none kV14 dc14 pm14 an14 cd14 ct14), sl14⟩) (c14 : PySem.W.codeIn K cd14 "doubled" = true) (k14 : PySem.W.keepIn K (.ref f14) = true)
    {f15 : Addr} {od15 an15 : Option Addr} {sl15 : Array (Option Value)} {oc15 kV15 dc15 pm15 cd15 ct15 : Value} (a15 : PySem.W.nsIn K mainGlobals "changed" = some (some (.ref f15))) (l15 : K.lookup f15 = some ⟨oc15, od15, .func (PySem.W.fnOf "changed" "changed" (defArgs s_changed) (defBody s_changed) (defScope s_changed) .none kV15 dc15 pm15 an15 cd15 ct15), sl15⟩) (c15 : PySem.W.codeIn K cd15 "changed" = true) (k15 : PySem.W.keepIn K (.ref f15) = true)
    {f16 : Addr} {od16 an16 : Option Addr} {sl16 : Array (Option Value)} {oc16 kV16 dc16 pm16 cd16 ct16 : Value} (a16 : PySem.W.nsIn K mainGlobals "part" = some (some (.ref f16))) (l16 : K.lookup f16 = some ⟨oc16, od16, .func (PySem.W.fnOf "part" "part" (defArgs s_part) (defBody s_part) (defScope s_part) .none kV16 dc16 pm16 an16 cd16 ct16), sl16⟩) (c16 : PySem.W.codeIn K cd16 "part" = true) (k16 : PySem.W.keepIn K (.ref f16) = true)
    {f17 : Addr} {od17 an17 : Option Addr} {sl17 : Array (Option Value)} {oc17 kV17 dc17 pm17 cd17 ct17 : Value} (a17 : PySem.W.nsIn K mainGlobals "_law_cell" = some (some (.ref f17))) (l17 : K.lookup f17 = some ⟨oc17, od17, .func (PySem.W.fnOf "_law_cell" "_law_cell" (defArgs s__law_cell) (defBody s__law_cell) (defScope s__law_cell) .none kV17 dc17 pm17 an17 cd17 ct17), sl17⟩) (c17 : PySem.W.codeIn K cd17 "_law_cell" = true) (k17 : PySem.W.keepIn K (.ref f17) = true)
    {f18 : Addr} {od18 an18 : Option Addr} {sl18 : Array (Option Value)} {oc18 kV18 dc18 pm18 cd18 ct18 : Value} (a18 : PySem.W.nsIn K mainGlobals "_law_box" = some (some (.ref f18))) (l18 : K.lookup f18 = some ⟨oc18, od18, .func (PySem.W.fnOf "_law_box" "_law_box" (defArgs s__law_box) (defBody s__law_box) (defScope s__law_box) .none kV18 dc18 pm18 an18 cd18 ct18), sl18⟩) (c18 : PySem.W.codeIn K cd18 "_law_box" = true) (k18 : PySem.W.keepIn K (.ref f18) = true)
    {f19 : Addr} {od19 an19 : Option Addr} {sl19 : Array (Option Value)} {oc19 kV19 dc19 pm19 cd19 ct19 : Value} (a19 : PySem.W.nsIn K mainGlobals "_law_take" = some (some (.ref f19))) (l19 : K.lookup f19 = some ⟨oc19, od19, .func (PySem.W.fnOf "_law_take" "_law_take" (defArgs s__law_take) (defBody s__law_take) (defScope s__law_take) .none kV19 dc19 pm19 an19 cd19 ct19), sl19⟩) (c19 : PySem.W.codeIn K cd19 "_law_take" = true) (k19 : PySem.W.keepIn K (.ref f19) = true)
    {f20 : Addr} {od20 an20 : Option Addr} {sl20 : Array (Option Value)} {oc20 kV20 dc20 pm20 cd20 ct20 : Value} (a20 : PySem.W.nsIn K mainGlobals "_law_begun" = some (some (.ref f20))) (l20 : K.lookup f20 = some ⟨oc20, od20, .func (PySem.W.fnOf "_law_begun" "_law_begun" (defArgs s__law_begun) (defBody s__law_begun) (defScope s__law_begun) .none kV20 dc20 pm20 an20 cd20 ct20), sl20⟩) (c20 : PySem.W.codeIn K cd20 "_law_begun" = true) (k20 : PySem.W.keepIn K (.ref f20) = true)
    {f21 : Addr} {od21 an21 : Option Addr} {sl21 : Array (Option Value)} {oc21 kV21 dc21 pm21 cd21 ct21 : Value} (a21 : PySem.W.nsIn K mainGlobals "_law_chosen" = some (some (.ref f21))) (l21 : K.lookup f21 = some ⟨oc21, od21, .func (PySem.W.fnOf "_law_chosen" "_law_chosen" (defArgs s__law_chosen) (defBody s__law_chosen) (defScope s__law_chosen) .none kV21 dc21 pm21 an21 cd21 ct21), sl21⟩) (c21 : PySem.W.codeIn K cd21 "_law_chosen" = true) (k21 : PySem.W.keepIn K (.ref f21) = true)
    {f22 : Addr} {od22 an22 : Option Addr} {sl22 : Array (Option Value)} {oc22 kV22 dc22 pm22 cd22 ct22 : Value} (a22 : PySem.W.nsIn K mainGlobals "_law_place" = some (some (.ref f22))) (l22 : K.lookup f22 = some ⟨oc22, od22, .func (PySem.W.fnOf "_law_place" "_law_place" (defArgs s__law_place) (defBody s__law_place) (defScope s__law_place) .none kV22 dc22 pm22 an22 cd22 ct22), sl22⟩) (c22 : PySem.W.codeIn K cd22 "_law_place" = true) (k22 : PySem.W.keepIn K (.ref f22) = true)
    {f23 : Addr} {od23 an23 : Option Addr} {sl23 : Array (Option Value)} {oc23 kV23 dc23 pm23 cd23 ct23 : Value} (a23 : PySem.W.nsIn K mainGlobals "_law_deed" = some (some (.ref f23))) (l23 : K.lookup f23 = some ⟨oc23, od23, .func (PySem.W.fnOf "_law_deed" "_law_deed" (defArgs s__law_deed) (defBody s__law_deed) (defScope s__law_deed) .none kV23 dc23 pm23 an23 cd23 ct23), sl23⟩) (c23 : PySem.W.codeIn K cd23 "_law_deed" = true) (k23 : PySem.W.keepIn K (.ref f23) = true)
    {f24 : Addr} {od24 an24 : Option Addr} {sl24 : Array (Option Value)} {oc24 kV24 dc24 pm24 cd24 ct24 : Value} (a24 : PySem.W.nsIn K mainGlobals "_law_told" = some (some (.ref f24))) (l24 : K.lookup f24 = some ⟨oc24, od24, .func (PySem.W.fnOf "_law_told" "_law_told" (defArgs s__law_told) (defBody s__law_told) (defScope s__law_told) .none kV24 dc24 pm24 an24 cd24 ct24), sl24⟩) (c24 : PySem.W.codeIn K cd24 "_law_told" = true) (k24 : PySem.W.keepIn K (.ref f24) = true)
    {f25 : Addr} {od25 an25 : Option Addr} {sl25 : Array (Option Value)} {oc25 kV25 dc25 pm25 cd25 ct25 : Value} (a25 : PySem.W.nsIn K mainGlobals "_law_is" = some (some (.ref f25))) (l25 : K.lookup f25 = some ⟨oc25, od25, .func (PySem.W.fnOf "_law_is" "_law_is" (defArgs s__law_is) (defBody s__law_is) (defScope s__law_is) .none kV25 dc25 pm25 an25 cd25 ct25), sl25⟩) (c25 : PySem.W.codeIn K cd25 "_law_is" = true) (k25 : PySem.W.keepIn K (.ref f25) = true)
    {f26 : Addr} {od26 an26 : Option Addr} {sl26 : Array (Option Value)} {oc26 kV26 dc26 pm26 cd26 ct26 : Value} (a26 : PySem.W.nsIn K mainGlobals "law" = some (some (.ref f26))) (l26 : K.lookup f26 = some ⟨oc26, od26, .func (PySem.W.fnOf "law" "law" (defArgs s_law) (defBody s_law) (defScope s_law) .none kV26 dc26 pm26 an26 cd26 ct26), sl26⟩) (c26 : PySem.W.codeIn K cd26 "law" = true) (k26 : PySem.W.keepIn K (.ref f26) = true)
    (z_bool : PySem.W.nsIn K mainGlobals "bool" = some none)
    (z_int : PySem.W.nsIn K mainGlobals "int" = some none)
    (z_isinstance : PySem.W.nsIn K mainGlobals "isinstance" = some none)
    (z_list : PySem.W.nsIn K mainGlobals "list" = some none)
    (z_tuple : PySem.W.nsIn K mainGlobals "tuple" = some none)
    (z_all : PySem.W.nsIn K mainGlobals "all" = some none)
    (z_len : PySem.W.nsIn K mainGlobals "len" = some none)
    (z_range : PySem.W.nsIn K mainGlobals "range" = some none)
    (z_str : PySem.W.nsIn K mainGlobals "str" = some none)
    (z_sum : PySem.W.nsIn K mainGlobals "sum" = some none)
    (z_abs : PySem.W.nsIn K mainGlobals "abs" = some none)
    (z_max : PySem.W.nsIn K mainGlobals "max" = some none)
    (z_set : PySem.W.nsIn K mainGlobals "set" = some none)
    (z_sorted : PySem.W.nsIn K mainGlobals "sorted" = some none)
    {t_KINDS : Tok} (z_KINDS : PySem.W.nsIn K mainGlobals "KINDS" = some (some (.str "abc" t_KINDS)))
    {t_MOST_KINDS : Tok} (z_MOST_KINDS : PySem.W.nsIn K mainGlobals "MOST_KINDS" = some (some (.int 3 t_MOST_KINDS)))
    {t_MOST_ASKERS : Tok} (z_MOST_ASKERS : PySem.W.nsIn K mainGlobals "MOST_ASKERS" = some (some (.int 2000 t_MOST_ASKERS)))
    : ∃ fd : FuncData, (∀ (s : Shared) (v : Value), BindsTo s fd ⟨[v], []⟩ [("script", v)]) ∧ ∀ base : Heap, K.In base → base.Ns mainGlobals mg → FnOk l.prog w K mg base (L2.CX l.prog w) 8 fa fd ["script"] (spOf K 1 S_law) := by
  have e := hfa.symm.trans (PySem.W.mg_of X G a26)
  cases e
  have B : Bi mg := ⟨PySem.W.mg_none_of X G z_bool, PySem.W.mg_none_of X G z_int, PySem.W.mg_none_of X G z_isinstance, PySem.W.mg_none_of X G z_list, PySem.W.mg_none_of X G z_tuple, PySem.W.mg_none_of X G z_all, PySem.W.mg_none_of X G z_len, PySem.W.mg_none_of X G z_range, PySem.W.mg_none_of X G z_str, PySem.W.mg_none_of X G z_sum, PySem.W.mg_none_of X G z_abs, PySem.W.mg_none_of X G z_max, PySem.W.mg_none_of X G z_set, PySem.W.mg_none_of X G z_sorted, t_KINDS, PySem.W.mg_of X G z_KINDS, t_MOST_KINDS, PySem.W.mg_of X G z_MOST_KINDS, t_MOST_ASKERS, PySem.W.mg_of X G z_MOST_ASKERS⟩
  refine ⟨PySem.W.fnOf "law" "law" (defArgs s_law) (defBody s_law) (defScope s_law) .none kV26 dc26 pm26 an26 cd26 ct26, fun s v => .of_eq rfl, fun base _ _ => ?_⟩
  have F_is_integer := fun_mk (st := s_is_integer) l0 c0 k0
  have C_is_integer : Callee l.prog w K mg base "is_integer" s_is_integer 1 ["value"] S_is_integer := ⟨_, _, F_is_integer, ok_is_integer B F_is_integer, PySem.W.mg_of X G a0, k0, F_is_integer.binds (ps := ["value"]) fun _ _ _ _ _ _ us hl => match us, hl with | [_], _ => rfl⟩
  have F_is_within := fun_mk (st := s_is_within) l1 c1 k1
  have C_is_within : Callee l.prog w K mg base "is_within" s_is_within 2 ["value", "low", "high"] S_is_within := ⟨_, _, F_is_within, ok_is_within B C_is_integer F_is_within, PySem.W.mg_of X G a1, k1, F_is_within.binds (ps := ["value", "low", "high"]) fun _ _ _ _ _ _ us hl => match us, hl with | [_, _, _], _ => rfl⟩
  have F_is_index := fun_mk (st := s_is_index) l2 c2 k2
  have C_is_index : Callee l.prog w K mg base "is_index" s_is_index 2 ["value", "many"] S_is_index := ⟨_, _, F_is_index, ok_is_index B C_is_integer F_is_index, PySem.W.mg_of X G a2, k2, F_is_index.binds (ps := ["value", "many"]) fun _ _ _ _ _ _ us hl => match us, hl with | [_, _], _ => rfl⟩
  have F_is_list := fun_mk (st := s_is_list) l3 c3 k3
  have C_is_list : Callee l.prog w K mg base "is_list" s_is_list 1 ["value"] S_is_list := ⟨_, _, F_is_list, ok_is_list B F_is_list, PySem.W.mg_of X G a3, k3, F_is_list.binds (ps := ["value"]) fun _ _ _ _ _ _ us hl => match us, hl with | [_], _ => rfl⟩
  have F_ascends := fun_mk (st := s_ascends) l4 c4 k4
  have C_ascends : Callee l.prog w K mg base "ascends" s_ascends 1 ["items"] S_ascends := ⟨_, _, F_ascends, ok_ascends B F_ascends, PySem.W.mg_of X G a4, k4, F_ascends.binds (ps := ["items"]) fun _ _ _ _ _ _ us hl => match us, hl with | [_], _ => rfl⟩
  have F_are_places := fun_mk (st := s_are_places) l5 c5 k5
  have C_are_places : Callee l.prog w K mg base "are_places" s_are_places 3 ["value", "many"] S_are_places := ⟨_, _, F_are_places, ok_are_places B C_is_index C_is_list C_ascends F_are_places, PySem.W.mg_of X G a5, k5, F_are_places.binds (ps := ["value", "many"]) fun _ _ _ _ _ _ us hl => match us, hl with | [_, _], _ => rfl⟩
  have F_is_kind := fun_mk (st := s_is_kind) l6 c6 k6
  have C_is_kind : Callee l.prog w K mg base "is_kind" s_is_kind 1 ["value", "kinds"] S_is_kind := ⟨_, _, F_is_kind, ok_is_kind B F_is_kind, PySem.W.mg_of X G a6, k6, F_is_kind.binds (ps := ["value", "kinds"]) fun _ _ _ _ _ _ us hl => match us, hl with | [_, _], _ => rfl⟩
  have F_is_string_of := fun_mk (st := s_is_string_of) l7 c7 k7
  have C_is_string_of : Callee l.prog w K mg base "is_string_of" s_is_string_of 1 ["value", "kinds"] S_is_string_of := ⟨_, _, F_is_string_of, ok_is_string_of B F_is_string_of, PySem.W.mg_of X G a7, k7, F_is_string_of.binds (ps := ["value", "kinds"]) fun _ _ _ _ _ _ us hl => match us, hl with | [_, _], _ => rfl⟩
  have F_check_kinds := fun_mk (st := s_check_kinds) l8 c8 k8
  have C_check_kinds : Callee l.prog w K mg base "check_kinds" s_check_kinds 3 ["kinds"] S_check_kinds := ⟨_, _, F_check_kinds, ok_check_kinds B C_is_within F_check_kinds, PySem.W.mg_of X G a8, k8, F_check_kinds.binds (ps := ["kinds"]) fun _ _ _ _ _ _ us hl => match us, hl with | [_], _ => rfl⟩
  have F_is_crowd := fun_mk (st := s_is_crowd) l9 c9 k9
  have C_is_crowd : Callee l.prog w K mg base "is_crowd" s_is_crowd 4 ["kinds", "value"] S_is_crowd := ⟨_, _, F_is_crowd, ok_is_crowd B C_is_string_of C_check_kinds F_is_crowd, PySem.W.mg_of X G a9, k9, F_is_crowd.binds (ps := ["kinds", "value"]) fun _ _ _ _ _ _ us hl => match us, hl with | [_, _], _ => rfl⟩
  have F_check_crowd := fun_mk (st := s_check_crowd) l10 c10 k10
  have C_check_crowd : Callee l.prog w K mg base "check_crowd" s_check_crowd 5 ["kinds", "crowd"] S_check_crowd := ⟨_, _, F_check_crowd, ok_check_crowd B C_is_crowd F_check_crowd, PySem.W.mg_of X G a10, k10, F_check_crowd.binds (ps := ["kinds", "crowd"]) fun _ _ _ _ _ _ us hl => match us, hl with | [_, _], _ => rfl⟩
  have F_check_place := fun_mk (st := s_check_place) l11 c11 k11
  have C_check_place : Callee l.prog w K mg base "check_place" s_check_place 3 ["crowd", "place", "first"] S_check_place := ⟨_, _, F_check_place, ok_check_place B C_is_index F_check_place, PySem.W.mg_of X G a11, k11, F_check_place.binds (ps := ["crowd", "place", "first"]) fun _ _ _ _ _ _ us hl => match us, hl with | [_, _, _], _ => rfl⟩
  have F_without := fun_mk (st := s_without) l12 c12 k12
  have C_without : Callee l.prog w K mg base "without" s_without 6 ["crowd", "place"] S_without := ⟨_, _, F_without, ok_without B C_check_crowd C_check_place F_without, PySem.W.mg_of X G a12, k12, F_without.binds (ps := ["crowd", "place"]) fun _ _ _ _ _ _ us hl => match us, hl with | [_, _], _ => rfl⟩
  have F_moved_up := fun_mk (st := s_moved_up) l13 c13 k13
  have C_moved_up : Callee l.prog w K mg base "moved_up" s_moved_up 6 ["crowd", "place"] S_moved_up := ⟨_, _, F_moved_up, ok_moved_up B C_check_crowd C_check_place F_moved_up, PySem.W.mg_of X G a13, k13, F_moved_up.binds (ps := ["crowd", "place"]) fun _ _ _ _ _ _ us hl => match us, hl with | [_, _], _ => rfl⟩
  have F_doubled := fun_mk (st := s_doubled) l14 c14 k14
  have C_doubled : Callee l.prog w K mg base "doubled" s_doubled 6 ["crowd", "place"] S_doubled := ⟨_, _, F_doubled, ok_doubled B C_check_crowd C_check_place F_doubled, PySem.W.mg_of X G a14, k14, F_doubled.binds (ps := ["crowd", "place"]) fun _ _ _ _ _ _ us hl => match us, hl with | [_, _], _ => rfl⟩
  have F_changed := fun_mk (st := s_changed) l15 c15 k15
  have C_changed : Callee l.prog w K mg base "changed" s_changed 6 ["crowd", "place", "kind"] S_changed := ⟨_, _, F_changed, ok_changed B C_is_kind C_check_crowd C_check_place F_changed, PySem.W.mg_of X G a15, k15, F_changed.binds (ps := ["crowd", "place", "kind"]) fun _ _ _ _ _ _ us hl => match us, hl with | [_, _, _], _ => rfl⟩
  have F_part := fun_mk (st := s_part) l16 c16 k16
  have C_part : Callee l.prog w K mg base "part" s_part 6 ["crowd", "places"] S_part := ⟨_, _, F_part, ok_part B C_are_places C_check_crowd F_part, PySem.W.mg_of X G a16, k16, F_part.binds (ps := ["crowd", "places"]) fun _ _ _ _ _ _ us hl => match us, hl with | [_, _], _ => rfl⟩
  have F__law_cell := fun_mk (st := s__law_cell) l17 c17 k17
  have C__law_cell : Callee l.prog w K mg base "_law_cell" s__law_cell 1 ["script", "k"] S__law_cell := ⟨_, _, F__law_cell, ok__law_cell B F__law_cell, PySem.W.mg_of X G a17, k17, F__law_cell.binds (ps := ["script", "k"]) fun _ _ _ _ _ _ us hl => match us, hl with | [_, _], _ => rfl⟩
  have F__law_box := fun_mk (st := s__law_box) l18 c18 k18
  have C__law_box : Callee l.prog w K mg base "_law_box" s__law_box 1 ["great"] S__law_box := ⟨_, _, F__law_box, ok__law_box B F__law_box, PySem.W.mg_of X G a18, k18, F__law_box.binds (ps := ["great"]) fun _ _ _ _ _ _ us hl => match us, hl with | [_], _ => rfl⟩
  have F__law_take := fun_mk (st := s__law_take) l19 c19 k19
  have C__law_take : Callee l.prog w K mg base "_law_take" s__law_take 1 ["box", "many"] S__law_take := ⟨_, _, F__law_take, ok__law_take B F__law_take, PySem.W.mg_of X G a19, k19, F__law_take.binds (ps := ["box", "many"]) fun _ _ _ _ _ _ us hl => match us, hl with | [_, _], _ => rfl⟩
  have F__law_begun := fun_mk (st := s__law_begun) l20 c20 k20
  have C__law_begun : Callee l.prog w K mg base "_law_begun" s__law_begun 2 ["box", "great"] S__law_begun := ⟨_, _, F__law_begun, ok__law_begun B C__law_take F__law_begun, PySem.W.mg_of X G a20, k20, F__law_begun.binds (ps := ["box", "great"]) fun _ _ _ _ _ _ us hl => match us, hl with | [_, _], _ => rfl⟩
  have F__law_chosen := fun_mk (st := s__law_chosen) l21 c21 k21
  have C__law_chosen : Callee l.prog w K mg base "_law_chosen" s__law_chosen 2 ["box", "many"] S__law_chosen := ⟨_, _, F__law_chosen, ok__law_chosen B C__law_take F__law_chosen, PySem.W.mg_of X G a21, k21, F__law_chosen.binds (ps := ["box", "many"]) fun _ _ _ _ _ _ us hl => match us, hl with | [_, _], _ => rfl⟩
  have F__law_place := fun_mk (st := s__law_place) l22 c22 k22
  have C__law_place : Callee l.prog w K mg base "_law_place" s__law_place 2 ["box", "low", "many"] S__law_place := ⟨_, _, F__law_place, ok__law_place B C__law_take F__law_place, PySem.W.mg_of X G a22, k22, F__law_place.binds (ps := ["box", "low", "many"]) fun _ _ _ _ _ _ us hl => match us, hl with | [_, _, _], _ => rfl⟩
  have F__law_deed := fun_mk (st := s__law_deed) l23 c23 k23
  have C__law_deed : Callee l.prog w K mg base "_law_deed" s__law_deed 3 ["box", "row", "which"] S__law_deed := ⟨_, _, F__law_deed, ok__law_deed B C__law_take C__law_chosen C__law_place F__law_deed, PySem.W.mg_of X G a23, k23, F__law_deed.binds (ps := ["box", "row", "which"]) fun _ _ _ _ _ _ us hl => match us, hl with | [_, _, _], _ => rfl⟩
  have F__law_told := fun_mk (st := s__law_told) l24 c24 k24
  have C__law_told : Callee l.prog w K mg base "_law_told" s__law_told 7 ["crowd", "deed", "turn"] S__law_told := ⟨_, _, F__law_told, ok__law_told B C_without C_moved_up C_doubled C_changed C_part F__law_told, PySem.W.mg_of X G a24, k24, F__law_told.binds (ps := ["crowd", "deed", "turn"]) fun _ _ _ _ _ _ us hl => match us, hl with | [_, _, _], _ => rfl⟩
  have F__law_is := fun_mk (st := s__law_is) l25 c25 k25
  have C__law_is : Callee l.prog w K mg base "_law_is" s__law_is 1 ["told", "row"] S__law_is := ⟨_, _, F__law_is, ok__law_is B F__law_is, PySem.W.mg_of X G a25, k25, F__law_is.binds (ps := ["told", "row"]) fun _ _ _ _ _ _ us hl => match us, hl with | [_, _], _ => rfl⟩
  have F_law := fun_mk (st := s_law) l26 c26 k26
  exact ok_law B C__law_cell C__law_box C__law_take C__law_begun C__law_deed C__law_told C__law_is F_law
theorem walk {l : PySem.W.OpenLaw} {q : Program} {loose : List Str} {XP : (Str → Option Value) → Heap → Prop} {YP : World → Heap → Prop} {d : DefRec} {K : Params → PySem.W.Frag} (hn : l.most = some 63) (hdf : d.params.defaults = [])
    (hY : ∀ (w : World) (h : Heap), YP w h → (K w.params).In h)
    (hF : ∀ (w : World) (mg : Str → Option Value) (fa : Addr) (h : Heap), (K w.params).In h → h.Ns mainGlobals mg → mg d.name = some (.ref fa) →
      ∃ fd : FuncData, (∀ (s : Shared) (u : Value), BindsTo s fd ⟨[u], []⟩ [("script", u)]) ∧ ∀ base : Heap, (K w.params).In base → base.Ns mainGlobals mg → FnOk l.prog w (K w.params) mg base (L2.CX l.prog w) 8 fa fd ["script"] (spOf (K w.params) 1 S_law)) :
    PySem.W.WalkO q loose XP YP l.row.toRowW d [] (fun f vs => PySem.call f vs) :=
  L2.walk_of (n := 63) (k := 8) (x := "script") (CX := fun w => L2.CX l.prog w) (sp := fun w => spOf (K w.params) 1 S_law) hn (by decide) hdf ⟨rfl, by decide, by decide⟩ hY hF (fun w H a ns hl _ hS => spLaw_of hl hS (S_law_true ns hl)) fun w H s e s' z => cx_none z
end K02
end VL
open PySem PySem.W PyProof.Rows
set_option maxRecDepth 100000 in
set_option maxHeartbeats 0 in
theorem PySem.Challenge.cw_seatsworn_k02_changed_crowds_holds : PySem.Challenge.rw_seatsworn_k02_changed_crowds.Holds := by
  w_on; o_law; k_head; (case hw => w_witness2)
  k_fill
  refine VL.K02.walk (l := PySem.Challenge.rw_seatsworn_k02_changed_crowds) rfl rfl (fun w h Y => PySem.W.kIn_of Y) ?F
  case F =>
    intro w mg fa h KX G hmg
    refine' VL.K02.all_mk KX G hmg ?a0 ?l0 ?c0 ?k0 ?a1 ?l1 ?c1 ?k1 ?a2 ?l2 ?c2 ?k2 ?a3 ?l3 ?c3 ?k3 ?a4 ?l4 ?c4 ?k4 ?a5 ?l5 ?c5 ?k5 ?a6 ?l6 ?c6 ?k6 ?a7 ?l7 ?c7 ?k7 ?a8 ?l8 ?c8 ?k8 ?a9 ?l9 ?c9 ?k9 ?a10 ?l10 ?c10 ?k10 ?a11 ?l11 ?c11 ?k11 ?a12 ?l12 ?c12 ?k12 ?a13 ?l13 ?c13 ?k13 ?a14 ?l14 ?c14 ?k14 ?a15 ?l15 ?c15 ?k15 ?a16 ?l16 ?c16 ?k16 ?a17 ?l17 ?c17 ?k17 ?a18 ?l18 ?c18 ?k18 ?a19 ?l19 ?c19 ?k19 ?a20 ?l20 ?c20 ?k20 ?a21 ?l21 ?c21 ?k21 ?a22 ?l22 ?c22 ?k22 ?a23 ?l23 ?c23 ?k23 ?a24 ?l24 ?c24 ?k24 ?a25 ?l25 ?c25 ?k25 ?a26 ?l26 ?c26 ?k26 ?z_bool ?z_int ?z_isinstance ?z_list ?z_tuple ?z_all ?z_len ?z_range ?z_str ?z_sum ?z_abs ?z_max ?z_set ?z_sorted ?z_KINDS ?z_MOST_KINDS ?z_MOST_ASKERS
    (case a0 => k_is)
    (case l0 => k_is)
    (case c0 => k_is)
    (case k0 => k_is)
    (case a1 => k_is)
    (case l1 => k_is)
    (case c1 => k_is)
    (case k1 => k_is)
    (case a2 => k_is)
    (case l2 => k_is)
    (case c2 => k_is)
    (case k2 => k_is)
    (case a3 => k_is)
    (case l3 => k_is)
    (case c3 => k_is)
    (case k3 => k_is)
    (case a4 => k_is)
    (case l4 => k_is)
    (case c4 => k_is)
    (case k4 => k_is)
    (case a5 => k_is)
    (case l5 => k_is)
    (case c5 => k_is)
    (case k5 => k_is)
    (case a6 => k_is)
    (case l6 => k_is)
    (case c6 => k_is)
    (case k6 => k_is)
    (case a7 => k_is)
    (case l7 => k_is)
    (case c7 => k_is)
    (case k7 => k_is)
    (case a8 => k_is)
    (case l8 => k_is)
    (case c8 => k_is)
    (case k8 => k_is)
    (case a9 => k_is)
    (case l9 => k_is)
    (case c9 => k_is)
    (case k9 => k_is)
    (case a10 => k_is)
    (case l10 => k_is)
    (case c10 => k_is)
    (case k10 => k_is)
    (case a11 => k_is)
    (case l11 => k_is)
    (case c11 => k_is)
    (case k11 => k_is)
    (case a12 => k_is)
    (case l12 => k_is)
    (case c12 => k_is)
    (case k12 => k_is)
    (case a13 => k_is)
    (case l13 => k_is)
    (case c13 => k_is)
    (case k13 => k_is)
    (case a14 => k_is)
    (case l14 => k_is)
    (case c14 => k_is)
    (case k14 => k_is)
    (case a15 => k_is)
    (case l15 => k_is)
    (case c15 => k_is)
    (case k15 => k_is)
    (case a16 => k_is)
    (case l16 => k_is)
    (case c16 => k_is)
    (case k16 => k_is)
    (case a17 => k_is)
    (case l17 => k_is)
    (case c17 => k_is)
    (case k17 => k_is)
    (case a18 => k_is)
    (case l18 => k_is)
    (case c18 => k_is)
    (case k18 => k_is)
    (case a19 => k_is)
    (case l19 => k_is)
    (case c19 => k_is)
    (case k19 => k_is)
    (case a20 => k_is)
    (case l20 => k_is)
    (case c20 => k_is)
    (case k20 => k_is)
    (case a21 => k_is)
    (case l21 => k_is)
    (case c21 => k_is)
    (case k21 => k_is)
    (case a22 => k_is)
    (case l22 => k_is)
    (case c22 => k_is)
    (case k22 => k_is)
    (case a23 => k_is)
    (case l23 => k_is)
    (case c23 => k_is)
    (case k23 => k_is)
    (case a24 => k_is)
    (case l24 => k_is)
    (case c24 => k_is)
    (case k24 => k_is)
    (case a25 => k_is)
    (case l25 => k_is)
    (case c25 => k_is)
    (case k25 => k_is)
    (case a26 => k_is)
    (case l26 => k_is)
    (case c26 => k_is)
    (case k26 => k_is)
    (case z_bool => k_is)
    (case z_int => k_is)
    (case z_isinstance => k_is)
    (case z_list => k_is)
    (case z_tuple => k_is)
    (case z_all => k_is)
    (case z_len => k_is)
    (case z_range => k_is)
    (case z_str => k_is)
    (case z_sum => k_is)
    (case z_abs => k_is)
    (case z_max => k_is)
    (case z_set => k_is)
    (case z_sorted => k_is)
    (case z_KINDS => k_is)
    (case z_MOST_KINDS => k_is)
    (case z_MOST_ASKERS => k_is)
#print axioms PySem.Challenge.cw_seatsworn_k02_changed_crowds_holds
