import PyProof.Rows.All
import HandS.CallSlots
import HandS.Codes
import HandS.Deep
import HandS.Defaults
import HandS.ExcField
import HandS.ExcInit
import HandS.ExcIs
import HandS.ExcValue
import HandS.FStr
import HandS.Flow
import HandS.ForExc
import HandS.ForMost
import HandS.Head0
import HandS.Head1
import HandS.Head2
import HandS.HeadEnd
import HandS.HeadHook1
import HandS.HeadHook2
import HandS.IsInst
import HandS.Iter
import HandS.More
import HandS.Style
import HandS.Text
import HandS.TupAny
import HandS.TupMul
import HandS.Walk
import HandS.Wide
import HandS.WordsExc
import KE.DataEq
import KE.GoesMore
import KE.IntBitsLaws
import KE.KExcLine
import KE.KStateDown
import PyProof.Rows.RuleB_pow
import PyProof.Rows.SeqMore
import PySem.Challenge.RW_parlourday_k84_rows_and_bills_written
set_option Elab.async false
set_option linter.all false
set_option maxRecDepth 100000

section
set_option Elab.async false
set_option linter.all false
set_option maxRecDepth 100000
/-! PV.Core: values as trees, cells, objects; how the abstract heap of HandS bears them; the readings that are functions. -/
namespace PV
open PySem L2

/-! ### the data -/
inductive D where
  | non | bl (b : Bool) | int (i : Int) | str (x : Str)
  | tup (xs : List D) | lst (xs : List D) | dic (kvs : List (D × D))
  | obj (i : Nat) | exn (c : Nat) (p : D)
inductive Cell where
  | un | val (d : D) | own (d : D)
inductive Ob where
  | ins (c : Nat) (fs : List (Str × D)) | box (d : D)
abbrev Env := List Cell
abbrev Hh := List Ob

inductive ER (α : Type) where
  | stuck | exc (c : Nat) (p : D) (h : Hh) | ok (a : α) (h : Hh)
abbrev EM (α : Type) := Env → Hh → ER α
inductive Fl where
  | next | brk | cont | ret (d : D) | retN (d : D)
inductive SR where
  | stuck | exc (c : Nat) (p : D) (ρ : Env) (h : Hh) | ok (f : Fl) (ρ : Env) (h : Hh)
abbrev SM := Env → Hh → SR
inductive FR where
  | stuck | exc (c : Nat) (p : D) (h : Hh) | val (d : D) (h : Hh) | new (d : D) (h : Hh)
abbrev Fn := List D → Hh → FR

/-! ### how the heap bears the data -/
/-- the text's part that is written, where each class stands -/
structure Gx where
  K : PySem.W.Frag
  ca : Nat → Addr
def kD : Key → D
  | .inl i => .int i
  | .inr x => .str x
/-- a caught exception -/
def exT (cls : Value) (a : Addr) (d : Option Addr) : HO := .ext fun h => ∃ (oe : Obj) (vs : Array Value), h.get? a = some oe ∧ Zc cls d oe ∧ oe.data = .fields vs
mutual
def Rp (G : Gx) (F : Hp) (iot : List Addr) : D → V → Prop
  | .non, v => v = .non
  | .bl b, v => v = .bl b
  | .int i, v => v = .int i
  | .str x, v => v = .str x
  | .tup ds, v => ∃ a vs, v = .ref a ∧ vs.length ≤ sizeLine ∧ SqT G.K F a vs ∧ Rps G F iot ds vs
  | .lst ds, v => ∃ a vs, v = .ref a ∧ vs.length ≤ sizeLine ∧ SqL G.K F a vs ∧ Rps G F iot ds vs
  | .dic kvs, v => ∃ a ks, v = .ref a ∧ ks.length ≤ sizeLine ∧ F a = some (.dK ks) ∧ Rpk G F iot kvs ks
  | .obj i, v => ∃ a, v = .ref a ∧ iot[i]? = some a
  | .exn c p, v => ∃ a d, v = .ref a ∧ F a = some (exT (.ref (G.ca c)) a d) ∧
      ((p = .non ∧ d = none) ∨ ∃ (dd : Addr) (fs : List (Str × V)) (u : V), d = some dd ∧ F dd = some (.xd fs) ∧ fs.lookup ("place" : Str) = some u ∧ Rp G F iot p u)
def Rps (G : Gx) (F : Hp) (iot : List Addr) : List D → List V → Prop
  | [], vs => vs = []
  | d :: ds, vs => ∃ v r, vs = v :: r ∧ Rp G F iot d v ∧ Rps G F iot ds r
def Rpk (G : Gx) (F : Hp) (iot : List Addr) : List (D × D) → List (Key × V) → Prop
  | [], vs => vs = []
  | (k, d) :: ds, vs => ∃ j v r, vs = (j, v) :: r ∧ k = kD j ∧ Rp G F iot d v ∧ Rpk G F iot ds r
end
theorem SqL.mono {K : PySem.W.Frag} {F F' : Hp} {a : Addr} {xs : List V} (h : ∀ b o, F b = some o → F' b = some o) (q : SqL K F a xs) : SqL K F' a xs := by
  rcases q with (q | ⟨o, q⟩) | q
  · exact .inl (.inl (h _ _ q))
  · exact .inl (.inr ⟨o, h _ _ q⟩)
  · exact .inr q
theorem SqT.mono {K : PySem.W.Frag} {F F' : Hp} {a : Addr} {xs : List V} (h : ∀ b o, F b = some o → F' b = some o) (q : SqT K F a xs) : SqT K F' a xs := by
  rcases q with (q | ⟨o, q⟩) | q
  · exact .inl (.inl (h _ _ q))
  · exact .inl (.inr ⟨o, h _ _ q⟩)
  · exact .inr q
section
variable {G : Gx} {F F' : Hp} {iot iot' : List Addr}
theorem pre_get {α : Type} {l l' : List α} (h : l <+: l') {i : Nat} {x : α} (e : l[i]? = some x) : l'[i]? = some x := by
  obtain ⟨t, rfl⟩ := h
  rw [List.getElem?_append_left (List.getElem?_eq_some_iff.mp e).1]
  exact e
mutual
theorem Rp.mono (h : ∀ b o, F b = some o → F' b = some o) (hiot : iot <+: iot') : ∀ (d : D) (v : V), Rp G F iot d v → Rp G F' iot' d v
  | .non, v, q => by simpa only [Rp] using q
  | .bl b, v, q => by simpa only [Rp] using q
  | .int i, v, q => by simpa only [Rp] using q
  | .str x, v, q => by simpa only [Rp] using q
  | .tup ds, v, q => by
    simp only [Rp] at q ⊢
    obtain ⟨a, vs, e, z, f, r⟩ := q
    exact ⟨a, vs, e, z, SqT.mono h f, Rps.mono h hiot ds vs r⟩
  | .lst ds, v, q => by
    simp only [Rp] at q ⊢
    obtain ⟨a, vs, e, z, f, r⟩ := q
    exact ⟨a, vs, e, z, SqL.mono h f, Rps.mono h hiot ds vs r⟩
  | .dic ds, v, q => by
    simp only [Rp] at q ⊢
    obtain ⟨a, vs, e, z, f, r⟩ := q
    exact ⟨a, vs, e, z, h _ _ f, Rpk.mono h hiot ds vs r⟩
  | .obj i, v, q => by
    simp only [Rp] at q ⊢
    obtain ⟨a, e, f⟩ := q
    exact ⟨a, e, pre_get hiot f⟩
  | .exn c p, v, q => by
    simp only [Rp] at q ⊢
    obtain ⟨a, d, e, f, r⟩ := q
    refine ⟨a, d, e, h _ _ f, ?_⟩
    rcases r with r | ⟨dd, fs, u, e1, e2, e3, e4⟩
    · exact .inl r
    · exact .inr ⟨dd, fs, u, e1, h _ _ e2, e3, Rp.mono h hiot p u e4⟩
theorem Rps.mono (h : ∀ b o, F b = some o → F' b = some o) (hiot : iot <+: iot') : ∀ (d : List D) (v : List V), Rps G F iot d v → Rps G F' iot' d v
  | [], vs, q => by simpa only [Rps] using q
  | d :: ds, vs, q => by
    simp only [Rps] at q ⊢
    obtain ⟨v, r, e, a, b⟩ := q
    exact ⟨v, r, e, Rp.mono h hiot d v a, Rps.mono h hiot ds r b⟩
theorem Rpk.mono (h : ∀ b o, F b = some o → F' b = some o) (hiot : iot <+: iot') : ∀ (d : List (D × D)) (v : List (Key × V)), Rpk G F iot d v → Rpk G F' iot' d v
  | [], vs, q => by simpa only [Rpk] using q
  | (k, d) :: ds, vs, q => by
    simp only [Rpk] at q ⊢
    obtain ⟨j, v, r, e, e2, a, b⟩ := q
    exact ⟨j, v, r, e, e2, Rp.mono h hiot d v a, Rpk.mono h hiot ds r b⟩
end
theorem Rps.length : ∀ {ds : List D} {vs : List V}, Rps G F iot ds vs → ds.length = vs.length
  | [], vs, q => by
    simp only [Rps] at q
    subst q
    rfl
  | d :: ds, vs, q => by
    simp only [Rps] at q
    obtain ⟨v, r, rfl, _, b⟩ := q
    rw [List.length_cons, List.length_cons, Rps.length b]
theorem Rpk.length : ∀ {ds : List (D × D)} {vs : List (Key × V)}, Rpk G F iot ds vs → ds.length = vs.length
  | [], vs, q => by
    simp only [Rpk] at q
    subst q
    rfl
  | (k, d) :: ds, vs, q => by
    simp only [Rpk] at q
    obtain ⟨j, v, r, rfl, _, _, b⟩ := q
    rw [List.length_cons, List.length_cons, Rpk.length b]
theorem Rps.nil : Rps G F iot [] [] := by simp only [Rps]
theorem Rps.cons {d : D} {v : V} {ds : List D} {vs : List V} (a : Rp G F iot d v) (b : Rps G F iot ds vs) : Rps G F iot (d :: ds) (v :: vs) := by
  simp only [Rps]
  exact ⟨v, vs, rfl, a, b⟩
theorem Rps.get : ∀ {ds : List D} {vs : List V} {i : Nat} {d : D}, Rps G F iot ds vs → ds[i]? = some d → ∃ v, vs[i]? = some v ∧ Rp G F iot d v
  | [], vs, i, d, q, e => by simp at e
  | x :: ds, vs, 0, d, q, e => by
    simp only [Rps] at q
    obtain ⟨v, r, rfl, a, b⟩ := q
    have e' : x = d := by simpa using e
    subst e'
    exact ⟨v, rfl, a⟩
  | x :: ds, vs, i + 1, d, q, e => by
    simp only [Rps] at q
    obtain ⟨v, r, rfl, a, b⟩ := q
    obtain ⟨u, h1, h2⟩ := Rps.get (i := i) (d := d) b (by simpa using e)
    exact ⟨u, by simpa using h1, h2⟩
theorem Rps.getV : ∀ {ds : List D} {vs : List V} {i : Nat} {v : V}, Rps G F iot ds vs → vs[i]? = some v → ∃ d, ds[i]? = some d ∧ Rp G F iot d v := fun {ds vs i v} q e => by
  have hi := (List.getElem?_eq_some_iff.mp e).1
  rw [← q.length] at hi
  obtain ⟨u, h1, h2⟩ := q.get (i := i) (d := ds[i]) (by simp [hi])
  rw [e] at h1
  cases h1
  exact ⟨ds[i], by simp [hi], h2⟩
theorem Rps.append : ∀ {ds es : List D} {vs us : List V}, Rps G F iot ds vs → Rps G F iot es us → Rps G F iot (ds ++ es) (vs ++ us)
  | [], es, vs, us, q, r => by
    simp only [Rps] at q
    subst q
    exact r
  | d :: ds, es, vs, us, q, r => by
    simp only [Rps] at q
    obtain ⟨v, w, rfl, a, b⟩ := q
    exact Rps.cons a (b.append r)
theorem Rps.take : ∀ (n : Nat) {ds : List D} {vs : List V}, Rps G F iot ds vs → Rps G F iot (ds.take n) (vs.take n)
  | 0, ds, vs, q => by simpa using Rps.nil
  | n + 1, [], vs, q => by
    simp only [Rps] at q
    subst q
    exact Rps.nil
  | n + 1, d :: ds, vs, q => by
    simp only [Rps] at q
    obtain ⟨v, w, rfl, a, b⟩ := q
    exact Rps.cons a (b.take n)
theorem Rps.drop : ∀ (n : Nat) {ds : List D} {vs : List V}, Rps G F iot ds vs → Rps G F iot (ds.drop n) (vs.drop n)
  | 0, ds, vs, q => by simpa using q
  | n + 1, [], vs, q => by
    simp only [Rps] at q
    subst q
    exact Rps.nil
  | n + 1, d :: ds, vs, q => by
    simp only [Rps] at q
    obtain ⟨v, w, rfl, a, b⟩ := q
    simpa using b.drop n
theorem Rps.set : ∀ {ds : List D} {vs : List V} (n : Nat) {d : D} {v : V}, Rp G F iot d v → Rps G F iot ds vs → Rps G F iot (ds.set n d) (vs.set n v)
  | [], vs, n, d, v, p, q => by
    simp only [Rps] at q
    subst q
    exact Rps.nil
  | x :: ds, vs, 0, d, v, p, q => by
    simp only [Rps] at q
    obtain ⟨u, w, rfl, a, b⟩ := q
    exact Rps.cons p b
  | x :: ds, vs, n + 1, d, v, p, q => by
    simp only [Rps] at q
    obtain ⟨u, w, rfl, a, b⟩ := q
    exact Rps.cons a (b.set n p)
theorem Rps.reverse : ∀ {ds : List D} {vs : List V}, Rps G F iot ds vs → Rps G F iot ds.reverse vs.reverse
  | [], vs, q => by
    simp only [Rps] at q
    subst q
    exact Rps.nil
  | d :: ds, vs, q => by
    simp only [Rps] at q
    obtain ⟨v, w, rfl, a, b⟩ := q
    rw [List.reverse_cons, List.reverse_cons]
    exact b.reverse.append (Rps.cons a Rps.nil)
end

/-! ### the world: what is frozen, where the objects stand -/
structure Wd where
  F : Hp
  iot : List Addr
def Wd.le (w w' : Wd) : Prop := (∀ a o, w.F a = some o → w'.F a = some o) ∧ w.iot <+: w'.iot
theorem Wd.le.refl (w : Wd) : w.le w := ⟨fun _ _ h => h, List.prefix_refl _⟩
theorem Wd.le.trans {a b c : Wd} (h : a.le b) (k : b.le c) : a.le c := ⟨fun x o e => k.1 x o (h.1 x o e), h.2.trans k.2⟩
abbrev Rep (G : Gx) (w : Wd) (d : D) (v : V) : Prop := Rp G w.F w.iot d v
abbrev Reps (G : Gx) (w : Wd) (d : List D) (v : List V) : Prop := Rps G w.F w.iot d v
theorem Rep.le {G : Gx} {w w' : Wd} {d : D} {v : V} (h : Rep G w d v) (l : w.le w') : Rep G w' d v := Rp.mono l.1 l.2 d v h
theorem Reps.le {G : Gx} {w w' : Wd} {d : List D} {v : List V} (h : Reps G w d v) (l : w.le w') : Reps G w' d v := Rps.mono l.1 l.2 d v h

/-- a container that one cell holds -/
def OwnAt (G : Gx) (w : Wd) (d : D) (a : Addr) (H : Hp) : Prop := match d with
  | .lst ds => ∃ vs, vs.length ≤ sizeLine ∧ H a = some (.lst vs) ∧ Reps G w ds vs
  | .dic kvs => ∃ ks, ks.length ≤ sizeLine ∧ H a = some (.dK ks) ∧ Rpk G w.F w.iot kvs ks
  | _ => False
theorem OwnAt.le {G : Gx} {w w' : Wd} {d : D} {a : Addr} {H : Hp} (h : OwnAt G w d a H) (l : w.le w') : OwnAt G w' d a H := by
  cases d <;> first | exact h | skip
  · obtain ⟨vs, z, e, r⟩ := h
    exact ⟨vs, z, e, Reps.le r l⟩
  · obtain ⟨vs, z, e, r⟩ := h
    exact ⟨vs, z, e, Rpk.mono l.1 l.2 _ _ r⟩
theorem OwnAt.at {G : Gx} {w : Wd} {d : D} {a : Addr} {H H' : Hp} (h : OwnAt G w d a H) (e : H' a = H a) : OwnAt G w d a H' := by
  cases d <;> first | exact h | skip
  · obtain ⟨vs, z, e1, r⟩ := h
    exact ⟨vs, z, e.trans e1, r⟩
  · obtain ⟨vs, z, e1, r⟩ := h
    exact ⟨vs, z, e.trans e1, r⟩
theorem OwnAt.some {G : Gx} {w : Wd} {d : D} {a : Addr} {H : Hp} (h : OwnAt G w d a H) : ∃ o, H a = some o := by
  cases d <;> first | exact h.elim | skip
  · obtain ⟨vs, z, e1, r⟩ := h
    exact ⟨_, e1⟩
  · obtain ⟨vs, z, e1, r⟩ := h
    exact ⟨_, e1⟩
/-- it may be frozen -/
theorem OwnAt.rep {G : Gx} {w w' : Wd} {d : D} {a : Addr} {H : Hp} (h : OwnAt G w d a H) (l : w.le w') (e : w'.F a = H a) : Rep G w' d (.ref a) := by
  cases d <;> first | exact h.elim | skip
  · obtain ⟨vs, z, e1, r⟩ := h
    simp only [Rep, Rp]
    exact ⟨a, vs, rfl, z, SqL.of (e.trans e1), Reps.le r l⟩
  · obtain ⟨vs, z, e1, r⟩ := h
    simp only [Rep, Rp]
    exact ⟨a, vs, rfl, z, e.trans e1, Rpk.mono l.1 l.2 _ _ r⟩

def FRel (G : Gx) (w : Wd) : List (Str × D) → List (Str × V) → Prop
  | [], vs => vs = []
  | (n, d) :: ds, vs => ∃ v r, vs = (n, v) :: r ∧ Rep G w d v ∧ FRel G w ds r
theorem FRel.le {G : Gx} {w w' : Wd} (l : w.le w') : ∀ {ds : List (Str × D)} {vs : List (Str × V)}, FRel G w ds vs → FRel G w' ds vs
  | [], vs, q => q
  | (n, d) :: ds, vs, q => by
    obtain ⟨v, r, e, a, b⟩ := q
    exact ⟨v, r, e, Rep.le a l, FRel.le l b⟩
def ObAt (G : Gx) (w : Wd) (o : Ob) (a : Addr) (H : Hp) : Prop := match o with
  | .ins c fs => ∃ dx vs, H a = some (.ins (G.ca c) dx vs) ∧ FRel G w fs vs
  | .box d => OwnAt G w d a H
theorem ObAt.le {G : Gx} {w w' : Wd} {o : Ob} {a : Addr} {H : Hp} (h : ObAt G w o a H) (l : w.le w') : ObAt G w' o a H := by
  cases o with
  | ins c fs =>
    obtain ⟨dx, vs, e, r⟩ := h
    exact ⟨dx, vs, e, r.le l⟩
  | box d => exact OwnAt.le h l
theorem ObAt.at {G : Gx} {w : Wd} {o : Ob} {a : Addr} {H H' : Hp} (h : ObAt G w o a H) (e : H' a = H a) : ObAt G w o a H' := by
  cases o with
  | ins c fs =>
    obtain ⟨dx, vs, e1, r⟩ := h
    exact ⟨dx, vs, e.trans e1, r⟩
  | box d => exact OwnAt.at h e
theorem ObAt.some {G : Gx} {w : Wd} {o : Ob} {a : Addr} {H : Hp} (h : ObAt G w o a H) : ∃ u, H a = some u := by
  cases o with
  | ins c fs =>
    obtain ⟨dx, vs, e1, r⟩ := h
    exact ⟨_, e1⟩
  | box d => exact OwnAt.some h

/-- the heap: what is frozen stands, what is protected stands (P), the objects stand -/
structure HR (G : Gx) (P : Hp) (w : Wd) (h : Hh) (H : Hp) : Prop where
  fr : ∀ a o, w.F a = some o → H a = some o
  pr : ∀ a o, P a = some o → H a = some o
  pf : ∀ a o, P a = some o → w.F a = none
  pi : ∀ a ∈ w.iot, P a = none
  fi : ∀ a ∈ w.iot, w.F a = none
  nd : w.iot.Nodup
  len : h.length = w.iot.length
  ob : ∀ (i : Nat) (o : Ob) (a : Addr), h[i]? = some o → w.iot[i]? = some a → ObAt G w o a H
/-- .. and the slots -/
structure StR (G : Gx) (P : Hp) (w : Wd) (ρ : Env) (h : Hh) (σ : St) (H : Hp) : Prop where
  hr : HR G P w h H
  len : ρ.length = σ.length
  val : ∀ (i : Nat) (d : D), ρ[i]? = some (.val d) → ∃ v, σ[i]? = some (some v) ∧ Rep G w d v
  own : ∀ (i : Nat) (d : D), ρ[i]? = some (.own d) → ∃ a, σ[i]? = some (some (.ref a)) ∧ OwnAt G w d a H ∧ w.F a = none ∧ a ∉ w.iot ∧ P a = none
  inj : ∀ (i j : Nat) (d e : D) (a : Addr), ρ[i]? = some (.own d) → ρ[j]? = some (.own e) → σ[i]? = some (some (.ref a)) → σ[j]? = some (some (.ref a)) → i = j
section
variable {G : Gx} {P : Hp} {w w' : Wd} {ρ : Env} {h : Hh} {σ : St} {H H' : Hp} {a p : Addr} {o : HO} {d : D}
theorem HR.rep {v : V} (hr : HR G P w h H) (k : Wd) (e : k = ⟨H, w.iot⟩) (r : Rep G w d v) : Rep G k d v := by
  subst e
  exact Rp.mono hr.fr (List.prefix_refl _) d v r
theorem HR.cell (hr : HR G P w h H) {i : Nat} {x : Ob} (e : h[i]? = some x) : ∃ a, w.iot[i]? = some a ∧ ObAt G w x a H := by
  have hi := (List.getElem?_eq_some_iff.mp e).1
  rw [hr.len] at hi
  exact ⟨w.iot[i], by simp [hi], hr.ob i x _ e (by simp [hi])⟩
theorem HR.there (hr : HR G P w h H) (ha : a ∈ w.iot) : ∃ u, H a = some u := by
  obtain ⟨i, hi, e⟩ := List.getElem_of_mem ha
  have hl : i < h.length := by rw [hr.len]; exact hi
  exact (hr.ob i h[i] a (by simp [hl]) (by simp [hi, e])).some
/-- a new address is none of ours -/
theorem HR.notF (hr : HR G P w h H) (n : H p = none) : w.F p = none := by
  cases q : w.F p with
  | none => rfl
  | some u =>
    rw [hr.fr p u q] at n
    cases n
theorem HR.notP (hr : HR G P w h H) (n : H p = none) : P p = none := by
  cases q : P p with
  | none => rfl
  | some u =>
    rw [hr.pr p u q] at n
    cases n
theorem HR.notiot (hr : HR G P w h H) (n : H p = none) : p ∉ w.iot := fun m => by
  obtain ⟨u, e⟩ := hr.there m
  rw [e] at n
  cases n
/-- the heap changes elsewhere: what is frozen, protected, an object stands -/
theorem HR.heap (hr : HR G P w h H) (k : ∀ b, (∃ u, w.F b = some u) ∨ (∃ u, P b = some u) ∨ b ∈ w.iot → H' b = H b) : HR G P w h H' where
  fr := fun b u e => (k b (.inl ⟨u, e⟩)).trans (hr.fr b u e)
  pr := fun b u e => (k b (.inr (.inl ⟨u, e⟩))).trans (hr.pr b u e)
  pf := hr.pf
  pi := hr.pi
  fi := hr.fi
  nd := hr.nd
  len := hr.len
  ob := fun i x b e1 e2 => (hr.ob i x b e1 e2).at (k b (.inr (.inr (List.mem_of_getElem? e2))))
theorem HR.alloc (hr : HR G P w h H) (n : H p = none) : HR G P w h (upd H p o) := hr.heap fun b hb => by
  refine upd_ne fun e => ?_
  subst e
  rcases hb with ⟨u, q⟩ | ⟨u, q⟩ | q
  · rw [hr.notF n] at q; cases q
  · rw [hr.notP n] at q; cases q
  · exact hr.notiot n q
theorem StR.alloc (s : StR G P w ρ h σ H) (n : H p = none) : StR G P w ρ h σ (upd H p o) where
  hr := s.hr.alloc n
  len := s.len
  val := s.val
  own := fun i e q => by
    obtain ⟨b, e1, e2, e3, e4, e5⟩ := s.own i e q
    obtain ⟨u, e6⟩ := e2.some
    exact ⟨b, e1, e2.at (upd_ne fun z => by rw [z, n] at e6; cases e6), e3, e4, e5⟩
  inj := s.inj
/-- freezing -/
abbrev Wd.frz (w : Wd) (a : Addr) (o : HO) : Wd := ⟨upd w.F a o, w.iot⟩
theorem Wd.frz_ne {b : Addr} (z : b ≠ a) : (w.frz a o).F b = w.F b := upd_ne z
theorem Wd.frz_same : (w.frz a o).F a = some o := upd_same
theorem Wd.frz_le (n : w.F a = none) : w.le (w.frz a o) := ⟨fun b u e => by rw [Wd.frz_ne fun z => by rw [z, n] at e; cases e]; exact e, List.prefix_refl _⟩
theorem HR.frz (hr : HR G P w h H) (e : H a = some o) (hF : w.F a = none) (hiot : a ∉ w.iot) (hP : P a = none) : HR G P (w.frz a o) h H where
  fr := fun b u q => by
    by_cases z : b = a
    · subst z
      rw [Wd.frz_same] at q
      rw [← q]; exact e
    · rw [Wd.frz_ne z] at q
      exact hr.fr b u q
  pr := hr.pr
  pf := fun b u q => by
    rw [Wd.frz_ne fun z => by rw [z, hP] at q; cases q]
    exact hr.pf b u q
  pi := hr.pi
  fi := fun b hb => by
    rw [Wd.frz_ne (b := b) (a := a) fun z => hiot (by rw [← z]; exact hb)]
    exact hr.fi b hb
  nd := hr.nd
  len := hr.len
  ob := fun i x b e1 e2 => (hr.ob i x b e1 e2).le (Wd.frz_le hF)
theorem StR.frz (s : StR G P w ρ h σ H) (e : H a = some o) (hF : w.F a = none) (hiot : a ∉ w.iot) (hP : P a = none) (hO : ∀ (i : Nat) (e : D), ρ[i]? = some (.own e) → σ[i]? ≠ some (some (.ref a))) : StR G P (w.frz a o) ρ h σ H where
  hr := s.hr.frz e hF hiot hP
  len := s.len
  val := fun i x q => by
    obtain ⟨v, e1, e2⟩ := s.val i x q
    exact ⟨v, e1, e2.le (Wd.frz_le hF)⟩
  own := fun i x q => by
    obtain ⟨b, e1, e2, e3, e4, e5⟩ := s.own i x q
    refine ⟨b, e1, e2.le (Wd.frz_le hF), ?_, e4, e5⟩
    rw [Wd.frz_ne (b := b) (a := a) fun z => hO i x q (by rw [← z]; exact e1)]
    exact e3
  inj := s.inj
/-- a cell is set to a frozen value -/
theorem StR.setV {i : Nat} {v : V} (s : StR G P w ρ h σ H) (r : Rep G w d v) : StR G P w (ρ.set i (.val d)) h (σ.set i (some v)) H where
  hr := s.hr
  len := by rw [List.length_set, List.length_set]; exact s.len
  val := fun j x q => by
    by_cases z : i = j
    · subst z
      have hi : i < ρ.length := by
        have := (List.getElem?_eq_some_iff.mp q).1
        rwa [List.length_set] at this
      rw [List.getElem?_set_self hi] at q
      cases q
      exact ⟨v, List.getElem?_set_self (by rw [← s.len]; exact hi), r⟩
    · rw [List.getElem?_set_ne z] at q ⊢
      exact s.val j x q
  own := fun j x q => by
    by_cases z : i = j
    · subst z
      have hi : i < ρ.length := by
        have := (List.getElem?_eq_some_iff.mp q).1
        rwa [List.length_set] at this
      rw [List.getElem?_set_self hi] at q
      cases q
    · rw [List.getElem?_set_ne z] at q ⊢
      exact s.own j x q
  inj := fun j k x y b q1 q2 e1 e2 => by
    have nj : ∀ {j : Nat} {x : D}, (ρ.set i (.val d))[j]? = some (.own x) → i ≠ j := fun {j x} q z => by
      subst z
      have hi : i < ρ.length := by
        have := (List.getElem?_eq_some_iff.mp q).1
        rwa [List.length_set] at this
      rw [List.getElem?_set_self hi] at q
      cases q
    have n1 := nj q1
    have n2 := nj q2
    rw [List.getElem?_set_ne n1] at q1 e1
    rw [List.getElem?_set_ne n2] at q2 e2
    exact s.inj j k x y b q1 q2 e1 e2
/-- a cell is set to a new container -/
theorem StR.setO {i : Nat} (s : StR G P w ρ h σ H) (n : OwnAt G w d a H ∧ w.F a = none ∧ a ∉ w.iot ∧ P a = none ∧ ∀ (i : Nat) (e : D), ρ[i]? = some (.own e) → σ[i]? ≠ some (some (.ref a))) :
    StR G P w (ρ.set i (.own d)) h (σ.set i (some (.ref a))) H where
  hr := s.hr
  len := by rw [List.length_set, List.length_set]; exact s.len
  val := fun j x q => by
    by_cases z : i = j
    · subst z
      have hi : i < ρ.length := by
        have := (List.getElem?_eq_some_iff.mp q).1
        rwa [List.length_set] at this
      rw [List.getElem?_set_self hi] at q
      cases q
    · rw [List.getElem?_set_ne z] at q ⊢
      exact s.val j x q
  own := fun j x q => by
    by_cases z : i = j
    · subst z
      have hi : i < ρ.length := by
        have := (List.getElem?_eq_some_iff.mp q).1
        rwa [List.length_set] at this
      rw [List.getElem?_set_self hi] at q
      cases q
      exact ⟨a, List.getElem?_set_self (by rw [← s.len]; exact hi), n.1, n.2.1, n.2.2.1, n.2.2.2.1⟩
    · rw [List.getElem?_set_ne z] at q ⊢
      exact s.own j x q
  inj := fun j k x y b q1 q2 e1 e2 => by
    have key : ∀ {j k : Nat} {x y : D}, (ρ.set i (.own d))[j]? = some (.own x) → (ρ.set i (.own d))[k]? = some (.own y) → (σ.set i (some (.ref a)))[j]? = some (some (.ref b)) → (σ.set i (some (.ref a)))[k]? = some (some (.ref b)) → i = j → i = k := fun {j k x y} q1 q2 e1 e2 z => by
      subst z
      have hi : i < ρ.length := by
        have := (List.getElem?_eq_some_iff.mp q1).1
        rwa [List.length_set] at this
      rw [List.getElem?_set_self (by rw [← s.len]; exact hi)] at e1
      cases e1
      by_cases z : i = k
      · exact z
      · rw [List.getElem?_set_ne z] at q2 e2
        exact absurd e2 (n.2.2.2.2 k y q2)
    by_cases z : i = j
    · exact z.symm.trans (key q1 q2 e1 e2 z)
    · by_cases z2 : i = k
      · exact absurd (key q2 q1 e2 e1 z2) z
      · rw [List.getElem?_set_ne z] at q1 e1
        rw [List.getElem?_set_ne z2] at q2 e2
        exact s.inj j k x y b q1 q2 e1 e2
/-- what a cell owns is changed -/
theorem StR.mutO {i : Nat} {e : D} (s : StR G P w ρ h σ H) (hi : ρ[i]? = some (.own e)) (hs : σ[i]? = some (some (.ref a))) (n : OwnAt G w d a (upd H a o)) : StR G P w (ρ.set i (.own d)) h σ (upd H a o) := by
  obtain ⟨b, e1, e2, e3, e4, e5⟩ := s.own i e hi
  rw [hs] at e1
  cases e1
  have hl : i < ρ.length := (List.getElem?_eq_some_iff.mp hi).1
  have hoth : ∀ {b : Addr}, b ≠ a → upd H a o b = H b := fun z => upd_ne z
  refine ⟨s.hr.heap fun b hb => hoth fun z => ?_, by rw [List.length_set]; exact s.len, fun j x q => ?_, fun j x q => ?_, fun j k x y b q1 q2 z1 z2 => ?_⟩
  · subst z
    rcases hb with ⟨u, q⟩ | ⟨u, q⟩ | q
    · rw [e3] at q; cases q
    · rw [e5] at q; cases q
    · exact e4 q
  · by_cases z : i = j
    · subst z
      rw [List.getElem?_set_self hl] at q
      cases q
    · rw [List.getElem?_set_ne z] at q
      exact s.val j x q
  · by_cases z : i = j
    · subst z
      rw [List.getElem?_set_self hl] at q
      cases q
      exact ⟨a, hs, n, e3, e4, e5⟩
    · rw [List.getElem?_set_ne z] at q
      obtain ⟨c, f1, f2, f3, f4, f5⟩ := s.own j x q
      refine ⟨c, f1, f2.at (hoth fun zz => ?_), f3, f4, f5⟩
      subst zz
      exact z (s.inj i j e x c hi q hs f1)
  · have ow : ∀ {j : Nat} {x : D}, (ρ.set i (.own d))[j]? = some (.own x) → ∃ x', ρ[j]? = some (.own x') := fun {j x} q => by
      by_cases z : i = j
      · subst z
        exact ⟨e, hi⟩
      · rw [List.getElem?_set_ne z] at q
        exact ⟨x, q⟩
    obtain ⟨x', q1⟩ := ow q1
    obtain ⟨y', q2⟩ := ow q2
    exact s.inj j k x' y' b q1 q2 z1 z2
/-- a cell is frozen -/
theorem StR.frzO {i : Nat} (s : StR G P w ρ h σ H) (hi : ρ[i]? = some (.own d)) : ∃ w', w.le w' ∧ StR G P w' (ρ.set i (.val d)) h σ H := by
  obtain ⟨b, e1, e2, e3, e4, e5⟩ := s.own i d hi
  obtain ⟨u, e6⟩ := e2.some
  have hl : i < ρ.length := (List.getElem?_eq_some_iff.mp hi).1
  have l := Wd.frz_le (w := w) (o := u) e3
  refine ⟨w.frz b u, l, ⟨s.hr.frz e6 e3 e4 e5, by rw [List.length_set]; exact s.len, fun j x q => ?_, fun j x q => ?_, fun j k x y c q1 q2 z1 z2 => ?_⟩⟩
  · by_cases z : i = j
    · subst z
      rw [List.getElem?_set_self hl] at q
      cases q
      exact ⟨_, e1, e2.rep l (by show upd w.F b u b = H b; rw [upd_same, e6])⟩
    · rw [List.getElem?_set_ne z] at q
      obtain ⟨v, f1, f2⟩ := s.val j x q
      exact ⟨v, f1, f2.le l⟩
  · by_cases z : i = j
    · subst z
      rw [List.getElem?_set_self hl] at q
      cases q
    · rw [List.getElem?_set_ne z] at q
      obtain ⟨c, f1, f2, f3, f4, f5⟩ := s.own j x q
      refine ⟨c, f1, f2.le l, ?_, f4, f5⟩
      rw [Wd.frz_ne (b := c) (a := b) fun zz => z (s.inj i j d x c hi q (by rw [zz]; exact e1) f1)]
      exact f3
  · have ow : ∀ {j : Nat} {x : D}, (ρ.set i (.val d))[j]? = some (.own x) → ρ[j]? = some (.own x) := fun {j x} q => by
      by_cases z : i = j
      · subst z
        rw [List.getElem?_set_self hl] at q
        cases q
      · rw [List.getElem?_set_ne z] at q
        exact q
    exact s.inj j k x y c (ow q1) (ow q2) z1 z2
end
/-- an exception, as it lies behind its raise -/
def RepX (G : Gx) (w : Wd) (c : Nat) (p : D) (cls : Value) (dx : Option Addr) (H : Hp) : Prop :=
  cls = .ref (G.ca c) ∧ ((p = .non ∧ dx = none) ∨ ∃ (dd : Addr) (fs : List (Str × V)) (u : V), dx = some dd ∧ w.F dd = some (.xd fs) ∧ fs.lookup ("place" : Str) = some u ∧ Rep G w p u)

/-! ### the readings -/
section
variable (G : Gx) (W : WX)
def EPost {α : Type} (P : Hp) (w : Wd) (ρ : Env) (σ : St) (r : ER α) (k : α → Wd → Hh → Hp → Prop) : Prop := match r with
  | .stuck => False
  | .exc c p h' => ∀ w' H' cls dx, w.le w' → StR G P w' ρ h' σ H' → RepX G w' c p cls dx H' → W cls dx σ H'
  | .ok a h' => ∀ w' H', w.le w' → StR G P w' ρ h' σ H' → k a w' h' H'
/-- a new container, that nobody else holds -/
def NewAt (P : Hp) (w : Wd) (ρ : Env) (σ : St) (d : D) (a : Addr) (H : Hp) : Prop :=
  OwnAt G w d a H ∧ w.F a = none ∧ a ∉ w.iot ∧ P a = none ∧ ∀ (i : Nat) (e : D), ρ[i]? = some (.own e) → σ[i]? ≠ some (some (.ref a))
/-- an expression whose value is frozen; a new container; a test -/
def RD (c : EM D) : TE := fun σ H Q => ∃ P w ρ h, StR G P w ρ h σ H ∧ EPost G W P w ρ σ (c ρ h) fun d w' _ H' => ∀ v, Rep G w' d v → Q v H'
def RN (c : EM D) : TE := fun σ H Q => ∃ P w ρ h, StR G P w ρ h σ H ∧ EPost G W P w ρ σ (c ρ h) fun d w' _ H' => ∀ a, NewAt G P w' ρ σ d a H' → Q (.ref a) H'
def RB (c : EM Bool) : TT := fun σ H Q => ∃ P w ρ h, StR G P w ρ h σ H ∧ EPost G W P w ρ σ (c ρ h) fun b _ _ H' => Q b H'
def RA (c : EM (List D)) : TA := fun σ H Q => ∃ P w ρ h, StR G P w ρ h σ H ∧ EPost G W P w ρ σ (c ρ h) fun ds w' _ H' => ∀ vs, Reps G w' ds vs → Q vs H'
def SPost (E : Ends) (P : Hp) (w : Wd) (r : SR) : Prop := match r with
  | .stuck => False
  | .exc c p ρ' h' => ∀ w' σ' H' cls dx, w.le w' → StR G P w' ρ' h' σ' H' → RepX G w' c p cls dx H' → W cls dx σ' H'
  | .ok .next ρ' h' => ∀ w' σ' H', w.le w' → StR G P w' ρ' h' σ' H' → E.nx σ' H'
  | .ok .brk ρ' h' => ∀ w' σ' H', w.le w' → StR G P w' ρ' h' σ' H' → E.bk σ' H'
  | .ok .cont ρ' h' => ∀ w' σ' H', w.le w' → StR G P w' ρ' h' σ' H' → E.ct σ' H'
  | .ok (.ret d) ρ' h' => ∀ w' σ' H' v, w.le w' → StR G P w' ρ' h' σ' H' → Rep G w' d v → E.rt v H'
  | .ok (.retN d) ρ' h' => ∀ w' σ' H' a, w.le w' → StR G P w' ρ' h' σ' H' → NewAt G P w' ρ' σ' d a H' → E.rt (.ref a) H'
def RS (c : SM) : TS := fun E σ H => ∃ P w ρ h, StR G P w ρ h σ H ∧ SPost G W E P w (c ρ h)
end
end PV
end

section
set_option Elab.async false
set_option linter.all false
set_option maxRecDepth 100000
set_option maxHeartbeats 1000000
/-! PV.R1: the rules of expressions: names, constants, displays, operators, tests. -/
namespace PV
open PySem L2

/-! ### the model's words -/
def eRet {α : Type} (a : α) : EM α := fun _ h => .ok a h
def eBind {α β : Type} (c : EM α) (f : α → EM β) : EM β := fun ρ h => match c ρ h with
  | .stuck => .stuck
  | .exc c p h' => .exc c p h'
  | .ok a h' => f a ρ h'
def eOpt {α : Type} (o : Option α) : EM α := fun _ h => match o with
  | some a => .ok a h
  | none => .stuck
def eVar (i : Nat) : EM D := fun ρ h => match ρ[i]? with
  | some (.val d) => .ok d h
  | _ => .stuck
/-- a cell's own container, looked at -/
def eOwn (i : Nat) : EM D := fun ρ h => match ρ[i]? with
  | some (.own d) => .ok d h
  | _ => .stuck
def eMap (f : D → Option D) (c : EM D) : EM D := eBind c fun x => eOpt (f x)
def eOp (f : D → D → Option D) (a b : EM D) : EM D := eBind a fun x => eBind b fun y => eOpt (f x y)
def eNil : EM (List D) := eRet []
def eCons (a : EM D) (r : EM (List D)) : EM (List D) := eBind a fun x => eBind r fun xs => eRet (x :: xs)
def eTup (r : EM (List D)) : EM D := eBind r fun xs => eOpt (if xs.length ≤ 16777216 then some (.tup xs) else none)
def eLst (r : EM (List D)) : EM D := eBind r fun xs => eOpt (if xs.length ≤ 16777216 then some (.lst xs) else none)
def eIf {α : Type} (t : EM Bool) (a b : EM α) : EM α := eBind t fun c => if c = true then a else b
def bNot (t : EM Bool) : EM Bool := eBind t fun c => eRet (!c)
def bAnd (t u : EM Bool) : EM Bool := eBind t fun c => if c = true then u else eRet false
def bOr (t u : EM Bool) : EM Bool := eBind t fun c => if c = true then eRet true else u
def asB : D → Option Bool
  | .bl b => some b
  | _ => none
/-- the truth of a value -/
def dTruth : D → Option Bool
  | .non => some false
  | .bl b => some b
  | .int i => some (i != 0)
  | .str x => if x.length ≤ 16777216 then some ((x.length : Int) != 0) else none
  | .tup xs => some (!xs.isEmpty)
  | .lst xs => some (!xs.isEmpty)
  | .dic xs => some (!xs.isEmpty)
  | _ => none
def eTruth (c : EM D) : EM Bool := eBind c fun x => eOpt (dTruth x)
/-- a value known to be a bool, as a test; a test as a value -/
def eAsB (c : EM D) : EM Bool := eBind c fun x => eOpt (asB x)
def eOfB (c : EM Bool) : EM D := eBind c fun b => eRet (.bl b)

/-! ### readings -/
section
variable {G : Gx} {W : WX} {P : Hp} {w w' : Wd} {ρ : Env} {h : Hh} {σ : St} {H : Hp} {α β : Type}
theorem EPost.imp {r : ER α} {k k' : α → Wd → Hh → Hp → Prop} (e : EPost G W P w ρ σ r k) (f : ∀ a w' h' H', w.le w' → StR G P w' ρ h' σ H' → k a w' h' H' → k' a w' h' H') : EPost G W P w ρ σ r k' := by
  cases r with
  | stuck => exact e
  | exc c p h' => exact e
  | ok a h' => exact fun w' H' l s => f a w' h' H' l s (e w' H' l s)
theorem EPost.map {r : ER α} {k k' : α → Wd → Hh → Hp → Prop} (e : EPost G W P w ρ σ r k)
    (f : ∀ a h', (∀ w' H', w.le w' → StR G P w' ρ h' σ H' → k a w' h' H') → ∀ w' H', w.le w' → StR G P w' ρ h' σ H' → k' a w' h' H') : EPost G W P w ρ σ r k' := by
  cases r with
  | stuck => exact e
  | exc c p h' => exact e
  | ok a h' => exact f a h' e
theorem EPost.le {r : ER α} {k : α → Wd → Hh → Hp → Prop} (e : EPost G W P w ρ σ r k) (l : w.le w') : EPost G W P w' ρ σ r k := by
  cases r with
  | stuck => exact e
  | exc c p h' => exact fun w2 H' cls dx l2 => e w2 H' cls dx (l.trans l2)
  | ok a h' => exact fun w2 H' l2 => e w2 H' (l.trans l2)
theorem EPost.bind {c : EM α} {f : α → EM β} {k : β → Wd → Hh → Hp → Prop} (e : EPost G W P w ρ σ (eBind c f ρ h) k) :
    EPost G W P w ρ σ (c ρ h) fun a w1 h1 _ => EPost G W P w1 ρ σ (f a ρ h1) k := by
  unfold eBind at e
  split at e
  · exact e.elim
  · rename_i q
    rw [q]
    exact e
  · rename_i q
    rw [q]
    exact fun w' H' l s => e.le l
theorem EPost.ret {a : α} {k : α → Wd → Hh → Hp → Prop} (s : StR G P w ρ h σ H) (e : EPost G W P w ρ σ (eRet a ρ h) k) : k a w h H := e w H (Wd.le.refl w) s
theorem EPost.opt {o : Option α} {k : α → Wd → Hh → Hp → Prop} (s : StR G P w ρ h σ H) (e : EPost G W P w ρ σ (eOpt o ρ h) k) : ∃ a, o = some a ∧ k a w h H := by
  unfold eOpt at e
  split at e
  · exact ⟨_, rfl, e w H (Wd.le.refl w) s⟩
  · exact e.elim
end
section
variable {X : Cx}
theorem _root_.L2.PE.imp {e : Expr} {t t' : TE} (q : PE X e t) (k : ∀ σ H Q, t' σ H Q → t σ H Q) : PE X e t' := ⟨fun pins s σ H Q I h => q.run pins s σ H Q I (k σ H Q h)⟩
theorem _root_.L2.PT.imp {e : Expr} {t t' : TT} (q : PT X e t) (k : ∀ σ H Q, t' σ H Q → t σ H Q) : PT X e t' := ⟨fun pins s σ H Q I h => q.run pins s σ H Q I (k σ H Q h)⟩
theorem _root_.L2.PW.imp {e : Expr} {t t' : TT} (q : PW X e t) (k : ∀ σ H Q, t' σ H Q → t σ H Q) : PW X e t' := ⟨fun wh pins s σ H Q I h => q.run wh pins s σ H Q I (k σ H Q h)⟩
theorem _root_.L2.PA.imp {e : List Expr} {t t' : TA} (q : PA X e t) (k : ∀ σ H Q, t' σ H Q → t σ H Q) : PA X e t' := ⟨fun pos pins s σ H Q I h => q.run pos pins s σ H Q I (k σ H Q h)⟩
theorem _root_.L2.PS.imp {e : Stmt} {t t' : TS} (q : PS X e t) (k : ∀ D σ H, t' D σ H → t D σ H) : PS X e t' := ⟨fun pins s σ H D I h => q.run pins s σ H D I (k D σ H h)⟩
theorem _root_.L2.PSs.imp {e : List Stmt} {t t' : TS} (q : PSs X e t) (k : ∀ D σ H, t' D σ H → t D σ H) : PSs X e t' := ⟨fun pins s σ H D I h => q.run pins s σ H D I (k D σ H h)⟩
end

/-- the judgements; the text's part is the context's -/
structure SE (X : Cx) (ca : Nat → Addr) (W : WX) (e : Expr) (c : EM D) : Prop where
  pe : PE X e (RD ⟨X.K, ca⟩ W c)
structure SN (X : Cx) (ca : Nat → Addr) (W : WX) (e : Expr) (c : EM D) : Prop where
  pe : PE X e (RN ⟨X.K, ca⟩ W c)
/-- a container that a cell owns, or a frozen value: looked at now -/
def RO (G : Gx) (W : WX) (c : EM D) : TE := fun σ H Q => ∃ P w ρ h, StR G P w ρ h σ H ∧ EPost G W P w ρ σ (c ρ h) fun d w' _ H' => ∀ v, Rp G H' w'.iot d v → Q v H'
structure SO (X : Cx) (ca : Nat → Addr) (W : WX) (e : Expr) (c : EM D) : Prop where
  pe : PE X e (RO ⟨X.K, ca⟩ W c)
structure SB (X : Cx) (ca : Nat → Addr) (W : WX) (e : Expr) (c : EM Bool) : Prop where
  pt : PT X e (RB ⟨X.K, ca⟩ W c)
structure SBw (X : Cx) (ca : Nat → Addr) (W : WX) (e : Expr) (c : EM Bool) : Prop where
  pw : PW X e (RB ⟨X.K, ca⟩ W c)
structure SA (X : Cx) (ca : Nat → Addr) (W : WX) (es : List Expr) (c : EM (List D)) : Prop where
  pa : PA X es (RA ⟨X.K, ca⟩ W c)

section
variable {X : Cx} {ca : Nat → Addr} {W : WX} {e a b : Expr} {es : List Expr} {c c1 c2 : EM D} {cs : EM (List D)} {t u : EM Bool} {pos : Pos}
/-- a new container may be frozen -/
theorem se_n (s : SN X ca W e c) : SE X ca W e c := ⟨s.pe.imp fun σ H Q ⟨P, w, ρ, h, st, k⟩ => ⟨P, w, ρ, h, st, k.map fun d h' q w' H' l st' a n => by
  obtain ⟨o, e⟩ := n.1.some
  exact q (w'.frz a o) H' (l.trans (Wd.frz_le n.2.1)) (st'.frz e n.2.1 n.2.2.1 n.2.2.2.1 n.2.2.2.2) (.ref a) (n.1.rep (Wd.frz_le n.2.1) (Wd.frz_same.trans e.symm))⟩⟩
/-- a frozen value may be looked at -/
theorem so_e (s : SE X ca W e c) : SO X ca W e c := ⟨s.pe.imp fun σ H Q ⟨P, w, ρ, h, st, k⟩ => ⟨P, w, ρ, h, st, k.imp fun d w' h' H' l st' q v r => q v (Rp.mono st'.hr.fr (List.prefix_refl _) d v r)⟩⟩
/-- a name that holds a frozen value; one that owns a container -/
theorem se_var (i : Nat) {x : Str} (hN : X.N[i]? = some x := by rfl) (hv : Vis X.env.scope x := by first | exact Or.inl rfl | exact Or.inr (Or.inl rfl) | exact Or.inr (Or.inr rfl))
    (hd : (x == ("__debug__" : Str)) = false := by decide) (hcd : (x == ("__classdict__" : Str)) = false := by decide) : SE X ca W (.Name x pos) (eVar i) :=
  ⟨(pv i hN hv hd hcd).imp fun σ H Q ⟨P, w, ρ, h, st, k⟩ => by
    unfold eVar at k
    split at k
    · rename_i d q
      obtain ⟨v, e1, e2⟩ := st.val i d q
      exact ⟨v, e1, k w H (Wd.le.refl w) st v e2⟩
    · exact k.elim⟩
theorem so_own (i : Nat) {x : Str} (hN : X.N[i]? = some x := by rfl) (hv : Vis X.env.scope x := by first | exact Or.inl rfl | exact Or.inr (Or.inl rfl) | exact Or.inr (Or.inr rfl))
    (hd : (x == ("__debug__" : Str)) = false := by decide) (hcd : (x == ("__classdict__" : Str)) = false := by decide) : SO X ca W (.Name x pos) (eOwn i) :=
  ⟨(pv i hN hv hd hcd).imp fun σ H Q ⟨P, w, ρ, h, st, k⟩ => by
    unfold eOwn at k
    split at k
    · rename_i d q
      obtain ⟨a, e1, e2, _⟩ := st.own i d q
      refine ⟨.ref a, e1, k w H (Wd.le.refl w) st _ ?_⟩
      have r : Rep ⟨X.K, ca⟩ ⟨H, w.iot⟩ d (.ref a) := e2.rep ⟨st.hr.fr, List.prefix_refl _⟩ rfl
      exact r
    · exact k.elim⟩
theorem se_const {v : V} {d : D} (q : PE X e (tC v)) (r : ∀ G F iot, Rp G F iot d v) : SE X ca W e (eRet d) := ⟨q.imp fun σ H Q ⟨P, w, ρ, h, st, k⟩ => k.ret st v (r _ _ _)⟩
theorem se_int {i : Int} {j : Nat} : SE X ca W (.Constant (.int i) j pos) (eRet (.int i)) := se_const pe_int fun _ _ _ => by simp only [Rp]
theorem se_bl {i : Bool} {j : Nat} : SE X ca W (.Constant (.bool i) j pos) (eRet (.bl i)) := se_const pe_bl fun _ _ _ => by simp only [Rp]
theorem se_non {j : Nat} : SE X ca W (.Constant .none j pos) (eRet .non) := se_const pe_non fun _ _ _ => by simp only [Rp]
theorem se_str {x : Str} {j : Nat} : SE X ca W (.Constant (.str x) j pos) (eRet (.str x)) := se_const pe_str fun _ _ _ => by simp only [Rp]
/-- a module's constant: an int, a text; a tuple that stands in the text's part -/
theorem se_glob {x : Str} {v : V} {u : Value} {d : D} (hg : Gl X x) (hm : X.mg x = some u) (r : RelV v u) (rd : ∀ F iot, Rp ⟨X.K, ca⟩ F iot d v) (hd : (x == ("__debug__" : Str)) = false := by decide) : SE X ca W (.Name x pos) (eRet d) :=
  ⟨(pe_glob hg hm r hd).imp fun σ H Q ⟨P, w, ρ, h, st, k⟩ => k.ret st v (rd _ _)⟩

/-! ### argument lists, displays -/
theorem sa_nil : SA X ca W [] eNil := ⟨pa_nil.imp fun σ H Q ⟨P, w, ρ, h, st, k⟩ => k.ret st [] Rps.nil⟩
theorem sa_cons (ha : SE X ca W e c) (hr : SA X ca W es cs) (hs : starEach (e :: es) X.env = (false, eval e X.env) :: starEach es X.env := by rfl) : SA X ca W (e :: es) (eCons c cs) :=
  ⟨(pa_cons ha.pe hr.pa hs).imp fun σ H Q ⟨P, w, ρ, h, st, k⟩ => ⟨P, w, ρ, h, st, k.bind.imp fun d w1 h1 H1 l1 st1 k1 v r => ⟨P, w1, ρ, h1, st1, k1.bind.imp fun ds w2 h2 H2 l2 st2 k2 vs rs =>
    k2.ret st2 (v :: vs) (Rps.cons (Rep.le r l2) rs)⟩⟩⟩
theorem se_tup {x1} (h : SA X ca W es cs) : SE X ca W (.Tuple es x1 pos) (eTup cs) :=
  ⟨(pe_tup h.pa).imp fun σ H Q ⟨P, w, ρ, h, st, k⟩ => ⟨P, w, ρ, h, st, k.bind.map fun ds h1 k1 w1 H1 l1 st1 vs rs => by
    have k2 := k1 w1 H1 l1 st1
    obtain ⟨d, e, _⟩ := k2.opt st1
    by_cases z : ds.length ≤ 16777216
    · have zv : vs.length ≤ sizeLine := by rw [← Rps.length rs, sizeLine_eq]; exact z
      refine ⟨zv, fun p n => ?_⟩
      have st2 : StR ⟨X.K, ca⟩ P (w1.frz p (.tup vs)) ρ h1 σ (upd H1 p (.tup vs)) := (st1.alloc n).frz upd_same (st1.hr.notF n) (st1.hr.notiot n) (st1.hr.notP n) fun i x q hq => by
        obtain ⟨b, e1, e2, _⟩ := st1.own i x q
        obtain ⟨u, e3⟩ := e2.some
        rw [hq] at e1
        cases e1
        rw [n] at e3
        cases e3
      have le2 : w1.le (w1.frz p (.tup vs)) := Wd.frz_le (st1.hr.notF n)
      have k3 := k2.le le2
      obtain ⟨d', e', k4⟩ := k3.opt st2
      rw [if_pos z] at e'
      cases e'
      refine k4 (.ref p) ?_
      simp only [Rp]
      exact ⟨p, vs, rfl, zv, SqT.of Wd.frz_same, Reps.le rs le2⟩
    · rw [if_neg z] at e
      cases e⟩⟩
theorem sn_lst (h : SA X ca W es cs) : SN X ca W (.List es pos) (eLst cs) :=
  ⟨(pe_lst h.pa).imp fun σ H Q ⟨P, w, ρ, h, st, k⟩ => ⟨P, w, ρ, h, st, k.bind.map fun ds h1 k1 w1 H1 l1 st1 vs rs => by
    have k2 := k1 w1 H1 l1 st1
    obtain ⟨d, e, _⟩ := k2.opt st1
    by_cases z : ds.length ≤ 16777216
    · have zv : vs.length ≤ sizeLine := by rw [← Rps.length rs, sizeLine_eq]; exact z
      refine ⟨zv, fun p n => ?_⟩
      obtain ⟨d', e', k4⟩ := k2.opt (st1.alloc (o := .lst vs) n)
      rw [if_pos z] at e'
      cases e'
      refine k4 p ⟨⟨vs, zv, upd_same, rs⟩, st1.hr.notF n, st1.hr.notiot n, st1.hr.notP n, fun i x q hq => ?_⟩
      obtain ⟨b, e1, e2, _⟩ := st1.own i x q
      obtain ⟨u, e3⟩ := e2.some
      rw [hq] at e1
      cases e1
      rw [n] at e3
      cases e3
    · rw [if_neg z] at e
      cases e⟩⟩
end
end PV
end

section
set_option Elab.async false
set_option linter.all false
set_option maxRecDepth 100000
set_option maxHeartbeats 1000000
/-! PV.R2: operators and comparisons. -/
namespace PV
open PySem L2

/-! ### data as the library's -/
mutual
def toP : D → PyData
  | .non => .none
  | .bl b => .bool b
  | .int i => .int i
  | .str x => .str x
  | .tup xs => .tuple (toPs xs)
  | .lst xs => .list (toPs xs)
  | _ => .none
def toPs : List D → List PyData
  | [] => []
  | x :: xs => toP x :: toPs xs
end
mutual
/-- no dict, object or exception lies within -/
def plainD : D → Bool
  | .non | .bl _ | .int _ | .str _ => true
  | .tup xs => plainDs xs
  | .lst xs => plainDs xs
  | _ => false
def plainDs : List D → Bool
  | [] => true
  | x :: xs => plainD x && plainDs xs
end
mutual
theorem plain_toP : ∀ d : D, (toP d).plain = true
  | .non | .bl _ | .int _ | .str _ | .dic _ | .obj _ | .exn _ _ => by simp only [toP, PyData.plain]
  | .tup xs => by
    simp only [toP, PyData.plain]
    exact plains_toP xs
  | .lst xs => by
    simp only [toP, PyData.plain]
    exact plains_toP xs
theorem plains_toP : ∀ d : List D, PyData.plainAll (toPs d) = true
  | [] => by simp only [toPs, PyData.plainAll]
  | x :: xs => by
    simp only [toPs, PyData.plainAll, plain_toP x, plains_toP xs, Bool.and_self]
end
section
variable {G : Gx} {F : Hp} {iot : List Addr}
mutual
theorem Rp.dp : ∀ (d : D) (v : V), plainD d = true → Rp G F iot d v → Dp G.K F v (toP d)
  | .non, v, _, q => by
    simp only [Rp] at q
    subst q
    simp only [toP]
    exact .non
  | .bl b, v, _, q => by
    simp only [Rp] at q
    subst q
    simp only [toP]
    exact .bl b
  | .int i, v, _, q => by
    simp only [Rp] at q
    subst q
    simp only [toP]
    exact .int i
  | .str x, v, _, q => by
    simp only [Rp] at q
    subst q
    simp only [toP]
    exact .str x
  | .tup xs, v, p, q => by
    simp only [Rp] at q
    simp only [plainD] at p
    obtain ⟨a, vs, rfl, z, s, r⟩ := q
    simp only [toP]
    exact .tup s (Rps.dp xs vs p r)
  | .lst xs, v, p, q => by
    simp only [Rp] at q
    simp only [plainD] at p
    obtain ⟨a, vs, rfl, z, s, r⟩ := q
    simp only [toP]
    exact .lst s (Rps.dp xs vs p r)
  | .dic _, v, p, q => by simp [plainD] at p
  | .obj _, v, p, q => by simp [plainD] at p
  | .exn _ _, v, p, q => by simp [plainD] at p
theorem Rps.dp : ∀ (d : List D) (v : List V), plainDs d = true → Rps G F iot d v → DpAll G.K F v (toPs d)
  | [], v, _, q => by
    simp only [Rps] at q
    subst q
    simp only [toPs]
    exact .nil
  | x :: xs, v, p, q => by
    simp only [Rps] at q
    simp only [plainDs, Bool.and_eq_true] at p
    obtain ⟨u, r, rfl, a, b⟩ := q
    simp only [toPs]
    exact .cons (Rp.dp x u p.1 a) (Rps.dp xs r p.2 b)
end
end
def depD (d : D) : Nat := (toP d).depth
def eqvD (x y : D) : Bool := PyData.eqv (toP x) (toP y)
def dEq (x y : D) : Option Bool := if plainD x && plainD y && decide (min (depD x) (depD y) ≤ 60) then some (eqvD x y) else none
def dIn (x y : D) : Option Bool := match x, y with
  | .str x, .str z => some (!(Builtin.Str.occurrences z x 0 z.length 1).isEmpty)
  | x, .lst ys => if plainD x && plainDs ys && decide (depD x ≤ 50) then some (ys.any fun y => eqvD y x) else none
  | x, .tup ys => if plainD x && plainDs ys && decide (depD x ≤ 50) then some (ys.any fun y => eqvD y x) else none
  | _, _ => none

section
open PyProof.Rows
variable {X : Cx}
def rEqP (K : PySem.W.Frag) : R2 := fun x y H Q => ∃ d e, Dp K H x d ∧ Dp K H y e ∧ d.plain = true ∧ e.plain = true ∧ min d.depth e.depth ≤ 60 ∧ Q (.bl (PyData.eqv d e)) H
def rNeP (K : PySem.W.Frag) : R2 := fun x y H Q => ∃ d e, Dp K H x d ∧ Dp K H y e ∧ d.plain = true ∧ e.plain = true ∧ min d.depth e.depth ≤ 60 ∧ Q (.bl (!PyData.eqv d e)) H
theorem op_eqP (hu : X.A.units + 64 < cLine) : OpR X (compareOp .Eq) (rEqP X.K) := by
  intro pins s σ H x y v u Q I rx ry ⟨d, e, hd, he, pd, pe, hz, q⟩
  obtain ⟨as, r1⟩ := Dp.reads I d x v hd rx
  obtain ⟨bs, r2⟩ := Dp.reads I e y u he ry
  exact SeqAt.eq_plain r1 r2 pd pe (by omega) ⟨.bl _, H, I, rfl, q⟩
theorem op_neP (hu : X.A.units + 64 < cLine) : OpR X (compareOp .NotEq) (rNeP X.K) := by
  intro pins s σ H x y v u Q I rx ry ⟨d, e, hd, he, pd, pe, hz, q⟩
  obtain ⟨as, r1⟩ := Dp.reads I d x v hd rx
  obtain ⟨bs, r2⟩ := Dp.reads I e y u he ry
  exact SeqAt.ne_plain r1 r2 pd pe (by omega) ⟨.bl _, H, I, rfl, q⟩
def rInP (K : PySem.W.Frag) (neg : Bool) : R2 := fun x y H Q =>
  (∃ i j, x = .str i ∧ y = .str j ∧ Q (.bl (neg != (!(Builtin.Str.occurrences j i 0 j.length 1).isEmpty))) H) ∨
  ∃ d ds, Dp K H x d ∧ (Dp K H y (.list ds) ∨ Dp K H y (.tuple ds)) ∧ d.plain = true ∧ PyData.plainAll ds = true ∧ d.depth ≤ 50 ∧ Q (.bl (neg != ds.any fun z => PyData.eqv z d)) H
theorem op_inP (hu : X.A.units + 64 < cLine) : OpR X (compareOp .In) (rInP X.K false) := by
  intro pins s σ H x y v u Q I rx ry h
  rcases h with ⟨i, j, rfl, rfl, q⟩ | ⟨d, ds, hd, he, pd, pe, hz, q⟩
  · exact op_in_str pins s σ H _ _ v u Q I rx ry ⟨i, j, rfl, rfl, by simpa using q⟩
  · obtain ⟨as, r1⟩ := Dp.reads I d x v hd rx
    rcases he with he | he
    · obtain ⟨bs, r2⟩ := Dp.reads I _ y u he ry
      exact SeqAt.in_list_data r2 r1 pe pd (by omega) ⟨.bl _, H, I, rfl, by simpa using q⟩
    · obtain ⟨bs, r2⟩ := Dp.reads I _ y u he ry
      exact SeqAt.in_tuple_data r2 r1 pe pd (by omega) ⟨.bl _, H, I, rfl, by simpa using q⟩
theorem op_notInP (hu : X.A.units + 64 < cLine) : OpR X (compareOp .NotIn) (rInP X.K true) := by
  intro pins s σ H x y v u Q I rx ry h
  rcases h with ⟨i, j, rfl, rfl, q⟩ | ⟨d, ds, hd, he, pd, pe, hz, q⟩
  · exact op_notin_str pins s σ H _ _ v u Q I rx ry ⟨i, j, rfl, rfl, by simpa using q⟩
  · obtain ⟨as, r1⟩ := Dp.reads I d x v hd rx
    rcases he with he | he
    · obtain ⟨bs, r2⟩ := Dp.reads I _ y u he ry
      exact SeqAt.notIn_list_data r2 r1 pe pd (by omega) ⟨.bl _, H, I, rfl, by simpa using q⟩
    · obtain ⟨bs, r2⟩ := Dp.reads I _ y u he ry
      exact SeqAt.notIn_tuple_data r2 r1 pe pd (by omega) ⟨.bl _, H, I, rfl, by simpa using q⟩
/-- a ** n -/
theorem op_powG : OpR X (binaryOp .Pow) (rI (fun i j => 0 ≤ j ∧ (Builtin.Int.intBits i : Int) * j ≤ 2 ^ 27) fun i j => .int (i ^ j.toNat)) := opI fun _ _ _ _ _ _ _ hc q => pow_int hc.1 hc.2 q
/-- t + u, t empty -/
def rCat0 (K : PySem.W.Frag) : R2 := fun x y H Q => ∃ a b ys, x = .ref a ∧ y = .ref b ∧ SqT K H a [] ∧ SqT K H b ys ∧ Q (.ref b) H
theorem op_cat0 : OpR X (binaryOp .Add) (rCat0 X.K) := by
  intro pins s σ H x y v u Q I rx ry ⟨a, b, ys, hx, hy, ha, hb, q⟩
  subst hx hy
  cases rx
  cases ry
  obtain ⟨its, r1, p1, _⟩ := I.tuple ha
  obtain ⟨its2, r2, p2, _⟩ := I.tuple hb
  cases r1
  obtain ⟨⟨cl, dd, da, sl⟩, ho, hc, n, hd⟩ := id p1
  obtain ⟨⟨cl2, dd2, da2, sl2⟩, ho2, hc2, n2, hd2⟩ := id p2
  simp only at hc hd hc2 hd2
  subst hc hd hc2 hd2
  exact concat_meets ⟨_, ho, rfl⟩ ⟨_, ho2, rfl⟩ noFill_tuple_add seq_tuple_add PySem.F.slot_tuple_add PySem.F.entry_tuple_add (PySem.F.args_tuple_add_2 _ _)
    (tuple_addW0 a b _ its2.toArray n n2 dd dd2 sl sl2 (by simp)) ⟨ho, ho2, ⟨.ref b, H, I, rfl, q⟩⟩
/-- list + list -/
def rCatL (K : PySem.W.Frag) : R2 := fun x y H Q => ∃ l b xs zs, x = .ref l ∧ y = .ref b ∧ SqL K H l xs ∧ SqL K H b zs ∧ xs.length + zs.length ≤ sizeLine ∧ ∀ p, H p = none → Q (.ref p) (upd H p (.lst (xs ++ zs)))
theorem op_catL : OpR X (binaryOp .Add) (rCatL X.K) := by
  intro pins s σ H x y v u Q I rx ry ⟨l, b, xs, zs, hx, hy, ha, hb, hz, q⟩
  subst hx hy
  cases rx
  cases ry
  obtain ⟨its, r1, p1, _⟩ := I.list ha
  obtain ⟨its2, r2, p2, _⟩ := I.list hb
  obtain ⟨⟨cl, dd, da, sl⟩, ho, hc, n, hd⟩ := id p1.isList
  obtain ⟨⟨cl2, dd2, da2, sl2⟩, ho2, hc2, n2, hd2⟩ := id p2.isList
  simp only at hc hd hc2 hd2
  subst hc hd hc2 hd2
  have e1 := r1.length
  have e2 := r2.length
  refine concat_meets ⟨_, ho, rfl⟩ ⟨_, ho2, rfl⟩ noFill_list_add seq_list_add PySem.F.slot_list_add PySem.F.entry_list_add (PySem.F.args_list_add_2 _ _)
    (list_addW l b its.toArray its2.toArray n n2 dd dd2 sl sl2 (by simp only [List.size_toArray]; omega)) ⟨ho, ho2, ?_⟩
  have ea : its.toArray ++ its2.toArray = (its ++ its2).toArray := by simp
  rw [ea]
  exact ⟨.ref _, _, I.lnew (t' := s.toks) (r1.append r2) (by rw [List.length_append]; omega), rfl, q _ I.fresh⟩
end

/-! ### the model's operators -/
def dAdd : D → D → Option D
  | .int i, .int j => some (.int (i + j))
  | .str x, .str y => if x.length + y.length ≤ 16777216 then some (.str (x ++ y)) else none
  | .tup xs, .tup ys => if xs.length + ys.length ≤ 16777216 then some (.tup (xs ++ ys)) else none
  | _, _ => none
def dCat : D → D → Option D
  | .lst xs, .lst ys => if xs.length + ys.length ≤ 16777216 then some (.lst (xs ++ ys)) else none
  | _, _ => none
def dSub : D → D → Option D
  | .int i, .int j => some (.int (i - j))
  | _, _ => none
def mulOk (i j : Int) : Bool := decide (i.natAbs.log2 + j.natAbs.log2 < 1000000)
def dMul : D → D → Option D
  | .int i, .int j => if mulOk i j then some (.int (i * j)) else none
  | _, _ => none
def dFdiv : D → D → Option D
  | .int i, .int j => if 0 < j ∧ j < 1073741824 then some (.int (i / j)) else none
  | _, _ => none
def dMod : D → D → Option D
  | .int i, .int j => if 0 < j then some (.int (i % j)) else none
  | _, _ => none
def powOk (i j : Int) : Bool := decide (0 ≤ j ∧ (Builtin.Int.intBits i : Int) * j ≤ 2 ^ 27)
def dPow : D → D → Option D
  | .int i, .int j => if powOk i j then some (.int (i ^ j.toNat)) else none
  | _, _ => none
def dCmp (p : Int → Int → Bool) : D → D → Option D
  | .int i, .int j => some (.bl (p i j))
  | _, _ => none
def dLt := dCmp fun i j => decide (i < j)
def dLe := dCmp fun i j => decide (i ≤ j)
def dGt := dCmp fun i j => decide (j < i)
def dGe := dCmp fun i j => decide (j ≤ i)
def dEqD (x y : D) : Option D := (dEq x y).map .bl
def dNeD (x y : D) : Option D := (dEq x y).map fun b => .bl (!b)
def dInD (x y : D) : Option D := (dIn x y).map .bl
def dNinD (x y : D) : Option D := (dIn x y).map fun b => .bl (!b)
def isNonD : D → Bool
  | .non => true
  | _ => false
def dIsN (x y : D) : Option D := match y with
  | .non => some (.bl (isNonD x))
  | _ => none
def dNotN (x y : D) : Option D := match y with
  | .non => some (.bl (!isNonD x))
  | _ => none
def dNeg : D → Option D
  | .int i => some (.int (-i))
  | _ => none

/-- a rule by values bears a function of the model: of frozen values; of a frozen one and one that is looked at -/
def BearsE (X : Cx) (ca : Nat → Addr) (r : R2) (f : D → D → Option D) : Prop :=
  ∀ (P : Hp) (w : Wd) (ρ : Env) (h : Hh) (σ : L2.St) (H : Hp) (x y d : D) (v u : V) (Q : VK), StR ⟨X.K, ca⟩ P w ρ h σ H → f x y = some d → Rep ⟨X.K, ca⟩ w x v → Rep ⟨X.K, ca⟩ w y u →
    (∀ w' H' vd, w.le w' → StR ⟨X.K, ca⟩ P w' ρ h σ H' → Rep ⟨X.K, ca⟩ w' d vd → Q vd H') → r v u H Q
def Bears (X : Cx) (ca : Nat → Addr) (r : R2) (f : D → D → Option D) : Prop :=
  ∀ (P : Hp) (w : Wd) (ρ : Env) (h : Hh) (σ : L2.St) (H : Hp) (x y d : D) (v u : V) (Q : VK), StR ⟨X.K, ca⟩ P w ρ h σ H → f x y = some d → Rp ⟨X.K, ca⟩ H w.iot x v → Rp ⟨X.K, ca⟩ H w.iot y u →
    (∀ w' H' vd, w.le w' → StR ⟨X.K, ca⟩ P w' ρ h σ H' → Rep ⟨X.K, ca⟩ w' d vd → Q vd H') → r v u H Q
theorem Bears.e {X : Cx} {ca : Nat → Addr} {r : R2} {f : D → D → Option D} (b : Bears X ca r f) : BearsE X ca r f :=
  fun P w ρ h σ H x y d v u Q s q rx ry k => b P w ρ h σ H x y d v u Q s q (Rp.mono s.hr.fr (List.prefix_refl _) _ _ rx) (Rp.mono s.hr.fr (List.prefix_refl _) _ _ ry) k
section
variable {X : Cx} {ca : Nat → Addr} {W : WX} {a b : Expr} {c1 c2 : EM D} {pos : Pos} {f : D → D → Option D} {r : R2}
theorem EPost.op {G : Gx} {P : Hp} {w : Wd} {ρ : Env} {h : Hh} {σ : L2.St} {k : D → Wd → Hh → Hp → Prop} (e : EPost G W P w ρ σ (eOp f c1 c2 ρ h) k) :
    EPost G W P w ρ σ (c1 ρ h) fun x w1 h1 _ => EPost G W P w1 ρ σ (c2 ρ h1) fun y w2 h2 H2 => ∃ d, f x y = some d ∧ ∀ w' H', w2.le w' → StR G P w' ρ h2 σ H' → k d w' h2 H' :=
  (EPost.bind e).imp fun x w1 h1 H1 l1 s1 e1 => (EPost.bind e1).imp fun y w2 h2 H2 l2 s2 e2 => by
    obtain ⟨d, q, _⟩ := e2.opt s2
    refine ⟨d, q, fun w' H' l s => ?_⟩
    obtain ⟨d', q', k'⟩ := (e2.le l).opt s
    rw [q] at q'
    cases q'
    exact k'
theorem se_opR {op : Operator} (ho : OpR X (binaryOp op) r) (hf : BearsE X ca r f) (ha : SE X ca W a c1) (hb : SE X ca W b c2) : SE X ca W (.BinOp a op b pos) (eOp f c1 c2) :=
  ⟨(pe_op ho ha.pe hb.pe).imp fun σ H Q ⟨P, w, ρ, h, st, k⟩ => ⟨P, w, ρ, h, st, k.op.imp fun x w1 h1 H1 l1 s1 k1 v rv => ⟨P, w1, ρ, h1, s1, k1.imp fun y w2 h2 H2 l2 s2 ⟨d, q, k2⟩ u ru =>
    hf P w2 ρ h2 σ H2 x y d v u Q s2 q (Rep.le rv l2) ru fun w' H' vd l s r => k2 w' H' l s vd r⟩⟩⟩
theorem se_cmpR {op : CmpOp} (ho : OpR X (compareOp op) r) (hf : Bears X ca r f) (ha : SE X ca W a c1) (hb : SO X ca W b c2) (hm : behindInMarks op b = false) : SE X ca W (.Compare a [op] [b] pos) (eOp f c1 c2) :=
  ⟨(pe_cmpR ho ha.pe hb.pe hm).imp fun σ H Q ⟨P, w, ρ, h, st, k⟩ => ⟨P, w, ρ, h, st, k.op.imp fun x w1 h1 H1 l1 s1 k1 v rv => ⟨P, w1, ρ, h1, s1, k1.imp fun y w2 h2 H2 l2 s2 ⟨d, q, k2⟩ u ru =>
    hf P w2 ρ h2 σ H2 x y d v u Q s2 q (Rp.mono s2.hr.fr (List.prefix_refl _) _ _ (Rep.le rv l2)) ru fun w' H' vd l s r => k2 w' H' l s vd r⟩⟩⟩

theorem StR.fresh {G : Gx} {P : Hp} {w : Wd} {ρ : Env} {h : Hh} {σ : L2.St} {H : Hp} {p : Addr} (s : StR G P w ρ h σ H) (n : H p = none) :
    w.F p = none ∧ p ∉ w.iot ∧ P p = none ∧ ∀ (i : Nat) (e : D), ρ[i]? = some (.own e) → σ[i]? ≠ some (some (.ref p)) :=
  ⟨s.hr.notF n, s.hr.notiot n, s.hr.notP n, fun i x q hq => by
    obtain ⟨b, e1, e2, _⟩ := s.own i x q
    obtain ⟨u, e3⟩ := e2.some
    rw [hq] at e1
    cases e1
    rw [n] at e3
    cases e3⟩
/-- laid and frozen -/
theorem StR.layF {G : Gx} {P : Hp} {w : Wd} {ρ : Env} {h : Hh} {σ : L2.St} {H : Hp} {p : Addr} {o : HO} (s : StR G P w ρ h σ H) (n : H p = none) : w.le (w.frz p o) ∧ StR G P (w.frz p o) ρ h σ (upd H p o) :=
  have f := s.fresh n
  ⟨Wd.frz_le f.1, (s.alloc n).frz upd_same f.1 f.2.1 f.2.2.1 f.2.2.2⟩
/-- a value is told by ints -/
theorem bears_int {g : Int → Int → V} {C : Int → Int → Prop} {f : D → D → Option D} (hf : ∀ x y d, f x y = some d → ∃ i j, x = .int i ∧ y = .int j ∧ C i j ∧ ∀ F iot, Rp ⟨X.K, ca⟩ F iot d (g i j)) : Bears X ca (rI C g) f :=
  fun P w ρ h σ H x y d v u Q s q rx ry k => by
    obtain ⟨i, j, rfl, rfl, hc, hr⟩ := hf x y d q
    simp only [Rp] at rx ry
    exact ⟨i, j, rx, ry, hc, k w H _ (Wd.le.refl w) s (hr _ _)⟩
theorem bears_int0 {g : Int → Int → V} {f : D → D → Option D} (hf : ∀ x y d, f x y = some d → ∃ i j, x = .int i ∧ y = .int j ∧ ∀ F iot, Rp ⟨X.K, ca⟩ F iot d (g i j)) : Bears X ca (rI0 g) f :=
  fun P w ρ h σ H x y d v u Q s q rx ry k => by
    obtain ⟨i, j, rfl, rfl, hr⟩ := hf x y d q
    simp only [Rp] at rx ry
    exact ⟨i, j, rx, ry, k w H _ (Wd.le.refl w) s (hr _ _)⟩
theorem dCmp_some {p : Int → Int → Bool} {x y d : D} (h : dCmp p x y = some d) : ∃ i j, x = .int i ∧ y = .int j ∧ d = .bl (p i j) := by
  unfold dCmp at h
  split at h
  · cases h
    exact ⟨_, _, rfl, rfl, rfl⟩
  · cases h
theorem bears_cmp {p : Int → Int → Bool} : Bears X ca (rI0 fun i j => .bl (p i j)) (dCmp p) := bears_int0 fun x y d q => by
  obtain ⟨i, j, rfl, rfl, rfl⟩ := dCmp_some q
  exact ⟨i, j, rfl, rfl, fun _ _ => by simp only [Rp]⟩
/-- a comparison bears a function of the model -/
structure CmpRule (X : Cx) (ca : Nat → Addr) (op : CmpOp) (f : D → D → Option D) : Prop where
  ex : ∃ r : R2, OpR X (compareOp op) r ∧ Bears X ca r f
theorem cr_lt : CmpRule X ca .Lt dLt := ⟨_, op_lt, bears_cmp⟩
theorem cr_le : CmpRule X ca .LtE dLe := ⟨_, op_le, bears_cmp⟩
theorem cr_gt : CmpRule X ca .Gt dGt := ⟨_, op_gt, bears_cmp⟩
theorem cr_ge : CmpRule X ca .GtE dGe := ⟨_, op_ge, bears_cmp⟩
theorem se_cmp {op : CmpOp} (cr : CmpRule X ca op f) (ha : SE X ca W a c1) (hb : SO X ca W b c2) (hm : behindInMarks op b = false := by first | exact nomark _ | with_unfolding_all rfl) : SE X ca W (.Compare a [op] [b] pos) (eOp f c1 c2) := by
  obtain ⟨r, ho, hf⟩ := cr.ex
  exact se_cmpR ho hf ha hb hm
/-- the left side a cell's own container, the right one frozen: f exchanged -/
def eOpL (f : D → D → Option D) (i : Nat) (b : EM D) : EM D := eBind b fun y => eBind (eOwn i) fun x => eOpt (f x y)
theorem se_sub (ha : SE X ca W a c1) (hb : SE X ca W b c2) : SE X ca W (.BinOp a .Sub b pos) (eOp dSub c1 c2) := se_opR op_sub (Bears.e <| bears_int0 fun x y d q => by
  unfold dSub at q
  split at q
  · cases q
    exact ⟨_, _, rfl, rfl, fun _ _ => by simp only [Rp]⟩
  · cases q) ha hb
theorem se_mul (ha : SE X ca W a c1) (hb : SE X ca W b c2) : SE X ca W (.BinOp a .Mult b pos) (eOp dMul c1 c2) := se_opR op_mulW (Bears.e <| bears_int fun x y d q => by
  unfold dMul at q
  split at q
  · split at q
    · rename_i z
      cases q
      exact ⟨_, _, rfl, rfl, (of_decide_eq_true (p := _ < 1000000) z : _), fun _ _ => by simp only [Rp]⟩
    · cases q
  · cases q) ha hb
theorem se_fdiv (ha : SE X ca W a c1) (hb : SE X ca W b c2) : SE X ca W (.BinOp a .FloorDiv b pos) (eOp dFdiv c1 c2) := se_opR op_fdiv (Bears.e <| bears_int fun x y d q => by
  unfold dFdiv at q
  split at q
  · split at q
    · rename_i z
      cases q
      exact ⟨_, _, rfl, rfl, z, fun _ _ => by simp only [Rp]⟩
    · cases q
  · cases q) ha hb
theorem se_mod (ha : SE X ca W a c1) (hb : SE X ca W b c2) : SE X ca W (.BinOp a .Mod b pos) (eOp dMod c1 c2) := se_opR op_mod (Bears.e <| bears_int fun x y d q => by
  unfold dMod at q
  split at q
  · split at q
    · rename_i z
      cases q
      exact ⟨_, _, rfl, rfl, z, fun _ _ => by simp only [Rp]⟩
    · cases q
  · cases q) ha hb
theorem se_pow (ha : SE X ca W a c1) (hb : SE X ca W b c2) : SE X ca W (.BinOp a .Pow b pos) (eOp dPow c1 c2) := se_opR op_powG (Bears.e <| bears_int fun x y d q => by
  unfold dPow at q
  split at q
  · split at q
    · rename_i z
      cases q
      exact ⟨_, _, rfl, rfl, of_decide_eq_true z, fun _ _ => by simp only [Rp]⟩
    · cases q
  · cases q) ha hb
theorem bears_or {r r' : R2} {f g : D → D → Option D} {e : D → D → Option D} (h : BearsE X ca r f) (h' : BearsE X ca r' g) (he : ∀ x y d, e x y = some d → f x y = some d ∨ g x y = some d) : BearsE X ca (fun x y H Q => r x y H Q ∨ r' x y H Q) e :=
  fun P w ρ hh σ H x y d v u Q s q rx ry k => by
    rcases he x y d q with z | z
    · exact .inl (h P w ρ hh σ H x y d v u Q s z rx ry k)
    · exact .inr (h' P w ρ hh σ H x y d v u Q s z rx ry k)
def dAddI : D → D → Option D
  | .int i, .int j => some (.int (i + j))
  | _, _ => none
def dAddS : D → D → Option D
  | .str x, .str y => if x.length + y.length ≤ 16777216 then some (.str (x ++ y)) else none
  | _, _ => none
def dAddT : D → D → Option D
  | .tup xs, .tup ys => if xs.length + ys.length ≤ 16777216 then some (.tup (xs ++ ys)) else none
  | _, _ => none
theorem bears_addI : Bears X ca (rI0 fun i j => .int (i + j)) dAddI := bears_int0 fun x y d q => by
  unfold dAddI at q
  split at q
  · cases q
    exact ⟨_, _, rfl, rfl, fun _ _ => by simp only [Rp]⟩
  · cases q
theorem bears_addS : Bears X ca (fun x y H Q => ∃ i j, x = .str i ∧ y = .str j ∧ i.length + j.length ≤ sizeLine ∧ Q (.str (i ++ j)) H) dAddS := fun P w ρ h σ H x y d v u Q s q rx ry k => by
  unfold dAddS at q
  split at q
  · split at q
    · rename_i z
      cases q
      simp only [Rp] at rx ry
      exact ⟨_, _, rx, ry, by rw [sizeLine_eq]; exact z, k w H _ (Wd.le.refl w) s (by simp only [Rep, Rp])⟩
    · cases q
  · cases q
theorem bears_addT : BearsE X ca (fun x y H Q => rCat0 X.K x y H Q ∨ rCatT X.K x y H Q) dAddT := fun P w ρ h σ H x y d v u Q s q rx ry k => by
  unfold dAddT at q
  split at q
  · rename_i xs ys
    split at q
    · rename_i z
      cases q
      have rx' := rx
      have ry' := ry
      simp only [Rep, Rp] at rx ry
      obtain ⟨a, vs, rfl, zv, ta, rv⟩ := rx
      obtain ⟨b, us, rfl, zu, tb, ru⟩ := ry
      have lv := rv.length
      have lu := ru.length
      have ta' := SqT.mono s.hr.fr ta
      have tb' := SqT.mono s.hr.fr tb
      cases xs with
      | nil =>
        have e : vs = [] := List.length_eq_zero_iff.mp (by rw [← lv]; rfl)
        subst e
        exact .inl ⟨a, b, us, rfl, rfl, ta', tb', k w H _ (Wd.le.refl w) s ry'⟩
      | cons x0 xr =>
        have e : vs ≠ [] := fun e => by
          rw [e] at lv
          cases lv
        have zz : vs.length + us.length ≤ sizeLine := by rw [← lv, ← lu, sizeLine_eq]; exact z
        refine .inr ⟨a, b, vs, us, rfl, rfl, ta', tb', e, zz, fun e2 => ?_, fun e2 p n => ?_⟩
        · subst e2
          have e3 : ys = [] := List.length_eq_zero_iff.mp (by rw [lu]; rfl)
          subst e3
          exact k w H _ (Wd.le.refl w) s (by rw [List.append_nil]; exact rx')
        · obtain ⟨le, s'⟩ := s.layF (o := .tup (vs ++ us)) n
          refine k _ _ _ le s' ?_
          simp only [Rep, Rp]
          refine ⟨p, vs ++ us, rfl, by rw [List.length_append]; exact zz, SqT.of Wd.frz_same, ?_⟩
          exact (Reps.le rv le).append (Reps.le ru le)
    · cases q
  · cases q
theorem se_add (ha : SE X ca W a c1) (hb : SE X ca W b c2) : SE X ca W (.BinOp a .Add b pos) (eOp dAdd c1 c2) :=
  se_opR ((op_add.or op_add_str).or (op_cat0.or op_catT)) (bears_or (f := fun x y => (dAddI x y).or (dAddS x y)) (g := dAddT)
    (bears_or bears_addI.e bears_addS.e fun x y d q => by
      cases e : dAddI x y with
      | none => rw [e] at q; exact .inr q
      | some z => rw [e] at q; exact .inl q) bears_addT fun x y d q => by
    unfold dAdd at q
    split at q
    · exact .inl q
    · exact .inl q
    · exact .inr q
    · cases q) ha hb
/-- list + list: a new list -/
theorem sn_cat (ha : SE X ca W a c1) (hb : SE X ca W b c2) : SN X ca W (.BinOp a .Add b pos) (eOp dCat c1 c2) :=
  ⟨(pe_op op_catL ha.pe hb.pe).imp fun σ H Q ⟨P, w, ρ, h, st, k⟩ => ⟨P, w, ρ, h, st, k.op.imp fun x w1 h1 H1 l1 s1 k1 v rv => ⟨P, w1, ρ, h1, s1, k1.imp fun y w2 h2 H2 l2 s2 ⟨d, q, k2⟩ u ru => by
    unfold dCat at q
    split at q
    · rename_i xs ys
      split at q
      · rename_i z
        cases q
        have rv2 := Rep.le rv l2
        simp only [Rep, Rp] at rv2 ru
        obtain ⟨a, vs, rfl, zv, ta, rv⟩ := rv2
        obtain ⟨b, us, rfl, zu, tb, ru⟩ := ru
        have zz : vs.length + us.length ≤ sizeLine := by rw [← rv.length, ← ru.length, sizeLine_eq]; exact z
        refine ⟨a, b, vs, us, rfl, rfl, SqL.mono s2.hr.fr ta, SqL.mono s2.hr.fr tb, zz, fun p n => ?_⟩
        have f := s2.fresh n
        exact k2 w2 _ (Wd.le.refl _) (s2.alloc n) p ⟨⟨vs ++ us, by rw [List.length_append]; exact zz, upd_same, rv.append ru⟩, f.1, f.2.1, f.2.2.1, f.2.2.2⟩
      · cases q
    · cases q⟩⟩⟩
theorem bears_eq : Bears X ca (rEqP X.K) dEqD := fun P w ρ h σ H x y d v u Q s q rx ry k => by
  unfold dEqD dEq at q
  split at q
  · rename_i z
    cases q
    simp only [Bool.and_eq_true, decide_eq_true_eq] at z
    exact ⟨toP x, toP y, Rp.dp x v z.1.1 rx, Rp.dp y u z.1.2 ry, plain_toP x, plain_toP y, z.2, k w H _ (Wd.le.refl w) s (by simp only [Rep, Rp, eqvD])⟩
  · cases q
theorem bears_ne : Bears X ca (rNeP X.K) dNeD := fun P w ρ h σ H x y d v u Q s q rx ry k => by
  unfold dNeD dEq at q
  split at q
  · rename_i z
    cases q
    simp only [Bool.and_eq_true, decide_eq_true_eq] at z
    exact ⟨toP x, toP y, Rp.dp x v z.1.1 rx, Rp.dp y u z.1.2 ry, plain_toP x, plain_toP y, z.2, k w H _ (Wd.le.refl w) s (by simp only [Rep, Rp, eqvD])⟩
  · cases q
theorem cr_eq (hu : X.A.units + 64 < cLine) : CmpRule X ca .Eq dEqD := ⟨_, op_eqP hu, bears_eq⟩
theorem cr_ne (hu : X.A.units + 64 < cLine) : CmpRule X ca .NotEq dNeD := ⟨_, op_neP hu, bears_ne⟩
theorem any_toPs {x : D} : ∀ ys : List D, ((toPs ys).any fun z => PyData.eqv z (toP x)) = ys.any fun y => eqvD y x
  | [] => rfl
  | y :: ys => by rw [toPs, List.any_cons, List.any_cons, any_toPs ys]; rfl
theorem bears_in {neg : Bool} {f : D → D → Option D} (hf : ∀ x y d, f x y = some d → ∃ b, dIn x y = some b ∧ d = .bl (neg != b)) : Bears X ca (rInP X.K neg) f := fun P w ρ h σ H x y d v u Q s qf rx ry k => by
  obtain ⟨b, q, rfl⟩ := hf x y d qf
  clear qf
  have k' := k w H (.bl (neg != b)) (Wd.le.refl w) s (by simp only [Rep, Rp])
  unfold dIn at q
  split at q
  · cases q
    simp only [Rp] at rx ry
    exact .inl ⟨_, _, rx, ry, k'⟩
  · rename_i ys
    split at q
    · rename_i z
      cases q
      simp only [Bool.and_eq_true, decide_eq_true_eq] at z
      have dy := Rp.dp (.lst ys) u (by simpa [plainD] using z.1.2) ry
      simp only [toP] at dy
      exact .inr ⟨toP x, toPs ys, Rp.dp x v z.1.1 rx, .inl dy, plain_toP x, plains_toP ys, z.2, by rw [any_toPs]; exact k'⟩
    · cases q
  · rename_i ys
    split at q
    · rename_i z
      cases q
      simp only [Bool.and_eq_true, decide_eq_true_eq] at z
      have dy := Rp.dp (.tup ys) u (by simpa [plainD] using z.1.2) ry
      simp only [toP] at dy
      exact .inr ⟨toP x, toPs ys, Rp.dp x v z.1.1 rx, .inr dy, plain_toP x, plains_toP ys, z.2, by rw [any_toPs]; exact k'⟩
    · cases q
  · cases q
theorem cr_in (hu : X.A.units + 64 < cLine) : CmpRule X ca .In dInD := ⟨_, op_inP hu, bears_in fun x y d q => by
    unfold dInD at q
    cases e : dIn x y with
    | none => rw [e] at q; cases q
    | some b => rw [e] at q; cases q; exact ⟨b, rfl, by cases b <;> rfl⟩⟩
theorem cr_notIn (hu : X.A.units + 64 < cLine) : CmpRule X ca .NotIn dNinD := ⟨_, op_notInP hu, bears_in fun x y d q => by
    unfold dNinD at q
    cases e : dIn x y with
    | none => rw [e] at q; cases q
    | some b => rw [e] at q; cases q; exact ⟨b, rfl, by cases b <;> rfl⟩⟩
theorem rp_non {G : Gx} {F : Hp} {iot : List Addr} {x : D} {v : V} (r : Rp G F iot x v) : decide (v = .non) = isNonD x := by
  cases x <;> simp only [Rp] at r
  · subst r; rfl
  · subst r; rfl
  · subst r; rfl
  · subst r; rfl
  · obtain ⟨a, vs, rfl, _⟩ := r; rfl
  · obtain ⟨a, vs, rfl, _⟩ := r; rfl
  · obtain ⟨a, vs, rfl, _⟩ := r; rfl
  · obtain ⟨a, rfl, _⟩ := r; rfl
  · obtain ⟨a, d, rfl, _⟩ := r; rfl
theorem cr_isN : CmpRule X ca .Is dIsN := ⟨_, op_isN, (fun P w ρ h σ H x y d v u Q s q rx ry k => by
  unfold dIsN at q
  split at q
  · simp only [Rp] at ry
    refine ⟨ry, ?_⟩
    rw [rp_non rx]
    cases q
    exact k w H _ (Wd.le.refl w) s (by simp only [Rep, Rp])
  · cases q)⟩
theorem cr_notN : CmpRule X ca .IsNot dNotN := ⟨_, op_notN, (fun P w ρ h σ H x y d v u Q s q rx ry k => by
  unfold dNotN at q
  split at q
  · simp only [Rp] at ry
    refine ⟨ry, ?_⟩
    rw [rp_non rx]
    cases q
    exact k w H _ (Wd.le.refl w) s (by simp only [Rep, Rp])
  · cases q)⟩
theorem se_neg (ha : SE X ca W a c1) : SE X ca W (.UnaryOp .USub a pos) (eMap dNeg c1) :=
  ⟨(pe_un un_neg ha.pe).imp fun σ H Q ⟨P, w, ρ, h, st, k⟩ => ⟨P, w, ρ, h, st, k.bind.imp fun x w1 h1 H1 l1 s1 k1 v rv => by
    obtain ⟨d, q, k2⟩ := k1.opt s1
    unfold dNeg at q
    split at q
    · cases q
      simp only [Rep, Rp] at rv
      exact ⟨_, rv, k2 _ (by simp only [Rep, Rp])⟩
    · cases q⟩⟩
end
end PV
end

section
set_option Elab.async false
set_option linter.all false
set_option maxRecDepth 100000
set_option maxHeartbeats 1000000
/-! PV.R3: tests, and / or / not, conditional expressions, chains, subscripts, slices. -/
namespace PV
open PySem L2

section
variable {X : Cx} {ca : Nat → Addr} {W : WX} {a b e : Expr} {rest : List Expr} {c c1 c2 c3 : EM D} {t u : EM Bool} {pos : Pos} {f g : D → D → Option D}
/-- what a chain's link says -/
def asBool (d : D) : EM Bool := eOpt (asB d)
theorem asB_rp {G : Gx} {F : Hp} {iot : List Addr} {d : D} {k : Bool} {v : V} (e : asB d = some k) (r : Rp G F iot d v) : v = .bl k := by
  unfold asB at e
  split at e
  · cases e
    simpa only [Rp] using r
  · cases e
theorem sb_cmp {op : CmpOp} (cr : CmpRule X ca op f) (ha : SE X ca W a c1) (hb : SO X ca W b c2) (hm : behindInMarks op b = false := by first | exact nomark _ | with_unfolding_all rfl) : SB X ca W (.Compare a [op] [b] pos) (eAsB (eOp f c1 c2)) := by
  obtain ⟨r, ho, hf⟩ := cr.ex
  refine ⟨(pt_cmpR ho ha.pe hb.pe hm).imp fun σ H Q ⟨P, w, ρ, h, st, k⟩ => ⟨P, w, ρ, h, st, ?_⟩⟩
  have k1 := EPost.bind k
  refine (EPost.op k1).imp fun x w1 h1 H1 l1 s1 k2 v rv => ⟨P, w1, ρ, h1, s1, k2.imp fun y w2 h2 H2 l2 s2 ⟨d, q, k3⟩ u ru => ?_⟩
  refine hf P w2 ρ h2 σ H2 x y d v u _ s2 q (Rp.mono s2.hr.fr (List.prefix_refl _) _ _ (Rep.le rv l2)) ru fun w' H' vd l s r => ?_
  obtain ⟨kb, e1, e2⟩ := (k3 w' H' l s).opt s
  exact ⟨kb, asB_rp e1 r, e2⟩
/-- the truth of what an expression gives -/
theorem truth_rp {G : Gx} {F : Hp} {iot : List Addr} {d : D} {k : Bool} {v : V} (e : dTruth d = some k) (r : Rp G F iot d v) : TruV G.K v F k := by
  cases d with
  | non => simp only [Rp] at r; subst r; cases e; rfl
  | bl b => simp only [Rp] at r; subst r; cases e; rfl
  | int i => simp only [Rp] at r; subst r; cases e; rfl
  | str x =>
    simp only [Rp] at r; subst r
    simp only [dTruth] at e
    split at e
    · rename_i z
      cases e
      exact ⟨by rw [sizeLine_eq]; exact z, rfl⟩
    · cases e
  | tup xs =>
    simp only [Rp] at r
    obtain ⟨p, vs, rfl, z, s, q⟩ := r
    cases e
    refine .inr (.inl ⟨vs, s, ?_⟩)
    have := q.length
    cases xs <;> cases vs <;> first | rfl | cases this
  | lst xs =>
    simp only [Rp] at r
    obtain ⟨p, vs, rfl, z, s, q⟩ := r
    cases e
    refine .inl ⟨vs, s, ?_⟩
    have := q.length
    cases xs <;> cases vs <;> first | rfl | cases this
  | dic xs =>
    simp only [Rp] at r
    obtain ⟨p, vs, rfl, z, s, q⟩ := r
    cases e
    refine .inr (.inr ⟨vs, s, ?_⟩)
    have := Rpk.length q
    cases xs <;> cases vs <;> first | rfl | cases this
  | obj i => cases e
  | exn c p => cases e
/-- a value's own truth: a name, a call, a subscript, an attribute .. -/
theorem sb_truth (ha : SO X ca W a c) (he : ∀ whole, isTrue a X.env whole = (do let v ← whole; standAt a.pos; holding [v] (truthy v)) := by intro _; rfl) : SB X ca W a (eTruth c) :=
  ⟨(pt_truth ha.pe he).imp fun σ H Q ⟨P, w, ρ, h, st, k⟩ => ⟨P, w, ρ, h, st, (EPost.bind k).imp fun x w1 h1 H1 l1 s1 k1 v rv => by
    obtain ⟨kb, e1, e2⟩ := k1.opt s1
    exact ⟨kb, truth_rp e1 rv, e2⟩⟩⟩
theorem sb_not (ha : SB X ca W a t) : SB X ca W (.UnaryOp .Not a pos) (bNot t) :=
  ⟨(pt_not ha.pt).imp fun σ H Q ⟨P, w, ρ, h, st, k⟩ => ⟨P, w, ρ, h, st, (EPost.bind k).imp fun x w1 h1 H1 l1 s1 k1 => k1.ret s1⟩⟩
theorem sb_w (h : SBw X ca W a t) : SB X ca W a t := ⟨h.pw.pt⟩
theorem sbw_and1 (ha : SB X ca W a t) : SBw X ca W (.BoolOp .And [a] pos) t := ⟨pw_and1 ha.pt⟩
theorem sbw_or1 (ha : SB X ca W a t) : SBw X ca W (.BoolOp .Or [a] pos) t := ⟨pw_or1 ha.pt⟩
theorem sbw_and (ha : SB X ca W a t) (hb : SBw X ca W (.BoolOp .And (b :: rest) pos) u) : SBw X ca W (.BoolOp .And (a :: b :: rest) pos) (bAnd t u) :=
  ⟨(pw_and ha.pt hb.pw).imp fun σ H Q ⟨P, w, ρ, h, st, k⟩ => ⟨P, w, ρ, h, st, (EPost.bind k).imp fun x w1 h1 H1 l1 s1 k1 => by
    cases x with
    | true => exact ⟨P, w1, ρ, h1, s1, k1⟩
    | false => exact EPost.ret (k := fun b _ _ H' => Q b H') s1 k1⟩⟩
theorem sbw_or (ha : SB X ca W a t) (hb : SBw X ca W (.BoolOp .Or (b :: rest) pos) u) : SBw X ca W (.BoolOp .Or (a :: b :: rest) pos) (bOr t u) :=
  ⟨(pw_or ha.pt hb.pw).imp fun σ H Q ⟨P, w, ρ, h, st, k⟩ => ⟨P, w, ρ, h, st, (EPost.bind k).imp fun x w1 h1 H1 l1 s1 k1 => by
    cases x with
    | true => exact EPost.ret (k := fun b _ _ H' => Q b H') s1 k1
    | false => exact ⟨P, w1, ρ, h1, s1, k1⟩⟩⟩
/-- and, or, not as values -/
def eAndV (a b : EM D) : EM D := eBind a fun x => eBind (eOpt (dTruth x)) fun k => if k = true then b else eRet x
def eOrV (a b : EM D) : EM D := eBind a fun x => eBind (eOpt (dTruth x)) fun k => if k = true then eRet x else b
def eNotV (a : EM D) : EM D := eMap (fun x => (dTruth x).map fun k => .bl (!k)) a
theorem se_one {op : BoolOp} (h : SE X ca W a c) : SE X ca W (.BoolOp op [a] pos) c := ⟨pe_one h.pe⟩
theorem se_and (ha : SE X ca W a c1) (hb : SE X ca W (.BoolOp .And (b :: rest) pos) c2) : SE X ca W (.BoolOp .And (a :: b :: rest) pos) (eAndV c1 c2) :=
  ⟨(pe_andT ha.pe hb.pe).imp fun σ H Q ⟨P, w, ρ, h, st, k⟩ => ⟨P, w, ρ, h, st, (EPost.bind k).imp fun x w1 h1 H1 l1 s1 k1 v rv => by
    have k2 := EPost.bind k1
    obtain ⟨kb, e1, k3⟩ := k2.opt s1
    refine ⟨kb, truth_rp e1 (Rp.mono s1.hr.fr (List.prefix_refl _) _ _ rv), ?_⟩
    cases kb with
    | true => exact ⟨P, w1, ρ, h1, s1, k3⟩
    | false => exact EPost.ret (k := fun d w' _ H' => ∀ v, Rep ⟨X.K, ca⟩ w' d v → Q v H') s1 k3 v rv⟩⟩
theorem se_or (ha : SE X ca W a c1) (hb : SE X ca W (.BoolOp .Or (b :: rest) pos) c2) : SE X ca W (.BoolOp .Or (a :: b :: rest) pos) (eOrV c1 c2) :=
  ⟨(pe_orT ha.pe hb.pe).imp fun σ H Q ⟨P, w, ρ, h, st, k⟩ => ⟨P, w, ρ, h, st, (EPost.bind k).imp fun x w1 h1 H1 l1 s1 k1 v rv => by
    have k2 := EPost.bind k1
    obtain ⟨kb, e1, k3⟩ := k2.opt s1
    refine ⟨kb, truth_rp e1 (Rp.mono s1.hr.fr (List.prefix_refl _) _ _ rv), ?_⟩
    cases kb with
    | true => exact EPost.ret (k := fun d w' _ H' => ∀ v, Rep ⟨X.K, ca⟩ w' d v → Q v H') s1 k3 v rv
    | false => exact ⟨P, w1, ρ, h1, s1, k3⟩⟩⟩
theorem se_not (ha : SO X ca W a c) : SE X ca W (.UnaryOp .Not a pos) (eNotV c) :=
  ⟨(pe_notT ha.pe).imp fun σ H Q ⟨P, w, ρ, h, st, k⟩ => ⟨P, w, ρ, h, st, (EPost.bind k).imp fun x w1 h1 H1 l1 s1 k1 v rv => by
    obtain ⟨d, e1, k2⟩ := k1.opt s1
    have e1 : (dTruth x).map (fun k => D.bl (!k)) = some d := e1
    cases e : dTruth x with
    | none => rw [e] at e1; cases e1
    | some kb =>
      rw [e] at e1
      cases e1
      exact ⟨kb, truth_rp e rv, k2 _ (by simp only [Rep, Rp])⟩⟩⟩
theorem se_if (ht : SB X ca W e t) (ha : SE X ca W a c1) (hb : SE X ca W b c2) : SE X ca W (.IfExp e a b pos) (eIf t c1 c2) :=
  ⟨(pe_ifExp ht.pt ha.pe hb.pe).imp fun σ H Q ⟨P, w, ρ, h, st, k⟩ => ⟨P, w, ρ, h, st, (EPost.bind k).imp fun x w1 h1 H1 l1 s1 k1 => by
    cases x with
    | true => exact ⟨P, w1, ρ, h1, s1, k1⟩
    | false => exact ⟨P, w1, ρ, h1, s1, k1⟩⟩⟩
/-- a op1 b op2 c -/
def eChain (f g : D → D → Option D) (a b c : EM D) : EM D :=
  eBind a fun x => eBind b fun y => eBind (eOpt (f x y)) fun d => eBind (asBool d) fun k => if k = true then eBind c fun z => eOpt (g y z) else eRet (.bl false)
theorem se_chain {op op' : CmpOp} (cr : CmpRule X ca op f) (cr' : CmpRule X ca op' g) (ha : SE X ca W a c1) (hb : SE X ca W b c2) (hc : SE X ca W e c3) (hm : lastMarks [op, op'] [b, e] = false := by with_unfolding_all rfl) :
    SE X ca W (.Compare a [op, op'] [b, e] pos) (eChain f g c1 c2 c3) := by
  obtain ⟨r, ho, hf⟩ := cr.ex
  obtain ⟨r', ho', hg⟩ := cr'.ex
  refine ⟨(pe_chain ho ho' ha.pe hb.pe hc.pe hm).imp fun σ H Q ⟨P, w, ρ, h, st, k⟩ => ⟨P, w, ρ, h, st, (EPost.bind k).imp fun x w1 h1 H1 l1 s1 k1 v rv =>
    ⟨P, w1, ρ, h1, s1, (EPost.bind k1).imp fun y w2 h2 H2 l2 s2 k2 u ru => ?_⟩⟩⟩
  obtain ⟨d, q, k3⟩ := (EPost.bind k2).opt s2
  refine hf P w2 ρ h2 σ H2 x y d v u _ s2 q (Rp.mono s2.hr.fr (List.prefix_refl _) _ _ (Rep.le rv l2)) (Rp.mono s2.hr.fr (List.prefix_refl _) _ _ ru) fun w' H' vd l s r => ?_
  obtain ⟨d', q', k3'⟩ := ((EPost.bind k2).le l).opt s
  rw [q] at q'
  cases q'
  obtain ⟨kb, e1, k4⟩ := (EPost.bind k3').opt s
  refine ⟨kb, asB_rp e1 r, ?_⟩
  cases kb with
  | false => exact EPost.ret (k := fun d w' _ H' => ∀ v, Rep ⟨X.K, ca⟩ w' d v → Q v H') s k4 _ (by simp only [Rep, Rp])
  | true =>
    refine ⟨P, w', ρ, h2, s, (EPost.bind k4).imp fun z w3 h3 H3 l3 s3 k5 vz rz => ?_⟩
    obtain ⟨dz, qz, _⟩ := k5.opt s3
    refine hg P w3 ρ h3 σ H3 y z dz u vz Q s3 qz (Rp.mono s3.hr.fr (List.prefix_refl _) _ _ (Rep.le (Rep.le ru l) l3)) (Rp.mono s3.hr.fr (List.prefix_refl _) _ _ rz) fun w4 H4 v4 l4 s4 r4 => ?_
    obtain ⟨d5, q5, k6⟩ := (k5.le l4).opt s4
    rw [qz] at q5
    cases q5
    exact k6 v4 r4
theorem sb_chain {op op' : CmpOp} (cr : CmpRule X ca op f) (cr' : CmpRule X ca op' g) (ha : SE X ca W a c1) (hb : SE X ca W b c2) (hc : SE X ca W e c3) (hm : lastMarks [op, op'] [b, e] = false := by with_unfolding_all rfl) :
    SB X ca W (.Compare a [op, op'] [b, e] pos) (eAsB (eChain f g c1 c2 c3)) := by
  obtain ⟨r, ho, hf⟩ := cr.ex
  obtain ⟨r', ho', hg⟩ := cr'.ex
  refine ⟨(pt_chain ho ho' ha.pe hb.pe hc.pe hm).imp fun σ H Q ⟨P, w, ρ, h, st, k⟩ => ⟨P, w, ρ, h, st, (EPost.bind (EPost.bind k)).imp fun x w1 h1 H1 l1 s1 k1 v rv =>
    ⟨P, w1, ρ, h1, s1, (EPost.bind k1).imp fun y w2 h2 H2 l2 s2 k2 u ru => ?_⟩⟩⟩
  obtain ⟨d, q, k3⟩ := (EPost.bind k2).opt s2
  refine hf P w2 ρ h2 σ H2 x y d v u _ s2 q (Rp.mono s2.hr.fr (List.prefix_refl _) _ _ (Rep.le rv l2)) (Rp.mono s2.hr.fr (List.prefix_refl _) _ _ ru) fun w' H' vd l s r => ?_
  obtain ⟨d', q', k3'⟩ := ((EPost.bind k2).le l).opt s
  rw [q] at q'
  cases q'
  obtain ⟨kb, e1, k4⟩ := (EPost.bind k3').opt s
  refine ⟨kb, asB_rp e1 r, ?_⟩
  cases kb with
  | false =>
    obtain ⟨kc, e2, k5⟩ := (EPost.ret s k4).opt s
    cases e2
    exact ⟨false, rfl, k5⟩
  | true =>
    refine ⟨P, w', ρ, h2, s, (EPost.bind k4).imp fun z w3 h3 H3 l3 s3 k5 vz rz => ?_⟩
    obtain ⟨dz, qz, _⟩ := k5.opt s3
    refine hg P w3 ρ h3 σ H3 y z dz u vz _ s3 qz (Rp.mono s3.hr.fr (List.prefix_refl _) _ _ (Rep.le (Rep.le ru l) l3)) (Rp.mono s3.hr.fr (List.prefix_refl _) _ _ rz) fun w4 H4 v4 l4 s4 r4 => ?_
    obtain ⟨d5, q5, k6⟩ := (k5.le l4).opt s4
    rw [qz] at q5
    cases q5
    obtain ⟨kc, e2, k7⟩ := k6.opt s4
    exact ⟨kc, asB_rp e2 r4, k7⟩

/-! ### subscripts -/
def dIx : D → D → Option D
  | .lst xs, .int i => atI xs i
  | .tup xs, .int i => atI xs i
  | .str z, .int i => if z.length ≤ 16777216 then (atI z.cps.toList i).map fun c => .str ⟨#[c]⟩ else none
  | _, _ => none
theorem atI_len {α β : Type} {xs : List α} {ys : List β} (h : xs.length = ys.length) {i : Int} {x : α} (e : atI xs i = some x) : ∃ j : Nat, ixN ys.length i = some j ∧ xs[j]? = some x := by
  unfold atI at e
  rw [h] at e
  cases q : ixN ys.length i with
  | none => rw [q] at e; cases e
  | some j => rw [q] at e; exact ⟨j, rfl, e⟩
theorem Rps.at {G : Gx} {F : Hp} {iot : List Addr} {ds : List D} {vs : List V} {i : Int} {d : D} (r : Rps G F iot ds vs) (e : atI ds i = some d) : ∃ v, atI vs i = some v ∧ Rp G F iot d v := by
  obtain ⟨j, h1, h2⟩ := atI_len r.length e
  obtain ⟨v, h3, h4⟩ := r.get h2
  exact ⟨v, by unfold atI; rw [h1]; exact h3, h4⟩
/-- the frozen items of what is looked at -/
theorem se_ix (ha : SE X ca W a c1) (hb : SE X ca W b c2) (hs : PlainIx b := by intro _ _; rfl) : SE X ca W (.Subscript a b pos) (eOp dIx c1 c2) :=
  ⟨(pe_ix ix_seq ha.pe hb.pe hs).imp fun σ H Q ⟨P, w, ρ, h, st, k⟩ => ⟨P, w, ρ, h, st, k.op.imp fun x w1 h1 H1 l1 s1 k1 v rv => ⟨P, w1, ρ, h1, s1, k1.imp fun y w2 h2 H2 l2 s2 ⟨d, q, k2⟩ u ru => by
    have rx := Rep.le rv l2
    have k3 := k2 w2 H2 (Wd.le.refl w2) s2
    unfold dIx at q
    split at q
    · simp only [Rep, Rp] at rx ru
      obtain ⟨p, vs, rfl, z, s, r⟩ := rx
      obtain ⟨vd, e1, e2⟩ := r.at q
      exact .inl ⟨p, vs, _, vd, rfl, ru, SqL.mono s2.hr.fr s, e1, k3 vd e2⟩
    · simp only [Rep, Rp] at rx ru
      obtain ⟨p, vs, rfl, z, s, r⟩ := rx
      obtain ⟨vd, e1, e2⟩ := r.at q
      exact .inr (.inl ⟨p, vs, _, vd, rfl, ru, SqT.mono s2.hr.fr s, e1, k3 vd e2⟩)
    · simp only [Rep, Rp] at rx ru
      split at q
      · rename_i z
        rename_i z0 i _
        cases q2 : atI z0.cps.toList i with
        | none => rw [q2] at q; cases q
        | some cc =>
          rw [q2] at q
          cases q
          exact .inr (.inr ⟨_, _, cc, rx, ru, by rw [sizeLine_eq]; exact z, q2, k3 _ (by simp only [Rep, Rp])⟩)
      · cases q
    · cases q⟩⟩⟩
/-- a cell's own container, then a second value -/
theorem own_first {i : Nat} {G : Gx} {P : Hp} {w : Wd} {ρ : Env} {h : Hh} {σ : L2.St} {H : Hp} {k : D → Wd → Hh → Hp → Prop} (st : StR G P w ρ h σ H) (e : EPost G W P w ρ σ (eOp f (eOwn i) c2 ρ h) k) :
    ∃ d p, ρ[i]? = some (.own d) ∧ σ[i]? = some (some (.ref p)) ∧ EPost G W P w ρ σ (c2 ρ h) fun y w2 h2 H2 => OwnAt G w2 d p H2 ∧ ∃ z, f d y = some z ∧ ∀ w' H', w2.le w' → StR G P w' ρ h2 σ H' → k z w' h2 H' := by
  have e1 := EPost.op e
  unfold eOwn at e1
  split at e1
  · rename_i d q
    obtain ⟨p, f1, _⟩ := st.own i d q
    refine ⟨d, p, q, f1, (e1 w H (Wd.le.refl w) st).imp fun y w2 h2 H2 l2 s2 k2 => ⟨?_, k2⟩⟩
    obtain ⟨p', g1, g2, _⟩ := s2.own i d q
    rw [f1] at g1
    cases g1
    exact g2
  · exact e1.elim
theorem OwnAt.rpH {G : Gx} {P : Hp} {w : Wd} {h : Hh} {H : Hp} {d : D} {p : Addr} (o : OwnAt G w d p H) (hr : HR G P w h H) : Rp G H w.iot d (.ref p) :=
  (o.rep (w' := ⟨H, w.iot⟩) ⟨hr.fr, List.prefix_refl _⟩ rfl : Rep G ⟨H, w.iot⟩ d (.ref p))
/-- an item of a cell's own list -/
theorem se_ixO (i : Nat) {x : Str} {xp : Pos} (hb : SE X ca W b c2) (hN : X.N[i]? = some x := by rfl) (hv : Vis X.env.scope x := by first | exact Or.inl rfl | exact Or.inr (Or.inl rfl) | exact Or.inr (Or.inr rfl))
    (hd : (x == ("__debug__" : Str)) = false := by decide) (hcd : (x == ("__classdict__" : Str)) = false := by decide) (hs : PlainIx b := by intro _ _; rfl) : SE X ca W (.Subscript (.Name x xp) b pos) (eOp dIx (eOwn i) c2) :=
  ⟨(pe_ix ix_seq (pv i hN hv hd hcd) hb.pe hs).imp fun σ H Q ⟨P, w, ρ, h, st, k⟩ => by
    obtain ⟨d, p, q, f1, k1⟩ := own_first st k
    refine ⟨.ref p, f1, P, w, ρ, h, st, k1.imp fun y w2 h2 H2 l2 s2 ⟨ow, z, qz, k2⟩ u ru => ?_⟩
    have k3 := k2 w2 H2 (Wd.le.refl w2) s2
    unfold dIx at qz
    split at qz
    · obtain ⟨vs, zz, e3, r⟩ := ow
      obtain ⟨vd, g1, g2⟩ := Rps.at r qz
      simp only [Rep, Rp] at ru
      exact .inl ⟨p, vs, _, vd, rfl, ru, SqL.of e3, g1, k3 vd g2⟩
    · exact ow.elim
    · exact ow.elim
    · cases qz⟩
theorem se_cmpO (i : Nat) {op : CmpOp} {x : Str} {xp : Pos} (cr : CmpRule X ca op f) (hb : SE X ca W b c2) (hN : X.N[i]? = some x := by rfl) (hv : Vis X.env.scope x := by first | exact Or.inl rfl | exact Or.inr (Or.inl rfl) | exact Or.inr (Or.inr rfl))
    (hd : (x == ("__debug__" : Str)) = false := by decide) (hcd : (x == ("__classdict__" : Str)) = false := by decide) (hm : behindInMarks op b = false := by first | exact nomark _ | with_unfolding_all rfl) : SE X ca W (.Compare (.Name x xp) [op] [b] pos) (eOp f (eOwn i) c2) := by
  obtain ⟨r, ho, hf⟩ := cr.ex
  refine ⟨(pe_cmpR ho (pv i hN hv hd hcd) hb.pe hm).imp fun σ H Q ⟨P, w, ρ, h, st, k⟩ => ?_⟩
  obtain ⟨d, p, q, f1, k1⟩ := own_first st k
  exact ⟨.ref p, f1, P, w, ρ, h, st, k1.imp fun y w2 h2 H2 l2 s2 ⟨ow, z, qz, k2⟩ u ru =>
    hf P w2 ρ h2 σ H2 d y z (.ref p) u Q s2 qz (ow.rpH s2.hr) (Rp.mono s2.hr.fr (List.prefix_refl _) _ _ ru) fun w' H' vd l s r => k2 w' H' l s vd r⟩
theorem sb_cmpO (i : Nat) {op : CmpOp} {x : Str} {xp : Pos} (cr : CmpRule X ca op f) (hb : SE X ca W b c2) (hN : X.N[i]? = some x := by rfl) (hv : Vis X.env.scope x := by first | exact Or.inl rfl | exact Or.inr (Or.inl rfl) | exact Or.inr (Or.inr rfl))
    (hd : (x == ("__debug__" : Str)) = false := by decide) (hcd : (x == ("__classdict__" : Str)) = false := by decide) (hm : behindInMarks op b = false := by first | exact nomark _ | with_unfolding_all rfl) : SB X ca W (.Compare (.Name x xp) [op] [b] pos) (eAsB (eOp f (eOwn i) c2)) := by
  obtain ⟨r, ho, hf⟩ := cr.ex
  refine ⟨(pt_cmpR ho (pv i hN hv hd hcd) hb.pe hm).imp fun σ H Q ⟨P, w, ρ, h, st, k⟩ => ?_⟩
  obtain ⟨d, p, q, f1, k1⟩ := own_first st (EPost.bind k)
  refine ⟨.ref p, f1, P, w, ρ, h, st, k1.imp fun y w2 h2 H2 l2 s2 ⟨ow, z, qz, k2⟩ u ru => ?_⟩
  refine hf P w2 ρ h2 σ H2 d y z (.ref p) u _ s2 qz (ow.rpH s2.hr) (Rp.mono s2.hr.fr (List.prefix_refl _) _ _ ru) fun w' H' vd l s r => ?_
  obtain ⟨kb, e1, e2⟩ := (k2 w' H' l s).opt s
  exact ⟨kb, asB_rp e1 r, e2⟩

/-! ### slices -/
def eNoPart : EM (Option Int) := eRet none
def eSomePart (c : EM D) : EM (Option Int) := eBind c fun x => eOpt (match x with | .int i => some (some i) | _ => none)
def cutD (xs : List D) (lo hi : Option Int) : List D := (xs.drop (HT.sIx xs.length 0 lo)).take (HT.sIx xs.length xs.length hi - HT.sIx xs.length 0 lo)
def dSl (x : D) (lo hi : Option Int) : Option D := match x with
  | .tup xs => some (.tup (cutD xs lo hi))
  | .lst xs => some (.lst (cutD xs lo hi))
  | .str z => if z.length ≤ 16777216 then some (.str (cutS z lo hi)) else none
  | _ => none
def eSl (c : EM D) (l u : EM (Option Int)) : EM D := eBind c fun x => eBind l fun lo => eBind u fun hi => eOpt (dSl x lo hi)
def RO' (G : Gx) (W : WX) (c : EM (Option Int)) : TO := fun σ H Q => ∃ P w ρ h, StR G P w ρ h σ H ∧ EPost G W P w ρ σ (c ρ h) fun o _ _ H' => Q o H'
structure SPt (X : Cx) (ca : Nat → Addr) (W : WX) (e : Option Expr) (c : EM (Option Int)) : Prop where
  po : PO X e (RO' ⟨X.K, ca⟩ W c)
theorem _root_.L2.PO.imp {e : Option Expr} {t t' : TO} (q : PO X e t) (k : ∀ σ H Q, t' σ H Q → t σ H Q) : PO X e t' := ⟨fun pins s σ H Q I h => q.run pins s σ H Q I (k σ H Q h)⟩
theorem spt_none : SPt X ca W none eNoPart := ⟨po_none.imp fun σ H Q ⟨P, w, ρ, h, st, k⟩ => EPost.ret (k := fun o _ _ H' => Q o H') st k⟩
theorem spt_some (h : SE X ca W e c) : SPt X ca W (some e) (eSomePart c) := ⟨(po_some h.pe).imp fun σ H Q ⟨P, w, ρ, h, st, k⟩ => ⟨P, w, ρ, h, st, (EPost.bind k).imp fun x w1 h1 H1 l1 s1 k1 v rv => by
  obtain ⟨o, e1, e2⟩ := k1.opt s1
  split at e1
  · cases e1
    simp only [Rep, Rp] at rv
    exact ⟨_, rv, e2⟩
  · cases e1⟩⟩
theorem Rps.cut {G : Gx} {F : Hp} {iot : List Addr} {ds : List D} {vs : List V} (r : Rps G F iot ds vs) (lo hi : Option Int) : Rps G F iot (cutD ds lo hi) (cutV vs lo hi) := by
  unfold cutD cutV
  rw [r.length]
  exact (r.drop _).take _
theorem slices_ok : SlR X (fun x lo hi H Q => (rSlA X.K x lo hi H Q ∨ rSlL X.K x lo hi H Q) ∨ rSlS x lo hi H Q) := (sl_tupA.or sl_list).or sl_str
/-- a[lo:hi]; of a list a new one, frozen -/
theorem se_sl {lo hi : Option Expr} {l u : EM (Option Int)} {p2 : Pos} (ha : SE X ca W a c) (hl : SPt X ca W lo l) (hu : SPt X ca W hi u) : SE X ca W (.Subscript a (.Slice lo hi none p2) pos) (eSl c l u) :=
  ⟨(pe_slice slices_ok ha.pe hl.po hu.po).imp fun σ H Q ⟨P, w, ρ, h, st, k⟩ => ⟨P, w, ρ, h, st, (EPost.bind k).imp fun x w1 h1 H1 l1 s1 k1 v rv =>
    ⟨P, w1, ρ, h1, s1, (EPost.bind k1).imp fun lo w2 h2 H2 l2 s2 k2 => ⟨P, w2, ρ, h2, s2, (EPost.bind k2).imp fun hi w3 h3 H3 l3 s3 k3 => by
      obtain ⟨d, q, k4⟩ := k3.opt s3
      have rx := Rep.le rv (l2.trans l3)
      unfold dSl at q
      split at q
      · rename_i xs
        cases q
        simp only [Rep, Rp] at rx
        obtain ⟨p, vs, rfl, z, s, r⟩ := rx
        refine .inl (.inl ⟨p, vs, rfl, SqT.mono s3.hr.fr s, fun hw => ?_, fun hw p2 n => ?_⟩)
        · refine k4 _ ?_
          simp only [Rep, Rp]
          refine ⟨p, vs, rfl, z, s, ?_⟩
          have e : cutD xs lo hi = xs := by
            unfold cutD
            rw [r.length, hw.1, hw.2, List.drop_zero, Nat.sub_zero, ← r.length, List.take_length]
          rw [e]
          exact r
        · obtain ⟨le, s4⟩ := s3.layF (o := .tup (cutV vs lo hi)) n
          obtain ⟨d', q', k5⟩ := (k3.le le).opt s4
          cases q'
          refine k5 _ ?_
          simp only [Rep, Rp]
          exact ⟨p2, _, rfl, Nat.le_trans (cutV_length _ _ _) z, SqT.of Wd.frz_same, Reps.le (r.cut lo hi) le⟩
      · cases q
        simp only [Rep, Rp] at rx
        obtain ⟨p, vs, rfl, z, s, r⟩ := rx
        refine .inl (.inr ⟨p, vs, rfl, SqL.mono s3.hr.fr s, fun p2 n => ?_⟩)
        obtain ⟨le, s4⟩ := s3.layF (o := .lst (cutV vs lo hi)) n
        obtain ⟨d', q', k5⟩ := (k3.le le).opt s4
        cases q'
        refine k5 _ ?_
        simp only [Rep, Rp]
        exact ⟨p2, _, rfl, Nat.le_trans (cutV_length _ _ _) z, SqL.of Wd.frz_same, Reps.le (r.cut lo hi) le⟩
      · split at q
        · rename_i z
          cases q
          simp only [Rep, Rp] at rx
          exact .inr ⟨_, rx, by rw [sizeLine_eq]; exact z, k4 _ (by simp only [Rep, Rp])⟩
        · cases q
      · cases q⟩⟩⟩⟩
/-- a[::-1] of a list -/
def dRev : D → Option D
  | .lst xs => some (.lst xs.reverse)
  | _ => none
theorem se_rev {k : Nat} {p1 p2 p3 : Pos} (ha : SE X ca W a c) : SE X ca W (.Subscript a (.Slice none none (some (.UnaryOp .USub (.Constant (.int 1) k p1) p2)) p3) pos) (eMap dRev c) :=
  ⟨(pe_revL ha.pe).imp fun σ H Q ⟨P, w, ρ, h, st, k⟩ => ⟨P, w, ρ, h, st, (EPost.bind k).imp fun x w1 h1 H1 l1 s1 k1 v rv => by
    obtain ⟨d, q, _⟩ := k1.opt s1
    unfold dRev at q
    split at q
    · cases q
      simp only [Rep, Rp] at rv
      obtain ⟨p, vs, rfl, z, s, r⟩ := rv
      refine ⟨p, vs, rfl, SqL.mono s1.hr.fr s, fun p2 n => ?_⟩
      obtain ⟨le, s4⟩ := s1.layF (o := .lst vs.reverse) n
      obtain ⟨d', q', k5⟩ := (k1.le le).opt s4
      cases q'
      refine k5 _ ?_
      simp only [Rep, Rp]
      exact ⟨p2, _, rfl, by rw [List.length_reverse]; exact z, SqL.of Wd.frz_same, Reps.le r.reverse le⟩
    · cases q⟩⟩
end
end PV
end

section
set_option Elab.async false
set_option linter.all false
set_option maxRecDepth 100000
set_option maxHeartbeats 1000000
/-! PV.R4: statements. -/
namespace PV
open PySem L2

/-! ### the model's words -/
def sBind {α : Type} (c : EM α) (f : α → SM) : SM := fun ρ h => match c ρ h with
  | .stuck => .stuck
  | .exc c p h' => .exc c p ρ h'
  | .ok a h' => f a ρ h'
def sNext : SM := fun ρ h => .ok .next ρ h
def sBrk : SM := fun ρ h => .ok .brk ρ h
def sCont : SM := fun ρ h => .ok .cont ρ h
def sStuck : SM := fun _ _ => .stuck
def sSeq (c d : SM) : SM := fun ρ h => match c ρ h with
  | .ok .next ρ' h' => d ρ' h'
  | r => r
def sIf (t : EM Bool) (a b : SM) : SM := sBind t fun k => if k = true then a else b
def sDrop (c : EM D) : SM := sBind c fun _ => sNext
def sRet (c : EM D) : SM := sBind c fun d ρ h => .ok (.ret d) ρ h
def sRetN (c : EM D) : SM := sBind c fun d ρ h => .ok (.retN d) ρ h
/-- a cell's own container is handed out -/
def sRetO (i : Nat) : SM := fun ρ h => match ρ[i]? with
  | some (.own d) => .ok (.retN d) (ρ.set i .un) h
  | _ => .stuck
def sSet (i : Nat) (c : EM D) : SM := sBind c fun d ρ h => .ok .next (ρ.set i (.val d)) h
def sOwn (i : Nat) (c : EM D) : SM := sBind c fun d ρ h => .ok .next (ρ.set i (.own d)) h
/-- a cell's container is frozen: no statement of the text -/
def sFrz (i : Nat) : SM := fun ρ h => match ρ[i]? with
  | some (.own d) => .ok .next (ρ.set i (.val d)) h
  | some (.val _) => .ok .next ρ h
  | _ => .stuck

structure SS (X : Cx) (ca : Nat → Addr) (W : WX) (st : Stmt) (c : SM) : Prop where
  ps : PS X st (RS ⟨X.K, ca⟩ W c)
structure SSs (X : Cx) (ca : Nat → Addr) (W : WX) (st : List Stmt) (c : SM) : Prop where
  ps : PSs X st (RS ⟨X.K, ca⟩ W c)

section
variable {G : Gx} {W : WX} {E E' : Ends} {P : Hp} {w w' : Wd} {ρ : Env} {h : Hh} {σ : L2.St} {H : Hp} {α : Type}
theorem SPost.le {r : SR} (k : SPost G W E P w r) (l : w.le w') : SPost G W E P w' r := by
  cases r with
  | stuck => exact k
  | exc c p ρ' h' => exact fun w2 σ' H' cls dx l2 => k w2 σ' H' cls dx (l.trans l2)
  | ok f ρ' h' =>
    cases f with
    | next => exact fun w2 σ' H' l2 => k w2 σ' H' (l.trans l2)
    | brk => exact fun w2 σ' H' l2 => k w2 σ' H' (l.trans l2)
    | cont => exact fun w2 σ' H' l2 => k w2 σ' H' (l.trans l2)
    | ret d => exact fun w2 σ' H' v l2 => k w2 σ' H' v (l.trans l2)
    | retN d => exact fun w2 σ' H' a l2 => k w2 σ' H' a (l.trans l2)
theorem SPost.bind {c : EM α} {f : α → SM} (k : SPost G W E P w (sBind c f ρ h)) : EPost G W P w ρ σ (c ρ h) fun a w1 h1 _ => SPost G W E P w1 (f a ρ h1) := by
  unfold sBind at k
  split at k
  · exact k.elim
  · rename_i q
    rw [q]
    exact fun w' H' cls dx => k w' σ H' cls dx
  · rename_i q
    rw [q]
    exact fun w' H' l s => k.le l
theorem SPost.seq {c d : SM} (k : SPost G W E P w (sSeq c d ρ h)) : SPost G W { E with nx := RS G W d E } P w (c ρ h) := by
  unfold sSeq at k
  split at k
  · rename_i q
    rw [q]
    exact fun w' σ' H' l s => ⟨P, w', _, _, s, k.le l⟩
  · rename_i q
    cases e : c ρ h with
    | stuck => rw [e] at k; exact k
    | exc c p ρ' h' => rw [e] at k; exact k
    | ok f ρ' h' =>
      rw [e] at k
      cases f with
      | next => exact absurd e (q _ _)
      | brk => exact k
      | cont => exact k
      | ret d => exact k
      | retN d => exact k
end
section
variable {X : Cx} {ca : Nat → Addr} {W : WX} {e a b : Expr} {st : Stmt} {sts as bs : List Stmt} {c c1 c2 : EM D} {t : EM Bool} {m m1 m2 : SM} {pos : Pos}
theorem sss_nil : SSs X ca W [] sNext := ⟨pss_nil.imp fun D σ H ⟨P, w, ρ, h, s, k⟩ => k w σ H (Wd.le.refl w) s⟩
theorem sss_cons (h1 : SS X ca W st m1) (h2 : SSs X ca W sts m2) : SSs X ca W (st :: sts) (sSeq m1 m2) := ⟨(pss_cons h1.ps h2.ps).imp fun D σ H ⟨P, w, ρ, h, s, k⟩ => ⟨P, w, ρ, h, s, k.seq⟩⟩
theorem sss_one (h1 : SS X ca W st m1) : SSs X ca W [st] m1 := ⟨pss_one h1.ps⟩
theorem ss_pass : SS X ca W (.Pass pos) sNext := ⟨ps_pass.imp fun D σ H ⟨P, w, ρ, h, s, k⟩ => k w σ H (Wd.le.refl w) s⟩
theorem ss_break : SS X ca W (.Break pos) sBrk := ⟨ps_break.imp fun D σ H ⟨P, w, ρ, h, s, k⟩ => k w σ H (Wd.le.refl w) s⟩
theorem ss_continue : SS X ca W (.Continue pos) sCont := ⟨ps_continue.imp fun D σ H ⟨P, w, ρ, h, s, k⟩ => k w σ H (Wd.le.refl w) s⟩
theorem ss_if (ht : SB X ca W e t) (ha : SSs X ca W as m1) (hb : SSs X ca W bs m2) : SS X ca W (.If e as bs pos) (sIf t m1 m2) :=
  ⟨(ps_if ht.pt ha.ps hb.ps).imp fun D σ H ⟨P, w, ρ, h, s, k⟩ => ⟨P, w, ρ, h, s, (SPost.bind k).imp fun x w1 h1 H1 l1 s1 k1 => by
    cases x with
    | true => exact ⟨P, w1, ρ, h1, s1, k1⟩
    | false => exact ⟨P, w1, ρ, h1, s1, k1⟩⟩⟩
theorem ss_expr (he : SE X ca W e c) (hs : swapsWith e none pos.line X.env = pure false := by rfl) : SS X ca W (.Expr e pos) (sDrop c) :=
  ⟨(ps_expr he.pe hs).imp fun D σ H ⟨P, w, ρ, h, s, k⟩ => ⟨P, w, ρ, h, s, (SPost.bind k).imp fun x w1 h1 H1 l1 s1 k1 v rv => k1 w1 σ H1 (Wd.le.refl _) s1⟩⟩
theorem ss_ret (he : SE X ca W e c) : SS X ca W (.Return (some e) pos) (sRet c) :=
  ⟨(ps_ret he.pe).imp fun D σ H ⟨P, w, ρ, h, s, k⟩ => ⟨P, w, ρ, h, s, (SPost.bind k).imp fun x w1 h1 H1 l1 s1 k1 v rv => k1 w1 σ H1 v (Wd.le.refl _) s1 rv⟩⟩
theorem ss_retN (he : SN X ca W e c) : SS X ca W (.Return (some e) pos) (sRetN c) :=
  ⟨(ps_ret he.pe).imp fun D σ H ⟨P, w, ρ, h, s, k⟩ => ⟨P, w, ρ, h, s, (SPost.bind k).imp fun x w1 h1 H1 l1 s1 k1 a n => k1 w1 σ H1 a (Wd.le.refl _) s1 n⟩⟩
theorem ss_retNone : SS X ca W (.Return none pos) (sRet (eRet .non)) :=
  ⟨ps_retN.imp fun D σ H ⟨P, w, ρ, h, s, k⟩ => k w σ H .non (Wd.le.refl w) s (by simp only [Rep, Rp])⟩
theorem ss_retO (i : Nat) {x : Str} {xp : Pos} (hN : X.N[i]? = some x := by rfl) (hv : Vis X.env.scope x := by first | exact Or.inl rfl | exact Or.inr (Or.inl rfl) | exact Or.inr (Or.inr rfl))
    (hd : (x == ("__debug__" : Str)) = false := by decide) (hcd : (x == ("__classdict__" : Str)) = false := by decide) : SS X ca W (.Return (some (.Name x xp)) pos) (sRetO i) :=
  ⟨(ps_ret (pv i hN hv hd hcd)).imp fun D σ H ⟨P, w, ρ, h, s, k⟩ => by
    unfold sRetO at k
    split at k
    · rename_i d q
      obtain ⟨a, e1, e2, e3, e4, e5⟩ := s.own i d q
      refine ⟨.ref a, e1, k w σ H a (Wd.le.refl w) ?_ ⟨e2, e3, e4, e5, ?_⟩⟩
      · have hl : i < ρ.length := (List.getElem?_eq_some_iff.mp q).1
        have sub : ∀ {j : Nat} {c : Cell}, c ≠ .un → (ρ.set i .un)[j]? = some c → ρ[j]? = some c := fun {j c} hc e => by
          by_cases z : i = j
          · subst z
            rw [List.getElem?_set_self hl] at e
            cases e
            exact absurd rfl hc
          · rwa [List.getElem?_set_ne z] at e
        exact ⟨s.hr, by rw [List.length_set]; exact s.len, fun j x e => s.val j x (sub (by intro z; cases z) e), fun j x e => s.own j x (sub (by intro z; cases z) e),
          fun j l x y b q1 q2 z1 z2 => s.inj j l x y b (sub (by intro z; cases z) q1) (sub (by intro z; cases z) q2) z1 z2⟩
      · intro j x e z
        have hl : i < ρ.length := (List.getElem?_eq_some_iff.mp q).1
        by_cases zz : i = j
        · subst zz
          rw [List.getElem?_set_self hl] at e
          cases e
        · rw [List.getElem?_set_ne zz] at e
          exact zz (s.inj i j d x a q e e1 z)
    · exact k.elim⟩
/-- name = value, frozen -/
theorem ss_set (i : Nat) {x : Str} {pos' : Pos} (hN : X.N.Nodup) (he : SE X ca W e c) (hi : X.N[i]? = some x := by rfl) (hx : Loc X.env.scope x := by first | exact Or.inl rfl | exact Or.inr rfl)
    (hs : swapsWith e (some (.Name x pos')) pos.line X.env = pure false := by rfl) (hf : X.fn x = true ∨ X.env.scope.names.lookup x = some .local := by first | exact .inl rfl | exact .inr rfl) : SS X ca W (.Assign [.Name x pos'] e pos) (sSet i c) :=
  ⟨(ps_set hN hi hx he.pe hs hf).imp fun D σ H ⟨P, w, ρ, h, s, k⟩ => ⟨P, w, ρ, h, s, (SPost.bind k).imp fun x w1 h1 H1 l1 s1 k1 v rv => k1 w1 _ H1 (Wd.le.refl _) (s1.setV rv)⟩⟩
/-- name = a new container, kept as the name's own -/
theorem ss_own (i : Nat) {x : Str} {pos' : Pos} (hN : X.N.Nodup) (he : SN X ca W e c) (hi : X.N[i]? = some x := by rfl) (hx : Loc X.env.scope x := by first | exact Or.inl rfl | exact Or.inr rfl)
    (hs : swapsWith e (some (.Name x pos')) pos.line X.env = pure false := by rfl) (hf : X.fn x = true ∨ X.env.scope.names.lookup x = some .local := by first | exact .inl rfl | exact .inr rfl) : SS X ca W (.Assign [.Name x pos'] e pos) (sOwn i c) :=
  ⟨(ps_set hN hi hx he.pe hs hf).imp fun D σ H ⟨P, w, ρ, h, s, k⟩ => ⟨P, w, ρ, h, s, (SPost.bind k).imp fun x w1 h1 H1 l1 s1 k1 a n => k1 w1 _ H1 (Wd.le.refl _) (s1.setO n)⟩⟩
/-- ahead of a statement a cell is frozen -/
theorem ss_frz (i : Nat) (hs : SS X ca W st m) : SS X ca W st (sSeq (sFrz i) m) :=
  ⟨hs.ps.imp fun D σ H ⟨P, w, ρ, h, s, k⟩ => by
    unfold sSeq sFrz at k
    split at k
    · rename_i r q
      split at q
      · rename_i d e
        cases q
        obtain ⟨w', l, s'⟩ := s.frzO e
        exact ⟨P, w', _, _, s', k.le l⟩
      · cases q
        exact ⟨P, w, _, _, s, k⟩
      · cases q
    · rename_i q
      split at q
      · exact absurd rfl (q _ _)
      · exact absurd rfl (q _ _)
      · rename_i z1 z2
        split at k
        · rename_i d e; exact absurd e (z1 d)
        · rename_i d e; exact absurd e (z2 d)
        · exact k.elim⟩
end
end PV
end

section
set_option Elab.async false
set_option linter.all false
set_option maxRecDepth 100000
set_option maxHeartbeats 1000000
/-! PV.R5: functions, methods, makes. -/
namespace PV
open PySem L2
open PyProof.Rows (envOfC)

abbrev P0 : Hp := fun _ => none
/-- what a callee leaves alone -/
def FCont (w : Wd) (H : Hp) (w' : Wd) (H' : Hp) : Prop :=
  w.le w' ∧ (∀ a o, H a = some o → a ∉ w.iot → H' a = some o) ∧ (∀ a ∈ w'.iot, a ∈ w.iot ∨ H a = none) ∧ (∀ a o, w'.F a = some o → w.F a = some o ∨ H a = none)
def FPost (G : Gx) (w : Wd) (H : Hp) (r : FR) (Q : VK) (E : XK) : Prop := match r with
  | .stuck => False
  | .exc c p h' => ∀ w' H' cls dx, FCont w H w' H' → HR G P0 w' h' H' → RepX G w' c p cls dx H' → E cls dx H'
  | .val d h' => ∀ w' H' v, FCont w H w' H' → HR G P0 w' h' H' → Rep G w' d v → Q v H'
  | .new d h' => ∀ w' H' a, FCont w H w' H' → HR G P0 w' h' H' → OwnAt G w' d a H' → w'.F a = none → a ∉ w'.iot → H a = none → Q (.ref a) H'
/-- the promise of a def, by its model -/
def spOf (G : Gx) (m : Fn) : Sp := fun vs H Q E => ∃ w args h, HR G P0 w h H ∧ Reps G w args vs ∧ FPost G w H (m args h) Q E

section
variable {G : Gx} {P : Hp} {w w' : Wd} {ρ : Env} {h h' : Hh} {σ : L2.St} {H H' : Hp} {a : Addr} {d : D}
theorem HR.p0 (hr : HR G P w h H) : HR G P0 w h H := ⟨hr.fr, fun _ _ e => (by cases e), fun _ _ e => (by cases e), fun _ _ => rfl, hr.fi, hr.nd, hr.len, hr.ob⟩
theorem StR.call (s : StR G P w ρ h σ H) (c : FCont w H w' H') (hr : HR G P0 w' h' H') : StR G P w' ρ h' σ H' := by
  obtain ⟨l, c1, c2, c3⟩ := c
  have hP : ∀ b o, P b = some o → b ∉ w.iot := fun b o e m => by rw [s.hr.pi b m] at e; cases e
  refine ⟨⟨hr.fr, fun b o e => c1 b o (s.hr.pr b o e) (hP b o e), fun b o e => ?_, fun b m => ?_, hr.fi, hr.nd, hr.len, hr.ob⟩, s.len, fun i x q => ?_, fun i x q => ?_, s.inj⟩
  · cases q : w'.F b with
    | none => rfl
    | some u =>
      rcases c3 b u q with z | z
      · rw [s.hr.pf b o e] at z; cases z
      · rw [s.hr.pr b o e] at z; cases z
  · rcases c2 b m with z | z
    · exact s.hr.pi b z
    · exact s.hr.notP z
  · obtain ⟨v, e1, e2⟩ := s.val i x q
    exact ⟨v, e1, e2.le l⟩
  · obtain ⟨b, e1, e2, e3, e4, e5⟩ := s.own i x q
    obtain ⟨u, e6⟩ := e2.some
    refine ⟨b, e1, (e2.le l).at ((c1 b u e6 e4).trans e6.symm), ?_, fun m => ?_, e5⟩
    · cases q2 : w'.F b with
      | none => rfl
      | some u2 =>
        rcases c3 b u2 q2 with z | z
        · rw [e3] at z; cases z
        · rw [e6] at z; cases z
    · rcases c2 b m with z | z
      · exact e4 z
      · rw [e6] at z; cases z
theorem StR.newAt (s : StR G P w ρ h σ H) (o : OwnAt G w' d a H') (f : w'.F a = none) (i : a ∉ w'.iot) (n : H a = none) : NewAt G P w' ρ σ d a H' :=
  ⟨o, f, i, s.hr.notP n, fun j e q z => by
    obtain ⟨b, e1, e2, _⟩ := s.own j e q
    obtain ⟨u, e3⟩ := e2.some
    rw [z] at e1
    cases e1
    rw [n] at e3
    cases e3⟩
end

/-! ### the body of a def -/
def fnM (n k : Nat) (body : SM) : Fn := fun args h => if args.length = n then match body (args.map .val ++ List.replicate (k - n) .un) h with
    | .stuck => .stuck
    | .exc c p _ h' => .exc c p h'
    | .ok .next _ h' => .val .non h'
    | .ok (.ret d) _ h' => .val d h'
    | .ok (.retN d) _ h' => .new d h'
    | .ok _ _ _ => .stuck
  else .stuck
/-- what the callee may not touch -/
noncomputable def prot (w : Wd) (H : Hp) : Hp := by
  classical
  exact fun a => if a ∈ w.iot then none else match w.F a with
    | some _ => none
    | none => H a
section
variable {G : Gx} {P : Hp} {w w' : Wd} {ρ : Env} {h h' : Hh} {σ : L2.St} {H H' : Hp} {a : Addr} {d : D}
theorem prot_some {o : HO} (e : prot w H a = some o) : a ∉ w.iot ∧ w.F a = none ∧ H a = some o := by
  unfold prot at e
  split at e
  · cases e
  · rename_i n
    split at e
    · cases e
    · rename_i f
      exact ⟨n, f, e⟩
theorem prot_of {o : HO} (n : a ∉ w.iot) (f : w.F a = none) (e : H a = some o) : prot w H a = some o := by
  unfold prot
  rw [if_neg n, f]
  exact e
theorem StR.cont (s0 : HR G P0 w h H) (l : w.le w') (s : StR G (prot w H) w' ρ h' σ H') : FCont w H w' H' := by
  refine ⟨l, fun b o e n => ?_, fun b m => ?_, fun b o e => ?_⟩
  · cases f : w.F b with
    | some u =>
      have := s0.fr b u f
      rw [e] at this
      cases this
      exact s.hr.fr b o (l.1 b o f)
    | none => exact s.hr.pr b o (prot_of n f e)
  · by_cases n : b ∈ w.iot
    · exact .inl n
    · cases e : H b with
      | none => exact .inr rfl
      | some o =>
        cases f : w.F b with
        | some u =>
          have := s.hr.fi b m
          rw [l.1 b u f] at this
          cases this
        | none =>
          have := s.hr.pi b m
          rw [prot_of n f e] at this
          cases this
  · cases q : H b with
    | none => exact .inr rfl
    | some u =>
      cases f : w.F b with
      | some u2 =>
        have := l.1 b u2 f
        rw [e] at this
        cases this
        exact .inl rfl
      | none =>
        by_cases n : b ∈ w.iot
        · have := s.hr.fi b (l.2.subset n)
          rw [e] at this
          cases this
        · have := s.hr.pf b u (prot_of n f q)
          rw [e] at this
          cases this
theorem map_val_get {args : List D} {n i : Nat} {x : D} (e : (args.map Cell.val ++ List.replicate n Cell.un)[i]? = some (.val x)) : args[i]? = some x := by
  by_cases z : i < args.length
  · rw [List.getElem?_append_left (by simpa using z), List.getElem?_map] at e
    cases q : args[i]? with
    | none => rw [q] at e; cases e
    | some y => rw [q] at e; cases e; rfl
  · rw [List.getElem?_append_right (by simpa using z), List.getElem?_replicate] at e
    split at e <;> cases e
theorem map_val_own {args : List D} {n i : Nat} {x : D} (e : (args.map Cell.val ++ List.replicate n Cell.un)[i]? = some (.own x)) : False := by
  by_cases z : i < args.length
  · rw [List.getElem?_append_left (by simpa using z), List.getElem?_map] at e
    cases q : args[i]? with
    | none => rw [q] at e; cases e
    | some y => rw [q] at e; cases e
  · rw [List.getElem?_append_right (by simpa using z), List.getElem?_replicate] at e
    split at e <;> cases e
theorem StR.entry {N : List Str} {args : List D} {vs : List V} (hr : HR G P0 w h H) (r : Reps G w args vs) (hn : args.length ≤ N.length) :
    StR G (prot w H) w (args.map .val ++ List.replicate (N.length - args.length) .un) h (start N vs) H where
  hr := ⟨hr.fr, fun b o e => (prot_some e).2.2, fun b o e => (prot_some e).2.1, fun b m => by
      cases e : prot w H b with
      | none => rfl
      | some o => exact absurd m (prot_some e).1, hr.fi, hr.nd, hr.len, hr.ob⟩
  len := by
    unfold L2.start
    rw [List.length_append, List.length_append, List.length_map, List.length_map, List.length_replicate, List.length_replicate, r.length]
  val := fun i x q => by
    have q' := map_val_get q
    obtain ⟨v, e1, e2⟩ := r.get q'
    refine ⟨v, ?_, e2⟩
    have hi : i < vs.length := (List.getElem?_eq_some_iff.mp e1).1
    unfold L2.start
    rw [List.getElem?_append_left (by simpa using hi), List.getElem?_map, e1]
    rfl
  own := fun i x q => (map_val_own q).elim
  inj := fun i j x y b q => (map_val_own q).elim
end
/-- THE RULE for a def -/
theorem fn_ok {Pg : Program} {wo : World} {K : PySem.W.Frag} {mg : Str → Option Value} {base : Heap} {ca : Nat → Addr} {x qual : Str} {params : Arguments} {body : List Stmt} {scope : Scope} {dvs : List V} {kws : List (Str × V)} {f : Addr} {fd : FuncData} {N ps : List Str} {k : Nat} {m : SM}
    (F : FunD K x qual params body scope dvs kws f fd) (S : FnScope N ps scope)
    (hb : ∀ (cdv : Value) (A : Around) (outer : List PySem.Env) (s : Shared) (H : Hp) (E : XK), Room k (A.deeper (envOfC qual scope s.heap.objs.size f cdv)) →
      SSs (cxOf (L2.CX Pg wo) Pg wo K mg base N qual scope f cdv A outer s H E) ca (fun cls d _ H' => E cls d H') body m) :
    FnOk Pg wo K mg base (L2.CX Pg wo) (k + 1) f fd ps (spOf ⟨K, ca⟩ (fnM ps.length N.length m)) := by
  have len : ∀ vs H Q E, spOf ⟨K, ca⟩ (fnM ps.length N.length m) vs H Q E → vs.length = ps.length := fun vs H Q E ⟨w, args, h, hr, r, p⟩ => by
    unfold fnM at p
    split at p
    · rename_i q
      rw [← q, r.length]
    · exact p.elim
  refine F.ok S len fun cdv A outer s H vs Q E hr h => ⟨_, (hb cdv A outer s H E hr).ps, ?_⟩
  have hl := len vs H Q E h
  obtain ⟨w, args, hh, hR, r, p⟩ := h
  have ha : args.length = ps.length := r.length.trans hl
  have hpl : ps.length ≤ N.length := by have := congrArg List.length S.pre; rw [List.length_take] at this; omega
  refine ⟨prot w H, w, _, hh, StR.entry (N := N) hR r (by omega), ?_⟩
  unfold fnM at p
  rw [if_pos ha] at p
  rw [← ha] at p
  revert p
  cases m (args.map .val ++ List.replicate (N.length - args.length) .un) hh with
  | stuck => exact fun p => p
  | exc c q ρ' h' => exact fun p w' σ' H' cls dx l s' x => p w' H' cls dx (s'.cont hR l) s'.hr.p0 x
  | ok fl ρ' h' =>
    cases fl with
    | next => exact fun p w' σ' H' l s' => p w' H' .non (s'.cont hR l) s'.hr.p0 (by simp only [Rep, Rp])
    | brk => exact fun p => p.elim
    | cont => exact fun p => p.elim
    | ret d => exact fun p w' σ' H' v l s' rv => p w' H' v (s'.cont hR l) s'.hr.p0 rv
    | retN d =>
      intro p w' σ' H' a l s' n
      refine p w' H' a (s'.cont hR l) s'.hr.p0 n.1 n.2.1 n.2.2.1 ?_
      cases e : H a with
      | none => rfl
      | some o =>
        have n1 : a ∉ w.iot := fun z => n.2.2.1 (l.2.subset z)
        have n2 : w.F a = none := by
          cases q : w.F a with
          | none => rfl
          | some u =>
            have := l.1 a u q
            rw [n.2.1] at this
            cases this
        have := n.2.2.2.1
        rw [prot_of n1 n2 e] at this
        cases this

/-! ### calls -/
/-- a call's outcome, frozen; as a new container -/
def eFn (m : Fn) (xs : List D) : EM D := fun _ h => match m xs h with
  | .stuck => .stuck
  | .exc c p h' => .exc c p h'
  | .val d h' => .ok d h'
  | .new d h' => .ok d h'
def eFnN (m : Fn) (xs : List D) : EM D := fun _ h => match m xs h with
  | .stuck => .stuck
  | .exc c p h' => .exc c p h'
  | .val d h' => .stuck
  | .new d h' => .ok d h'
def eCall (m : Fn) (dd : List D) (as : EM (List D)) : EM D := eBind as fun xs => eFn m (xs ++ dd)
def eCallN (m : Fn) (dd : List D) (as : EM (List D)) : EM D := eBind as fun xs => eFnN m (xs ++ dd)
section
variable {G : Gx} {W : WX} {P : Hp} {w : Wd} {ρ : Env} {h : Hh} {σ : L2.St} {H : Hp}
theorem sp_call {m : Fn} {xs : List D} {vs : List V} {Q : VK} (st : StR G P w ρ h σ H) (rs : Reps G w xs vs) (k : EPost G W P w ρ σ (eFn m xs ρ h) fun d w' _ H' => ∀ v, Rep G w' d v → Q v H') : spOf G m vs H Q (WE W σ) := by
  refine ⟨w, xs, h, st.hr.p0, rs, ?_⟩
  unfold eFn at k
  revert k
  cases m xs h with
  | stuck => exact fun k => k
  | exc c p h' => exact fun k w' H' cls dx c hr x => k w' H' cls dx c.1 (st.call c hr) x
  | val d h' => exact fun k w' H' v c hr r => k w' H' c.1 (st.call c hr) v r
  | new d h' =>
    intro k w' H' a c hr o f i n
    have nw := st.newAt o f i n
    obtain ⟨u, e⟩ := o.some
    exact k (w'.frz a u) H' (c.1.trans (Wd.frz_le f)) ((st.call c hr).frz e f i nw.2.2.2.1 nw.2.2.2.2) (.ref a) (o.rep (Wd.frz_le f) (Wd.frz_same.trans e.symm))
theorem sp_callN {m : Fn} {xs : List D} {vs : List V} {Q : VK} (st : StR G P w ρ h σ H) (rs : Reps G w xs vs) (k : EPost G W P w ρ σ (eFnN m xs ρ h) fun d w' _ H' => ∀ a, NewAt G P w' ρ σ d a H' → Q (.ref a) H') : spOf G m vs H Q (WE W σ) := by
  refine ⟨w, xs, h, st.hr.p0, rs, ?_⟩
  unfold eFnN at k
  revert k
  cases m xs h with
  | stuck => exact fun k => k
  | exc c p h' => exact fun k w' H' cls dx c hr x => k w' H' cls dx c.1 (st.call c hr) x
  | val d h' => exact fun k => k.elim
  | new d h' => exact fun k w' H' a c hr o f i n => k w' H' c.1 (st.call c hr) a (st.newAt o f i n)
end
abbrev FOk (Pg : Program) (wo : World) (K : PySem.W.Frag) (mg : Str → Option Value) (base : Heap) (ca : Nat → Addr) (k : Nat) (f : Addr) (fd : FuncData) (ps : List Str) (m : Fn) : Prop :=
  FnOk Pg wo K mg base (L2.CX Pg wo) k f fd ps (spOf ⟨K, ca⟩ m)
/-- how positional values are bound, with the defaults that fill up -/
def Bd (K : PySem.W.Frag) (ca : Nat → Addr) (fd : FuncData) (ps : List Str) (dd : List D) : Prop := ∃ ds dvs, Binds K fd ps ds ∧ Vals dvs ds ∧ ∀ F iot, Rps ⟨K, ca⟩ F iot dd dvs
/-- a def that a name of the module holds -/
def Fg (Pg : Program) (wo : World) (K : PySem.W.Frag) (mg : Str → Option Value) (base : Heap) (ca : Nat → Addr) (k : Nat) (x : Str) (m : Fn) (dd : List D) : Prop :=
  ∃ f fd ps, FOk Pg wo K mg base ca k f fd ps m ∧ mg x = some (.ref f) ∧ PySem.W.keepIn K (.ref f) = true ∧ Bd K ca fd ps dd
/-- a method of the class c -/
def Mg (Pg : Program) (wo : World) (K : PySem.W.Frag) (mg : Str → Option Value) (base : Heap) (ca : Nat → Addr) (k : Nat) (c : Nat) (x : Str) (m : Fn) (dd : List D) : Prop :=
  ∃ f fd ps, FOk Pg wo K mg base ca k f fd ps m ∧ Cls K (ca c) ∧ Meth K (ca c) x f ∧ Bd K ca fd ps dd
/-- the class c, by name, with its __init__ -/
def Ig (Pg : Program) (wo : World) (K : PySem.W.Frag) (mg : Str → Option Value) (base : Heap) (ca : Nat → Addr) (k : Nat) (c : Nat) (x : Str) (m : Fn) (dd : List D) : Prop :=
  ∃ f fd ps, FOk Pg wo K mg base ca k f fd ps m ∧ Mk K (ca c) f ∧ mg x = some (.ref (ca c)) ∧ Bd K ca fd ps dd
section
variable {X : Cx} {ca : Nat → Addr} {W : WX} {e o : Expr} {es : List Expr} {c0 : EM D} {cs : EM (List D)} {pos p apos : Pos} {k j cl : Nat} {x nm : Str} {m : Fn} {dd : List D}
theorem se_call (F : Fg X.prog X.w X.K X.mg X.base ca k x m dd) (hr : Room j X.A) (hk : k ≤ j) (tk : Takes X W) (ha : SA X ca W (e :: es) cs) (hg : Gl X x := by rfl)
    (hdb : (x == ("__debug__" : Str)) = false := by decide) (he : starEach (e :: es) X.env = (false, eval e X.env) :: starEach es X.env := by rfl) (hpl : (backTo pos (starEach es X.env)).any (·.1) = false := by rfl) :
    SE X ca W (.Call (.Name x p) (e :: es) [] pos) (eCall m dd cs) := by
  obtain ⟨f, fd, ps, F, hm, hkp, ds, dvs, hb, hd, rd⟩ := F
  exact ⟨(pe_callSD F (hr.mono hk) hg hm hkp hb hd (fun σ => passAt tk σ) ha.pa hdb he hpl).imp fun σ H Q ⟨P, w, ρ, h, st, k⟩ => ⟨P, w, ρ, h, st, k.bind.imp fun ds w1 h1 H1 l1 st1 k1 vs rs => sp_call st1 (rs.append (rd _ _)) k1⟩⟩
theorem sn_call (F : Fg X.prog X.w X.K X.mg X.base ca k x m dd) (hr : Room j X.A) (hk : k ≤ j) (tk : Takes X W) (ha : SA X ca W (e :: es) cs) (hg : Gl X x := by rfl)
    (hdb : (x == ("__debug__" : Str)) = false := by decide) (he : starEach (e :: es) X.env = (false, eval e X.env) :: starEach es X.env := by rfl) (hpl : (backTo pos (starEach es X.env)).any (·.1) = false := by rfl) :
    SN X ca W (.Call (.Name x p) (e :: es) [] pos) (eCallN m dd cs) := by
  obtain ⟨f, fd, ps, F, hm, hkp, ds, dvs, hb, hd, rd⟩ := F
  exact ⟨(pe_callSD F (hr.mono hk) hg hm hkp hb hd (fun σ => passAt tk σ) ha.pa hdb he hpl).imp fun σ H Q ⟨P, w, ρ, h, st, k⟩ => ⟨P, w, ρ, h, st, k.bind.imp fun ds w1 h1 H1 l1 st1 k1 vs rs => sp_callN st1 (rs.append (rd _ _)) k1⟩⟩
theorem pe_callSD0 {CX : CXT} {f : Addr} {fd : FuncData} {ps : List Str} {sp : Sp} {dvs : List V} {ds : List Value} {E : L2.St → XK} (F : FnOk X.prog X.w X.K X.mg X.base CX k f fd ps sp) (hr : Room k X.A) (hg : Gl X x) (hm : X.mg x = some (.ref f)) (hk : PySem.W.keepIn X.K (.ref f) = true) (hb : Binds X.K fd ps ds) (hd : Vals dvs ds) (hx : ∀ σ, PassesAt CX X σ (E σ))
    (hdb : (x == ("__debug__" : Str)) = false := by decide) : PE X (.Call (.Name x p) [] [] pos) (fun σ H Q => sp dvs H Q (E σ)) := by
  refine ⟨fun pins s σ H Q I h => ?_⟩
  refine wpAny_Call_Name_kw (ld_glob I hg hm ?_ hdb)
  exact PySem.W.callWith_K0 I.kIn hk (run_fnSD (us := []) (vs := []) F hr hb hd (hx σ) I .nil h)
theorem se_call0 (F : Fg X.prog X.w X.K X.mg X.base ca k x m dd) (hr : Room j X.A) (hk : k ≤ j) (tk : Takes X W) (hg : Gl X x := by rfl) (hdb : (x == ("__debug__" : Str)) = false := by decide) : SE X ca W (.Call (.Name x p) [] [] pos) (eCall m dd eNil) := by
  obtain ⟨f, fd, ps, F, hm, hkp, ds, dvs, hb, hd, rd⟩ := F
  exact ⟨(pe_callSD0 F (hr.mono hk) hg hm hkp hb hd (fun σ => passAt tk σ) hdb).imp fun σ H Q ⟨P, w, ρ, h, st, k⟩ => sp_call st (rd _ _) (k.bind.ret st)⟩
theorem sn_call0 (F : Fg X.prog X.w X.K X.mg X.base ca k x m dd) (hr : Room j X.A) (hk : k ≤ j) (tk : Takes X W) (hg : Gl X x := by rfl) (hdb : (x == ("__debug__" : Str)) = false := by decide) : SN X ca W (.Call (.Name x p) [] [] pos) (eCallN m dd eNil) := by
  obtain ⟨f, fd, ps, F, hm, hkp, ds, dvs, hb, hd, rd⟩ := F
  exact ⟨(pe_callSD0 F (hr.mono hk) hg hm hkp hb hd (fun σ => passAt tk σ) hdb).imp fun σ H Q ⟨P, w, ρ, h, st, k⟩ => sp_callN st (rd _ _) (k.bind.ret st)⟩
end
end PV
end

section
set_option Elab.async false
set_option linter.all false
set_option maxRecDepth 100000
set_option maxHeartbeats 1000000
/-! PV.R6: targets; objects: fields, boxes, methods, makes. -/
namespace PV
open PySem L2
open PyProof.Rows hiding St

/-! ### targets -/
abbrev TM := D → Env → Option Env
def tgV (i : Nat) : TM := fun d ρ => some (ρ.set i (.val d))
def tgAll : List TM → List D → Env → Option Env
  | [], [], ρ => some ρ
  | f :: fs, d :: ds, ρ => (f d ρ).bind (tgAll fs ds)
  | _, _, _ => none
def tgT (fs : List TM) : TM := fun d ρ => match d with
  | .tup ds => tgAll fs ds ρ
  | _ => none
/-- slots but those at vs stand -/
def Off (vs : List Nat) (σ σ' : L2.St) : Prop := σ'.length = σ.length ∧ ∀ j, j ∉ vs → σ'[j]? = σ[j]?
theorem Off.refl {vs : List Nat} {σ : L2.St} : Off vs σ σ := ⟨rfl, fun _ _ => rfl⟩
theorem Off.trans {vs vs' : List Nat} {σ σ' σ'' : L2.St} (a : Off vs σ σ') (b : Off vs' σ' σ'') : Off (vs ++ vs') σ σ'' :=
  ⟨b.1.trans a.1, fun j h => (b.2 j fun z => h (List.mem_append_right _ z)).trans (a.2 j fun z => h (List.mem_append_left _ z))⟩
def RG (G : Gx) (t : TM) (vs : List Nat) : TG := fun v σ H Q => ∃ P w ρ h d ρ', StR G P w ρ h σ H ∧ Rep G w d v ∧ t d ρ = some ρ' ∧ ∀ σ', StR G P w ρ' h σ' H → Off vs σ σ' → Q σ' H
def RGs (G : Gx) (ts : List TM) (us : List Nat) : TGs := fun vs σ H Q => ∃ P w ρ h ds ρ', StR G P w ρ h σ H ∧ Reps G w ds vs ∧ tgAll ts ds ρ = some ρ' ∧ ∀ σ', StR G P w ρ' h σ' H → Off us σ σ' → Q σ' H
def OffE (vs : List Nat) (ρ ρ' : Env) : Prop := ρ'.length = ρ.length ∧ ∀ j, j ∉ vs → ρ'[j]? = ρ[j]?
theorem OffE.trans {vs vs' : List Nat} {σ σ' σ'' : Env} (a : OffE vs σ σ') (b : OffE vs' σ' σ'') : OffE (vs ++ vs') σ σ'' :=
  ⟨b.1.trans a.1, fun j h => (b.2 j fun z => h (List.mem_append_right _ z)).trans (a.2 j fun z => h (List.mem_append_left _ z))⟩
structure SG (X : Cx) (ca : Nat → Addr) (tg : Expr) (t : TM) (vs : List Nat) : Prop where
  pg : PG X tg (RG ⟨X.K, ca⟩ t vs)
  off : ∀ d ρ ρ', t d ρ = some ρ' → OffE vs ρ ρ'
structure SGs (X : Cx) (ca : Nat → Addr) (tg : List Expr) (t : List TM) (vs : List Nat) : Prop where
  pg : PGs X tg (RGs ⟨X.K, ca⟩ t vs)
  off : ∀ ds ρ ρ', tgAll t ds ρ = some ρ' → OffE vs ρ ρ'
/-- target = value -/
def sTg (c : EM D) (t : TM) : SM := sBind c fun d ρ h => match t d ρ with
  | some ρ' => .ok .next ρ' h
  | none => .stuck
section
variable {X : Cx} {ca : Nat → Addr} {W : WX} {e tg : Expr} {es : List Expr} {c : EM D} {cs : EM (List D)} {t : TM} {ts : List TM} {vs vs' : List Nat} {pos pos' p : Pos} {i j k : Nat} {x : Str}
theorem _root_.L2.PG.imp {tg : Expr} {t t' : TG} (q : PG X tg t) (k : ∀ v σ H Q, t' v σ H Q → t v σ H Q) : PG X tg t' := ⟨fun pins s σ H v u Q I r h => q.run pins s σ H v u Q I r (k v σ H Q h)⟩
theorem _root_.L2.PGs.imp {tg : List Expr} {t t' : TGs} (q : PGs X tg t) (k : ∀ v σ H Q, t' v σ H Q → t v σ H Q) : PGs X tg t' := ⟨fun pins s σ H v u Q I r h => q.run pins s σ H v u Q I r (k v σ H Q h)⟩
theorem sg_name (i : Nat) (hN : X.N.Nodup) (hi : X.N[i]? = some x := by rfl) (hx : Loc X.env.scope x := by first | exact Or.inl rfl | exact Or.inr rfl)
    (hf : X.fn x = true ∨ X.env.scope.names.lookup x = some .local := by first | exact .inl rfl | exact .inr rfl) : SG X ca (.Name x pos) (tgV i) [i] :=
  ⟨(pg_name hN hi hx hf).imp fun v σ H Q ⟨P, w, ρ, h, d, ρ', s, r, e, k⟩ => by
    cases e
    refine k _ (s.setV r) ⟨List.length_set, fun j hj => ?_⟩
    rw [List.getElem?_set_ne fun z => hj (by rw [z]; exact List.mem_singleton.mpr rfl)], fun d ρ ρ' e => (by
    cases e
    exact ⟨List.length_set, fun j hj => by rw [List.getElem?_set_ne fun z => hj (by rw [z]; exact List.mem_singleton.mpr rfl)]⟩)⟩
theorem sgs_nil : SGs X ca [] [] [] := by
  refine ⟨pgs_nil.imp fun vs σ H Q ⟨P, w, ρ, h, ds, ρ', s, r, e, k⟩ => ?_, fun ds ρ ρ' e => ?_⟩
  · cases ds with
    | nil =>
      cases e
      simp only [Reps, Rps] at r
      exact ⟨r, k σ s Off.refl⟩
    | cons d ds => cases e
  · cases ds with
    | nil => cases e; exact ⟨rfl, fun _ _ => rfl⟩
    | cons d ds => cases e
theorem sgs_cons (h1 : SG X ca e t vs) (h2 : SGs X ca es ts vs') (hs : (assignEach (e :: es) X.env).map (·.2) = assign e X.env :: (assignEach es X.env).map (·.2) := by rfl) : SGs X ca (e :: es) (t :: ts) (vs ++ vs') := by
  refine ⟨(pgs_cons h1.pg h2.pg hs).imp fun us σ H Q ⟨P, w, ρ, h, ds, ρ', s, r, q, k⟩ => ?_, fun ds ρ ρ' q => ?_⟩
  · cases ds with
    | nil => cases q
    | cons d ds =>
      simp only [Reps, Rps] at r
      obtain ⟨v, r', rfl, ra, rb⟩ := r
      simp only [tgAll] at q
      cases e1 : t d ρ with
      | none => rw [e1] at q; cases q
      | some ρ1 =>
        rw [e1] at q
        exact ⟨v, r', rfl, P, w, ρ, h, d, ρ1, s, ra, e1, fun σ1 s1 o1 => ⟨P, w, ρ1, h, ds, ρ', s1, rb, q, fun σ2 s2 o2 => k σ2 s2 (o1.trans o2)⟩⟩
  · cases ds with
    | nil => cases q
    | cons d ds =>
      simp only [tgAll] at q
      cases e1 : t d ρ with
      | none => rw [e1] at q; cases q
      | some ρ1 =>
        rw [e1] at q
        exact (h1.off d ρ ρ1 e1).trans (h2.off ds ρ1 ρ' q)
theorem tgAll_len {ρ' : Env} : ∀ (ts : List TM) (ds : List D) (ρ : Env), tgAll ts ds ρ = some ρ' → ds.length = ts.length
  | [], [], ρ, q => rfl
  | [], d :: ds, ρ, q => by cases q
  | t :: ts, [], ρ, q => by cases q
  | t :: ts, d :: ds, ρ, q => by
    simp only [tgAll] at q
    cases e1 : t d ρ with
    | none => rw [e1] at q; cases q
    | some ρ1 =>
      rw [e1] at q
      rw [List.length_cons, List.length_cons, tgAll_len ts ds ρ1 q]
theorem sg_tup {n : Nat} (hc : X.calm = true) (h : SGs X ca es ts vs) (hn : (assignEach es X.env).length = n := by rfl) (hn2 : ts.length = n := by rfl) (hst : (assignEach es X.env).findIdx? (·.1) = none := by rfl) : SG X ca (.Tuple es k pos) (tgT ts) vs := by
  refine ⟨(pg_tup hc h.pg hn hst).imp fun v σ H Q ⟨P, w, ρ, h, d, ρ', s, r, q, k⟩ => ?_, fun d ρ ρ' q => ?_⟩
  · cases d with
    | tup ds =>
      simp only [Rep, Rp] at r
      obtain ⟨a, vs, rfl, z, f, r⟩ := r
      refine ⟨a, vs, rfl, SqT.mono s.hr.fr f, ?_, P, w, ρ, h, ds, ρ', s, r, q, k⟩
      rw [← hn2, ← r.length]
      exact tgAll_len ts ds ρ q
    | _ => cases q
  · cases d with
    | tup ds => exact h.off ds ρ ρ' q
    | _ => cases q
theorem ss_tg (he : SE X ca W e c) (hg : SG X ca tg t vs) (hs : swapsWithSole [tg] e pos.line X.env = pure false := by rfl) (hw : swappedStores [tg] e X.env = pure none := by rfl)
    (h1 : (assignEach [tg] X.env).map (·.2) = [assign tg X.env] := by rfl) : SS X ca W (.Assign [tg] e pos) (sTg c t) :=
  ⟨(ps_asg he.pe hg.pg hs hw h1).imp fun D σ H ⟨P, w, ρ, h, s, k⟩ => ⟨P, w, ρ, h, s, (SPost.bind k).imp fun d w1 h1 H1 l1 s1 k1 v rv => by
    revert k1
    cases e1 : t d ρ with
    | none => exact fun k1 => k1.elim
    | some ρ1 => exact fun k1 => ⟨P, w1, ρ, h1, d, ρ1, s1, rv, e1, fun σ' s' _ => k1 w1 σ' H1 (Wd.le.refl _) s'⟩⟩⟩
/-- a, b = x, y: stored from the right -/
def sPar (is : List Nat) (c : EM (List D)) : SM := sBind c fun ds ρ h => match tgAll (is.map tgV) ds ρ with
  | some ρ' => .ok .next ρ' h
  | none => .stuck
theorem ss_par2 (i j : Nat) {a b : Expr} {y : Str} {px py pt : Pos} {kt k2 pt2} (hc : X.calm = true) (hN : X.N.Nodup) (ha : SA X ca W [a, b] cs)
    (hi : X.N[i]? = some x := by rfl) (hj : X.N[j]? = some y := by rfl) (hij : i ≠ j := by decide)
    (hx : X.env.scope.names.lookup x = some .local := by rfl) (hy : X.env.scope.names.lookup y = some .local := by rfl)
    (hw : swappedStores [.Tuple [.Name x px, .Name y py] kt pt] (.Tuple [a, b] k2 pt2) X.env = pure (some [x, y]) := by rfl)
    (hs : swapsWithSole [.Tuple [.Name x px, .Name y py] kt pt] (.Tuple [a, b] k2 pt2) pos.line X.env = pure false := by rfl) :
    SS X ca W (.Assign [.Tuple [.Name x px, .Name y py] kt pt] (.Tuple [a, b] k2 pt2) pos) (sPar [i, j] cs) :=
  ⟨(ps_par hc hN hi hj hij hx hy ha.pa hw hs).imp fun D σ H ⟨P, w, ρ, h, s, k⟩ => ⟨P, w, ρ, h, s, (SPost.bind k).imp fun ds w1 h1 H1 l1 s1 k1 vs rs => by
    match ds, rs, k1 with
    | [], rs, k1 => exact k1.elim
    | [d], rs, k1 => exact k1.elim
    | d1 :: d2 :: d3 :: r, rs, k1 => exact k1.elim
    | [d1, d2], rs, k1 =>
      simp only [Reps, Rps] at rs
      obtain ⟨v1, r1, rfl, q1, v2, r2, rfl, q2, rfl⟩ := rs
      exact ⟨v1, v2, rfl, k1 w1 _ H1 (Wd.le.refl _) ((s1.setV q1).setV q2)⟩⟩⟩
end

/-! ### three targets -/
section
variable {X : Cx} {ca : Nat → Addr} {W : WX} {cs : EM (List D)} {pos : Pos} {i j l : Nat} {x y z : Str} {a b c : Expr} {ta : TA} {px py pz pt : Pos} {kt k2 pt2}
def tPar3 (i j l : Nat) (ta : TA) : TS := fun D σ H => ta σ H fun vs H1 => ∃ v w u, vs = [v, w, u] ∧ D.nx (((σ.set l (some u)).set j (some w)).set i (some v)) H1
theorem ps_par3 (hc : X.calm = true) (hN : X.N.Nodup) (hi : X.N[i]? = some x) (hj : X.N[j]? = some y) (hl : X.N[l]? = some z)
    (hx : X.env.scope.names.lookup x = some .local) (hy : X.env.scope.names.lookup y = some .local) (hz : X.env.scope.names.lookup z = some .local) (ha : PA X [a, b, c] ta)
    (hw : swappedStores [.Tuple [.Name x px, .Name y py, .Name z pz] kt pt] (.Tuple [a, b, c] k2 pt2) X.env = pure (some [x, y, z]))
    (hs : swapsWithSole [.Tuple [.Name x px, .Name y py, .Name z pz] kt pt] (.Tuple [a, b, c] k2 pt2) pos.line X.env = pure false := by rfl) :
    PS X (.Assign [.Tuple [.Name x px, .Name y py, .Name z pz] kt pt] (.Tuple [a, b, c] k2 pt2) pos) (tPar3 i j l ta) := by
  refine ⟨fun pins s σ H D I h => ?_⟩
  rw [exec_Assign_arm]
  refine wpAny_bind (wpAny_standAt ?_)
  rw [hs]
  refine wpAny_bind (wpAny_pure ?_)
  rw [if_neg (by decide)]
  refine wpAny_bind (Tuple_ (thn (ha.run _ pins s σ H _ I h) fun us s1 ⟨vs, H1, I1, r1, q1⟩ => ?_))
  obtain ⟨v, w, u, e1, q1⟩ := q1
  subst e1
  obtain ⟨u1, u2, u3, rfl, rv, rw', ru⟩ : ∃ u1 u2 u3, us = [u1, u2, u3] ∧ RelV v u1 ∧ RelV w u2 ∧ RelV u u3 := by
    cases r1 with
    | cons p q =>
      cases q with
      | cons p' q' =>
        cases q' with
        | cons p2 q2 =>
          cases q2
          exact ⟨_, _, _, rfl, p, p', p2⟩
  refine wpAny_newObj_type ?_ (by show 3 ≤ sizeLine; decide)
  have I2 : Inv X pins σ H1 { s1 with heap := s1.heap.push { cls := .type "tuple", data := .seq [u1, u2, u3].toArray } } := I1.kept (t' := s1.toks) fun b o e => Heap.get?_push_of_some _ e
  rw [hw]
  refine wpAny_bind (wpAny_pure ?_)
  show wpAny (model X.prog X.w) X.A (do rule "assign.swapped-stores"; let items ← unpackItems (.ref s1.heap.objs.size) 3 none; assignInOrder [fun v => bindName X.env z v, fun v => bindName X.env y v, fun v => bindName X.env x v] items.reverse; pure Flow.next) _ _ _
  refine wpAny_bind (wpAny_rule (wpAny_bind (unpackItems_tuple (items := #[u1, u2, u3]) (I.ok.hd hc) (IsTup.new s1.heap _) fun h' hx' => ?_)))
  have I3 := I2.kept (h' := h') (t' := s1.toks) fun b o e => hx' b o (Nat.ne_of_lt (Heap.lt_size e)) e
  show wpAny _ _ (assignInOrder [fun v => bindName X.env z v, fun v => bindName X.env y v, fun v => bindName X.env x v] [u3, u2, u1] >>= fun _ => pure Flow.next) _ _ _
  refine wpAny_bind (assignInOrder_cons (wpAny_bindName (store_ok I3 hN hl (.inl hz) ru (fun s2 I4 => ?_) (.inr hz))))
  refine assignInOrder_cons (wpAny_bindName (store_ok I4 hN hj (.inl hy) rw' (fun s3 I5 => ?_) (.inr hy)))
  refine assignInOrder_cons (wpAny_bindName (store_ok I5 hN hi (.inl hx) rv (fun s4 I6 => assignInOrder_nil (wpAny_pure ?_)) (.inr hx)))
  exact ⟨_, H1, I6, q1⟩
theorem set_set3 {α : Type} (σ : List α) (i j l : Nat) (v w u : α) (h1 : i ≠ j) (h2 : i ≠ l) (h3 : j ≠ l) : ((σ.set l u).set j w).set i v = ((σ.set i v).set j w).set l u := by
  rw [List.set_comm _ _ (Ne.symm h3), List.set_comm _ _ (Ne.symm h2), List.set_comm _ _ (Ne.symm h1)]
theorem ss_par3 (i j l : Nat) (hc : X.calm = true) (hN : X.N.Nodup) (ha : SA X ca W [a, b, c] cs)
    (hi : X.N[i]? = some x := by rfl) (hj : X.N[j]? = some y := by rfl) (hl : X.N[l]? = some z := by rfl) (hij : i ≠ j := by decide) (hil : i ≠ l := by decide) (hjl : j ≠ l := by decide)
    (hx : X.env.scope.names.lookup x = some .local := by rfl) (hy : X.env.scope.names.lookup y = some .local := by rfl) (hz : X.env.scope.names.lookup z = some .local := by rfl)
    (hw : swappedStores [.Tuple [.Name x px, .Name y py, .Name z pz] kt pt] (.Tuple [a, b, c] k2 pt2) X.env = pure (some [x, y, z]) := by rfl)
    (hs : swapsWithSole [.Tuple [.Name x px, .Name y py, .Name z pz] kt pt] (.Tuple [a, b, c] k2 pt2) pos.line X.env = pure false := by rfl) :
    SS X ca W (.Assign [.Tuple [.Name x px, .Name y py, .Name z pz] kt pt] (.Tuple [a, b, c] k2 pt2) pos) (sPar [i, j, l] cs) :=
  ⟨(ps_par3 hc hN hi hj hl hx hy hz ha.pa hw hs).imp fun D σ H ⟨P, w, ρ, h, s, k⟩ => ⟨P, w, ρ, h, s, (SPost.bind k).imp fun ds w1 h1 H1 l1 s1 k1 vs rs => by
    match ds, rs, k1 with
    | [], rs, k1 => exact k1.elim
    | [d], rs, k1 => exact k1.elim
    | [d, d2], rs, k1 => exact k1.elim
    | d1 :: d2 :: d3 :: d4 :: r, rs, k1 => exact k1.elim
    | [d1, d2, d3], rs, k1 =>
      simp only [Reps, Rps] at rs
      obtain ⟨v1, r1, rfl, q1, v2, r2, rfl, q2, v3, r3, rfl, q3, rfl⟩ := rs
      refine ⟨v1, v2, v3, rfl, ?_⟩
      rw [set_set3 _ _ _ _ _ _ _ hij hil hjl]
      exact k1 w1 _ H1 (Wd.le.refl _) (((s1.setV q1).setV q2).setV q3)⟩⟩
end

/-! ### objects -/
section
variable {G : Gx} {P : Hp} {w w' : Wd} {ρ : Env} {h : Hh} {σ : L2.St} {H H' : Hp} {a p : Addr} {o : HO} {d : D} {x : Ob} {i : Nat}
/-- an object is written -/
theorem HR.setOb (hr : HR G P w h H) (ei : w.iot[i]? = some a) (n : ObAt G w x a (upd H a o)) : HR G P w (h.set i x) (upd H a o) := by
  have hm := List.mem_of_getElem? ei
  have fi := hr.fi a hm
  have pi := hr.pi a hm
  refine ⟨fun b u e => ?_, fun b u e => ?_, hr.pf, hr.pi, hr.fi, hr.nd, by rw [List.length_set]; exact hr.len, fun j y b e1 e2 => ?_⟩
  · rw [upd_ne fun z => by rw [z, fi] at e; cases e]
    exact hr.fr b u e
  · rw [upd_ne fun z => by rw [z, pi] at e; cases e]
    exact hr.pr b u e
  · by_cases z : i = j
    · subst z
      have hi : i < h.length := by rw [hr.len]; exact (List.getElem?_eq_some_iff.mp ei).1
      rw [List.getElem?_set_self hi] at e1
      cases e1
      rw [ei] at e2
      cases e2
      exact n
    · rw [List.getElem?_set_ne z] at e1
      refine (hr.ob j y b e1 e2).at (upd_ne fun zz => ?_)
      subst zz
      obtain ⟨h1, h2⟩ := List.getElem?_eq_some_iff.mp ei
      obtain ⟨h3, h4⟩ := List.getElem?_eq_some_iff.mp e2
      exact z ((List.getElem_inj hr.nd).mp (h2.trans h4.symm))
theorem StR.setOb (s : StR G P w ρ h σ H) (ei : w.iot[i]? = some a) (n : ObAt G w x a (upd H a o)) : StR G P w ρ (h.set i x) σ (upd H a o) where
  hr := s.hr.setOb ei n
  len := s.len
  val := s.val
  own := fun j y q => by
    obtain ⟨b, e1, e2, e3, e4, e5⟩ := s.own j y q
    exact ⟨b, e1, e2.at (upd_ne fun z => e4 (by rw [z]; exact List.mem_of_getElem? ei)), e3, e4, e5⟩
  inj := s.inj
/-- an address becomes an object -/
abbrev Wd.ob (w : Wd) (a : Addr) : Wd := ⟨w.F, w.iot ++ [a]⟩
theorem Wd.ob_le : w.le (w.ob a) := ⟨fun _ _ e => e, List.prefix_append _ _⟩
theorem HR.newOb (hr : HR G P w h H) (n : ObAt G w x a H) (f : w.F a = none) (i : a ∉ w.iot) (pn : P a = none) : HR G P (w.ob a) (h ++ [x]) H where
  fr := hr.fr
  pr := hr.pr
  pf := hr.pf
  pi := fun b m => by
    rcases List.mem_append.mp m with z | z
    · exact hr.pi b z
    · rw [List.mem_singleton.mp z]; exact pn
  fi := fun b m => by
    rcases List.mem_append.mp m with z | z
    · exact hr.fi b z
    · rw [List.mem_singleton.mp z]; exact f
  nd := List.nodup_append.mpr ⟨hr.nd, by simp, fun b hb c hc e => i (by rw [← List.mem_singleton.mp hc, ← e]; exact hb)⟩
  len := by rw [List.length_append, List.length_append, hr.len]; rfl
  ob := fun j y b e1 e2 => by
    by_cases z : j < h.length
    · rw [List.getElem?_append_left z] at e1
      rw [List.getElem?_append_left (by rw [← hr.len]; exact z)] at e2
      exact (hr.ob j y b e1 e2).le Wd.ob_le
    · rw [List.getElem?_append_right (by omega)] at e1
      rw [List.getElem?_append_right (by rw [← hr.len]; omega), ← hr.len] at e2
      cases q : j - h.length with
      | zero =>
        rw [q] at e1 e2
        cases e1
        cases e2
        exact n.le Wd.ob_le
      | succ m =>
        rw [q] at e1
        cases e1
theorem StR.newOb (s : StR G P w ρ h σ H) (n : ObAt G w x a H) (f : w.F a = none) (i : a ∉ w.iot) (pn : P a = none) (no : ∀ (i : Nat) (e : D), ρ[i]? = some (.own e) → σ[i]? ≠ some (some (.ref a))) : StR G P (w.ob a) ρ (h ++ [x]) σ H where
  hr := s.hr.newOb n f i pn
  len := s.len
  val := fun j y q => by
    obtain ⟨v, e1, e2⟩ := s.val j y q
    exact ⟨v, e1, e2.le Wd.ob_le⟩
  own := fun j y q => by
    obtain ⟨b, e1, e2, e3, e4, e5⟩ := s.own j y q
    refine ⟨b, e1, e2.le Wd.ob_le, e3, fun m => ?_, e5⟩
    rcases List.mem_append.mp m with z | z
    · exact e4 z
    · exact no j y q (by rw [← List.mem_singleton.mp z]; exact e1)
  inj := s.inj
theorem rep_ob (l : List Addr) : Rep G ⟨w.F, l ++ [a]⟩ (.obj l.length) (.ref a) := by
  simp only [Rep, Rp]
  exact ⟨a, rfl, by simp⟩
end
/-- a look at the objects -/
def eSee {α β : Type} (f : α → Hh → Option β) (c : EM α) : EM β := eBind c fun d _ h => match f d h with
  | some b => .ok b h
  | none => .stuck
/-- a new container becomes an object -/
def eObj (c : EM D) : EM D := eBind c fun d _ h => .ok (.obj h.length) (h ++ [.box d])
def boxD (d : D) (h : Hh) : Option D := match d with
  | .obj i => match h[i]? with
    | some (.box x) => some x
    | _ => none
  | _ => none
def fldD (c : Nat) (f : Str) (d : D) (h : Hh) : Option D := match d with
  | .obj i => match h[i]? with
    | some (.ins k fs) => if k = c then fs.lookup f else none
    | _ => none
  | _ => none
/-- o has no own field m; o itself -/
def recD (c : Nat) (m : Str) (d : D) (h : Hh) : Option D := match d with
  | .obj i => match h[i]? with
    | some (.ins k fs) => if k = c ∧ fs.lookup m = none then some d else none
    | _ => none
  | _ => none
def putD (f : Str) (d : D) : List (Str × D) → List (Str × D)
  | [] => [(f, d)]
  | (g, e) :: r => if g = f then (f, d) :: r else (g, e) :: putD f d r
def setD (c : Nat) (f : Str) (d y : D) (h : Hh) : Option Hh := match d with
  | .obj i => match h[i]? with
    | some (.ins k fs) => if k = c ∧ fs.length < 1000 then some (h.set i (.ins c (putD f y fs))) else none
    | _ => none
  | _ => none
section
variable {G : Gx} {W : WX} {P : Hp} {w w' : Wd} {ρ : Env} {h : Hh} {σ : L2.St} {H H' : Hp} {a p : Addr} {d : D} {α β : Type}
theorem EPost.see {f : α → Hh → Option β} {c : EM α} {k : β → Wd → Hh → Hp → Prop} (e : EPost G W P w ρ σ (eSee f c ρ h) k) :
    EPost G W P w ρ σ (c ρ h) fun d w' h' H' => ∃ b, f d h' = some b ∧ k b w' h' H' := by
  unfold eSee at e
  refine e.bind.imp fun d w1 h1 H1 l1 s1 k1 => ?_
  cases q : f d h1 with
  | none => rw [q] at k1; exact k1.elim
  | some b =>
    rw [q] at k1
    exact ⟨b, rfl, k1 w1 H1 (Wd.le.refl _) s1⟩
theorem FRel.look {w : Wd} {f : Str} : ∀ {ds : List (Str × D)} {vs : List (Str × V)}, FRel G w ds vs → (∀ d, ds.lookup f = some d → ∃ v, vs.lookup f = some v ∧ Rep G w d v) ∧ (ds.lookup f = none → vs.lookup f = none)
  | [], vs, q => by
    have e : vs = [] := q
    subst e
    exact ⟨fun d e => (by cases e), fun _ => rfl⟩
  | (n, x) :: ds, vs, q => by
    obtain ⟨v, r, rfl, a, b⟩ := q
    have ih := FRel.look (f := f) b
    by_cases z : f == n
    · simp only [List.lookup, z]
      exact ⟨fun d e => (by cases e; exact ⟨v, rfl, a⟩), fun e => (by cases e)⟩
    · simp only [List.lookup, z]
      exact ih
theorem FRel.len {w : Wd} : ∀ {ds : List (Str × D)} {vs : List (Str × V)}, FRel G w ds vs → ds.length = vs.length
  | [], vs, q => by
    have e : vs = [] := q
    subst e
    rfl
  | (n, x) :: ds, vs, q => by
    obtain ⟨v, r, rfl, a, b⟩ := q
    rw [List.length_cons, List.length_cons, FRel.len b]
theorem fldD_some {c : Nat} {f : Str} {y : D} (e : fldD c f d h = some y) : ∃ i fs, d = .obj i ∧ h[i]? = some (.ins c fs) ∧ fs.lookup f = some y := by
  unfold fldD at e
  split at e
  · split at e
    · split at e
      · rename_i i _ k fs q z
        subst z
        exact ⟨i, fs, rfl, q, e⟩
      · cases e
    · cases e
  · cases e
theorem recD_some {c : Nat} {m : Str} {y : D} (e : recD c m d h = some y) : y = d ∧ ∃ i fs, d = .obj i ∧ h[i]? = some (.ins c fs) ∧ fs.lookup m = none := by
  unfold recD at e
  split at e
  · split at e
    · split at e
      · rename_i i _ k fs q z
        obtain ⟨z, z2⟩ := z
        subst z
        cases e
        exact ⟨rfl, i, fs, rfl, q, z2⟩
      · cases e
    · cases e
  · cases e
theorem boxD_some {y : D} (e : boxD d h = some y) : ∃ i, d = .obj i ∧ h[i]? = some (.box y) := by
  unfold boxD at e
  split at e
  · split at e
    · rename_i i _ x q
      cases e
      exact ⟨i, rfl, q⟩
    · cases e
  · cases e
theorem rp_obj {F : Hp} {iot : List Addr} {i : Nat} {v : V} (r : Rp G F iot (.obj i) v) : ∃ a, v = .ref a ∧ iot[i]? = some a := by simpa only [Rp] using r
end
section
variable {X : Cx} {ca : Nat → Addr} {W : WX} {e o : Expr} {es : List Expr} {c c1 c2 : EM D} {cs : EM (List D)} {pos pos' apos p : Pos} {k j cl : Nat} {f m x : Str} {mf : Fn} {dd : List D}
theorem se_obj (h : SN X ca W e c) : SE X ca W e (eObj c) := ⟨h.pe.imp fun σ H Q ⟨P, w, ρ, h, st, k⟩ => ⟨P, w, ρ, h, st, (EPost.bind k).imp fun d w1 h1 H1 l1 s1 k1 a n => by
  have q := rep_ob (G := ⟨X.K, ca⟩) (w := w1) (a := a) w1.iot
  rw [← s1.hr.len] at q
  exact k1 (w1.ob a) H1 Wd.ob_le (s1.newOb (x := .box d) n.1 n.2.1 n.2.2.1 n.2.2.2.1 n.2.2.2.2) (.ref a) q⟩⟩
theorem so_box (h : SE X ca W e c) : SO X ca W e (eSee boxD c) := ⟨h.pe.imp fun σ H Q ⟨P, w, ρ, h, st, k⟩ => ⟨P, w, ρ, h, st, k.see.imp fun d w1 h1 H1 l1 s1 ⟨y, q, k1⟩ v r => by
  obtain ⟨i, rfl, e⟩ := boxD_some q
  obtain ⟨a, rfl, ea⟩ := rp_obj r
  exact k1 (.ref a) (OwnAt.rpH (s1.hr.ob i _ a e ea) s1.hr)⟩⟩
/-- o.f -/
theorem se_fld (cl : Nat) (c0 : Cls X.K (ca cl)) (n : NoAttr X.K (ca cl) f) (he : SE X ca W e c) (hb : attributeBase e f X.env (eval e X.env) = eval e X.env := by rfl) : SE X ca W (.Attribute e f pos) (eSee (fldD cl f) c) :=
  ⟨(pe_fld he.pe hb).imp fun σ H Q ⟨P, w, ρ, h, st, k⟩ => ⟨P, w, ρ, h, st, k.see.imp fun d w1 h1 H1 l1 s1 ⟨y, q, k1⟩ v r => by
    obtain ⟨i, fs, rfl, e, l⟩ := fldD_some q
    obtain ⟨a, rfl, ea⟩ := rp_obj r
    obtain ⟨dx, vs, e2, fr⟩ := s1.hr.ob i _ a e ea
    obtain ⟨v, l2, rv⟩ := fr.look.1 y l
    exact ⟨a, ca cl, dx, vs, v, rfl, e2, c0, n, l2, k1 v rv⟩⟩⟩
theorem FRel.put {G : Gx} {w : Wd} {f : Str} {y : D} {v : V} (r : Rep G w y v) : ∀ {ds : List (Str × D)} {vs : List (Str × V)}, FRel G w ds vs → FRel G w (putD f y ds) (putF f v vs)
  | [], vs, q => by
    have e : vs = [] := q
    subst e
    exact ⟨v, [], rfl, r, rfl⟩
  | (n, x) :: ds, vs, q => by
    obtain ⟨u, t, rfl, a, b⟩ := q
    unfold putD putF
    by_cases z : n = f
    · rw [if_pos z]
      first
        | rw [if_pos z]
        | (have z2 : (n == f) = true := by simpa using z
           simp only [z2, if_true])
      subst z
      exact ⟨v, t, rfl, r, b⟩
    · rw [if_neg z]
      first
        | rw [if_neg z]
        | (have z2 : (n == f) = false := by simpa using z
           simp only [z2, Bool.false_eq_true, if_false])
      exact ⟨u, _, rfl, a, FRel.put r b⟩
/-- o.f = value -/
def sFld (cl : Nat) (f : Str) (c v : EM D) : SM := sBind v fun y => sBind c fun d ρ h => match setD cl f d y h with
  | some h' => .ok .next ρ h'
  | none => .stuck
theorem ss_fld (cl : Nat) (c0 : Cls X.K (ca cl)) (n : NoAttr X.K (ca cl) f) (ho : SE X ca W o c1) (hv : SE X ca W e c2) (hs : swapsWith e (some (.Attribute o f pos')) pos.line X.env = pure false := by rfl) : SS X ca W (.Assign [.Attribute o f pos'] e pos) (sFld cl f c1 c2) :=
  ⟨(ps_fld ho.pe hv.pe hs).imp fun D σ H ⟨P, w, ρ, h, s, k⟩ => ⟨P, w, ρ, h, s, (SPost.bind k).imp fun y w1 h1 H1 l1 s1 k1 u ru => ⟨P, w1, ρ, h1, s1, (SPost.bind k1).imp fun d w2 h2 H2 l2 s2 k2 v r => by
    cases q : setD cl f d y h2 with
    | none => rw [q] at k2; exact k2.elim
    | some h' =>
      rw [q] at k2
      unfold setD at q
      split at q
      · split at q
        · split at q
          · rename_i i _ kk fs e z
            obtain ⟨z, z2⟩ := z
            subst z
            cases q
            obtain ⟨a, rfl, ea⟩ := rp_obj r
            obtain ⟨dx, vs, e2, fr⟩ := s2.hr.ob i _ a e ea
            refine ⟨a, ca kk, dx, vs, rfl, e2, c0, n, by rw [← fr.len]; exact z2, ?_⟩
            exact k2 w2 σ _ (Wd.le.refl _) (s2.setOb ea ⟨dx, _, upd_same, fr.put (Rep.le ru l2)⟩)
          · cases q
        · cases q
      · cases q⟩⟩⟩
/-- o.m(..) -/
def eMeth (cl : Nat) (m : Str) (mf : Fn) (dd : List D) (o : EM D) (as : EM (List D)) : EM D := eBind (eSee (recD cl m) o) fun d => eBind as fun xs => eFn mf (d :: (xs ++ dd))
def eMethN (cl : Nat) (m : Str) (mf : Fn) (dd : List D) (o : EM D) (as : EM (List D)) : EM D := eBind (eSee (recD cl m) o) fun d => eBind as fun xs => eFnN mf (d :: (xs ++ dd))
def tMethS (C : Addr) (m : Str) (sp : Sp) (dvs : List V) (E : L2.St → XK) (ta : TE) (t : TA) : TE := fun σ H Q => ta σ H fun x H1 => ∃ a dx fs, x = .ref a ∧ H1 a = some (.ins C dx fs) ∧ fs.lookup m = none ∧
  t σ H1 fun vs H2 => sp (x :: (vs ++ dvs)) H2 Q (E σ)
theorem pe_methSD {CX : CXT} {g C : Addr} {fd : FuncData} {ps : List Str} {sp : Sp} {dvs : List V} {ds : List Value} {E : L2.St → XK} {ta : TE} {t : TA} {pl : Sem Bool} (he : PE X o ta) (c : Cls X.K C) (hm : Meth X.K C m g) (F : FnOk X.prog X.w X.K X.mg X.base CX k g fd ps sp) (hr : Room k X.A) (hb : Binds X.K fd ps ds) (hd : Vals dvs ds)
    (hx : ∀ σ, PassesAt CX X σ (E σ)) (ha : PA X (e :: es) t)
    (hst : starEach (e :: es) X.env = (false, eval e X.env) :: starEach es X.env := by rfl) (hpl : (backTo pos (starEach es X.env)).any (·.1) = false := by rfl)
    (ht : eval (.Call (.Attribute o m apos) (e :: es) [] pos) X.env = (do
      let ov ← eval o X.env
      standAt apos.atName
      let (f, first) ← holding [ov] (getMethod ov m pl)
      callWith pos f first (backTo pos (starEach (e :: es) X.env)) (backToKw pos (keywordEach [] X.env))) := by rfl) :
    PE X (.Call (.Attribute o m apos) (e :: es) [] pos) (tMethS C m sp dvs E ta t) := by
  refine ⟨fun pins s σ H Q I h => ?_⟩
  refine PySem.W.methodCall_KW (pl := pl) (thn (he.run pins s σ H _ I h) fun u s1 ⟨x, H1, I1, rx, a, dx, fs, ex, ea, l, q⟩ => ?_) ht
  subst ex
  obtain rfl : u = Value.ref a := rx
  refine getmeth_ok I1 ea c hm l ?_
  refine PySem.W.callWith_K (first := [.ref a]) (h₀ := X.base) I.ok.mod.kin hm.kp (thn (ha.run pos pins s1 σ H1 _ I1 q) fun us s2 ⟨vs, H2, I2, r, q2⟩ => ⟨I2.kIn, ?_⟩) hst hpl
  exact run_fnSD (us := .ref a :: us) (vs := .ref a :: vs) F hr hb hd (hx σ) I2 (.cons rfl r) q2
theorem pe_methSD0 {CX : CXT} {g C : Addr} {fd : FuncData} {ps : List Str} {sp : Sp} {dvs : List V} {ds : List Value} {E : L2.St → XK} {ta : TE} {pl : Sem Bool} (he : PE X o ta) (c : Cls X.K C) (hm : Meth X.K C m g) (F : FnOk X.prog X.w X.K X.mg X.base CX k g fd ps sp) (hr : Room k X.A) (hb : Binds X.K fd ps ds) (hd : Vals dvs ds)
    (hx : ∀ σ, PassesAt CX X σ (E σ))
    (ht : eval (.Call (.Attribute o m apos) [] [] pos) X.env = (do
      let ov ← eval o X.env
      standAt apos.atName
      let (f, first) ← holding [ov] (getMethod ov m pl)
      callWith pos f first (backTo pos (starEach [] X.env)) (backToKw pos (keywordEach [] X.env))) := by rfl) :
    PE X (.Call (.Attribute o m apos) [] [] pos) (tMethS C m sp dvs E ta tNil) := by
  refine ⟨fun pins s σ H Q I h => ?_⟩
  refine PySem.W.methodCall_KW (pl := pl) (thn (he.run pins s σ H _ I h) fun u s1 ⟨x, H1, I1, rx, a, dx, fs, ex, ea, l, q⟩ => ?_) ht
  subst ex
  obtain rfl : u = Value.ref a := rx
  refine getmeth_ok I1 ea c hm l ?_
  exact PySem.W.callWith_K0 (first := [.ref a]) I1.kIn hm.kp (run_fnSD (us := [.ref a]) (vs := [.ref a]) F hr hb hd (hx σ) I1 (.cons rfl .nil) q)
theorem rec_pre {P : Hp} {w : Wd} {ρ : Env} {h : Hh} {σ : L2.St} {H : Hp} {d b : D} {v : V} (s : StR ⟨X.K, ca⟩ P w ρ h σ H) (q : recD cl m d h = some b) (r : Rep ⟨X.K, ca⟩ w d v) :
    b = d ∧ ∃ a dx fs, v = .ref a ∧ H a = some (.ins (ca cl) dx fs) ∧ fs.lookup m = none := by
  obtain ⟨rfl, i, fs, rfl, e, l⟩ := recD_some q
  obtain ⟨a, rfl, ea⟩ := rp_obj r
  obtain ⟨dx, vs, e2, fr⟩ := s.hr.ob i _ a e ea
  exact ⟨rfl, a, dx, vs, rfl, e2, fr.look.2 l⟩
theorem se_meth (cl : Nat) (M : Mg X.prog X.w X.K X.mg X.base ca k cl m mf dd) (hr : Room j X.A) (hk : k ≤ j) (tk : Takes X W) (ho : SE X ca W o c) (ha : SA X ca W (e :: es) cs) {pl : Sem Bool}
    (hst : starEach (e :: es) X.env = (false, eval e X.env) :: starEach es X.env := by rfl) (hpl : (backTo pos (starEach es X.env)).any (·.1) = false := by rfl)
    (ht : eval (.Call (.Attribute o m apos) (e :: es) [] pos) X.env = (do
      let ov ← eval o X.env
      standAt apos.atName
      let (f, first) ← holding [ov] (getMethod ov m pl)
      callWith pos f first (backTo pos (starEach (e :: es) X.env)) (backToKw pos (keywordEach [] X.env))) := by rfl) :
    SE X ca W (.Call (.Attribute o m apos) (e :: es) [] pos) (eMeth cl m mf dd c cs) := by
  obtain ⟨f, fd, ps, F, c0, hm, ds, dvs, hb, hd, rd⟩ := M
  exact ⟨(pe_methSD (pl := pl) ho.pe c0 hm F (hr.mono hk) hb hd (fun σ => passAt tk σ) ha.pa hst hpl ht).imp fun σ H Q ⟨P, w, ρ, h, st, k⟩ => ⟨P, w, ρ, h, st,
    (EPost.see (EPost.bind k)).imp fun d w1 h1 H1 l1 s1 ⟨b, q, k1⟩ v r => by
      obtain ⟨eb, a, dx, fs, ev, e2, l⟩ := rec_pre s1 q r
      subst eb
      exact ⟨a, dx, fs, ev, e2, l, P, w1, ρ, h1, s1, (EPost.bind k1).imp fun xs w2 h2 H2 l2 s2 k2 vs rs => sp_call s2 (Rps.cons (Rep.le r l2) (rs.append (rd _ _))) k2⟩⟩⟩
theorem sn_meth (cl : Nat) (M : Mg X.prog X.w X.K X.mg X.base ca k cl m mf dd) (hr : Room j X.A) (hk : k ≤ j) (tk : Takes X W) (ho : SE X ca W o c) (ha : SA X ca W (e :: es) cs) {pl : Sem Bool}
    (hst : starEach (e :: es) X.env = (false, eval e X.env) :: starEach es X.env := by rfl) (hpl : (backTo pos (starEach es X.env)).any (·.1) = false := by rfl)
    (ht : eval (.Call (.Attribute o m apos) (e :: es) [] pos) X.env = (do
      let ov ← eval o X.env
      standAt apos.atName
      let (f, first) ← holding [ov] (getMethod ov m pl)
      callWith pos f first (backTo pos (starEach (e :: es) X.env)) (backToKw pos (keywordEach [] X.env))) := by rfl) :
    SN X ca W (.Call (.Attribute o m apos) (e :: es) [] pos) (eMethN cl m mf dd c cs) := by
  obtain ⟨f, fd, ps, F, c0, hm, ds, dvs, hb, hd, rd⟩ := M
  exact ⟨(pe_methSD (pl := pl) ho.pe c0 hm F (hr.mono hk) hb hd (fun σ => passAt tk σ) ha.pa hst hpl ht).imp fun σ H Q ⟨P, w, ρ, h, st, k⟩ => ⟨P, w, ρ, h, st,
    (EPost.see (EPost.bind k)).imp fun d w1 h1 H1 l1 s1 ⟨b, q, k1⟩ v r => by
      obtain ⟨eb, a, dx, fs, ev, e2, l⟩ := rec_pre s1 q r
      subst eb
      exact ⟨a, dx, fs, ev, e2, l, P, w1, ρ, h1, s1, (EPost.bind k1).imp fun xs w2 h2 H2 l2 s2 k2 vs rs => sp_callN s2 (Rps.cons (Rep.le r l2) (rs.append (rd _ _))) k2⟩⟩⟩
theorem se_meth0 (cl : Nat) (M : Mg X.prog X.w X.K X.mg X.base ca k cl m mf dd) (hr : Room j X.A) (hk : k ≤ j) (tk : Takes X W) (ho : SE X ca W o c) {pl : Sem Bool}
    (ht : eval (.Call (.Attribute o m apos) [] [] pos) X.env = (do
      let ov ← eval o X.env
      standAt apos.atName
      let (f, first) ← holding [ov] (getMethod ov m pl)
      callWith pos f first (backTo pos (starEach [] X.env)) (backToKw pos (keywordEach [] X.env))) := by rfl) :
    SE X ca W (.Call (.Attribute o m apos) [] [] pos) (eMeth cl m mf dd c eNil) := by
  obtain ⟨f, fd, ps, F, c0, hm, ds, dvs, hb, hd, rd⟩ := M
  exact ⟨(pe_methSD0 (pl := pl) ho.pe c0 hm F (hr.mono hk) hb hd (fun σ => passAt tk σ) ht).imp fun σ H Q ⟨P, w, ρ, h, st, k⟩ => ⟨P, w, ρ, h, st,
    (EPost.see (EPost.bind k)).imp fun d w1 h1 H1 l1 s1 ⟨b, q, k1⟩ v r => by
      obtain ⟨eb, a, dx, fs, ev, e2, l⟩ := rec_pre s1 q r
      subst eb
      exact ⟨a, dx, fs, ev, e2, l, (sp_call s1 (Rps.cons r (rd _ _)) ((EPost.bind k1).ret s1))⟩⟩⟩
theorem sn_meth0 (cl : Nat) (M : Mg X.prog X.w X.K X.mg X.base ca k cl m mf dd) (hr : Room j X.A) (hk : k ≤ j) (tk : Takes X W) (ho : SE X ca W o c) {pl : Sem Bool}
    (ht : eval (.Call (.Attribute o m apos) [] [] pos) X.env = (do
      let ov ← eval o X.env
      standAt apos.atName
      let (f, first) ← holding [ov] (getMethod ov m pl)
      callWith pos f first (backTo pos (starEach [] X.env)) (backToKw pos (keywordEach [] X.env))) := by rfl) :
    SN X ca W (.Call (.Attribute o m apos) [] [] pos) (eMethN cl m mf dd c eNil) := by
  obtain ⟨f, fd, ps, F, c0, hm, ds, dvs, hb, hd, rd⟩ := M
  exact ⟨(pe_methSD0 (pl := pl) ho.pe c0 hm F (hr.mono hk) hb hd (fun σ => passAt tk σ) ht).imp fun σ H Q ⟨P, w, ρ, h, st, k⟩ => ⟨P, w, ρ, h, st,
    (EPost.see (EPost.bind k)).imp fun d w1 h1 H1 l1 s1 ⟨b, q, k1⟩ v r => by
      obtain ⟨eb, a, dx, fs, ev, e2, l⟩ := rec_pre s1 q r
      subst eb
      exact ⟨a, dx, fs, ev, e2, l, (sp_callN s1 (Rps.cons r (rd _ _)) ((EPost.bind k1).ret s1))⟩⟩⟩
end
end PV
end

section
set_option Elab.async false
set_option linter.all false
set_option maxRecDepth 100000
set_option maxHeartbeats 1000000
/-! PV.R7: places that are written: lists and dicts of cells and of objects; makes; calls by keyword. -/
namespace PV
open PySem L2
open PyProof.Rows hiding St

/-! ### places -/
inductive Pl where
  | cell (i : Nat) | ob (i : Nat)
def getP (pl : Pl) (ρ : Env) (h : Hh) : Option D := match pl with
  | .cell i => match ρ[i]? with
    | some (.own d) => some d
    | _ => none
  | .ob i => match h[i]? with
    | some (.box d) => some d
    | _ => none
def setP (pl : Pl) (d : D) (ρ : Env) (h : Hh) : Env × Hh := match pl with
  | .cell i => (ρ.set i (.own d), h)
  | .ob i => (ρ, h.set i (.box d))
def PlAt (w : Wd) (ρ : Env) (σ : L2.St) (pl : Pl) (a : Addr) : Prop := match pl with
  | .cell i => (∃ d, ρ[i]? = some (.own d)) ∧ σ[i]? = some (some (.ref a))
  | .ob i => w.iot[i]? = some a
def RP (G : Gx) (W : WX) (c : EM Pl) : TE := fun σ H Q => ∃ P w ρ h, StR G P w ρ h σ H ∧ EPost G W P w ρ σ (c ρ h) fun pl w' _ H' => ∀ a, PlAt w' ρ σ pl a → Q (.ref a) H'
structure SPl (X : Cx) (ca : Nat → Addr) (W : WX) (e : Expr) (c : EM Pl) : Prop where
  pe : PE X e (RP ⟨X.K, ca⟩ W c)
def plC (i : Nat) : EM Pl := fun ρ h => match ρ[i]? with
  | some (.own d) => .ok (.cell i) h
  | _ => .stuck
def plO (c : EM D) : EM Pl := eBind c fun d => eOpt (match d with | .obj i => some (.ob i) | _ => none)
section
variable {G : Gx} {P : Hp} {w w' : Wd} {ρ : Env} {h : Hh} {σ : L2.St} {H H' : Hp} {a p : Addr} {o : HO} {d d' : D} {pl : Pl}
theorem PlAt.le (q : PlAt w ρ σ pl a) (l : w.le w') : PlAt w' ρ σ pl a := by
  cases pl with
  | cell i => exact q
  | ob i => exact pre_get l.2 q
theorem getP_cell {i : Nat} (e : getP (.cell i) ρ h = some d) : ρ[i]? = some (.own d) := by
  simp only [getP] at e
  split at e
  · rename_i z
    cases e
    exact z
  · cases e
theorem getP_ob {i : Nat} (e : getP (.ob i) ρ h = some d) : h[i]? = some (.box d) := by
  simp only [getP] at e
  split at e
  · rename_i z
    cases e
    exact z
  · cases e
theorem PlAt.own (s : StR G P w ρ h σ H) (q : PlAt w ρ σ pl a) (e : getP pl ρ h = some d) : OwnAt G w d a H := by
  cases pl with
  | cell i =>
    obtain ⟨_, q⟩ := q
    obtain ⟨b, e1, e2, _⟩ := s.own i _ (getP_cell e)
    rw [q] at e1
    cases e1
    exact e2
  | ob i => exact s.hr.ob i _ a (getP_ob e) q
theorem PlAt.mut (s : StR G P w ρ h σ H) (q : PlAt w ρ σ pl a) (e : getP pl ρ h = some d) (n : OwnAt G w d' a (upd H a o)) : StR G P w (setP pl d' ρ h).1 (setP pl d' ρ h).2 σ (upd H a o) := by
  cases pl with
  | cell i =>
    obtain ⟨_, q⟩ := q
    exact s.mutO (getP_cell e) q n
  | ob i => exact s.setOb q n
end
/-- the container there is a list; a dict -/
def isL : D → Bool
  | .lst _ => true
  | _ => false
def isD' : D → Bool
  | .dic _ => true
  | _ => false
def plChk (f : D → Bool) (c : EM Pl) : EM Pl := eBind c fun pl ρ h => match getP pl ρ h with
  | some d => if f d = true then .ok pl h else .stuck
  | none => .stuck
/-- what stands there is changed -/
def sMut (c : EM Pl) (as : EM (List D)) (f : D → List D → Option D) : SM := sBind c fun pl => sBind as fun xs ρ h => match getP pl ρ h with
  | some d => match f d xs with
    | some d' => .ok .next (setP pl d' ρ h).1 (setP pl d' ρ h).2
    | none => .stuck
  | none => .stuck
section
variable {X : Cx} {ca : Nat → Addr} {W : WX} {e o v : Expr} {es : List Expr} {c c1 c2 : EM D} {cp : EM Pl} {cs : EM (List D)} {pos pos' apos p : Pos} {k j cl : Nat} {f m x : Str} {mf : Fn} {dd : List D}
theorem sp_cell (i : Nat) {xp : Pos} (hN : X.N[i]? = some x := by rfl) (hv : Vis X.env.scope x := by first | exact Or.inl rfl | exact Or.inr (Or.inl rfl) | exact Or.inr (Or.inr rfl))
    (hd : (x == ("__debug__" : Str)) = false := by decide) (hcd : (x == ("__classdict__" : Str)) = false := by decide) : SPl X ca W (.Name x xp) (plC i) :=
  ⟨(pv i hN hv hd hcd).imp fun σ H Q ⟨P, w, ρ, h, st, k⟩ => by
    unfold plC at k
    split at k
    · rename_i d q
      obtain ⟨a, e1, _⟩ := st.own i d q
      exact ⟨.ref a, e1, k w H (Wd.le.refl w) st a ⟨⟨d, q⟩, e1⟩⟩
    · exact k.elim⟩
theorem sp_ob (h : SE X ca W e c) : SPl X ca W e (plO c) := ⟨h.pe.imp fun σ H Q ⟨P, w, ρ, h, st, k⟩ => ⟨P, w, ρ, h, st, (EPost.bind k).imp fun d w1 h1 H1 l1 s1 k1 v r => by
  obtain ⟨pl, e, k2⟩ := k1.opt s1
  split at e
  · cases e
    obtain ⟨a, rfl, ea⟩ := rp_obj r
    exact k2 a ea
  · cases e⟩⟩
theorem EPost.chk {G : Gx} {P : Hp} {w : Wd} {ρ : Env} {h : Hh} {σ : L2.St} {g : D → Bool} {k : Pl → Wd → Hh → Hp → Prop} (q : EPost G W P w ρ σ (plChk g cp ρ h) k) :
    EPost G W P w ρ σ (cp ρ h) fun pl w1 h1 H1 => (∃ d, getP pl ρ h1 = some d ∧ g d = true) ∧ k pl w1 h1 H1 := by
  unfold plChk at q
  refine q.bind.imp fun pl w1 h1 H1 l1 s1 k1 => ?_
  split at k1
  · rename_i d z
    split at k1
    · rename_i z2
      exact ⟨⟨d, z, z2⟩, k1 w1 H1 (Wd.le.refl _) s1⟩
    · exact k1.elim
  · exact k1.elim
theorem SPost.chk {G : Gx} {E : Ends} {P : Hp} {w : Wd} {ρ : Env} {h : Hh} {σ : L2.St} {g : D → Bool} {f : Pl → SM} (q : SPost G W E P w (sBind (plChk g cp) f ρ h)) :
    EPost G W P w ρ σ (cp ρ h) fun pl w1 h1 H1 => (∃ d, getP pl ρ h1 = some d ∧ g d = true) ∧ SPost G W E P w1 (f pl ρ h1) := EPost.chk (SPost.bind (σ := σ) q)
theorem own_lst {G : Gx} {w : Wd} {ds : List D} {a : Addr} {H : Hp} (n : OwnAt G w (.lst ds) a H) : ∃ vs, vs.length ≤ sizeLine ∧ H a = some (.lst vs) ∧ Reps G w ds vs := n
theorem isL_some {d : D} (e : isL d = true) : ∃ ds, d = .lst ds := by
  cases d with
  | lst ds => exact ⟨ds, rfl⟩
  | _ => cases e
theorem isD_some {d : D} (e : isD' d = true) : ∃ ds, d = .dic ds := by
  cases d with
  | dic ds => exact ⟨ds, rfl⟩
  | _ => cases e
def fAppend : D → List D → Option D
  | .lst xs, [y] => if xs.length < 16777216 then some (.lst (xs ++ [y])) else none
  | _, _ => none
def fExtend : D → List D → Option D
  | .lst xs, [.lst ys] => if xs.length + ys.length ≤ 16777216 then some (.lst (xs ++ ys)) else none
  | _, _ => none
/-- l.append(e) -/
theorem ss_append (hp : SPl X ca W o cp) (ha : SE X ca W e c) (hbase : attributeBase o "append" X.env (eval o X.env) = eval o X.env := by rfl)
    (hfew : ((backTo pos (starEach (e :: []) X.env)).all (fun x => !x.1) && (backToKw pos (keywordEach [] X.env)).all (fun x => x.1.isSome)
      && decide ((e :: []).length + ([] : List Keyword).length + (if ([] : List Keyword).isEmpty then 0 else 1) < 30)) = true := by rfl)
    (hline : (apos.endLine == pos.line) = true := by rfl) (hs : starEach (e :: []) X.env = (false, eval e X.env) :: starEach [] X.env := by rfl) (hplain : (backTo pos (starEach [] X.env)).any (·.1) = false := by rfl)
    (hsw : swapsWith (.Call (.Attribute o "append" apos) [e] [] pos) none pos'.line X.env = pure false := by rfl) :
    SS X ca W (.Expr (.Call (.Attribute o "append" apos) [e] [] pos) pos') (sMut (plChk isL cp) (eCons c eNil) fAppend) :=
  ⟨(ps_expr (pe_bm PySem.F.plainAttrs_list PySem.F.slot_list_append PySem.F.type_list_append mt_append hp.pe (sa_cons ha sa_nil hs).pa hbase hfew hline hs hplain) hsw).imp fun D σ H ⟨P, w, ρ, h, s, k⟩ =>
    ⟨P, w, ρ, h, s, (SPost.chk k).imp fun pl w1 h1 H1 l1 s1 ⟨⟨d, gd, il⟩, k1⟩ a pa => by
      obtain ⟨ds, rfl⟩ := isL_some il
      obtain ⟨vs, z, e1, r1⟩ := pa.own s1 gd
      refine ⟨.inl ⟨rfl, vs, SqL.of e1⟩, P, w1, ρ, h1, s1, (SPost.bind k1).imp fun xs w2 h2 H2 l2 s2 k2 us rs => ?_⟩
      have pa2 := pa.le l2
      split at k2
      · rename_i d2 gd2
        split at k2
        · rename_i d3 fd
          have n2 := pa2.own s2 gd2
          unfold fAppend at fd
          split at fd
          · rename_i zs y
            split at fd
            · rename_i lt
              cases fd
              obtain ⟨vs2, z2, e2, r2⟩ := own_lst n2
              simp only [Reps, Rps] at rs
              obtain ⟨u, r, rfl, ru, rfl⟩ := rs
              have hz : vs2.length < sizeLine := by rw [← Rps.length r2, sizeLine_eq]; exact lt
              refine ⟨a, vs2, u, rfl, rfl, e2, hz, ?_⟩
              refine k2 w2 σ _ (Wd.le.refl _) (pa2.mut s2 gd2 ⟨vs2 ++ [u], ?_, upd_same, r2.append (Rps.cons ru Rps.nil)⟩)
              rw [List.length_append, List.length_singleton]
              exact hz
            · cases fd
          · cases fd
        · exact k2.elim
      · exact k2.elim⟩⟩
/-- l.extend(a new list) -/
theorem ss_extend (hp : SPl X ca W o cp) (ha : SN X ca W e c) (hbase : attributeBase o "extend" X.env (eval o X.env) = eval o X.env := by rfl)
    (hfew : ((backTo pos (starEach (e :: []) X.env)).all (fun x => !x.1) && (backToKw pos (keywordEach [] X.env)).all (fun x => x.1.isSome)
      && decide ((e :: []).length + ([] : List Keyword).length + (if ([] : List Keyword).isEmpty then 0 else 1) < 30)) = true := by rfl)
    (hline : (apos.endLine == pos.line) = true := by rfl) (hs : starEach (e :: []) X.env = (false, eval e X.env) :: starEach [] X.env := by rfl) (hplain : (backTo pos (starEach [] X.env)).any (·.1) = false := by rfl)
    (hsw : swapsWith (.Call (.Attribute o "extend" apos) [e] [] pos) none pos'.line X.env = pure false := by rfl) :
    SS X ca W (.Expr (.Call (.Attribute o "extend" apos) [e] [] pos) pos') (sMut (plChk isL cp) (eCons c eNil) fExtend) :=
  ⟨(ps_expr (pe_bm PySem.F.plainAttrs_list PySem.F.slot_list_extend PySem.F.type_list_extend mt_extend hp.pe (pa_cons ha.pe pa_nil hs) hbase hfew hline hs hplain) hsw).imp fun D σ H ⟨P, w, ρ, h, s, k⟩ =>
    ⟨P, w, ρ, h, s, (SPost.chk k).imp fun pl w1 h1 H1 l1 s1 ⟨⟨d, gd, il⟩, k1⟩ a pa => by
      obtain ⟨ds, rfl⟩ := isL_some il
      obtain ⟨vs, z, e1, r1⟩ := pa.own s1 gd
      refine ⟨.inl ⟨rfl, vs, SqL.of e1⟩, P, w1, ρ, h1, s1, (EPost.bind (SPost.bind k1)).imp fun d0 w2 h2 H2 l2 s2 k2 b nb => ?_⟩
      have k3 := (EPost.bind k2).ret s2
      have k4 : SPost _ W _ P w2 _ := EPost.ret s2 k3
      have pa2 := pa.le l2
      split at k4
      · rename_i d2 gd2
        split at k4
        · rename_i d3 fd
          have n2 := pa2.own s2 gd2
          unfold fExtend at fd
          split at fd
          · rename_i zs ys _ hq
            cases hq
            split at fd
            · rename_i lt
              cases fd
              obtain ⟨vs2, z2, e2, r2⟩ := own_lst n2
              obtain ⟨us2, z3, e3, r3⟩ := own_lst nb.1
              have hz : vs2.length + us2.length ≤ sizeLine := by rw [← Rps.length r2, ← Rps.length r3, sizeLine_eq]; exact lt
              refine ⟨a, b, vs2, us2, rfl, rfl, e2, e3, hz, ?_⟩
              refine k4 w2 σ _ (Wd.le.refl _) (pa2.mut s2 gd2 ⟨vs2 ++ us2, ?_, upd_same, r2.append r3⟩)
              rw [List.length_append]
              exact hz
            · cases fd
          · cases fd
        · exact k4.elim
      · exact k4.elim⟩⟩
/-- l[i] = value: the value, the list, the place -/
def sPut (cv : EM D) (cp : EM Pl) (ci : EM D) (f : D → D → D → Option D) : SM := sBind cv fun y => sBind cp fun pl => sBind ci fun i ρ h => match getP pl ρ h with
  | some d => match f d i y with
    | some d' => .ok .next (setP pl d' ρ h).1 (setP pl d' ρ h).2
    | none => .stuck
  | none => .stuck
def fSet : D → D → D → Option D
  | .lst xs, .int i, y => (ixN xs.length i).map fun j => .lst (xs.set j y)
  | _, _, _ => none
theorem ss_putL {i : Expr} {ci : EM D} {spos : Pos} (hv : SE X ca W e c) (hp : SPl X ca W o cp) (hi : SE X ca W i ci)
    (ha : ∀ v, assign (.Subscript o i spos) X.env v = (do
      let ov ← holding [v] (eval o X.env)
      let iv ← holding [v, ov] (eval i X.env)
      standAt spos
      holding [v, ov, iv] (setItem ov iv v)
      release [v, ov, iv] []) := by intro _; rfl)
    (hs : swapsWithSole [.Subscript o i spos] e pos.line X.env = pure false := by rfl) (hw : swappedStores [.Subscript o i spos] e X.env = pure none := by rfl)
    (h1 : (assignEach [.Subscript o i spos] X.env).map (·.2) = [assign (.Subscript o i spos) X.env] := by rfl) : SS X ca W (.Assign [.Subscript o i spos] e pos) (sPut c cp ci fSet) :=
  ⟨(ps_asg hv.pe (pg_sub hp.pe hi.pe set_list ha) hs hw h1).imp fun D σ H ⟨P, w, ρ, h, s, k⟩ => ⟨P, w, ρ, h, s, (SPost.bind k).imp fun y w1 h1 H1 l1 s1 k1 u ru =>
    ⟨P, w1, ρ, h1, s1, (SPost.bind k1).imp fun pl w2 h2 H2 l2 s2 k2 a pa => ⟨P, w2, ρ, h2, s2, (SPost.bind k2).imp fun iv w3 h3 H3 l3 s3 k3 z rz => by
      have pa3 := pa.le l3
      split at k3
      · rename_i d2 gd2
        split at k3
        · rename_i d3 fd
          have n2 := pa3.own s3 gd2
          unfold fSet at fd
          split at fd
          · rename_i xs iz
            obtain ⟨vs2, z2, e2, r2⟩ := own_lst n2
            cases q : ixN xs.length iz with
            | none => rw [q] at fd; cases fd
            | some jj =>
              rw [q] at fd
              cases fd
              have ez : z = .int iz := by simpa only [Rep, Rp] using rz
              refine ⟨a, vs2, iz, jj, rfl, ez, e2, by rw [← Rps.length r2]; exact q, ?_⟩
              refine k3 w3 σ _ (Wd.le.refl _) (pa3.mut s3 gd2 ⟨vs2.set jj u, by rw [List.length_set]; exact z2, upd_same, r2.set jj (Rep.le ru (l2.trans l3))⟩)
          · cases fd
        · exact k3.elim
      · exact k3.elim⟩⟩⟩⟩
end

/-! ### dicts by int and text -/
def kOf : D → Option Key
  | .int i => some (.inl i)
  | .str x => some (.inr x)
  | _ => none
def kIs (k : Key) (d : D) : Bool := decide (kOf d = some k)
def dGetK (k : Key) : List (D × D) → Option D
  | [] => none
  | (x, v) :: r => if kIs k x = true then some v else dGetK k r
def dPutK (k : Key) (y : D) (kvs : List (D × D)) : List (D × D) :=
  if (kvs.any fun p => kIs k p.1) = true then kvs.map (fun p => if kIs k p.1 = true then (p.1, y) else p) else kvs ++ [(kD k, y)]
def eDic0 : EM D := eRet (.dic [])
/-- d.get(k), d[k] -/
def dGetM : D → D → Option D
  | .dic kvs, k => (kOf k).map fun q => (dGetK q kvs).getD .non
  | _, _ => none
def dIxD : D → D → Option D
  | .dic kvs, k => (kOf k).bind fun q => dGetK q kvs
  | _, _ => none
def dInK : D → D → Option D
  | k, .dic kvs => (kOf k).map fun q => .bl (dGetK q kvs).isSome
  | _, _ => none
def fPutD : D → D → D → Option D
  | .dic kvs, k, y => if kvs.length < 16777216 then (kOf k).map fun q => .dic (dPutK q y kvs) else none
  | _, _, _ => none
section
variable {G : Gx} {F : Hp} {iot : List Addr}
theorem kOf_kD (k : Key) : kOf (kD k) = some k := by cases k <;> rfl
theorem kIs_kD {j k : Key} : kIs k (kD j) = decide (j = k) := by
  unfold kIs
  rw [kOf_kD]
  simp
theorem kOf_rp {d : D} {k : Key} {v : V} (e : kOf d = some k) (r : Rp G F iot d v) : v = kV k := by
  unfold kOf at e
  split at e
  · cases e
    simp only [Rp] at r
    exact r
  · cases e
    simp only [Rp] at r
    exact r
  · cases e
theorem Rpk.get {k : Key} : ∀ {kvs : List (D × D)} {ks : List (Key × V)}, Rpk G F iot kvs ks → (∀ d, dGetK k kvs = some d → ∃ v, valV ks k = some v ∧ Rp G F iot d v) ∧ (dGetK k kvs = none → valV ks k = none)
  | [], ks, q => by
    simp only [Rpk] at q
    subst q
    exact ⟨fun d e => (by cases e), fun _ => rfl⟩
  | (x, y) :: kvs, ks, q => by
    simp only [Rpk] at q
    obtain ⟨j, v, r, rfl, rfl, a, b⟩ := q
    have ih := Rpk.get (k := k) b
    unfold dGetK
    rw [kIs_kD]
    by_cases z : j = k
    · rw [if_pos (decide_eq_true z), valV_pos (p := (j, v)) z]
      exact ⟨fun d e => (by cases e; exact ⟨v, rfl, a⟩), fun e => (by cases e)⟩
    · rw [if_neg (by simpa using z), valV_neg (p := (j, v)) z]
      exact ih
theorem Rpk.any {k : Key} : ∀ {kvs : List (D × D)} {ks : List (Key × V)}, Rpk G F iot kvs ks → (kvs.any fun p => kIs k p.1) = (ks.any fun p => decide (p.1 = k))
  | [], ks, q => by
    simp only [Rpk] at q
    subst q
    rfl
  | (x, y) :: kvs, ks, q => by
    simp only [Rpk] at q
    obtain ⟨j, v, r, rfl, rfl, a, b⟩ := q
    rw [List.any_cons, List.any_cons, Rpk.any b, kIs_kD]
theorem Rpk.append : ∀ {ds es : List (D × D)} {vs us : List (Key × V)}, Rpk G F iot ds vs → Rpk G F iot es us → Rpk G F iot (ds ++ es) (vs ++ us)
  | [], es, vs, us, q, r => by
    simp only [Rpk] at q
    subst q
    exact r
  | (x, d) :: ds, es, vs, us, q, r => by
    simp only [Rpk] at q
    obtain ⟨j, v, w, rfl, rfl, a, b⟩ := q
    show Rpk G F iot ((kD j, d) :: (ds ++ es)) ((j, v) :: (w ++ us))
    simp only [Rpk]
    exact ⟨j, v, _, rfl, rfl, a, b.append r⟩
theorem Rpk.map {k : Key} {y : D} {u : V} (ru : Rp G F iot y u) : ∀ {kvs : List (D × D)} {ks : List (Key × V)}, Rpk G F iot kvs ks →
    Rpk G F iot (kvs.map fun p => if kIs k p.1 = true then (p.1, y) else p) (ks.map fun kv => if kv.1 = k then (kv.1, u) else kv)
  | [], ks, q => by
    simp only [Rpk] at q
    subst q
    simp only [List.map_nil, Rpk]
  | (x, d) :: kvs, ks, q => by
    simp only [Rpk] at q
    obtain ⟨j, v, r, rfl, rfl, a, b⟩ := q
    have ih := Rpk.map (k := k) ru b
    rw [List.map_cons, List.map_cons, kIs_kD]
    by_cases z : j = k
    · rw [if_pos (decide_eq_true z), if_pos z]
      simp only [Rpk]
      exact ⟨j, u, _, rfl, rfl, ru, ih⟩
    · rw [if_neg (by simpa using z), if_neg z]
      simp only [Rpk]
      exact ⟨j, v, _, rfl, rfl, a, ih⟩
theorem Rpk.put {k : Key} {y : D} {u : V} (ru : Rp G F iot y u) {kvs : List (D × D)} {ks : List (Key × V)} (q : Rpk G F iot kvs ks) : Rpk G F iot (dPutK k y kvs) (putK ks k u) := by
  unfold dPutK putK
  rw [q.any]
  split
  · exact q.map ru
  · exact q.append (by simp only [Rpk]; exact ⟨k, u, [], rfl, rfl, ru, rfl⟩)
theorem putK_len {ks : List (Key × V)} {k : Key} {u : V} (h : ks.length < sizeLine) : (putK ks k u).length ≤ sizeLine := by
  unfold putK
  split
  · rw [List.length_map]; exact Nat.le_of_lt h
  · rw [List.length_append, List.length_singleton]; exact h
end
section
variable {X : Cx} {ca : Nat → Addr} {W : WX} {e o v i : Expr} {es : List Expr} {c c1 c2 ci : EM D} {cp : EM Pl} {cs : EM (List D)} {pos pos' apos p : Pos}
theorem sn_dic0 : SN X ca W (.Dict [] [] pos) eDic0 := ⟨pe_dnewK.imp fun σ H Q ⟨P, w, ρ, h, st, k⟩ p n => by
  refine k w _ (Wd.le.refl w) (st.alloc (o := .dK []) n) p ⟨⟨[], Nat.zero_le _, upd_same, by simp only [Rpk]⟩, st.hr.notF n, st.hr.notiot n, st.hr.notP n, fun i x q hq => ?_⟩
  obtain ⟨b, e1, e2, _⟩ := st.own i x q
  obtain ⟨u, e3⟩ := e2.some
  rw [hq] at e1
  cases e1
  rw [n] at e3
  cases e3⟩
theorem rp_dic {G : Gx} {F : Hp} {iot : List Addr} {kvs : List (D × D)} {v : V} (r : Rp G F iot (.dic kvs) v) : ∃ a ks, v = .ref a ∧ ks.length ≤ sizeLine ∧ F a = some (.dK ks) ∧ Rpk G F iot kvs ks := by simpa only [Rp] using r
/-- d.get(k), k without effects on d -/
def eGet (c k : EM D) : EM D := eBind c fun x => eBind (eOpt (if isD' x = true then some x else none)) fun x => eBind k fun y => eOpt (dGetM x y)
theorem RO.own {G : Gx} {i : Nat} {P : Hp} {w : Wd} {ρ : Env} {h : Hh} {σ : L2.St} {H : Hp} (st : StR G P w ρ h σ H) {d : D} (q : ρ[i]? = some (.own d)) : ∃ a, σ[i]? = some (some (.ref a)) ∧ OwnAt G w d a H := by
  obtain ⟨a, e1, e2, _⟩ := st.own i d q
  exact ⟨a, e1, e2⟩
/-- name.get(k): the name owns the dict -/
theorem se_getO (j : Nat) {x : Str} {xp : Pos} (hu : X.A.units + 64 < cLine) (hb : SE X ca W e c2) (m : M1 X (.Name x xp) "get" apos e pos) (hN : X.N[j]? = some x := by rfl) (hv : Vis X.env.scope x := by first | exact Or.inl rfl | exact Or.inr (Or.inl rfl) | exact Or.inr (Or.inr rfl))
    (hd : (x == ("__debug__" : Str)) = false := by decide) (hcd : (x == ("__classdict__" : Str)) = false := by decide) :
    SE X ca W (.Call (.Attribute (.Name x xp) "get" apos) [e] [] pos) (eGet (eOwn j) c2) :=
  ⟨(pe_dget1 (by omega) (pv j hN hv hd hcd) hb.pe m).imp fun σ H Q ⟨P, w, ρ, h, st, k⟩ => by
    have k1 := EPost.bind k
    unfold eOwn at k1
    split at k1
    · rename_i d q
      have k2 := EPost.bind (k1 w H (Wd.le.refl w) st)
      obtain ⟨d', e', k3⟩ := k2.opt st
      split at e'
      · rename_i il
        cases e'
        obtain ⟨kvs, rfl⟩ := isD_some il
        obtain ⟨a, e1, e2, e3, e4, e5⟩ := st.own j _ q
        obtain ⟨ks, z, ek, rk⟩ := e2
        refine ⟨.ref a, e1, a, rfl, .inl ⟨ks, .inl ek⟩, P, w, ρ, h, st, (EPost.bind k3).imp fun y w1 h1 H1 l1 s1 k4 u ru => ?_⟩
        obtain ⟨r, er, k5⟩ := k4.opt s1
        obtain ⟨a', f1, f2, _⟩ := s1.own j _ q
        rw [e1] at f1
        cases f1
        obtain ⟨ks', z', ek', rk'⟩ := f2
        unfold dGetM at er
        simp only at er
        cases kq : kOf y with
        | none => rw [kq] at er; cases er
        | some kk =>
          rw [kq] at er
          cases er
          have := kOf_rp kq ru
          subst this
          refine ⟨valV ks' kk, DGet.k ek', ?_⟩
          cases gq : dGetK kk kvs with
          | none =>
            rw [(rk'.get).2 gq]
            exact k5 .non (by show Rep _ _ ((dGetK kk kvs).getD .non) _; rw [gq]; simp only [Option.getD_none, Rep, Rp])
          | some y2 =>
            obtain ⟨v2, g1, g2⟩ := (rk'.get).1 y2 gq
            rw [g1]
            exact k5 v2 (by show Rep _ _ ((dGetK kk kvs).getD .non) _; rw [gq]; exact g2)
      · cases e'
    · exact k1.elim⟩
/-- d[k] = value -/
theorem ss_putD {spos : Pos} (hu : X.A.units + 64 < cLine) (hv : SE X ca W e c) (hp : SPl X ca W o cp) (hi : SE X ca W i ci)
    (hs : swapsWith e (some (.Subscript o i spos)) pos.line X.env = pure false := by rfl) : SS X ca W (.Assign [.Subscript o i spos] e pos) (sPut c cp ci fPutD) :=
  ⟨(ps_dput (by omega) hp.pe hi.pe hv.pe hs).imp fun D σ H ⟨P, w, ρ, h, s, k⟩ => ⟨P, w, ρ, h, s, (SPost.bind k).imp fun y w1 h1 H1 l1 s1 k1 u ru =>
    ⟨P, w1, ρ, h1, s1, (SPost.bind k1).imp fun pl w2 h2 H2 l2 s2 k2 a pa => ⟨P, w2, ρ, h2, s2, (SPost.bind k2).imp fun iv w3 h3 H3 l3 s3 k3 z rz => by
      have pa3 := pa.le l3
      split at k3
      · rename_i d2 gd2
        split at k3
        · rename_i d3 fd
          have n2 := pa3.own s3 gd2
          unfold fPutD at fd
          split at fd
          · rename_i kvs
            obtain ⟨ks, z2, e2, r2⟩ : ∃ ks : List (Key × V), ks.length ≤ sizeLine ∧ H3 a = some (.dK ks) ∧ Rpk ⟨X.K, ca⟩ w3.F w3.iot kvs ks := n2
            split at fd
            · rename_i lt
              cases kq : kOf iv with
              | none => rw [kq] at fd; cases fd
              | some q =>
                rw [kq] at fd
                cases fd
                have := kOf_rp kq rz
                subst this
                have hz : ks.length < sizeLine := by rw [← Rpk.length r2, sizeLine_eq]; exact lt
                refine ⟨a, _, rfl, DPut.k e2 hz, ?_⟩
                exact k3 w3 σ _ (Wd.le.refl _) (pa3.mut s3 gd2 ⟨putK ks q u, putK_len hz, upd_same, r2.put (Rep.le ru (l2.trans l3))⟩)
            · cases fd
          · cases fd
        · exact k3.elim
      · exact k3.elim⟩⟩⟩⟩
end
end PV
end

section
set_option Elab.async false
set_option linter.all false
set_option maxRecDepth 100000
set_option maxHeartbeats 1000000
/-! PV.R8: makes; calls by keyword. -/
namespace PV
open PySem L2
open PyProof.Rows hiding St

section
variable {X : Cx} {CX : CXT} {k j : Nat} {f C : Addr} {fd : FuncData} {ps : List Str} {sp : Sp} {dvs : List V} {ds : List Value} {E : L2.St → XK} {x : Str} {p pos : Pos} {e : Expr} {es : List Expr} {t : TA}
def tMakeS (C : Addr) (sp : Sp) (dvs : List V) (E : L2.St → XK) (t : TA) : TE := fun σ H Q => t σ H fun vs H1 => ∀ x dx, H1 x = none → H1 dx = none → dx ≠ x →
  sp (.ref x :: (vs ++ dvs)) (upd (upd H1 dx (.own x)) x (.ins C dx [])) (fun v H2 => v = .non ∧ Q (.ref x) H2) (E σ)
theorem run_makeS {pins : List (Addr × Obj)} {σ : L2.St} {H : Hp} {s : Shared} {Q : VK} {us : List Value} {vs : List V} (M : Mk X.K C f) (F : FnOk X.prog X.w X.K X.mg X.base CX k f fd ps sp) (hr : Room (k + 1) X.A) (hb : Binds X.K fd ps ds) (hd : Vals dvs ds)
    (hx : PassesAt CX X σ (E σ)) (I : Inv X pins σ H s) (r : Vals vs us)
    (h : ∀ x dx, H x = none → H dx = none → dx ≠ x → sp (.ref x :: (vs ++ dvs)) (upd (upd H dx (.own x)) x (.ins C dx [])) (fun v H2 => v = .non ∧ Q (.ref x) H2) (E σ)) :
    wpAny (model X.prog X.w) X.A (call (.ref C) us) (EP X pins σ Q) X.xe s := by
  have hq := h (s.heap.objs.size + 1) s.heap.objs.size (I.hok.fresh (Nat.le_succ _)) (I.hok.fresh (Nat.le_refl _)) (Nat.ne_of_lt (Nat.lt_succ_self _))
  have I2 := Inv.made (C := C) I
  have r2 : Vals (V.ref (s.heap.objs.size + 1) :: (vs ++ dvs)) (Value.ref (s.heap.objs.size + 1) :: (us ++ ds)) := .cons rfl (r.append hd)
  have hl : (Value.ref (s.heap.objs.size + 1) :: us ++ ds).length = ps.length := by
    have e := r2.length
    rw [F.len _ _ _ _ hq] at e
    exact e.symm
  refine wpAny_call (make_map (f := f) I.kIn M.makes M.init (beq_iff_eq.mp M.fn) (codeAny_mono (F.run _ X.stack _ _ ⟨Value.ref (s.heap.objs.size + 1) :: us, []⟩ (Value.ref (s.heap.objs.size + 1) :: (us ++ ds)) _ _ (E σ) (hr.make C us [])
    (I2.env0.make C us []) (hb _ (Value.ref (s.heap.objs.size + 1) :: us) I2.kIn hl) r2 hq) fun r s' hq' => ?_))
  cases r with
  | error e => exact hx pins _ _ e s' I2 hq'
  | ok fl =>
    cases fl with
    | ret u =>
      obtain ⟨v, H', I3, rv, ev, q3⟩ := I2.after hq'
      subst ev
      exact ⟨rv, ⟨V.ref (s.heap.objs.size + 1), H', I3, rfl, q3⟩⟩
    | next => exact False.elim hq'
    | brk => exact False.elim hq'
    | cont => exact False.elim hq'
theorem pe_makeS (M : Mk X.K C f) (F : FnOk X.prog X.w X.K X.mg X.base CX k f fd ps sp) (hr : Room (k + 1) X.A) (hg : Gl X x) (hm : X.mg x = some (.ref C)) (hb : Binds X.K fd ps ds) (hd : Vals dvs ds) (hx : ∀ σ, PassesAt CX X σ (E σ))
    (ha : PA X (e :: es) t) (hdb : (x == ("__debug__" : Str)) = false := by decide) (he : starEach (e :: es) X.env = (false, eval e X.env) :: starEach es X.env := by rfl) (hpl : (backTo pos (starEach es X.env)).any (·.1) = false := by rfl) :
    PE X (.Call (.Name x p) (e :: es) [] pos) (tMakeS C sp dvs E t) := by
  refine ⟨fun pins s σ H Q I h => ?_⟩
  refine wpAny_Call_Name_kw (ld_glob I hg hm ?_ hdb)
  refine PySem.W.callWith_K (h₀ := X.base) I.ok.mod.kin M.kp (thn (ha.run pos pins s σ H _ I h) fun us s1 ⟨vs, H1, I1, r, q⟩ => ⟨I1.kIn, ?_⟩) he hpl
  exact run_makeS M F hr hb hd (hx σ) I1 r q
theorem pe_makeS0 (M : Mk X.K C f) (F : FnOk X.prog X.w X.K X.mg X.base CX k f fd ps sp) (hr : Room (k + 1) X.A) (hg : Gl X x) (hm : X.mg x = some (.ref C)) (hb : Binds X.K fd ps ds) (hd : Vals dvs ds) (hx : ∀ σ, PassesAt CX X σ (E σ))
    (hdb : (x == ("__debug__" : Str)) = false := by decide) : PE X (.Call (.Name x p) [] [] pos) (tMakeS C sp dvs E tNil) := by
  refine ⟨fun pins s σ H Q I h => ?_⟩
  refine wpAny_Call_Name_kw (ld_glob I hg hm ?_ hdb)
  exact PySem.W.callWith_K0 I.kIn M.kp (run_makeS (us := []) M F hr hb hd (hx σ) I .nil h)
end
/-- C(..) -/
def mkM (cl : Nat) (m : Fn) (dd : List D) (xs : List D) : EM D := fun _ h => match m (.obj h.length :: (xs ++ dd)) (h ++ [.ins cl []]) with
  | .stuck => .stuck
  | .exc c p h' => .exc c p h'
  | .val .non h' => .ok (.obj h.length) h'
  | _ => .stuck
def eMake (cl : Nat) (m : Fn) (dd : List D) (as : EM (List D)) : EM D := eBind as fun xs => mkM cl m dd xs
section
variable {X : Cx} {ca : Nat → Addr} {W : WX} {e o : Expr} {es : List Expr} {cs : EM (List D)} {pos p : Pos} {k j : Nat} {x : Str} {m : Fn} {dd xs : List D}
theorem sp_make {P : Hp} {w : Wd} {ρ : Env} {h : Hh} {σ : L2.St} {H : Hp} {cl : Nat} {vs : List V} {Q : VK} {G : Gx} {dvs : List V} (st : StR G P w ρ h σ H) (rs : Reps G w xs vs) (rd : ∀ F iot, Rps G F iot dd dvs) (k : EPost G W P w ρ σ (mkM cl m dd xs ρ h) fun d w' _ H' => ∀ v, Rep G w' d v → Q v H')
    {y dx : Addr} (n1 : H y = none) (n2 : H dx = none) (ne : dx ≠ y) : spOf G m (.ref y :: (vs ++ dvs)) (upd (upd H dx (.own y)) y (.ins (G.ca cl) dx [])) (fun v H2 => v = .non ∧ Q (.ref y) H2) (WE W σ) := by
  have n3 : upd H dx (.own y) y = none := by rw [upd_ne (Ne.symm ne)]; exact n1
  have s1 : StR G P w ρ h σ (upd (upd H dx (.own y)) y (.ins (G.ca cl) dx [])) := (st.alloc n2).alloc n3
  have nO : ∀ (i : Nat) (e : D), ρ[i]? = some (.own e) → σ[i]? ≠ some (some (.ref y)) := fun i e q z => by
    obtain ⟨b, e1, e2, _⟩ := st.own i e q
    obtain ⟨u, e3⟩ := e2.some
    rw [z] at e1
    cases e1
    rw [n1] at e3
    cases e3
  have s2 : StR G P (w.ob y) ρ (h ++ [.ins cl []]) σ (upd (upd H dx (.own y)) y (.ins (G.ca cl) dx [])) := s1.newOb (x := .ins cl []) ⟨dx, [], upd_same, rfl⟩ (st.hr.notF n1) (st.hr.notiot n1) (st.hr.notP n1) nO
  have ry : Rep G (w.ob y) (.obj h.length) (.ref y) := by
    have q := rep_ob (G := G) (w := w) (a := y) w.iot
    rw [← st.hr.len] at q
    exact q
  refine ⟨w.ob y, _, h ++ [.ins cl []], s2.hr.p0, Rps.cons ry ((Reps.le rs Wd.ob_le).append (rd _ _)), ?_⟩
  unfold mkM at k
  revert k
  cases m (.obj h.length :: (xs ++ dd)) (h ++ [.ins cl []]) with
  | stuck => exact fun k => k
  | exc c p h' => exact fun k w' H' cls dx c hr x => k w' H' cls dx (Wd.ob_le.trans c.1) (s2.call c hr) x
  | val d h' =>
    cases d with
    | non =>
      intro k w' H' v c hr r
      have e : v = .non := by simpa only [Rep, Rp] using r
      exact ⟨e, k w' H' (Wd.ob_le.trans c.1) (s2.call c hr) (.ref y) (ry.le c.1)⟩
    | _ => exact fun k => k.elim
  | new d h' => exact fun k => k.elim
theorem se_make (cl : Nat) (M : Ig X.prog X.w X.K X.mg X.base ca k cl x m dd) (hr : Room j X.A) (hk : k + 1 ≤ j) (tk : Takes X W) (ha : SA X ca W (e :: es) cs) (hg : Gl X x := by rfl)
    (hdb : (x == ("__debug__" : Str)) = false := by decide) (he : starEach (e :: es) X.env = (false, eval e X.env) :: starEach es X.env := by rfl) (hpl : (backTo pos (starEach es X.env)).any (·.1) = false := by rfl) :
    SE X ca W (.Call (.Name x p) (e :: es) [] pos) (eMake cl m dd cs) := by
  obtain ⟨f, fd, ps, F, M, hm, ds, dvs, hb, hd, rd⟩ := M
  exact ⟨(pe_makeS M F (hr.mono hk) hg hm hb hd (fun σ => passAt tk σ) ha.pa hdb he hpl).imp fun σ H Q ⟨P, w, ρ, h, st, k⟩ => ⟨P, w, ρ, h, st, (EPost.bind k).imp fun xs w1 h1 H1 l1 s1 k1 vs rs y dx n1 n2 ne => sp_make s1 rs rd k1 n1 n2 ne⟩⟩
theorem se_make0 (cl : Nat) (M : Ig X.prog X.w X.K X.mg X.base ca k cl x m dd) (hr : Room j X.A) (hk : k + 1 ≤ j) (tk : Takes X W) (hg : Gl X x := by rfl) (hdb : (x == ("__debug__" : Str)) = false := by decide) : SE X ca W (.Call (.Name x p) [] [] pos) (eMake cl m dd eNil) := by
  obtain ⟨f, fd, ps, F, M, hm, ds, dvs, hb, hd, rd⟩ := M
  exact ⟨(pe_makeS0 M F (hr.mono hk) hg hm hb hd (fun σ => passAt tk σ) hdb).imp fun σ H Q ⟨P, w, ρ, h, st, k⟩ y dx n1 n2 ne => sp_make (vs := []) (xs := []) st Rps.nil rd ((EPost.bind k).ret st) n1 n2 ne⟩
end

/-! ### by keyword: the values in the order in which they are written, then put in the parameters' order -/
def prm {α : Type} (is : List Nat) (l : List α) : List α := is.filterMap (l[·]?)
theorem Vals.prm : ∀ {is : List Nat} {l : List V} {l' : List Value}, Vals l l' → Vals (PV.prm is l) (PV.prm is l')
  | [], l, l', h => .nil
  | i :: is, l, l', h => by
    unfold PV.prm
    rw [List.filterMap_cons, List.filterMap_cons]
    cases q : l[i]? with
    | none =>
      have : l'[i]? = none := by
        rw [List.getElem?_eq_none_iff] at q ⊢
        rw [← h.length]; exact q
      rw [this]
      exact Vals.prm (is := is) h
    | some v =>
      obtain ⟨u, e, r⟩ := h.get q
      rw [e]
      exact .cons r (Vals.prm (is := is) h)
theorem Rps.prm {G : Gx} {F : Hp} {iot : List Addr} : ∀ {is : List Nat} {l : List D} {l' : List V}, Rps G F iot l l' → Rps G F iot (PV.prm is l) (PV.prm is l')
  | [], l, l', h => Rps.nil
  | i :: is, l, l', h => by
    unfold PV.prm
    rw [List.filterMap_cons, List.filterMap_cons]
    cases q : l[i]? with
    | none =>
      have : l'[i]? = none := by
        rw [List.getElem?_eq_none_iff] at q ⊢
        rw [← h.length]; exact q
      rw [this]
      exact Rps.prm (is := is) h
    | some v =>
      obtain ⟨u, e, r⟩ := h.get q
      rw [e]
      exact Rps.cons r (Rps.prm (is := is) h)
/-- n positional values, the keywords ks, the defaults ds behind: put in order by is -/
structure KB (K : PySem.W.Frag) (fd : FuncData) (ps : List Str) (n : Nat) (ks : List Str) (ds : List Value) (is : List Nat) : Prop where
  to : ∀ (s : Shared) (us ws : List Value), K.In s.heap → us.length = n → ws.length = ks.length → BindsTo s fd ⟨us, ks.zip ws⟩ (ps.zip (prm is (us ++ (ws ++ ds))))
def Kg (Pg : Program) (wo : World) (K : PySem.W.Frag) (mg : Str → Option Value) (base : Heap) (ca : Nat → Addr) (k : Nat) (x : Str) (m : Fn) (n : Nat) (ks : List Str) (dd : List D) (is : List Nat) : Prop :=
  ∃ f fd ps ds dvs, FOk Pg wo K mg base ca k f fd ps m ∧ mg x = some (.ref f) ∧ PySem.W.keepIn K (.ref f) = true ∧ KB K fd ps n ks ds is ∧ Vals dvs ds ∧ ∀ F iot, Rps ⟨K, ca⟩ F iot dd dvs
section
variable {X : Cx} {ca : Nat → Addr} {W : WX} {e o : Expr} {es : List Expr} {kws : List Keyword} {c : EM D} {cs ck : EM (List D)} {pos p : Pos} {k j n : Nat} {x : Str} {m : Fn} {dd xs : List D} {ks : List Str} {is : List Nat}
theorem _root_.L2.PK.imp {e : List Keyword} {t t' : TA} (q : PK X e t) (k : ∀ σ H Q, t' σ H Q → t σ H Q) : PK X e t' := ⟨fun pos pins s σ H Q I h => q.run pos pins s σ H Q I (k σ H Q h)⟩
structure SK (X : Cx) (ca : Nat → Addr) (W : WX) (es : List Keyword) (c : EM (List D)) : Prop where
  pk : PK X es (RA ⟨X.K, ca⟩ W c)
theorem sk_nil : SK X ca W [] eNil := ⟨pk_nil.imp fun σ H Q ⟨P, w, ρ, h, st, k⟩ => k.ret st [] Rps.nil⟩
theorem sk_cons {nm : Option Str} {kpos : Pos} (ha : SE X ca W e c) (hr : SK X ca W kws cs) : SK X ca W (⟨nm, e, kpos⟩ :: kws) (eCons c cs) :=
  ⟨(pk_cons ha.pe hr.pk).imp fun σ H Q ⟨P, w, ρ, h, st, k⟩ => ⟨P, w, ρ, h, st, k.bind.imp fun d w1 h1 H1 l1 st1 k1 v r => ⟨P, w1, ρ, h1, st1, k1.bind.imp fun ds w2 h2 H2 l2 st2 k2 vs rs =>
    k2.ret st2 (v :: vs) (Rps.cons (Rep.le r l2) rs)⟩⟩⟩
/-- the values of positional arguments and of keywords, then the defaults, in order -/
def eKwA (is : List Nat) (dd : List D) (as ks : EM (List D)) : EM (List D) := eBind as fun xs => eBind ks fun ys => eRet (prm is (xs ++ (ys ++ dd)))
def eLen (n : Nat) (as : EM (List D)) : EM (List D) := eBind as fun xs => eOpt (if xs.length = n then some xs else none)
theorem run_fnKS {CX : CXT} {f : Addr} {fd : FuncData} {ps : List Str} {sp : Sp} {dvs : List V} {ds : List Value} {E : L2.St → XK} {pins : List (Addr × Obj)} {σ : L2.St} {H : Hp} {s : Shared} {Q : VK} {us ws : List Value} {vs zs : List V}
    (F : FnOk X.prog X.w X.K X.mg X.base CX k f fd ps sp) (hr : Room k X.A) (hb : KB X.K fd ps n ks ds is) (hd : Vals dvs ds) (hx : PassesAt CX X σ (E σ))
    (I : Inv X pins σ H s) (r : Vals vs us) (rz : Vals zs ws) (l1 : vs.length = n) (l2 : zs.length = ks.length) (h : sp (prm is (vs ++ (zs ++ dvs))) H Q (E σ)) : wpAny (model X.prog X.w) X.A (call (.ref f) us (ks.zip ws)) (EP X pins σ Q) X.xe s := by
  have r2 : Vals (prm is (vs ++ (zs ++ dvs))) (prm is (us ++ (ws ++ ds))) := Vals.prm (r.append (rz.append hd))
  refine wpAny_call (codeAny_mono (F.run X.A X.stack s H ⟨us, ks.zip ws⟩ _ _ Q (E σ) hr I.env0 (hb.to s us ws I.kIn (r.length.symm.trans l1) (rz.length.symm.trans l2)) r2 h) fun r s' hq => ?_)
  cases r with
  | error e => exact hx pins H s e s' I hq
  | ok fl =>
    cases fl with
    | ret u => exact I.after hq
    | next => exact False.elim hq
    | brk => exact False.elim hq
    | cont => exact False.elim hq
def tCallKS (n m : Nat) (is : List Nat) (sp : Sp) (dvs : List V) (E : L2.St → XK) (t tk : TA) : TE := fun σ H Q => t σ H fun vs H1 => tk σ H1 fun zs H2 => vs.length = n ∧ zs.length = m ∧ sp (prm is (vs ++ (zs ++ dvs))) H2 Q (E σ)
theorem pe_callKS {CX : CXT} {f : Addr} {fd : FuncData} {ps : List Str} {sp : Sp} {dvs : List V} {ds : List Value} {E : L2.St → XK} {t tk : TA} (F : FnOk X.prog X.w X.K X.mg X.base CX k f fd ps sp) (hr : Room k X.A) (hg : Gl X x) (hm : X.mg x = some (.ref f)) (hk : PySem.W.keepIn X.K (.ref f) = true) (hb : KB X.K fd ps n ks ds is) (hd : Vals dvs ds) (hx : ∀ σ, PassesAt CX X σ (E σ))
    (ha : PA X (e :: es) t) (hkw : PK X kws tk) (hall : (backToKw pos (keywordEach kws X.env)).all (·.1.isSome) = true := by rfl) (hks : (backToKw pos (keywordEach kws X.env)).filterMap (·.1) = ks := by rfl)
    (hdb : (x == ("__debug__" : Str)) = false := by decide) (he : starEach (e :: es) X.env = (false, eval e X.env) :: starEach es X.env := by rfl)
    (hpl : ((backTo pos (starEach (e :: es) X.env)).any (·.1) || (backToKw pos (keywordEach kws X.env)).any (·.1.isNone)) = false := by rfl) :
    PE X (.Call (.Name x p) (e :: es) kws pos) (tCallKS n ks.length is sp dvs E t tk) := by
  refine ⟨fun pins s σ H Q I h => ?_⟩
  refine wpAny_Call_Name_kw (ld_glob I hg hm ?_ hdb)
  refine PySem.W.callWith_KW (h₀ := X.base) I.ok.mod.kin hk hall (thn (ha.run pos pins s σ H _ I h) fun us s1 ⟨vs, H1, I1, r, q⟩ => ?_) hpl he
  refine thn (hkw.run pos pins s1 σ H1 _ I1 q) fun ws s2 ⟨zs, H2, I2, rz, l1, l2, q2⟩ => ⟨I2.kIn, ?_⟩
  rw [hks]
  exact run_fnKS F hr hb hd (hx σ) I2 r rz l1 l2 q2
theorem pe_callKS0 {CX : CXT} {f : Addr} {fd : FuncData} {ps : List Str} {sp : Sp} {dvs : List V} {ds : List Value} {E : L2.St → XK} {tk : TA} (F : FnOk X.prog X.w X.K X.mg X.base CX k f fd ps sp) (hr : Room k X.A) (hg : Gl X x) (hm : X.mg x = some (.ref f)) (hk : PySem.W.keepIn X.K (.ref f) = true) (hb : KB X.K fd ps 0 ks ds is) (hd : Vals dvs ds) (hx : ∀ σ, PassesAt CX X σ (E σ))
    (hkw : PK X kws tk) (hall : (backToKw pos (keywordEach kws X.env)).all (·.1.isSome) = true := by rfl) (hks : (backToKw pos (keywordEach kws X.env)).filterMap (·.1) = ks := by rfl)
    (hdb : (x == ("__debug__" : Str)) = false := by decide)
    (hpl : ((backTo pos (starEach [] X.env)).any (·.1) || (backToKw pos (keywordEach kws X.env)).any (·.1.isNone)) = false := by rfl) :
    PE X (.Call (.Name x p) [] kws pos) (tCallKS 0 ks.length is sp dvs E tNil tk) := by
  refine ⟨fun pins s σ H Q I h => ?_⟩
  refine wpAny_Call_Name_kw (ld_glob I hg hm ?_ hdb)
  refine PySem.W.callWith_KW0 (h₀ := X.base) I.ok.mod.kin hk hall ?_ hpl
  refine thn (hkw.run pos pins s σ H _ I h) fun ws s2 ⟨zs, H2, I2, rz, l1, l2, q2⟩ => ⟨I2.kIn, ?_⟩
  rw [hks]
  exact run_fnKS (us := []) (vs := []) F hr hb hd (hx σ) I2 .nil rz l1 l2 q2
theorem EPost.len {G : Gx} {P : Hp} {w : Wd} {ρ : Env} {h : Hh} {σ : L2.St} {k : List D → Wd → Hh → Hp → Prop} (q : EPost G W P w ρ σ (eLen n cs ρ h) k) :
    EPost G W P w ρ σ (cs ρ h) fun xs w1 h1 H1 => xs.length = n ∧ k xs w1 h1 H1 := by
  unfold eLen at q
  refine q.bind.imp fun xs w1 h1 H1 l1 s1 k1 => ?_
  obtain ⟨ys, e, k2⟩ := k1.opt s1
  split at e
  · rename_i z
    cases e
    exact ⟨z, k2⟩
  · cases e
theorem se_callK (F : Kg X.prog X.w X.K X.mg X.base ca k x m n ks dd is) (hr : Room j X.A) (hk : k ≤ j) (tk : Takes X W) (ha : SA X ca W (e :: es) cs) (hkw : SK X ca W kws ck) (hg : Gl X x := by rfl)
    (hall : (backToKw pos (keywordEach kws X.env)).all (·.1.isSome) = true := by rfl) (hks : (backToKw pos (keywordEach kws X.env)).filterMap (·.1) = ks := by rfl)
    (hdb : (x == ("__debug__" : Str)) = false := by decide) (he : starEach (e :: es) X.env = (false, eval e X.env) :: starEach es X.env := by rfl)
    (hpl : ((backTo pos (starEach (e :: es) X.env)).any (·.1) || (backToKw pos (keywordEach kws X.env)).any (·.1.isNone)) = false := by rfl) :
    SE X ca W (.Call (.Name x p) (e :: es) kws pos) (eCall m [] (eKwA is dd (eLen n cs) (eLen ks.length ck))) := by
  obtain ⟨f, fd, ps, ds, dvs, F, hm, hkp, hb, hd, rd⟩ := F
  refine ⟨(pe_callKS F (hr.mono hk) hg hm hkp hb hd (fun σ => passAt tk σ) ha.pa hkw.pk hall hks hdb he hpl).imp fun σ H Q ⟨P, w, ρ, h, st, k⟩ => ⟨P, w, ρ, h, st, ?_⟩⟩
  refine (EPost.len (EPost.bind (EPost.bind k))).imp fun xs w1 h1 H1 l1 s1 ⟨z1, k1⟩ vs rs => ⟨P, w1, ρ, h1, s1, ?_⟩
  refine (EPost.len (EPost.bind k1)).imp fun ys w2 h2 H2 l2 s2 ⟨z2, k2⟩ us ru => ⟨(Rps.length rs).symm.trans z1, (Rps.length ru).symm.trans z2, ?_⟩
  have k3 := k2.ret s2
  rw [List.append_nil] at k3
  exact sp_call s2 (Rps.prm ((Reps.le rs l2).append (ru.append (rd _ _)))) k3
theorem se_callK0 (F : Kg X.prog X.w X.K X.mg X.base ca k x m 0 ks dd is) (hr : Room j X.A) (hk : k ≤ j) (tk : Takes X W) (hkw : SK X ca W kws ck) (hg : Gl X x := by rfl)
    (hall : (backToKw pos (keywordEach kws X.env)).all (·.1.isSome) = true := by rfl) (hks : (backToKw pos (keywordEach kws X.env)).filterMap (·.1) = ks := by rfl)
    (hdb : (x == ("__debug__" : Str)) = false := by decide)
    (hpl : ((backTo pos (starEach [] X.env)).any (·.1) || (backToKw pos (keywordEach kws X.env)).any (·.1.isNone)) = false := by rfl) :
    SE X ca W (.Call (.Name x p) [] kws pos) (eCall m [] (eKwA is dd eNil (eLen ks.length ck))) := by
  obtain ⟨f, fd, ps, ds, dvs, F, hm, hkp, hb, hd, rd⟩ := F
  refine ⟨(pe_callKS0 F (hr.mono hk) hg hm hkp hb hd (fun σ => passAt tk σ) hkw.pk hall hks hdb hpl).imp fun σ H Q ⟨P, w, ρ, h, st, k⟩ => ⟨P, w, ρ, h, st, ?_⟩⟩
  have k0 := (EPost.bind (EPost.bind k)).ret st
  refine (EPost.len (EPost.bind k0)).imp fun ys w2 h2 H2 l2 s2 ⟨z2, k2⟩ us ru => ⟨rfl, (Rps.length ru).symm.trans z2, ?_⟩
  have k3 := k2.ret s2
  rw [List.append_nil] at k3
  exact sp_call (vs := prm is ([] ++ (us ++ dvs))) s2 (Rps.prm (ru.append (rd _ _))) k3
theorem sn_callK0 (F : Kg X.prog X.w X.K X.mg X.base ca k x m 0 ks dd is) (hr : Room j X.A) (hk : k ≤ j) (tk : Takes X W) (hkw : SK X ca W kws ck) (hg : Gl X x := by rfl)
    (hall : (backToKw pos (keywordEach kws X.env)).all (·.1.isSome) = true := by rfl) (hks : (backToKw pos (keywordEach kws X.env)).filterMap (·.1) = ks := by rfl)
    (hdb : (x == ("__debug__" : Str)) = false := by decide)
    (hpl : ((backTo pos (starEach [] X.env)).any (·.1) || (backToKw pos (keywordEach kws X.env)).any (·.1.isNone)) = false := by rfl) :
    SN X ca W (.Call (.Name x p) [] kws pos) (eCallN m [] (eKwA is dd eNil (eLen ks.length ck))) := by
  obtain ⟨f, fd, ps, ds, dvs, F, hm, hkp, hb, hd, rd⟩ := F
  refine ⟨(pe_callKS0 F (hr.mono hk) hg hm hkp hb hd (fun σ => passAt tk σ) hkw.pk hall hks hdb hpl).imp fun σ H Q ⟨P, w, ρ, h, st, k⟩ => ⟨P, w, ρ, h, st, ?_⟩⟩
  have k0 := (EPost.bind (EPost.bind k)).ret st
  refine (EPost.len (EPost.bind k0)).imp fun ys w2 h2 H2 l2 s2 ⟨z2, k2⟩ us ru => ⟨rfl, (Rps.length ru).symm.trans z2, ?_⟩
  have k3 := k2.ret s2
  rw [List.append_nil] at k3
  exact sp_callN (vs := prm is ([] ++ (us ++ dvs))) s2 (Rps.prm (ru.append (rd _ _))) k3
end
end PV
end

section
set_option Elab.async false
set_option linter.all false
set_option maxRecDepth 100000
set_option maxHeartbeats 1000000
/-! PV.R9: zip and enumerate over lists, tuples and texts. -/
namespace PV
open PySem L2
open PyProof.Rows hiding St

inductive Src where
  | l (a : Addr) | t (a : Addr) | s (x : Str)
def Src.ad : Src → List Addr
  | .l a => [a]
  | .t a => [a]
  | .s _ => []
def Src.v : Src → V
  | .l a => .ref a
  | .t a => .ref a
  | .s x => .str x
def signV (x : Str) : List V := x.cps.toList.map fun c => .str ⟨#[c]⟩
def SrcIs (K : PySem.W.Frag) (H : Hp) : Src → List V → Prop
  | .l a, xs => SqL K H a xs
  | .t a, xs => SqT K H a xs
  | .s x, xs => xs = signV x
def SrcIt (it : Addr) (i : Nat) (h : Heap) : Src → Prop
  | .l a => h.IsListIter it a i
  | .t a => h.IsTupleIter it a i
  | .s x => ∃ t, h.IsStrIter it (strIterType x) x t i
theorem SrcIt.obj {src : Src} {it : Addr} {i : Nat} {h : Heap} (q : SrcIt it i h src) : ∃ o, h.get? it = some o ∧ ∀ v, o.data ≠ .cell v := by
  cases src with
  | l a => obtain ⟨o, e, _, d⟩ := q; exact ⟨o, e, fun v z => by rw [d] at z; cases z⟩
  | t a => obtain ⟨o, e, _, d⟩ := q; exact ⟨o, e, fun v z => by rw [d] at z; cases z⟩
  | s x => obtain ⟨t, o, e, _, d⟩ := q; exact ⟨o, e, fun v z => by rw [d] at z; cases z⟩
theorem SrcIt.at {src : Src} {it : Addr} {i : Nat} {h h' : Heap} (q : SrcIt it i h src) (k : ∀ o, h.get? it = some o → h'.get? it = some o) : SrcIt it i h' src := by
  cases src with
  | l a => obtain ⟨o, e, c, d⟩ := q; exact ⟨o, k o e, c, d⟩
  | t a => obtain ⟨o, e, c, d⟩ := q; exact ⟨o, k o e, c, d⟩
  | s x => obtain ⟨t, o, e, c, d⟩ := q; exact ⟨t, o, k o e, c, d⟩
section
variable {X : Cx} {pins : List (Addr × Obj)} {σ : L2.St} {H : Hp} {s : Shared} {src : Src} {xs ys : List V} {it : Addr} {i : Nat} {A : Around}
theorem src_inj (I : Inv X pins σ H s) (h1 : SrcIs X.K H src xs) (h2 : SrcIs X.K H src ys) : xs = ys := by
  cases src with
  | l a => exact I.list_inj h1 h2
  | t a => exact I.tuple_inj h1 h2
  | s x =>
    have e1 : xs = signV x := h1
    have e2 : ys = signV x := h2
    rw [e1, e2]
theorem src_old (I : Inv X pins σ H s) (h1 : SrcIs X.K H src xs) : ∀ a ∈ src.ad, a < s.heap.objs.size := by
  cases src with
  | l a =>
    intro b hb
    obtain ⟨its, rv, p, hz⟩ := I.list h1
    rw [List.mem_singleton.mp hb]
    obtain ⟨o, ho, _⟩ := p.isList
    exact Heap.lt_size ho
  | t a =>
    intro b hb
    obtain ⟨its, rv, ⟨o, ho, _⟩, hz⟩ := I.tuple h1
    rw [List.mem_singleton.mp hb]
    exact Heap.lt_size ho
  | s x => intro b hb; cases hb
theorem src_draws (I : Inv X pins σ H s) (hh : A.handled = none) (hq : SrcIs X.K H src xs) (hne : it ∉ src.ad) (st : SrcIt it i s.heap src) :
    ∃ (P : Nat → Value → Prop) (St : Nat → Heap → Prop), Draws X.prog X.w A it (it :: src.ad) xs.length P St ∧ St i s.heap ∧ (∀ j h, St j h → SrcIt it j h src) ∧ (∀ j v, P j v → ∃ x, xs[j]? = some x ∧ RelV x v) := by
  cases src with
  | l a =>
    obtain ⟨its, rv, p, hz⟩ := I.list hq
    have hl : xs.length = its.toArray.size := by rw [List.size_toArray]; exact rv.length
    have D := Draws.list (prog := X.prog) (w := X.w) hh it a (fun e => hne (by rw [e]; exact List.mem_singleton.mpr rfl)) its.toArray
    rw [← hl] at D
    refine ⟨_, _, D, ⟨st, p.isList⟩, fun j h q => q.1, fun j v q => ?_⟩
    have q' : its[j]? = some v := by simpa using q
    have hj : j < xs.length := by rw [rv.length]; exact (List.getElem?_eq_some_iff.mp q').1
    obtain ⟨u, hu, ru⟩ := rv.get (i := j) (x := xs[j]) (by simp [hj])
    rw [q'] at hu
    cases hu
    exact ⟨xs[j], by simp [hj], ru⟩
  | t a =>
    obtain ⟨its, rv, p, hz⟩ := I.tuple hq
    have hl : xs.length = its.toArray.size := by rw [List.size_toArray]; exact rv.length
    have D := Draws.tuple (prog := X.prog) (w := X.w) hh it a (fun e => hne (by rw [e]; exact List.mem_singleton.mpr rfl)) its.toArray
    rw [← hl] at D
    refine ⟨_, _, D, ⟨st, (show s.heap.IsTuple a its.toArray from p)⟩, fun j h q => q.1, fun j v q => ?_⟩
    have q' : its[j]? = some v := by simpa using q
    have hj : j < xs.length := by rw [rv.length]; exact (List.getElem?_eq_some_iff.mp q').1
    obtain ⟨u, hu, ru⟩ := rv.get (i := j) (x := xs[j]) (by simp [hj])
    rw [q'] at hu
    cases hu
    exact ⟨xs[j], by simp [hj], ru⟩
  | s x =>
    obtain ⟨t, st⟩ := st
    have e : xs = signV x := hq
    subst e
    have hl : (signV x).length = x.cps.size := by unfold signV; rw [List.length_map, Array.length_toList]
    have D := Draws.text (prog := X.prog) (w := X.w) hh it x t
    rw [← hl] at D
    refine ⟨_, _, D, st, fun j h q => ⟨t, q⟩, fun j v ⟨c, u, h1, h2⟩ => ?_⟩
    subst h2
    refine ⟨.str ⟨#[c]⟩, ?_, ⟨u, rfl⟩⟩
    unfold signV
    rw [List.getElem?_map, Array.getElem?_toList, h1]
    rfl
end

/-! ### zip of two -/
def Itz2 (K : PySem.W.Frag) (s1 s2 : Src) : It :=
  ⟨fun i H => ∃ xs ys, SrcIs K H s1 xs ∧ SrcIs K H s2 ys ∧ i < xs.length ∧ i < ys.length,
   fun i H v H' => ∃ T x y, v = .ref T ∧ H T = none ∧ H' = upd H T (.tup [x, y]) ∧ (∀ xs, SrcIs K H s1 xs → xs[i]? = some x) ∧ (∀ ys, SrcIs K H s2 ys → ys[i]? = some y),
   fun i H => ∃ xs ys, SrcIs K H s1 xs ∧ SrcIs K H s2 ys ∧ i = min xs.length ys.length⟩
structure Ap (new old : List Addr) : Prop where
  nd : new.Nodup
  ap : ∀ a ∈ old, a ∉ new
theorem turn_zip2 {P : Program} {w : World} {K : PySem.W.Frag} {elts : List Expr} {kk : Nat} {tpos : Pos} {s1 s2 : Src} {z TI TO i1 i2 : Addr} (D : Ap [z, TI, TO, i1, i2] (s1.ad ++ s2.ad)) :
    Turn P w K (.Tuple elts kk tpos) (Itz2 K s1 s2) [z, TI, TO, i1, i2] z (fun i h => IsZip h z TI TO .none ∧ IsTupOf2 h TI (.ref i1) (.ref i2) ∧ (∃ x y, IsTupOf2 h TO x y) ∧ SrcIt i1 i h s1 ∧ SrcIt i2 i h s2) := by
  have nd := D.nd
  simp only [List.nodup_cons, List.mem_cons, List.not_mem_nil, or_false, not_or, not_false_eq_true, and_true, List.nodup_nil] at nd
  obtain ⟨⟨d1, d2, d3, d4⟩, ⟨d5, d6, d7⟩, ⟨d8, d9⟩, d10⟩ := nd
  have a1 : ∀ b ∈ [z, TI, TO, i1, i2], b ∉ s1.ad := fun b hb h => D.ap b (List.mem_append_left _ h) hb
  have a2 : ∀ b ∈ [z, TI, TO, i1, i2], b ∉ s2.ad := fun b hb h => D.ap b (List.mem_append_right _ h) hb
  have S : ZipSep2 z TI TO i1 i2 (i1 :: s1.ad) (i2 :: s2.ad) := by
    constructor
    · exact Ne.symm d1
    · exact Ne.symm d2
    · exact d5
    · exact d6
    · exact List.mem_cons_self ..
    · exact fun h => (List.mem_cons.mp h).elim (fun e => d3 e) (fun e => a1 z (by simp) e)
    · exact fun h => (List.mem_cons.mp h).elim (fun e => d8 e) (fun e => a1 TO (by simp) e)
    · exact d7
    · exact List.mem_cons_self ..
    · exact fun h => (List.mem_cons.mp h).elim (fun e => d4 e) (fun e => a2 z (by simp) e)
    · exact fun h => (List.mem_cons.mp h).elim (fun e => d9 e) (fun e => a2 TO (by simp) e)
    · exact fun h => (List.mem_cons.mp h).elim (fun e => d10 e) (fun e => a2 i1 (by simp) e)
    · exact fun h => (List.mem_cons.mp h).elim (fun e => d10 e.symm) (fun e => a1 i2 (by simp) e)
  have sb : ∀ c, c ∈ [z, TO, i1, i2] → c ∈ [z, TI, TO, i1, i2] := fun c h => by
    simp only [List.mem_cons, List.not_mem_nil, or_false] at h ⊢
    rcases h with h | h | h | h <;> simp [h]
  refine ⟨by simp, ?_, ?_, ?_, ?_, ?_⟩
  · rintro i h ⟨hz, hTI, ⟨x, y, hTO⟩, h1, h2⟩ c hc
    have e' : c = z ∨ c = TI ∨ c = TO ∨ c = i1 ∨ c = i2 := by simpa using hc
    rcases e' with q | q | q | q | q
    · rw [q]; exact ⟨_, hz, fun v q => nomatch q⟩
    · rw [q]; exact ⟨_, hTI, fun v q => nomatch q⟩
    · rw [q]; exact ⟨_, hTO, fun v q => nomatch q⟩
    · rw [q]; exact h1.obj
    · rw [q]; exact h2.obj
  · rintro i h h' ⟨hz, hTI, ⟨x, y, hTO⟩, h1, h2⟩ k
    exact ⟨k z (by simp) _ hz, k TI (by simp) _ hTI, ⟨x, y, k TO (by simp) _ hTO⟩, h1.at fun o q => k i1 (by simp) o q, h2.at fun o q => k i2 (by simp) o q⟩
  · intro X hP hw hK hc i pins s σ H E I hf st hg
    subst hP hw hK
    obtain ⟨hz, hTI, hTO, h1, h2⟩ := st
    obtain ⟨xs, ys, hqx, hqy, lx, ly⟩ := hg
    obtain ⟨P1, St1, D1, u1, f1, g1⟩ := src_draws (A := X.A.in1) I (I.ok.hd hc) hqx (a1 i1 (by simp)) h1
    obtain ⟨P2, St2, D2, u2, f2, g2⟩ := src_draws (A := X.A.in1) I (I.ok.hd hc) hqy (a2 i2 (by simp)) h2
    have W := WalksT.zipD2 S D1 D2
    refine W.item i s _ _ (by omega) ⟨hz, hTI, hTO, u1, u2⟩ fun T vals h' tk hp hT hTt hm hk => ?_
    refine ⟨_, rfl, W.go elts kk tpos i T { s with heap := h', toks := tk } _ _ hm fun h'' st'' hk2 => ?_⟩
    obtain ⟨x1, x2, p1, p2, rfl⟩ := hp
    obtain ⟨x, hx, rx⟩ := g1 i x1 p1
    obtain ⟨y, hy, ry⟩ := g2 i x2 p2
    have nT : T ∉ [z, TO, i1, i2] := W.apart i T h' hm
    have hT2 : ∃ o, h''.get? T = some o ∧ o.cls = .type "tuple" ∧ ∃ n, o.data = .seq #[x1, x2] n := by
      obtain ⟨o, e1, e2, e3⟩ := hTt
      exact ⟨o, hk2 T o nT e1, e2, e3⟩
    have new : ObjOk X.prog X.w (upd H T (.tup [x, y])) h'' T (.tup [x, y]) :=
      ⟨by show 2 ≤ sizeLine; decide, [x1, x2], .cons rx (.cons ry .nil), hT2⟩
    have I1 : Inv X pins σ (upd H T (.tup [x, y])) { s with heap := h'', toks := tk } :=
      I.turnedNew (t' := tk) (ch := [z, TI, TO, i1, i2]) (fun c o hb q => hk2 c o (fun q' => hb (sb c q')) (hk c o (fun q' => hb (sb c q')) q)) hf hT new
    obtain ⟨z'', TI'', TO'', v1, v2⟩ := st''
    refine ⟨.ref T, _, I1, rfl, ⟨T, x, y, rfl, I.hok.fresh hT, rfl, fun l hl => by rw [src_inj I hl hqx]; exact hx, fun l hl => by rw [src_inj I hl hqy]; exact hy⟩, ⟨z'', TI'', TO'', f1 _ _ v1, f2 _ _ v2⟩, fun c hcm => ?_⟩
    have hlt : c < s.heap.objs.size := by
      have e' : c = z ∨ c = TI ∨ c = TO ∨ c = i1 ∨ c = i2 := by simpa using hcm
      obtain ⟨_, _, hTO'⟩ := hTO
      rcases e' with q | q | q | q | q
      · rw [q]; exact Heap.lt_size hz
      · rw [q]; exact Heap.lt_size hTI
      · rw [q]; exact Heap.lt_size hTO'
      · rw [q]; obtain ⟨_, e1, _⟩ := h1.obj; exact Heap.lt_size e1
      · rw [q]; obtain ⟨_, e2, _⟩ := h2.obj; exact Heap.lt_size e2
    rw [upd_ne (Nat.ne_of_lt (Nat.lt_of_lt_of_le hlt hT))]
    exact (hf c hcm).1
  · intro X hP hw hK hc i pins s σ H E I hf st hg
    subst hP hw hK
    obtain ⟨hz, hTI, hTO, h1, h2⟩ := st
    obtain ⟨xs, ys, hqx, hqy, hi⟩ := hg
    obtain ⟨P1, St1, D1, u1, f1, g1⟩ := src_draws (A := X.A.in1) I (I.ok.hd hc) hqx (a1 i1 (by simp)) h1
    obtain ⟨P2, St2, D2, u2, f2, g2⟩ := src_draws (A := X.A.in1) I (I.ok.hd hc) hqy (a2 i2 (by simp)) h2
    have W := WalksT.zipD2 S D1 D2
    rw [hi] at u1 u2
    refine W.done s _ _ ⟨hz, hTI, hTO, u1, u2⟩ fun h' tk hk => ⟨rfl, I.turnedL (t' := tk) (ch := [z, TI, TO, i1, i2]) (fun c o hb q => hk c o (fun q' => hb (sb c q')) q) hf⟩
  · exact fun A i s Q E st h => wpAny_pyIter_zip st.1 h

/-! ### zip of three -/
def Itz3 (K : PySem.W.Frag) (s1 s2 s3 : Src) : It :=
  ⟨fun i H => ∃ xs ys zs, SrcIs K H s1 xs ∧ SrcIs K H s2 ys ∧ SrcIs K H s3 zs ∧ i < xs.length ∧ i < ys.length ∧ i < zs.length,
   fun i H v H' => ∃ T x y z, v = .ref T ∧ H T = none ∧ H' = upd H T (.tup [x, y, z]) ∧ (∀ xs, SrcIs K H s1 xs → xs[i]? = some x) ∧ (∀ ys, SrcIs K H s2 ys → ys[i]? = some y) ∧ (∀ zs, SrcIs K H s3 zs → zs[i]? = some z),
   fun i H => ∃ xs ys zs, SrcIs K H s1 xs ∧ SrcIs K H s2 ys ∧ SrcIs K H s3 zs ∧ i = min (min xs.length ys.length) zs.length⟩
theorem turn_zip3 {P : Program} {w : World} {K : PySem.W.Frag} {elts : List Expr} {kk : Nat} {tpos : Pos} {s1 s2 s3 : Src} {z TI TO i1 i2 i3 : Addr} (D : Ap [z, TI, TO, i1, i2, i3] (s1.ad ++ (s2.ad ++ s3.ad))) :
    Turn P w K (.Tuple elts kk tpos) (Itz3 K s1 s2 s3) [z, TI, TO, i1, i2, i3] z (fun i h => IsZip h z TI TO .none ∧ IsTupOf3 h TI (.ref i1) (.ref i2) (.ref i3) ∧ (∃ x y u, IsTupOf3 h TO x y u) ∧ SrcIt i1 i h s1 ∧ SrcIt i2 i h s2 ∧ SrcIt i3 i h s3) := by
  have nd := D.nd
  simp only [List.nodup_cons, List.mem_cons, List.not_mem_nil, or_false, not_or, not_false_eq_true, and_true, List.nodup_nil] at nd
  obtain ⟨⟨d1, d2, d3, d4, e1⟩, ⟨d5, d6, d7, e2⟩, ⟨d8, d9, e3⟩, ⟨d10, e4⟩, e5⟩ := nd
  have a1 : ∀ b ∈ [z, TI, TO, i1, i2, i3], b ∉ s1.ad := fun b hb h => D.ap b (List.mem_append_left _ h) hb
  have a2 : ∀ b ∈ [z, TI, TO, i1, i2, i3], b ∉ s2.ad := fun b hb h => D.ap b (List.mem_append_right _ (List.mem_append_left _ h)) hb
  have a3 : ∀ b ∈ [z, TI, TO, i1, i2, i3], b ∉ s3.ad := fun b hb h => D.ap b (List.mem_append_right _ (List.mem_append_right _ h)) hb
  have S : ZipSep3 z TI TO i1 i2 i3 (i1 :: s1.ad) (i2 :: s2.ad) (i3 :: s3.ad) := by
    constructor <;> first
      | exact List.mem_cons_self ..
      | (first | exact Ne.symm d1 | exact Ne.symm d2 | exact d5 | exact d6 | exact d7 | exact e2)
      | (intro h; rcases List.mem_cons.mp h with e | e
         · first | exact d3 e | exact d4 e | exact e1 e | exact d8 e | exact d9 e | exact e3 e | exact d10 e | exact e4 e | exact e5 e | exact d10 e.symm | exact e4 e.symm | exact e5 e.symm
         · first | exact a1 _ (by simp) e | exact a2 _ (by simp) e | exact a3 _ (by simp) e)
  have sb : ∀ c, c ∈ [z, TO, i1, i2, i3] → c ∈ [z, TI, TO, i1, i2, i3] := fun c h => by
    simp only [List.mem_cons, List.not_mem_nil, or_false] at h ⊢
    rcases h with h | h | h | h | h <;> simp [h]
  refine ⟨by simp, ?_, ?_, ?_, ?_, ?_⟩
  · rintro i h ⟨hz, hTI, ⟨x, y, u, hTO⟩, h1, h2, h3⟩ c hc
    have e' : c = z ∨ c = TI ∨ c = TO ∨ c = i1 ∨ c = i2 ∨ c = i3 := by simpa using hc
    rcases e' with q | q | q | q | q | q
    · rw [q]; exact ⟨_, hz, fun v q => nomatch q⟩
    · rw [q]; exact ⟨_, hTI, fun v q => nomatch q⟩
    · rw [q]; exact ⟨_, hTO, fun v q => nomatch q⟩
    · rw [q]; exact h1.obj
    · rw [q]; exact h2.obj
    · rw [q]; exact h3.obj
  · rintro i h h' ⟨hz, hTI, ⟨x, y, u, hTO⟩, h1, h2, h3⟩ k
    exact ⟨k z (by simp) _ hz, k TI (by simp) _ hTI, ⟨x, y, u, k TO (by simp) _ hTO⟩, h1.at fun o q => k i1 (by simp) o q, h2.at fun o q => k i2 (by simp) o q, h3.at fun o q => k i3 (by simp) o q⟩
  · intro X hP hw hK hc i pins s σ H E I hf st hg
    subst hP hw hK
    obtain ⟨hz, hTI, hTO, h1, h2, h3⟩ := st
    obtain ⟨xs, ys, zs, hqx, hqy, hqz, lx, ly, lz⟩ := hg
    obtain ⟨P1, St1, D1, u1, f1, g1⟩ := src_draws (A := X.A.in1) I (I.ok.hd hc) hqx (a1 i1 (by simp)) h1
    obtain ⟨P2, St2, D2, u2, f2, g2⟩ := src_draws (A := X.A.in1) I (I.ok.hd hc) hqy (a2 i2 (by simp)) h2
    obtain ⟨P3, St3, D3, u3, f3, g3⟩ := src_draws (A := X.A.in1) I (I.ok.hd hc) hqz (a3 i3 (by simp)) h3
    have W := WalksT.zipD3 S D1 D2 D3
    refine W.item i s _ _ (by omega) ⟨hz, hTI, hTO, u1, u2, u3⟩ fun T vals h' tk hp hT hTt hm hk => ?_
    refine ⟨_, rfl, W.go elts kk tpos i T { s with heap := h', toks := tk } _ _ hm fun h'' st'' hk2 => ?_⟩
    obtain ⟨x1, x2, x3, p1, p2, p3, rfl⟩ := hp
    obtain ⟨x, hx, rx⟩ := g1 i x1 p1
    obtain ⟨y, hy, ry⟩ := g2 i x2 p2
    obtain ⟨u, hu, ru⟩ := g3 i x3 p3
    have nT : T ∉ [z, TO, i1, i2, i3] := W.apart i T h' hm
    have hT2 : ∃ o, h''.get? T = some o ∧ o.cls = .type "tuple" ∧ ∃ n, o.data = .seq #[x1, x2, x3] n := by
      obtain ⟨o, e1, e2, e3⟩ := hTt
      exact ⟨o, hk2 T o nT e1, e2, e3⟩
    have new : ObjOk X.prog X.w (upd H T (.tup [x, y, u])) h'' T (.tup [x, y, u]) :=
      ⟨by show 3 ≤ sizeLine; decide, [x1, x2, x3], .cons rx (.cons ry (.cons ru .nil)), hT2⟩
    have I1 : Inv X pins σ (upd H T (.tup [x, y, u])) { s with heap := h'', toks := tk } :=
      I.turnedNew (t' := tk) (ch := [z, TI, TO, i1, i2, i3]) (fun c o hb q => hk2 c o (fun q' => hb (sb c q')) (hk c o (fun q' => hb (sb c q')) q)) hf hT new
    obtain ⟨z'', TI'', TO'', v1, v2, v3⟩ := st''
    refine ⟨.ref T, _, I1, rfl, ⟨T, x, y, u, rfl, I.hok.fresh hT, rfl, fun l hl => by rw [src_inj I hl hqx]; exact hx, fun l hl => by rw [src_inj I hl hqy]; exact hy, fun l hl => by rw [src_inj I hl hqz]; exact hu⟩, ⟨z'', TI'', TO'', f1 _ _ v1, f2 _ _ v2, f3 _ _ v3⟩, fun c hcm => ?_⟩
    have hlt : c < s.heap.objs.size := by
      have e' : c = z ∨ c = TI ∨ c = TO ∨ c = i1 ∨ c = i2 ∨ c = i3 := by simpa using hcm
      obtain ⟨_, _, _, hTO'⟩ := hTO
      rcases e' with q | q | q | q | q | q
      · rw [q]; exact Heap.lt_size hz
      · rw [q]; exact Heap.lt_size hTI
      · rw [q]; exact Heap.lt_size hTO'
      · rw [q]; obtain ⟨_, e1, _⟩ := h1.obj; exact Heap.lt_size e1
      · rw [q]; obtain ⟨_, e2, _⟩ := h2.obj; exact Heap.lt_size e2
      · rw [q]; obtain ⟨_, e3, _⟩ := h3.obj; exact Heap.lt_size e3
    rw [upd_ne (Nat.ne_of_lt (Nat.lt_of_lt_of_le hlt hT))]
    exact (hf c hcm).1
  · intro X hP hw hK hc i pins s σ H E I hf st hg
    subst hP hw hK
    obtain ⟨hz, hTI, hTO, h1, h2, h3⟩ := st
    obtain ⟨xs, ys, zs, hqx, hqy, hqz, hi⟩ := hg
    obtain ⟨P1, St1, D1, u1, f1, g1⟩ := src_draws (A := X.A.in1) I (I.ok.hd hc) hqx (a1 i1 (by simp)) h1
    obtain ⟨P2, St2, D2, u2, f2, g2⟩ := src_draws (A := X.A.in1) I (I.ok.hd hc) hqy (a2 i2 (by simp)) h2
    obtain ⟨P3, St3, D3, u3, f3, g3⟩ := src_draws (A := X.A.in1) I (I.ok.hd hc) hqz (a3 i3 (by simp)) h3
    have W := WalksT.zipD3 S D1 D2 D3
    rw [hi] at u1 u2 u3
    refine W.done s _ _ ⟨hz, hTI, hTO, u1, u2, u3⟩ fun h' tk hk => ⟨rfl, I.turnedL (t' := tk) (ch := [z, TI, TO, i1, i2, i3]) (fun c o hb q => hk c o (fun q' => hb (sb c q')) q) hf⟩
  · exact fun A i s Q E st h => wpAny_pyIter_zip st.1 h

theorem notNew {a N : Nat} (h : a < N) (k : Nat) : a ≠ N + k := Nat.ne_of_lt (Nat.lt_of_lt_of_le h (Nat.le_add_right ..))
/-! ### how a source begins -/
section
variable {X : Cx} {pins : List (Addr × Obj)} {σ : L2.St} {H : Hp} {s : Shared} {src : Src} {xs ys : List V} {u : Value}
theorem src_begins (I : Inv X pins σ H s) (hq : SrcIs X.K H src xs) (r : RelV src.v u) : ∃ (o : Obj) (B : Heap → Prop), Begins u o B ∧ B s.heap ∧ ∀ (h : Heap) (it : Addr), h.get? it = some o → SrcIt it 0 h src := by
  cases src with
  | l a =>
    cases r
    obtain ⟨its, rv, p, hz⟩ := I.list hq
    exact ⟨_, _, begins_list a its.toArray, p.isList, fun h it e => ⟨_, e, rfl, rfl⟩⟩
  | t a =>
    cases r
    obtain ⟨its, rv, p, hz⟩ := I.tuple hq
    exact ⟨_, _, begins_tuple a its.toArray, (show s.heap.IsTuple a its.toArray from p), fun h it e => ⟨_, e, rfl, rfl⟩⟩
  | s x =>
    obtain ⟨t, rfl⟩ := r
    exact ⟨_, _, begins_text x t, trivial, fun h it e => ⟨t, _, e, rfl, rfl⟩⟩
end
section
variable {X : Cx} {e e2 e3 : Expr} {ta : TA} {p pos tpos : Pos} {elts : List Expr} {kk : Nat}
def iZip2 (K : PySem.W.Frag) (ta : TA) : TI := fun σ H R => ta σ H fun vs H1 => ∃ s1 s2 xs ys, vs = [s1.v, s2.v] ∧ SrcIs K H1 s1 xs ∧ SrcIs K H1 s2 ys ∧ R (Itz2 K s1 s2) H1
def iZip3 (K : PySem.W.Frag) (ta : TA) : TI := fun σ H R => ta σ H fun vs H1 => ∃ s1 s2 s3 xs ys zs, vs = [s1.v, s2.v, s3.v] ∧ SrcIs K H1 s1 xs ∧ SrcIs K H1 s2 ys ∧ SrcIs K H1 s3 zs ∧ R (Itz3 K s1 s2 s3) H1
theorem pi_zip2 (hg : Gl X "zip") (hm : X.mg "zip" = none) (ha : PA X [e, e2] ta)
    (hs : starEach [e, e2] X.env = (false, eval e X.env) :: starEach [e2] X.env := by rfl) (hpl : (backTo pos (starEach [e2] X.env)).any (·.1) = false := by rfl) :
    PI X (.Tuple elts kk tpos) (.Call (.Name "zip" p) [e, e2] [] pos) (iZip2 X.K ta) := by
  refine ⟨fun pins s σ H R I h => ?_⟩
  refine Call_ (ld_blt I hg hm PyProof.Rows.boot_zip (PyProof.Rows.callWith_type1 (thn (ha.run pos pins s σ H _ I h) fun us s1 ⟨vs, H1, I1, r1, q1⟩ => ?_) hs hpl))
  obtain ⟨s1', s2', xs, ys, ex, hqx, hqy, q⟩ := q1
  subst ex
  cases r1 with
  | cons r rr =>
    cases rr with
    | cons r' rr =>
      cases rr
      obtain ⟨o1, B1, b1, c1, f1⟩ := src_begins I1 hqx r
      obtain ⟨o2, B2, b2, c2, f2⟩ := src_begins I1 hqy r'
      refine zip_begins2 b1 b2 c1 c2 fun h' hz hTI hTO h1 h2 hsz hk => wpAny_pyIter_zip hz ?_
      have I2 : Inv X pins σ H1 { s1 with heap := h' } := I1.kept (t' := s1.toks) hk
      have ol1 := src_old I1 hqx
      have ol2 := src_old I1 hqy
      refine ⟨s1.heap.objs.size + 4, [s1.heap.objs.size + 4, s1.heap.objs.size + 2, s1.heap.objs.size + 3, s1.heap.objs.size, s1.heap.objs.size + 1], _, _, H1, rfl, I2, turn_zip2 (s1 := s1') (s2 := s2') ⟨by simp, fun a ha => ?_⟩, ⟨hz, hTI, ⟨_, _, hTO⟩, f1 _ _ h1, f2 _ _ h2⟩, fun c hcm => ?_, q⟩
      · have hlt : a < s1.heap.objs.size := (List.mem_append.mp ha).elim (ol1 a) (ol2 a)
        simp only [List.mem_cons, List.not_mem_nil, or_false, not_or]
        exact ⟨notNew hlt 4, notNew hlt 2, notNew hlt 3, notNew hlt 0, notNew hlt 1⟩
      · have e' : c = s1.heap.objs.size + 4 ∨ c = s1.heap.objs.size + 2 ∨ c = s1.heap.objs.size + 3 ∨ c = s1.heap.objs.size ∨ c = s1.heap.objs.size + 1 := by simpa using hcm
        have hle : s1.heap.objs.size ≤ c := by
          rcases e' with q | q | q | q | q <;> rw [q] <;> first | exact Nat.le_add_right .. | exact Nat.le_refl _
        exact I1.fpOk hle (I1.hok.fresh hle)
theorem pi_zip3 (hg : Gl X "zip") (hm : X.mg "zip" = none) (ha : PA X [e, e2, e3] ta)
    (hs : starEach [e, e2, e3] X.env = (false, eval e X.env) :: starEach [e2, e3] X.env := by rfl) (hpl : (backTo pos (starEach [e2, e3] X.env)).any (·.1) = false := by rfl) :
    PI X (.Tuple elts kk tpos) (.Call (.Name "zip" p) [e, e2, e3] [] pos) (iZip3 X.K ta) := by
  refine ⟨fun pins s σ H R I h => ?_⟩
  refine Call_ (ld_blt I hg hm PyProof.Rows.boot_zip (PyProof.Rows.callWith_type1 (thn (ha.run pos pins s σ H _ I h) fun us s1 ⟨vs, H1, I1, r1, q1⟩ => ?_) hs hpl))
  obtain ⟨s1', s2', s3', xs, ys, zs, ex, hqx, hqy, hqz, q⟩ := q1
  subst ex
  cases r1 with
  | cons r rr =>
    cases rr with
    | cons r' rr =>
      cases rr with
      | cons r'' rr =>
        cases rr
        obtain ⟨o1, B1, b1, c1, f1⟩ := src_begins I1 hqx r
        obtain ⟨o2, B2, b2, c2, f2⟩ := src_begins I1 hqy r'
        obtain ⟨o3, B3, b3, c3, f3⟩ := src_begins I1 hqz r''
        refine zip_begins3 b1 b2 b3 c1 c2 c3 fun h' hz hTI hTO h1 h2 h3 hsz hk => wpAny_pyIter_zip hz ?_
        have I2 : Inv X pins σ H1 { s1 with heap := h' } := I1.kept (t' := s1.toks) hk
        have ol1 := src_old I1 hqx
        have ol2 := src_old I1 hqy
        have ol3 := src_old I1 hqz
        refine ⟨s1.heap.objs.size + 5, [s1.heap.objs.size + 5, s1.heap.objs.size + 3, s1.heap.objs.size + 4, s1.heap.objs.size, s1.heap.objs.size + 1, s1.heap.objs.size + 2], _, _, H1, rfl, I2, turn_zip3 (s1 := s1') (s2 := s2') (s3 := s3') ⟨by simp, fun a ha => ?_⟩, ⟨hz, hTI, ⟨_, _, _, hTO⟩, f1 _ _ h1, f2 _ _ h2, f3 _ _ h3⟩, fun c hcm => ?_, q⟩
        · have hlt : a < s1.heap.objs.size := (List.mem_append.mp ha).elim (ol1 a) fun ha => (List.mem_append.mp ha).elim (ol2 a) (ol3 a)
          simp only [List.mem_cons, List.not_mem_nil, or_false, not_or]
          exact ⟨notNew hlt 5, notNew hlt 3, notNew hlt 4, notNew hlt 0, notNew hlt 1, notNew hlt 2⟩
        · have e' : c = s1.heap.objs.size + 5 ∨ c = s1.heap.objs.size + 3 ∨ c = s1.heap.objs.size + 4 ∨ c = s1.heap.objs.size ∨ c = s1.heap.objs.size + 1 ∨ c = s1.heap.objs.size + 2 := by simpa using hcm
          have hle : s1.heap.objs.size ≤ c := by
            rcases e' with q | q | q | q | q | q <;> rw [q] <;> first | exact Nat.le_add_right .. | exact Nat.le_refl _
          exact I1.fpOk hle (I1.hok.fresh hle)
end
end PV
end

section
set_option Elab.async false
set_option linter.all false
set_option maxRecDepth 100000
set_option maxHeartbeats 1000000
/-! PV.R10: what loops walk; for, while; list comprehensions. -/
namespace PV
open PySem L2
open PyProof.Rows hiding St

/-! ### iterables -/
def IterOk (G : Gx) (w : Wd) (ρ : Env) (σ : L2.St) (sl : List Nat) (ds : List D) (J : It) : Prop :=
  ∀ P' w' ρ' h' σ' H', w.le w' → (∀ i ∈ sl, ρ'[i]? = ρ[i]? ∧ σ'[i]? = σ[i]?) → StR G P' w' ρ' h' σ' H' →
    (∀ i, i < ds.length → J.go i H') ∧ J.stop ds.length H' ∧ (∀ i x H2, i < ds.length → J.yld i H' x H2 → ∃ w2 d, w'.le w2 ∧ StR G P' w2 ρ' h' σ' H2 ∧ ds[i]? = some d ∧ Rep G w2 d x)
def RI (G : Gx) (W : WX) (it : EM (List D)) (sl : List Nat) : TI := fun σ H R => ∃ P w ρ h, StR G P w ρ h σ H ∧ EPost G W P w ρ σ (it ρ h) fun ds w1 h1 H1 => ∀ J, IterOk G w1 ρ σ sl ds J → R J H1
structure SI (X : Cx) (ca : Nat → Addr) (W : WX) (tg iter : Expr) (it : EM (List D)) (sl : List Nat) : Prop where
  pi : PI X tg iter (RI ⟨X.K, ca⟩ W it sl)
theorem _root_.L2.PI.imp {X : Cx} {tg e : Expr} {t t' : TI} (q : PI X tg e t) (k : ∀ σ H R, t' σ H R → t σ H R) : PI X tg e t' := ⟨fun pins s σ H R I h => q.run pins s σ H R I (k σ H R h)⟩

def SrcOk (G : Gx) (w : Wd) (ρ : Env) (σ : L2.St) (sl : List Nat) (ds : List D) (src : Src) : Prop :=
  ∀ P' w' ρ' h' σ' H', w.le w' → (∀ i ∈ sl, ρ'[i]? = ρ[i]? ∧ σ'[i]? = σ[i]?) → StR G P' w' ρ' h' σ' H' → ∃ xs, SrcIs G.K H' src xs ∧ Reps G w' ds xs
def signD (x : Str) : List D := x.cps.toList.map fun c => .str ⟨#[c]⟩
/-- what a value gives when it is gone through -/
def itemsD : D → Option (List D)
  | .lst ds => some ds
  | .tup ds => some ds
  | .str x => some (signD x)
  | _ => none
def eItems (c : EM D) : EM (List D) := eBind c fun d => eOpt (itemsD d)
section
variable {G : Gx} {W : WX} {P : Hp} {w w' : Wd} {ρ : Env} {h : Hh} {σ : L2.St} {H : Hp} {d : D} {ds : List D} {v : V} {sl : List Nat}
theorem rps_sign {F : Hp} {iot : List Addr} (l : List Nat) : Rps G F iot (l.map fun c => D.str ⟨#[c]⟩) (l.map fun c => V.str ⟨#[c]⟩) := by
  induction l with
  | nil => exact Rps.nil
  | cons c l ih => exact Rps.cons (by simp only [Rp]) ih
theorem items_src (e : itemsD d = some ds) (r : Rep G w d v) : ∃ src, v = src.v ∧ ∀ ρ σ, SrcOk G w ρ σ [] ds src := by
  cases d with
  | lst es =>
    cases e
    simp only [Rep, Rp] at r
    obtain ⟨a, vs, rfl, z, f, r⟩ := r
    exact ⟨.l a, rfl, fun ρ σ P' w' ρ' h' σ' H' l _ s => ⟨vs, SqL.mono s.hr.fr (SqL.mono l.1 f), Reps.le r l⟩⟩
  | tup es =>
    cases e
    simp only [Rep, Rp] at r
    obtain ⟨a, vs, rfl, z, f, r⟩ := r
    exact ⟨.t a, rfl, fun ρ σ P' w' ρ' h' σ' H' l _ s => ⟨vs, SqT.mono s.hr.fr (SqT.mono l.1 f), Reps.le r l⟩⟩
  | str x =>
    cases e
    simp only [Rep, Rp] at r
    exact ⟨.s x, r, fun ρ σ P' w' ρ' h' σ' H' l _ s => ⟨signV x, rfl, rps_sign x.cps.toList⟩⟩
  | _ => cases e
theorem own_src {i : Nat} {ds : List D} (s : StR G P w ρ h σ H) (e : ρ[i]? = some (.own (.lst ds))) : ∃ a, σ[i]? = some (some (.ref a)) ∧ SrcOk G w ρ σ [i] ds (.l a) := by
  obtain ⟨a, e1, e2, _⟩ := s.own i _ e
  refine ⟨a, e1, fun P' w' ρ' h' σ' H' l ag s' => ?_⟩
  obtain ⟨q1, q2⟩ := ag i (List.mem_singleton.mpr rfl)
  obtain ⟨b, f1, f2, _⟩ := s'.own i _ (q1.trans e)
  rw [q2, e1] at f1
  cases f1
  obtain ⟨vs, z, e3, r⟩ := own_lst f2
  exact ⟨vs, SqL.of e3, r⟩
/-- the walk of one source -/
def srcJ (K : PySem.W.Frag) : Src → It
  | .l a => Itl K a
  | .t a => Itt K a
  | .s x => Its x
theorem srcJ_ok {src : Src} (o : SrcOk G w ρ σ sl ds src) : IterOk G w ρ σ sl ds (srcJ G.K src) := fun P' w' ρ' h' σ' H' l ag s => by
  obtain ⟨xs, e, r⟩ := o P' w' ρ' h' σ' H' l ag s
  have hl : ds.length = xs.length := r.length
  have give : ∀ {i : Nat} {x : V}, xs[i]? = some x → ∃ w2 d, w'.le w2 ∧ StR G P' w2 ρ' h' σ' H' ∧ ds[i]? = some d ∧ Rep G w2 d x := fun {i x} q => by
    obtain ⟨d, e1, e2⟩ := r.getV q
    exact ⟨w', d, Wd.le.refl _, s, e1, e2⟩
  cases src with
  | l a =>
    refine ⟨fun i hi => ⟨xs, xs[i]'(by omega), e, by simp⟩, ⟨xs, e, by omega⟩, fun i x H2 hi ⟨y1, y2⟩ => ?_⟩
    subst y1
    exact give (y2 xs e)
  | t a =>
    refine ⟨fun i hi => ⟨xs, xs[i]'(by omega), e, by simp⟩, ⟨xs, e, by omega⟩, fun i x H2 hi ⟨y1, y2⟩ => ?_⟩
    subst y1
    exact give (y2 xs e)
  | s z =>
    have ez : xs = signV z := e
    have hz : xs.length = z.cps.size := by rw [ez]; unfold signV; rw [List.length_map, Array.length_toList]
    refine ⟨fun i hi => (by show i < z.cps.size; omega), (by show z.cps.size ≤ ds.length; omega), fun i x H2 hi ⟨y1, c, y2, y3⟩ => ?_⟩
    subst y1
    refine give ?_
    rw [ez, y3]
    unfold signV
    rw [List.getElem?_map, Array.getElem?_toList, y2]
    rfl
end
section
variable {X : Cx} {ca : Nat → Addr} {W : WX} {e a b tg : Expr} {es : List Expr} {c c1 c2 : EM D} {cs : EM (List D)} {sl : List Nat} {pos p tpos : Pos} {i kk : Nat} {x : Str} {elts : List Expr}
/-- a source, walked -/
def iSrc (K : PySem.W.Frag) (te : TE) : TI := fun σ H R => te σ H fun v H1 => ∃ src xs, v = src.v ∧ SrcIs K H1 src xs ∧ R (srcJ K src) H1
theorem pi_src {te : TE} (he : PE X e te) : PI X tg e (iSrc X.K te) := by
  refine ⟨fun pins s σ H R I h => ?_⟩
  refine thn (he.run pins s σ H _ I h) fun v s1 ⟨y, H1, I1, r1, src, xs, ex, hq, q⟩ => ?_
  subst ex
  cases src with
  | l a =>
    cases r1
    obtain ⟨its, rv, p, hz⟩ := I1.list hq
    exact wpAny_pyIter_list p.isList (pi_one (tk := s1.toks) I1 _ (turn_list a _) ⟨_, Heap.get?_push_size _ rfl, rfl, rfl⟩ q)
  | t a =>
    cases r1
    obtain ⟨its, rv, p, hz⟩ := I1.tuple hq
    exact wpAny_pyIter_tuple (show s1.heap.IsTuple a its.toArray from p) (pi_one (tk := s1.toks) I1 _ (turn_tuple a _) ⟨_, Heap.get?_push_size _ rfl, rfl, rfl⟩ q)
  | s x =>
    obtain ⟨t, rfl⟩ := r1
    cases ha : x.cps.all (· < 128)
    · exact wpAny_pyIter_wide ha (pi_one (tk := s1.toks) I1 _ (turn_str _ x t "str_iterator" (.inr rfl)) ⟨_, Heap.get?_push_size _ rfl, rfl, rfl⟩ q)
    · exact wpAny_pyIter_ascii ha (pi_one (tk := s1.toks) I1 _ (turn_str _ x t "str_ascii_iterator" (.inl rfl)) ⟨_, Heap.get?_push_size _ rfl, rfl, rfl⟩ q)
theorem src_now {G : Gx} {P : Hp} {w : Wd} {ρ : Env} {h : Hh} {σ : L2.St} {H : Hp} {ds : List D} {src : Src} (s : StR G P w ρ h σ H) (o : SrcOk G w ρ σ sl ds src) : ∃ xs, SrcIs G.K H src xs := by
  obtain ⟨xs, q, _⟩ := o P w ρ h σ H (Wd.le.refl _) (fun _ _ => ⟨rfl, rfl⟩) s
  exact ⟨xs, q⟩
/-- over a frozen value -/
theorem si_e (h : SE X ca W e c) : SI X ca W tg e (eItems c) [] :=
  ⟨(pi_src h.pe).imp fun σ H R ⟨P, w, ρ, h, st, k⟩ => ⟨P, w, ρ, h, st, (EPost.bind k).imp fun d w1 h1 H1 l1 s1 k1 v r => by
    obtain ⟨ds, e, k2⟩ := k1.opt s1
    obtain ⟨src, ev, ok⟩ := items_src e r
    obtain ⟨xs, q⟩ := src_now s1 (ok ρ σ)
    exact ⟨src, xs, ev, q, k2 _ (srcJ_ok (ok ρ σ))⟩⟩⟩
/-- over a name's own list, as it stands -/
theorem si_own (i : Nat) {xp : Pos} (hN : X.N[i]? = some x := by rfl) (hv : Vis X.env.scope x := by first | exact Or.inl rfl | exact Or.inr (Or.inl rfl) | exact Or.inr (Or.inr rfl))
    (hd : (x == ("__debug__" : Str)) = false := by decide) (hcd : (x == ("__classdict__" : Str)) = false := by decide) : SI X ca W tg (.Name x xp) (eItems (eOwn i)) [i] :=
  ⟨(pi_src (pv i hN hv hd hcd)).imp fun σ H R ⟨P, w, ρ, h, st, k⟩ => by
    have k1 := EPost.bind k
    unfold eOwn at k1
    split at k1
    · rename_i d q
      obtain ⟨ds, e, k2⟩ := (k1 w H (Wd.le.refl _) st).opt st
      obtain ⟨a, e1, e2, _⟩ := st.own i d q
      cases d with
      | lst es =>
        cases e
        obtain ⟨a', f1, ok⟩ := own_src st q
        rw [e1] at f1
        cases f1
        obtain ⟨xs, q2⟩ := src_now st ok
        exact ⟨.ref a, e1, .l a, xs, rfl, q2, k2 _ (srcJ_ok ok)⟩
      | dic es => cases e
      | _ => exact e2.elim
    · exact k1.elim⟩
/-- ranges -/
def rngD (lo hi : Int) : Option (List D) := if -(2 ^ 62) ≤ lo ∧ lo < 2 ^ 62 ∧ -(2 ^ 62) ≤ hi ∧ hi < 2 ^ 62 then some ((List.range (hi - lo).toNat).map fun i => .int (lo + (i : Nat))) else none
def eRng1 (cs : EM (List D)) : EM (List D) := eBind cs fun ds => eOpt (match ds with | [.int j] => rngD 0 j | _ => none)
def eRng2 (cs : EM (List D)) : EM (List D) := eBind cs fun ds => eOpt (match ds with | [.int i, .int j] => rngD i j | _ => none)
theorem rng_ok {G : Gx} {w : Wd} {ρ : Env} {σ : L2.St} {lo : Int} {n : Nat} : IterOk G w ρ σ [] ((List.range n).map fun i => .int (lo + (i : Nat))) (Itr lo n) := fun P' w' ρ' h' σ' H' l ag s => by
  have hl : ((List.range n).map fun i => D.int (lo + (i : Nat))).length = n := by rw [List.length_map, List.length_range]
  refine ⟨fun i hi => (by show i < n; omega), (by show n ≤ _; omega), fun i x H2 hi ⟨y1, y2⟩ => ?_⟩
  subst y1
  subst y2
  refine ⟨w', .int (lo + (i : Nat)), Wd.le.refl _, s, ?_, by simp only [Rep, Rp]⟩
  rw [List.getElem?_map, List.getElem?_range (by omega)]
  rfl
theorem rngD_some {lo hi : Int} {ds : List D} (e : rngD lo hi = some ds) : (-(2 ^ 62) ≤ lo ∧ lo < 2 ^ 62 ∧ -(2 ^ 62) ≤ hi ∧ hi < 2 ^ 62) ∧ ds = (List.range (hi - lo).toNat).map fun i => .int (lo + (i : Nat)) := by
  unfold rngD at e
  split at e
  · rename_i z
    cases e
    exact ⟨z, rfl⟩
  · cases e
theorem si_rng1 (ha : SA X ca W [a] cs) (hm : X.mg "range" = none) (hg : Gl X "range" := by rfl) (hs : starEach [a] X.env = [(false, eval a X.env)] := by rfl) : SI X ca W tg (.Call (.Name "range" p) [a] [] pos) (eRng1 cs) [] :=
  ⟨(pi_range1 hg hm ha.pa hs).imp fun σ H R ⟨P, w, ρ, h, st, k⟩ => ⟨P, w, ρ, h, st, (EPost.bind k).imp fun xs w1 h1 H1 l1 s1 k1 vs rs => by
    obtain ⟨ds, e, k2⟩ := k1.opt s1
    split at e
    · rename_i j
      simp only [Reps, Rps, Rp] at rs
      obtain ⟨v, r, rfl, rfl, rfl⟩ := rs
      obtain ⟨⟨z1, z2, z3, z4⟩, ed⟩ := rngD_some e
      subst ed
      refine ⟨j, rfl, z3, z4, k2 _ ?_⟩
      have : (j - 0).toNat = j.toNat := by rw [Int.sub_zero]
      rw [this]
      exact rng_ok
    · cases e⟩⟩
theorem si_rng2 (ha : SA X ca W [a, b] cs) (hm : X.mg "range" = none) (hg : Gl X "range" := by rfl) (hs : starEach [a, b] X.env = [(false, eval a X.env), (false, eval b X.env)] := by rfl) (hs2 : starEach [b] X.env = [(false, eval b X.env)] := by rfl) : SI X ca W tg (.Call (.Name "range" p) [a, b] [] pos) (eRng2 cs) [] :=
  ⟨(pi_range2 hg hm ha.pa hs hs2).imp fun σ H R ⟨P, w, ρ, h, st, k⟩ => ⟨P, w, ρ, h, st, (EPost.bind k).imp fun xs w1 h1 H1 l1 s1 k1 vs rs => by
    obtain ⟨ds, e, k2⟩ := k1.opt s1
    split at e
    · rename_i i j
      simp only [Reps, Rps, Rp] at rs
      obtain ⟨v, r, rfl, rfl, v2, r2, rfl, rfl, rfl⟩ := rs
      obtain ⟨z, ed⟩ := rngD_some e
      subst ed
      exact ⟨i, j, rfl, z, k2 _ rng_ok⟩
    · cases e⟩⟩
/-- a new pair is laid -/
theorem lay_tup {G : Gx} {P : Hp} {w : Wd} {ρ : Env} {h : Hh} {σ : L2.St} {H : Hp} {T : Addr} {ds : List D} {vs : List V} (s : StR G P w ρ h σ H) (n : H T = none) (r : Reps G w ds vs) (hz : vs.length ≤ sizeLine) :
    ∃ w2, w.le w2 ∧ StR G P w2 ρ h σ (upd H T (.tup vs)) ∧ Rep G w2 (.tup ds) (.ref T) := by
  have le2 : w.le (w.frz T (.tup vs)) := Wd.frz_le (s.hr.notF n)
  refine ⟨w.frz T (.tup vs), le2, (s.alloc n).frz upd_same (s.hr.notF n) (s.hr.notiot n) (s.hr.notP n) fun i x q hq => ?_, ?_⟩
  · obtain ⟨b, e1, e2, _⟩ := s.own i x q
    obtain ⟨u, e3⟩ := e2.some
    rw [hq] at e1
    cases e1
    rw [n] at e3
    cases e3
  · simp only [Rep, Rp]
    exact ⟨T, vs, rfl, hz, SqT.of Wd.frz_same, Reps.le r le2⟩
/-- enumerate(a list) -/
def enumD (n : Nat) : List D → List D
  | [] => []
  | d :: ds => .tup [.int (n : Nat), d] :: enumD (n + 1) ds
theorem enumD_get : ∀ (ds : List D) (n i : Nat) {d : D}, ds[i]? = some d → (enumD n ds)[i]? = some (.tup [.int ((n + i : Nat)), d])
  | [], n, i, d, e => by simp at e
  | x :: ds, n, 0, d, e => by
    simp at e
    subst e
    rfl
  | x :: ds, n, i + 1, d, e => by
    have := enumD_get ds (n + 1) i (d := d) (by simpa using e)
    rw [show n + 1 + i = n + (i + 1) by omega] at this
    exact this
theorem enumD_len : ∀ (ds : List D) (n : Nat), (enumD n ds).length = ds.length
  | [], n => rfl
  | x :: ds, n => by
    show (enumD (n + 1) ds).length + 1 = ds.length + 1
    rw [enumD_len ds (n + 1)]
def lstD : D → Option (List D)
  | .lst ds => some ds
  | _ => none
def eEnum (cs : EM (List D)) : EM (List D) := eBind cs fun ds => eOpt (match ds with | [x] => (lstD x).map (enumD 0) | _ => none)
theorem enum_ok {G : Gx} {w : Wd} {ρ : Env} {σ : L2.St} {ds : List D} {a : Addr} (o : SrcOk G w ρ σ sl ds (.l a)) : IterOk G w ρ σ sl (enumD 0 ds) (Ite G.K a) := fun P' w' ρ' h' σ' H' l ag s => by
  obtain ⟨xs, e, r⟩ := o P' w' ρ' h' σ' H' l ag s
  have hl : ds.length = xs.length := r.length
  rw [enumD_len]
  refine ⟨fun i hi => ⟨xs, xs[i]'(by omega), e, by simp⟩, ⟨xs, e, by omega⟩, fun i v H2 hi ⟨T, x, y1, y2, y3, y4⟩ => ?_⟩
  subst y1
  subst y3
  obtain ⟨d, e1, e2⟩ := r.getV (y4 xs e)
  obtain ⟨w2, l2, s2, r2⟩ := lay_tup (ds := [.int (i : Nat), d]) (vs := [.int (i : Nat), x]) s y2 (Rps.cons (by simp only [Rp]) (Rps.cons e2 Rps.nil)) (by show 2 ≤ sizeLine; decide)
  have := enumD_get ds 0 i e1
  rw [Nat.zero_add] at this
  exact ⟨w2, _, l2, s2, this, r2⟩
theorem si_enum {p2 : Pos} (ha : SA X ca W [e] cs) (hm : X.mg "enumerate" = none) (hg : Gl X "enumerate" := by rfl) (hs : starEach [e] X.env = [(false, eval e X.env)] := by rfl) :
    SI X ca W (.Tuple elts kk tpos) (.Call (.Name "enumerate" p) [e] [] pos) (eEnum cs) [] :=
  ⟨(pi_enum hg hm ha.pa hs).imp fun σ H R ⟨P, w, ρ, h, st, k⟩ => ⟨P, w, ρ, h, st, (EPost.bind k).imp fun xs w1 h1 H1 l1 s1 k1 vs rs => by
    obtain ⟨ds, e, k2⟩ := k1.opt s1
    split at e
    · rename_i x
      cases x with
      | lst es =>
        cases e
        simp only [Reps, Rps] at rs
        obtain ⟨v, r, rfl, rv, rfl⟩ := rs
        have rv' := rv
        simp only [Rp] at rv'
        obtain ⟨a, us, rfl, z, f, r2⟩ := rv'
        refine ⟨a, us, rfl, SqL.mono s1.hr.fr f, k2 _ (enum_ok ?_)⟩
        exact fun P' w' ρ' h' σ' H' l _ s => ⟨us, SqL.mono s.hr.fr (SqL.mono l.1 f), Reps.le r2 l⟩
      | _ => cases e
    · cases e⟩⟩
/-- zip -/
def zip2D : List D → List D → List D
  | x :: xs, y :: ys => .tup [x, y] :: zip2D xs ys
  | _, _ => []
def zip3D : List D → List D → List D → List D
  | x :: xs, y :: ys, z :: zs => .tup [x, y, z] :: zip3D xs ys zs
  | _, _, _ => []
theorem zip2D_len : ∀ (xs ys : List D), (zip2D xs ys).length = min xs.length ys.length
  | [], ys => by simp [zip2D]
  | x :: xs, [] => by simp [zip2D]
  | x :: xs, y :: ys => by
    show (zip2D xs ys).length + 1 = min (xs.length + 1) (ys.length + 1)
    rw [zip2D_len xs ys]
    omega
theorem zip3D_len : ∀ (xs ys zs : List D), (zip3D xs ys zs).length = min (min xs.length ys.length) zs.length
  | [], ys, zs => by simp [zip3D]
  | x :: xs, [], zs => by simp [zip3D]
  | x :: xs, y :: ys, [] => by simp [zip3D]
  | x :: xs, y :: ys, z :: zs => by
    show (zip3D xs ys zs).length + 1 = min (min (xs.length + 1) (ys.length + 1)) (zs.length + 1)
    rw [zip3D_len xs ys zs]
    omega
theorem zip2D_get : ∀ (xs ys : List D) (i : Nat) {x y : D}, xs[i]? = some x → ys[i]? = some y → (zip2D xs ys)[i]? = some (.tup [x, y])
  | [], ys, i, x, y, e1, e2 => by simp at e1
  | a :: xs, [], i, x, y, e1, e2 => by simp at e2
  | a :: xs, b :: ys, 0, x, y, e1, e2 => by
    simp at e1 e2
    subst e1 e2
    rfl
  | a :: xs, b :: ys, i + 1, x, y, e1, e2 => by
    show (zip2D xs ys)[i]? = _
    exact zip2D_get xs ys i (by simpa using e1) (by simpa using e2)
theorem zip3D_get : ∀ (xs ys zs : List D) (i : Nat) {x y z : D}, xs[i]? = some x → ys[i]? = some y → zs[i]? = some z → (zip3D xs ys zs)[i]? = some (.tup [x, y, z])
  | [], ys, zs, i, x, y, z, e1, e2, e3 => by simp at e1
  | a :: xs, [], zs, i, x, y, z, e1, e2, e3 => by simp at e2
  | a :: xs, b :: ys, [], i, x, y, z, e1, e2, e3 => by simp at e3
  | a :: xs, b :: ys, c :: zs, 0, x, y, z, e1, e2, e3 => by
    simp at e1 e2 e3
    subst e1 e2 e3
    rfl
  | a :: xs, b :: ys, c :: zs, i + 1, x, y, z, e1, e2, e3 => by
    show (zip3D xs ys zs)[i]? = _
    exact zip3D_get xs ys zs i (by simpa using e1) (by simpa using e2) (by simpa using e3)
def eZip2 (cs : EM (List D)) : EM (List D) := eBind cs fun ds => eOpt (match ds with | [x, y] => (itemsD x).bind fun xs => (itemsD y).map fun ys => zip2D xs ys | _ => none)
def eZip3 (cs : EM (List D)) : EM (List D) := eBind cs fun ds => eOpt (match ds with | [x, y, z] => (itemsD x).bind fun xs => (itemsD y).bind fun ys => (itemsD z).map fun zs => zip3D xs ys zs | _ => none)
theorem zip2_ok {G : Gx} {w : Wd} {ρ : Env} {σ : L2.St} {ds es : List D} {s1 s2 : Src} (o1 : SrcOk G w ρ σ sl ds s1) (o2 : SrcOk G w ρ σ sl es s2) : IterOk G w ρ σ sl (zip2D ds es) (Itz2 G.K s1 s2) := fun P' w' ρ' h' σ' H' l ag s => by
  obtain ⟨xs, q1, r1⟩ := o1 P' w' ρ' h' σ' H' l ag s
  obtain ⟨ys, q2, r2⟩ := o2 P' w' ρ' h' σ' H' l ag s
  have l1 : ds.length = xs.length := r1.length
  have l2 : es.length = ys.length := r2.length
  rw [zip2D_len]
  refine ⟨fun i hi => ⟨xs, ys, q1, q2, by omega, by omega⟩, ⟨xs, ys, q1, q2, by omega⟩, fun i v H2 hi ⟨T, x, y, y1, y2, y3, y4, y5⟩ => ?_⟩
  subst y1
  subst y3
  obtain ⟨d, e1, e2⟩ := r1.getV (y4 xs q1)
  obtain ⟨d', e3, e4⟩ := r2.getV (y5 ys q2)
  obtain ⟨w2, l2, s2, r2⟩ := lay_tup (ds := [d, d']) (vs := [x, y]) s y2 (Rps.cons e2 (Rps.cons e4 Rps.nil)) (by show 2 ≤ sizeLine; decide)
  exact ⟨w2, _, l2, s2, zip2D_get ds es i e1 e3, r2⟩
theorem zip3_ok {G : Gx} {w : Wd} {ρ : Env} {σ : L2.St} {ds es fs : List D} {s1 s2 s3 : Src} (o1 : SrcOk G w ρ σ sl ds s1) (o2 : SrcOk G w ρ σ sl es s2) (o3 : SrcOk G w ρ σ sl fs s3) : IterOk G w ρ σ sl (zip3D ds es fs) (Itz3 G.K s1 s2 s3) := fun P' w' ρ' h' σ' H' l ag s => by
  obtain ⟨xs, q1, r1⟩ := o1 P' w' ρ' h' σ' H' l ag s
  obtain ⟨ys, q2, r2⟩ := o2 P' w' ρ' h' σ' H' l ag s
  obtain ⟨zs, q3, r3⟩ := o3 P' w' ρ' h' σ' H' l ag s
  have l1 : ds.length = xs.length := r1.length
  have l2 : es.length = ys.length := r2.length
  have l3 : fs.length = zs.length := r3.length
  rw [zip3D_len]
  refine ⟨fun i hi => ⟨xs, ys, zs, q1, q2, q3, by omega, by omega, by omega⟩, ⟨xs, ys, zs, q1, q2, q3, by omega⟩, fun i v H2 hi ⟨T, x, y, z, y1, y2, y3, y4, y5, y6⟩ => ?_⟩
  subst y1
  subst y3
  obtain ⟨d, e1, e2⟩ := r1.getV (y4 xs q1)
  obtain ⟨d', e3, e4⟩ := r2.getV (y5 ys q2)
  obtain ⟨d'', e5, e6⟩ := r3.getV (y6 zs q3)
  obtain ⟨w2, l2, s2, r2⟩ := lay_tup (ds := [d, d', d'']) (vs := [x, y, z]) s y2 (Rps.cons e2 (Rps.cons e4 (Rps.cons e6 Rps.nil))) (by show 3 ≤ sizeLine; decide)
  exact ⟨w2, _, l2, s2, zip3D_get ds es fs i e1 e3 e5, r2⟩
theorem si_zip2 (ha : SA X ca W [e, a] cs) (hm : X.mg "zip" = none) (hg : Gl X "zip" := by rfl) (hs : starEach [e, a] X.env = (false, eval e X.env) :: starEach [a] X.env := by rfl) (hpl : (backTo pos (starEach [a] X.env)).any (·.1) = false := by rfl) :
    SI X ca W (.Tuple elts kk tpos) (.Call (.Name "zip" p) [e, a] [] pos) (eZip2 cs) [] :=
  ⟨(pi_zip2 hg hm ha.pa hs hpl).imp fun σ H R ⟨P, w, ρ, h, st, k⟩ => ⟨P, w, ρ, h, st, (EPost.bind k).imp fun xs w1 h1 H1 l1 s1 k1 vs rs => by
    obtain ⟨ds, e, k2⟩ := k1.opt s1
    split at e
    · rename_i x y
      cases ex : itemsD x with
      | none => rw [ex] at e; cases e
      | some es =>
        cases ey : itemsD y with
        | none => rw [ex, ey] at e; cases e
        | some fs =>
          rw [ex, ey] at e
          cases e
          simp only [Reps, Rps] at rs
          obtain ⟨v, r, rfl, rv, v2, r2, rfl, rv2, rfl⟩ := rs
          obtain ⟨src, rfl, o1⟩ := items_src ex rv
          obtain ⟨src2, rfl, o2⟩ := items_src ey rv2
          obtain ⟨us, q1⟩ := src_now s1 (o1 ρ σ)
          obtain ⟨us2, q2⟩ := src_now s1 (o2 ρ σ)
          exact ⟨src, src2, us, us2, rfl, q1, q2, k2 _ (zip2_ok (o1 ρ σ) (o2 ρ σ))⟩
    · cases e⟩⟩
theorem si_zip3 (ha : SA X ca W [e, a, b] cs) (hm : X.mg "zip" = none) (hg : Gl X "zip" := by rfl) (hs : starEach [e, a, b] X.env = (false, eval e X.env) :: starEach [a, b] X.env := by rfl) (hpl : (backTo pos (starEach [a, b] X.env)).any (·.1) = false := by rfl) :
    SI X ca W (.Tuple elts kk tpos) (.Call (.Name "zip" p) [e, a, b] [] pos) (eZip3 cs) [] :=
  ⟨(pi_zip3 hg hm ha.pa hs hpl).imp fun σ H R ⟨P, w, ρ, h, st, k⟩ => ⟨P, w, ρ, h, st, (EPost.bind k).imp fun xs w1 h1 H1 l1 s1 k1 vs rs => by
    obtain ⟨ds, e, k2⟩ := k1.opt s1
    split at e
    · rename_i x y z
      cases ex : itemsD x with
      | none => rw [ex] at e; cases e
      | some es =>
        cases ey : itemsD y with
        | none => rw [ex, ey] at e; cases e
        | some fs =>
          cases ez : itemsD z with
          | none => rw [ex, ey, ez] at e; cases e
          | some gs =>
            rw [ex, ey, ez] at e
            cases e
            simp only [Reps, Rps] at rs
            obtain ⟨v, r, rfl, rv, v2, r2, rfl, rv2, v3, r3, rfl, rv3, rfl⟩ := rs
            obtain ⟨src, rfl, o1⟩ := items_src ex rv
            obtain ⟨src2, rfl, o2⟩ := items_src ey rv2
            obtain ⟨src3, rfl, o3⟩ := items_src ez rv3
            obtain ⟨us, q1⟩ := src_now s1 (o1 ρ σ)
            obtain ⟨us2, q2⟩ := src_now s1 (o2 ρ σ)
            obtain ⟨us3, q3⟩ := src_now s1 (o3 ρ σ)
            exact ⟨src, src2, src3, us, us2, us3, rfl, q1, q2, q3, k2 _ (zip3_ok (o1 ρ σ) (o2 ρ σ) (o3 ρ σ))⟩
    · cases e⟩⟩
end

/-! ### for -/
def sForL (t : TM) (body : SM) : List D → SM
  | [] => sNext
  | d :: ds => fun ρ h => match t d ρ with
    | none => .stuck
    | some ρ' => match body ρ' h with
      | .ok .next ρ2 h2 => sForL t body ds ρ2 h2
      | .ok .cont ρ2 h2 => sForL t body ds ρ2 h2
      | .ok .brk ρ2 h2 => .ok .next ρ2 h2
      | r => r
def sFor (it : EM (List D)) (t : TM) (body : SM) : SM := sBind it fun ds => sForL t body ds
/-- the state of mind at turn i -/
def ForS (G : Gx) (W : WX) (E : Ends) (P : Hp) (w1 : Wd) (t : TM) (body : SM) (ds : List D) (i : Nat) (σ : L2.St) (H : Hp) : Prop :=
  ∃ w' ρ' h', w1.le w' ∧ StR G P w' ρ' h' σ H ∧ SPost G W E P w' (sForL t body (ds.drop i) ρ' h')
section
variable {X : Cx} {ca : Nat → Addr} {W : WX} {tg iter e : Expr} {it : EM (List D)} {t : TM} {tv : List Nat} {body : List Stmt} {m : SM} {pos : Pos}
theorem drop_get {α : Type} {ds : List α} {i : Nat} {d : α} (e : ds[i]? = some d) : ds.drop i = d :: ds.drop (i + 1) := by
  obtain ⟨hi, e'⟩ := List.getElem?_eq_some_iff.mp e
  rw [List.drop_eq_getElem_cons hi, e']
theorem ss_for (hp : PassesOwn (model X.prog X.w) X.A X.env X.xe) (hc : X.calm = true) (hi : SI X ca W tg iter it []) (hg : SG X ca tg t tv) (hb : SSs X ca W body m)
    (hs : ∀ x, foldedSetIterable iter X.env x = pure x := by intro _; rfl) : SS X ca W (.For tg iter body [] pos) (sFor it t m) :=
  ⟨(ps_for hp hc hi.pi hg.pg hb.ps hs).imp fun E σ H ⟨P, w, ρ, h, s, k⟩ => ⟨P, w, ρ, h, s, (SPost.bind k).imp fun ds w1 h1 H1 l1 s1 k1 J ok => by
    refine ⟨fun i n σ H => n = ds.length - i ∧ i ≤ ds.length ∧ ForS ⟨X.K, ca⟩ W E P w1 t m ds i σ H, ⟨ds.length, by simp, Nat.zero_le _, w1, ρ, h1, Wd.le.refl _, s1, by simpa using k1⟩, ?_⟩
    rintro i n σ' H' ⟨rfl, hi, w', ρ', h', l', s', k'⟩
    obtain ⟨go, stop, yld⟩ := ok P w' ρ' h' σ' H' l' (fun _ hh => by cases hh) s'
    by_cases hlt : i < ds.length
    · refine .inr ⟨go i hlt, ForS ⟨X.K, ca⟩ W E P w1 t m ds (i + 1), fun σ2 H2 f => ⟨ds.length - (i + 1), by omega, rfl, hlt, f⟩, fun x H2 y => ?_⟩
      obtain ⟨w2, d, l2, s2, ed, rd⟩ := yld i x H2 hlt y
      rw [drop_get ed] at k'
      unfold sForL at k'
      split at k'
      · exact k'.elim
      · rename_i ρ2 eρ
        refine ⟨P, w2, ρ', h', d, ρ2, s2, rd, eρ, fun σ3 s3 _ => ⟨P, w2, ρ2, h', s3, ?_⟩⟩
        have k2 := k'.le l2
        revert k2
        cases m ρ2 h' with
        | stuck => exact fun k2 => k2
        | exc c p ρ4 h4 => exact fun k2 => k2
        | ok fl ρ4 h4 =>
          cases fl with
          | next => exact fun k2 w4 σ4 H4 l4 s4 => ⟨w4, ρ4, h4, (l'.trans l2).trans l4, s4, k2.le l4⟩
          | cont => exact fun k2 w4 σ4 H4 l4 s4 => ⟨w4, ρ4, h4, (l'.trans l2).trans l4, s4, k2.le l4⟩
          | brk => exact fun k2 => k2
          | ret d => exact fun k2 => k2
          | retN d => exact fun k2 => k2
    · have e : i = ds.length := by omega
      subst e
      refine .inl ⟨stop, ?_⟩
      rw [List.drop_length] at k'
      exact k' w' σ' H' (Wd.le.refl _) s'⟩⟩
/-! ### while, by a bound on its turns -/
def sWhile (b : EM Bool) (body : SM) : Nat → SM
  | 0 => sStuck
  | n + 1 => sBind b fun c => if c = true then fun ρ h => (match body ρ h with
      | .ok .next ρ2 h2 => sWhile b body n ρ2 h2
      | .ok .cont ρ2 h2 => sWhile b body n ρ2 h2
      | .ok .brk ρ2 h2 => .ok .next ρ2 h2
      | r => r) else sNext
def WhileS (G : Gx) (W : WX) (E : Ends) (P : Hp) (w1 : Wd) (b : EM Bool) (body : SM) (n : Nat) (σ : L2.St) (H : Hp) : Prop :=
  ∃ w' ρ' h', w1.le w' ∧ StR G P w' ρ' h' σ H ∧ SPost G W E P w' (sWhile b body n ρ' h')
theorem ss_while (n : Nat) {b : EM Bool} (hp : PassesOwn (model X.prog X.w) X.A X.env X.xe) (ht : SB X ca W e b) (hb : SSs X ca W body m) : SS X ca W (.While e body [] pos) (sWhile b m n) :=
  ⟨(ps_while hp ht.pt hb.ps).imp fun E σ H ⟨P, w, ρ, h, s, k⟩ => by
    refine ⟨fun n σ H => WhileS ⟨X.K, ca⟩ W E P w b m n σ H, ⟨n, w, ρ, h, Wd.le.refl _, s, k⟩, ?_⟩
    rintro n σ' H' ⟨w', ρ', h', l', s', k'⟩
    cases n with
    | zero => exact k'.elim
    | succ n =>
      unfold sWhile at k'
      refine ⟨P, w', ρ', h', s', (SPost.bind k').imp fun c w2 h2 H2 l2 s2 k2 => ?_⟩
      cases c with
      | false => exact k2 w2 σ' H2 (Wd.le.refl _) s2
      | true =>
        refine ⟨WhileS ⟨X.K, ca⟩ W E P w b m n, fun σ3 H3 f => ⟨n, Nat.lt_succ_self _, f⟩, P, w2, ρ', h2, s2, ?_⟩
        simp only [if_true] at k2
        revert k2
        cases m ρ' h2 with
        | stuck => exact fun k2 => k2
        | exc c p ρ4 h4 => exact fun k2 => k2
        | ok fl ρ4 h4 =>
          cases fl with
          | next => exact fun k2 w4 σ4 H4 l4 s4 => ⟨w4, ρ4, h4, (l'.trans l2).trans l4, s4, k2.le l4⟩
          | cont => exact fun k2 w4 σ4 H4 l4 s4 => ⟨w4, ρ4, h4, (l'.trans l2).trans l4, s4, k2.le l4⟩
          | brk => exact fun k2 => k2
          | ret d => exact fun k2 => k2
          | retN d => exact fun k2 => k2⟩
end
end PV
end

section
set_option Elab.async false
set_option linter.all false
set_option maxRecDepth 100000
set_option maxHeartbeats 1000000
/-! PV.R11: list comprehensions. -/
namespace PV
open PySem L2
open PyProof.Rows hiding St

abbrev WF : WX := fun _ _ _ _ => False
theorem takesF {X : Cx} : Takes X WF := fun u s' x => by
  obtain ⟨_, _, _, _, _, _, _, _, _, _, _, _, _, _, _, _, w⟩ := x
  exact w.elim
def wipeE (ρ : Env) : List Nat → Env
  | [] => ρ
  | v :: vs => (wipeE ρ vs).set v .un
def lcGo (t : TM) (tt : EM Bool) (te : EM D) (ρ : Env) : List D → List D → Hh → ER D
  | [], acc, h => .ok (.lst acc) h
  | d :: ds, acc, h => match t d ρ with
    | none => .stuck
    | some ρ' => match tt ρ' h with
      | .ok true h' => match te ρ' h' with
        | .ok y h2 => if acc.length < 16777216 then lcGo t tt te ρ ds (acc ++ [y]) h2 else .stuck
        | _ => .stuck
      | .ok false h' => lcGo t tt te ρ ds acc h'
      | _ => .stuck
def eLc (vs : List Nat) (it : EM (List D)) (t : TM) (tt : EM Bool) (te : EM D) : EM D := eBind it fun ds ρ h => lcGo t tt te (wipeE ρ vs) ds [] h
def bYes : EM Bool := eRet true

theorem wipeE_in {ρ : Env} {i : Nat} : ∀ {vs : List Nat}, i ∈ vs → ∀ {c : Cell}, (wipeE ρ vs)[i]? = some c → c = .un
  | v :: vs, hi, c, e => by
    unfold wipeE at e
    by_cases z : v = i
    · subst z
      by_cases hl : v < (wipeE ρ vs).length
      · rw [List.getElem?_set_self hl] at e
        cases e
        rfl
      · rw [List.getElem?_eq_none (by simpa using hl)] at e
        cases e
    · rw [List.getElem?_set_ne z] at e
      exact wipeE_in (by rcases List.mem_cons.mp hi with q | q; exact absurd q.symm z; exact q) e
theorem wipeE_out {ρ : Env} {i : Nat} : ∀ {vs : List Nat}, i ∉ vs → (wipeE ρ vs)[i]? = ρ[i]?
  | [], _ => rfl
  | v :: vs, hi => by
    unfold wipeE
    rw [List.getElem?_set_ne fun z => hi (by rw [z]; exact List.mem_cons_self ..)]
    exact wipeE_out fun z => hi (List.mem_cons_of_mem _ z)
theorem wipeE_len {ρ : Env} : ∀ {vs : List Nat}, (wipeE ρ vs).length = ρ.length
  | [] => rfl
  | v :: vs => by unfold wipeE; rw [List.length_set, wipeE_len]
theorem wipe_outS {σ : L2.St} {i : Nat} : ∀ {vs : List Nat}, i ∉ vs → (wipe σ vs)[i]? = σ[i]?
  | [], _ => rfl
  | v :: vs, hi => by
    unfold wipe
    rw [List.getElem?_set_ne fun z => hi (by rw [z]; exact List.mem_cons_self ..)]
    exact wipe_outS fun z => hi (List.mem_cons_of_mem _ z)
theorem wipe_inS {σ : L2.St} {i : Nat} : ∀ {vs : List Nat}, i ∈ vs → (wipe σ vs)[i]? = if i < σ.length then some none else none
  | v :: vs, hi => by
    unfold wipe
    by_cases z : v = i
    · subst z
      by_cases hl : v < σ.length
      · rw [List.getElem?_set_self (by rw [wipe_length]; exact hl), if_pos hl]
      · rw [List.getElem?_eq_none (by rw [List.length_set, wipe_length]; omega), if_neg hl]
    · rw [List.getElem?_set_ne z]
      exact wipe_inS (by rcases List.mem_cons.mp hi with q | q; exact absurd q.symm z; exact q)
theorem wipe_off {σ σ' : L2.St} {vs us : List Nat} (o : Off us (wipe σ vs) σ') (hs : ∀ i ∈ us, i ∈ vs) : wipe σ' vs = wipe σ vs := by
  have hl : σ'.length = σ.length := by rw [o.1, wipe_length]
  apply List.ext_getElem?
  intro i
  by_cases hi : i ∈ vs
  · rw [wipe_inS hi, wipe_inS hi, hl]
  · rw [wipe_outS hi, o.2 i fun z => hi (hs i z)]
section
variable {G : Gx} {P : Hp} {w w' : Wd} {ρ : Env} {h h' : Hh} {σ : L2.St} {H H' : Hp}
/-- the own names of a block forgotten, and back -/
theorem StR.wipe (s : StR G P w ρ h σ H) (vs : List Nat) : ∃ P', (∀ a, H a = none → P' a = none) ∧ StR G P' w (wipeE ρ vs) h (L2.wipe σ vs) H ∧
    ∀ w' h' H', w.le w' → StR G P' w' (wipeE ρ vs) h' (L2.wipe σ vs) H' → StR G P w' ρ h' σ H' := by
  classical
  let Z : Addr → Prop := fun a => ∃ i d, i ∈ vs ∧ ρ[i]? = some (.own d) ∧ σ[i]? = some (some (.ref a))
  have hZ : ∀ a, Z a → (∃ u, H a = some u) ∧ w.F a = none ∧ a ∉ w.iot ∧ P a = none := fun a ⟨i, d, _, e1, e2⟩ => by
    obtain ⟨b, f1, f2, f3, f4, f5⟩ := s.own i d e1
    rw [e2] at f1
    cases f1
    exact ⟨f2.some, f3, f4, f5⟩
  refine ⟨fun a => if Z a then H a else P a, fun a n => ?_, ⟨⟨s.hr.fr, fun b o e => ?_, fun b o e => ?_, fun b m => ?_, s.hr.fi, s.hr.nd, s.hr.len, s.hr.ob⟩, ?_, fun i x q => ?_, fun i x q => ?_, fun i j x y b q1 q2 z1 z2 => ?_⟩, fun w' h' H' l s' => ?_⟩
  · show (if Z a then H a else P a) = none
    split
    · exact n
    · exact s.hr.notP n
  · split at e
    · exact e
    · exact s.hr.pr b o e
  · split at e
    · rename_i z
      exact (hZ b z).2.1
    · exact s.hr.pf b o e
  · show (if Z b then H b else P b) = none
    split
    · rename_i z
      exact absurd m (hZ b z).2.2.1
    · exact s.hr.pi b m
  · rw [wipeE_len, L2.wipe_length, s.len]
  · by_cases hi : i ∈ vs
    · cases wipeE_in hi q
    · rw [wipeE_out hi] at q
      rw [wipe_outS hi]
      exact s.val i x q
  · by_cases hi : i ∈ vs
    · cases wipeE_in hi q
    · rw [wipeE_out hi] at q
      rw [wipe_outS hi]
      obtain ⟨b, e1, e2, e3, e4, e5⟩ := s.own i x q
      refine ⟨b, e1, e2, e3, e4, ?_⟩
      rw [if_neg]
      · exact e5
      · rintro ⟨j, d, hj, f1, f2⟩
        have := s.inj i j x d b q f1 e1 f2
        subst this
        exact hi hj
  · by_cases hi : i ∈ vs
    · cases wipeE_in hi q1
    · by_cases hj : j ∈ vs
      · cases wipeE_in hj q2
      · rw [wipeE_out hi] at q1
        rw [wipeE_out hj] at q2
        rw [wipe_outS hi] at z1
        rw [wipe_outS hj] at z2
        exact s.inj i j x y b q1 q2 z1 z2
  · have pP : ∀ b o, P b = some o → (if Z b then H b else P b) = some o := fun b o e => by
      split
      · rename_i z
        rw [(hZ b z).2.2.2] at e
        cases e
      · exact e
    have pn : ∀ b, (if Z b then H b else P b) = none → P b = none := fun b e => by
      split at e
      · rename_i z
        exact (hZ b z).2.2.2
      · exact e
    refine ⟨⟨s'.hr.fr, fun b o e => s'.hr.pr b o (pP b o e), fun b o e => s'.hr.pf b o (pP b o e), fun b m => pn b (s'.hr.pi b m), s'.hr.fi, s'.hr.nd, s'.hr.len, s'.hr.ob⟩, s.len, fun i x q => ?_, fun i x q => ?_, s.inj⟩
    · obtain ⟨v, e1, e2⟩ := s.val i x q
      exact ⟨v, e1, e2.le l⟩
    · obtain ⟨b, e1, e2, e3, e4, e5⟩ := s.own i x q
      by_cases hi : i ∈ vs
      · have zb : Z b := ⟨i, x, hi, q, e1⟩
        obtain ⟨u, e6⟩ := e2.some
        have pb : (if Z b then H b else P b) = some u := by rw [if_pos zb]; exact e6
        refine ⟨b, e1, (e2.le l).at ((s'.hr.pr b u pb).trans e6.symm), s'.hr.pf b u pb, fun m => ?_, e5⟩
        have := s'.hr.pi b m
        rw [pb] at this
        cases this
      · have q' := q
        rw [← wipeE_out (vs := vs) hi] at q'
        obtain ⟨b', f1, f2, f3, f4, f5⟩ := s'.own i x q'
        rw [wipe_outS hi, e1] at f1
        cases f1
        exact ⟨b, e1, f2, f3, f4, e5⟩
theorem wipeE_off {ρ ρ' : Env} {vs us : List Nat} (o : OffE us (wipeE ρ vs) ρ') (hs : ∀ i ∈ us, i ∈ vs) : wipeE ρ' vs = wipeE ρ vs := by
  have hl : ρ'.length = ρ.length := by rw [o.1, wipeE_len]
  apply List.ext_getElem?
  intro i
  by_cases hi : i ∈ vs
  · have key : ∀ {τ : Env}, (wipeE τ vs)[i]? = if i < τ.length then some .un else none := fun {τ} => by
      by_cases hl : i < τ.length
      · rw [if_pos hl]
        have : i < (wipeE τ vs).length := by rw [wipeE_len]; exact hl
        cases e : (wipeE τ vs)[i]? with
        | none => rw [List.getElem?_eq_none_iff] at e; omega
        | some c => rw [wipeE_in hi e]
      · rw [if_neg hl, List.getElem?_eq_none (by rw [wipeE_len]; omega)]
    rw [key, key, hl]
  · rw [wipeE_out hi, wipeE_out hi, o.2 i fun z => hi (hs i z), wipeE_out hi]
theorem StR.forget (s : StR G P w ρ h σ H) (vs : List Nat) : StR G P w (wipeE ρ vs) h (L2.wipe σ vs) H := by
  have sub : ∀ {i : Nat} {c : Cell}, c ≠ .un → (wipeE ρ vs)[i]? = some c → i ∉ vs ∧ ρ[i]? = some c := fun {i c} hc e => by
    by_cases hi : i ∈ vs
    · exact absurd (wipeE_in hi e) hc
    · exact ⟨hi, by rw [← wipeE_out hi]; exact e⟩
  refine ⟨s.hr, by rw [wipeE_len, L2.wipe_length, s.len], fun i x q => ?_, fun i x q => ?_, fun i j x y b q1 q2 z1 z2 => ?_⟩
  · obtain ⟨hi, q⟩ := sub (by intro z; cases z) q
    rw [wipe_outS hi]
    exact s.val i x q
  · obtain ⟨hi, q⟩ := sub (by intro z; cases z) q
    rw [wipe_outS hi]
    exact s.own i x q
  · obtain ⟨hi, q1⟩ := sub (by intro z; cases z) q1
    obtain ⟨hj, q2⟩ := sub (by intro z; cases z) q2
    rw [wipe_outS hi] at z1
    rw [wipe_outS hj] at z2
    exact s.inj i j x y b q1 q2 z1 z2
/-- one more protected address, and its change -/
theorem StR.guard {a : Addr} {o : HO} (s : StR G P w ρ h σ H) (n : H a = none) : StR G (upd P a o) w ρ h σ (upd H a o) := by
  have s' := s.alloc (o := o) n
  refine ⟨⟨s'.hr.fr, fun b u e => ?_, fun b u e => ?_, fun b m => ?_, s.hr.fi, s.hr.nd, s.hr.len, s'.hr.ob⟩, s.len, s'.val, fun i x q => ?_, s.inj⟩
  · by_cases z : b = a
    · subst z
      rw [upd_same] at e ⊢
      exact e
    · rw [upd_ne z] at e ⊢
      exact s.hr.pr b u e
  · by_cases z : b = a
    · subst z
      exact s.hr.notF n
    · rw [upd_ne z] at e
      exact s.hr.pf b u e
  · rw [upd_ne fun z => s.hr.notiot n (by rw [← z]; exact m)]
    exact s.hr.pi b m
  · obtain ⟨b, e1, e2, e3, e4, e5⟩ := s'.own i x q
    refine ⟨b, e1, e2, e3, e4, ?_⟩
    rw [upd_ne]
    · exact e5
    · rintro rfl
      obtain ⟨c, f1, f2, _⟩ := s.own i x q
      rw [e1] at f1
      cases f1
      obtain ⟨u, f3⟩ := f2.some
      rw [n] at f3
      cases f3
theorem StR.reguard {a : Addr} {o o' : HO} (s : StR G (upd P a o) w ρ h σ H) : StR G (upd P a o') w ρ h σ (upd H a o') := by
  have pa : (upd P a o) a = some o := upd_same
  have fa := s.hr.pf a o pa
  have ia : a ∉ w.iot := fun m => by
    have := s.hr.pi a m
    rw [pa] at this
    cases this
  refine ⟨⟨fun b u e => ?_, fun b u e => ?_, fun b u e => ?_, fun b m => ?_, s.hr.fi, s.hr.nd, s.hr.len, fun i x b e1 e2 => (s.hr.ob i x b e1 e2).at (upd_ne fun z => ia (by rw [← z]; exact List.mem_of_getElem? e2))⟩, s.len, s.val, fun i x q => ?_, s.inj⟩
  · rw [upd_ne fun z => by rw [z, fa] at e; cases e]
    exact s.hr.fr b u e
  · by_cases z : b = a
    · subst z
      rw [upd_same] at e ⊢
      exact e
    · rw [upd_ne z] at e ⊢
      exact s.hr.pr b u (by rw [upd_ne z]; exact e)
  · by_cases z : b = a
    · subst z
      exact fa
    · rw [upd_ne z] at e
      exact s.hr.pf b u (by rw [upd_ne z]; exact e)
  · have nb : b ≠ a := fun z => ia (by rw [← z]; exact m)
    have := s.hr.pi b m
    rw [upd_ne nb] at this ⊢
    exact this
  · obtain ⟨b, e1, e2, e3, e4, e5⟩ := s.own i x q
    have nb : b ≠ a := fun z => by rw [z, pa] at e5; cases e5
    rw [upd_ne nb] at e5
    exact ⟨b, e1, e2.at (upd_ne nb), e3, e4, by rw [upd_ne nb]; exact e5⟩
theorem StR.unguard {a : Addr} {o : HO} (n : P a = none) (s : StR G (upd P a o) w ρ h σ H) : StR G P w ρ h σ H := by
  have key : ∀ b u, P b = some u → (upd P a o) b = some u := fun b u e => by
    rw [upd_ne fun z => by rw [z, n] at e; cases e]
    exact e
  have key2 : ∀ b, (upd P a o) b = none → P b = none := fun b e => by
    by_cases z : b = a
    · subst z
      exact n
    · rwa [upd_ne z] at e
  exact ⟨⟨s.hr.fr, fun b u e => s.hr.pr b u (key b u e), fun b u e => s.hr.pf b u (key b u e), fun b m => key2 b (s.hr.pi b m), s.hr.fi, s.hr.nd, s.hr.len, s.hr.ob⟩, s.len, s.val, fun i x q => by
    obtain ⟨b, e1, e2, e3, e4, e5⟩ := s.own i x q
    exact ⟨b, e1, e2, e3, e4, key2 b e5⟩, s.inj⟩
end
/-- where a comprehension stands at turn i -/
def LcS (G : Gx) (W : WX) (P' : Hp) (w1 : Wd) (ρw : Env) (σw : L2.St) (t : TM) (tt : EM Bool) (te : EM D) (ds : List D) (D0 : Addr) (K' : D → Wd → Hh → Hp → Prop) (P : Hp) (ρ : Env) (σ : L2.St) (i : Nat) (H : Hp) : Prop :=
  ∃ w' h' acc av, w1.le w' ∧ StR G (upd P' D0 (.lst av)) w' ρw h' σw H ∧ Reps G w' acc av ∧ av.length ≤ sizeLine ∧ EPost G W P w' ρ σ (lcGo t tt te ρw (ds.drop i) acc h') K'
structure STs (X : Cx) (ca : Nat → Addr) (W : WX) (es : List Expr) (c : EM Bool) : Prop where
  pt : PTs X es (RB ⟨X.K, ca⟩ W c)
section
variable {X : Cx} {ca : Nat → Addr} {W : WX} {tg iter e : Expr} {it : EM (List D)} {t : TM} {tv : List Nat} {body : List Stmt} {m : SM} {pos : Pos} {tt : EM Bool} {te : EM D} {sl : List Nat} {elt : Expr} {ifs : List Expr} {scope : Scope} {own : List (Str × Nat)}
theorem _root_.L2.PTs.imp {es : List Expr} {t t' : TT} (q : PTs X es t) (k : ∀ σ H Q, t' σ H Q → t σ H Q) : PTs X es t' := ⟨fun pins s σ H Q I h => q.run pins s σ H Q I (k σ H Q h)⟩
theorem sts_nil : STs X ca W [] bYes := ⟨pts_nil.imp fun σ H Q ⟨P, w, ρ, h, st, k⟩ => k w H (Wd.le.refl w) st⟩
theorem sts_one (h : SB X ca W e tt) : STs X ca W [e] tt := ⟨pts_one h.pt⟩
theorem lc_turn {G : Gx} {P : Hp} {w1 : Wd} {ρ : Env} {h1 : Hh} {σ : L2.St} {H1 : Hp} {ds : List D} {J : It} {Q : VK} {vs : List Nat} (s1 : StR G P w1 ρ h1 σ H1) (ok : IterOk G w1 ρ σ sl ds J) (hsl : ∀ i ∈ sl, i ∉ vs) (htv : ∀ i ∈ tv, i ∈ vs) (off : ∀ d ρ ρ', t d ρ = some ρ' → OffE tv ρ ρ')
    (k1 : EPost G W P w1 ρ σ (lcGo t tt te (wipeE ρ vs) ds [] h1) fun d w' _ H' => ∀ a, NewAt G P w' ρ σ d a H' → Q (.ref a) H') :
    ∀ D0, H1 D0 = none → ∃ Wf : Nat → Nat → Hp → Prop, (∃ m, Wf 0 m (upd H1 D0 (.lst []))) ∧ ∀ i m H, Wf i m H →
      (J.stop i H ∧ Q (.ref D0) H) ∨ (J.go i H ∧ ∃ Nx : Hp → Prop, (∀ H', Nx H' → ∃ m', m' < m ∧ Wf (i + 1) m' H') ∧ ∀ x H', J.yld i H x H' → RG G t tv x (wipe σ vs) H' fun σ2 H2 => wipe σ2 vs = wipe σ vs ∧ RB G WF tt σ2 H2 fun b H3 =>
        if b = true then RD G WF te σ2 H3 fun y H4 => ∃ acc, H4 D0 = some (.lst acc) ∧ acc.length < sizeLine ∧ Nx (upd H4 D0 (.lst (acc ++ [y]))) else Nx H3) := by
  intro D0 nD
  obtain ⟨P', pn, sw, back⟩ := s1.wipe vs
  refine ⟨fun i n H => n = ds.length - i ∧ i ≤ ds.length ∧ LcS G W P' w1 (wipeE ρ vs) (wipe σ vs) t tt te ds D0 (fun d w' _ H' => ∀ a, NewAt G P w' ρ σ d a H' → Q (.ref a) H') P ρ σ i H,
    ⟨ds.length, by simp, Nat.zero_le _, w1, h1, [], [], Wd.le.refl _, sw.guard nD, Rps.nil, Nat.zero_le _, by simpa using k1⟩, ?_⟩
  rintro i n H ⟨rfl, hi, w', h', acc, av, l', s', ra, za, k'⟩
  have nP : P' D0 = none := pn D0 nD
  obtain ⟨go, stop, yld⟩ := ok _ w' _ h' _ H l' (fun j hj => ⟨wipeE_out (hsl j hj), wipe_outS (hsl j hj)⟩) s'
  by_cases hlt : i < ds.length
  · refine .inr ⟨go i hlt, fun H => LcS G W P' w1 (wipeE ρ vs) (wipe σ vs) t tt te ds D0 (fun d w' _ H' => ∀ a, NewAt G P w' ρ σ d a H' → Q (.ref a) H') P ρ σ (i + 1) H, fun H2 f => ⟨ds.length - (i + 1), by omega, rfl, hlt, f⟩, fun x H2 y => ?_⟩
    obtain ⟨w2, d, l2, s2, ed, rd⟩ := yld i x H2 hlt y
    rw [drop_get ed] at k'
    unfold lcGo at k'
    split at k'
    · exact k'.elim
    · rename_i ρ2 eρ
      refine ⟨_, w2, _, h', d, ρ2, s2, rd, eρ, fun σ3 s3 o3 => ⟨wipe_off o3 htv, _, w2, ρ2, h', s3, ?_⟩⟩
      have k2 := k'.le l2
      have eE : wipeE ρ2 vs = wipeE ρ vs := wipeE_off (off _ _ _ eρ) htv
      have eS : wipe σ3 vs = wipe σ vs := wipe_off o3 htv
      have back2 : ∀ {P2 w4 h4 H4}, StR G P2 w4 ρ2 h4 σ3 H4 → StR G P2 w4 (wipeE ρ vs) h4 (wipe σ vs) H4 := fun z => by
        have := z.forget vs
        rw [eE, eS] at this
        exact this
      revert k2
      cases e1 : tt ρ2 h' with
      | stuck => exact fun k2 => k2.elim
      | exc c p h4 => exact fun k2 => k2.elim
      | ok b h4 =>
        cases b with
        | false =>
          intro k2 w4 H4 l4 s4
          simp only [Bool.false_eq_true, if_false]
          exact ⟨w4, h4, acc, av, (l'.trans l2).trans l4, back2 s4, Reps.le ra (l2.trans l4), za, k2.le l4⟩
        | true =>
          intro k2 w4 H4 l4 s4
          simp only [if_true]
          refine ⟨_, w4, ρ2, h4, s4, ?_⟩
          have k3 := k2.le l4
          dsimp only at k3
          revert k3
          cases e2 : te ρ2 h4 with
          | stuck => exact fun k3 => k3.elim
          | exc c p h4 => exact fun k3 => k3.elim
          | ok y h5 =>
            dsimp only
            intro k3 w5 H5 l5 s5 v rv
            split at k3
            · rename_i lt
              have hz : av.length < sizeLine := by rw [← Rps.length ra, sizeLine_eq]; exact lt
              refine ⟨av, s5.hr.pr D0 _ upd_same, hz, w5, h5, acc ++ [y], av ++ [v], ((l'.trans l2).trans l4).trans l5, (back2 s5).reguard, (Reps.le ra ((l2.trans l4).trans l5)).append (Rps.cons rv Rps.nil), ?_, k3.le l5⟩
              rw [List.length_append, List.length_singleton]
              exact hz
            · exact k3.elim
  · have e : i = ds.length := by omega
    subst e
    refine .inl ⟨stop, ?_⟩
    rw [List.drop_length] at k'
    have s3 := back w' h' H l' (s'.unguard nP)
    refine k' w' H (Wd.le.refl _) s3 D0 ⟨⟨av, za, s'.hr.pr D0 _ upd_same, ra⟩, s'.hr.pf D0 _ upd_same, fun m => ?_, s1.hr.notP nD, fun j y q hq => ?_⟩
    · have := s'.hr.pi D0 m
      rw [upd_same] at this
      cases this
    · obtain ⟨b, e1, e2, _⟩ := s1.own j y q
      obtain ⟨u, e3⟩ := e2.some
      rw [hq] at e1
      cases e1
      rw [nD] at e3
      cases e3
/-- [elt for target in iter if test] -/
theorem sn_lc (hc : X.calm = true) (hN : X.N.Nodup) (hi : SI X ca W tg iter it sl) (ok : BlkOk X.N X.env.scope scope own)
    (hg : ∀ (s : Shared) (H : Hp) (C : Addr) (cl : List (Str × Addr)) (fp : List Addr), SG (X.blk s H scope (compEnvC scope cl C X.env) fp) ca tg t tv) (ht : ∀ (s : Shared) (H : Hp) (C : Addr) (cl : List (Str × Addr)) (fp : List Addr), STs (X.blk s H scope (compEnvC scope cl C X.env) fp) ca WF ifs tt)
    (he : ∀ (s : Shared) (H : Hp) (C : Addr) (cl : List (Str × Addr)) (fp : List Addr), SE (X.blk s H scope (compEnvC scope cl C X.env) fp) ca WF elt te)
    (hsl : ∀ i ∈ sl, i ∉ own.map (·.2) := by decide) (htv : ∀ i ∈ tv, i ∈ own.map (·.2) := by decide) (hs : ∀ x, foldedSetIterable iter X.env x = pure x := by intro _; rfl) :
    SN X ca W (.ListComp elt [⟨tg, iter, ifs, 0⟩] scope pos) (eLc (own.map (·.2)) it t tt te) := by
  have off : ∀ d ρ ρ', t d ρ = some ρ' → OffE tv ρ ρ' := fun d ρ ρ' e => (hg X.s_0 P0 0 [] []).off d ρ ρ' e
  exact ⟨(pe_lc hc hN hi.pi ok (fun s H C cl fp => (hg s H C cl fp).pg) (fun s H C cl fp => (ht s H C cl fp).pt) (fun s H C cl fp => (he s H C cl fp).pe) hs).imp fun σ H Q ⟨P, w, ρ, h, st, k⟩ => ⟨P, w, ρ, h, st,
    (EPost.bind k).imp fun ds w1 h1 H1 l1 s1 k1 J okJ => lc_turn s1 okJ hsl htv off k1⟩⟩
/-- name = [..] on one line -/
theorem ss_ownLc (i : Nat) {y : Str} {py spos : Pos} (hc : X.calm = true) (hN : X.N.Nodup) (hi : SI X ca W tg iter it sl) (ok : BlkOk X.N X.env.scope scope own)
    (hg : ∀ (s : Shared) (H : Hp) (C : Addr) (cl : List (Str × Addr)) (fp : List Addr), SG (X.blk s H scope (compEnvC scope cl C X.env) fp) ca tg t tv) (ht : ∀ (s : Shared) (H : Hp) (C : Addr) (cl : List (Str × Addr)) (fp : List Addr), STs (X.blk s H scope (compEnvC scope cl C X.env) fp) ca WF ifs tt)
    (he : ∀ (s : Shared) (H : Hp) (C : Addr) (cl : List (Str × Addr)) (fp : List Addr), SE (X.blk s H scope (compEnvC scope cl C X.env) fp) ca WF elt te)
    (hsw : swapsWith (.ListComp elt [⟨tg, iter, ifs, 0⟩] scope pos) (some (.Name y py)) spos.line X.env = pure true)
    (hy : X.N[i]? = some y := by rfl) (hyl : X.env.scope.names.lookup y = some .local := by rfl)
    (hsl : ∀ i ∈ sl, i ∉ own.map (·.2) := by decide) (htv : ∀ i ∈ tv, i ∈ own.map (·.2) := by decide) (hs : ∀ x, foldedSetIterable iter X.env x = pure x := by intro _; rfl) :
    SS X ca W (.Assign [.Name y py] (.ListComp elt [⟨tg, iter, ifs, 0⟩] scope pos) spos) (sOwn i (eLc (own.map (·.2)) it t tt te)) := by
  have off : ∀ d ρ ρ', t d ρ = some ρ' → OffE tv ρ ρ' := fun d ρ ρ' e => (hg X.s_0 P0 0 [] []).off d ρ ρ' e
  exact ⟨(ps_setLc hc hN hy hyl hsw hi.pi ok (fun s H C cl fp => (hg s H C cl fp).pg) (fun s H C cl fp => (ht s H C cl fp).pt) (fun s H C cl fp => (he s H C cl fp).pe) hs).imp fun E σ H ⟨P, w, ρ, h, st, k⟩ => ⟨P, w, ρ, h, st,
    (EPost.bind (SPost.bind k)).imp fun ds w1 h1 H1 l1 s1 k1 J okJ => lc_turn (Q := fun v H' => gName i v σ H' E.nx) s1 okJ hsl htv off (k1.imp fun d w2 h2 H2 l2 s2 k2 a n => k2 w2 _ H2 (Wd.le.refl _) (s2.setO n))⟩⟩
end
end PV
end

section
set_option Elab.async false
set_option linter.all false
set_option maxRecDepth 100000
set_option maxHeartbeats 1000000
/-! PV.R12: built-in functions, text methods, f-strings. -/
namespace PV
open PySem L2
open PyProof.Rows hiding St

section
variable {X : Cx} {ca : Nat → Addr} {W : WX} {e o : Expr} {es : List Expr} {c c1 c2 : EM D} {cs : EM (List D)} {pos p apos : Pos} {x : Str} {id T : String}
/-- a new container may be looked at -/
theorem so_n (s : SN X ca W e c) : SO X ca W e c := ⟨s.pe.imp fun σ H Q ⟨P, w, ρ, h, st, k⟩ => ⟨P, w, ρ, h, st, k.imp fun d w' h' H' l st' q a n => q (.ref a) (OwnAt.rpH n.1 st'.hr)⟩⟩
/-- one argument, looked at; a frozen answer, a new one -/
def Rule1 (X : Cx) (ca : Nat → Addr) (r : List V → Hp → VK → Prop) (f : D → Option D) : Prop :=
  ∀ P w ρ h σ H x d v (Q : VK), StR ⟨X.K, ca⟩ P w ρ h σ H → f x = some d → Rp ⟨X.K, ca⟩ H w.iot x v → (∀ w' H', w.le w' → StR ⟨X.K, ca⟩ P w' ρ h σ H' → ∀ u, Rep ⟨X.K, ca⟩ w' d u → Q u H') → r [v] H Q
def RuleN1 (X : Cx) (ca : Nat → Addr) (r : List V → Hp → VK → Prop) (f : D → Option D) : Prop :=
  ∀ P w ρ h σ H x d v (Q : VK), StR ⟨X.K, ca⟩ P w ρ h σ H → f x = some d → Rp ⟨X.K, ca⟩ H w.iot x v → (∀ w' H', w.le w' → StR ⟨X.K, ca⟩ P w' ρ h σ H' → ∀ a, NewAt ⟨X.K, ca⟩ P w' ρ σ d a H' → Q (.ref a) H') → r [v] H Q
theorem rule1_se {r : List V → Hp → VK → Prop} {f : D → Option D} (b : Rule1 X ca r f) {σ : L2.St} {H : Hp} {Q : VK} (k : RD ⟨X.K, ca⟩ W (eMap f c) σ H Q) : RO ⟨X.K, ca⟩ W c σ H fun v H1 => r [v] H1 Q := by
  obtain ⟨P, w, ρ, h, st, k⟩ := k
  refine ⟨P, w, ρ, h, st, (EPost.bind k).imp fun d w1 h1 H1 l1 s1 k1 v rv => ?_⟩
  obtain ⟨y, e, _⟩ := k1.opt s1
  refine b P w1 ρ h1 σ H1 d y v Q s1 e rv fun w' H' l s' u ru => ?_
  rw [e] at k1
  exact k1 w' H' l s' u ru
theorem rule1_sn {r : List V → Hp → VK → Prop} {f : D → Option D} (b : RuleN1 X ca r f) {σ : L2.St} {H : Hp} {Q : VK} (k : RN ⟨X.K, ca⟩ W (eMap f c) σ H Q) : RO ⟨X.K, ca⟩ W c σ H fun v H1 => r [v] H1 Q := by
  obtain ⟨P, w, ρ, h, st, k⟩ := k
  refine ⟨P, w, ρ, h, st, (EPost.bind k).imp fun d w1 h1 H1 l1 s1 k1 v rv => ?_⟩
  obtain ⟨y, e, _⟩ := k1.opt s1
  refine b P w1 ρ h1 σ H1 d y v Q s1 e rv fun w' H' l s' u ru => ?_
  rw [e] at k1
  exact k1 w' H' l s' u ru
theorem pa_one {t : TE} (h : PE X e t) (hs : starEach [e] X.env = (false, eval e X.env) :: starEach [] X.env := by rfl) : PA X [e] (fun σ H Q => t σ H fun v H1 => Q [v] H1) := (pa_cons h pa_nil hs).imp fun σ H Q k => k
theorem se_b1 {r : List V → Hp → VK → Prop} {f : D → Option D} (hc : CallR X (.builtin id) r) (b : Rule1 X ca r f) (ha : SO X ca W e c) (hm : X.mg x = none) (hg : Gl X x := by rfl) (hv : bootBuiltins x = some (.builtin id) := by decide +kernel) (hn : x ≠ "__name__" := by decide) (hdb : (x == ("__debug__" : Str)) = false := by decide)
    (he : starEach [e] X.env = (false, eval e X.env) :: starEach [] X.env := by rfl) (hpl : (backTo pos (starEach [] X.env)).any (·.1) = false := by rfl) : SE X ca W (.Call (.Name x p) [e] [] pos) (eMap f c) :=
  ⟨(pe_callB hc hg hm hv (pa_one ha.pe he) hn hdb he hpl).imp fun σ H Q k => rule1_se b k⟩
theorem se_t1 {r : List V → Hp → VK → Prop} {f : D → Option D} (hc : CallR X (.type T) r) (b : Rule1 X ca r f) (ha : SO X ca W e c) (hm : X.mg x = none) (hg : Gl X x := by rfl) (hv : bootBuiltins x = some (.type T) := by decide +kernel) (hn : x ≠ "__name__" := by decide) (hdb : (x == ("__debug__" : Str)) = false := by decide)
    (he : starEach [e] X.env = (false, eval e X.env) :: starEach [] X.env := by rfl) (hpl : (backTo pos (starEach [] X.env)).any (·.1) = false := by rfl) : SE X ca W (.Call (.Name x p) [e] [] pos) (eMap f c) :=
  ⟨(pe_callTy hc hg hm hv (pa_one ha.pe he) hn hdb he hpl).imp fun σ H Q k => rule1_se b k⟩
theorem sn_t1 {r : List V → Hp → VK → Prop} {f : D → Option D} (hc : CallR X (.type T) r) (b : RuleN1 X ca r f) (ha : SO X ca W e c) (hm : X.mg x = none) (hg : Gl X x := by rfl) (hv : bootBuiltins x = some (.type T) := by decide +kernel) (hn : x ≠ "__name__" := by decide) (hdb : (x == ("__debug__" : Str)) = false := by decide)
    (he : starEach [e] X.env = (false, eval e X.env) :: starEach [] X.env := by rfl) (hpl : (backTo pos (starEach [] X.env)).any (·.1) = false := by rfl) : SN X ca W (.Call (.Name x p) [e] [] pos) (eMap f c) :=
  ⟨(pe_callTy hc hg hm hv (pa_one ha.pe he) hn hdb he hpl).imp fun σ H Q k => rule1_sn b k⟩
/-- the answer is a scalar -/
theorem rule_now {r : List V → Hp → VK → Prop} {f : D → Option D} (hr : ∀ H iot x d v Q, f x = some d → Rp ⟨X.K, ca⟩ H iot x v → (∃ u, (∀ F iot, Rp ⟨X.K, ca⟩ F iot d u) ∧ (Q u H → r [v] H Q))) : Rule1 X ca r f := fun P w ρ h σ H x d v Q s e rv k => by
  obtain ⟨u, ru, q⟩ := hr H w.iot x d v Q e rv
  exact q (k w H (Wd.le.refl _) s u (ru _ _))

/-! ### len -/
def dLen : D → Option D
  | .str x => if x.length ≤ 16777216 then some (.int (x.length : Nat)) else none
  | .tup ds => some (.int (ds.length : Nat))
  | .lst ds => some (.int (ds.length : Nat))
  | _ => none
theorem r_len : Rule1 X ca (fun xs H Q => ∃ x n, xs = [x] ∧ LenV X.K x H n ∧ Q (.int n) H) dLen := rule_now fun H iot x d v Q e r => by
  cases x with
  | str z =>
    simp only [dLen] at e
    split at e
    · rename_i hz
      cases e
      have ev : v = .str z := by simpa only [Rp] using r
      subst ev
      exact ⟨_, fun _ _ => by simp only [Rp], fun q => ⟨_, z.length, rfl, ⟨by rw [sizeLine_eq]; exact hz, rfl⟩, q⟩⟩
    · cases e
  | tup ds =>
    cases e
    simp only [Rp] at r
    obtain ⟨a, vs, rfl, z, f, r⟩ := r
    exact ⟨_, fun _ _ => by simp only [Rp], fun q => ⟨_, ds.length, rfl, .inr ⟨vs, f, r.length⟩, q⟩⟩
  | lst ds =>
    cases e
    simp only [Rp] at r
    obtain ⟨a, vs, rfl, z, f, r⟩ := r
    exact ⟨_, fun _ _ => by simp only [Rp], fun q => ⟨_, ds.length, rfl, .inl ⟨vs, f, r.length⟩, q⟩⟩
  | _ => cases e
theorem se_len (ha : SO X ca W e c) (hm : X.mg "len" = none) (hg : Gl X "len" := by rfl) (he : starEach [e] X.env = (false, eval e X.env) :: starEach [] X.env := by rfl) (hpl : (backTo pos (starEach [] X.env)).any (·.1) = false := by rfl) :
    SE X ca W (.Call (.Name "len" p) [e] [] pos) (eMap dLen c) := se_b1 call_len r_len ha hm hg (hv := PySem.boot_len) (he := he) (hpl := hpl)
/-! ### all, any, of a list of tests -/
def dBls : List D → Option (List Bool)
  | [] => some []
  | .bl b :: r => (dBls r).map (b :: ·)
  | _ :: _ => none
def dAll : D → Option D
  | .lst ds => (dBls ds).map fun bs => .bl (bs.all _root_.id)
  | _ => none
def dAny : D → Option D
  | .lst ds => (dBls ds).map fun bs => .bl (bs.any _root_.id)
  | _ => none
theorem dBls_rp {G : Gx} {F : Hp} {iot : List Addr} : ∀ {ds : List D} {bs : List Bool} {vs : List V}, dBls ds = some bs → Rps G F iot ds vs → vs = bs.map V.bl
  | [], bs, vs, e, r => by
    cases e
    simp only [Rps] at r
    exact r
  | d :: ds, bs, vs, e, r => by
    cases d with
    | bl b =>
      simp only [dBls] at e
      cases q : dBls ds with
      | none => rw [q] at e; cases e
      | some cs =>
        rw [q] at e
        cases e
        simp only [Rps, Rp] at r
        obtain ⟨v, t, rfl, rfl, rt⟩ := r
        rw [dBls_rp q rt]
        rfl
    | _ => cases e
theorem r_all : Rule1 X ca (rAll X.K) dAll := rule_now fun H iot x d v Q e r => by
  cases x with
  | lst ds =>
    simp only [dAll] at e
    cases q : dBls ds with
    | none => rw [q] at e; cases e
    | some bs =>
      rw [q] at e
      cases e
      simp only [Rp] at r
      obtain ⟨a, vs, rfl, z, f, r⟩ := r
      have := dBls_rp q r
      subst this
      exact ⟨_, fun _ _ => by simp only [Rp], fun q => ⟨a, bs, rfl, f, q⟩⟩
  | _ => cases e
theorem r_any : Rule1 X ca (rAny X.K) dAny := rule_now fun H iot x d v Q e r => by
  cases x with
  | lst ds =>
    simp only [dAny] at e
    cases q : dBls ds with
    | none => rw [q] at e; cases e
    | some bs =>
      rw [q] at e
      cases e
      simp only [Rp] at r
      obtain ⟨a, vs, rfl, z, f, r⟩ := r
      have := dBls_rp q r
      subst this
      exact ⟨_, fun _ _ => by simp only [Rp], fun q => ⟨a, bs, rfl, f, q⟩⟩
  | _ => cases e
theorem se_all (hc : X.calm = true) (ha : SO X ca W e c) (hm : X.mg "all" = none) (hg : Gl X "all" := by rfl) (he : starEach [e] X.env = (false, eval e X.env) :: starEach [] X.env := by rfl) (hpl : (backTo pos (starEach [] X.env)).any (·.1) = false := by rfl) :
    SE X ca W (.Call (.Name "all" p) [e] [] pos) (eMap dAll c) := se_b1 (cr_all hc) r_all ha hm hg (he := he) (hpl := hpl)
theorem se_any (hc : X.calm = true) (ha : SO X ca W e c) (hm : X.mg "any" = none) (hg : Gl X "any" := by rfl) (he : starEach [e] X.env = (false, eval e X.env) :: starEach [] X.env := by rfl) (hpl : (backTo pos (starEach [] X.env)).any (·.1) = false := by rfl) :
    SE X ca W (.Call (.Name "any" p) [e] [] pos) (eMap dAny c) := se_b1 (cr_any hc) r_any ha hm hg (he := he) (hpl := hpl)
/-! ### int, str -/
def dInt : D → Option D
  | .int i => some (.int i)
  | .bl b => some (.int (if b then 1 else 0))
  | .str a => if a.length ≤ 640 then (PySem.intText? a).map .int else none
  | _ => none
def dStr : D → Option D
  | .int i => if i.natAbs.log2 < 1920 then some (.str (toString i)) else none
  | _ => none
theorem CallR.or {f : Value} {r r' : List V → Hp → VK → Prop} (h : CallR X f r) (h' : CallR X f r') : CallR X f (fun xs H Q => r xs H Q ∨ r' xs H Q) := fun pins s σ H xs us Q I rx q => q.elim (fun q => h pins s σ H xs us Q I rx q) fun q => h' pins s σ H xs us Q I rx q
theorem call_intA : CallR X (.type "int") (fun xs H Q => ((∃ i, xs = [.int i] ∧ Q (.int i) H) ∨ ∃ k, xs = [.bl k] ∧ Q (.int (if k then 1 else 0)) H) ∨ (∃ a n, xs = [.str a] ∧ PySem.intText? a = some n ∧ a.length ≤ 640 ∧ Q (.int n) H)) := CallR.or call_int1 call_int_str
theorem r_int : Rule1 X ca (fun xs H Q => ((∃ i, xs = [.int i] ∧ Q (.int i) H) ∨ ∃ k, xs = [.bl k] ∧ Q (.int (if k then 1 else 0)) H) ∨ (∃ a n, xs = [.str a] ∧ PySem.intText? a = some n ∧ a.length ≤ 640 ∧ Q (.int n) H)) dInt := rule_now fun H iot x d v Q e r => by
  cases x with
  | int i =>
    cases e
    have ev : v = .int i := by simpa only [Rp] using r
    subst ev
    exact ⟨_, fun _ _ => by simp only [Rp], fun q => .inl (.inl ⟨i, rfl, q⟩)⟩
  | bl b =>
    cases e
    have ev : v = .bl b := by simpa only [Rp] using r
    subst ev
    exact ⟨_, fun _ _ => by simp only [Rp], fun q => .inl (.inr ⟨b, rfl, q⟩)⟩
  | str a =>
    simp only [dInt] at e
    split at e
    · rename_i hz
      cases en : PySem.intText? a with
      | none => rw [en] at e; cases e
      | some n =>
        rw [en] at e
        cases e
        have ev : v = .str a := by simpa only [Rp] using r
        subst ev
        exact ⟨_, fun _ _ => by simp only [Rp], fun q => .inr ⟨a, n, rfl, en, hz, q⟩⟩
    · cases e
  | _ => cases e
theorem r_str : Rule1 X ca (fun xs H Q => ∃ i, xs = [.int i] ∧ i.natAbs.log2 < 1920 ∧ Q (.str (toString i)) H) dStr := rule_now fun H iot x d v Q e r => by
  cases x with
  | int i =>
    simp only [dStr] at e
    split at e
    · rename_i hz
      cases e
      have ev : v = .int i := by simpa only [Rp] using r
      subst ev
      exact ⟨_, fun _ _ => by simp only [Rp], fun q => ⟨i, rfl, hz, q⟩⟩
    · cases e
  | _ => cases e
theorem se_int1 (ha : SO X ca W e c) (hm : X.mg "int" = none) (hg : Gl X "int" := by rfl) (he : starEach [e] X.env = (false, eval e X.env) :: starEach [] X.env := by rfl) (hpl : (backTo pos (starEach [] X.env)).any (·.1) = false := by rfl) :
    SE X ca W (.Call (.Name "int" p) [e] [] pos) (eMap dInt c) := se_t1 call_intA r_int ha hm hg (he := he) (hpl := hpl)
theorem se_str1 (ha : SO X ca W e c) (hm : X.mg "str" = none) (hg : Gl X "str" := by rfl) (he : starEach [e] X.env = (false, eval e X.env) :: starEach [] X.env := by rfl) (hpl : (backTo pos (starEach [] X.env)).any (·.1) = false := by rfl) :
    SE X ca W (.Call (.Name "str" p) [e] [] pos) (eMap dStr c) := se_t1 call_str_int r_str ha hm hg (he := he) (hpl := hpl)
/-! ### tuple, list -/
def dTuple : D → Option D
  | .lst ds => some (.tup ds)
  | .tup ds => some (.tup ds)
  | _ => none
def dListN : D → Option D
  | .lst ds => some (.lst ds)
  | .tup ds => some (.lst ds)
  | _ => none
/-- a list whose items are frozen, be it frozen, new or a cell's own; or any other frozen value -/
def LAt (G : Gx) (w : Wd) (H : Hp) (d : D) (v : V) : Prop := match d with
  | .lst ds => ∃ a vs, v = .ref a ∧ vs.length ≤ sizeLine ∧ SqL G.K H a vs ∧ Reps G w ds vs
  | d => Rep G w d v
def RL (G : Gx) (W : WX) (c : EM D) : TE := fun σ H Q => ∃ P w ρ h, StR G P w ρ h σ H ∧ EPost G W P w ρ σ (c ρ h) fun d w' _ H' => ∀ v, LAt G w' H' d v → Q v H'
structure SL (X : Cx) (ca : Nat → Addr) (W : WX) (e : Expr) (c : EM D) : Prop where
  pe : PE X e (RL ⟨X.K, ca⟩ W c)
def eL (c : EM D) : EM D := eBind c fun d => eOpt (if isL d = true then some d else none)
theorem LAt.of {G : Gx} {P : Hp} {w : Wd} {ρ : Env} {h : Hh} {σ : L2.St} {H : Hp} {d : D} {v : V} (s : StR G P w ρ h σ H) (r : Rep G w d v) : LAt G w H d v := by
  cases d with
  | lst ds =>
    simp only [Rep, Rp] at r
    obtain ⟨a, vs, rfl, z, f, r⟩ := r
    exact ⟨a, vs, rfl, z, SqL.mono s.hr.fr f, r⟩
  | _ => exact r
theorem LAt.own {G : Gx} {w : Wd} {H : Hp} {d : D} {a : Addr} (il : isL d = true) (n : OwnAt G w d a H) : LAt G w H d (.ref a) := by
  obtain ⟨ds, rfl⟩ := isL_some il
  obtain ⟨vs, z, e, r⟩ := own_lst n
  exact ⟨a, vs, rfl, z, SqL.of e, r⟩
theorem sl_e (h : SE X ca W e c) : SL X ca W e c := ⟨h.pe.imp fun σ H Q ⟨P, w, ρ, h, st, k⟩ => ⟨P, w, ρ, h, st, k.imp fun d w' h' H' l st' q v r => q v (LAt.of st' r)⟩⟩
theorem sl_n (h : SN X ca W e c) : SL X ca W e (eL c) := ⟨h.pe.imp fun σ H Q ⟨P, w, ρ, h, st, k⟩ => ⟨P, w, ρ, h, st, (EPost.bind k).imp fun d w' h' H' l st' q a n => by
  obtain ⟨d', e, k2⟩ := q.opt st'
  split at e
  · rename_i il
    cases e
    exact k2 _ (LAt.own il n.1)
  · cases e⟩⟩
theorem sl_own (i : Nat) {y : Str} {xp : Pos} (hN : X.N[i]? = some y := by rfl) (hv : Vis X.env.scope y := by first | exact Or.inl rfl | exact Or.inr (Or.inl rfl) | exact Or.inr (Or.inr rfl))
    (hd : (y == ("__debug__" : Str)) = false := by decide) (hcd : (y == ("__classdict__" : Str)) = false := by decide) : SL X ca W (.Name y xp) (eL (eOwn i)) :=
  ⟨(pv i hN hv hd hcd).imp fun σ H Q ⟨P, w, ρ, h, st, k⟩ => by
    have k1 := EPost.bind k
    unfold eOwn at k1
    split at k1
    · rename_i d q
      obtain ⟨d', e, k2⟩ := (k1 w H (Wd.le.refl _) st).opt st
      obtain ⟨a, e1, e2, _⟩ := st.own i d q
      split at e
      · rename_i il
        cases e
        exact ⟨.ref a, e1, k2 _ (LAt.own il e2)⟩
      · cases e
    · exact k1.elim⟩
theorem se_tuple (ha : SL X ca W e c) (hm : X.mg "tuple" = none) (hg : Gl X "tuple" := by rfl) (he : starEach [e] X.env = (false, eval e X.env) :: starEach [] X.env := by rfl) (hpl : (backTo pos (starEach [] X.env)).any (·.1) = false := by rfl) :
    SE X ca W (.Call (.Name "tuple" p) [e] [] pos) (eMap dTuple c) :=
  ⟨(pe_callTy call_tuple_of hg hm (by decide +kernel) (pa_one ha.pe he) (he := he) (hpl := hpl)).imp fun σ H Q ⟨P, w, ρ, h, st, k⟩ => ⟨P, w, ρ, h, st, (EPost.bind k).imp fun d w1 h1 H1 l1 s1 k1 v rv => by
    obtain ⟨y, e, _⟩ := k1.opt s1
    cases d with
    | lst ds =>
      cases e
      obtain ⟨a, vs, rfl, z, f, r⟩ := rv
      refine ⟨a, vs, rfl, .inl ⟨f, fun p n => ?_⟩⟩
      obtain ⟨w2, l2, s2, r2⟩ := lay_tup s1 n r z
      exact k1 w2 _ l2 s2 (.ref p) r2
    | tup ds =>
      cases e
      have rv' : Rep ⟨X.K, ca⟩ w1 (.tup ds) v := rv
      have rv2 := rv'
      simp only [Rep, Rp] at rv2
      obtain ⟨a, vs, rfl, z, f, r⟩ := rv2
      exact ⟨a, vs, rfl, .inr ⟨SqT.mono s1.hr.fr f, k1 w1 H1 (Wd.le.refl _) s1 _ rv'⟩⟩
    | _ => cases e⟩⟩
theorem lay_lst {G : Gx} {P : Hp} {w : Wd} {ρ : Env} {h : Hh} {σ : L2.St} {H : Hp} {T : Addr} {ds : List D} {vs : List V} (s : StR G P w ρ h σ H) (n : H T = none) (r : Reps G w ds vs) (hz : vs.length ≤ sizeLine) :
    StR G P w ρ h σ (upd H T (.lst vs)) ∧ NewAt G P w ρ σ (.lst ds) T (upd H T (.lst vs)) := by
  refine ⟨s.alloc n, ⟨vs, hz, upd_same, r⟩, s.hr.notF n, s.hr.notiot n, s.hr.notP n, fun i x q hq => ?_⟩
  obtain ⟨b, e1, e2, _⟩ := s.own i x q
  obtain ⟨u, e3⟩ := e2.some
  rw [hq] at e1
  cases e1
  rw [n] at e3
  cases e3
theorem sn_list (ha : SL X ca W e c) (hm : X.mg "list" = none) (hg : Gl X "list" := by rfl) (he : starEach [e] X.env = (false, eval e X.env) :: starEach [] X.env := by rfl) (hpl : (backTo pos (starEach [] X.env)).any (·.1) = false := by rfl) :
    SN X ca W (.Call (.Name "list" p) [e] [] pos) (eMap dListN c) :=
  ⟨(pe_callTy call_list_of hg hm (by decide +kernel) (pa_one ha.pe he) (he := he) (hpl := hpl)).imp fun σ H Q ⟨P, w, ρ, h, st, k⟩ => ⟨P, w, ρ, h, st, (EPost.bind k).imp fun d w1 h1 H1 l1 s1 k1 v rv => by
    obtain ⟨y, e, _⟩ := k1.opt s1
    cases d with
    | lst ds =>
      cases e
      obtain ⟨a, vs, rfl, z, f, r⟩ := rv
      refine ⟨a, vs, rfl, .inl f, fun p n => ?_⟩
      obtain ⟨s2, r2⟩ := lay_lst s1 n r z
      exact k1 w1 _ (Wd.le.refl _) s2 p r2
    | tup ds =>
      cases e
      have rv2 : Rep ⟨X.K, ca⟩ w1 (.tup ds) v := rv
      simp only [Rep, Rp] at rv2
      obtain ⟨a, vs, rfl, z, f, r⟩ := rv2
      refine ⟨a, vs, rfl, .inr (SqT.mono s1.hr.fr f), fun p n => ?_⟩
      obtain ⟨s2, r2⟩ := lay_lst s1 n r z
      exact k1 w1 _ (Wd.le.refl _) s2 p r2
    | _ => cases e⟩⟩
/-! ### max, min of two -/
def dMax2 : List D → Option D
  | [.int i, .int j] => some (.int (if j > i then j else i))
  | _ => none
def dMin2 : List D → Option D
  | [.int i, .int j] => some (.int (if j < i then j else i))
  | _ => none
def eMapL (f : List D → Option D) (cs : EM (List D)) : EM D := eBind cs fun ds => eOpt (f ds)
theorem se_max2 {a b : Expr} (hc : X.calm = true) (ha : SA X ca W [a, b] cs) (hm : X.mg "max" = none) (hg : Gl X "max" := by rfl) (he : starEach [a, b] X.env = (false, eval a X.env) :: starEach [b] X.env := by rfl) (hpl : (backTo pos (starEach [b] X.env)).any (·.1) = false := by rfl) :
    SE X ca W (.Call (.Name "max" p) [a, b] [] pos) (eMapL dMax2 cs) :=
  ⟨(pe_callB (call_max2 hc) hg hm (by decide +kernel) ha.pa (he := he) (hpl := hpl)).imp fun σ H Q ⟨P, w, ρ, h, st, k⟩ => ⟨P, w, ρ, h, st, (EPost.bind k).imp fun ds w1 h1 H1 l1 s1 k1 vs rs => by
    obtain ⟨y, e, k2⟩ := k1.opt s1
    unfold dMax2 at e
    split at e
    · rename_i i j
      cases e
      simp only [Reps, Rps, Rp] at rs
      obtain ⟨v, r, rfl, rfl, v2, r2, rfl, rfl, rfl⟩ := rs
      exact ⟨i, j, rfl, k2 _ (by simp only [Rep, Rp])⟩
    · cases e⟩⟩
theorem se_min2 {a b : Expr} (hc : X.calm = true) (ha : SA X ca W [a, b] cs) (hm : X.mg "min" = none) (hg : Gl X "min" := by rfl) (he : starEach [a, b] X.env = (false, eval a X.env) :: starEach [b] X.env := by rfl) (hpl : (backTo pos (starEach [b] X.env)).any (·.1) = false := by rfl) :
    SE X ca W (.Call (.Name "min" p) [a, b] [] pos) (eMapL dMin2 cs) :=
  ⟨(pe_callB (call_min2 hc) hg hm (by decide +kernel) ha.pa (he := he) (hpl := hpl)).imp fun σ H Q ⟨P, w, ρ, h, st, k⟩ => ⟨P, w, ρ, h, st, (EPost.bind k).imp fun ds w1 h1 H1 l1 s1 k1 vs rs => by
    obtain ⟨y, e, k2⟩ := k1.opt s1
    unfold dMin2 at e
    split at e
    · rename_i i j
      cases e
      simp only [Reps, Rps, Rp] at rs
      obtain ⟨v, r, rfl, rfl, v2, r2, rfl, rfl, rfl⟩ := rs
      exact ⟨i, j, rfl, k2 _ (by simp only [Rep, Rp])⟩
    · cases e⟩⟩
/-! ### isinstance, of a built-in type -/
def dTy : D → Option String
  | .non => some "NoneType"
  | .bl _ => some "bool"
  | .int _ => some "int"
  | .str _ => some "str"
  | .tup _ => some "tuple"
  | .lst _ => some "list"
  | .dic _ => some "dict"
  | _ => none
/-- b: how two types stand -/
def isT (T t : String) : Option Bool := if t = T then some true else if t = "bool" ∧ T = "int" then some true else some false
def dIsi (T : String) (d : D) : Option D := (dTy d).bind fun t => (isT T t).map .bl
theorem ty_rp {G : Gx} {H : Hp} {iot : List Addr} {d : D} {v : V} {t : String} (e : dTy d = some t) (r : Rp G H iot d v) : TyX G.K H v (.type t) := by
  cases d with
  | non => cases e; have ev : v = .non := by simpa only [Rp] using r
           subst ev; exact .base .non
  | bl b => cases e; have ev : v = .bl b := by simpa only [Rp] using r
            subst ev; exact .base (.bl b)
  | int b => cases e; have ev : v = .int b := by simpa only [Rp] using r
             subst ev; exact .base (.int b)
  | str b => cases e; have ev : v = .str b := by simpa only [Rp] using r
             subst ev; exact .base (.str b)
  | tup ds =>
    cases e
    simp only [Rp] at r
    obtain ⟨a, vs, rfl, z, f, r⟩ := r
    rcases f with (f | ⟨o, f⟩) | ⟨o, its, n, q1, q2, _⟩
    · exact .base (.tup f)
    · exact .fTuple f
    · exact .kTuple q1 q2
  | lst ds =>
    cases e
    simp only [Rp] at r
    obtain ⟨a, vs, rfl, z, f, r⟩ := r
    rcases f with (f | ⟨o, f⟩) | ⟨o, its, n, q1, q2, _⟩
    · exact .base (.lst f)
    · exact .base (.frz f)
    · exact .kList q1 q2
  | dic ds =>
    cases e
    simp only [Rp] at r
    obtain ⟨a, vs, rfl, z, f, r⟩ := r
    exact .base (.dK f)
  | _ => cases e
theorem pe_tyN {y T : String} {pos : Pos} (hm : X.mg (Str.ofString y) = none) (hg : Gl X (Str.ofString y) := by rfl) (hv : bootBuiltins (Str.ofString y) = some (.type T) := by decide +kernel) (hn : Str.ofString y ≠ "__name__" := by decide) (hdb : (Str.ofString y == ("__debug__" : Str)) = false := by decide) :
    PE X (.Name (Str.ofString y) pos) (tC (.ty T)) := ⟨fun pins s σ H Q I h => ld_blt I hg hm hv ⟨.ty T, H, I, rfl, h⟩ hn hdb⟩
theorem kit_tys {K : PySem.W.Frag} {T t : String} {b : Bool} (hT : T = "int" ∨ T = "bool" ∨ T = "str" ∨ T = "tuple" ∨ T = "list" ∨ T = "dict") (ht : ∃ d, dTy d = some t) (e : isT T t = some b) : PySem.W.kitOne K (.type t) (.type T) = some b := by
  refine kit_ty ?_
  obtain ⟨d, ht⟩ := ht
  have ht' : t = "NoneType" ∨ t = "bool" ∨ t = "int" ∨ t = "str" ∨ t = "tuple" ∨ t = "list" ∨ t = "dict" := by
    cases d <;> simp [dTy] at ht <;> simp [← ht]
  have key : ∀ T ∈ ["int", "bool", "str", "tuple", "list", "dict"], ∀ t ∈ ["NoneType", "bool", "int", "str", "tuple", "list", "dict"], kitB t T = isT T t := by decide +kernel
  rw [key T (by simpa using hT) t (by simpa using ht'), e]
theorem se_isi {y T : String} {p2 : Pos} (ha : SO X ca W e c) (hm2 : X.mg (Str.ofString y) = none) (hm : X.mg "isinstance" = none) (hg : Gl X "isinstance" := by rfl)
    (hg2 : Gl X (Str.ofString y) := by rfl) (hv : bootBuiltins (Str.ofString y) = some (.type T) := by decide +kernel) (hn : Str.ofString y ≠ "__name__" := by decide) (hdb : (Str.ofString y == ("__debug__" : Str)) = false := by decide)
    (hT : T = "int" ∨ T = "bool" ∨ T = "str" ∨ T = "tuple" ∨ T = "list" ∨ T = "dict" := by decide)
    (hs : starEach [e, .Name (Str.ofString y) p2] X.env = (false, eval e X.env) :: starEach [.Name (Str.ofString y) p2] X.env := by rfl) (hs2 : starEach [.Name (Str.ofString y) p2] X.env = (false, eval (.Name (Str.ofString y) p2) X.env) :: starEach [] X.env := by rfl) (hpl : (backTo pos (starEach [.Name (Str.ofString y) p2] X.env)).any (·.1) = false := by rfl) :
    SE X ca W (.Call (.Name "isinstance" p) [e, .Name (Str.ofString y) p2] [] pos) (eMap (dIsi T) c) :=
  ⟨(pe_callB call_isi hg hm (by decide +kernel) (pa_cons ha.pe (pa_cons (pe_tyN hm2 hg2 hv hn hdb) pa_nil hs2) hs) (he := hs) (hpl := hpl)).imp fun σ H Q ⟨P, w, ρ, h, st, k⟩ => ⟨P, w, ρ, h, st, (EPost.bind k).imp fun d w1 h1 H1 l1 s1 k1 v rv => by
    obtain ⟨z, ez, k2⟩ := k1.opt s1
    unfold dIsi at ez
    cases q : dTy d with
    | none => rw [q] at ez; cases ez
    | some t =>
      rw [q] at ez
      cases q2 : isT T t with
      | none => simp [q2] at ez
      | some b =>
        simp only [Option.bind_some, q2, Option.map_some, Option.some.injEq] at ez
        subst ez
        exact ⟨v, .ty T, .type t, .type T, b, rfl, .ty T, ty_rp q rv, kit_tys hT ⟨d, q⟩ q2, k2 _ (by simp only [Rep, Rp])⟩⟩⟩
end
end PV
end

section
set_option Elab.async false
set_option linter.all false
set_option maxRecDepth 100000
set_option maxHeartbeats 1000000
/-! PV.R13: texts. -/
namespace PV
open PySem L2
open PyProof.Rows hiding St

def chkS (c : EM D) : EM D := eBind c fun d => eOpt (match d with | .str a => some (.str a) | _ => none)
def dSplit : D → D → Option D
  | .str a, .str b => if (b.length == 0) = false ∧ a.length + 2 ≤ 16777216 ∧ (Txt.split a b).length ≤ 16777216 then some (.lst ((Txt.split a b).map .str)) else none
  | _, _ => none
def dPart : D → D → Option D
  | .str a, .str b => if (b.length == 0) = false ∧ a.length ≤ 16777216 then some (.tup [.str (Txt.partition a b).1, .str (Txt.partition a b).2.1, .str (Txt.partition a b).2.2]) else none
  | _, _ => none
def strsD : List D → Option (List Str)
  | [] => some []
  | .str x :: r => (strsD r).map (x :: ·)
  | _ :: _ => none
def dJoin : D → D → Option D
  | .str a, .lst ds => (strsD ds).bind fun ys => if (ys.map (·.length)).sum + ys.length * a.length ≤ 16777216 then some (.str (Txt.join a ys)) else none
  | .str a, .tup ds => (strsD ds).bind fun ys => if (ys.map (·.length)).sum + ys.length * a.length ≤ 16777216 then some (.str (Txt.join a ys)) else none
  | _, _ => none
theorem strsD_rp {G : Gx} {F : Hp} {iot : List Addr} : ∀ {ds : List D} {ys : List Str} {vs : List V}, strsD ds = some ys → Rps G F iot ds vs → vs = ys.map V.str
  | [], bs, vs, e, r => by
    cases e
    simp only [Rps] at r
    exact r
  | d :: ds, bs, vs, e, r => by
    cases d with
    | str b =>
      simp only [strsD] at e
      cases q : strsD ds with
      | none => rw [q] at e; cases e
      | some cs =>
        rw [q] at e
        cases e
        simp only [Rps, Rp] at r
        obtain ⟨v, t, rfl, rfl, rt⟩ := r
        rw [strsD_rp q rt]
        rfl
    | _ => cases e
theorem rps_strs {G : Gx} {F : Hp} {iot : List Addr} : ∀ ys : List Str, Rps G F iot (ys.map D.str) (ys.map V.str)
  | [] => Rps.nil
  | y :: ys => Rps.cons (by simp only [Rp]) (rps_strs ys)
section
variable {X : Cx} {ca : Nat → Addr} {W : WX} {e o : Expr} {es : List Expr} {c c1 c2 : EM D} {cs : EM (List D)} {pos p apos : Pos} {x : Str}
theorem EPost.optF {α : Type} {G : Gx} {P : Hp} {w : Wd} {ρ : Env} {h : Hh} {σ : L2.St} {o : Option α} {a : α} {k : α → Wd → Hh → Hp → Prop} (e : EPost G W P w ρ σ (eOpt o ρ h) k) (q : o = some a) : ∀ w' H', w.le w' → StR G P w' ρ h σ H' → k a w' h H' := by
  subst q
  exact e
theorem EPost.chkS {G : Gx} {P : Hp} {w : Wd} {ρ : Env} {h : Hh} {σ : L2.St} {f : D → EM D} {k : D → Wd → Hh → Hp → Prop} (q : EPost G W P w ρ σ (eBind (PV.chkS c) f ρ h) k) :
    EPost G W P w ρ σ (c ρ h) fun d w1 h1 H1 => ∃ a, d = .str a ∧ EPost G W P w1 ρ σ (f (.str a) ρ h1) k := by
  refine (EPost.bind (EPost.bind q)).imp fun d w1 h1 H1 l1 s1 k1 => ?_
  obtain ⟨y, e, k2⟩ := k1.opt s1
  split at e
  · cases e
    exact ⟨_, rfl, k2⟩
  · cases e
theorem rp_str {G : Gx} {F : Hp} {iot : List Addr} {a : Str} {v : V} (r : Rp G F iot (.str a) v) : v = .str a := by simpa only [Rp] using r
/-- text.split(sep) -/
theorem sn_split (ho : SE X ca W o c1) (he : SE X ca W e c2) (hs : starEach [e] X.env = [(false, eval e X.env)] := by rfl) (hbase : attributeBase o "split" X.env (eval o X.env) = eval o X.env := by rfl) (hline : (apos.endLine == pos.line) = true := by rfl) :
    SN X ca W (.Call (.Attribute o "split" apos) [e] [] pos) (eOp dSplit (chkS c1) c2) :=
  ⟨(pe_split ho.pe he.pe hs hbase hline).imp fun σ H Q ⟨P, w, ρ, h, st, k⟩ => ⟨P, w, ρ, h, st, (EPost.chkS k).imp fun d w1 h1 H1 l1 s1 ⟨a, ed, k1⟩ v rv => by
    subst ed
    have := rp_str rv
    subst this
    refine ⟨⟨a, rfl⟩, P, w1, ρ, h1, s1, (EPost.bind k1).imp fun y w2 h2 H2 l2 s2 k2 u ru => ?_⟩
    obtain ⟨z, ez, k3⟩ := k2.opt s2
    unfold dSplit at ez
    split at ez
    · rename_i a' b ea
      cases ea
      split at ez
      · rename_i hz
        obtain ⟨z1, z2, z3⟩ := hz
        cases ez
        have := rp_str ru
        subst this
        refine ⟨a, b, rfl, rfl, z1, by rw [sizeLine_eq]; exact z2, fun p n => ?_⟩
        obtain ⟨s3, n3⟩ := lay_lst s2 n (rps_strs (Txt.split a b)) (by rw [List.length_map, sizeLine_eq]; exact z3)
        exact k2.optF (by simp only [dSplit, z1, z2, z3, and_self, if_true]) w2 _ (Wd.le.refl _) s3 p n3
      · cases ez
    · cases ez⟩⟩
/-- text.partition(sep) -/
theorem se_part (ho : SE X ca W o c1) (he : SE X ca W e c2) (hs : starEach [e] X.env = [(false, eval e X.env)] := by rfl) (hbase : attributeBase o "partition" X.env (eval o X.env) = eval o X.env := by rfl) (hline : (apos.endLine == pos.line) = true := by rfl) :
    SE X ca W (.Call (.Attribute o "partition" apos) [e] [] pos) (eOp dPart (chkS c1) c2) :=
  ⟨(pe_partition ho.pe he.pe hs hbase hline).imp fun σ H Q ⟨P, w, ρ, h, st, k⟩ => ⟨P, w, ρ, h, st, (EPost.chkS k).imp fun d w1 h1 H1 l1 s1 ⟨a, ed, k1⟩ v rv => by
    subst ed
    have := rp_str rv
    subst this
    refine ⟨⟨a, rfl⟩, P, w1, ρ, h1, s1, (EPost.bind k1).imp fun y w2 h2 H2 l2 s2 k2 u ru => ?_⟩
    obtain ⟨z, ez, k3⟩ := k2.opt s2
    unfold dPart at ez
    split at ez
    · rename_i a' b ea
      cases ea
      split at ez
      · rename_i hz
        obtain ⟨z1, z2⟩ := hz
        cases ez
        have := rp_str ru
        subst this
        refine ⟨a, b, rfl, rfl, z1, by rw [sizeLine_eq]; exact z2, fun p n => ?_⟩
        obtain ⟨w3, l3, s3, r3⟩ := lay_tup s2 n (rps_strs [(Txt.partition a b).1, (Txt.partition a b).2.1, (Txt.partition a b).2.2]) (by show 3 ≤ sizeLine; decide)
        exact k2.optF (by simp only [dPart, z1, z2, and_self, if_true]; rfl) w3 _ l3 s3 (.ref p) r3
      · cases ez
    · cases ez⟩⟩
/-- sep.join(..) -/
theorem se_join (ho : SE X ca W o c1) (he : SL X ca W e c2) (hs : starEach [e] X.env = [(false, eval e X.env)] := by rfl) (hbase : attributeBase o "join" X.env (eval o X.env) = eval o X.env := by rfl) (hline : (apos.endLine == pos.line) = true := by rfl) :
    SE X ca W (.Call (.Attribute o "join" apos) [e] [] pos) (eOp dJoin (chkS c1) c2) :=
  ⟨(pe_join ho.pe he.pe hs hbase hline).imp fun σ H Q ⟨P, w, ρ, h, st, k⟩ => ⟨P, w, ρ, h, st, (EPost.chkS k).imp fun d w1 h1 H1 l1 s1 ⟨a, ed, k1⟩ v rv => by
    subst ed
    have := rp_str rv
    subst this
    refine ⟨⟨a, rfl⟩, P, w1, ρ, h1, s1, (EPost.bind k1).imp fun y w2 h2 H2 l2 s2 k2 u ru => ?_⟩
    obtain ⟨z, ez, k3⟩ := k2.opt s2
    cases y with
    | lst ds =>
      simp only [dJoin] at ez
      cases q : strsD ds with
      | none => rw [q] at ez; cases ez
      | some ys =>
        rw [q] at ez
        simp only [Option.bind_some] at ez
        split at ez
        · rename_i hz
          cases ez
          obtain ⟨b, vs, rfl, z, f, r⟩ := ru
          have := strsD_rp q r
          subst this
          exact ⟨a, b, ys, rfl, rfl, .inl f, hz, k3 _ (by simp only [Rep, Rp])⟩
        · cases ez
    | tup ds =>
      simp only [dJoin] at ez
      cases q : strsD ds with
      | none => rw [q] at ez; cases ez
      | some ys =>
        rw [q] at ez
        simp only [Option.bind_some] at ez
        split at ez
        · rename_i hz
          cases ez
          have ru' : Rep ⟨X.K, ca⟩ w2 (.tup ds) u := ru
          simp only [Rep, Rp] at ru'
          obtain ⟨b, vs, rfl, z, f, r⟩ := ru'
          have := strsD_rp q r
          subst this
          exact ⟨a, b, ys, rfl, rfl, .inr (SqT.mono s2.hr.fr f), hz, k3 _ (by simp only [Rep, Rp])⟩
        · cases ez
    | _ => cases ez⟩⟩
/-! ### f'..' -/
def dFmt : D → Option D
  | .str y => if y.length ≤ 16777216 then some (.str y) else none
  | .int i => if i.natAbs.log2 < 1920 then some (.str (toString i)) else none
  | _ => none
theorem se_fmt (ha : SE X ca W e c) : SE X ca W (.FormattedValue e (-1) none pos) (eMap dFmt c) :=
  ⟨(pe_fmt ha.pe).imp fun σ H Q ⟨P, w, ρ, h, st, k⟩ => ⟨P, w, ρ, h, st, (EPost.bind k).imp fun d w1 h1 H1 l1 s1 k1 v rv => by
    obtain ⟨z, ez, k3⟩ := k1.opt s1
    cases d with
    | str y =>
      simp only [dFmt] at ez
      split at ez
      · rename_i hz
        cases ez
        have := rp_str rv
        subst this
        exact .inl ⟨y, rfl, by rw [sizeLine_eq]; exact hz, k3 _ (by simp only [Rep, Rp])⟩
      · cases ez
    | int i =>
      simp only [dFmt] at ez
      split at ez
      · rename_i hz
        cases ez
        have : v = .int i := by simpa only [Rep, Rp] using rv
        subst this
        exact .inr ⟨i, rfl, hz, k3 _ (by simp only [Rep, Rp])⟩
      · cases ez
    | _ => cases ez⟩⟩
def eJoin : List (EM D) → Str → EM D
  | [], acc => eRet (.str acc)
  | c :: cs, acc => eBind c fun x => match x with
    | .str y => if (acc ++ y).length ≤ 16777216 then eJoin cs (acc ++ y) else fun _ _ => .stuck
    | _ => fun _ _ => .stuck
structure SJ (X : Cx) (ca : Nat → Addr) (W : WX) (es : List Expr) (cs : List (EM D)) : Prop where
  pj : PJ X es (cs.map (RD ⟨X.K, ca⟩ W))
theorem sj_nil : SJ X ca W [] [] := ⟨.nil⟩
theorem sj_cons {cs : List (EM D)} (h : SE X ca W e c) (r : SJ X ca W es cs) : SJ X ca W (e :: es) (c :: cs) := ⟨.cons h.pe r.pj⟩
theorem join_run {G : Gx} {P : Hp} {ρ : Env} {σ : L2.St} {Q : VK} : ∀ (cs : List (EM D)) (acc : Str) (w : Wd) (h : Hh) (H : Hp), StR G P w ρ h σ H → EPost G W P w ρ σ (eJoin cs acc ρ h) (fun d w' _ H' => ∀ v, Rep G w' d v → Q v H') →
    tJs (cs.map (RD G W)) acc σ H fun out H1 => Q (.str out) H1
  | [], acc, w, h, H, st, k => k w H (Wd.le.refl _) st (.str acc) (by simp only [Rep, Rp])
  | c :: cs, acc, w, h, H, st, k => ⟨P, w, ρ, h, st, (EPost.bind k).imp fun d w1 h1 H1 l1 s1 k1 v rv => by
    cases d with
    | str y =>
      have := rp_str rv
      subst this
      simp only at k1
      split at k1
      · rename_i hz
        exact ⟨y, rfl, by rw [sizeLine_eq]; exact hz, join_run cs (acc ++ y) w1 h1 H1 s1 k1⟩
      · exact k1.elim
    | _ => exact k1.elim⟩
theorem se_joined {v1 v2 : Expr} {rest : List Expr} {cs : List (EM D)} (h : SJ X ca W (v1 :: v2 :: rest) cs) : SE X ca W (.JoinedStr (v1 :: v2 :: rest) pos) (eJoin cs Str.empty) :=
  ⟨(pe_joined h.pj).imp fun σ H Q ⟨P, w, ρ, h, st, k⟩ => join_run cs Str.empty w h H st k⟩
theorem se_joined1 (h : SE X ca W e c) : SE X ca W (.JoinedStr [e] pos) c := ⟨pe_joined1 h.pe⟩
end
end PV
end

section
set_option Elab.async false
set_option linter.all false
set_option maxRecDepth 100000
set_option maxHeartbeats 2000000
/-! PV.R14: own exceptions: a class whose __init__ hands a text on to super() and keeps place. -/
namespace PV
open PySem PySem.W PySem.Calls PySem.HandSPX
open PyProof.Rows hiding St

/-- the text of such an __init__ -/
def plArgs (p1 p2 : Pos) : Arguments := { posonlyargs := [], args := [{ arg := "self", annotation := none, pos := p1 }, { arg := "place", annotation := none, pos := p2 }], vararg := none, kwonlyargs := [], kw_defaults := [], kwarg := none, defaults := [] }
def plBody (m : Str) (j : Nat) (p0 p1 p2 p3 p4 p5 q1 q2 q3 q4 : Pos) : List Stmt :=
  [.Expr (.Call (.Attribute (.Call (.Name "super" p0) [] [] p1) "__init__" p2) [.Constant (.str m) j p3] [] p4) p5, .Assign [.Attribute (.Name "self" q1) "place" q2] (.Name "place" q3) q4]
def plScope : Scope := { kind := .function, names := [(Str.ofString "self", .local), (Str.ofString "place", .local), (Str.ofString "__class__", .free), (Str.ofString "super", .globalImplicit)], isGenerator := false, isCoroutine := false, more := [] }
/-- what the written part says of the class at C -/
structure PlTxt (K : Frag) (prog : Program) (C fI : Addr) : Prop where
  cls : ∃ nm q N bs bm sn sub ab col dd k0 k1 k2 k3 k5, K.lookup C = some (excClassObj nm q C N bs bm true sn sub ab col dd k0 k1 k2 k3 k5 "ValueError.__new__") ∧ refsVE bm = true ∧
    alongIn K "__init__" (((Value.ref C :: bm).dropWhile (· != .ref C)).drop 1) = some (some (.builtin "ValueError.__init__"))
  sa : findIn K (.ref C) "__setattr__" = some (some (.builtin "object.__setattr__"))
  noN : findIn K (.ref C) "place" = some none
  iC : findIn K (.ref C) "__init__" = some (some (.ref fI))
  tC : typeIn K (.ref fI) = some (.type "function")
  kC : keepIn K (.ref C) = true
  exC : subIn K (.ref C) (.type "BaseException") = some true
  veC : subIn K (.ref C) (.type "ValueError") = some true
  tyC : typeIn K (.ref C) = some (.type "type")
  hdC : hasDictIn K C = true
  sub : mroIn K C (.ref C) = some true
  sup : nsIn K mainGlobals "super" = some none
  tp : nsIn K cStatics "thirdparty.any" = some none
  top : (prog.main.scope.names.lookup ("super" : Str)).isSome = false
  fn : ∃ (qual m : Str) (j : Nat) (oc doc pm ct : Value) (od an : Option Addr) (osl : Array (Option Value)) (cda cc : Addr) (p1 p2 r0 r1 r2 r3 r4 r5 q1 q2 q3 q4 : Pos),
    K.lookup fI = some ⟨oc, od, .func (ksFn "__init__" qual (plArgs p1 p2) (plBody m j r0 r1 r2 r3 r4 r5 q1 q2 q3 q4) plScope .none .none doc pm an (.ref cda) ct cc), osl⟩ ∧ codeIn K (.ref cda) qual = true ∧ (r2.endLine == r4.line) = true ∧
    (∃ (ccl : Value) (cdd : Option Addr) (vs : Array Value) (ccs : Array (Option Value)) (file : Str) (tf : Tok), K.lookup cda = some ⟨ccl, cdd, .fields vs, ccs⟩ ∧ vs[2]? = some (.str file tf) ∧ ((prog.main.file : Str) == file) = true) ∧
    (∃ (cl : Value) (cld : Option Addr) (csl : Array (Option Value)), K.lookup cc = some ⟨cl, cld, .cell (some (.ref C)), csl⟩)
/-- what __init__ leaves -/
structure PlEnd (h h' : Heap) (x C dx : Addr) (v : Value) : Prop where
  keep : ∀ b o, b ≠ x → h.get? b = some o → h'.get? b = some o
  obj : ∃ t1, h'.get? x = some { cls := .ref C, dict := some dx, data := .fields #[.ref t1, .none, .none, .none, .bool false, .none] }
  dbig : h.objs.size ≤ dx
  dne : dx ≠ x
  ns : h'.Ns1 dx (fun y => if y = "place" then some v else none)
theorem super_call {o : Expr} {c : Const} {j : Nat} {r2 r3 r4 : Pos} {env : PySem.Env} (hl : (r2.endLine == r4.line) = true) :
    eval (.Call (.Attribute o "__init__" r2) [.Constant c j r3] [] r4) env = (do
      let ov ← attributeBase o "__init__" env (eval o env)
      standAt r2.atName
      let (f, first) ← holding [ov] (getMethod ov "__init__" (do return (← importBound o env).getD true))
      callWith r4 f first (backTo r4 (starEach [.Constant c j r3] env)) []) := by
  have hp : methodCallPos true o env r2 r4 = pure r4 := by
    unfold methodCallPos
    rw [hl]
    rfl
  have hm : ∀ ov, methodCall o "__init__" r2 r4 env ov 1 (backTo r4 (starEach [.Constant c j r3] env)) (backToKw r4 (keywordEach [] env)) = (do
      let (f, first) ← holding [ov] (getMethod ov "__init__" (do return (← importBound o env).getD true))
      callWith r4 f first (backTo r4 (starEach [.Constant c j r3] env)) []) := fun ov => by
    show (do
      let (f, first) ← holding [ov] (getMethod ov "__init__" (do return (← importBound o env).getD true))
      let callPos ← methodCallPos true o env r2 r4
      callWith callPos f first (backTo r4 (starEach [.Constant c j r3] env)) []) = _
    rw [hp]
    rfl
  have e : eval (.Call (.Attribute o "__init__" r2) [.Constant c j r3] [] r4) env = (do
      let ov ← attributeBase o "__init__" env (eval o env)
      standAt r2.atName
      methodCall o "__init__" r2 r4 env ov 1 (backTo r4 (starEach [.Constant c j r3] env)) (backToKw r4 (keywordEach [] env))) := by rfl
  rw [e]
  simp only [hm]
theorem ldE {M : Model} {A : Around} {E : Value → Shared → Prop} {s : Shared} {env : PySem.Env} {m : Str → Option Value} {x : Str} {pos : Pos} {v : Value} {Q : Value → Shared → Prop} (hn : s.heap.Ns env.locals m) (hv : m x = some v) (h : Q v s)
    (hk : env.scope.kind = .function := by rfl) (hl : env.kindOf x = some .local := by rfl) (hd : (x == ("__debug__" : Str)) = false := by decide) : wpAny M A (eval (.Name x pos) env) Q E s :=
  wpAny_Name (wpAny_loadName_local hk hl hn hv h) hd
section
variable {prog : Program} {w : World} {A : Around} {E : Value → Shared → Prop} {R : Result → Shared → Prop} {s : Shared} {K : Frag} {mg : Str → Option Value} {C fI : Addr}
theorem call_mw {h : Heap} {g : Array GenState} {d : Drawn} {t : Nat} {os : OsState} {nm q : Str} {N : Addr} {bs bm : List Value} {hdct : Bool} {sn : List Str} {sub : List Value} {ab : Bool} {col : Option Bool} {dd : Option Addr} {k0 k1 k2 k3 k5 : Option Value}
    {u e t0 : Addr} {rest : List Value} {Q : Value → Shared → Prop} (hC : h.get? C = some (excClassObj nm q C N bs bm hdct sn sub ab col dd k0 k1 k2 k3 k5 "ValueError.__new__")) (he : h.get? e = some (excO C t0))
    (hu : h.get? u = some (kxs_mw "ValueError.__init__" e)) (hrest : rest.length ≤ sizeLine)
    (hq : ∀ h' t1, (∀ b o, b ≠ e → h.get? b = some o → h'.get? b = some o) → h'.get? e = some (excO C t1) → Q .none ⟨h', g, d, t, os⟩) : wpAny (model prog w) A (call (.ref u) rest) Q E ⟨h, g, d, t, os⟩ := by
  refine wpAny_call (codeAny_of_tree ?_)
  show wpAny _ A.in1 (callAny (.ref u) ⟨rest, []⟩) _ _ _
  simp only [callAny]
  refine wpAny_bind (wpAny_load hu ?_)
  simp only [kxs_mw, show (Value.type "method-wrapper" == Value.type "method" || Value.type "method-wrapper" == Value.type "builtin_function_or_method" || Value.type "method-wrapper" == Value.type "method-wrapper") = true by decide, if_true]
  refine KFB.if_so (by decide) ?_
  refine wpAny_bind (check_bound_init F.excBase_ValueError.toExcCallFacts hC he rfl ?_)
  refine wpAny_bind (wpAny_pure (wpAny_pure ?_))
  refine ⟨plainId_quiet F.excBase_ValueError.init.plain _, codeAny_builtin F.excBase_ValueError.initEntry ?_⟩
  exact exc_init_tree (cls := .ref C) (t0 := t0) (dv := none) (c2 := .none) (c3 := .none) (b4 := .bool false) he hrest fun h' k e' _ => hq h' _ k e'
theorem pl_ne {h : Heap} {o : Obj} {cd : ClassData} {x : Addr} (X : K.In h) (hx : h.get? x = some o) (hn : ∀ c, o.data ≠ .cls c) (hc : clsIn K C = some cd) : x ≠ C := by
  rintro rfl
  unfold clsIn at hc
  split at hc
  · rename_i a b c d q
    have := X _ _ q
    rw [hx] at this
    cases this
    exact hn _ rfl
  · cases hc
theorem pl_init (T : PlTxt K prog C fI) (hb : ∃ mb, s.heap.Ns builtinsNs mb ∧ mb "super" = some (.type "super")) (hgl : ∃ m0, s.heap.Ns mainGlobals m0 ∧ m0 "super" = none) {x t0 : Addr} {v : Value} (X : K.In s.heap) (hlim : s.heap.NoLimit) (hx : s.heap.get? x = some (excO C t0)) (hnx : K.lookup x = none) (hroom : A.depth < recursionLimit)
    (hq : ∀ h' tk dx, PlEnd s.heap h' x C dx v → R (.ok (.ret .none)) { s with heap := h', toks := tk }) :
    codeAny (model prog w) A (.call (.ref fI) ⟨[.ref x, v], []⟩) R s := by
  obtain ⟨qual, m, j, oc, doc, pm, ct, od, an, osl, cda, cc, p1, p2, r0, r1, r2, r3, r4, r5, q1, q2, q3, q4, ho, hcd, hline, ⟨ccl, cdd, vs, ccs, file, tf, hcode, hvs, hfile⟩, cl, cld, csl, hcell⟩ := T.fn
  obtain ⟨nm, q, N, bs, bm, sn, sub, ab, col, dd, k0, k1, k2, k3, k5, hC, hbm, hal⟩ := T.cls
  have hcl : clsIn K C = some { name := nm, bases := bs, mro := .ref C :: bm, ns := N, qualname := q, hasDict := true, slotNames := sn, subclasses := sub, abstract := ab, collection := col, hasDel := false } := by unfold clsIn; rw [hC] <;> rfl
  refine ks_codeAny_call_defAt (body := plBody m j r0 r1 r2 r3 r4 r5 q1 q2 q3 q4) (binds := [("self", .ref x), ("place", v)]) (by omega) (X _ _ ho) rfl hlim (codeRec_of X hcd) rfl (BindsTo.of_eq (by first | rfl | with_unfolding_all rfl)) (show ∀ y ∈ plScope.names, y.2 ≠ .cell by decide) (fun y hy => ?loc) (fun h₁ hns k₁ => ?body) rfl rfl rfl
  case loc =>
    rcases List.mem_cons.mp hy with rfl | hy
    · rfl
    · rw [List.mem_singleton.mp hy]
      rfl
  obtain ⟨hp, g, d, tk, os⟩ := s
  have X₁ : K.In h₁ := X.keeps k₁
  have hx₁ := k₁ _ _ hx
  have hC₁ := X₁ _ _ hC
  obtain ⟨mb, hmb, hsb⟩ := hb
  obtain ⟨m0, hm0, hs0⟩ := hgl
  have hself : (fun y => List.lookup y (List.reverse [(Str.ofString "self", Value.ref x), (Str.ofString "place", v)])) (Str.ofString "self") = some (.ref x) := by first | rfl | with_unfolding_all rfl | decide +kernel
  have hplace : (fun y => List.lookup y (List.reverse [(Str.ofString "self", Value.ref x), (Str.ofString "place", v)])) (Str.ofString "place") = some v := by first | rfl | with_unfolding_all rfl | decide +kernel
  refine ks_wpAt_execs_cons (ks_wpAt_Expr_any (ks_wpAt_MethodCall ?_ (super_call hline)))
  refine ks_wpAt_super_base (env := ksEnv qual plScope hp.objs.size fI (.ref cda) cc) (by rfl) (by rfl) (by decide) rfl (X₁ _ _ ho) rfl (by rfl) rfl (X₁ _ _ hcode) rfl hvs hfile T.top ?_
  refine ks_loadName_global rfl (by rfl) (loadGlobal_builtin (env := ksEnv qual plScope hp.objs.size fI (.ref cda) cc) (hm0.keeps k₁) hs0 (hmb.keeps k₁) hsb ⟨rfl, ?_⟩)
  refine wpAny_loadName_free rfl (by rfl) rfl ⟨_, X₁ _ _ hcell, rfl⟩ ?_
  refine wpAny_loadName_local rfl (by rfl) hns hself ?_
  refine ks_wpAny_isType_cls hC₁ rfl ⟨rfl, ?_⟩
  refine ks_wpAny_call_super hC₁ rfl hx₁ rfl (fun c e => nomatch e) (looks_mroIn X₁ T.sub) (fun h₂ hso k₂ => ?_)
  have X₂ : K.In h₂ := X₁.keeps k₂
  have hx₂ := k₂ _ _ hx₁
  have hl : (h₁.objs.size : Nat) < h₂.objs.size := Heap.lt_size hso
  have hI : Looks (model prog w) h₂ (isInstance (.ref x) (.type "ValueError")) true := (show Looks (model prog w) h₂ (typeOf (.ref x)) (.ref C) from fun A Q E s k q => wpAny_typeOf_ref (k _ _ hx₂) q).andThen (looks_subIn X₂ T.veC)
  refine kxs_getMethod kxs_ValueError (l₀ := .ref C :: bm) hso (looks_opaque X₂ T.tp) (fun A Q E s k q => wpAny_bind ((looks_clsIn X₂ hcl) A _ E s k (wpAny_pure q))) rfl X₂ hal hI (pl_ne X₂ hx₂ (fun c e => nomatch e) hcl) (by decide) ?_
  have k₃ : ∀ b o, h₂.get? b = some o → (h₂.push (kxs_mw "ValueError.__init__" x)).get? b = some o := fun b o e => Heap.get?_push_of_some _ e
  have hu : (h₂.push (kxs_mw "ValueError.__init__" x)).get? h₂.objs.size = some (kxs_mw "ValueError.__init__" x) := Heap.get?_push_size _ rfl
  refine kxs_callWith (i := "ValueError.__init__") (x := x) rfl (evalArgs_plain (spliced_cons (Constant_str (pos := r3) (k := j) ?_)))
  refine spliced_nil ⟨hu, ?_⟩
  refine call_mw (k₃ _ _ (k₂ _ _ hC₁)) (k₃ _ _ hx₂) hu (by show 1 ≤ sizeLine; rw [sizeLine_eq]; omega) (fun h₄ t1 k₄ hx₄ => ?_)
  have xL : hp.objs.size ≠ x := Nat.ne_of_gt (Heap.lt_size hx)
  have hns₄ : h₄.Ns hp.objs.size (fun y => List.lookup y (List.reverse [(Str.ofString "self", Value.ref x), (Str.ofString "place", v)])) := by
    obtain ⟨o, es, ep, e, r⟩ := hns
    exact ⟨o, es, ep, k₄ _ _ xL (k₃ _ _ (k₂ _ _ e)), r⟩
  have C_ne : C ≠ x := by
    rintro rfl
    rw [hC] at hnx
    cases hnx
  have X₄ : K.In h₄ := fun a o e => k₄ _ _ (fun z => by rw [z, hnx] at e; cases e) (k₃ _ _ (k₂ _ _ (X₁ _ _ e)))
  show PySem.wpAt _ _ _ (execs _ _) _ _ _
  refine wpAt_of_wpAny (wpAny_execs_cons (plainObj_wpAny_Assign_Attribute ?_))
  refine ldE (v := v) hns₄ hplace (ldE (v := .ref x) hns₄ hself ?_)
  refine set_plain X₄ (ox := excO C t1) (od := none) ⟨hx₄, rfl, rfl, trivial⟩ T.sa ?_
  refine exc_osa X₄ hx₄ hcl (show refsVE (.ref C :: bm) = true from hbm) rfl T.noN (fun h₅ tk₅ dx k₅ dn dne hx₅ hn₅ => ?_)
  show wpAny _ _ (execs _ _) _ _ _
  have old : ∀ b o, b ≠ x → hp.get? b = some o → h₅.get? b = some o := fun b o hb e => k₅ b o hb (k₄ b o hb (k₃ _ _ (k₂ _ _ (k₁ b o e))))
  have z : hp.objs.size < h₄.objs.size := hns₄.lt
  exact wpAny_execs_nil (hq h₅ tk₅ dx ⟨old, ⟨t1, hx₅⟩, Nat.le_of_lt (Nat.lt_of_lt_of_le z dn), dne, hn₅⟩)
end
end PV
end

section
set_option Elab.async false
set_option linter.all false
set_option maxRecDepth 100000
set_option maxHeartbeats 2000000
/-! PV.R15: raise; try with an except clause that keeps the exception. -/
namespace PV
open PySem L2
open PyProof.Rows hiding St

section
variable {X : Cx} {pins : List (Addr × Obj)} {σ : L2.St} {H : Hp} {s : Shared}
theorem exT_ok {P : Program} {w : World} {H : Hp} {h : Heap} {a : Addr} {cls : Value} {d : Option Addr} {oe : Obj} {vs : Array Value} (e : h.get? a = some oe) (z : Zc cls d oe) (hd : oe.data = .fields vs) : ObjOk P w H h a (exT cls a d) :=
  ⟨⟨oe, vs, e, z, hd⟩, ⟨oe, e⟩, fun _ _ ⟨o, v, q, r⟩ k => ⟨o, v, k o q, r⟩⟩
theorem Inv.track {a : Addr} {oe : Obj} {vs : Array Value} {cls : Value} {d : Option Addr} (I : Inv X pins σ H s) (ha : s.heap.get? a = some oe) (hz : Zc cls d oe) (hd : oe.data = .fields vs) (na : H a = none) (nL : a ≠ X.env.locals) (n0 : X.s_0.heap.get? a = none)
    (npin : ∀ p ∈ X.pn ++ pins, p.1 ≠ a) : Inv X pins σ (upd H a (exT cls a d)) s := by
  have ne : ∀ {b : Addr} {u : HO}, H b = some u → b ≠ a := fun {b u} e z => by rw [z, na] at e; cases e
  refine ⟨I.ok, I.os, I.bare, ⟨I.base.keep, I.base.slot, fun b o e n hx => ?_, I.base.there, fun b xs e => ?_, fun b o u e => ?_, fun b ps e => ?_⟩, I.loc, I.cell, ?_, fun x c e => ?_, fun p hp => ?_, fun b u e => ?_, I.len⟩
  · rw [upd_ne fun z => by rw [z, n0] at e; cases e]
    exact I.base.free b o e n hx
  · have q := I.base.tups b xs e
    rw [upd_ne (ne q)]
    exact q
  · have q := I.base.frzs b o u e
    rw [upd_ne (ne q)]
    exact q
  · obtain ⟨m, q⟩ := I.base.tbls b ps e
    exact ⟨m, by rw [upd_ne (ne q)]; exact q⟩
  · rw [upd_ne (Ne.symm nL)]
    exact I.free
  · rw [upd_ne fun z => ?_]
    · exact I.freeC x c e
    · obtain ⟨v, o, q1, q2⟩ := I.cell x c e
      rw [z, ha] at q1
      cases q1
      rw [hd] at q2
      cases q2
  · obtain ⟨e1, e2, e3⟩ := I.pin p hp
    exact ⟨e1, by rw [upd_ne (npin p hp)]; exact e2, e3⟩
  · by_cases hb : b = a
    · subst hb
      rw [upd_same] at e
      cases e
      exact exT_ok ha hz hd
    · rw [upd_ne hb] at e
      exact (I.hok b u e).stay (fun c v _ q => q) (fun c q => by rw [upd_ne (ne q)]; exact q) fun c xs q => by rw [upd_ne (ne q)]; exact q
theorem Inv.unsuiteK {a : Addr} {q : Addr × Obj} {pn' : List (Addr × Obj)} (I : Inv (X.suite a (q :: (X.pn ++ pins))) pn' σ H s) (ok : X.Ok) : Inv X (q :: pins) σ H s :=
  ⟨ok, I.os, I.bare, I.base, I.loc, I.cell, I.free, I.freeC, fun p hp => I.pin p (List.mem_append_left _ (by
    rcases List.mem_append.mp hp with h | h
    · exact List.mem_cons_of_mem _ (List.mem_append_left _ h)
    · rcases List.mem_cons.mp h with h | h
      · rw [h]; exact List.mem_cons_self ..
      · exact List.mem_cons_of_mem _ (List.mem_append_right _ h))), I.hok, I.len⟩
theorem Inv.dropPin {q : Addr × Obj} (I : Inv X (q :: pins) σ H s) : Inv X pins σ H s :=
  I.pins_of fun p hp => I.pin p (List.mem_append_right _ (by
    first
      | exact List.mem_cons_of_mem _ hp
      | (rcases List.mem_append.mp hp with h | h
         · exact List.mem_append_left _ h
         · exact List.mem_append_right _ (List.mem_cons_of_mem _ h))))
end
/-- what the clause wishes of an exception: the exception is kept in slot j, slot i is emptied -/
def wKeep (K : PySem.W.Frag) (c : Value) (i j : Nat) (Wout : WX) (D : Ends) : WX := fun cls d σ H =>
  ∃ b, PySem.W.exmOne K cls c = some b ∧ (b = true → ∀ a, H a = none → D.nx (((σ.set i (some (.ref a))).set j (some (.ref a))).set i none) (upd H a (exT cls a d))) ∧ (b = false → Wout cls d σ H)
section
variable {X : Cx} {x n y : Str} {c : Value} {i j : Nat} {body : List Stmt} {np pos pos' yp xp sp : Pos} {tb : WX → TS} {Wout : WX}
theorem ps_try_keep (hs : X.stack = X.env :: X.outer) (hf : X.env.frame = some X.env.locals) (hex : X.ex = []) (hN : X.N.Nodup) (hi : X.N[i]? = some n) (hj : X.N[j]? = some y) (hij : i ≠ j) (hln : X.env.kindOf n = some .local) (hly : X.env.kindOf y = some .local) (hc : Names X x c) (tk : Takes X Wout)
    (hdn : (n == ("__debug__" : Str)) = false) (hcn : (n == ("__classdict__" : Str)) = false)
    (hb : ∀ (W : WX) (pn : List (Addr × Obj)) (xe : Value → Shared → Prop), Takes (X.tr pn xe) W → PassesOwn (model X.prog X.w) X.A X.env xe → PSs (X.tr pn xe) body (tb W)) :
    PS X (.Try body [.ExceptHandler (some (.Name x np)) (some n) [.Assign [.Name y yp] (.Name n xp) sp] pos'] [] [] pos) (fun D σ H => tb (wKeep X.K c i j Wout D) D σ H) := by
  refine ⟨fun pins s σ H D I h => ?_⟩
  have ok := I.ok
  have hfr : X.A.frames = some (X.env :: X.outer) := by rw [ok.frames, hs]
  have hloc : Loc X.env.scope n := .inl hln
  refine wpAny_Try_except ?_
  refine wpAny_mono ((hb (wKeep X.K c i j Wout D) (X.pn ++ pins) (fun e s₁ => wpAny (model X.prog X.w) X.A (noteFrame e X.env) (fun _ s₂ => wpAny (model X.prog X.w) X.A (setFlight e none) (fun _ s₃ =>
    wpAny (model X.prog X.w) X.A (handleBy e X.env [.ExceptHandler (some (.Name x np)) (some n) [.Assign [.Name y yp] (.Name n xp) sp] pos']) (SP X pins D) X.xe s₃) X.xe s₂) X.xe s₁) (fun u s' xx => ?_) PassesOwn.looking).run [] s σ H D (I.toTry _) h) (fun f s1 hsp => ?_) (fun e s1 he => he)
  · obtain ⟨a, B, sI, pins', σ', H', cls, d, rfl, J', nb, up, sky, na, os, ag, b, hb1, hyes, hno⟩ := xx
    have J : Inv X pins σ' H' sI := J'.ofTry ok
    have sky' : Sky B (X.env :: X.outer) a (Zc cls d) X.env.locals s'.heap := by rw [← hs]; exact sky
    show wpAny (model X.prog X.w) X.A (noteFrame (.ref a) X.env) _ _ _
    refine Sky.land Zc.steady hfr hf sky' fun h3 fl3 up3 => ?_
    have J3 : Inv X pins σ' H' { s' with heap := h3 } := J.landed nb fl3.1 (up.trans up3) os ag
    obtain ⟨oe3, vs3, he3, hz3, hd3⟩ := fl3.there
    have notFr : ∀ {h : Heap} {o : Obj} {vs : Array Value}, h.FunFrames B (X.env :: X.outer) → h.get? a = some o → o.data = .fields vs → a ∉ frs (X.env :: X.outer) := fun {h o vs} ff e dd hm => by
      obtain ⟨_, o', e', hnf⟩ := ff.mem hm
      rw [e] at e'; cases e'
      exact hnf _ dd
    have nfr := notFr fl3.2.2.1 he3 hd3
    have nL : a ≠ X.env.locals := fun z => nfr (List.mem_filterMap.mpr ⟨X.env, List.mem_cons_self, by rw [hf, z]⟩)
    have nF : a ∉ X.fs := fun hm => by
      obtain ⟨e, he, q⟩ := List.mem_filterMap.mp hm
      exact nfr (List.mem_filterMap.mpr ⟨e, List.mem_cons_of_mem _ he, q⟩)
    have nI : ∀ o, sI.heap.get? a ≠ some o := fun o e => by
      have := nb a o e (by rw [hs]; exact nfr)
      rw [fl3.2.1] at this
      cases this
    have n0 : X.s_0.heap.get? a = none := by
      cases e : X.s_0.heap.get? a with
      | none => rfl
      | some o =>
        obtain ⟨o', e'⟩ := J.base.there a o e (by rw [hex]; exact fun z => nomatch z)
        exact absurd e' (nI o')
    have npin : ∀ p ∈ X.pn ++ pins, p.1 ≠ a := fun p hp z => by
      have := (J.pin p hp).1
      rw [z] at this
      exact nI _ this
    have S3 := J3.suite he3 hd3 na nL nF
    refine wpAny_handleBy_cons (codeAny_handlers_test ?_) (by intro q; cases q)
    have LT : PySem.W.Looks (model X.prog X.w) h3 (typeOf (.ref a)) cls := fun A Q E s k q => wpAny_typeOf_ref (k _ _ he3) (by rw [hz3.1]; exact q)
    have LM := PySem.W.exm_one (M := model X.prog X.w) (J3.kIn) LT hb1
    have test : ∀ {Q : Value → Shared → Prop} {E : Value → Shared → Prop}, Q c { s' with heap := h3 } → wpAny (model X.prog X.w) (X.A.mark (some (.ref a))) (eval (.Name x np) X.env) Q E { s' with heap := h3 } := fun {Q E} q => by
      obtain ⟨hg, hdbg, hm | ⟨hm, hv, hnn⟩⟩ := hc
      · exact ld_glob (X := X.suite a ((a, oe3) :: (X.pn ++ pins))) S3 hg hm q hdbg
      · exact ld_blt (X := X.suite a ((a, oe3) :: (X.pn ++ pins))) S3 hg hm hv q hnn hdbg
    refine test (LM.here ?_)
    cases b with
    | true =>
      refine codeAny_handlers_suite_as ?_
      refine HandSPX.lands_againZ fl3 fun h4 fl4 up4 => ?_
      have J4 : Inv X pins σ' H' { s' with heap := h4 } := J.landed nb fl4.1 ((up.trans up3).trans up4) os ag
      obtain ⟨oe4, vs4, he4, hz4, hd4⟩ := fl4.there
      have S4 := J4.suite he4 hd4 na nL nF
      refine store_ok (X := X.suite a ((a, oe4) :: (X.pn ++ pins))) (v := .ref a) S4 hN hi hloc rfl (fun s5 S5 => ?_) (.inr hln)
      have hin : (σ'.set i (some (V.ref a)))[i]? = some (some (V.ref a)) := by
        have hl : i < σ'.length := by rw [J.len]; exact (List.getElem?_eq_some_iff.mp hi).1
        rw [List.getElem?_set_self hl]
      have suite : PSs (X.suite a ((a, oe4) :: (X.pn ++ pins))) [.Assign [.Name y yp] (.Name n xp) sp] (fun D σ H => ∃ v, σ[i]? = some (some v) ∧ D.nx (σ.set j (some v)) H) :=
        pss_one (ps_set (X := X.suite a ((a, oe4) :: (X.pn ++ pins))) (i := j) hN hj (.inl hly) (pv (X := X.suite a ((a, oe4) :: (X.pn ++ pins))) i hi (.inl hln) hdn hcn) (by rfl) (.inr hly))
      refine wpAny_mono (suite.run [] s5 _ H' { nx := fun σ6 H6 => σ6 = (σ'.set i (some (.ref a))).set j (some (.ref a)) ∧ H6 = H', rt := fun _ _ => False, bk := fun _ _ => False, ct := fun _ _ => False } S5 ⟨.ref a, hin, rfl, rfl⟩) (fun f s6 hsp => ?_) (fun _ _ z => False.elim z)
      cases f with
      | next =>
        obtain ⟨σ6, H6, S6, rfl, rfl⟩ := hsp
        have K6 := Inv.unsuiteK (pins := pins) S6 ok
        refine gone_ok K6 hN hi hln fun s7 J7 => ?_
        have ha7 := (J7.pin (a, oe4) (List.mem_append_right _ (List.mem_cons_self ..))).1
        exact ⟨_, _, Inv.track (Inv.dropPin J7) ha7 hz4 hd4 na nL n0 npin, hyes rfl a na⟩
      | brk => obtain ⟨_, _, _, q6⟩ := hsp; exact q6.elim
      | cont => obtain ⟨_, _, _, q6⟩ := hsp; exact q6.elim
      | ret u => obtain ⟨_, _, _, _, _, q6⟩ := hsp; exact q6.elim
    | false =>
      show wpAny _ X.A (handleBy (.ref a) X.env []) _ _ _
      refine wpAny_handleBy_nil ?_
      obtain ⟨k1, k2, k3, oe, vs, T, oT, ts', he, hz, hd, h1, hr⟩ := id fl3
      unfold PySem.passOn
      refine wpAny_bind (wpAny_field he hd h1 ?_)
      rw [if_neg (show ¬ ((Value.ref T == Value.none) = true) from by simp)]
      have fin : wpAny (model X.prog X.w) X.A (setFlight (.ref a) X.env.frame) (fun _ s4 => wpAny (model X.prog X.w) X.A (throw (.ref a) : Sem Flow) (SP X pins D) X.xe s4) X.xe { s' with heap := h3 } := by
        rw [hf]
        refine HandSPX.setFlight_upZ fl3 fun h4 hh4 up4 => wpAny_throw (tk _ _ ?_)
        exact ⟨a, B, sI, pins, σ', H', cls, d, rfl, J, nb, (up.trans up3).trans up4, .inr (.inr (by rw [hs]; exact hh4)), na, os, ag, hno rfl⟩
      first
        | exact wpAny_bind (wpAny_pure (wpAny_bind fin))
        | exact wpAny_bind fin
  · cases f with
    | next =>
      obtain ⟨σ', H', J', q⟩ := hsp
      exact wpAny_execs_nil ⟨σ', H', J'.ofTry ok, q⟩
    | brk =>
      obtain ⟨σ', H', J', q⟩ := hsp
      exact ⟨σ', H', J'.ofTry ok, q⟩
    | cont =>
      obtain ⟨σ', H', J', q⟩ := hsp
      exact ⟨σ', H', J'.ofTry ok, q⟩
    | ret u =>
      obtain ⟨v, σ', H', J', r, q⟩ := hsp
      exact ⟨v, σ', H', J'.ofTry ok, r, q⟩
end
end PV
end

section
set_option Elab.async false
set_option linter.all false
set_option maxRecDepth 100000
set_option maxHeartbeats 2000000
/-! PV.R16: isinstance and place of a kept exception; the rules of raise and try by value. -/
namespace PV
open PySem PySem.W PySem.Calls
open PyProof.Rows hiding St
open L2 (ExcC)
section
variable {prog : Program} {w : World} {A : Around} {E : Value → Shared → Prop} {s : Shared} {K : Frag} {x D : Addr} {ox : Obj} {od : Option Obj}
theorem find_cls (c : ExcC K D) : findObj K D od "__class__" = some (.bind (.builtin "getset_descriptor.__get__") (.builtin "object.__class__")) := by
  obtain ⟨cd, hc, _⟩ := any_some c.hd
  have e1 := c.ha
  have e2 := c.hn
  have e3 := c.ht
  unfold findObj
  rw [hc, Option.bind_some, e1, Option.bind_some]
  simp [e2, e3]
/-- type(x) by its attribute, x an exception with or without a dict -/
theorem ask_cls {Q : Option Value → Shared → Prop} (c : ExcC K D) (Y : K.In s.heap) (J : InstAt s.heap x ox D od) (h : Q (some (.ref D)) { s with toks := s.toks + 1 }) : wpAny (model prog w) A (getAttr? (.ref x) "__class__") Q E s := by
  have ff := find_cls (od := od) c
  obtain ⟨hp, g, d, t, os⟩ := s
  have LT := J.type (M := model prog w)
  have LG := looks_findIn (M := model prog w) Y c.hg
  have LK := looks_findIn (M := model prog w) Y c.hk
  have LF := looks_find (M := model prog w) Y J ff
  have isB : Looks (model prog w) hp (isInstance (.ref x) (.type "BaseException")) true := LT.andThen (looks_subIn Y c.hs)
  have n1 : (Value.builtin "BaseException.__getattribute__" == Value.builtin "object.__getattribute__") = false := by decide +kernel
  have n2 : (onTheHeap (Value.ref D) && Value.builtin "BaseException.__getattribute__" == Value.builtin "object.__getattribute__") = false := by rw [n1]; rfl
  unfold getAttr? getAttrBy? getAttrBy
  refine wpAny_bind (wpAny_mkText (wpAny_bind (wpAny_attempt (wpAny_holding (wpAny_bind (LT.at (wpAny_bind (LG.at ?_))))))))
  show wpAny _ _ (ite ((onTheHeap (Value.ref D) && Value.builtin "BaseException.__getattribute__" == Value.builtin "object.__getattribute__") = true) _ _) _ _ _
  rw [n2, if_neg Bool.false_ne_true]
  unfold getAttrByItsOwn hookBefore
  refine wpAny_bind (by
    rw [if_pos (show onTheHeap (Value.ref D) = true from rfl)]
    refine LK.at (wpAny_bind (wpAny_attempt (wpAny_holding ?_)))
    unfold callGetattribute
    rw [show (false && onTheHeap (Value.builtin "BaseException.__getattribute__")) = false from rfl, if_neg Bool.false_ne_true]
    unfold boundAndCalled
    rw [PySem.F.excAttr_ValueError.ga.bind (.ref x)]
    refine wpAny_bind (wpAny_pure ?_)
    show wpAny _ _ (call (.builtin "BaseException.__getattribute__") [Value.ref x, Value.str "__class__" t]) _ _ _
    refine wpAny_call (codeAny_call_builtin PySem.F.excAttr_ValueError.ga.plain PySem.F.entry_bexc_ga (@check_slot (model prog w) _ _ ⟨hp, g, d, t + 1, os⟩ "BaseException.__getattribute__" "BaseException" "__getattribute__" (.ref x) [.str "__class__" t] [] _ (by decide +kernel) (by decide +kernel) isB (PySem.F.args_bexc_ga (.ref x) (.str "__class__" t)) ?_))
    unfold Builtin.«object.__getattribute__»
    refine wpAny_bind (wpAny_of_eq (a := ((Value.ref x : Value), [Value.str "__class__" t])) (by first | rfl | (simp only [slotArgs]; rfl)) (wpAny_bind (wpAny_pure (wpAny_bind (LT.at (wpAny_bind (LF.at ?_)))))))
    show wpAny _ _ (holding [Value.builtin "object.__class__"] (call (.builtin "getset_descriptor.__get__") [Value.builtin "object.__class__", Value.ref x, Value.ref D]) >>= ret) _ _ _
    refine wpAny_bind (wpAny_holding (wpAny_call (class_get (s := ⟨hp, g, d, t + 1, os⟩) (ox := ox) (od := od) Y J c.hm (wpAny_pure ?_))))
    show wpAny _ _ (handedOut (Value.ref D)) _ _ _
    rw [handedOut_of (v := .ref D) rfl]
    first
      | exact wpAny_pure (wpAny_pure h)
      | exact wpAny_pure h
      | exact wpAny_pure (wpAny_bind (wpAny_pure (wpAny_pure h))))
theorem kit_exc (c : ExcC K D) : KitX K (.ref x) (.ref D) (fun h => ∃ ox od, InstAt h x ox D od) := by
  obtain ⟨cdD, hcD, _⟩ := any_some c.hd
  have ho : ∃ a b f, K.lookup D = some ⟨a, b, .cls cdD, f⟩ := by
    unfold clsIn at hcD
    split at hcD
    · rename_i e
      cases hcD
      exact ⟨_, _, _, e⟩
    · cases hcD
  obtain ⟨q1, q2, q3, ho⟩ := ho
  refine ⟨fun _ _ _ ⟨_, _, J⟩ => J.type, fun _ _ Y _ A' Q' E' s' k q => ?_, fun h tp dd its n sl Y htp => ?_, fun Y ⟨_, _, J⟩ k => ask_cls c Y J k⟩
  · unfold isType loadHead
    exact wpAny_bind (wpAny_loadPart (k _ _ (Y _ _ ho)) (wpAny_pure q))
  · refine Bool.eq_false_iff.mpr fun q => ?_
    have e : D = tp := Value.ref.inj (beq_iff_eq.mp q)
    subst e
    have z := (Y _ _ ho).symm.trans htp
    cases z
end
end PV
namespace PV
open PySem L2
open PyProof.Rows hiding St
section
variable {X : Cx} {pins : List (Addr × Obj)} {σ : L2.St} {H : Hp} {s : Shared}
/-- a kept exception, with what is known of its dict -/
def ExAt (H : Hp) (a D : Addr) (d : Option Addr) : Prop := H a = some (exT (.ref D) a d) ∧ (d = none ∨ ∃ dd fs, d = some dd ∧ H dd = some (.xd fs))
theorem exAt_inst {a D : Addr} {d : Option Addr} (I : Inv X pins σ H s) (e : ExAt H a D d) : ∃ ox od, PySem.W.InstAt s.heap a ox D od := by
  obtain ⟨e1, e2⟩ := e
  obtain ⟨⟨oe, vs, ha, hz, hd⟩, _⟩ := (show ObjOk X.prog X.w H s.heap a (exT (.ref D) a d) from I.hok a _ e1)
  have hn : PySem.W.notCls oe = true := by unfold PySem.W.notCls; rw [hd] <;> rfl
  rcases e2 with rfl | ⟨dd, fs, rfl, e3⟩
  · exact ⟨oe, none, ha, hz.1, hn, by rw [hz.2]; trivial⟩
  · obtain ⟨mA, ⟨o, es, ep, q, r⟩, _⟩ := (show ObjOk X.prog X.w H s.heap dd (.xd fs) from I.hok dd _ e3)
    exact ⟨oe, some o, ha, hz.1, hn, by rw [hz.2]; exact q⟩
def rIsX (K : PySem.W.Frag) : List V → Hp → VK → Prop := fun xs H Q => ∃ a D d cv cu b, xs = [.ref a, cv] ∧ ExAt H a D d ∧ ExcC K D ∧ ClsV cv cu ∧ PySem.W.kitOne K (.ref D) cu = some b ∧ Q (.bl b) H
theorem call_isX : CallR X (.builtin "isinstance") (rIsX X.K) := by
  intro pins s σ H xs us Q I r h
  obtain ⟨a, D, d, cv, cu, b, rfl, ea, c, k, e, q⟩ := h
  obtain ⟨u1, u2, rfl, r1, r2⟩ := vals2 r
  have e2 := k.eq r2
  subst e2
  cases (show u1 = Value.ref a from r1)
  exact PySem.W.kia_one (kit_exc c) I.kIn (exAt_inst I ea) e (fun z => nomatch z) fun tk => ⟨.bl b, H, I.tok tk, rfl, q⟩
def rIsXT (K : PySem.W.Frag) : List V → Hp → VK → Prop := fun xs H Q => ∃ a D d tp cs ws b, xs = [.ref a, .ref tp] ∧ H tp = some (.tup cs) ∧ Paired ClsV cs ws ∧ ExAt H a D d ∧ ExcC K D ∧ PySem.W.kitAny K (.ref D) ws = some b ∧ Q (.bl b) H
theorem call_isXT : CallR X (.builtin "isinstance") (rIsXT X.K) := by
  intro pins s σ H xs us Q I r h
  obtain ⟨a, D, d, tp, cs, ws, b, rfl, hT, k, ea, c, e, q⟩ := h
  obtain ⟨u1, u2, rfl, r1, r2⟩ := vals2 r
  cases (show u1 = Value.ref a from r1)
  cases (show u2 = Value.ref tp from r2)
  obtain ⟨_, its, rv, o, h1, h2, n, h3⟩ := (show ObjOk X.prog X.w H s.heap tp (.tup cs) from I.hok tp _ hT)
  have e3 := ClsV.all k rv
  subst e3
  obtain ⟨oc, od, dt, sl⟩ := o
  simp only at h2 h3
  subst h2 h3
  exact PySem.W.kia_tup (kit_exc c) I.kIn (exAt_inst I ea) h1 e (fun z => nomatch z) fun tk => ⟨.bl b, H, I.tok tk, rfl, q⟩
end
section
variable {X : Cx} {ca : Nat → Addr} {W : WX} {e : Expr} {c : EM D} {pos p p2 p3 p4 : Pos} {x y y2 : Str}
/-- isinstance(x, C), C an own class; x None or an exception -/
def dIsX (mt : Nat → Option Bool) : D → Option D
  | .non => some (.bl false)
  | .exn c _ => (mt c).map .bl
  | _ => none
theorem exn_at {G : Gx} {w : Wd} {H : Hp} {k : Nat} {q : D} {v : V} (fr : ∀ a o, w.F a = some o → H a = some o) (r : Rep G w (.exn k q) v) : ∃ a d, v = .ref a ∧ ExAt H a (G.ca k) d := by
  simp only [Rep, Rp] at r
  obtain ⟨a, d, rfl, e, r⟩ := r
  refine ⟨a, d, rfl, fr _ _ e, ?_⟩
  rcases r with ⟨_, r⟩ | ⟨dd, fs, u, r1, r2, _⟩
  · exact .inl r
  · exact .inr ⟨dd, fs, r1, fr _ _ r2⟩
/-- what is known of one class named C: None is none of it, exceptions as mt says -/
structure IsC (K : PySem.W.Frag) (ca : Nat → Addr) (C : Addr) (mt : Nat → Option Bool) : Prop where
  non : PySem.W.kitOne K (.type "NoneType") (.ref C) = some false
  exn : ∀ k b, mt k = some b → ExcC K (ca k) ∧ PySem.W.kitOne K (.ref (ca k)) (.ref C) = some b
theorem se_isX {C : Addr} {mt : Nat → Option Bool} (T : IsC X.K ca C mt) (ha : SE X ca W e c) (hC : X.mg y = some (.ref C)) (hm : X.mg "isinstance" = none) (hg : Gl X "isinstance" := by rfl) (hg2 : Gl X y := by rfl) (hdb : (y == ("__debug__" : Str)) = false := by decide)
    (hs : starEach [e, .Name y p2] X.env = (false, eval e X.env) :: starEach [.Name y p2] X.env := by rfl) (hs2 : starEach [.Name y p2] X.env = (false, eval (.Name y p2) X.env) :: starEach [] X.env := by rfl) (hpl : (backTo pos (starEach [.Name y p2] X.env)).any (·.1) = false := by rfl) :
    SE X ca W (.Call (.Name "isinstance" p) [e, .Name y p2] [] pos) (eMap (dIsX mt) c) :=
  ⟨(pe_callB (CallR.or call_isi call_isX) hg hm (by decide +kernel) (pa_cons ha.pe (pa_cons (pe_glob (v := V.ref C) hg2 hC rfl hdb) pa_nil hs2) hs) (he := hs) (hpl := hpl)).imp fun σ H Q ⟨P, w, ρ, h, st, k⟩ => ⟨P, w, ρ, h, st, (EPost.bind k).imp fun d w1 h1 H1 l1 s1 k1 v rv => by
    obtain ⟨z, ez, k2⟩ := k1.opt s1
    cases d with
    | non =>
      cases ez
      have ev : v = .non := by simpa only [Rep, Rp] using rv
      subst ev
      exact .inl ⟨.non, .ref C, .type "NoneType", .ref C, false, rfl, .own C, .base .non, T.non, k2 _ (by simp only [Rep, Rp])⟩
    | exn k q =>
      simp only [dIsX] at ez
      cases q2 : mt k with
      | none => rw [q2] at ez; cases ez
      | some b =>
        rw [q2] at ez
        cases ez
        obtain ⟨a, d, rfl, ea⟩ := exn_at s1.hr.fr rv
        obtain ⟨t1, t2⟩ := T.exn k b q2
        exact .inr ⟨a, ca k, d, .ref C, .ref C, b, rfl, ea, t1, .own C, t2, k2 _ (by simp only [Rep, Rp])⟩
    | _ => cases ez⟩⟩
/-- isinstance(x, (C, C2)) -/
theorem se_isX2 {kk : Nat} {tp : Pos} {C C2 : Addr} {mt mt2 : Nat → Option Bool} (T : IsC X.K ca C mt) (T2 : IsC X.K ca C2 mt2) (ha : SE X ca W e c) (hC : X.mg y = some (.ref C)) (hC2 : X.mg y2 = some (.ref C2)) (hm : X.mg "isinstance" = none) (hg : Gl X "isinstance" := by rfl) (hg2 : Gl X y := by rfl) (hg3 : Gl X y2 := by rfl)
    (hdb : (y == ("__debug__" : Str)) = false := by decide) (hdb2 : (y2 == ("__debug__" : Str)) = false := by decide)
    (hs : starEach [e, .Tuple [.Name y p2, .Name y2 p3] kk tp] X.env = (false, eval e X.env) :: starEach [.Tuple [.Name y p2, .Name y2 p3] kk tp] X.env := by rfl) (hs2 : starEach [.Tuple [.Name y p2, .Name y2 p3] kk tp] X.env = (false, eval (.Tuple [.Name y p2, .Name y2 p3] kk tp) X.env) :: starEach [] X.env := by rfl)
    (hpl : (backTo pos (starEach [.Tuple [.Name y p2, .Name y2 p3] kk tp] X.env)).any (·.1) = false := by rfl)
    (hs3 : starEach [.Name y p2, .Name y2 p3] X.env = (false, eval (.Name y p2) X.env) :: starEach [.Name y2 p3] X.env := by rfl) (hs4 : starEach [.Name y2 p3] X.env = (false, eval (.Name y2 p3) X.env) :: starEach [] X.env := by rfl) :
    SE X ca W (.Call (.Name "isinstance" p) [e, .Tuple [.Name y p2, .Name y2 p3] kk tp] [] pos) (eMap (dIsX fun k => (mt k).bind fun b => (mt2 k).map fun b2 => b || b2) c) :=
  ⟨(pe_callB (CallR.or call_isiT call_isXT) hg hm (by decide +kernel) (pa_cons ha.pe (pa_cons (pe_tup (pa_cons (pe_glob (v := V.ref C) hg2 hC rfl hdb) (pa_cons (pe_glob (v := V.ref C2) hg3 hC2 rfl hdb2) pa_nil hs4) hs3)) pa_nil hs2) hs) (he := hs) (hpl := hpl)).imp fun σ H Q ⟨P, w, ρ, h, st, k⟩ => ⟨P, w, ρ, h, st, (EPost.bind k).imp fun d w1 h1 H1 l1 s1 k1 v rv => by
    refine ⟨by show 2 ≤ sizeLine; decide, fun T0 nT => ?_⟩
    have s2 := s1.alloc (o := .tup [.ref C, .ref C2]) nT
    have cl : Paired ClsV [V.ref C, V.ref C2] [Value.ref C, Value.ref C2] := .cons (.own C) (.cons (.own C2) .nil)
    cases d with
    | non =>
      have ev : v = .non := by simpa only [Rep, Rp] using rv
      subst ev
      refine .inl ⟨.non, T0, _, .type "NoneType", _, false, rfl, upd_same, cl, .base .non, ?_, k1.optF (a := .bl false) (by rfl) w1 _ (Wd.le.refl _) s2 _ (by simp only [Rep, Rp])⟩
      exact kitAny_cons T.non (fun _ => kitAny_cons T2.non (fun _ => kitAny_nil) (fun z => by cases z)) (fun z => by cases z)
    | exn k q =>
      obtain ⟨z, ez, _⟩ := k1.opt s1
      simp only [dIsX] at ez
      cases q2 : mt k with
      | none => rw [q2] at ez; cases ez
      | some b =>
        cases q3 : mt2 k with
        | none => rw [q2, q3] at ez; cases ez
        | some b2 =>
          obtain ⟨a, d, rfl, ea⟩ := exn_at s1.hr.fr rv
          obtain ⟨t1, t2⟩ := T.exn k b q2
          obtain ⟨_, t4⟩ := T2.exn k b2 q3
          have ea2 : ExAt (upd H1 T0 (.tup [.ref C, .ref C2])) a (ca k) d := by
            obtain ⟨z1, z2⟩ := ea
            have ne : ∀ {b : Addr} {u : HO}, H1 b = some u → b ≠ T0 := fun e z => by rw [z, nT] at e; cases e
            refine ⟨by rw [upd_ne (ne z1)]; exact z1, ?_⟩
            rcases z2 with z2 | ⟨dd, fs, z2, z3⟩
            · exact .inl z2
            · exact .inr ⟨dd, fs, z2, by rw [upd_ne (ne z3)]; exact z3⟩
          refine .inr ⟨a, ca k, d, T0, _, _, b || b2, rfl, upd_same, cl, ea2, t1, ?_, k1.optF (a := .bl (b || b2)) (by simp only [dIsX, q2, q3]; rfl) w1 _ (Wd.le.refl _) s2 _ (by simp only [Rep, Rp])⟩
          refine kitAny_cons t2 (fun hb => kitAny_cons t4 (fun hb2 => ?_) fun hb2 => ?_) fun hb => ?_
          · rw [hb, hb2]; exact kitAny_nil
          · rw [hb2, Bool.or_true]
          · rw [hb, Bool.true_or]
    | _ =>
      obtain ⟨z, ez, _⟩ := k1.opt s1
      cases ez⟩⟩
/-- x.place, x a kept exception of a class for which pc holds -/
def dPlace (pc : Nat → Bool) : D → Option D
  | .exn k q => if pc k = true then some q else none
  | _ => none
theorem se_place {pc : Nat → Bool} (T : ∀ k, pc k = true → XfC X.K (ca k) ∧ PySem.W.findIn X.K (.ref (ca k)) "place" = some none) (he : SE X ca W e c) (hb : attributeBase e "place" X.env (eval e X.env) = eval e X.env := by rfl) : SE X ca W (.Attribute e "place" pos) (eMap (fun d => (dPlace pc d).bind fun q => if isNonD q = true then none else some q) c) := by
  refine ⟨⟨fun pins s σ H Q I ⟨P, w, ρ, h, st, k⟩ => ?_⟩⟩
  refine attr_of hb (thn (he.pe.run pins s σ H (fun v H1 => ∃ a D dd fs y, v = .ref a ∧ XfC X.K D ∧ PySem.W.findIn X.K (.ref D) "place" = some none ∧ H1 a = some (exT (.ref D) a (some dd)) ∧ H1 dd = some (.xd fs) ∧ fs.lookup ("place" : Str) = some y ∧ Q y H1) I ⟨P, w, ρ, h, st, (EPost.bind k).imp fun d w1 h1 H1 l1 s1 k1 v rv => ?_⟩) fun u s1 hh => ?_)
  · obtain ⟨z, ez, k2⟩ := k1.opt s1
    cases d with
    | exn kk q =>
      simp only [dPlace] at ez
      split at ez
      · rename_i hp
        simp only [Option.bind_some] at ez
        split at ez
        · cases ez
        · rename_i nn
          cases ez
          simp only [Rep, Rp] at rv
          obtain ⟨a, d, rfl, e, r⟩ := rv
          rcases r with ⟨r, _⟩ | ⟨dd, fs, u, r1, r2, r3, r4⟩
          · subst r
            exact absurd rfl nn
          · subst r1
            obtain ⟨t1, t2⟩ := T kk hp
            exact ⟨a, ca kk, dd, fs, u, rfl, t1, t2, s1.hr.fr _ _ e, s1.hr.fr _ _ r2, r3, k2 u r4⟩
      · cases ez
    | _ => cases ez
  · obtain ⟨v, H1, I1, rx, a, D, dd, fs, y, ev, T, hno, ea, ed, l, q⟩ := hh
    subst ev
    obtain rfl : u = Value.ref a := rx
    obtain ⟨⟨oe, vs, ha, hz, hd⟩, _⟩ := (show ObjOk X.prog X.w H1 s1.heap a (exT (.ref D) a (some dd)) from I1.hok a _ ea)
    obtain ⟨mA, hns, hr⟩ := (show ObjOk X.prog X.w H1 s1.heap dd (.xd fs) from I1.hok dd _ ed)
    obtain ⟨od, ho, hl⟩ := lookIn_ns hns
    obtain ⟨u, hu, ru⟩ := RelO.some_of (v := y) (o := mA "place") (by rw [← l]; exact hr "place")
    have J : PySem.W.InstAt s1.heap a oe D (some od) := ⟨ha, hz.1, by unfold PySem.W.notCls; rw [hd] <;> rfl, by rw [hz.2]; exact ho⟩
    exact HandSPX.exc_get I1.kIn J T.ga T.gg T.exC (PySem.W.findObj_own T.hdC hno rfl (by rw [hl, hu])) (handed_of ru) ⟨y, H1, I1.tok _, ru, q⟩
end
end PV
end

section
set_option Elab.async false
set_option linter.all false
set_option maxRecDepth 100000
set_option maxHeartbeats 2000000
/-! PV.R17: raise, try by value. -/
namespace PV
open PySem L2
open PyProof.Rows hiding St

section
variable {X : Cx} {C fI : Addr} {x : Str} {a : Expr} {ta : TA} {p pos : Pos}
/-- C(place), made to be raised -/
def tMkPl (C : Addr) (ta : TA) : L2.St → Hp → XK → Prop := fun σ H Q => ta σ H fun vs H1 => ∃ v, vs = [v] ∧ ∀ d, H1 d = none → Q (.ref C) (some d) (upd H1 d (.xd [(("place" : Str), v)]))
theorem relO_pl {v : V} {u : Value} (r : RelV v u) (f : Str) : RelO (List.lookup f [(("place" : Str), v)]) (if f = "place" then some u else none) := by
  by_cases h : f = "place"
  · subst h
    rw [if_pos rfl, show List.lookup ("place" : Str) [(("place" : Str), v)] = some v by simp [List.lookup]]
    exact r
  · rw [if_neg h, show List.lookup f [(("place" : Str), v)] = none by simp [List.lookup, show (f == ("place" : Str)) = false by simpa using h]]
    trivial
theorem pmk_pl {k : Nat} (T : PlTxt X.K X.prog C fI) (hr : Room k X.A) (ha : PA X [a] ta) (gC : X.mg x = some (.ref C)) (hg : Gl X x := by rfl) (hdb : (x == ("__debug__" : Str)) = false := by decide)
    (he : starEach [a] X.env = (false, eval a X.env) :: starEach [] X.env := by rfl) (hpl : (backTo pos (starEach [] X.env)).any (·.1) = false := by rfl) : PMk X (.Call (.Name x p) [a] [] pos) (tMkPl C ta) := by
  intro pins s σ H Q I h
  obtain ⟨nm, q, N, bs, bm, sn, sub, ab, col, dd, k0, k1, k2, k3, k5, hC, hbm, _⟩ := T.cls
  refine wpAny_Call_Name_kw (ld_glob I hg gC ?_ hdb)
  refine PySem.W.callWith_K (h₀ := X.base) I.ok.mod.kin T.kC (thn (ha.run pos pins s σ H _ I h) fun us s1 ⟨vs, H1, I1, r1, v, ev, q1⟩ => ⟨I1.kIn, ?_⟩) he hpl
  subst ev
  cases hr1 : us with
  | nil => subst hr1; cases r1
  | cons v' us' =>
    subst hr1
    obtain ⟨rv, rn⟩ : RelV v v' ∧ Vals [] us' := by cases r1 with | cons a b => exact ⟨a, b⟩
    cases rn
    show wpAny _ _ (call (.ref C) [v']) _ _ _
    have hlim := I1.nolimit
    have hb1 : ∃ mb, s1.heap.Ns builtinsNs mb ∧ mb "super" = some (.type "super") := by
      obtain ⟨mb, z1, z2⟩ := I1.ok.mod.blt
      exact ⟨mb, z1.keeps I1.bk, (z2 "super" (by decide)).trans (by decide +kernel)⟩
    have hg1 : ∃ m0, s1.heap.Ns mainGlobals m0 ∧ m0 "super" = none := ⟨X.mg, I1.ok.mod.glob.keeps I1.bk, PySem.W.mg_none_of I1.ok.mod.kin I1.ok.mod.glob T.sup⟩
    obtain ⟨hp, g, dr, tk, os⟩ := s1
    have e1 : ∀ b o, hp.get? b = some o → ((hp.push (PySem.W.kdv_tup [v'])).push (PySem.HandSPX.excO C hp.objs.size)).get? b = some o := fun b o e => Heap.get?_push_of_some _ (Heap.get?_push_of_some _ e)
    have e2 : ((hp.push (PySem.W.kdv_tup [v'])).push (PySem.HandSPX.excO C hp.objs.size)).get? (hp.objs.size + 1) = some (PySem.HandSPX.excO C hp.objs.size) := by heap_get
    have e3 : X.K.lookup (hp.objs.size + 1) = none := by
      cases e : X.K.lookup (hp.objs.size + 1) with
      | none => rfl
      | some o => exact absurd (Nat.lt_of_succ_lt (Heap.lt_size (I1.kIn _ _ e))) (Nat.lt_irrefl _)
    refine wpAny_call (PySem.HandSPX.call_own F.excBase_ValueError (fun Y => PySem.HandSPX.refsVE_contains Y bm hbm) (I1.kIn _ _ hC) (PySem.W.looks_findIn I1.kIn T.iC) (fun self => PySem.W.bind_fn I1.kIn self T.tC) (by show 1 ≤ sizeLine; rw [sizeLine_eq]; omega) ?_)
    refine pl_init (s := ⟨(hp.push (PySem.W.kdv_tup [v'])).push (PySem.HandSPX.excO C hp.objs.size), g, dr, tk, os⟩) T ?_ ?_ (I1.kIn.keeps e1) (hlim.keeps e1) e2 e3 ?_ fun h' tk' dx M => ?_
    · obtain ⟨mb, z1, z2⟩ := hb1
      exact ⟨mb, z1.keeps e1, z2⟩
    · obtain ⟨m0, z1, z2⟩ := hg1
      exact ⟨m0, z1.keeps e1, z2⟩
    · have := hr.dp
      show X.A.depth + 1 < recursionLimit
      omega
    · refine ⟨rfl, ?_⟩
      show MkP X pins σ Q (.ref (hp.objs.size + 1)) ⟨h', g, dr, tk', os⟩
      obtain ⟨t1, hob⟩ := M.obj
      obtain ⟨G', g1, g2⟩ := restrict h' fun b => decide (b ≠ hp.objs.size + 1)
      have gk : ∀ b, b ≠ hp.objs.size + 1 → G'.get? b = h'.get? b := fun b hb => g1 b (decide_eq_true hb)
      have ge : G'.get? (hp.objs.size + 1) = none := g2 _ (by simp)
      have ltx : ∀ {b : Addr} {o : Obj}, hp.get? b = some o → b ≠ hp.objs.size + 1 := fun {b o} z => Nat.ne_of_lt (Nat.lt_succ_of_lt (Heap.lt_size z))
      have old : ∀ b o, hp.get? b = some o → G'.get? b = some o := fun b o z => (gk b (ltx z)).trans (M.keep b o (ltx z) (e1 b o z))
      have big : hp.objs.size ≤ dx := by
        have z := M.dbig
        rw [Heap.size_push, Heap.size_push] at z
        exact Nat.le_trans (Nat.le_trans (Nat.le_succ _) (Nat.le_succ _)) z
      have ob : ObjOk X.prog X.w (upd H1 dx (.xd [(("place" : Str), v)])) G' dx (.xd [(("place" : Str), v)]) := ⟨_, M.ns.at (fun o z => (gk dx M.dne).trans z), fun f => relO_pl rv f⟩
      have J : Inv X pins σ (upd H1 dx (.xd [(("place" : Str), v)])) ⟨G', g, dr, tk', os⟩ := I1.laid (t' := tk') old big ob
      refine ⟨hp.objs.size + 1, _, _, ⟨G', g, dr, tk', os⟩, _, .ref C, some dx, rfl, J, fun b o z => ?_, ge, hob, ⟨rfl, rfl⟩, rfl, rfl, ?_, rfl, I1.bare, raises_own T.exC T.tyC, q1 dx (I1.hok.fresh big)⟩
      · by_cases hb : b = hp.objs.size + 1
        · have z' : G'.get? b = some o := z
          rw [hb, ge] at z'
          cases z'
        · exact (gk b hb).symm.trans z
      · rw [upd_ne (Ne.symm M.dne)]
        exact I1.hok.fresh (Nat.le_succ _)
end
/-- raise C(place), raise C('text') -/
def sRaiseP (c : Nat) (p : EM (List D)) : SM := sBind p fun ds ρ h => match ds with
  | [d] => .exc c d ρ h
  | _ => .stuck
def sRaise (c : Nat) : SM := fun ρ h => .exc c .non ρ h
/-- a class whose instances are raised with a text alone -/
structure Ex0 (K : PySem.W.Frag) (C : Addr) : Prop where
  ex : PySem.W.excIn K C [.type "Exception", .type "BaseException", .type "object"] "ValueError.__new__" = true ∨ ∃ bmB B newId initId, ExcBaseFacts B newId initId bmB ∧ PySem.W.excIn K C bmB newId = true
  kC : PySem.W.keepIn K (.ref C) = true
  exC : PySem.W.subIn K (.ref C) (.type "BaseException") = some true
  tyC : PySem.W.typeIn K (.ref C) = some (.type "type")
/-- which exceptions a clause takes: K's answers -/
def Mts (K : PySem.W.Frag) (ca : Nat → Addr) (c : Value) (mt : Nat → Option Bool) : Prop := ∀ k b, mt k = some b → PySem.W.exmOne K (.ref (ca k)) c = some b
/-- try: body / except x as n: y = n -/
def sTryK (mt : Nat → Option Bool) (i j : Nat) (body : SM) : SM := fun ρ h => match body ρ h with
  | .exc c p ρ' h' => match mt c with
    | some true => .ok .next ((ρ'.set j (.val (.exn c p))).set i .un) h'
    | some false => .exc c p ρ' h'
    | none => .stuck
  | r => r
section
variable {X : Cx} {ca : Nat → Addr} {W : WX} {x n y m : Str} {e : Expr} {cs : EM (List D)} {p p2 pos pos2 np yp xp sp pos' : Pos} {i j jj : Nat} {body : List Stmt} {mb : SM} {mt : Nat → Option Bool} {c : Value}
theorem ss_raiseP {k fI : Nat} (cl : Nat) (T : PlTxt X.K X.prog (ca cl) fI) (hc : X.calm = true) (hr : Room k X.A) (tk : Takes X W) (ha : SA X ca W [e] cs) (gC : X.mg x = some (.ref (ca cl))) (hg : Gl X x := by rfl) (hdb : (x == ("__debug__" : Str)) = false := by decide)
    (he : starEach [e] X.env = (false, eval e X.env) :: starEach [] X.env := by rfl) (hpl : (backTo pos (starEach [] X.env)).any (·.1) = false := by rfl) : SS X ca W (.Raise (some (.Call (.Name x p) [e] [] pos)) none pos2) (sRaiseP cl cs) :=
  ⟨(ps_raise hc tk (pmk_pl T hr ha.pa gC hg hdb he hpl)).imp fun D σ H ⟨P, w, ρ, h, s, k⟩ => ⟨P, w, ρ, h, s, (SPost.bind k).imp fun ds w1 h1 H1 l1 s1 k1 vs rs => by
    match ds, rs, k1 with
    | [], rs, k1 => exact k1.elim
    | d1 :: d2 :: r, rs, k1 => exact k1.elim
    | [d], rs, k1 =>
      simp only [Reps, Rps] at rs
      obtain ⟨v, r, rfl, rv, rfl⟩ := rs
      refine ⟨v, rfl, fun dx nd => ?_⟩
      have le2 : w1.le (w1.frz dx (.xd [(("place" : Str), v)])) := Wd.frz_le (s1.hr.notF nd)
      have s2 := (s1.alloc (o := .xd [(("place" : Str), v)]) nd).frz upd_same (s1.hr.notF nd) (s1.hr.notiot nd) (s1.hr.notP nd) fun i x q hq => by
        obtain ⟨b, e1, e2, _⟩ := s1.own i x q
        obtain ⟨u, e3⟩ := e2.some
        rw [hq] at e1
        cases e1
        rw [nd] at e3
        cases e3
      exact k1 _ σ _ _ (some dx) le2 s2 ⟨rfl, .inr ⟨dx, _, v, rfl, Wd.frz_same, by simp [List.lookup], Rep.le rv le2⟩⟩⟩⟩
theorem ss_raise {B newId initId : String} {bmB : List Value} (cl : Nat) (F : ExcBaseFacts B newId initId bmB) (q : PySem.W.excIn X.K (ca cl) bmB newId = true) (kC : PySem.W.keepIn X.K (.ref (ca cl)) = true) (r : Raises X (.ref (ca cl))) (hc : X.calm = true) (tk : Takes X W) (gC : X.mg x = some (.ref (ca cl))) (hg : Gl X x := by rfl) (hdb : (x == ("__debug__" : Str)) = false := by decide) :
    SS X ca W (.Raise (some (.Call (.Name x p) [.Constant (.str m) jj p2] [] pos)) none pos2) (sRaise cl) :=
  ⟨(ps_raise hc tk (pmk_own F q gC kC r hg hdb)).imp fun D σ H ⟨P, w, ρ, h, s, k⟩ => k w σ H _ none (Wd.le.refl _) s ⟨rfl, .inl ⟨rfl, rfl⟩⟩⟩
/-- a slot's cell is given up -/
theorem StR.unset {G : Gx} {P : Hp} {w : Wd} {ρ : Env} {h : Hh} {σ : L2.St} {H : Hp} (s : StR G P w ρ h σ H) (i : Nat) (v : Option V) : StR G P w (ρ.set i .un) h (σ.set i v) H := by
  have sub : ∀ {j : Nat} {c : Cell}, c ≠ .un → (ρ.set i .un)[j]? = some c → i ≠ j ∧ ρ[j]? = some c := fun {j c} hc e => by
    by_cases z : i = j
    · subst z
      have hl : i < ρ.length := by
        have := (List.getElem?_eq_some_iff.mp e).1
        rwa [List.length_set] at this
      rw [List.getElem?_set_self hl] at e
      cases e
      exact absurd rfl hc
    · exact ⟨z, by rwa [List.getElem?_set_ne z] at e⟩
  refine ⟨s.hr, by rw [List.length_set, List.length_set, s.len], fun j x q => ?_, fun j x q => ?_, fun j l x y b q1 q2 z1 z2 => ?_⟩
  · obtain ⟨z, q⟩ := sub (by intro z; cases z) q
    rw [List.getElem?_set_ne z]
    exact s.val j x q
  · obtain ⟨z, q⟩ := sub (by intro z; cases z) q
    rw [List.getElem?_set_ne z]
    exact s.own j x q
  · obtain ⟨z, q1⟩ := sub (by intro z; cases z) q1
    obtain ⟨z', q2⟩ := sub (by intro z; cases z) q2
    rw [List.getElem?_set_ne z] at z1
    rw [List.getElem?_set_ne z'] at z2
    exact s.inj j l x y b q1 q2 z1 z2
theorem ss_tryK (i j : Nat) (M : Mts X.K ca c mt) (hs : X.stack = X.env :: X.outer) (hf : X.env.frame = some X.env.locals) (hex : X.ex = []) (hN : X.N.Nodup) (hc : Names X x c) (tk : Takes X W)
    (hb : ∀ (W' : WX) (pn : List (Addr × Obj)) (xe : Value → Shared → Prop), Takes (X.tr pn xe) W' → PassesOwn (model X.prog X.w) X.A X.env xe → SSs (X.tr pn xe) ca W' body mb)
    (hi : X.N[i]? = some n := by rfl) (hj : X.N[j]? = some y := by rfl) (hij : i ≠ j := by decide) (hln : X.env.kindOf n = some .local := by rfl) (hly : X.env.kindOf y = some .local := by rfl) (hdn : (n == ("__debug__" : Str)) = false := by decide) (hcn : (n == ("__classdict__" : Str)) = false := by decide) :
    SS X ca W (.Try body [.ExceptHandler (some (.Name x np)) (some n) [.Assign [.Name y yp] (.Name n xp) sp] pos'] [] [] pos) (sTryK mt i j mb) :=
  ⟨(ps_try_keep (tb := fun W' => RS ⟨X.K, ca⟩ W' mb) hs hf hex hN hi hj hij hln hly hc tk hdn hcn (fun W' pn xe t1 t2 => (hb W' pn xe t1 t2).ps)).imp fun D σ H ⟨P, w, ρ, h, s, k⟩ => ⟨P, w, ρ, h, s, by
    unfold sTryK at k
    cases e : mb ρ h with
    | stuck => rw [e] at k; exact k.elim
    | ok fl ρ' h' =>
      rw [e] at k
      cases fl with
      | next => exact k
      | brk => exact k
      | cont => exact k
      | ret d => exact k
      | retN d => exact k
    | exc c0 p0 ρ' h' =>
      rw [e] at k
      intro w' σ' H' cls dx l s' rx
      obtain ⟨e1, rx⟩ := rx
      subst e1
      dsimp only at k
      cases q : mt c0 with
      | none => rw [q] at k; exact k.elim
      | some b =>
        rw [q] at k
        refine ⟨b, M c0 b q, fun hb a na => ?_, fun hb => ?_⟩
        · subst hb
          -- the exception is laid, frozen with its dict
          have s1 := s'.alloc (o := exT (.ref (ca c0)) a dx) na
          have fr1 := s'.fresh na
          have le1 : w'.le (w'.frz a (exT (.ref (ca c0)) a dx)) := Wd.frz_le (s'.hr.notF na)
          have s2 : StR ⟨X.K, ca⟩ P (w'.frz a (exT (.ref (ca c0)) a dx)) ρ' h' σ' (upd H' a (exT (.ref (ca c0)) a dx)) := s1.frz upd_same (s'.hr.notF na) (s'.hr.notiot na) (s'.hr.notP na) fun i x q hq => by
            obtain ⟨b, e1, e2, _⟩ := s'.own i x q
            obtain ⟨u, e3⟩ := e2.some
            rw [hq] at e1
            cases e1
            rw [na] at e3
            cases e3
          have fin : ∀ w2, w'.le w2 → StR ⟨X.K, ca⟩ P w2 ρ' h' σ' (upd H' a (exT (.ref (ca c0)) a dx)) → Rep ⟨X.K, ca⟩ w2 (.exn c0 p0) (.ref a) → D.nx (((σ'.set i (some (.ref a))).set j (some (.ref a))).set i none) (upd H' a (exT (.ref (ca c0)) a dx)) := fun w2 l2 s3 r3 => by
            have s4 := (s3.setV (i := j) r3).unset i none
            have e4 : ((σ'.set i (some (V.ref a))).set j (some (.ref a))).set i none = (σ'.set j (some (.ref a))).set i none := by
              rw [List.set_comm _ _ hij, List.set_set]
            rw [e4]
            exact k w2 _ _ (l.trans l2) s4
          rcases rx with ⟨r1, r2⟩ | ⟨dd, fs, u, r1, r2, r3, r4⟩
          · refine fin _ le1 s2 ?_
            simp only [Rep, Rp]
            exact ⟨a, dx, rfl, Wd.frz_same, .inl ⟨r1, r2⟩⟩
          · subst r1
            have fq := le1.1 dd _ r2
            refine fin _ le1 s2 ?_
            simp only [Rep, Rp]
            exact ⟨a, some dd, rfl, Wd.frz_same, .inr ⟨dd, fs, u, rfl, fq, r3, Rep.le r4 le1⟩⟩
        · subst hb
          exact k w' σ' H' _ dx l s' ⟨rfl, rx⟩⟩⟩
end
end PV
end

section
set_option Elab.async false
set_option linter.all false
set_option maxRecDepth 100000
set_option maxHeartbeats 1000000
/-! PV.R18: what is left: places of an object's container, signs in texts, repeated tuples, constants of the module. -/
namespace PV
open PySem L2
open PyProof.Rows hiding St

/-- o[i], o an object that holds a container -/
def eIxB (a b : EM D) : EM D := eBind a fun x => eBind b fun y _ h => match boxD x h with
  | some c => match dIx c y with
    | some d => .ok d h
    | none => .stuck
  | none => .stuck
section
variable {X : Cx} {ca : Nat → Addr} {W : WX} {a b e : Expr} {c1 c2 c : EM D} {pos p : Pos} {x : Str}
/-- how an index finds its value: by the containers that R3's dIx knows -/
theorem ix_lst {ds : List D} {y d : D} (e : dIx (.lst ds) y = some d) : ∃ i, y = .int i ∧ atI ds i = some d := by
  cases y with
  | int i => exact ⟨i, rfl, e⟩
  | _ => simp [dIx] at e
theorem ix_dic {ds : List (D × D)} {y d : D} (e : dIx (.dic ds) y = some d) : False := by
  cases y <;> simp [dIx] at e
theorem se_ixB (ha : SE X ca W a c1) (hb : SE X ca W b c2) (hs : PlainIx b := by intro _ _; rfl) : SE X ca W (.Subscript a b pos) (eIxB c1 c2) :=
  ⟨(pe_ix ix_seq ha.pe hb.pe hs).imp fun σ H Q ⟨P, w, ρ, h, st, k⟩ => ⟨P, w, ρ, h, st, (EPost.bind k).imp fun x w1 h1 H1 l1 s1 k1 v rv => ⟨P, w1, ρ, h1, s1, (EPost.bind k1).imp fun y w2 h2 H2 l2 s2 k2 u ru => by
    split at k2
    · rename_i c q
      split at k2
      · rename_i d qd
        obtain ⟨i, rfl, e⟩ := boxD_some q
        obtain ⟨p, rfl, ep⟩ := rp_obj rv
        have ob := s2.hr.ob i _ p e (pre_get l2.2 ep)
        have ob' : OwnAt ⟨X.K, ca⟩ w2 c p H2 := ob
        cases c with
        | lst ds =>
          obtain ⟨ii, rfl, ed⟩ := ix_lst qd
          obtain ⟨vs, z, e1, r⟩ := own_lst ob'
          obtain ⟨v2, e2, r2⟩ := r.at ed
          have : u = .int ii := by simpa only [Rep, Rp] using ru
          subst this
          exact .inl ⟨p, vs, ii, v2, rfl, rfl, SqL.of e1, e2, k2 w2 H2 (Wd.le.refl _) s2 v2 r2⟩
        | dic ds => exact (ix_dic qd).elim
        | _ => exact ob'.elim
      · exact k2.elim
    · exact k2.elim⟩⟩⟩
/-! ### a sign in a text -/
def dInS (neg : Bool) : D → D → Option D
  | .str x, .str z => match x.cps.toList with
    | [c] => some (.bl (neg != decide (c ∈ z.cps.toList)))
    | _ => none
  | _, _ => none
theorem sign_of {x : Str} {c : Nat} (e : x.cps.toList = [c]) : x = ⟨#[c]⟩ := by
  obtain ⟨l⟩ := x
  have : l = #[c] := by
    apply Array.ext'
    exact e
  rw [this]
theorem cr_inS : CmpRule X ca .In (dInS false) := ⟨_, op_in_sign, (fun P w ρ h σ H x y d v u Q s q rx ry k => by
  unfold dInS at q
  split at q
  · rename_i x z
    split at q
    · rename_i c ec
      cases q
      have e1 : v = .str x := by simpa only [Rp] using rx
      have e2 : u = .str z := by simpa only [Rp] using ry
      subst e1 e2
      refine ⟨c, z, by rw [sign_of ec], rfl, ?_⟩
      refine k w H _ (Wd.le.refl _) s ?_
      simp only [Rep, Rp, Bool.false_bne]
    · cases q
  · cases q)⟩
theorem cr_notInS : CmpRule X ca .NotIn (dInS true) := ⟨_, op_notIn_sign, (fun P w ρ h σ H x y d v u Q s q rx ry k => by
  unfold dInS at q
  split at q
  · rename_i x z
    split at q
    · rename_i c ec
      cases q
      have e1 : v = .str x := by simpa only [Rp] using rx
      have e2 : u = .str z := by simpa only [Rp] using ry
      subst e1 e2
      refine ⟨c, z, by rw [sign_of ec], rfl, ?_⟩
      refine k w H _ (Wd.le.refl _) s ?_
      simp only [Rep, Rp, Bool.true_bne]
    · cases q
  · cases q)⟩
/-! ### tuple * int -/
def dRepT : D → D → Option D
  | .tup xs, .int k => if xs ≠ [] ∧ 2 ≤ k ∧ k ≤ 1000 ∧ xs.length ≤ 1000 then some (.tup (List.replicate k.toNat xs).flatten) else none
  | _, _ => none
theorem Rps.rep {G : Gx} {F : Hp} {iot : List Addr} {ds : List D} {vs : List V} (r : Rps G F iot ds vs) : ∀ n : Nat, Rps G F iot (List.replicate n ds).flatten (List.replicate n vs).flatten
  | 0 => Rps.nil
  | n + 1 => by
    rw [List.replicate_succ, List.replicate_succ, List.flatten_cons, List.flatten_cons]
    exact r.append (r.rep n)
theorem flat_len {α : Type} (n : Nat) (l : List α) : (List.replicate n l).flatten.length = n * l.length := by
  induction n with
  | zero => simp
  | succ n ih => rw [List.replicate_succ, List.flatten_cons, List.length_append, ih, Nat.succ_mul, Nat.add_comm]
theorem se_repT (ha : SE X ca W a c1) (hb : SE X ca W b c2) : SE X ca W (.BinOp a .Mult b pos) (eOp dRepT c1 c2) := se_opR op_repT (fun P w ρ h σ H x y d v u Q s q rx ry k => by
  unfold dRepT at q
  split at q
  · rename_i xs n
    split at q
    · rename_i hz
      obtain ⟨z1, z2, z3, z4⟩ := hz
      cases q
      simp only [Rep, Rp] at rx
      obtain ⟨p, vs, rfl, z, f, r⟩ := rx
      have e2 : u = .int n := by simpa only [Rep, Rp] using ry
      subst e2
      have hl := r.length
      refine ⟨p, n, vs, rfl, rfl, SqT.mono s.hr.fr f, fun e => z1 ?_, z2, z3, by omega, fun T nT => ?_⟩
      · rw [e] at hl
        exact List.length_eq_zero_iff.mp (by simpa using hl)
      · obtain ⟨w2, l2, s2, r2⟩ := lay_tup s nT (r.rep n.toNat) (by
          rw [flat_len, sizeLine_eq]
          have h1 : n.toNat ≤ 1000 := by omega
          have h2 : vs.length ≤ 1000 := by omega
          have := Nat.mul_le_mul h1 h2
          omega)
        exact k w2 _ _ l2 s2 r2
    · cases q
  · cases q) ha hb
/-- a constant of the module -/
def Cst (K : PySem.W.Frag) (mg : Str → Option Value) (ca : Nat → Addr) (x : Str) (d : D) : Prop := ∃ v u, mg x = some u ∧ RelV v u ∧ ∀ F iot, Rp ⟨K, ca⟩ F iot d v
theorem se_cst {d : D} (h : Cst X.K X.mg ca x d) (hg : Gl X x := by rfl) (hd : (x == ("__debug__" : Str)) = false := by decide) : SE X ca W (.Name x pos) (eRet d) := by
  obtain ⟨v, u, hm, r, rd⟩ := h
  exact se_glob hg hm r rd hd
end
end PV
end

section
set_option Elab.async false
set_option linter.all false
set_option maxRecDepth 100000
set_option maxHeartbeats 1000000
/-! PV.R19: name = [..], frozen; the head's facts. -/
namespace PV
open PySem L2
open PyProof.Rows hiding St
section
variable {X : Cx} {ca : Nat → Addr} {W : WX} {tg iter e : Expr} {it : EM (List D)} {t : TM} {tv : List Nat} {pos : Pos} {tt : EM Bool} {te : EM D} {sl : List Nat} {elt : Expr} {ifs : List Expr} {scope : Scope} {own : List (Str × Nat)}
theorem ss_setLc (i : Nat) {y : Str} {py spos : Pos} (hc : X.calm = true) (hN : X.N.Nodup) (hi : SI X ca W tg iter it sl) (ok : BlkOk X.N X.env.scope scope own)
    (hg : ∀ (s : Shared) (H : Hp) (C : Addr) (cl : List (Str × Addr)) (fp : List Addr), SG (X.blk s H scope (compEnvC scope cl C X.env) fp) ca tg t tv) (ht : ∀ (s : Shared) (H : Hp) (C : Addr) (cl : List (Str × Addr)) (fp : List Addr), STs (X.blk s H scope (compEnvC scope cl C X.env) fp) ca WF ifs tt)
    (he : ∀ (s : Shared) (H : Hp) (C : Addr) (cl : List (Str × Addr)) (fp : List Addr), SE (X.blk s H scope (compEnvC scope cl C X.env) fp) ca WF elt te)
    (hsw : swapsWith (.ListComp elt [⟨tg, iter, ifs, 0⟩] scope pos) (some (.Name y py)) spos.line X.env = pure true)
    (hy : X.N[i]? = some y := by rfl) (hyl : X.env.scope.names.lookup y = some .local := by rfl)
    (hsl : ∀ i ∈ sl, i ∉ own.map (·.2) := by decide) (htv : ∀ i ∈ tv, i ∈ own.map (·.2) := by decide) (hs : ∀ x, foldedSetIterable iter X.env x = pure x := by intro _; rfl) :
    SS X ca W (.Assign [.Name y py] (.ListComp elt [⟨tg, iter, ifs, 0⟩] scope pos) spos) (sSet i (eLc (own.map (·.2)) it t tt te)) := by
  have off : ∀ d ρ ρ', t d ρ = some ρ' → OffE tv ρ ρ' := fun d ρ ρ' e => (hg X.s_0 P0 0 [] []).off d ρ ρ' e
  exact ⟨(ps_setLc hc hN hy hyl hsw hi.pi ok (fun s H C cl fp => (hg s H C cl fp).pg) (fun s H C cl fp => (ht s H C cl fp).pt) (fun s H C cl fp => (he s H C cl fp).pe) hs).imp fun E σ H ⟨P, w, ρ, h, st, k⟩ => ⟨P, w, ρ, h, st,
    (EPost.bind (SPost.bind k)).imp fun ds w1 h1 H1 l1 s1 k1 J okJ => lc_turn (Q := fun v H' => gName i v σ H' E.nx) s1 okJ hsl htv off (k1.imp fun d w2 h2 H2 l2 s2 k2 a n => by
      obtain ⟨o, eo⟩ := n.1.some
      have le := Wd.frz_le (o := o) n.2.1
      exact k2 (w2.frz a o) _ H2 le ((s2.frz eo n.2.1 n.2.2.1 n.2.2.2.1 n.2.2.2.2).setV (n.1.rep le (Wd.frz_same.trans eo.symm))))⟩⟩
theorem sw_one {elt : Expr} {gs : List Comprehension} {scope : Scope} {pos py : Pos} {y : Str} {l : Nat} {env : PySem.Env} (hk : env.scope.kind = .function := by rfl) (hy : env.scope.names.lookup y = some .local := by rfl) (hl : (py.line == pos.line) = true := by rfl)
    (ha : (scope.names.any fun (n, k) => n == y && (k == .local || k == .cell)) = false := by rfl) : swapsWith (.ListComp elt gs scope pos) (some (.Name y py)) l env = pure true := sw_true hk hy hl ha
end

/-! ### the head -/
abbrev ObT : Type := Bool × List He.FnW × List (Option (Arguments × FuncBody × Scope))
/-- an own exception's __init__, as it stands -/
def plW (K : PySem.W.Frag) (x : Str) : Option (Arguments × FuncBody × Scope) := match K.lookup (He.ma K (He.ga K x) "__init__") with
  | some ⟨_, _, .func fd, _⟩ => some (fd.params, fd.body, fd.scope)
  | _ => none
def obB (B : PySem.W.Frag → Bool) (fn : List He.DefD) (xs : List Str) (K : PySem.W.Frag) : ObT := (B K && fn.all fun d => d.ok K, fn.map fun d => He.fnW K d.at_, xs.map (plW K))
def vlB (fn : List He.DefD) (xv : List (Option (Arguments × FuncBody × Scope))) : ObT := (true, fn.map He.DefD.val, xv)
structure SaysB (B : PySem.W.Frag → Bool) (fn : List He.DefD) (xs : List Str) (xv : List (Option (Arguments × FuncBody × Scope))) (K : PySem.W.Frag) : Prop where
  eq : obB B fn xs K = vlB fn xv
def obBG (n : Nat) (B : PySem.W.Frag → Bool) (fn : List He.DefD) (xs : List Str) (g : Addr → Option Obj) : ObT := obB B fn xs (He.frG g (He.asD g n ++ [cStatics]))
def hookB (n : Nat) (B : PySem.W.Frag → Bool) (fn : List He.DefD) (xs : List Str) (xv : List (Option (Arguments × FuncBody × Scope))) : PySem.W.Hook where
  α := ObT
  obs := fun s => obBG n B fn xs s.heap.get?
  val := fun _ => vlB fn xv
  says := fun _ h => ∃ K : PySem.W.Frag, K.In h ∧ SaysB B fn xs xv K
  of := fun _ _ e => ⟨_, He.frG_in, ⟨e⟩⟩
  keeps := fun _ _ _ ⟨K, hK, c⟩ k => ⟨K, PySem.W.Frag.In.keeps hK k, c⟩
theorem obBG_eq {n : Nat} {B : PySem.W.Frag → Bool} {fn : List He.DefD} {xs : List Str} {xv : List (Option (Arguments × FuncBody × Scope))} {g : Addr → Option Obj} {s : Shared} (h : ∀ a, g a = s.heap.get? a) : obBG n B fn xs g = (hookB n B fn xs xv).obs s := by
  have e : g = s.heap.get? := funext h
  rw [e] <;> rfl
section
variable {B : PySem.W.Frag → Bool} {fn : List He.DefD} {xs : List Str} {xv : List (Option (Arguments × FuncBody × Scope))} {K : PySem.W.Frag}
theorem SaysB.b (c : SaysB B fn xs xv K) : B K = true := (He.ba (show (B K && fn.all fun d => d.ok K) = true from congrArg (fun z : ObT => z.1) c.eq)).1
theorem SaysB.def_ (c : SaysB B fn xs xv K) (i : Nat) {d : He.DefD} (h : fn[i]? = some d := by rfl) : ∃ fd, FunD K d.name d.qual d.params d.body d.scope (d.dvs K) (d.kws K) (He.fAd K d.at_) fd := by
  have c2 := (He.ba (show (B K && fn.all fun d => d.ok K) = true from congrArg (fun z : ObT => z.1) c.eq)).2
  have e : fn.map (fun d => He.fnW K d.at_) = fn.map He.DefD.val := congrArg (fun z : ObT => z.2.1) c.eq
  have e2 : (fn.map fun d => He.fnW K d.at_)[i]? = (fn.map He.DefD.val)[i]? := by rw [e]
  rw [List.getElem?_map, List.getElem?_map, h] at e2
  exact He.DefD.funD (Option.some.inj e2) (List.all_eq_true.mp c2 d (List.mem_of_getElem? h))
theorem SaysB.pl (c : SaysB B fn xs xv K) (i : Nat) {x : Str} {v : Option (Arguments × FuncBody × Scope)} (h : xs[i]? = some x := by rfl) (hv : xv[i]? = some v := by rfl) : plW K x = v := by
  have e : xs.map (plW K) = xv := congrArg (fun z : ObT => z.2.2) c.eq
  have e2 : (xs.map (plW K))[i]? = xv[i]? := by rw [e]
  rw [List.getElem?_map, h, hv] at e2
  exact Option.some.inj e2
end
/-! ### an own exception class by names -/
def plCls (K : PySem.W.Frag) (C : Addr) : Bool := match K.lookup C with
  | some ⟨.type t, _, .cls cd, sl⟩ => decide (t = "type") && (cd.hasDict && (!cd.hasDel && ((match cd.mro with
    | .ref c :: bm => decide (c = C) && (HandSPX.refsVE bm && decide (PySem.W.alongIn K "__init__" (((Value.ref C :: bm).dropWhile (· != .ref C)).drop 1) = some (some (.builtin "ValueError.__init__"))))
    | _ => false) && (match sl.toList with
    | [_, _, _, _, some (.builtin n), _] => decide (n = "ValueError.__new__")
    | _ => false))))
  | _ => false
def plFn (prog : Program) (K : PySem.W.Frag) (C f : Addr) : Bool := match K.lookup f with
  | some ⟨_, _, .func fd, _⟩ => decide (fd.name = "__init__") && (decide (fd.globals = mainGlobals) && (decide (fd.builtins = builtinsNs) && ((match fd.defaults with
    | .none => true
    | _ => false) && ((match fd.kwdefaults with
    | .none => true
    | _ => false) && ((match fd.closure with
    | [(n, cc)] => decide (n = ("__class__" : Str)) && (match K.lookup cc with
      | some ⟨_, _, .cell (some (.ref D)), _⟩ => decide (D = C)
      | _ => false)
    | _ => false) && (match fd.code with
    | .ref cda => PySem.W.codeIn K (.ref cda) fd.qualname && (match K.lookup cda with
      | some (Obj.mk _ _ (Data.fields vs) _) => (match (vs[2]? : Option Value) with
        | some (Value.str file _) => prog.main.file == file
        | _ => false)
      | _ => false)
    | _ => false))))))
  | _ => false
def plB (prog : Program) (K : PySem.W.Frag) (x : Str) : Bool :=
  plCls K (He.ga K x) && (plFn prog K (He.ga K x) (He.ma K (He.ga K x) "__init__") && (decide (PySem.W.findIn K (.ref (He.ga K x)) "__setattr__" = some (some (.builtin "object.__setattr__"))) && (decide (PySem.W.findIn K (.ref (He.ga K x)) "place" = some none) &&
  (decide (PySem.W.findIn K (.ref (He.ga K x)) "__init__" = some (some (.ref (He.ma K (He.ga K x) "__init__")))) && (decide (PySem.W.typeIn K (.ref (He.ma K (He.ga K x) "__init__")) = some (.type "function")) && (PySem.W.keepIn K (.ref (He.ga K x)) &&
  (decide (PySem.W.subIn K (.ref (He.ga K x)) (.type "BaseException") = some true) && (decide (PySem.W.subIn K (.ref (He.ga K x)) (.type "ValueError") = some true) && (decide (PySem.W.typeIn K (.ref (He.ga K x)) = some (.type "type")) &&
  (PySem.W.hasDictIn K (He.ga K x) && (decide (PySem.W.mroIn K (He.ga K x) (.ref (He.ga K x)) = some true) && (decide (PySem.W.nsIn K mainGlobals "super" = some none) && (decide (PySem.W.nsIn K cStatics "thirdparty.any" = some none) &&
  !(prog.main.scope.names.lookup ("super" : Str)).isSome)))))))))))))
theorem plCls_ok {K : PySem.W.Frag} {C : Addr} (h : plCls K C = true) : ∃ nm q N bs bm sn sub ab col dd k0 k1 k2 k3 k5, K.lookup C = some (excClassObj nm q C N bs bm true sn sub ab col dd k0 k1 k2 k3 k5 "ValueError.__new__") ∧ HandSPX.refsVE bm = true ∧
    PySem.W.alongIn K "__init__" (((Value.ref C :: bm).dropWhile (· != .ref C)).drop 1) = some (some (.builtin "ValueError.__init__")) := by
  unfold plCls at h
  split at h
  · rename_i t dd cd sl e
    simp only [Bool.and_eq_true, decide_eq_true_eq, Bool.not_eq_true'] at h
    obtain ⟨h1, h2, h3, h4, h5⟩ := h
    split at h4
    · rename_i c bm em
      simp only [Bool.and_eq_true, decide_eq_true_eq] at h4
      obtain ⟨g1, g2, g3⟩ := h4
      split at h5
      · rename_i k0 k1 k2 k3 n k5 es
        obtain ⟨nm, bs, mro, ns, qn, hd, sn, sb, ab, col, del⟩ := cd
        simp only at h2 h3 em
        have hs : sl = #[k0, k1, k2, k3, some (.builtin n), k5] := by
          obtain ⟨l⟩ := sl
          simp only at es
          rw [es]
        have hn : n = "ValueError.__new__" := by simpa using h5
        subst h1 h2 h3 em g1 hs hn
        exact ⟨nm, qn, ns, bs, bm, sn, sb, ab, col, dd, k0, k1, k2, k3, k5, e, g2, g3⟩
      · cases h5
    · cases h4
  · cases h
theorem plFn_ok {prog : Program} {K : PySem.W.Frag} {C f : Addr} {a : Arguments} {b : List Stmt} {sc : Scope} (h : plFn prog K C f = true) (e : (match K.lookup f with
    | some ⟨_, _, .func fd, _⟩ => some (fd.params, fd.body, fd.scope)
    | _ => none) = some (a, FuncBody.stmts b, sc)) :
    ∃ (qual : Str) (oc doc pm ct : Value) (od an : Option Addr) (osl : Array (Option Value)) (cda cc : Addr),
      K.lookup f = some ⟨oc, od, .func (PySem.W.ksFn "__init__" qual a b sc .none .none doc pm an (.ref cda) ct cc), osl⟩ ∧ PySem.W.codeIn K (.ref cda) qual = true ∧
      (∃ (ccl : Value) (cdd : Option Addr) (vs : Array Value) (ccs : Array (Option Value)) (file : Str) (tf : Tok), K.lookup cda = some ⟨ccl, cdd, .fields vs, ccs⟩ ∧ vs[2]? = some (.str file tf) ∧ ((prog.main.file : Str) == file) = true) ∧
      (∃ (cl : Value) (cld : Option Addr) (csl : Array (Option Value)), K.lookup cc = some ⟨cl, cld, .cell (some (.ref C)), csl⟩) := by
  unfold plFn at h
  split at h
  · rename_i oc od fd osl el
    rw [el] at e
    simp only at e
    obtain ⟨n1, n2, n3, n4, n5, n6, n7, n8, n9, n10, n11, n12, n13, n14, n15⟩ := fd
    simp only [Bool.and_eq_true, decide_eq_true_eq] at h
    simp only [Option.some.injEq, Prod.mk.injEq] at e
    obtain ⟨e1, e2, e3⟩ := e
    obtain ⟨h1, h2, h3, h4, h5, h6, h7⟩ := h
    subst h1 h2 h3 e1 e2 e3
    split at h4
    · split at h5
      · split at h6
        · rename_i n cc
          simp only [Bool.and_eq_true, decide_eq_true_eq] at h6
          obtain ⟨h61, h62⟩ := h6
          split at h62
          · rename_i cl cld D csl ek
            have hD : D = C := by simpa using h62
            rw [hD] at ek
            rw [h61] at el
            split at h7
            · rename_i cda
              simp only [Bool.and_eq_true] at h7
              obtain ⟨h71, h72⟩ := h7
              split at h72
              · rename_i ccl cdd vs ccs ea
                split at h72
                · rename_i file tf ev
                  exact ⟨n2, oc, n10, n11, n14, od, n12, osl, cda, cc, el, h71, ⟨ccl, cdd, vs, ccs, file, tf, ea, ev, h72⟩, cl, cld, csl, ek⟩
                · cases h72
              · cases h72
            · cases h7
          · cases h62
        · cases h6
      · cases h5
    · cases h4
  · cases h
theorem plB_ok {prog : Program} {K : PySem.W.Frag} {x m : Str} {j : Nat} {p1 p2 r0 r1 r2 r3 r4 r5 q1 q2 q3 q4 : Pos} (h : plB prog K x = true) (e : plW K x = some (plArgs p1 p2, .stmts (plBody m j r0 r1 r2 r3 r4 r5 q1 q2 q3 q4), plScope)) (hl : (r2.endLine == r4.line) = true) :
    PlTxt K prog (He.ga K x) (He.ma K (He.ga K x) "__init__") := by
  unfold plB at h
  simp only [Bool.and_eq_true, decide_eq_true_eq, Bool.not_eq_true'] at h
  obtain ⟨h1, h2, h3, h4, h5, h6, h7, h8, h9, h10, h11, h12, h13, h14, h15⟩ := h
  obtain ⟨qual, oc, doc, pm, ct, od, an, osl, cda, cc, z1, z2, z3, z4⟩ := plFn_ok h2 e
  exact ⟨plCls_ok h1, h3, h4, h5, h6, h7, h8, h9, h10, h11, h12, h13, h14, h15, qual, m, j, oc, doc, pm, ct, od, an, osl, cda, cc, p1, p2, r0, r1, r2, r3, r4, r5, q1, q2, q3, q4, z1, z2, hl, z3, z4⟩
/-! ### other facts by names -/
def cstD (K : PySem.W.Frag) (x : Str) (v : V) : Bool := match PySem.W.nsIn K mainGlobals x with
  | some (some u) => He.relB v u
  | _ => false
theorem cst_ok {K : PySem.W.Frag} {h : Heap} {mg : Str → Option Value} {ca : Nat → Addr} (Y : K.In h) (G : h.Ns mainGlobals mg) {x : Str} {v : V} {d : D} (c : cstD K x v = true) (r : ∀ F iot, Rp ⟨K, ca⟩ F iot d v) : Cst K mg ca x d := by
  unfold cstD at c
  split at c
  · rename_i u e
    exact ⟨v, u, PySem.W.mg_of Y G e, He.relB_ok c, r⟩
  · cases c
def excCB (K : PySem.W.Frag) (D : Addr) : Bool :=
  decide (PySem.W.findIn K (.ref D) "__getattribute__" = some (some (.builtin "BaseException.__getattribute__"))) && (decide (PySem.W.findIn K (.ref D) "__getattr__" = some none) && (decide (PySem.W.subIn K (.ref D) (.type "BaseException") = some true) && (PySem.W.hasDictIn K D &&
  (decide (PySem.W.findIn K (.ref D) "__class__" = some (some (.builtin "object.__class__"))) && (decide (PySem.W.specialIn K (.builtin "object.__class__") "__get__" = some (some (.builtin "getset_descriptor.__get__"))) && (decide (PySem.W.takesIn K (.builtin "object.__class__") = some true) &&
  decide (PySem.W.mroIn K D (.type "object") = some true)))))))
theorem excCB_ok {K : PySem.W.Frag} {D : Addr} (h : excCB K D = true) : ExcC K D := by
  unfold excCB at h
  simp only [Bool.and_eq_true, decide_eq_true_eq] at h
  obtain ⟨h1, h2, h3, h4, h5, h6, h7, h8⟩ := h
  exact ⟨h1, h2, h3, h4, h5, h6, h7, h8⟩
/-- how exceptions of the classes cs (by names) stand to the class y: l[k] the k-th one's answer -/
def isCB (K : PySem.W.Frag) (y : Str) (cs : List Str) (l : List (Option Bool)) : Bool :=
  decide (PySem.W.kitOne K (.type "NoneType") (.ref (He.ga K y)) = some false) && ((List.range l.length).all fun k => match l.getD k none with
    | none => true
    | some b => excCB K (He.ga K (cs.getD k Str.empty)) && decide (PySem.W.kitOne K (.ref (He.ga K (cs.getD k Str.empty))) (.ref (He.ga K y)) = some b))
theorem isCB_ok {K : PySem.W.Frag} {y : Str} {cs : List Str} {l : List (Option Bool)} (h : isCB K y cs l = true) : IsC K (fun k => He.ga K (cs.getD k Str.empty)) (He.ga K y) (fun k => l.getD k none) := by
  unfold isCB at h
  simp only [Bool.and_eq_true, decide_eq_true_eq, List.all_eq_true, List.mem_range] at h
  obtain ⟨h1, h2⟩ := h
  refine ⟨h1, fun k b e => ?_⟩
  replace e : l.getD k none = some b := e
  have hk : k < l.length := by
    rw [List.getD_eq_getElem?_getD] at e
    by_cases z : k < l.length
    · exact z
    · rw [List.getElem?_eq_none (by omega)] at e
      cases e
  have q := h2 k hk
  rw [e] at q
  simp only [Bool.and_eq_true, decide_eq_true_eq] at q
  exact ⟨excCB_ok q.1, q.2⟩
/-- which exceptions a clause takes -/
def mtsB (K : PySem.W.Frag) (y : Str) (cs : List Str) (l : List (Option Bool)) : Bool := (List.range l.length).all fun k => match l.getD k none with
    | none => true
    | some b => decide (PySem.W.exmOne K (.ref (He.ga K (cs.getD k Str.empty))) (.ref (He.ga K y)) = some b)
theorem mtsB_ok {K : PySem.W.Frag} {y : Str} {cs : List Str} {l : List (Option Bool)} (h : mtsB K y cs l = true) : Mts K (fun k => He.ga K (cs.getD k Str.empty)) (.ref (He.ga K y)) (fun k => l.getD k none) := by
  unfold mtsB at h
  simp only [List.all_eq_true, List.mem_range] at h
  intro k b e
  replace e : l.getD k none = some b := e
  show PySem.W.exmOne K (.ref (He.ga K (cs.getD k Str.empty))) (.ref (He.ga K y)) = some b
  have hk : k < l.length := by
    rw [List.getD_eq_getElem?_getD] at e
    by_cases z : k < l.length
    · exact z
    · rw [List.getElem?_eq_none (by omega)] at e
      cases e
  have q := h k hk
  rw [e] at q
  simpa using q
/-- the classes for which place is read -/
def plcB (K : PySem.W.Frag) (cs : List Str) (ks : List Nat) : Bool := ks.all fun k => xfB K (He.ga K (cs.getD k Str.empty)) && decide (PySem.W.findIn K (.ref (He.ga K (cs.getD k Str.empty))) "place" = some none)
theorem plcB_ok {K : PySem.W.Frag} {cs : List Str} {ks : List Nat} (h : plcB K cs ks = true) : ∀ k, decide (k ∈ ks) = true → XfC K (He.ga K (cs.getD k Str.empty)) ∧ PySem.W.findIn K (.ref (He.ga K (cs.getD k Str.empty))) "place" = some none := by
  unfold plcB at h
  intro k hk
  have q := List.all_eq_true.mp h k (by simpa using hk)
  simp only [Bool.and_eq_true, decide_eq_true_eq] at q
  exact ⟨xfB_ok q.1, q.2⟩
end PV
end

section
set_option Elab.async false
set_option linter.all false
set_option maxRecDepth 100000
set_option maxHeartbeats 1000000
/-! PV.R20: how the defs of the text are bound; the end of a law. -/
namespace PV
open PySem L2
open PyProof.Rows hiding St
section
variable {K : PySem.W.Frag} {ca : Nat → Addr} {x qual : Str} {params : Arguments} {body : List Stmt} {scope : Scope} {dvs : List V} {kws : List (Str × V)} {f : Addr} {fd : FuncData} {ps ks : List Str} {n : Nat} {is : List Nat}
theorem bd_of (b : Binds K fd ps []) : Bd K ca fd ps [] := ⟨[], [], b, .nil, fun _ _ => Rps.nil⟩
theorem bd_ex {dvs : List V} {dd : List D} (b : ∃ ds, Vals dvs ds ∧ Binds K fd ps ds) (r : ∀ F iot, Rps ⟨K, ca⟩ F iot dd dvs) : Bd K ca fd ps dd := b.elim fun ds q => ⟨ds, dvs, q.2, q.1, r⟩
theorem kb_of (F : FunD K x qual params body scope [] kws f fd)
    (h : ∀ (kV doc pm : Value) (an : Option Addr) (cdv ct : Value) (us ws : List Value), us.length = n → ws.length = ks.length → bindArgs (PySem.W.fnOf x qual params body scope .none kV doc pm an cdv ct) ⟨us, ks.zip ws⟩ = pure (ps.zip (prm is (us ++ (ws ++ []))))) : KB K fd ps n ks [] is := by
  obtain ⟨oc, od, dV, kV, doc, pm, an, cdv, ct, osl, rfl, lk, hcd, hD, hK⟩ := F.ex
  rcases hD with ⟨_, rfl⟩ | ⟨e, _⟩
  · exact ⟨fun s us ws _ l1 l2 => .of_eq (h kV doc pm an cdv ct us ws l1 l2)⟩
  · exact absurd rfl e
end
theorem exc_raises {K : PySem.W.Frag} {x : Str} (h : (He.Fa.exc x).ok K = true) : PySem.W.excIn K (He.ga K x) He.veBase "ValueError.__new__" = true ∧ PySem.W.keepIn K (.ref (He.ga K x)) = true ∧ ∀ X : Cx, X.K = K → Raises X (.ref (He.ga K x)) := by
  obtain ⟨h1, h2⟩ := He.ba (show (_ && (_ && (_ && _))) = true from h)
  obtain ⟨h2, h3⟩ := He.ba h2
  obtain ⟨h3, h4⟩ := He.ba h3
  exact ⟨h1, h2, fun X e => by subst e; exact raises_own (of_decide_eq_true h3) (of_decide_eq_true h4)⟩
/-- the law's promise: true, whatever the ints -/
theorem law_sp {K : PySem.W.Frag} {ca : Nat → Addr} {m : Fn} {H : Hp} {a : Addr} {ns : List Int} (hl : ns.length ≤ sizeLine) (hS : SqL K H a (ns.map V.int)) (q : ∃ h, m [.lst (ns.map D.int)] [] = .val (.bl true) h) : spOf ⟨K, ca⟩ m [.ref a] H (fun v _ => v = .bl true) fun _ _ _ => False := by
  obtain ⟨h, q⟩ := q
  have rn : ∀ (F : Hp) (iot : List Addr) (l : List Int), Rps ⟨K, ca⟩ F iot (l.map D.int) (l.map V.int) := fun F iot l => by
    induction l with
    | nil => exact Rps.nil
    | cons i l ih => exact Rps.cons (by simp only [Rp]) ih
  refine ⟨⟨H, []⟩, [.lst (ns.map D.int)], [], ⟨fun _ _ e => e, fun _ _ e => (by cases e), fun _ _ e => (by cases e), fun _ _ => rfl, fun _ m => (by cases m), List.nodup_nil, rfl, fun _ _ _ e => (by cases e)⟩, Rps.cons ?_ Rps.nil, ?_⟩
  · simp only [Rp]
    exact ⟨a, _, rfl, by rw [List.length_map]; exact hl, hS, rn _ _ ns⟩
  · rw [q]
    intro w' H' v c hr r
    simpa only [Rep, Rp] using r
/-- a def without fuel gives nothing back -/
theorem fok_stuck {Pg : Program} {wo : World} {K : PySem.W.Frag} {mg : Str → Option Value} {base : Heap} {ca : Nat → Addr} {x qual : Str} {params : Arguments} {body : List Stmt} {scope : Scope} {dvs : List V} {kws : List (Str × V)} {f : Addr} {fd : FuncData} {N ps : List Str} {k : Nat}
    (F : FunD K x qual params body scope dvs kws f fd) (S : FnScope N ps scope) : FOk Pg wo K mg base ca (k + 1) f fd ps fun _ _ => .stuck := by
  have no : ∀ {vs H Q E}, ¬ spOf ⟨K, ca⟩ (fun _ _ => .stuck) vs H Q E := fun ⟨_, _, _, _, _, z⟩ => z
  exact F.ok S (fun _ _ _ _ z => (no z).elim) fun _ _ _ _ _ _ _ _ _ z => (no z).elim
/-- the law at the top's end: the exceptions' frame may look at the world -/
theorem walk_pv {ol : PySem.W.OpenLaw} {lim lev : Nat} {vw : Program} {los : List Str} {px : (Str → Option Value) → Heap → Prop} {py : World → Heap → Prop} {dr : DefRec} {arg : Str}
    (h1 : ol.most = some lim) (h2 : lim ≤ sizeLine) (h3 : dr.params.defaults = []) (h4 : Room lev callerA)
    (go : ∀ (wo : World) (mg : Str → Option Value) (at_ : Addr) (hp : Heap), py wo hp → hp.Ns mainGlobals mg → mg dr.name = some (.ref at_) → ∃ (K : PySem.W.Frag) (fd : FuncData) (sp : Sp), K.In hp ∧
      (∀ (s : Shared) (u : Value), BindsTo s fd ⟨[u], []⟩ [(arg, u)]) ∧ (∀ (H : Hp) (a : Addr) (ns : List Int), ns.length ≤ lim → SqL K H a (ns.map V.int) → sp [.ref a] H (fun v _ => v = .bl true) fun _ _ _ => False) ∧
      ∀ base : Heap, FnOk ol.prog wo K mg base (L2.CX ol.prog wo) lev at_ fd [arg] sp) : PySem.W.WalkO vw los px py ol.row.toRowW dr [] (fun f vs => PySem.call f vs) := by
  refine Att.attach_call h1 h3 fun wo _ s1 mg mb at_ _ _ _ _ a vs ns G Y _ _ _ hm hob hin hle hgen => ?_
  obtain ⟨K, fd, sp, i1, i2, i3, i4⟩ := go wo mg at_ _ Y G.T.g hm
  exact law_call i1 G.T.g G.T.b G.T.builtins G.T.nolimit hgen hob hin (Nat.le_trans hle h2) h4 (fun base _ _ => i4 base) i2 (fun H _ hS => i3 H a ns hle hS) fun H e s' ⟨_, _, _, _, _, _, _, _, _, _, _, _, z⟩ => z
end PV
end

section
set_option Elab.async false
set_option linter.all false
set_option maxRecDepth 100000
set_option maxHeartbeats 1000000
/-! PV.R21: a plain logic of the models: what an outcome promises. -/
namespace PV
open PySem
/-! ### outcomes -/
def wO {α : Type} (o : Option α) (Q : α → Prop) : Prop := match o with
  | some a => Q a
  | none => False
abbrev XP : Type := Nat → D → Hh → Prop
def wE {α : Type} (r : ER α) (Q : α → Hh → Prop) (X : XP) : Prop := match r with
  | .stuck => False
  | .exc c p h => X c p h
  | .ok a h => Q a h
def wS (r : SR) (Q : Fl → Env → Hh → Prop) (X : Nat → D → Env → Hh → Prop) : Prop := match r with
  | .stuck => False
  | .exc c p ρ h => X c p ρ h
  | .ok f ρ h => Q f ρ h
def wF (r : FR) (Q : D → Hh → Prop) (X : XP) : Prop := match r with
  | .stuck => False
  | .exc c p h => X c p h
  | .val d h => Q d h
  | .new d h => Q d h
/-- the same of a new container alone -/
def wN (r : FR) (Q : D → Hh → Prop) (X : XP) : Prop := match r with
  | .exc c p h => X c p h
  | .new d h => Q d h
  | _ => False
def noX : XP := fun _ _ _ => False
section
variable {α β : Type} {ρ : Env} {h : Hh} {X : XP}
theorem wO.imp {o : Option α} {Q Q' : α → Prop} (k : wO o Q) (f : ∀ a, Q a → Q' a) : wO o Q' := by
  cases o with
  | none => exact k
  | some a => exact f a k
theorem wE.imp {r : ER α} {Q Q' : α → Hh → Prop} (k : wE r Q X) (f : ∀ a h, Q a h → Q' a h) : wE r Q' X := by
  cases r with
  | stuck => exact k
  | exc c p h => exact k
  | ok a h => exact f a h k
theorem wE.impX {r : ER α} {Q Q' : α → Hh → Prop} {X' : XP} (k : wE r Q X) (f : ∀ a h, Q a h → Q' a h) (g : ∀ c p h, X c p h → X' c p h) : wE r Q' X' := by
  cases r with
  | stuck => exact k
  | exc c p h => exact g c p h k
  | ok a h => exact f a h k
theorem wF.imp {r : FR} {Q Q' : D → Hh → Prop} {X' : XP} (k : wF r Q X) (f : ∀ a h, Q a h → Q' a h) (g : ∀ c p h, X c p h → X' c p h := by exact fun _ _ _ z => z.elim) : wF r Q' X' := by
  cases r with
  | stuck => exact k
  | exc c p h => exact g c p h k
  | val a h => exact f a h k
  | new a h => exact f a h k
theorem wN.imp {r : FR} {Q Q' : D → Hh → Prop} {X' : XP} (k : wN r Q X) (f : ∀ a h, Q a h → Q' a h) (g : ∀ c p h, X c p h → X' c p h := by exact fun _ _ _ z => z.elim) : wN r Q' X' := by
  cases r with
  | stuck => exact k
  | exc c p h => exact g c p h k
  | val a h => exact k
  | new a h => exact f a h k
theorem wN.wF {r : FR} {Q : D → Hh → Prop} (k : wN r Q X) : wF r Q X := by
  cases r with
  | stuck => exact k
  | exc c p h => exact k
  | val a h => exact k.elim
  | new a h => exact k
theorem wS.imp {r : SR} {Q Q' : Fl → Env → Hh → Prop} {Y : Nat → D → Env → Hh → Prop} (k : wS r Q Y) (f : ∀ a ρ h, Q a ρ h → Q' a ρ h) : wS r Q' Y := by
  cases r with
  | stuck => exact k
  | exc c p ρ h => exact k
  | ok a ρ h => exact f a ρ h k
theorem wF.ok {r : FR} {Q : D → Hh → Prop} (k : wF r Q noX) : ∃ d h, (r = .val d h ∨ r = .new d h) ∧ Q d h := by
  cases r with
  | stuck => exact k.elim
  | exc c p h => exact k.elim
  | val a h => exact ⟨a, h, .inl rfl, k⟩
  | new a h => exact ⟨a, h, .inr rfl, k⟩
/-! ### expressions -/
@[simp] theorem wO_some {a : α} {Q : α → Prop} : wO (some a) Q = Q a := rfl
@[simp] theorem wO_none {Q : α → Prop} : wO none Q = False := rfl
theorem wO_if {c : Prop} [Decidable c] {a : α} {Q : α → Prop} : wO (if c then some a else none) Q = (c ∧ Q a) := by
  by_cases hc : c
  · rw [if_pos hc]; simp [wO, hc]
  · rw [if_neg hc]; simp [wO, hc]
theorem wO_map {o : Option α} {f : α → β} {Q : β → Prop} : wO (o.map f) Q = wO o fun a => Q (f a) := by cases o <;> rfl
theorem wO_bind {o : Option α} {f : α → Option β} {Q : β → Prop} : wO (o.bind f) Q = wO o fun a => wO (f a) Q := by cases o <;> rfl
variable {Q : α → Hh → Prop}
theorem wE_ret {a : α} : wE (eRet a ρ h) Q X = Q a h := rfl
theorem wE_bind {c : EM β} {f : β → EM α} : wE (eBind c f ρ h) Q X = wE (c ρ h) (fun a h1 => wE (f a ρ h1) Q X) X := by
  unfold eBind
  cases c ρ h <;> rfl
theorem wE_opt {o : Option α} : wE (eOpt o ρ h) Q X = wO o fun a => Q a h := by cases o <;> rfl
def valAt (ρ : Env) (i : Nat) : Option D := match ρ[i]? with
  | some (.val d) => some d
  | _ => none
def ownAt (ρ : Env) (i : Nat) : Option D := match ρ[i]? with
  | some (.own d) => some d
  | _ => none
theorem val_0 {d : D} : valAt (.val d :: ρ) 0 = some d := rfl
theorem val_s {c : Cell} {i : Nat} : valAt (c :: ρ) (i + 1) = valAt ρ i := rfl
theorem own_0 {d : D} : ownAt (.own d :: ρ) 0 = some d := rfl
theorem own_s {c : Cell} {i : Nat} : ownAt (c :: ρ) (i + 1) = ownAt ρ i := rfl
theorem wE_var {i : Nat} {Q : D → Hh → Prop} : wE (eVar i ρ h) Q X = wO (valAt ρ i) fun d => Q d h := by
  unfold eVar valAt
  cases ρ[i]? with
  | none => rfl
  | some c => cases c <;> rfl
theorem wE_own {i : Nat} {Q : D → Hh → Prop} : wE (eOwn i ρ h) Q X = wO (ownAt ρ i) fun d => Q d h := by
  unfold eOwn ownAt
  cases ρ[i]? with
  | none => rfl
  | some c => cases c <;> rfl
theorem wE_if {t : EM Bool} {a b : EM α} : wE (eIf t a b ρ h) Q X = wE (t ρ h) (fun c h1 => if c = true then wE (a ρ h1) Q X else wE (b ρ h1) Q X) X := by
  unfold eIf
  rw [wE_bind]
  congr
  funext c h1
  cases c <;> rfl
variable {QB : Bool → Hh → Prop} {QD : D → Hh → Prop} {QL : List D → Hh → Prop}
theorem wE_map {f : D → Option D} {c : EM D} : wE (eMap f c ρ h) QD X = wE (c ρ h) (fun x h1 => wO (f x) fun y => QD y h1) X := by unfold eMap; rw [wE_bind]; congr; funext x h1; exact wE_opt
theorem wE_op {f : D → D → Option D} {a b : EM D} : wE (eOp f a b ρ h) QD X = wE (a ρ h) (fun x h1 => wE (b ρ h1) (fun y h2 => wO (f x y) fun z => QD z h2) X) X := by
  unfold eOp; rw [wE_bind]; congr; funext x h1; rw [wE_bind]; congr; funext y h2; exact wE_opt
theorem wE_nil : wE (eNil ρ h) QL X = QL [] h := rfl
theorem wE_cons {a : EM D} {r : EM (List D)} : wE (eCons a r ρ h) QL X = wE (a ρ h) (fun x h1 => wE (r ρ h1) (fun xs h2 => QL (x :: xs) h2) X) X := by
  unfold eCons; rw [wE_bind]; congr; funext x h1; rw [wE_bind]; rfl
theorem wE_tup {r : EM (List D)} : wE (eTup r ρ h) QD X = wE (r ρ h) (fun xs h1 => xs.length ≤ 16777216 ∧ QD (.tup xs) h1) X := by
  unfold eTup; rw [wE_bind]; congr; funext x h1; rw [wE_opt, wO_if]
theorem wE_lst {r : EM (List D)} : wE (eLst r ρ h) QD X = wE (r ρ h) (fun xs h1 => xs.length ≤ 16777216 ∧ QD (.lst xs) h1) X := by
  unfold eLst; rw [wE_bind]; congr; funext x h1; rw [wE_opt, wO_if]
theorem wE_not {t : EM Bool} : wE (bNot t ρ h) QB X = wE (t ρ h) (fun c h1 => QB (!c) h1) X := by unfold bNot; rw [wE_bind]; rfl
theorem wE_and {t u : EM Bool} : wE (bAnd t u ρ h) QB X = wE (t ρ h) (fun c h1 => if c = true then wE (u ρ h1) QB X else QB false h1) X := by
  unfold bAnd; rw [wE_bind]; congr; funext c h1; cases c <;> rfl
theorem wE_or {t u : EM Bool} : wE (bOr t u ρ h) QB X = wE (t ρ h) (fun c h1 => if c = true then QB true h1 else wE (u ρ h1) QB X) X := by
  unfold bOr; rw [wE_bind]; congr; funext c h1; cases c <;> rfl
theorem wE_truth {c : EM D} : wE (eTruth c ρ h) QB X = wE (c ρ h) (fun x h1 => wO (dTruth x) fun b => QB b h1) X := by unfold eTruth; rw [wE_bind]; congr; funext x h1; exact wE_opt
theorem wE_asB {c : EM D} : wE (eAsB c ρ h) QB X = wE (c ρ h) (fun x h1 => wO (asB x) fun b => QB b h1) X := by unfold eAsB; rw [wE_bind]; congr; funext x h1; exact wE_opt
theorem wE_ofB {c : EM Bool} : wE (eOfB c ρ h) QD X = wE (c ρ h) (fun b h1 => QD (.bl b) h1) X := by unfold eOfB; rw [wE_bind]; rfl
theorem wE_andV {a b : EM D} : wE (eAndV a b ρ h) QD X = wE (a ρ h) (fun x h1 => wO (dTruth x) fun k => if k = true then wE (b ρ h1) QD X else QD x h1) X := by
  unfold eAndV; rw [wE_bind]; congr; funext x h1; rw [wE_bind, wE_opt]; congr; funext k; cases k <;> rfl
theorem wE_orV {a b : EM D} : wE (eOrV a b ρ h) QD X = wE (a ρ h) (fun x h1 => wO (dTruth x) fun k => if k = true then QD x h1 else wE (b ρ h1) QD X) X := by
  unfold eOrV; rw [wE_bind]; congr; funext x h1; rw [wE_bind, wE_opt]; congr; funext k; cases k <;> rfl
theorem wE_notV {a : EM D} : wE (eNotV a ρ h) QD X = wE (a ρ h) (fun x h1 => wO (dTruth x) fun k => QD (.bl (!k)) h1) X := by
  unfold eNotV; rw [wE_map]; congr; funext x h1; exact wO_map
theorem wE_chain {f g : D → D → Option D} {a b c : EM D} : wE (eChain f g a b c ρ h) QD X = wE (a ρ h) (fun x h1 => wE (b ρ h1) (fun y h2 => wO (f x y) fun d => wO (asB d) fun k => if k = true then wE (c ρ h2) (fun z h3 => wO (g y z) fun r => QD r h3) X else QD (.bl false) h2) X) X := by
  unfold eChain; rw [wE_bind]; congr; funext x h1; rw [wE_bind]; congr; funext y h2; rw [wE_bind, wE_opt]; congr; funext d; rw [wE_bind]; unfold asBool; rw [wE_opt]; congr; funext k
  cases k
  · rfl
  · simp only [if_true]; rw [wE_bind]; congr; funext z h3; exact wE_opt
theorem wE_noPart {Q : Option Int → Hh → Prop} : wE (eNoPart ρ h) Q X = Q none h := rfl
theorem wE_somePart {c : EM D} {Q : Option Int → Hh → Prop} : wE (eSomePart c ρ h) Q X = wE (c ρ h) (fun x h1 => wO (match x with | .int i => some (some i) | _ => none) fun o => Q o h1) X := by unfold eSomePart; rw [wE_bind]; congr; funext x h1; exact wE_opt
theorem wE_sl {c : EM D} {l u : EM (Option Int)} : wE (eSl c l u ρ h) QD X = wE (c ρ h) (fun x h1 => wE (l ρ h1) (fun lo h2 => wE (u ρ h2) (fun hi h3 => wO (dSl x lo hi) fun y => QD y h3) X) X) X := by
  unfold eSl; rw [wE_bind]; congr; funext x h1; rw [wE_bind]; congr; funext y h2; rw [wE_bind]; congr; funext z h3; exact wE_opt
theorem wE_chkS {c : EM D} : wE (chkS c ρ h) QD X = wE (c ρ h) (fun x h1 => wO (match x with | .str a => some (.str a) | _ => none) fun y => QD y h1) X := by unfold chkS; rw [wE_bind]; congr; funext x h1; exact wE_opt
theorem wE_L {c : EM D} : wE (eL c ρ h) QD X = wE (c ρ h) (fun x h1 => isL x = true ∧ QD x h1) X := by unfold eL; rw [wE_bind]; congr; funext x h1; rw [wE_opt, wO_if]
theorem wE_mapL {f : List D → Option D} {cs : EM (List D)} : wE (eMapL f cs ρ h) QD X = wE (cs ρ h) (fun xs h1 => wO (f xs) fun y => QD y h1) X := by unfold eMapL; rw [wE_bind]; congr; funext x h1; exact wE_opt
theorem wE_items {c : EM D} : wE (eItems c ρ h) QL X = wE (c ρ h) (fun x h1 => wO (itemsD x) fun ys => QL ys h1) X := by unfold eItems; rw [wE_bind]; congr; funext x h1; exact wE_opt
theorem wE_rng1 {cs : EM (List D)} : wE (eRng1 cs ρ h) QL X = wE (cs ρ h) (fun xs h1 => wO (match xs with | [.int j] => rngD 0 j | _ => none) fun ys => QL ys h1) X := by unfold eRng1; rw [wE_bind]; congr; funext x h1; exact wE_opt
theorem wE_rng2 {cs : EM (List D)} : wE (eRng2 cs ρ h) QL X = wE (cs ρ h) (fun xs h1 => wO (match xs with | [.int i, .int j] => rngD i j | _ => none) fun ys => QL ys h1) X := by unfold eRng2; rw [wE_bind]; congr; funext x h1; exact wE_opt
theorem wE_enum {cs : EM (List D)} : wE (eEnum cs ρ h) QL X = wE (cs ρ h) (fun xs h1 => wO (match xs with | [x] => (lstD x).map (enumD 0) | _ => none) fun ys => QL ys h1) X := by unfold eEnum; rw [wE_bind]; congr; funext x h1; exact wE_opt
theorem wE_zip2 {cs : EM (List D)} : wE (eZip2 cs ρ h) QL X = wE (cs ρ h) (fun xs h1 => wO (match xs with | [x, y] => (itemsD x).bind fun xs => (itemsD y).map fun ys => zip2D xs ys | _ => none) fun ys => QL ys h1) X := by unfold eZip2; rw [wE_bind]; congr; funext x h1; exact wE_opt
theorem wE_zip3 {cs : EM (List D)} : wE (eZip3 cs ρ h) QL X = wE (cs ρ h) (fun xs h1 => wO (match xs with | [x, y, z] => (itemsD x).bind fun xs => (itemsD y).bind fun ys => (itemsD z).map fun zs => zip3D xs ys zs | _ => none) fun ys => QL ys h1) X := by unfold eZip3; rw [wE_bind]; congr; funext x h1; exact wE_opt
theorem wE_see {γ : Type} {f : β → Hh → Option γ} {c : EM β} {Q : γ → Hh → Prop} : wE (eSee f c ρ h) Q X = wE (c ρ h) (fun d h1 => wO (f d h1) fun b => Q b h1) X := by
  unfold eSee; rw [wE_bind]; congr; funext d h1; cases f d h1 <;> rfl
theorem wE_obj {c : EM D} : wE (eObj c ρ h) QD X = wE (c ρ h) (fun d h1 => QD (.obj h1.length) (h1 ++ [.box d])) X := by unfold eObj; rw [wE_bind]; rfl
theorem wE_ixB {a b : EM D} : wE (eIxB a b ρ h) QD X = wE (a ρ h) (fun x h1 => wE (b ρ h1) (fun y h2 => wO (boxD x h2) fun c => wO (dIx c y) fun d => QD d h2) X) X := by
  unfold eIxB; rw [wE_bind]; congr; funext x h1; rw [wE_bind]; congr; funext y h2
  cases boxD x h2 with
  | none => rfl
  | some c => simp only [wO_some]; cases dIx c y <;> rfl
theorem wE_get {c k : EM D} : wE (eGet c k ρ h) QD X = wE (c ρ h) (fun x h1 => isD' x = true ∧ wE (k ρ h1) (fun y h2 => wO (dGetM x y) fun z => QD z h2) X) X := by
  unfold eGet; rw [wE_bind]; congr; funext x h1; rw [wE_bind, wE_opt, wO_if]
  have e : wE (eBind k (fun y => eOpt (dGetM x y)) ρ h1) QD X = wE (k ρ h1) (fun y h2 => wO (dGetM x y) fun z => QD z h2) X := by rw [wE_bind]; congr; funext y h2; exact wE_opt
  rw [e]
theorem wE_dic0 : wE (eDic0 ρ h) QD X = QD (.dic []) h := rfl
theorem wE_len {n : Nat} {as : EM (List D)} : wE (eLen n as ρ h) QL X = wE (as ρ h) (fun xs h1 => xs.length = n ∧ QL xs h1) X := by unfold eLen; rw [wE_bind]; congr; funext x h1; rw [wE_opt, wO_if]
theorem wE_kwA {is : List Nat} {dd : List D} {as ks : EM (List D)} : wE (eKwA is dd as ks ρ h) QL X = wE (as ρ h) (fun xs h1 => wE (ks ρ h1) (fun ys h2 => QL (prm is (xs ++ (ys ++ dd))) h2) X) X := by
  unfold eKwA; rw [wE_bind]; congr; funext x h1; rw [wE_bind]; rfl
theorem wE_call {m : Fn} {dd : List D} {as : EM (List D)} : wE (eCall m dd as ρ h) QD X = wE (as ρ h) (fun xs h1 => wF (m (xs ++ dd) h1) QD X) X := by
  unfold eCall; rw [wE_bind]; congr; funext xs h1; unfold eFn; cases m (xs ++ dd) h1 <;> rfl
theorem wE_callN {m : Fn} {dd : List D} {as : EM (List D)} : wE (eCallN m dd as ρ h) QD X = wE (as ρ h) (fun xs h1 => wN (m (xs ++ dd) h1) QD X) X := by
  unfold eCallN; rw [wE_bind]; congr; funext xs h1; unfold eFnN; cases m (xs ++ dd) h1 <;> rfl
theorem wE_meth {cl : Nat} {nm : Str} {m : Fn} {dd : List D} {o : EM D} {as : EM (List D)} : wE (eMeth cl nm m dd o as ρ h) QD X = wE (o ρ h) (fun d h1 => wO (recD cl nm d h1) fun d => wE (as ρ h1) (fun xs h2 => wF (m (d :: (xs ++ dd)) h2) QD X) X) X := by
  unfold eMeth; rw [wE_bind, wE_see]; congr; funext d h1; congr; funext d'; rw [wE_bind]; congr; funext xs h2; unfold eFn; cases m (d' :: (xs ++ dd)) h2 <;> rfl
theorem wE_methN {cl : Nat} {nm : Str} {m : Fn} {dd : List D} {o : EM D} {as : EM (List D)} : wE (eMethN cl nm m dd o as ρ h) QD X = wE (o ρ h) (fun d h1 => wO (recD cl nm d h1) fun d => wE (as ρ h1) (fun xs h2 => wN (m (d :: (xs ++ dd)) h2) QD X) X) X := by
  unfold eMethN; rw [wE_bind, wE_see]; congr; funext d h1; congr; funext d'; rw [wE_bind]; congr; funext xs h2; unfold eFnN; cases m (d' :: (xs ++ dd)) h2 <;> rfl
theorem wE_make {cl : Nat} {m : Fn} {dd : List D} {as : EM (List D)} : wE (eMake cl m dd as ρ h) QD X = wE (as ρ h) (fun xs h1 => match m (.obj h1.length :: (xs ++ dd)) (h1 ++ [.ins cl []]) with
    | .exc c p h' => X c p h'
    | .val .non h' => QD (.obj h1.length) h'
    | _ => False) X := by
  unfold eMake; rw [wE_bind]; congr; funext xs h1; unfold mkM
  cases m (.obj h1.length :: (xs ++ dd)) (h1 ++ [.ins cl []]) with
  | stuck => rfl
  | exc c p h' => rfl
  | new d h' => rfl
  | val d h' => cases d <;> rfl
/-! ### statements -/
variable {Y : Nat → D → Env → Hh → Prop} {QS : Fl → Env → Hh → Prop}
/-- what is to hold behind a statement, if d comes next -/
def sq (d : SM) (Q : Fl → Env → Hh → Prop) (Y : Nat → D → Env → Hh → Prop) : Fl → Env → Hh → Prop := fun f ρ h => match f with
  | .next => wS (d ρ h) Q Y
  | f => Q f ρ h
theorem sq_next {d : SM} : sq d QS Y .next ρ h = wS (d ρ h) QS Y := rfl
theorem sq_ret {d : SM} {x : D} : sq d QS Y (.ret x) ρ h = QS (.ret x) ρ h := rfl
theorem sq_retN {d : SM} {x : D} : sq d QS Y (.retN x) ρ h = QS (.retN x) ρ h := rfl
theorem sq_brk {d : SM} : sq d QS Y .brk ρ h = QS .brk ρ h := rfl
theorem sq_cont {d : SM} : sq d QS Y .cont ρ h = QS .cont ρ h := rfl
theorem wS_bind {c : EM α} {f : α → SM} : wS (sBind c f ρ h) QS Y = wE (c ρ h) (fun a h1 => wS (f a ρ h1) QS Y) (fun c p h1 => Y c p ρ h1) := by
  unfold sBind; cases c ρ h <;> rfl
theorem wS_next : wS (sNext ρ h) QS Y = QS .next ρ h := rfl
theorem wS_brk : wS (sBrk ρ h) QS Y = QS .brk ρ h := rfl
theorem wS_cont : wS (sCont ρ h) QS Y = QS .cont ρ h := rfl
theorem wS_seq {c d : SM} : wS (sSeq c d ρ h) QS Y = wS (c ρ h) (sq d QS Y) Y := by
  unfold sSeq
  cases c ρ h with
  | stuck => rfl
  | exc c p ρ h => rfl
  | ok f ρ h => cases f <;> rfl
theorem wS_if {t : EM Bool} {a b : SM} : wS (sIf t a b ρ h) QS Y = wE (t ρ h) (fun c h1 => if c = true then wS (a ρ h1) QS Y else wS (b ρ h1) QS Y) (fun c p h1 => Y c p ρ h1) := by
  unfold sIf; rw [wS_bind]; congr; funext c h1; cases c <;> rfl
theorem wS_drop {c : EM D} : wS (sDrop c ρ h) QS Y = wE (c ρ h) (fun _ h1 => QS .next ρ h1) (fun c p h1 => Y c p ρ h1) := by unfold sDrop; rw [wS_bind]; rfl
theorem wS_ret {c : EM D} : wS (sRet c ρ h) QS Y = wE (c ρ h) (fun d h1 => QS (.ret d) ρ h1) (fun c p h1 => Y c p ρ h1) := by unfold sRet; rw [wS_bind]; rfl
theorem wS_retN {c : EM D} : wS (sRetN c ρ h) QS Y = wE (c ρ h) (fun d h1 => QS (.retN d) ρ h1) (fun c p h1 => Y c p ρ h1) := by unfold sRetN; rw [wS_bind]; rfl
theorem wS_retO {i : Nat} : wS (sRetO i ρ h) QS Y = wO (ownAt ρ i) fun d => QS (.retN d) (ρ.set i .un) h := by
  unfold sRetO ownAt
  cases ρ[i]? with
  | none => rfl
  | some c => cases c <;> rfl
theorem wS_set {i : Nat} {c : EM D} : wS (sSet i c ρ h) QS Y = wE (c ρ h) (fun d h1 => QS .next (ρ.set i (.val d)) h1) (fun c p h1 => Y c p ρ h1) := by unfold sSet; rw [wS_bind]; rfl
theorem wS_own {i : Nat} {c : EM D} : wS (sOwn i c ρ h) QS Y = wE (c ρ h) (fun d h1 => QS .next (ρ.set i (.own d)) h1) (fun c p h1 => Y c p ρ h1) := by unfold sOwn; rw [wS_bind]; rfl
/-- a cell of either kind -/
def anyAt (ρ : Env) (i : Nat) : Option D := match ρ[i]? with
  | some (.own d) => some d
  | some (.val d) => some d
  | _ => none
theorem any_0v {d : D} : anyAt (.val d :: ρ) 0 = some d := rfl
theorem any_0o {d : D} : anyAt (.own d :: ρ) 0 = some d := rfl
theorem any_s {c : Cell} {i : Nat} : anyAt (c :: ρ) (i + 1) = anyAt ρ i := rfl
theorem set_same {ρ : Env} {i : Nat} {c : Cell} (h : ρ[i]? = some c) : ρ.set i c = ρ := by
  obtain ⟨hi, e⟩ := List.getElem?_eq_some_iff.mp h
  subst e
  exact List.set_getElem_self hi
theorem wS_frz {i : Nat} : wS (sFrz i ρ h) QS Y = wO (anyAt ρ i) fun d => QS .next (ρ.set i (.val d)) h := by
  unfold sFrz anyAt
  cases e : ρ[i]? with
  | none => rfl
  | some c =>
    cases c with
    | un => rfl
    | own d => rfl
    | val d =>
      show QS .next ρ h = QS .next (ρ.set i (.val d)) h
      rw [set_same e]
theorem wS_tg {c : EM D} {t : TM} : wS (sTg c t ρ h) QS Y = wE (c ρ h) (fun d h1 => wO (t d ρ) fun ρ' => QS .next ρ' h1) (fun c p h1 => Y c p ρ h1) := by
  unfold sTg; rw [wS_bind]; congr; funext d h1; cases t d ρ <;> rfl
theorem wS_par {is : List Nat} {c : EM (List D)} : wS (sPar is c ρ h) QS Y = wE (c ρ h) (fun ds h1 => wO (tgAll (is.map tgV) ds ρ) fun ρ' => QS .next ρ' h1) (fun c p h1 => Y c p ρ h1) := by
  unfold sPar; rw [wS_bind]; congr; funext d h1; cases tgAll (is.map tgV) d ρ <;> rfl
theorem wS_fld {cl : Nat} {f : Str} {c v : EM D} : wS (sFld cl f c v ρ h) QS Y = wE (v ρ h) (fun y h1 => wE (c ρ h1) (fun d h2 => wO (setD cl f d y h2) fun h3 => QS .next ρ h3) (fun c p h1 => Y c p ρ h1)) (fun c p h1 => Y c p ρ h1) := by
  unfold sFld; rw [wS_bind]; congr; funext y h1; rw [wS_bind]; congr; funext d h2; cases setD cl f d y h2 <;> rfl
theorem wS_mut {c : EM Pl} {as : EM (List D)} {f : D → List D → Option D} : wS (sMut c as f ρ h) QS Y = wE (c ρ h) (fun pl h1 => wE (as ρ h1) (fun xs h2 => wO (getP pl ρ h2) fun d => wO (f d xs) fun d' => QS .next (setP pl d' ρ h2).1 (setP pl d' ρ h2).2) (fun c p h1 => Y c p ρ h1)) (fun c p h1 => Y c p ρ h1) := by
  unfold sMut; rw [wS_bind]; congr; funext pl h1; rw [wS_bind]; congr; funext xs h2
  cases getP pl ρ h2 with
  | none => rfl
  | some d => simp only [wO_some]; cases f d xs <;> rfl
theorem wS_put {cv : EM D} {cp : EM Pl} {ci : EM D} {f : D → D → D → Option D} : wS (sPut cv cp ci f ρ h) QS Y = wE (cv ρ h) (fun y h1 => wE (cp ρ h1) (fun pl h2 => wE (ci ρ h2) (fun i h3 => wO (getP pl ρ h3) fun d => wO (f d i y) fun d' => QS .next (setP pl d' ρ h3).1 (setP pl d' ρ h3).2) (fun c p h1 => Y c p ρ h1)) (fun c p h1 => Y c p ρ h1)) (fun c p h1 => Y c p ρ h1) := by
  unfold sPut; rw [wS_bind]; congr; funext y h1; rw [wS_bind]; congr; funext pl h2; rw [wS_bind]; congr; funext i h3
  cases getP pl ρ h3 with
  | none => rfl
  | some d => simp only [wO_some]; cases f d i y <;> rfl
theorem wE_plC {i : Nat} {Q : Pl → Hh → Prop} : wE (plC i ρ h) Q X = wO (ownAt ρ i) fun _ => Q (.cell i) h := by
  unfold plC ownAt
  cases ρ[i]? with
  | none => rfl
  | some c => cases c <;> rfl
theorem wE_plO {c : EM D} {Q : Pl → Hh → Prop} : wE (plO c ρ h) Q X = wE (c ρ h) (fun d h1 => wO (match d with | .obj i => some (.ob i) | _ => none) fun pl => Q pl h1) X := by unfold plO; rw [wE_bind]; congr; funext d h1; exact wE_opt
theorem wE_plChk {f : D → Bool} {c : EM Pl} {Q : Pl → Hh → Prop} : wE (plChk f c ρ h) Q X = wE (c ρ h) (fun pl h1 => wO (getP pl ρ h1) fun d => f d = true ∧ Q pl h1) X := by
  unfold plChk; rw [wE_bind]; congr; funext pl h1
  cases getP pl ρ h1 with
  | none => rfl
  | some d => simp only [wO_some]; cases f d <;> simp [wE]
theorem wS_raise {c : Nat} : wS (sRaise c ρ h) QS Y = Y c .non ρ h := rfl
theorem wS_raiseP {c : Nat} {p : EM (List D)} : wS (sRaiseP c p ρ h) QS Y = wE (p ρ h) (fun ds h1 => wO (match ds with | [d] => some d | _ => none) fun d => Y c d ρ h1) (fun c p h1 => Y c p ρ h1) := by
  unfold sRaiseP; rw [wS_bind]; congr; funext ds h1
  match ds with
  | [] => rfl
  | [d] => rfl
  | _ :: _ :: _ => rfl
theorem wS_try {mt : Nat → Option Bool} {i j : Nat} {body : SM} : wS (sTryK mt i j body ρ h) QS Y = wS (body ρ h) QS (fun c p ρ' h' => wO (mt c) fun b => if b = true then QS .next ((ρ'.set j (.val (.exn c p))).set i .un) h' else Y c p ρ' h') := by
  unfold sTryK
  cases body ρ h with
  | stuck => rfl
  | ok f ρ h => rfl
  | exc c p ρ' h' =>
    show wS (match mt c with | some true => _ | some false => _ | none => _) QS Y = wO (mt c) _
    cases mt c with
    | none => rfl
    | some b => cases b <;> rfl
/-! ### functions -/
def fin (Q : D → Hh → Prop) : Fl → Env → Hh → Prop := fun f _ h => match f with
  | .next => Q .non h
  | .ret d => Q d h
  | .retN d => Q d h
  | _ => False
def finN (Q : D → Hh → Prop) : Fl → Env → Hh → Prop := fun f _ h => match f with
  | .retN d => Q d h
  | _ => False
theorem fin_next {Q : D → Hh → Prop} : fin Q .next ρ h = Q .non h := rfl
theorem fin_ret {Q : D → Hh → Prop} {d : D} : fin Q (.ret d) ρ h = Q d h := rfl
theorem fin_retN {Q : D → Hh → Prop} {d : D} : fin Q (.retN d) ρ h = Q d h := rfl
theorem finN_retN {Q : D → Hh → Prop} {d : D} : finN Q (.retN d) ρ h = Q d h := rfl
theorem wF_fn {n k : Nat} {body : SM} {xs : List D} {Q : D → Hh → Prop} (hl : xs.length = n) (w : wS (body (xs.map .val ++ List.replicate (k - n) .un) h) (fin Q) fun c p _ h1 => X c p h1) : wF (fnM n k body xs h) Q X := by
  unfold fnM
  rw [if_pos hl]
  revert w
  cases body (xs.map .val ++ List.replicate (k - n) .un) h with
  | stuck => exact fun w => w
  | exc c p ρ h => exact fun w => w
  | ok f ρ h => cases f <;> exact fun w => w
theorem wN_fn {n k : Nat} {body : SM} {xs : List D} {Q : D → Hh → Prop} (hl : xs.length = n) (w : wS (body (xs.map .val ++ List.replicate (k - n) .un) h) (finN Q) fun c p _ h1 => X c p h1) : wN (fnM n k body xs h) Q X := by
  unfold fnM
  rw [if_pos hl]
  revert w
  cases body (xs.map .val ++ List.replicate (k - n) .un) h with
  | stuck => exact fun w => w
  | exc c p ρ h => exact fun w => w
  | ok f ρ h => cases f <;> exact fun w => w
end
/-! ### loops -/
section
variable {ρ : Env} {h : Hh}
/-- a for: I i ρ h holds ahead of turn i -/
theorem wS_for {t : TM} {body : SM} {Q : Fl → Env → Hh → Prop} {Y : Nat → D → Env → Hh → Prop} (I : Nat → Env → Hh → Prop) : ∀ {ds : List D} {n : Nat} {ρ : Env} {h : Hh}, I n ρ h →
    (∀ i d ρ h, ds[i]? = some d → I (n + i) ρ h → wO (t d ρ) fun ρ' => wS (body ρ' h) (fun f ρ2 h2 => match f with
      | .next => I (n + i + 1) ρ2 h2
      | .cont => I (n + i + 1) ρ2 h2
      | .brk => Q .next ρ2 h2
      | f => Q f ρ2 h2) Y) →
    (∀ ρ h, I (n + ds.length) ρ h → Q .next ρ h) → wS (sForL t body ds ρ h) Q Y
  | [], n, ρ, h, i0, go, out => out ρ h i0
  | d :: ds, n, ρ, h, i0, go, out => by
    unfold sForL
    have k := go 0 d ρ h rfl i0
    revert k
    cases t d ρ with
    | none => exact fun k => k.elim
    | some ρ' =>
      intro k
      simp only [wO_some] at k
      revert k
      have rest : ∀ ρ2 h2, I (n + 1) ρ2 h2 → wS (sForL t body ds ρ2 h2) Q Y := fun ρ2 h2 i1 => wS_for I i1 (fun i e ρ3 h3 ee i2 => by
          have := go (i + 1) e ρ3 h3 (by simpa using ee) (by rw [show n + (i + 1) = n + 1 + i by omega]; exact i2)
          rw [show n + (i + 1) + 1 = n + 1 + i + 1 by omega] at this
          exact this) fun ρ3 h3 i2 => out ρ3 h3 (by rw [List.length_cons, show n + (ds.length + 1) = n + 1 + ds.length by omega]; exact i2)
      show wS (body ρ' h) _ Y → wS (match body ρ' h with | .ok .next ρ2 h2 => _ | .ok .cont ρ2 h2 => _ | .ok .brk ρ2 h2 => _ | r => r) Q Y
      cases body ρ' h with
      | stuck => exact fun k => k
      | exc c p ρ h => exact fun k => k
      | ok f ρ2 h2 =>
        cases f with
        | next => exact fun k => rest ρ2 h2 k
        | cont => exact fun k => rest ρ2 h2 k
        | brk => exact fun k => k
        | ret d => exact fun k => k
        | retN d => exact fun k => k
theorem wS_forE {it : EM (List D)} {t : TM} {body : SM} {Q : Fl → Env → Hh → Prop} {Y : Nat → D → Env → Hh → Prop} : wS (sFor it t body ρ h) Q Y = wE (it ρ h) (fun ds h1 => wS (sForL t body ds ρ h1) Q Y) (fun c p h1 => Y c p ρ h1) := by unfold sFor; rw [wS_bind]
/-- a while: I m ρ h holds ahead of a turn, m turns more at most -/
theorem wS_while {b : EM Bool} {body : SM} {Q : Fl → Env → Hh → Prop} {Y : Nat → D → Env → Hh → Prop} (I : Nat → Env → Hh → Prop)
    (go : ∀ m ρ h, I m ρ h → wE (b ρ h) (fun c h1 => if c = true then ∃ m', m = m' + 1 ∧ wS (body ρ h1) (fun f ρ2 h2 => match f with
      | .next => I m' ρ2 h2
      | .cont => I m' ρ2 h2
      | .brk => Q .next ρ2 h2
      | f => Q f ρ2 h2) Y else Q .next ρ h1) (fun c p h1 => Y c p ρ h1)) : ∀ {n m : Nat} {ρ : Env} {h : Hh}, m < n → I m ρ h → wS (sWhile b body n ρ h) Q Y
  | 0, m, ρ, h, lt, i => absurd lt (Nat.not_lt_zero _)
  | n + 1, m, ρ, h, lt, i => by
    unfold sWhile
    rw [wS_bind]
    refine (go m ρ h i).imp fun c h1 k => ?_
    cases c with
    | false => exact k
    | true =>
      simp only [if_true] at k ⊢
      obtain ⟨m', rfl, k⟩ := k
      revert k
      show wS (body ρ h1) _ Y → wS (match body ρ h1 with | .ok .next ρ2 h2 => _ | .ok .cont ρ2 h2 => _ | .ok .brk ρ2 h2 => _ | r => r) Q Y
      cases body ρ h1 with
      | stuck => exact fun k => k
      | exc c p ρ h => exact fun k => k
      | ok f ρ2 h2 =>
        cases f with
        | next => exact fun k => wS_while I go (by omega) k
        | cont => exact fun k => wS_while I go (by omega) k
        | brk => exact fun k => k
        | ret d => exact fun k => k
        | retN d => exact fun k => k
/-! ### comprehensions -/
theorem wE_lcE {vs : List Nat} {it : EM (List D)} {t : TM} {tt : EM Bool} {te : EM D} {Q : D → Hh → Prop} {X : XP} : wE (eLc vs it t tt te ρ h) Q X = wE (it ρ h) (fun ds h1 => wE (lcGo t tt te (wipeE ρ vs) ds [] h1) Q X) X := by unfold eLc; rw [wE_bind]
/-- the state ahead of turn i: what is found so far -/
theorem wE_lc {t : TM} {tt : EM Bool} {te : EM D} {Q : D → Hh → Prop} {X : XP} {ρ : Env} (I : Nat → List D → Hh → Prop) : ∀ {ds acc : List D} {n : Nat} {h : Hh}, I n acc h → acc.length ≤ n → n + ds.length ≤ 16777216 →
    (∀ i d acc h, ds[i]? = some d → I (n + i) acc h → wO (t d ρ) fun ρ' => wE (tt ρ' h) (fun b h1 => if b = true then wE (te ρ' h1) (fun y h2 => I (n + i + 1) (acc ++ [y]) h2) noX else I (n + i + 1) acc h1) noX) →
    (∀ acc h, I (n + ds.length) acc h → Q (.lst acc) h) → wE (lcGo t tt te ρ ds acc h) Q X
  | [], acc, n, h, i0, l, z, go, out => out acc h i0
  | d :: ds, acc, n, h, i0, l, z, go, out => by
    unfold lcGo
    have k := go 0 d acc h rfl i0
    rw [List.length_cons] at z
    have rest : ∀ acc' h2, acc'.length ≤ n + 1 → I (n + 1) acc' h2 → wE (lcGo t tt te ρ ds acc' h2) Q X := fun acc' h2 l' i1 => wE_lc I i1 l' (by omega) (fun i e a3 h3 ee i2 => by
          have := go (i + 1) e a3 h3 (by simpa using ee) (by rw [show n + (i + 1) = n + 1 + i by omega]; exact i2)
          rw [show n + (i + 1) + 1 = n + 1 + i + 1 by omega] at this
          exact this) fun ρ3 h3 i2 => out ρ3 h3 (by rw [List.length_cons, show n + (ds.length + 1) = n + 1 + ds.length by omega]; exact i2)
    revert k
    cases t d ρ with
    | none => exact fun k => k.elim
    | some ρ' =>
      intro k
      simp only [wO_some] at k
      revert k
      show wE (tt ρ' h) _ noX → wE (match tt ρ' h with | .ok true h' => _ | .ok false h' => _ | _ => _) Q X
      cases tt ρ' h with
      | stuck => exact fun k => k
      | exc c p h => exact fun k => k.elim
      | ok b h1 =>
        cases b with
        | false => exact fun k => rest acc h1 (by omega) k
        | true =>
          show (if true = true then wE (te ρ' h1) (fun y h2 => I (n + 0 + 1) (acc ++ [y]) h2) noX else I (n + 0 + 1) acc h1) → wE (match te ρ' h1 with | .ok y h2 => _ | _ => _) Q X
          rw [if_pos rfl]
          cases te ρ' h1 with
          | stuck => exact fun k => k
          | exc c p h => exact fun k => k.elim
          | ok y h2 =>
            intro k
            show wE (if acc.length < 16777216 then _ else _) Q X
            rw [if_pos (by omega)]
            exact rest (acc ++ [y]) h2 (by rw [List.length_append, List.length_singleton]; omega) k
/-- of a function of the items alone -/
theorem wE_lcMap {t : TM} {te : EM D} {Q : D → Hh → Prop} {X : XP} {ρ : Env} {h : Hh} {ds : List D} (f : D → D) (hz : ds.length ≤ 16777216)
    (go : ∀ d ∈ ds, wO (t d ρ) fun ρ' => wE (te ρ' h) (fun y h1 => y = f d ∧ h1 = h) noX) (out : Q (.lst (ds.map f)) h) : wE (lcGo t bYes te ρ ds [] h) Q X := by
  refine wE_lc (fun i acc h1 => acc = (ds.take i).map f ∧ h1 = h) (n := 0) ⟨by simp, rfl⟩ (Nat.le_refl _) (by omega) (fun i d acc h1 e ⟨ea, eh⟩ => ?_) fun acc h1 ⟨ea, eh⟩ => ?_
  · subst ea eh
    refine (go d (List.mem_of_getElem? e)).imp fun ρ' k => ?_
    show wE (te ρ' h1) _ noX
    refine k.imp fun y h2 ⟨ey, eh⟩ => ⟨?_, eh⟩
    rw [ey, Nat.zero_add, List.take_succ, e]
    simp
  · subst ea eh
    simpa using out
/-- items that keep a promise, a heap that keeps one -/
theorem wE_lcAll {t : TM} {te : EM D} {Q : D → Hh → Prop} {X : XP} {ρ : Env} {h : Hh} {ds : List D} (J : Nat → Hh → Prop) (P : D → Prop) (hz : ds.length ≤ 16777216) (j0 : J 0 h)
    (go : ∀ i d h, ds[i]? = some d → J i h → wO (t d ρ) fun ρ' => wE (te ρ' h) (fun y h1 => P y ∧ J (i + 1) h1) noX) (out : ∀ ys h, ys.length = ds.length → (∀ y ∈ ys, P y) → J ds.length h → Q (.lst ys) h) : wE (lcGo t bYes te ρ ds [] h) Q X := by
  refine wE_lc (fun i acc h1 => acc.length = i ∧ (∀ y ∈ acc, P y) ∧ J i h1) (n := 0) ⟨rfl, ⟨fun y m => absurd m List.not_mem_nil, j0⟩⟩ (Nat.le_refl _) (by omega) (fun i d acc h1 e ⟨el, ea, ej⟩ => ?_) fun acc h1 ⟨el, ea, ej⟩ => ?_
  · rw [Nat.zero_add] at el ej
    refine (go i d h1 e ej).imp fun ρ' k => ?_
    show wE (te ρ' h1) _ noX
    refine k.imp fun y h2 ⟨py, j2⟩ => ⟨by rw [List.length_append, el, List.length_singleton, Nat.zero_add], fun z m => ?_, by rw [Nat.zero_add]; exact j2⟩
    rcases List.mem_append.mp m with m | m
    · exact ea z m
    · rw [List.mem_singleton.mp m]; exact py
  · rw [Nat.zero_add] at el ej
    exact out acc h1 el ea ej
end
end PV
end

section
set_option Elab.async false
set_option linter.all false
set_option maxRecDepth 100000
set_option maxHeartbeats 2000000
/-! PV.R22: list comprehensions whose step may raise. -/
namespace PV
open PySem L2
open PyProof.Rows hiding St
section
variable {M : Model} {A : Around} {E : Value → Shared → Prop} {s : Shared} {Z : Obj → Prop} {base : Heap} {env : PySem.Env} {outer : List PySem.Env} {L e : Addr}
theorem noteFrame_frame {x : Value} {e1 e2 : PySem.Env} (h : e1.frame = e2.frame) : noteFrame x e1 = noteFrame x e2 := by
  unfold noteFrame PySem.frameOf
  rw [h]
/-- noted by the frame, whatever its flight was before, but this frame's -/
theorem note_any {fl : Value} {Q : Unit → Shared → Prop} (hZ : HandSPX.Steady Z) (hfr : A.frames = some (env :: outer)) (hf : env.frame = some L)
    (x1 : base.StaysIn s.heap) (x2 : base.get? e = none) (x3 : s.heap.FunFrames base (env :: outer)) (x4 : HandSPX.TracedZ s.heap base e Z fl) (hne : (fl == rawInt L) = false)
    (hQ : ∀ h', HandSPX.HeldZ base (env :: outer) e Z L h' → s.heap.UpToSlots h' → Q () { s with heap := h' }) : wpAny M A (noteFrame (.ref e) env) Q E s := by
  obtain ⟨oe, vs, T, oT, ts, he, hz, hd, h1, hnT, hTe, hT, hdT, h3⟩ := x4
  unfold noteFrame
  simp only [hf]
  have q1 : (Value.ref T != Value.none) = true := by simp
  refine wpAny_bind (wpAny_field he hd h1 ?_)
  rw [if_pos q1]
  refine wpAny_bind (wpAny_field hT hdT h3 ?_)
  rw [hne, if_neg Bool.false_ne_true]
  refine wpAny_bind (wpAny_setField hT hdT (Array.getElem?_eq_some_iff.mp h3).1 ?_)
  have oth : ∀ b, b ≠ T → (s.heap.update T (Obj.mapFields (·.setIfInBounds 3 Value.none))).get? b = s.heap.get? b := fun b q => Heap.get?_update_other _ _ (Ne.symm q)
  have nrec : ∀ b o, s.heap.get? b = some o → (∀ us, o.data ≠ .fields us) → b ≠ T := fun b o q5 q2 q => by
    rw [q, hT] at q5
    cases q5
    exact q2 ts hdT
  refine HandSPX.wpAny_entryZ hZ hfr (x3.of_keeps fun b o q1 q2 => ⟨o, (oth b (nrec b o q1 q2)).trans q1, rfl⟩) hf ((oth e (Ne.symm hTe)).trans he)
    (fun b o q => (oth b fun z => by rw [z, hnT] at q; cases q).trans (x1 b o q)) x2 hd (Array.getElem?_eq_some_iff.mp h1).1 hz fun h' hN => ?_
  obtain ⟨y1, y2, y3, y4⟩ := hN
  exact hQ h' ⟨y1, x2, y2, y3⟩ fun b o q1 q2 => y4 b o ((oth b (nrec b o q1 q2)).trans q1) q2
theorem rawInt_ne {C L : Addr} (h : C ≠ L) : (rawInt C == rawInt L) = false := by
  cases q : rawInt C == rawInt L with
  | false => rfl
  | true =>
    have e : rawInt C = rawInt L := beq_iff_eq.mp q
    unfold rawInt at e
    injection e with e1 e2
    exact absurd (Int.ofNat.inj e1) h
theorem Sky.note {B : Heap} {a C : Addr} {Q : Unit → Shared → Prop} (hZ : HandSPX.Steady Z) (hfr : A.frames = some (env :: outer)) (hf : env.frame = some L) (hC : C ≠ L) (x : Sky B (env :: outer) a Z C s.heap)
    (hQ : ∀ h', HandSPX.HeldZ B (env :: outer) a Z L h' → s.heap.UpToSlots h' → Q () { s with heap := h' }) : wpAny M A (noteFrame (.ref a) env) Q E s := by
  rcases x with ⟨hB, hn, hl, oe, vs, he, hz, hd, h1⟩ | ⟨f1, f2, f3, f4⟩ | ⟨f1, f2, f3, f4⟩
  · exact HandSPX.look_newZ hZ hfr hl hf he hB hn hd h1 hz hQ
  · exact note_any hZ hfr hf f1 f2 f3 f4 (by simp [rawInt]) hQ
  · exact note_any hZ hfr hf f1 f2 f3 f4 (rawInt_ne hC) hQ
theorem funFrames_but {base B h h' : Heap} {C : Addr} (sb : ∀ b, b ≠ C → h'.get? b = h.get? b) (hC : ∃ o, base.get? C = some o) (sub : ∀ b, base.get? b = none → B.get? b = none) : ∀ {l : List PySem.Env}, h.FunFrames base l → h'.FunFrames B l
  | [], _ => trivial
  | env :: l, ⟨hk, ⟨L, o, hf, hb, ho, hd⟩, hr⟩ => by
    refine ⟨hk, ⟨L, o, hf, sub L hb, ?_, hd⟩, funFrames_but sb hC sub hr⟩
    rw [sb L fun z => by obtain ⟨o', q⟩ := hC; rw [← z, hb] at q; cases q]
    exact ho
/-- the block's names forgotten -/
theorem Held.drop {B h h' : Heap} {l : List PySem.Env} {a C : Addr} (x : HandSPX.HeldZ B l a Z L h) (hC : ∃ o, B.get? C = some o) (sb : ∀ b, b ≠ C → h'.get? b = h.get? b) :
    ∃ B' : Heap, (∀ b, b ≠ C → B'.get? b = B.get? b) ∧ B'.get? C = none ∧ HandSPX.HeldZ B' l a Z L h' := by
  obtain ⟨G, g1, g2⟩ := restrict B fun b => decide (b ≠ C)
  have k1 : ∀ b, b ≠ C → G.get? b = B.get? b := fun b hb => g1 b (by simp [hb])
  have k2 : G.get? C = none := g2 C (by simp)
  have sub : ∀ b, B.get? b = none → G.get? b = none := fun b q => by
    by_cases z : b = C
    · rw [z]; exact k2
    · rw [k1 b z]; exact q
  obtain ⟨f1, f2, f3, oe, vs, T, oT, ts, he, hz, hd, h1, hnT, hTe, hT, hdT, h3⟩ := x
  have nC : ∀ {b}, B.get? b = none → b ≠ C := fun q z => by obtain ⟨o, r⟩ := hC; rw [← z, q] at r; cases r
  refine ⟨G, k1, k2, fun b o q => ?_, sub a f2, funFrames_but sb hC sub f3, oe, vs, T, oT, ts, (sb a (nC f2)).trans he, hz, hd, h1, sub T hnT, hTe, (sb T (nC hnT)).trans hT, hdT, h3⟩
  have z : b ≠ C := fun z => by rw [z, k2] at q; cases q
  rw [k1 b z] at q
  rw [sb b z]
  exact f1 b o q
end
/-! ### a comprehension, what an exception leaves told -/
section
variable {M : Model} {A : Around} {E : Value → Shared → Prop} {s : Shared} {env : PySem.Env}
def cpX (M : Model) (A : Around) (E : Value → Shared → Prop) (use : Option (Value → Sem Unit)) (Q : Value → Shared → Prop) (fr : Option Addr) (acc : Value) (C : Addr) : Result → Shared → Prop
  | .ok f, s' => compPost M A E use Q acc C (.ok f) s'
  | .error x, s' => ∃ m, s'.heap.Ns C m ∧ ∀ h', Heap.SameBut C s'.heap h' → ∀ ce : PySem.Env, ce.locals = C → ce.frame = fr →
      wpAny M A (passOn "comprehension.variables-let-go" x ce : Sem Value) (fun _ _ => False) E { s' with heap := h' }
theorem wp_compX {e : Expr} {scope : Scope} {pos : Pos} {na first : Sem Value} {g : Comprehension} {gs : List Comprehension} {cl : List (Str × Addr)} {use : Option (Value → Sem Unit)} {Q : Value → Shared → Prop} {fr : Option Addr}
    (c1 : clausesOf e = g :: gs) (c2 : ∀ x, foldedSetIterable g.iter env x = pure x) (c3 : closureFor scope env = pure cl) (c4 : scope.kind = .function) (c5 : ∀ x ∈ scope.names, x.2 = .local → scope.names.lookup x.1 = some .local)
    (h : wpAny M A first (fun x s1 => wpAny M A (pyIter x) (fun it s2 => wpAny M A na (fun acc s3 => wpAny M A (newFunctionEnv scope env.globals cl [] env.qual none .none (some env)) (fun ce s4 =>
        ce.frame = fr ∧ codeAny M A (.compStart e 0 it acc { ce with scope := relabel scope env }) (cpX M A E use Q fr acc ce.locals) s4) E s3) E s2) E s1) E s) :
    wpAny M A (comprehension e scope env pos na false first use) Q E s := by
  unfold comprehension
  rw [c3, c1]
  refine wpAny_bind (wpAny_mono h (fun x s1 h1 => ?_) fun _ _ z => z)
  refine wpAny_bind (wpAny_standAt (wpAny_bind (wpAny_of_eq (c2 x) (wpAny_bind (wpAny_holding (wpAny_mono h1 (fun it s2 h2 => ?_) fun _ _ z => z))))))
  refine wpAny_standIf (wpAny_bind (wpAny_mono h2 (fun acc s3 h3 => wpAny_bind (wpAny_pure (wpAny_bind (wpAny_mono h3 (fun ce s4 h4 => ?_) fun _ _ z => z)))) fun _ _ z => z))
  obtain ⟨hfr, h4⟩ := h4
  dsimp only
  generalize hvs : (scope.names.filter fun x => (x.2 == .local || x.2 == .cell) && x.1 != (".0" : Str)).reverse = vs
  have m1 : ∀ x ∈ vs, x.2 = .local → Env.kindOf { ce with scope := relabel scope env } x.1 = some .local := fun x hx hl => by
    rw [← hvs] at hx
    exact lookup_relabel_local (c5 x (List.mem_filter.mp (List.mem_reverse.mp hx)).1 hl)
  have m2 : ∀ x ∈ vs.drop 1 ++ vs.take 1, x.2 = .local → Env.kindOf { ce with scope := relabel scope env } x.1 = some .local := fun x hx hl => by
    rcases List.mem_append.mp hx with z | z
    · exact m1 x (List.mem_of_mem_drop z) hl
    · exact m1 x (List.mem_of_mem_take z) hl
  refine wpAny_holding (wpAny_bind (wpAny_attempt (wpAny_holding (wpAny_run (codeAny_mono h4 fun r s' hr => ?_)))))
  cases r with
  | ok f =>
    cases use with
    | none =>
      obtain ⟨m, hn, hr⟩ := hr
      exact wpAny_bind (wpAny_holding (wpAny_comp_letGo (cenv := { ce with scope := relabel scope env }) c4 _ s' m m1 hn fun h' m' _ hs' => wpAny_pure (hr h' hs')))
    | some u =>
      refine wpAny_bind (wpAny_rule (wpAny_bind (wpAny_holding (wpAny_mono hr (fun _ s6 k6 => ?_) fun _ _ z => z))))
      obtain ⟨m, hn, k7⟩ := k6
      exact wpAny_bind (wpAny_comp_letGo (cenv := { ce with scope := relabel scope env }) c4 _ s6 m m2 hn fun h' m' _ hs' => wpAny_pure (k7 h' hs'))
  | error x =>
    obtain ⟨m, hn, hr⟩ := hr
    exact wpAny_bind (wpAny_holding (wpAny_comp_letGo (cenv := { ce with scope := relabel scope env }) c4 _ s' m m1 hn fun h' m' _ hs' => wpAny_mono (hr h' hs' { ce with scope := relabel scope env } rfl hfr) (fun _ _ f => f.elim) fun _ _ z => z))
end
/-! ### an exception leaves the block -/
section
variable {X : Cx} {pins : List (Addr × Obj)} {σ : L2.St} {H3 : Hp} {s3 : Shared} {fp : List Addr} {scope : Scope} {ce : PySem.Env} {W W' : WX} {use : Option (Value → Sem Unit)} {Qf : Value → Shared → Prop} {acc : Value}
/-- what the block's exceptions are to meet -/
abbrev blkE (X : Cx) (ce : PySem.Env) (use : Option (Value → Sem Unit)) (Qf : Value → Shared → Prop) (acc : Value) (C : Addr) : Value → Shared → Prop :=
  notedBy (model X.prog X.w) X.A ce fun e s'' => cpX (model X.prog X.w) X.A X.xe use Qf X.env.frame acc C (.error e) s''
theorem blk_takes (hs : X.stack = X.env :: X.outer) (hf : X.env.frame = some X.env.locals) (tk : Takes X W) (I3 : Inv X pins σ H3 s3) (f3 : ∀ b ∈ fp, FpOk X pins H3 b ∧ b < s3.heap.objs.size)
    (cL : ce.locals = s3.heap.objs.size) (cF : ce.frame = X.env.frame) (hW : ∀ cls d σ' H', W' cls d σ' H' → W cls d σ H') :
    Takes ((X.blk s3 H3 scope ce fp).wish (blkE X ce use Qf acc s3.heap.objs.size)) W' := by
  rintro u s' ⟨a, B, sI, pins', σ', H', cls, d, rfl, I, nb, up, sky, na, os, ag, w⟩
  have I1 := I.unwish
  generalize hC : s3.heap.objs.size = C at cL ⊢
  have hCL : C ≠ X.env.locals := by
    rw [← hC]; exact Nat.ne_of_gt I3.lt
  have hCs : C ∉ frs X.stack := fun hm => by
    obtain ⟨_, o, e, _⟩ := I3.stack.mem hm
    have := Heap.lt_size e
    rw [hC] at this
    exact Nat.lt_irrefl _ this
  obtain ⟨m, hn, _⟩ := I1.loc
  have hn : sI.heap.Ns ce.locals m := hn
  rw [cL] at hn
  obtain ⟨oC, es, ep, ho, hr⟩ := hn
  have hB : B.get? C = some oC := nb C oC ho hCs
  have nC : H' C = none := by
    have z : H' ce.locals = none := I1.free
    rwa [cL] at z
  have hfr : X.A.frames = some (X.env :: X.outer) := by rw [I3.ok.frames, hs]
  have sky : Sky B X.stack a (Zc cls d) ce.locals s'.heap := sky
  rw [hs, cL] at sky
  show wpAny _ X.A (noteFrame (.ref a) ce) _ _ s'
  rw [noteFrame_frame cF]
  refine Sky.note Zc.steady hfr hf hCL sky fun h1 held up1 => ?_
  refine ⟨m, ⟨oC, es, ep, held.1 C oC hB, hr⟩, fun h2 sb ce' _ hce => ?_⟩
  obtain ⟨B', k1, k2, held2⟩ := Held.drop held ⟨oC, hB⟩ sb.2
  have tr := held2.2.2.2
  obtain ⟨oe, vs, T, oT, ts, he, hz, hd, hv1, _⟩ := tr
  unfold PySem.passOn
  refine wpAny_bind (wpAny_field he hd hv1 ?_)
  rw [if_neg (show ¬ ((Value.ref T == Value.none) = true) from by simp)]
  refine wpAny_bind ?_
  rw [hce, hf]
  refine HandSPX.setFlight_onZ held2 fun h3 held3 up3 => wpAny_throw ?_
  obtain ⟨G, g1, g2⟩ := restrict sI.heap fun b => decide (b ≠ C)
  have G1 : ∀ b, b ≠ C → G.get? b = sI.heap.get? b := fun b hb => g1 b (by simp [hb])
  have G2 : G.get? C = none := g2 C (by simp)
  have Gn : ∀ {b o}, G.get? b = some o → b ≠ C := fun q z => by rw [z, G2] at q; cases q
  have I7 : Inv X pins σ H' sI := I3.call' (ch := fp) I1.os I1.base I1.hok I1.bare fun b hb => ⟨(f3 b hb).1.2.2.2.1, (f3 b hb).1.2.1, (f3 b hb).1.2.2.2.2.1, (f3 b hb).1.2.2.2.2.2⟩
  obtain ⟨f0, f1, f2, f4, f5, f6⟩ := I3.fpOk (b := C) (H' := H') (Nat.le_of_eq hC) nC
  have I8 := I7.turned (h' := G) (t' := sI.toks) (it := C) (fun b o hb e => by rw [G1 b hb]; exact e) f0 f1 f4 f5 f6
  refine tk _ _ ⟨a, B', _, pins, σ, H', cls, d, rfl, I8, fun b o e hb => ?_, fun b o e hnf => ?_, ?_, na, os, ag, hW _ _ _ _ w⟩
  · have zb := Gn e
    have e' : sI.heap.get? b = some o := by rw [← G1 b zb]; exact e
    rw [k1 b zb]
    exact nb b o e' hb
  · have e : G.get? b = some o := e
    have zb := Gn e
    have e' : sI.heap.get? b = some o := by rw [← G1 b zb]; exact e
    obtain ⟨sl, q⟩ := (up.trans up1) b o e' hnf
    rw [← sb.2 b zb] at q
    obtain ⟨sl3, q3⟩ := up3 b { o with slots := sl } q hnf
    exact ⟨sl3, q3⟩
  · rw [hs]
    exact .inr (.inr held3)
end
/-! ### the walk -/
section
variable {X : Cx} {elt tg iter : Expr} {ifs : List Expr} {scope : Scope} {own : List (Str × Nat)} {pos pos' : Pos} {wi : TI} {g : TG} {tt : TT} {te : TE} {W W' : WX}
/-- the context of a block whose exceptions are wished for -/
abbrev bl (X : Cx) (s : Shared) (H : Hp) (scope : Scope) (ce : PySem.Env) (fp : List Addr) (E : Value → Shared → Prop) : Cx := (X.blk s H scope ce fp).wish E
theorem lcx_core {pins : List (Addr × Obj)} {s : Shared} {σ : L2.St} {H : Hp} {Q : VK} {use : Option (Value → Sem Unit)} {Qf : Value → Shared → Prop} (cm : X.calm = true) (nd : X.N.Nodup) (hst : X.stack = X.env :: X.outer) (hfm : X.env.frame = some X.env.locals)
    (I : Inv X pins σ H s) (pi : PI X tg iter wi) (bo : BlkOk X.N X.env.scope scope own) (tk : Takes X W) (hW : ∀ cls d σ' H', W' cls d σ' H' → W cls d σ H')
    (Pg : ∀ s H C cl fp E, PG (bl X s H scope (compEnvC scope cl C X.env) fp E) tg g) (Pt : ∀ s H C cl fp E, PTs (bl X s H scope (compEnvC scope cl C X.env) fp E) ifs tt)
    (Pe : ∀ s H C cl fp E, Takes (bl X s H scope (compEnvC scope cl C X.env) fp E) W' → PE (bl X s H scope (compEnvC scope cl C X.env) fp E) elt te) (fs : ∀ x, foldedSetIterable iter X.env x = pure x)
    (k : tLc wi g tt te (own.map (·.2)) σ H Q)
    (fin : ∀ D C s' m H', Inv X pins σ H' s' → Q (.ref D) H' → s'.heap.Ns C m → FpOk X pins H' C → compPost (model X.prog X.w) X.A X.xe use Qf (.ref D) C (.ok .next) s') :
    wpAny (model X.prog X.w) X.A (comprehension (.ListComp elt [⟨tg, iter, ifs, 0⟩] scope pos) scope X.env pos' (newList []) false (eval iter X.env) use) Qf X.xe s := by
  have fr : ∀ y ∈ scope.names, y.2 = .free → ∃ c, X.env.cells.lookup y.1 = some c := fun y hy e => by
    rcases bo.free y hy e with z | z
    · exact I.ok.has _ (.inl z)
    · exact I.ok.has _ (.inr z)
  refine wp_compX (use := use) (fr := X.env.frame) rfl fs (closure_ok fr) bo.kind (fun y hy e => by rw [bo.uniq y hy, e]) (thn (pi.run pins s σ H _ I k) fun xv s1 hx => thn hx fun itv s2 h2 => ?_)
  obtain ⟨it, fp, tn, J, H2, e, I2, T, st2, f2, q⟩ := h2
  subst e
  refine wpAny_newObj_type (newEnv_comp ?_) (by show 0 ≤ sizeLine; decide)
  refine ⟨rfl, ?_⟩
  generalize hD : s2.heap.objs.size = D
  obtain ⟨Wm, ⟨m0, w0⟩, turn⟩ := q D (I2.hok.fresh (Nat.le_of_eq hD))
  generalize hs3 : ({ s2 with heap := s2.heap.push { cls := .type "list", data := .seq ([] : List Value).toArray } } : Shared) = s3
  have I3 : Inv X pins σ (upd H2 D (.lst [])) s3 := by
    subst hs3
    refine I2.laid (t' := s2.toks) (fun b o e => Heap.get?_push_of_some _ e) (Nat.le_of_eq hD) ⟨Nat.zero_le _, [], 0, .nil, ?_⟩
    rw [← hD]
    exact Heap.get?_push_size _ rfl
  have h3 : s3.heap = s2.heap.push { cls := .type "list", data := .seq ([] : List Value).toArray } := by rw [← hs3]
  have f3 : ∀ b ∈ fp, FpOk X pins (upd H2 D (.lst [])) b ∧ b < s3.heap.objs.size := fun b hb => by
    obtain ⟨o, e, _⟩ := T.obj _ _ st2 b hb
    have lt := Heap.lt_size e
    refine ⟨⟨?_, (f2 b hb).2⟩, by rw [h3, Heap.size_push]; exact Nat.lt_succ_of_lt lt⟩
    rw [upd_ne (by rw [← hD]; exact Nat.ne_of_lt lt)]
    exact (f2 b hb).1
  have st3 : tn 0 s3.heap := T.keep _ _ _ st2 fun b _ o e => by rw [h3]; exact Heap.get?_push_of_some _ e
  have I4 := (block_start I3 bo nd f3)
  generalize hcl : cellsFrom (s3.heap.objs.size + 1) scope.names (cloFrom X.env.cells scope.names []) = cl at I4
  generalize hEx : blkE X (compEnvC scope cl s3.heap.objs.size X.env) use Qf (.ref D) s3.heap.objs.size = Ex
  have tkb := blk_takes (scope := scope) (use := use) (Qf := Qf) (acc := .ref D) (ce := compEnvC scope cl s3.heap.objs.size X.env) hst hfm tk I3 f3 rfl rfl hW
  rw [hEx] at tkb
  have pg := Pg s3 (upd H2 D (.lst [])) s3.heap.objs.size cl fp Ex
  have pt := Pt s3 (upd H2 D (.lst [])) s3.heap.objs.size cl fp Ex
  have pe := Pe s3 (upd H2 D (.lst [])) s3.heap.objs.size cl fp Ex tkb
  have I4 := I4.wish Ex
  show codeAny _ _ (.compStart (.ListComp elt [⟨tg, iter, ifs, 0⟩] scope pos) 0 (.ref it) (.ref D) (compEnvC scope cl s3.heap.objs.size X.env)) (cpX (model X.prog X.w) X.A X.xe use Qf X.env.frame (.ref D) s3.heap.objs.size) { s3 with heap := pushCells (s3.heap.push { cls := .type "dict", data := .dict #[] }) scope.names }
  have nfp : ∀ b ∈ fp, (upd H2 D (.lst [])) b = none := fun b hb => (f3 b hb).1.1
  generalize hce : compEnvC scope cl s3.heap.objs.size X.env = ce at I4 pg pt pe hEx ⊢
  have cL : ce.locals = s3.heap.objs.size := by subst hce; rfl
  generalize hH3 : upd H2 D (.lst []) = H3 at I3 I4 pg pt pe w0 nfp f3
  generalize hs4 : ({ s3 with heap := pushCells (s3.heap.push { cls := .type "dict", data := .dict #[] }) scope.names } : Shared) = s4 at I4 ⊢
  have st4 : tn 0 s4.heap := T.keep _ _ _ st3 fun b _ o e => by rw [← hs4]; exact pushCells_keeps _ _ _ _ (Heap.get?_push_of_some _ e)
  have stat : ∀ {σ' : L2.St} {H' : Hp} {s' : Shared}, Inv (bl X s3 H3 scope ce fp Ex) [] σ' H' s' → (∀ b ∈ fp, H' b = none) → ∀ b ∈ fp, FpOk (bl X s3 H3 scope ce fp Ex) [] H' b := fun {σ' H' s'} I' hn b hb =>
    ⟨hn b hb, (I'.ok.exf b hb).1, I'.ok.exfs b hb, .inl hb, fun x c e => (I'.ok.exf b hb).2 x c e, fun p hp => absurd (show p ∈ ([] : List (Addr × Obj)) ++ [] from hp) (by simp)⟩
  have loop : codeAny (model X.prog X.w) X.A (.compLoop (.ListComp elt [⟨tg, iter, ifs, 0⟩] scope pos) 0 (.ref it) (.ref D) ce) (cpX (model X.prog X.w) X.A X.xe use Qf X.env.frame (.ref D) s3.heap.objs.size) s4 := by
    refine compLoop_any (fun n s' => ∃ i H', Inv (bl X s3 H3 scope ce fp Ex) [] (L2.wipe σ (own.map (·.2))) H' s' ∧ tn i s'.heap ∧ (∀ b ∈ fp, H' b = none) ∧ Wm i n H') ?_ m0 ⟨0, H3, I4, st4, nfp, w0⟩
    rintro n s5 ⟨i, H5, I5, st5, n5, w5⟩
    rcases turn i n H5 w5 with ⟨stop, qq⟩ | ⟨go, Nx, hNx, step⟩
    · refine thnF (T.done (bl X s3 H3 scope ce fp Ex) rfl rfl rfl cm i [] s5 _ H5 (fun _ _ => False) I5 (stat I5 n5) st5 stop) fun r s6 ⟨hr, I6⟩ => ?_
      subst hr
      have I7 : Inv X pins σ H5 s6 := I3.call' (ch := fp) I6.os I6.base I6.hok I6.bare fun b hb => ⟨(f3 b hb).1.2.2.2.1, (f3 b hb).1.2.1, (f3 b hb).1.2.2.2.2.1, (f3 b hb).1.2.2.2.2.2⟩
      have nC : H5 s3.heap.objs.size = none := by
        have z : H5 ce.locals = none := I6.free
        rwa [cL] at z
      obtain ⟨m, hn, _⟩ := I6.loc
      have hn : s6.heap.Ns ce.locals m := hn
      rw [cL] at hn
      exact fin D s3.heap.objs.size s6 m H5 I7 qq hn (I3.fpOk (Nat.le_refl _) nC)
    · refine thnF (T.item (bl X s3 H3 scope ce fp Ex) rfl rfl rfl cm i [] s5 _ H5 (fun _ _ => False) I5 (stat I5 n5) st5 go) fun r s6 ⟨u, hr, h6⟩ => ?_
      subst hr
      refine thnF h6 fun _ s7 ⟨x, H7, I7, r7, y7, st7, n7⟩ => ?_
      have I7' := I7.pinned (stat I7 n7) (T.obj _ _ st7)
      have note : ∀ e s', Ex e s' → notedBy (model X.prog X.w) X.A ce (fun e s' => cpX (model X.prog X.w) X.A X.xe use Qf X.env.frame (.ref D) s3.heap.objs.size (.error e) s') e s' := fun e s' z => by
        rw [← hEx] at z; exact z
      refine wpAny_mono (pg.run _ s7 _ H7 x u _ I7' r7 (step x H7 y7)) (fun _ s8 ⟨σ8, H8, I8, hw8, q8⟩ => ?_) note
      refine wpAny_mono (pt.run _ s8 σ8 H8 _ I8 q8) (fun b s9 ⟨H9, I9, q9⟩ => ?_) note
      have done : ∀ {s' : Shared} {H' : Hp}, Inv (bl X s3 H3 scope ce fp Ex) ([] ++ pinsAt fp s7.heap) σ8 H' s' → Nx H' → ∃ m, m < n ∧ ∃ i H', Inv (bl X s3 H3 scope ce fp Ex) [] (L2.wipe σ (own.map (·.2))) H' s' ∧ tn i s'.heap ∧ (∀ b ∈ fp, H' b = none) ∧ Wm i m H' := fun {s' H'} I' nx => by
        obtain ⟨m', hm, w'⟩ := hNx H' nx
        have pin' : ∀ b ∈ fp, ∀ o, s7.heap.get? b = some o → s'.heap.get? b = some o ∧ H' b = none := fun b hb o e =>
          let z := I'.pin (b, o) (List.mem_append_right _ (List.mem_append_right _ (mem_pinsAt hb e)))
          ⟨z.1, z.2.1⟩
        have hl : (L2.wipe σ (own.map (·.2))).length = σ8.length := by rw [← hw8, L2.wipe_length]
        refine ⟨m', hm, i + 1, H', (I'.unpinned (pins := [])).weak hl (fun j v e => ?_), T.keep _ _ _ st7 fun b hb o e => (pin' b hb o e).1, fun b hb => ?_, w'⟩
        · rw [← hw8] at e
          exact (wipe_some e).1
        · obtain ⟨o, e, _⟩ := T.obj _ _ st7 b hb
          exact (pin' b hb o e).2
      cases b with
      | false =>
        simp only [Bool.false_eq_true, if_false] at q9 ⊢
        exact done I9 q9
      | true =>
        simp only [if_true] at q9 ⊢
        refine wpAny_mono (pe.run _ s9 σ8 H9 _ I9 q9) (fun z s10 ⟨yv, H10, I10, r10, acc, hD10, hz10, nx⟩ => ?_) note
        exact app_ok (X := bl X s3 H3 scope ce fp Ex) I10 hD10 hz10 r10 fun s11 I11 => done I11 nx
  exact codeAny_compStart_list loop (T.self X.A 0 _ _ _ st4 loop)
theorem pe_lcx {te : L2.St → TE} (cm : X.calm = true) (nd : X.N.Nodup) (hst : X.stack = X.env :: X.outer) (hfm : X.env.frame = some X.env.locals) (pi : PI X tg iter wi) (bo : BlkOk X.N X.env.scope scope own) (tk : Takes X W)
    (Pg : ∀ s H C cl fp E, PG (bl X s H scope (compEnvC scope cl C X.env) fp E) tg g) (Pt : ∀ s H C cl fp E, PTs (bl X s H scope (compEnvC scope cl C X.env) fp E) ifs tt)
    (Pe : ∀ σ s H C cl fp E, Takes (bl X s H scope (compEnvC scope cl C X.env) fp E) (fun cls d _ H => W cls d σ H) → PE (bl X s H scope (compEnvC scope cl C X.env) fp E) elt (te σ)) (fs : ∀ x, foldedSetIterable iter X.env x = pure x) :
    PE X (.ListComp elt [⟨tg, iter, ifs, 0⟩] scope pos) (fun σ H Q => tLc wi g tt (te σ) (own.map (·.2)) σ H Q) := by
  refine ⟨fun pins s σ H Q I k => ?_⟩
  rw [eval_ListComp]
  refine lcx_core cm nd hst hfm I pi bo tk (fun _ _ _ _ z => z) Pg Pt (Pe σ) fs k fun D C s' m H' I' q hn f => ⟨m, hn, fun h'' sb => ?_⟩
  obtain ⟨f0, f1, f2, f3, f4, f5⟩ := f
  exact ⟨.ref D, H', I'.turned (t' := s'.toks) (fun b o hb e => (sb.2 b hb).trans e) f0 f1 f3 f4 f5, rfl, q⟩
theorem ps_setLcx {i : Nat} {y : Str} {py spos : Pos} {te : L2.St → TE} (cm : X.calm = true) (nd : X.N.Nodup) (hst : X.stack = X.env :: X.outer) (hfm : X.env.frame = some X.env.locals) (hy : X.N[i]? = some y) (hyl : X.env.scope.names.lookup y = some .local)
    (hsw : swapsWith (.ListComp elt [⟨tg, iter, ifs, 0⟩] scope pos) (some (.Name y py)) spos.line X.env = pure true) (pi : PI X tg iter wi) (bo : BlkOk X.N X.env.scope scope own) (tk : Takes X W)
    (Pg : ∀ s H C cl fp E, PG (bl X s H scope (compEnvC scope cl C X.env) fp E) tg g) (Pt : ∀ s H C cl fp E, PTs (bl X s H scope (compEnvC scope cl C X.env) fp E) ifs tt)
    (Pe : ∀ σ s H C cl fp E, Takes (bl X s H scope (compEnvC scope cl C X.env) fp E) (fun cls d _ H => W cls d σ H) → PE (bl X s H scope (compEnvC scope cl C X.env) fp E) elt (te σ)) (fs : ∀ x, foldedSetIterable iter X.env x = pure x) :
    PS X (.Assign [.Name y py] (.ListComp elt [⟨tg, iter, ifs, 0⟩] scope pos) spos) (tAsg (fun σ H Q => tLc wi g tt (te σ) (own.map (·.2)) σ H Q) (gName i)) := by
  refine ⟨fun pins s σ H D I k => ?_⟩
  rw [exec_Assign_Name_used _ _ _ _ hsw]
  refine wpAny_bind (wpAny_standAt (wpAny_bind ?_))
  show wpAny _ X.A (do let _ ← comprehension (.ListComp elt [⟨tg, iter, ifs, 0⟩] scope pos) scope X.env (firstIterPos [⟨tg, iter, ifs, 0⟩] pos) (newList []) false (eval iter X.env) (some (assign (.Name y py) X.env))) _ _ s
  have k : tLc wi g tt (te σ) (own.map (·.2)) σ H (fun x H1 => gName i x σ H1 D.nx) := k
  refine wpAny_bind (thn (lcx_core (Qf := fun _ s' => SP X pins D .next s') cm nd hst hfm I pi bo tk (fun _ _ _ _ z => z) Pg Pt (Pe σ) fs k fun L C s' m H' I' q hn f => ?_) fun _ s' hq => wpAny_pure (wpAny_pure hq))
  show wpAny _ _ (assign (.Name y py) X.env (.ref L)) _ _ _
  refine wpAny_assign_Name (store_ok2 (v := V.ref L) I' nd hy (.inl hyl) rfl (fun s2 I2 ⟨a, sb, ha⟩ => ?_) (.inr hyl))
  obtain ⟨f0, f1, f2, f3, f4, f5⟩ := f
  have haC : C ≠ a := by
    rcases ha with z | z
    · rw [z]; exact f1
    · exact fun e => f4 y a z e.symm
  refine ⟨m, hn.sameBut sb haC, fun h3 sb3 => ?_⟩
  exact ⟨_, H', I2.turned (t' := s2.toks) (fun b o hb e => (sb3.2 b hb).trans e) f0 f1 f3 f4 f5, q⟩
end
/-! ### by value -/
def lcGoX (t : TM) (tt : EM Bool) (te : EM D) (ρ : Env) : List D → List D → Hh → ER D
  | [], acc, h => .ok (.lst acc) h
  | d :: ds, acc, h => match t d ρ with
    | none => .stuck
    | some ρ' => match tt ρ' h with
      | .ok true h' => match te ρ' h' with
        | .ok y h2 => if acc.length < 16777216 then lcGoX t tt te ρ ds (acc ++ [y]) h2 else .stuck
        | .exc c p h2 => .exc c p h2
        | .stuck => .stuck
      | .ok false h' => lcGoX t tt te ρ ds acc h'
      | _ => .stuck
def eLcX (vs : List Nat) (it : EM (List D)) (t : TM) (tt : EM Bool) (te : EM D) : EM D := eBind it fun ds ρ h => lcGoX t tt te (wipeE ρ vs) ds [] h
def LcX (G : Gx) (W : WX) (P' : Hp) (w1 : Wd) (ρw : Env) (σw : L2.St) (t : TM) (tt : EM Bool) (te : EM D) (ds : List D) (D0 : Addr) (K' : D → Wd → Hh → Hp → Prop) (P : Hp) (ρ : Env) (σ : L2.St) (i : Nat) (H : Hp) : Prop :=
  ∃ w' h' acc av, w1.le w' ∧ StR G (upd P' D0 (.lst av)) w' ρw h' σw H ∧ Reps G w' acc av ∧ av.length ≤ sizeLine ∧ EPost G W P w' ρ σ (lcGoX t tt te ρw (ds.drop i) acc h') K'
section
variable {X : Cx} {ca : Nat → Addr} {W : WX} {tg iter e : Expr} {it : EM (List D)} {t : TM} {tv : List Nat} {pos : Pos} {tt : EM Bool} {te : EM D} {sl : List Nat} {elt : Expr} {ifs : List Expr} {scope : Scope} {own : List (Str × Nat)}
theorem lcx_turn {G : Gx} {P : Hp} {w1 : Wd} {ρ : Env} {h1 : Hh} {σ : L2.St} {H1 : Hp} {ds : List D} {J : It} {Q : VK} {vs : List Nat} (s1 : StR G P w1 ρ h1 σ H1) (ok : IterOk G w1 ρ σ sl ds J) (hsl : ∀ i ∈ sl, i ∉ vs) (htv : ∀ i ∈ tv, i ∈ vs) (off : ∀ d ρ ρ', t d ρ = some ρ' → OffE tv ρ ρ')
    (k1 : EPost G W P w1 ρ σ (lcGoX t tt te (wipeE ρ vs) ds [] h1) fun d w' _ H' => ∀ a, NewAt G P w' ρ σ d a H' → Q (.ref a) H') :
    ∀ D0, H1 D0 = none → ∃ Wf : Nat → Nat → Hp → Prop, (∃ m, Wf 0 m (upd H1 D0 (.lst []))) ∧ ∀ i m H, Wf i m H →
      (J.stop i H ∧ Q (.ref D0) H) ∨ (J.go i H ∧ ∃ Nx : Hp → Prop, (∀ H', Nx H' → ∃ m', m' < m ∧ Wf (i + 1) m' H') ∧ ∀ x H', J.yld i H x H' → RG G t tv x (L2.wipe σ vs) H' fun σ2 H2 => L2.wipe σ2 vs = L2.wipe σ vs ∧ RB G WF tt σ2 H2 fun b H3 =>
        if b = true then RD G (fun cls d _ H => W cls d σ H) te σ2 H3 fun y H4 => ∃ acc, H4 D0 = some (.lst acc) ∧ acc.length < sizeLine ∧ Nx (upd H4 D0 (.lst (acc ++ [y]))) else Nx H3) := by
  intro D0 nD
  obtain ⟨P', pn, sw, back⟩ := s1.wipe vs
  refine ⟨fun i n H => n = ds.length - i ∧ i ≤ ds.length ∧ LcX G W P' w1 (wipeE ρ vs) (L2.wipe σ vs) t tt te ds D0 (fun d w' _ H' => ∀ a, NewAt G P w' ρ σ d a H' → Q (.ref a) H') P ρ σ i H,
    ⟨ds.length, by simp, Nat.zero_le _, w1, h1, [], [], Wd.le.refl _, sw.guard nD, Rps.nil, Nat.zero_le _, by simpa using k1⟩, ?_⟩
  rintro i n H ⟨rfl, hi, w', h', acc, av, l', s', ra, za, k'⟩
  have nP : P' D0 = none := pn D0 nD
  obtain ⟨go, stop, yld⟩ := ok _ w' _ h' _ H l' (fun j hj => ⟨wipeE_out (hsl j hj), wipe_outS (hsl j hj)⟩) s'
  by_cases hlt : i < ds.length
  · refine .inr ⟨go i hlt, fun H => LcX G W P' w1 (wipeE ρ vs) (L2.wipe σ vs) t tt te ds D0 (fun d w' _ H' => ∀ a, NewAt G P w' ρ σ d a H' → Q (.ref a) H') P ρ σ (i + 1) H, fun H2 f => ⟨ds.length - (i + 1), by omega, rfl, hlt, f⟩, fun x H2 y => ?_⟩
    obtain ⟨w2, d, l2, s2, ed, rd⟩ := yld i x H2 hlt y
    rw [drop_get ed] at k'
    unfold lcGoX at k'
    split at k'
    · exact k'.elim
    · rename_i ρ2 eρ
      refine ⟨_, w2, _, h', d, ρ2, s2, rd, eρ, fun σ3 s3 o3 => ⟨wipe_off o3 htv, _, w2, ρ2, h', s3, ?_⟩⟩
      have k2 := k'.le l2
      have eE : wipeE ρ2 vs = wipeE ρ vs := wipeE_off (off _ _ _ eρ) htv
      have eS : L2.wipe σ3 vs = L2.wipe σ vs := wipe_off o3 htv
      have back2 : ∀ {P2 w4 h4 H4}, StR G P2 w4 ρ2 h4 σ3 H4 → StR G P2 w4 (wipeE ρ vs) h4 (L2.wipe σ vs) H4 := fun z => by
        have := z.forget vs
        rw [eE, eS] at this
        exact this
      revert k2
      cases e1 : tt ρ2 h' with
      | stuck => exact fun k2 => k2.elim
      | exc c p h4 => exact fun k2 => k2.elim
      | ok b h4 =>
        cases b with
        | false =>
          intro k2 w4 H4 l4 s4
          simp only [Bool.false_eq_true, if_false]
          exact ⟨w4, h4, acc, av, (l'.trans l2).trans l4, back2 s4, Reps.le ra (l2.trans l4), za, k2.le l4⟩
        | true =>
          intro k2 w4 H4 l4 s4
          simp only [if_true]
          refine ⟨_, w4, ρ2, h4, s4, ?_⟩
          have k3 := k2.le l4
          dsimp only at k3
          revert k3
          cases e2 : te ρ2 h4 with
          | stuck => exact fun k3 => k3.elim
          | exc c p h5 =>
            intro k3 w5 H5 cls dx l5 s5 rx
            exact k3 w5 H5 cls dx l5 (back w5 h5 H5 (((l'.trans l2).trans l4).trans l5) ((back2 s5).unguard nP)) rx
          | ok y h5 =>
            dsimp only
            intro k3 w5 H5 l5 s5 v rv
            split at k3
            · rename_i lt
              have hz : av.length < sizeLine := by rw [← Rps.length ra, sizeLine_eq]; exact lt
              refine ⟨av, s5.hr.pr D0 _ upd_same, hz, w5, h5, acc ++ [y], av ++ [v], ((l'.trans l2).trans l4).trans l5, (back2 s5).reguard, (Reps.le ra ((l2.trans l4).trans l5)).append (Rps.cons rv Rps.nil), ?_, k3.le l5⟩
              rw [List.length_append, List.length_singleton]
              exact hz
            · exact k3.elim
  · have e : i = ds.length := by omega
    subst e
    refine .inl ⟨stop, ?_⟩
    rw [List.drop_length] at k'
    have s3 := back w' h' H l' (s'.unguard nP)
    refine k' w' H (Wd.le.refl _) s3 D0 ⟨⟨av, za, s'.hr.pr D0 _ upd_same, ra⟩, s'.hr.pf D0 _ upd_same, fun m => ?_, s1.hr.notP nD, fun j y q hq => ?_⟩
    · have := s'.hr.pi D0 m
      rw [upd_same] at this
      cases this
    · obtain ⟨b, e1, e2, _⟩ := s1.own j y q
      obtain ⟨u, e3⟩ := e2.some
      rw [hq] at e1
      cases e1
      rw [nD] at e3
      cases e3
/-- the block's target, tests, element -/
abbrev HGx (X : Cx) (ca : Nat → Addr) (scope : Scope) (tg : Expr) (t : TM) (tv : List Nat) : Prop := ∀ s H C cl fp E, SG (bl X s H scope (compEnvC scope cl C X.env) fp E) ca tg t tv
abbrev HTx (X : Cx) (ca : Nat → Addr) (scope : Scope) (ifs : List Expr) (tt : EM Bool) : Prop := ∀ s H C cl fp E, STs (bl X s H scope (compEnvC scope cl C X.env) fp E) ca WF ifs tt
abbrev HEx (X : Cx) (ca : Nat → Addr) (scope : Scope) (elt : Expr) (te : EM D) : Prop := ∀ s H C cl fp E (W' : WX), Takes (bl X s H scope (compEnvC scope cl C X.env) fp E) W' → SE (bl X s H scope (compEnvC scope cl C X.env) fp E) ca W' elt te
theorem sn_lcX (cm : X.calm = true) (nd : X.N.Nodup) (hst : X.stack = X.env :: X.outer) (hfm : X.env.frame = some X.env.locals) (tk : Takes X W) (hi : SI X ca W tg iter it sl) (bo : BlkOk X.N X.env.scope scope own)
    (hg : HGx X ca scope tg t tv) (ht : HTx X ca scope ifs tt) (he : HEx X ca scope elt te)
    (hsl : ∀ i ∈ sl, i ∉ own.map (·.2) := by decide) (htv : ∀ i ∈ tv, i ∈ own.map (·.2) := by decide) (fs : ∀ x, foldedSetIterable iter X.env x = pure x := by intro _; rfl) :
    SN X ca W (.ListComp elt [⟨tg, iter, ifs, 0⟩] scope pos) (eLcX (own.map (·.2)) it t tt te) := by
  have off : ∀ d ρ ρ', t d ρ = some ρ' → OffE tv ρ ρ' := fun d ρ ρ' e => (hg X.s_0 P0 0 [] [] X.xe).off d ρ ρ' e
  exact ⟨(pe_lcx (te := fun σ => RD ⟨X.K, ca⟩ (fun cls d _ H => W cls d σ H) te) cm nd hst hfm hi.pi bo tk (fun s H C cl fp E => (hg s H C cl fp E).pg) (fun s H C cl fp E => (ht s H C cl fp E).pt) (fun σ s H C cl fp E tb => (he s H C cl fp E _ tb).pe) fs).imp fun σ H Q ⟨P, w, ρ, h, st, k⟩ => ⟨P, w, ρ, h, st,
    (EPost.bind k).imp fun ds w1 h1 H1 l1 s1 k1 J okJ => lcx_turn s1 okJ hsl htv off k1⟩⟩
theorem ss_ownLcX (i : Nat) {y : Str} {py spos : Pos} (cm : X.calm = true) (nd : X.N.Nodup) (hst : X.stack = X.env :: X.outer) (hfm : X.env.frame = some X.env.locals) (tk : Takes X W) (hi : SI X ca W tg iter it sl) (bo : BlkOk X.N X.env.scope scope own)
    (hg : HGx X ca scope tg t tv) (ht : HTx X ca scope ifs tt) (he : HEx X ca scope elt te)
    (hsw : swapsWith (.ListComp elt [⟨tg, iter, ifs, 0⟩] scope pos) (some (.Name y py)) spos.line X.env = pure true)
    (hy : X.N[i]? = some y := by rfl) (hyl : X.env.scope.names.lookup y = some .local := by rfl)
    (hsl : ∀ i ∈ sl, i ∉ own.map (·.2) := by decide) (htv : ∀ i ∈ tv, i ∈ own.map (·.2) := by decide) (fs : ∀ x, foldedSetIterable iter X.env x = pure x := by intro _; rfl) :
    SS X ca W (.Assign [.Name y py] (.ListComp elt [⟨tg, iter, ifs, 0⟩] scope pos) spos) (sOwn i (eLcX (own.map (·.2)) it t tt te)) := by
  have off : ∀ d ρ ρ', t d ρ = some ρ' → OffE tv ρ ρ' := fun d ρ ρ' e => (hg X.s_0 P0 0 [] [] X.xe).off d ρ ρ' e
  exact ⟨(ps_setLcx (te := fun σ => RD ⟨X.K, ca⟩ (fun cls d _ H => W cls d σ H) te) cm nd hst hfm hy hyl hsw hi.pi bo tk (fun s H C cl fp E => (hg s H C cl fp E).pg) (fun s H C cl fp E => (ht s H C cl fp E).pt) (fun σ s H C cl fp E tb => (he s H C cl fp E _ tb).pe) fs).imp fun E σ H ⟨P, w, ρ, h, st, k⟩ => ⟨P, w, ρ, h, st,
    (EPost.bind (SPost.bind k)).imp fun ds w1 h1 H1 l1 s1 k1 J okJ => lcx_turn (Q := fun v H' => gName i v σ H' E.nx) s1 okJ hsl htv off (k1.imp fun d w2 h2 H2 l2 s2 k2 a n => k2 w2 _ H2 (Wd.le.refl _) (s2.setO n))⟩⟩
theorem ss_setLcX (i : Nat) {y : Str} {py spos : Pos} (cm : X.calm = true) (nd : X.N.Nodup) (hst : X.stack = X.env :: X.outer) (hfm : X.env.frame = some X.env.locals) (tk : Takes X W) (hi : SI X ca W tg iter it sl) (bo : BlkOk X.N X.env.scope scope own)
    (hg : HGx X ca scope tg t tv) (ht : HTx X ca scope ifs tt) (he : HEx X ca scope elt te)
    (hsw : swapsWith (.ListComp elt [⟨tg, iter, ifs, 0⟩] scope pos) (some (.Name y py)) spos.line X.env = pure true)
    (hy : X.N[i]? = some y := by rfl) (hyl : X.env.scope.names.lookup y = some .local := by rfl)
    (hsl : ∀ i ∈ sl, i ∉ own.map (·.2) := by decide) (htv : ∀ i ∈ tv, i ∈ own.map (·.2) := by decide) (fs : ∀ x, foldedSetIterable iter X.env x = pure x := by intro _; rfl) :
    SS X ca W (.Assign [.Name y py] (.ListComp elt [⟨tg, iter, ifs, 0⟩] scope pos) spos) (sSet i (eLcX (own.map (·.2)) it t tt te)) := by
  have off : ∀ d ρ ρ', t d ρ = some ρ' → OffE tv ρ ρ' := fun d ρ ρ' e => (hg X.s_0 P0 0 [] [] X.xe).off d ρ ρ' e
  exact ⟨(ps_setLcx (te := fun σ => RD ⟨X.K, ca⟩ (fun cls d _ H => W cls d σ H) te) cm nd hst hfm hy hyl hsw hi.pi bo tk (fun s H C cl fp E => (hg s H C cl fp E).pg) (fun s H C cl fp E => (ht s H C cl fp E).pt) (fun σ s H C cl fp E tb => (he s H C cl fp E _ tb).pe) fs).imp fun E σ H ⟨P, w, ρ, h, st, k⟩ => ⟨P, w, ρ, h, st,
    (EPost.bind (SPost.bind k)).imp fun ds w1 h1 H1 l1 s1 k1 J okJ => lcx_turn (Q := fun v H' => gName i v σ H' E.nx) s1 okJ hsl htv off (k1.imp fun d w2 h2 H2 l2 s2 k2 a n => by
      obtain ⟨o, eo⟩ := n.1.some
      have le := Wd.frz_le (o := o) n.2.1
      exact k2 (w2.frz a o) _ H2 le ((s2.frz eo n.2.1 n.2.2.1 n.2.2.2.1 n.2.2.2.2).setV (n.1.rep le (Wd.frz_same.trans eo.symm))))⟩⟩
end
end PV
end

section
set_option Elab.async false
set_option linter.all false
set_option maxRecDepth 100000
set_option maxHeartbeats 4000000
namespace K84
open PySem L2 PV
open PyProof.Rows (envOfC)
/-! ### the text by places -/
def top (i : Nat) : Stmt := PySem.Challenge.pw_parlourday_k84_rows_and_bills_written.main.body.getD i (.Pass ⟨0, 0, 0, 0⟩)
abbrev s_law_urn : Stmt := (top 34)
abbrev s_law_draw : Stmt := (top 35)
abbrev s_law_two : Stmt := (top 37)
abbrev s_law_setup : Stmt := (top 38)
abbrev s_law_comers : Stmt := (top 41)
abbrev s_law_word : Stmt := (top 42)
abbrev s_law_words : Stmt := (top 43)
abbrev s_law_same : Stmt := (top 36)
abbrev s_law_as_due : Stmt := (top 48)
abbrev s_is_integer : Stmt := (top 7)
abbrev s_is_row_of : Stmt := (top 13)
abbrev s_is_choice : Stmt := (top 14)
abbrev s_is_setup : Stmt := (top 15)
abbrev s_need_setup : Stmt := (top 17)
abbrev s_Words__init : Stmt := (inClass (top 22) 0)
abbrev s_Words_peek : Stmt := (inClass (top 22) 2)
abbrev s_Words_skip : Stmt := (inClass (top 22) 3)
abbrev s_Words_refuse : Stmt := (inClass (top 22) 1)
abbrev s_Words_finish : Stmt := (inClass (top 22) 8)
abbrev s_digit_in : Stmt := (top 21)
abbrev s_comers_in : Stmt := (top 31)
abbrev s_read_row : Stmt := (top 32)
abbrev s_law_read : Stmt := (top 47)
abbrev s_law_long_right : Stmt := (top 50)
abbrev s_law_refused_right : Stmt := (top 51)
abbrev s_comers_of : Stmt := (top 16)
abbrev s_all_comers : Stmt := (top 18)
abbrev s_comers_text : Stmt := (top 27)
abbrev s_show_row : Stmt := (top 28)
abbrev s_law_odd : Stmt := (top 45)
abbrev s_law_bent : Stmt := (top 46)
abbrev s_law_due : Stmt := (top 44)
abbrev s_law_row_right : Stmt := (top 49)
abbrev s_show_deed : Stmt := (top 29)
abbrev s_show_bill : Stmt := (top 30)
abbrev s_law_bill_right : Stmt := (top 52)
abbrev s_law : Stmt := (top 53)
def cnames : List Str := [("Words" : Str), ("ParlourError" : Str), ("BadSetup" : Str), ("BadRow" : Str), ("BadText" : Str)]
abbrev cas (K : PySem.W.Frag) : Nat → Addr := fun k => He.ga K (cnames.getD k Str.empty)
abbrev d_DIGITS : D := .str ("0123456789" : Str)
abbrev d_MOST_BEATS : D := .int 200
abbrev d_MOST_LIFE : D := .int 3
abbrev d_MOST_PORTIONS : D := .int 4
abbrev d_MOST_PRICE : D := .int 5
abbrev d_MOST_SEATS : D := .int 4
abbrev d_NO_GROUPS : D := .str ("-" : Str)
abbrev d_NO_ROW : D := .str ("none" : Str)
def il_BadRow : List (Option Bool) := [none, none, some false, none, some false]
abbrev is_BadRow : Nat → Option Bool := fun k => il_BadRow.getD k none
def il_BadSetup : List (Option Bool) := [none, none, some true, none, some false]
abbrev is_BadSetup : Nat → Option Bool := fun k => il_BadSetup.getD k none
def il_BadText : List (Option Bool) := [none, none, some false, none, some true]
abbrev is_BadText : Nat → Option Bool := fun k => il_BadText.getD k none
def ml_ParlourError : List (Option Bool) := [none, none, some true, none, some true]
abbrev mt_ParlourError : Nat → Option Bool := fun k => ml_ParlourError.getD k none
def plks : List Nat := [4]
abbrev plcs : Nat → Bool := fun k => decide (k ∈ plks)
/-! ### the models -/
def m_law_urn : Fn := fnM 2 3 <|
  sSeq (sSet 2 (eRet (.int 0))) <|
  sSeq (sIf (eAsB (eOp dLt (eVar 1) (eMap dLen (eVar 0)))) (sSet 2 (eOp dIx (eVar 0) (eVar 1))) (sNext)) <|
  sRetN (eLst (eCons (eMapL dMax2 (eCons (eRet (.int 0)) (eCons (eOp dSub (eVar 2) (eOp dPow (eRet (.int 10)) (eRet (.int 18)))) (eNil)))) (eCons (eOp dAdd (eOp dAdd (eOp dMod (eMap dInt (eVar 2)) (eOp dAdd (eOp dPow (eRet (.int 10)) (eRet (.int 39))) (eRet (.int 3)))) (eOp dMul (eOp dMul (eRet (.int 977)) (eVar 1)) (eVar 1))) (eRet (.int 13))) (eCons (eRet (.int 0)) (eNil)))))
def m_law_draw : Fn := fnM 2 4 <|
  sSeq (sIf (eAsB (eOp dGt (eIxB (eVar 0) (eRet (.int 0))) (eRet (.int 0)))) (sSeq (sSet 3 (eOp dMod (eMap dInt (eIxB (eVar 0) (eRet (.int 0)))) (eVar 1))) <|
  sSeq (sPut (eOp dFdiv (eIxB (eVar 0) (eRet (.int 0))) (eVar 1)) (plO (eVar 0)) (eRet (.int 0)) fSet) <|
  sRet (eVar 3)) (sNext)) <|
  sSeq (sPut (eOp dAdd (eIxB (eVar 0) (eRet (.int 2))) (eRet (.int 1))) (plO (eVar 0)) (eRet (.int 2)) fSet) <|
  sSeq (sSet 2 (eOp dMod (eMap dInt (eOp dPow (eOp dAdd (eIxB (eVar 0) (eRet (.int 1))) (eOp dMul (eRet (.int 314159265358979)) (eIxB (eVar 0) (eRet (.int 2))))) (eRet (.int 3)))) (eOp dAdd (eOp dPow (eRet (.int 10)) (eRet (.int 43))) (eRet (.int 57))))) <|
  sSeq (sSet 2 (eOp dMod (eMap dInt (eOp dAdd (eOp dMul (eVar 2) (eVar 2)) (eOp dMul (eRet (.int 271828182845904)) (eIxB (eVar 0) (eRet (.int 2)))))) (eOp dAdd (eOp dPow (eRet (.int 10)) (eRet (.int 42))) (eRet (.int 63))))) <|
  sRet (eOp dMod (eOp dFdiv (eVar 2) (eOp dPow (eRet (.int 10)) (eRet (.int 9)))) (eVar 1))
def m_law_two : Fn := fnM 2 3 <|
  sSeq (sSet 2 (eOp dAdd (eRet (.int 1)) (eCall m_law_draw [] (eCons (eVar 0) (eCons (eVar 1) (eNil)))))) <|
  sSeq (sIf (bAnd (eAsB (eOp dLt (eVar 2) (eVar 1))) (eAsB (eOp dEqD (eCall m_law_draw [] (eCons (eVar 0) (eCons (eRet (.int 2)) (eNil)))) (eRet (.int 0))))) (sRet (eTup (eCons (eVar 2) (eCons (eOp dAdd (eOp dAdd (eVar 2) (eRet (.int 1))) (eCall m_law_draw [] (eCons (eVar 0) (eCons (eOp dSub (eVar 1) (eVar 2)) (eNil))))) (eNil))))) (sNext)) <|
  sRet (eTup (eCons (eVar 2) (eNil)))
def m_law_setup : Fn := fnM 1 6 <|
  sSeq (sSet 1 (eOp dAdd (eRet (.int 1)) (eCall m_law_draw [] (eCons (eVar 0) (eCons (eRet (.int 4)) (eNil)))))) <|
  sSeq (sPar [2, 3] (eCons (eTup (eCons (eOp dAdd (eRet (.int 1)) (eCall m_law_draw [] (eCons (eVar 0) (eCons (eRet (.int 2)) (eNil))))) (eCons (eCall m_law_draw [] (eCons (eVar 0) (eCons (eRet (.int 3)) (eNil)))) (eNil)))) (eCons (eTup (eCons (eCall m_law_draw [] (eCons (eVar 0) (eCons (eRet (.int 2)) (eNil)))) (eCons (eCall m_law_draw [] (eCons (eVar 0) (eCons (eRet (.int 3)) (eNil)))) (eNil)))) (eNil)))) <|
  sSeq (sSet 4 (eMap dTuple (eL (eLc [5] (eRng1 (eCons (eRet (.int 4)) (eNil))) (tgV 5) (bYes) (eCall m_law_draw [] (eCons (eVar 0) (eCons (eRet (.int 6)) (eNil)))))))) <|
  sRet (eTup (eCons (eVar 1) (eCons (eCall m_law_two [] (eCons (eVar 0) (eCons (eVar 1) (eNil)))) (eCons (eVar 2) (eCons (eVar 3) (eCons (eCall m_law_two [] (eCons (eVar 0) (eCons (eRet (.int 4)) (eNil)))) (eCons (eOp dAdd (eRet (.int 1)) (eCall m_law_draw [] (eCons (eVar 0) (eCons (eRet (.int 3)) (eNil))))) (eCons (eVar 4) (eNil)))))))))
def m_law_comers : Fn := fnM 2 4 <|
  sSeq (sSet 2 (eMap dTuple (eL (eLc [3] (eRng1 (eCons (eCall m_law_draw [] (eCons (eVar 0) (eCons (eOp dAdd (eOp dIx (eOp dIx (eVar 1) (eRet (.int 3))) (eRet (.int 0))) (eRet (.int 1))) (eNil)))) (eNil))) (tgV 3) (bYes) (eOp dIx (eOp dIx (eVar 1) (eRet (.int 1))) (eCall m_law_draw [] (eCons (eVar 0) (eCons (eMap dLen (eOp dIx (eVar 1) (eRet (.int 1)))) (eNil))))))))) <|
  sRet (eTup (eCons (eVar 2) (eCons (eCall m_law_draw [] (eCons (eVar 0) (eCons (eOp dAdd (eOp dIx (eOp dIx (eVar 1) (eRet (.int 3))) (eRet (.int 1))) (eRet (.int 1))) (eNil)))) (eNil))))
def m_law_word : Fn := fnM 1 3 <|
  sSeq (sSet 1 (eOp dJoin (chkS (eRet (.str ("" : Str)))) (eL (eLc [2] (eItems (eOp dIx (eVar 0) (eRet (.int 0)))) (tgV 2) (bYes) (eMap dStr (eVar 2)))))) <|
  sRet (eOp dAdd (eOp dAdd (eOp dIx (eLst (eCons (eVar 1) (eCons (eRet (.str ("-" : Str))) (eNil)))) (eMap dInt (eOp dEqD (eOp dIx (eVar 0) (eRet (.int 0))) (eTup (eNil))))) (eRet (.str ("+" : Str)))) (eMap dStr (eOp dIx (eVar 0) (eRet (.int 1)))))
def m_law_words : Fn := fnM 1 2 <|
  sRet (eIf (eAsB (eOp dNeD (eVar 0) (eLst (eNil)))) (eLc [1] (eItems (eVar 0)) (tgV 1) (bYes) (eCall m_law_word [] (eCons (eVar 1) (eNil)))) (eLst (eCons (eRet (.str ("none" : Str))) (eNil))))
def m_law_same : Nat → Fn
  | 0 => fun _ _ => .stuck
  | n + 1 => fnM 2 4 (sSeq (sIf (eTruth (eMap (dIsi "tuple") (eVar 1))) (sSeq (sIf (bOr (bNot (eTruth (eMap (dIsi "tuple") (eVar 0)))) (eAsB (eOp dNeD (eMap dLen (eVar 0)) (eMap dLen (eVar 1))))) (sRet (eRet (.bl false))) (sNext)) <|
  sRet (eMap dAll (eLc [2, 3] (eZip2 (eCons (eVar 0) (eCons (eVar 1) (eNil)))) (tgT [tgV 2, tgV 3]) (bYes) (eCall (m_law_same n) [] (eCons (eVar 2) (eCons (eVar 3) (eNil))))))) (sNext)) <|
  sSeq (sIf (eTruth (eMap (dIsi "int") (eVar 1))) (sRet (eAndV (eMap (dIsi "int") (eVar 0)) (eAndV (eNotV (eMap (dIsi "bool") (eVar 0))) (eOp dEqD (eVar 0) (eVar 1))))) (sNext)) <|
  sRet (eAndV (eMap (dIsi "str") (eVar 0)) (eOp dEqD (eVar 0) (eVar 1))))
def m_law_as_due : Fn := fnM 2 2 <|
  sSeq (sIf (eAsB (eOp dIsN (eOp dIx (eVar 1) (eRet (.int 1))) (eRet .non))) (sRet (eAndV (eOp dIsN (eOp dIx (eVar 0) (eRet (.int 1))) (eRet .non)) (eAndV (eMap (dIsi "list") (eOp dIx (eVar 0) (eRet (.int 0)))) (eCall (m_law_same 6) [] (eCons (eMap dTuple (eOp dIx (eVar 0) (eRet (.int 0)))) (eCons (eMap dTuple (eOp dIx (eVar 1) (eRet (.int 0)))) (eNil))))))) (sNext)) <|
  sRet (eAndV (eOp dIsN (eOp dIx (eVar 0) (eRet (.int 0))) (eRet .non)) (eAndV (eMap (dIsi "int") (eOp dIx (eVar 0) (eRet (.int 1)))) (eAndV (eNotV (eMap (dIsi "bool") (eOp dIx (eVar 0) (eRet (.int 1))))) (eOp dEqD (eOp dIx (eVar 0) (eRet (.int 1))) (eOp dIx (eVar 1) (eRet (.int 1)))))))
def m_is_integer : Fn := fnM 3 3 <|
  sSeq (sIf (bOr (bNot (eTruth (eMap (dIsi "int") (eVar 0)))) (eTruth (eMap (dIsi "bool") (eVar 0)))) (sRet (eRet (.bl false))) (sNext)) <|
  sRet (eAndV (eOrV (eOp dIsN (eVar 1) (eRet .non)) (eOp dLe (eVar 1) (eVar 0))) (eOrV (eOp dIsN (eVar 2) (eRet .non)) (eOp dLe (eVar 0) (eVar 2))))
def m_is_row_of : Fn := fnM 3 6 <|
  sSeq (sIf (bOr (bNot (eTruth (eMap (dIsi "tuple") (eVar 0)))) (eAsB (eOp dNeD (eMap dLen (eVar 0)) (eMap dLen (eVar 1))))) (sRet (eRet (.bl false))) (sNext)) <|
  sRet (eMap dAll (eLc [3, 4, 5] (eZip3 (eCons (eVar 0) (eCons (eVar 1) (eCons (eVar 2) (eNil))))) (tgT [tgV 3, tgV 4, tgV 5]) (bYes) (eCall m_is_integer [] (eCons (eVar 3) (eCons (eVar 4) (eCons (eVar 5) (eNil)))))))
def m_is_choice : Fn := fnM 2 3 <|
  sSeq (sIf (bOr (bNot (eTruth (eMap (dIsi "tuple") (eVar 0)))) (eAsB (eOp dNinD (eMap dLen (eVar 0)) (eTup (eCons (eRet (.int 1)) (eCons (eRet (.int 2)) (eNil))))))) (sRet (eRet (.bl false))) (sNext)) <|
  sSeq (sIf (bNot (eTruth (eMap dAll (eLc [2] (eItems (eVar 0)) (tgV 2) (bYes) (eCall m_is_integer [] (eCons (eVar 2) (eCons (eRet (.int 1)) (eCons (eVar 1) (eNil))))))))) (sRet (eRet (.bl false))) (sNext)) <|
  sRet (eOrV (eOp dEqD (eMap dLen (eVar 0)) (eRet (.int 1))) (eOp dLt (eOp dIx (eVar 0) (eRet (.int 0))) (eOp dIx (eVar 0) (eRet (.int 1)))))
def m_is_setup : Fn := fnM 1 8 <|
  sSeq (sIf (bOr (bNot (eTruth (eMap (dIsi "tuple") (eVar 0)))) (eAsB (eOp dNeD (eMap dLen (eVar 0)) (eRet (.int 7))))) (sRet (eRet (.bl false))) (sNext)) <|
  sSeq (sTg (eVar 0) (tgT [tgV 1, tgV 2, tgV 3, tgV 4, tgV 5, tgV 6, tgV 7])) <|
  sSeq (sIf (bOr (bNot (eTruth (eCall m_is_integer [] (eCons (eVar 1) (eCons (eRet (.int 1)) (eCons (eRet d_MOST_SEATS) (eNil))))))) (bNot (eTruth (eCall m_is_choice [] (eCons (eVar 2) (eCons (eVar 1) (eNil))))))) (sRet (eRet (.bl false))) (sNext)) <|
  sSeq (sIf (bOr (bNot (eTruth (eCall m_is_row_of [] (eCons (eVar 3) (eCons (eTup (eCons (eRet (.int 1)) (eCons (eRet (.int 0)) (eNil)))) (eCons (eTup (eCons (eRet (.int 2)) (eCons (eRet (.int 2)) (eNil)))) (eNil))))))) (bNot (eTruth (eCall m_is_row_of [] (eCons (eVar 4) (eCons (eTup (eCons (eRet (.int 0)) (eCons (eRet (.int 0)) (eNil)))) (eCons (eTup (eCons (eRet (.int 1)) (eCons (eRet (.int 2)) (eNil)))) (eNil)))))))) (sRet (eRet (.bl false))) (sNext)) <|
  sSeq (sIf (bOr (bNot (eTruth (eCall m_is_choice [] (eCons (eVar 5) (eCons (eRet d_MOST_PORTIONS) (eNil)))))) (bNot (eTruth (eCall m_is_integer [] (eCons (eVar 6) (eCons (eRet (.int 1)) (eCons (eRet d_MOST_LIFE) (eNil)))))))) (sRet (eRet (.bl false))) (sNext)) <|
  sRet (eCall m_is_row_of [] (eCons (eVar 7) (eCons (eTup (eCons (eRet (.int 0)) (eCons (eRet (.int 0)) (eCons (eRet (.int 0)) (eCons (eRet (.int 0)) (eNil)))))) (eCons (eOp dRepT (eTup (eCons (eRet d_MOST_PRICE) (eNil))) (eRet (.int 4))) (eNil)))))
def m_need_setup : Fn := fnM 1 1 <|
  sIf (bNot (eTruth (eCall m_is_setup [] (eCons (eVar 0) (eNil))))) (sRaise 2) (sNext)
def m_Words__init : Fn := fnM 2 2 <|
  sSeq (sIf (bNot (eTruth (eMap (dIsi "str") (eVar 1)))) (sRaiseP 4 (eCons (eRet (.int 0)) (eNil))) (sNext)) <|
  sSeq (sFld 0 ("all_words" : Str) (eVar 0) (eOp dSplit (chkS (eVar 1)) (eRet (.str (" " : Str))))) <|
  sFld 0 ("next_index" : Str) (eVar 0) (eRet (.int 0))
def m_Words_peek : Fn := fnM 1 1 <|
  sRet (eIf (eAsB (eOp dLt (eSee (fldD 0 ("next_index" : Str)) (eVar 0)) (eMap dLen (eSee (fldD 0 ("all_words" : Str)) (eVar 0))))) (eOp dIx (eSee (fldD 0 ("all_words" : Str)) (eVar 0)) (eSee (fldD 0 ("next_index" : Str)) (eVar 0))) (eRet .non))
def m_Words_skip : Fn := fnM 1 1 <|
  sFld 0 ("next_index" : Str) (eVar 0) (eOp dAdd (eSee (fldD 0 ("next_index" : Str)) (eVar 0)) (eRet (.int 1)))
def m_Words_refuse : Fn := fnM 1 1 <|
  sRaiseP 4 (eCons (eSee (fldD 0 ("next_index" : Str)) (eVar 0)) (eNil))
def m_Words_finish : Fn := fnM 1 1 <|
  sIf (eAsB (eOp dNotN (eMeth 0 ("peek" : Str) m_Words_peek [] (eVar 0) eNil) (eRet .non))) (sDrop (eMeth 0 ("refuse" : Str) m_Words_refuse [] (eVar 0) eNil)) (sNext)
def m_digit_in : Fn := fnM 3 3 <|
  sSeq (sIf (bOr (bNot (eTruth (eMap (dIsi "str") (eVar 0)))) (bOr (eAsB (eOp dNeD (eMap dLen (eVar 0)) (eRet (.int 1)))) (eAsB (eOp (dInS true) (eVar 0) (eRet d_DIGITS))))) (sRet (eRet .non)) (sNext)) <|
  sRet (eIf (eAsB (eChain dLe dLe (eVar 1) (eMap dInt (eVar 0)) (eVar 2))) (eMap dInt (eVar 0)) (eRet .non))
def m_comers_in : Fn := fnM 2 11 <|
  sSeq (sTg (eTup (eCons (eOp dIx (eVar 0) (eRet (.int 1))) (eCons (eOp dIx (eVar 0) (eRet (.int 3))) (eNil)))) (tgT [tgV 2, tgV 3])) <|
  sSeq (sTg (eOp dPart (chkS (eVar 1)) (eRet (.str ("+" : Str)))) (tgT [tgV 4, tgV 5, tgV 6])) <|
  sSeq (sSet 7 (eCall m_digit_in [] (eCons (eVar 6) (eCons (eRet (.int 0)) (eCons (eOp dIx (eVar 3) (eRet (.int 1))) (eNil)))))) <|
  sSeq (sIf (bOr (eAsB (eOp dEqD (eVar 5) (eRet (.str ("" : Str))))) (bOr (eAsB (eOp dEqD (eVar 4) (eRet (.str ("" : Str))))) (eAsB (eOp dIsN (eVar 7) (eRet .non))))) (sRet (eRet .non)) (sNext)) <|
  sSeq (sIf (eAsB (eOp dEqD (eVar 4) (eRet d_NO_GROUPS))) (sRet (eTup (eCons (eTup (eNil)) (eCons (eVar 7) (eNil))))) (sNext)) <|
  sSeq (sSet 8 (eMap dTuple (eL (eLc [9] (eItems (eVar 4)) (tgV 9) (bYes) (eCall m_digit_in [] (eCons (eVar 9) (eCons (eRet (.int 1)) (eCons (eRet (.int 9)) (eNil))))))))) <|
  sSeq (sIf (bOr (eAsB (eOp dGt (eMap dLen (eVar 8)) (eOp dIx (eVar 3) (eRet (.int 0))))) (bNot (eTruth (eMap dAll (eLc [10] (eItems (eVar 8)) (tgV 10) (bYes) (eOp dInD (eVar 10) (eVar 2))))))) (sRet (eRet .non)) (sNext)) <|
  sRet (eTup (eCons (eVar 8) (eCons (eVar 7) (eNil))))
def m_read_row : Fn := fnM 2 5 <|
  sSeq (sDrop (eCall m_need_setup [] (eCons (eVar 0) (eNil)))) <|
  sSeq (sSet 2 (eMake 0 m_Words__init [] (eCons (eVar 1) (eNil)))) <|
  sSeq (sIf (eAsB (eOp dEqD (eMeth 0 ("peek" : Str) m_Words_peek [] (eVar 2) eNil) (eRet d_NO_ROW))) (sSeq (sDrop (eMeth 0 ("skip" : Str) m_Words_skip [] (eVar 2) eNil)) <|
  sSeq (sDrop (eMeth 0 ("finish" : Str) m_Words_finish [] (eVar 2) eNil)) <|
  sRetN (eLst (eNil))) (sNext)) <|
  sSeq (sOwn 3 (eLst (eNil))) <|
  sSeq (sWhile (eAsB (eOp dNotN (eMeth 0 ("peek" : Str) m_Words_peek [] (eVar 2) eNil) (eRet .non))) (sSeq (sSet 4 (eCall m_comers_in [] (eCons (eVar 0) (eCons (eMeth 0 ("peek" : Str) m_Words_peek [] (eVar 2) eNil) (eNil))))) <|
  sSeq (sIf (bOr (eAsB (eOp dIsN (eVar 4) (eRet .non))) (eAsB (eOp dEqD (eMap dLen (eOwn 3)) (eRet d_MOST_BEATS)))) (sDrop (eMeth 0 ("refuse" : Str) m_Words_refuse [] (eVar 2) eNil)) (sNext)) <|
  sSeq (sDrop (eMeth 0 ("skip" : Str) m_Words_skip [] (eVar 2) eNil)) <|
  sMut (plChk isL (plC 3)) (eCons (eVar 4) eNil) fAppend) 300) <|
  sRetO 3
def m_law_read : Fn := fnM 2 5 <|
  sSeq (sTg (eTup (eCons (eRet .non) (eCons (eRet .non) (eNil)))) (tgT [tgV 2, tgV 3])) <|
  sSeq (sTryK mt_ParlourError 4 3 (sSet 2 (eCallN m_read_row [] (eCons (eVar 0) (eCons (eVar 1) (eNil)))))) <|
  sSeq (sIf (bAnd (eTruth (eMap (dIsX is_BadText) (eVar 3))) (bNot (eTruth (eMap (dIsX fun k => (is_BadRow k).bind fun b => (is_BadSetup k).map fun b2 => b || b2) (eVar 3))))) (sRet (eTup (eCons (eRet .non) (eCons (eMap (fun d => (dPlace plcs d).bind fun q => if isNonD q = true then none else some q) (eVar 3)) (eNil))))) (sNext)) <|
  sRet (eIf (eTruth (eMap (dIsX is_BadSetup) (eVar 3))) (eTup (eCons (eRet .non) (eCons (eRet (.str ("setup" : Str))) (eNil)))) (eTup (eCons (eVar 2) (eCons (eRet .non) (eNil)))))
def m_law_long_right : Fn := fnM 2 6 <|
  sSeq (sSet 2 (eLc [5] (eRng1 (eCons (eRet (.int 199)) (eNil))) (tgV 5) (bYes) (eCall m_law_comers [] (eCons (eVar 0) (eCons (eVar 1) (eNil)))))) <|
  sSeq (sFor (eRng1 (eCons (eRet (.int 3)) (eNil))) (tgV 3) (sSeq (sSet 4 (eCall m_law_words [] (eCons (eVar 2) (eNil)))) <|
  sSeq (sIf (bNot (eTruth (eCall m_law_as_due [] (eCons (eCall m_law_read [] (eCons (eVar 1) (eCons (eOp dJoin (chkS (eRet (.str (" " : Str)))) (eVar 4)) (eNil)))) (eCons (eIf (eAsB (eOp dEqD (eVar 3) (eRet (.int 2)))) (eTup (eCons (eRet .non) (eCons (eRet (.int 200)) (eNil)))) (eTup (eCons (eVar 2) (eCons (eRet .non) (eNil))))) (eNil)))))) (sRet (eRet (.bl false))) (sNext)) <|
  sSet 2 (eOp dCat (eVar 2) (eLst (eCons (eTup (eCons (eTup (eNil)) (eCons (eRet (.int 0)) (eNil)))) (eNil)))))) <|
  sRet (eRet (.bl true))
def m_law_refused_right : Fn := fnM 2 4 <|
  sSeq (sSet 2 (eOp dIx (eLst (eCons (eRet .non) (eCons (eRet (.int 3)) (eCons (eRet (.bl true)) (eCons (eLst (eCons (eRet (.str ("none" : Str))) (eNil))) (eCons (eTup (eCons (eRet (.str ("-+0" : Str))) (eNil))) (eCons (eDic0) (eNil)))))))) (eCall m_law_draw [] (eCons (eVar 0) (eCons (eRet (.int 6)) (eNil)))))) <|
  sSeq (sSet 3 (eOp dIx (eLst (eCons (eRet .non) (eCons (eSl (eVar 1) (eNoPart) (eSomePart (eRet (.int 6)))) (eCons (eMap dListN (eVar 1)) (eCons (eOp dAdd (eTup (eCons (eRet (.int 0)) (eNil))) (eSl (eVar 1) (eSomePart (eRet (.int 1))) (eNoPart))) (eCons (eOp dAdd (eOp dAdd (eSl (eVar 1) (eNoPart) (eSomePart (eRet (.int 5)))) (eTup (eCons (eRet (.int 4)) (eNil)))) (eSl (eVar 1) (eSomePart (eRet (.int 6))) (eNoPart))) (eCons (eOp dAdd (eOp dAdd (eSl (eVar 1) (eNoPart) (eSomePart (eRet (.int 1)))) (eTup (eCons (eLst (eCons (eRet (.int 1)) (eNil))) (eNil)))) (eSl (eVar 1) (eSomePart (eRet (.int 2))) (eNoPart))) (eNil)))))))) (eCall m_law_draw [] (eCons (eVar 0) (eCons (eRet (.int 6)) (eNil)))))) <|
  sSeq (sIf (bNot (eTruth (eCall m_law_as_due [] (eCons (eCall m_law_read [] (eCons (eVar 1) (eCons (eVar 2) (eNil)))) (eCons (eTup (eCons (eRet .non) (eCons (eRet (.int 0)) (eNil)))) (eNil)))))) (sRet (eRet (.bl false))) (sNext)) <|
  sRet (eAndV (eOp dEqD (eCall m_law_read [] (eCons (eVar 3) (eCons (eVar 2) (eNil)))) (eTup (eCons (eRet .non) (eCons (eRet (.str ("setup" : Str))) (eNil))))) (eAndV (eOp dEqD (eCall m_law_read [] (eCons (eVar 3) (eCons (eRet (.str ("none" : Str))) (eNil)))) (eTup (eCons (eRet .non) (eCons (eRet (.str ("setup" : Str))) (eNil))))) (eOp dEqD (eCall m_law_read [] (eCons (eVar 3) (eCons (eRet (.str ("" : Str))) (eNil)))) (eTup (eCons (eRet .non) (eCons (eRet (.str ("setup" : Str))) (eNil)))))))
def m_comers_of : Fn := fnM 1 6 <|
  sSeq (sSet 1 (eLst (eCons (eTup (eNil)) (eNil)))) <|
  sSeq (sIf (eAsB (eOp dGt (eOp dIx (eOp dIx (eVar 0) (eRet (.int 3))) (eRet (.int 0))) (eRet (.int 0)))) (sSet 1 (eOp dCat (eVar 1) (eLc [4] (eItems (eOp dIx (eVar 0) (eRet (.int 1)))) (tgV 4) (bYes) (eTup (eCons (eVar 4) (eNil)))))) (sNext)) <|
  sSeq (sOwn 2 (eLst (eNil))) <|
  sSeq (sFor (eItems (eVar 1)) (tgV 3) (sMut (plChk isL (plC 2)) (eCons (eLc [5] (eRng1 (eCons (eOp dAdd (eOp dIx (eOp dIx (eVar 0) (eRet (.int 3))) (eRet (.int 1))) (eRet (.int 1))) (eNil))) (tgV 5) (bYes) (eTup (eCons (eVar 3) (eCons (eVar 5) (eNil))))) eNil) fExtend)) <|
  sRetO 2
def m_all_comers : Fn := fnM 1 1 <|
  sSeq (sDrop (eCall m_need_setup [] (eCons (eVar 0) (eNil)))) <|
  sRetN (eCallN m_comers_of [] (eCons (eVar 0) (eNil)))
def m_comers_text : Fn := fnM 1 5 <|
  sSeq (sTg (eVar 0) (tgT [tgV 1, tgV 2])) <|
  sSeq (sSet 3 (eIf (eAsB (eOp dNeD (eVar 1) (eTup (eNil)))) (eOp dJoin (chkS (eRet (.str ("" : Str)))) (eL (eLc [4] (eItems (eVar 1)) (tgV 4) (bYes) (eMap dStr (eVar 4))))) (eRet d_NO_GROUPS))) <|
  sRet (eJoin [eMap dFmt (eVar 3), eRet (.str ("+" : Str)), eMap dFmt (eVar 2)] Str.empty)
def m_show_row : Fn := fnM 1 2 <|
  sRet (eIf (eAsB (eOp dNeD (eVar 0) (eLst (eNil)))) (eOp dJoin (chkS (eRet (.str (" " : Str)))) (eL (eLc [1] (eItems (eVar 0)) (tgV 1) (bYes) (eCall m_comers_text [] (eCons (eVar 1) (eNil)))))) (eRet d_NO_ROW))
def m_law_odd : Fn := fnM 1 2 <|
  sSeq (sSet 1 (eLst (eCons (eRet (.str ("" : Str))) (eCons (eRet (.str ("-" : Str))) (eCons (eRet (.str ("+" : Str))) (eCons (eRet (.str ("-+" : Str))) (eCons (eRet (.str ("+0" : Str))) (eCons (eRet (.str ("-+0" : Str))) (eCons (eRet (.str ("-+1" : Str))) (eCons (eRet (.str ("-+2" : Str))) (eCons (eRet (.str ("-+3" : Str))) (eCons (eRet (.str ("1+0" : Str))) (eCons (eRet (.str ("2+0" : Str))) (eCons (eRet (.str ("3+0" : Str))) (eCons (eRet (.str ("4+1" : Str))) (eCons (eRet (.str ("5+0" : Str))) (eCons (eRet (.str ("0+0" : Str))) (eCons (eRet (.str ("11+0" : Str))) (eCons (eRet (.str ("12+1" : Str))) (eCons (eRet (.str ("21+0" : Str))) (eNil))))))))))))))))))))) <|
  sSeq (sSet 1 (eOp dCat (eVar 1) (eLst (eCons (eRet (.str ("1+00" : Str))) (eCons (eRet (.str ("1+-1" : Str))) (eCons (eRet (.str ("01+0" : Str))) (eCons (eRet (.str ("1+1+1" : Str))) (eCons (eRet (.str ("none" : Str))) (eCons (eRet (.str ("1 + 0" : Str))) (eCons (eRet (.str ("--+0" : Str))) (eCons (eRet (.str ("-1+0" : Str))) (eCons (eRet (.str ("s+1" : Str))) (eCons (eRet (.str ("1+a" : Str))) (eCons (eRet (.str ("\n" : Str))) (eCons (eRet (.str ("-+0;" : Str))) (eCons (eRet (.str ("+-0" : Str))) (eCons (eRet (.str ("None" : Str))) (eNil)))))))))))))))))) <|
  sRet (eOp dIx (eVar 1) (eCall m_law_draw [] (eCons (eVar 0) (eCons (eMap dLen (eVar 1)) (eNil)))))
def m_law_bent : Fn := fnM 2 8 <|
  sSeq (sSet 2 (eMap dListN (eVar 1))) <|
  sSeq (sFor (eRng1 (eCons (eCall m_law_draw [] (eCons (eVar 0) (eCons (eRet (.int 3)) (eNil)))) (eNil))) (tgV 3) (sSeq (sPar [4, 5] (eCons (eCall m_law_draw [] (eCons (eVar 0) (eCons (eOp dAdd (eMap dLen (eVar 2)) (eRet (.int 1))) (eNil)))) (eCons (eCall m_law_draw [] (eCons (eVar 0) (eCons (eRet (.int 6)) (eNil)))) (eNil)))) <|
  sIf (eAsB (eOp dEqD (eVar 5) (eRet (.int 0)))) (sSet 2 (eOp dCat (eOp dCat (eSl (eVar 2) (eNoPart) (eSomePart (eVar 4))) (eLst (eCons (eCall m_law_odd [] (eCons (eVar 0) (eNil))) (eNil)))) (eSl (eVar 2) (eSomePart (eOp dAdd (eVar 4) (eRet (.int 1)))) (eNoPart)))) (sIf (eAsB (eOp dEqD (eVar 5) (eRet (.int 1)))) (sSet 2 (eOp dCat (eOp dCat (eSl (eVar 2) (eNoPart) (eSomePart (eVar 4))) (eLst (eCons (eCall m_law_odd [] (eCons (eVar 0) (eNil))) (eNil)))) (eSl (eVar 2) (eSomePart (eVar 4)) (eNoPart)))) (sIf (eAsB (eOp dEqD (eVar 5) (eRet (.int 2)))) (sSet 2 (eOp dCat (eSl (eVar 2) (eNoPart) (eSomePart (eVar 4))) (eSl (eVar 2) (eSomePart (eOp dAdd (eVar 4) (eRet (.int 1)))) (eNoPart)))) (sIf (eAsB (eOp dEqD (eVar 5) (eRet (.int 3)))) (sSet 2 (eOp dCat (eOp dCat (eSl (eVar 2) (eNoPart) (eSomePart (eVar 4))) (eSl (eVar 2) (eSomePart (eVar 4)) (eSomePart (eOp dAdd (eVar 4) (eRet (.int 1)))))) (eSl (eVar 2) (eSomePart (eVar 4)) (eNoPart)))) (sIf (bAnd (eAsB (eOp dEqD (eVar 5) (eRet (.int 4)))) (eAsB (eOp dLt (eVar 4) (eMap dLen (eVar 2))))) (sSeq (sPar [6, 7] (eCons (eOp dIx (eVar 2) (eVar 4)) (eCons (eCall m_law_draw [] (eCons (eVar 0) (eCons (eOp dAdd (eMap dLen (eOp dIx (eVar 2) (eVar 4))) (eRet (.int 1))) (eNil)))) (eNil)))) <|
  sSeq (sSet 6 (eOp dAdd (eOp dAdd (eSl (eVar 6) (eNoPart) (eSomePart (eVar 7))) (eOp dIx (eLst (eCons (eRet (.str ("" : Str))) (eCons (eRet (.str ("0" : Str))) (eCons (eRet (.str ("1" : Str))) (eCons (eRet (.str ("+" : Str))) (eCons (eRet (.str ("-" : Str))) (eNil))))))) (eCall m_law_draw [] (eCons (eVar 0) (eCons (eRet (.int 5)) (eNil)))))) (eSl (eVar 6) (eSomePart (eOp dAdd (eVar 7) (eCall m_law_draw [] (eCons (eVar 0) (eCons (eRet (.int 2)) (eNil)))))) (eNoPart)))) <|
  sSet 2 (eOp dCat (eOp dCat (eSl (eVar 2) (eNoPart) (eSomePart (eVar 4))) (eLst (eCons (eVar 6) (eNil)))) (eSl (eVar 2) (eSomePart (eOp dAdd (eVar 4) (eRet (.int 1)))) (eNoPart)))) (sSet 2 (eOp dCat (eOp dCat (eSl (eVar 2) (eNoPart) (eSomePart (eVar 4))) (eMap dRev (eSl (eVar 2) (eSomePart (eVar 4)) (eSomePart (eOp dAdd (eVar 4) (eRet (.int 2))))))) (eSl (eVar 2) (eSomePart (eOp dAdd (eVar 4) (eRet (.int 2)))) (eNoPart)))))))))) <|
  sRetN (eOp dSplit (chkS (eOp dJoin (chkS (eRet (.str (" " : Str)))) (eVar 2))) (eRet (.str (" " : Str))))
def m_law_due : Fn := fnM 2 9 <|
  sSeq (sIf (eAsB (eOp dEqD (eOp dIx (eVar 1) (eRet (.int 0))) (eRet (.str ("none" : Str))))) (sRet (eIf (eAsB (eOp dEqD (eMap dLen (eVar 1)) (eRet (.int 1)))) (eTup (eCons (eLst (eNil)) (eCons (eRet .non) (eNil)))) (eTup (eCons (eRet .non) (eCons (eRet (.int 1)) (eNil)))))) (sNext)) <|
  sSeq (sOwn 2 (eDic0)) <|
  sSeq (sFor (eRng1 (eCons (eOp dAdd (eOp dIx (eOp dIx (eVar 0) (eRet (.int 3))) (eRet (.int 1))) (eRet (.int 1))) (eNil))) (tgV 3) (sSeq (sPut (eTup (eCons (eTup (eNil)) (eCons (eVar 3) (eNil)))) (plC 2) (eCall m_law_word [] (eCons (eTup (eCons (eTup (eNil)) (eCons (eVar 3) (eNil)))) (eNil))) fPutD) <|
  sFor (eItems (eOp dIx (eVar 0) (eRet (.int 1)))) (tgV 7) (sPut (eTup (eCons (eTup (eCons (eVar 7) (eNil))) (eCons (eVar 3) (eNil)))) (plC 2) (eCall m_law_word [] (eCons (eTup (eCons (eTup (eCons (eVar 7) (eNil))) (eCons (eVar 3) (eNil)))) (eNil))) fPutD))) <|
  sSeq (sOwn 4 (eLst (eNil))) <|
  sSeq (sFor (eEnum (eCons (eVar 1) (eNil))) (tgT [tgV 5, tgV 6]) (sSeq (sSet 8 (eGet (eOwn 2) (eVar 6))) <|
  sSeq (sIf (bOr (eAsB (eOp dIsN (eVar 8) (eRet .non))) (bOr (eAsB (eOp dGt (eMap dLen (eOp dIx (eVar 8) (eRet (.int 0)))) (eOp dIx (eOp dIx (eVar 0) (eRet (.int 3))) (eRet (.int 0))))) (eAsB (eOp dEqD (eVar 5) (eRet (.int 200)))))) (sRet (eTup (eCons (eRet .non) (eCons (eVar 5) (eNil))))) (sNext)) <|
  sMut (plChk isL (plC 4)) (eCons (eVar 8) eNil) fAppend)) <|
  sSeq (sFrz 4) (sRet (eTup (eCons (eVar 4) (eCons (eRet .non) (eNil)))))
def m_law_row_right : Fn := fnM 3 11 <|
  sSeq (sPar [3, 4] (eCons (eCall m_law_words [] (eCons (eVar 2) (eNil))) (eCons (eMap dListN (eVar 2)) (eNil)))) <|
  sSeq (sSet 5 (eOp dJoin (chkS (eRet (.str (" " : Str)))) (eVar 3))) <|
  sSeq (sIf (bOr (bNot (eTruth (eCall (m_law_same 6) [] (eCons (eCall m_show_row [] (eCons (eVar 4) (eNil))) (eCons (eVar 5) (eNil)))))) (bOr (eAsB (eOp dNeD (eVar 4) (eVar 2))) (eAsB (eOp dNeD (eCall m_show_row [] (eKwA [0] [] eNil (eLen 1 (eCons (eVar 2) (eNil))))) (eVar 5))))) (sRet (eRet (.bl false))) (sNext)) <|
  sSeq (sIf (bNot (eTruth (eCall m_law_as_due [] (eCons (eTup (eCons (eCallN m_read_row [] (eKwA [1, 0] [] eNil (eLen 2 (eCons (eVar 5) (eCons (eVar 1) (eNil)))))) (eCons (eRet .non) (eNil)))) (eCons (eTup (eCons (eVar 2) (eCons (eRet .non) (eNil)))) (eNil)))))) (sRet (eRet (.bl false))) (sNext)) <|
  sSeq (sSet 6 (eCallN m_all_comers [] (eCons (eVar 1) (eNil)))) <|
  sSeq (sFor (eRng1 (eCons (eRet (.int 4)) (eNil))) (tgV 7) (sSeq (sSet 8 (eIf (eAsB (eOp dEqD (eVar 7) (eRet (.int 0)))) (eVar 3) (eCallN m_law_bent [] (eCons (eVar 0) (eCons (eVar 3) (eNil)))))) <|
  sSeq (sSet 9 (eCall m_law_read [] (eCons (eVar 1) (eCons (eOp dJoin (chkS (eRet (.str (" " : Str)))) (eVar 8)) (eNil))))) <|
  sSeq (sIf (bNot (eTruth (eCall m_law_as_due [] (eCons (eVar 9) (eCons (eCall m_law_due [] (eCons (eVar 1) (eCons (eVar 8) (eNil)))) (eNil)))))) (sRet (eRet (.bl false))) (sNext)) <|
  sIf (bAnd (eAsB (eOp dIsN (eOp dIx (eVar 9) (eRet (.int 1))) (eRet .non))) (eAsB (eOp dNeD (eLc [10] (eItems (eOp dIx (eVar 9) (eRet (.int 0)))) (tgV 10) (eAsB (eOp dNinD (eVar 10) (eVar 6))) (eVar 10)) (eLst (eNil))))) (sRet (eRet (.bl false))) (sNext))) <|
  sSeq (sIf (eAsB (eOp dNeD (eVar 2) (eLst (eNil)))) (sMut (plChk isL (plO (eObj (eCallN m_read_row [] (eCons (eVar 1) (eCons (eVar 5) (eNil))))))) (eCons (eRet (.str ("x" : Str))) eNil) fAppend) (sNext)) <|
  sRet (eCall m_law_as_due [] (eCons (eCall m_law_read [] (eCons (eVar 1) (eCons (eVar 5) (eNil)))) (eCons (eTup (eCons (eVar 2) (eCons (eRet .non) (eNil)))) (eNil))))
def m_show_deed : Fn := fnM 1 1 <|
  sRet (eIf (eAsB (eOp dEqD (eOp dIx (eVar 0) (eRet (.int 0))) (eRet (.str ("single" : Str))))) (eRet (.str ("s" : Str))) (eJoin [eRet (.str ("g" : Str)), eMap dFmt (eOp dIx (eVar 0) (eRet (.int 1)))] Str.empty))
def m_show_bill : Fn := fnM 1 13 <|
  sSeq (sTg (eVar 0) (tgT [tgV 1, tgV 2, tgV 3, tgV 4, tgV 5, tgV 6, tgV 7])) <|
  sSeq (sSet 8 (eIf (eAsB (eOp dNeD (eVar 1) (eTup (eNil)))) (eOp dJoin (chkS (eRet (.str (" " : Str)))) (eL (eLc [11] (eItems (eVar 1)) (tgV 11) (bYes) (eCall m_show_deed [] (eCons (eVar 11) (eNil)))))) (eRet d_NO_GROUPS))) <|
  sSeq (sSet 9 (eIf (eAsB (eOp dNeD (eVar 4) (eTup (eNil)))) (eOp dJoin (chkS (eRet (.str ("" : Str)))) (eL (eLc [12] (eItems (eVar 4)) (tgV 12) (bYes) (eMap dStr (eVar 12))))) (eRet d_NO_GROUPS))) <|
  sSeq (sSet 10 (eJoin [eMap dFmt (eVar 8), eRet (.str (" empty " : Str)), eMap dFmt (eVar 2), eRet (.str (" away " : Str)), eMap dFmt (eVar 3), eRet (.str (" opened " : Str)), eMap dFmt (eVar 9)] Str.empty)) <|
  sRet (eJoin [eMap dFmt (eVar 10), eRet (.str (" served " : Str)), eMap dFmt (eVar 5), eRet (.str (" unserved " : Str)), eMap dFmt (eVar 6), eRet (.str (" melted " : Str)), eMap dFmt (eVar 7)] Str.empty)
def m_law_bill_right : Fn := fnM 2 18 <|
  sSeq (sPar [2, 3] (eCons (eOp dIx (eVar 1) (eRet (.int 0))) (eCons (eTup (eNil)) (eNil)))) <|
  sSeq (sFor (eRng1 (eCons (eCall m_law_draw [] (eCons (eVar 0) (eCons (eRet (.int 5)) (eNil)))) (eNil))) (tgV 4) (sSeq (sSet 13 (eOp dCat (eLst (eCons (eTup (eCons (eRet (.str ("single" : Str))) (eCons (eRet (.int 1)) (eNil)))) (eNil))) (eLc [16] (eItems (eOp dIx (eVar 1) (eRet (.int 1)))) (tgV 16) (bYes) (eTup (eCons (eRet (.str ("group" : Str))) (eCons (eVar 16) (eNil))))))) <|
  sSeq (sSet 14 (eOp dIx (eVar 13) (eCall m_law_draw [] (eCons (eVar 0) (eCons (eMap dLen (eVar 13)) (eNil)))))) <|
  sIf (eAsB (eOp dLe (eOp dIx (eVar 14) (eRet (.int 1))) (eVar 2))) (sPar [3, 2] (eCons (eOp dAdd (eVar 3) (eTup (eCons (eVar 14) (eNil)))) (eCons (eOp dSub (eVar 2) (eOp dIx (eVar 14) (eRet (.int 1)))) (eNil)))) (sNext))) <|
  sSeq (sSet 5 (eMap dTuple (eL (eLc [4] (eRng1 (eCons (eCall m_law_draw [] (eCons (eVar 0) (eCons (eRet (.int 3)) (eNil)))) (eNil))) (tgV 4) (bYes) (eOp dIx (eOp dIx (eVar 1) (eRet (.int 4))) (eCall m_law_draw [] (eCons (eVar 0) (eCons (eMap dLen (eOp dIx (eVar 1) (eRet (.int 4)))) (eNil))))))))) <|
  sSeq (sSet 6 (eCall m_law_draw [] (eCons (eVar 0) (eCons (eOp dAdd (eOp dSub (eOp dIx (eVar 1) (eRet (.int 0))) (eVar 2)) (eRet (.int 1))) (eNil))))) <|
  sSeq (sSet 7 (eCall m_law_draw [] (eCons (eVar 0) (eCons (eOp dAdd (eOp dAdd (eOp dMul (eOp dIx (eOp dIx (eVar 1) (eRet (.int 3))) (eRet (.int 0))) (eOp dIx (eOp dIx (eVar 1) (eRet (.int 1))) (eMap dNeg (eRet (.int 1))))) (eOp dIx (eOp dIx (eVar 1) (eRet (.int 3))) (eRet (.int 1)))) (eRet (.int 1))) (eNil))))) <|
  sSeq (sSet 8 (eCall m_law_draw [] (eCons (eVar 0) (eCons (eOp dAdd (eOp dMul (eRet (.int 2)) (eOp dIx (eOp dIx (eVar 1) (eRet (.int 4))) (eMap dNeg (eRet (.int 1))))) (eRet (.int 1))) (eNil))))) <|
  sSeq (sIf (eAsB (eOp dLt (eVar 6) (eOp dSub (eOp dIx (eVar 1) (eRet (.int 0))) (eVar 2)))) (sSet 8 (eRet (.int 0))) (sNext)) <|
  sSeq (sSet 9 (eLst (eCons (eOp dIx (eLst (eCons (eRet (.int 0)) (eCons (eVar 2) (eNil)))) (eCall m_law_draw [] (eCons (eVar 0) (eCons (eRet (.int 2)) (eNil))))) (eCons (eVar 7) (eCons (eVar 6) (eCons (eOp dSub (eOp dSub (eOp dIx (eVar 1) (eRet (.int 0))) (eVar 2)) (eVar 6)) (eCons (eVar 8) (eNil)))))))) <|
  sSeq (sSet 10 (eOp dJoin (chkS (eRet (.str (" " : Str)))) (eL (eLc [15, 16] (eItems (eVar 3)) (tgT [tgV 15, tgV 16]) (bYes) (eIf (eAsB (eOp dEqD (eVar 15) (eRet (.str ("single" : Str))))) (eRet (.str ("s" : Str))) (eOp dAdd (eRet (.str ("g" : Str))) (eMap dStr (eVar 16)))))))) <|
  sSeq (sSet 11 (eOp dAdd (eOp dAdd (eOp dAdd (eOp dAdd (eOp dAdd (eOp dIx (eLst (eCons (eVar 10) (eCons (eRet (.str ("-" : Str))) (eNil)))) (eMap dInt (eOp dEqD (eVar 3) (eTup (eNil))))) (eRet (.str (" empty " : Str)))) (eMap dStr (eOp dIx (eVar 9) (eRet (.int 0))))) (eRet (.str (" away " : Str)))) (eMap dStr (eOp dIx (eVar 9) (eRet (.int 1))))) (eRet (.str (" opened " : Str))))) <|
  sSeq (sSet 11 (eOp dAdd (eOp dAdd (eOp dAdd (eVar 11) (eOp dIx (eLst (eCons (eOp dJoin (chkS (eRet (.str ("" : Str)))) (eL (eLc [17] (eItems (eVar 5)) (tgV 17) (bYes) (eMap dStr (eVar 17))))) (eCons (eRet (.str ("-" : Str))) (eNil)))) (eMap dInt (eOp dEqD (eVar 5) (eTup (eNil)))))) (eRet (.str (" served " : Str)))) (eMap dStr (eOp dIx (eVar 9) (eRet (.int 2)))))) <|
  sSeq (sSet 11 (eOp dAdd (eOp dAdd (eOp dAdd (eOp dAdd (eVar 11) (eRet (.str (" unserved " : Str)))) (eMap dStr (eOp dIx (eVar 9) (eRet (.int 3))))) (eRet (.str (" melted " : Str)))) (eMap dStr (eOp dIx (eVar 9) (eRet (.int 4)))))) <|
  sSeq (sSet 12 (eTup (eCons (eVar 3) (eCons (eOp dIx (eVar 9) (eRet (.int 0))) (eCons (eOp dIx (eVar 9) (eRet (.int 1))) (eCons (eVar 5) (eCons (eOp dIx (eVar 9) (eRet (.int 2))) (eCons (eOp dIx (eVar 9) (eRet (.int 3))) (eCons (eOp dIx (eVar 9) (eRet (.int 4))) (eNil)))))))))) <|
  sRet (eAndV (eCall (m_law_same 6) [] (eCons (eCall m_show_bill [] (eCons (eVar 12) (eNil))) (eCons (eVar 11) (eNil)))) (eOp dEqD (eCall m_show_bill [] (eKwA [0] [] eNil (eLen 1 (eCons (eVar 12) (eNil))))) (eVar 11)))
def m_law : Fn := fnM 1 7 <|
  sSeq (sFor (eRng1 (eCons (eMapL dMax2 (eCons (eRet (.int 1)) (eCons (eMapL dMin2 (eCons (eRet (.int 2)) (eCons (eOp dAdd (eMap dLen (eVar 0)) (eRet (.int 1))) (eNil)))) (eNil)))) (eNil))) (tgV 1) (sSeq (sSet 2 (eObj (eCallN m_law_urn [] (eCons (eVar 0) (eCons (eVar 1) (eNil)))))) <|
  sSeq (sSet 3 (eCall m_law_setup [] (eCons (eVar 2) (eNil)))) <|
  sSeq (sFor (eRng1 (eCons (eRet (.int 2)) (eNil))) (tgV 4) (sSeq (sSet 5 (eLc [6] (eRng1 (eCons (eCall m_law_draw [] (eCons (eVar 2) (eCons (eRet (.int 10)) (eNil)))) (eNil))) (tgV 6) (bYes) (eCall m_law_comers [] (eCons (eVar 2) (eCons (eVar 3) (eNil)))))) <|
  sIf (bOr (bNot (eTruth (eCall m_law_row_right [] (eCons (eVar 2) (eCons (eVar 3) (eCons (eVar 5) (eNil))))))) (bNot (eTruth (eCall m_law_bill_right [] (eCons (eVar 2) (eCons (eVar 3) (eNil))))))) (sRet (eRet (.bl false))) (sNext))) <|
  sIf (bOr (bNot (eTruth (eCall m_law_long_right [] (eCons (eVar 2) (eCons (eVar 3) (eNil)))))) (bNot (eTruth (eCall m_law_refused_right [] (eCons (eVar 2) (eCons (eVar 3) (eNil))))))) (sRet (eRet (.bl false))) (sNext))) <|
  sRet (eRet (.bl true))
/-! ### what the top has written -/
structure Txt (Pg : Program) (K : PySem.W.Frag) (mg : Str → Option Value) : Prop where
  b_all : mg ("all" : Str) = none
  b_bool : mg ("bool" : Str) = none
  b_enumerate : mg ("enumerate" : Str) = none
  b_int : mg ("int" : Str) = none
  b_isinstance : mg ("isinstance" : Str) = none
  b_len : mg ("len" : Str) = none
  b_list : mg ("list" : Str) = none
  b_max : mg ("max" : Str) = none
  b_min : mg ("min" : Str) = none
  b_range : mg ("range" : Str) = none
  b_str : mg ("str" : Str) = none
  b_tuple : mg ("tuple" : Str) = none
  b_zip : mg ("zip" : Str) = none
  c_DIGITS : Cst K mg (cas K) ("DIGITS" : Str) d_DIGITS
  c_MOST_BEATS : Cst K mg (cas K) ("MOST_BEATS" : Str) d_MOST_BEATS
  c_MOST_LIFE : Cst K mg (cas K) ("MOST_LIFE" : Str) d_MOST_LIFE
  c_MOST_PORTIONS : Cst K mg (cas K) ("MOST_PORTIONS" : Str) d_MOST_PORTIONS
  c_MOST_PRICE : Cst K mg (cas K) ("MOST_PRICE" : Str) d_MOST_PRICE
  c_MOST_SEATS : Cst K mg (cas K) ("MOST_SEATS" : Str) d_MOST_SEATS
  c_NO_GROUPS : Cst K mg (cas K) ("NO_GROUPS" : Str) d_NO_GROUPS
  c_NO_ROW : Cst K mg (cas K) ("NO_ROW" : Str) d_NO_ROW
  g_BadRow : mg ("BadRow" : Str) = some (.ref (He.ga K ("BadRow" : Str)))
  g_BadSetup : mg ("BadSetup" : Str) = some (.ref (He.ga K ("BadSetup" : Str)))
  g_BadText : mg ("BadText" : Str) = some (.ref (He.ga K ("BadText" : Str)))
  g_ParlourError : mg ("ParlourError" : Str) = some (.ref (He.ga K ("ParlourError" : Str)))
  i_BadRow : IsC K (cas K) (He.ga K ("BadRow" : Str)) is_BadRow
  i_BadSetup : IsC K (cas K) (He.ga K ("BadSetup" : Str)) is_BadSetup
  i_BadText : IsC K (cas K) (He.ga K ("BadText" : Str)) is_BadText
  t_ParlourError : Mts K (cas K) (.ref (He.ga K ("ParlourError" : Str))) mt_ParlourError
  x_place : ∀ k, plcs k = true → XfC K (cas K k) ∧ PySem.W.findIn K (.ref (cas K k)) "place" = some none
  e_BadSetup : PySem.W.excIn K (cas K 2) He.veBase "ValueError.__new__" = true ∧ PySem.W.keepIn K (.ref (cas K 2)) = true ∧ (∀ X : Cx, X.K = K → Raises X (.ref (cas K 2)))
  n_Words_all_words : NoAttr K (cas K 0) ("all_words" : Str)
  n_Words_next_index : NoAttr K (cas K 0) ("next_index" : Str)
  k_Words : Cls K (cas K 0)
  p_BadText : PlTxt K Pg (cas K 4) (He.ma K (cas K 4) "__init__")
section
variable {Pg : Program} {wo : World} {K : PySem.W.Frag} {mg : Str → Option Value} {base : Heap}
theorem sc_law_urn : FnScope [("_law_script" : Str), ("_law_k" : Str), ("_law_cell" : Str)] [("_law_script" : Str), ("_law_k" : Str)] (defScope s_law_urn) := ⟨rfl, rfl, rfl, by decide +kernel, rfl, by decide +kernel, by decide +kernel⟩
theorem ok_law_urn (T : Txt Pg K mg) {f : Addr} {fd : FuncData} (F : FunD K ("_law_urn" : Str) ("_law_urn" : Str) (defArgs s_law_urn) (defBody s_law_urn) (defScope s_law_urn) [] [] f fd)  : FOk Pg wo K mg base (cas K) 1 f fd [("_law_script" : Str), ("_law_k" : Str)] m_law_urn :=
  fn_ok F sc_law_urn fun cdv A outer s H E hr =>
    sss_cons (ss_set 2 sc_law_urn.nd (se_int))
      (sss_cons (ss_if (sb_cmp cr_lt (se_var 1) (so_e (se_len (so_e (se_var 0)) T.b_len))) (sss_one (ss_set 2 sc_law_urn.nd (se_ix (se_var 0) (se_var 1)))) (sss_nil))
      (sss_one (ss_retN (sn_lst (sa_cons (se_max2 rfl (sa_cons (se_int) (sa_cons (se_sub (se_var 2) (se_pow (se_int) (se_int))) (sa_nil))) T.b_max) (sa_cons (se_add (se_add (se_mod (se_int1 (so_e (se_var 2)) T.b_int) (se_add (se_pow (se_int) (se_int)) (se_int))) (se_mul (se_mul (se_int) (se_var 1)) (se_var 1))) (se_int)) (sa_cons (se_int) (sa_nil))))))))
theorem sc_law_draw : FnScope [("_law_urn_here" : Str), ("_law_many" : Str), ("_law_mixed" : Str), ("_law_found" : Str)] [("_law_urn_here" : Str), ("_law_many" : Str)] (defScope s_law_draw) := ⟨rfl, rfl, rfl, by decide +kernel, rfl, by decide +kernel, by decide +kernel⟩
theorem ok_law_draw (T : Txt Pg K mg) {f : Addr} {fd : FuncData} (F : FunD K ("_law_draw" : Str) ("_law_draw" : Str) (defArgs s_law_draw) (defBody s_law_draw) (defScope s_law_draw) [] [] f fd)  : FOk Pg wo K mg base (cas K) 1 f fd [("_law_urn_here" : Str), ("_law_many" : Str)] m_law_draw :=
  fn_ok F sc_law_draw fun cdv A outer s H E hr =>
    sss_cons (ss_if (sb_cmp cr_gt (se_ixB (se_var 0) (se_int)) (so_e (se_int))) (sss_cons (ss_set 3 sc_law_draw.nd (se_mod (se_int1 (so_e (se_ixB (se_var 0) (se_int))) T.b_int) (se_var 1)))
      (sss_cons (ss_putL (se_fdiv (se_ixB (se_var 0) (se_int)) (se_var 1)) (sp_ob (se_var 0)) (se_int))
      (sss_one (ss_ret (se_var 3))))) (sss_nil))
      (sss_cons (ss_putL (se_add (se_ixB (se_var 0) (se_int)) (se_int)) (sp_ob (se_var 0)) (se_int))
      (sss_cons (ss_set 2 sc_law_draw.nd (se_mod (se_int1 (so_e (se_pow (se_add (se_ixB (se_var 0) (se_int)) (se_mul (se_int) (se_ixB (se_var 0) (se_int)))) (se_int))) T.b_int) (se_add (se_pow (se_int) (se_int)) (se_int))))
      (sss_cons (ss_set 2 sc_law_draw.nd (se_mod (se_int1 (so_e (se_add (se_mul (se_var 2) (se_var 2)) (se_mul (se_int) (se_ixB (se_var 0) (se_int))))) T.b_int) (se_add (se_pow (se_int) (se_int)) (se_int))))
      (sss_one (ss_ret (se_mod (se_fdiv (se_var 2) (se_pow (se_int) (se_int))) (se_var 1)))))))
theorem sc_law_two : FnScope [("_law_urn_here" : Str), ("_law_high" : Str), ("_law_first" : Str)] [("_law_urn_here" : Str), ("_law_high" : Str)] (defScope s_law_two) := ⟨rfl, rfl, rfl, by decide +kernel, rfl, by decide +kernel, by decide +kernel⟩
theorem ok_law_two (T : Txt Pg K mg) {f : Addr} {fd : FuncData} (F : FunD K ("_law_two" : Str) ("_law_two" : Str) (defArgs s_law_two) (defBody s_law_two) (defScope s_law_two) [] [] f fd) (g_law_draw_2 : Fg Pg wo K mg base (cas K) 1 ("_law_draw" : Str) m_law_draw []) : FOk Pg wo K mg base (cas K) 2 f fd [("_law_urn_here" : Str), ("_law_high" : Str)] m_law_two :=
  fn_ok F sc_law_two fun cdv A outer s H E hr =>
    sss_cons (ss_set 2 sc_law_two.nd (se_add (se_int) (se_call g_law_draw_2 hr (by decide) (takes_of rfl rfl rfl rfl) (sa_cons (se_var 0) (sa_cons (se_var 1) (sa_nil))))))
      (sss_cons (ss_if (sb_w (sbw_and (sb_cmp cr_lt (se_var 2) (so_e (se_var 1))) (sbw_and1 (sb_cmp (cr_eq hr.units) (se_call g_law_draw_2 hr (by decide) (takes_of rfl rfl rfl rfl) (sa_cons (se_var 0) (sa_cons (se_int) (sa_nil)))) (so_e (se_int)))))) (sss_one (ss_ret (se_tup (sa_cons (se_var 2) (sa_cons (se_add (se_add (se_var 2) (se_int)) (se_call g_law_draw_2 hr (by decide) (takes_of rfl rfl rfl rfl) (sa_cons (se_var 0) (sa_cons (se_sub (se_var 1) (se_var 2)) (sa_nil))))) (sa_nil)))))) (sss_nil))
      (sss_one (ss_ret (se_tup (sa_cons (se_var 2) (sa_nil))))))
theorem sc_law_setup : FnScope [("_law_urn_here" : Str), ("_law_seats" : Str), ("_law_rooms" : Str), ("_law_comers_here" : Str), ("_law_prices" : Str), ("_law_place" : Str)] [("_law_urn_here" : Str)] (defScope s_law_setup) := ⟨rfl, rfl, rfl, by decide +kernel, rfl, by decide +kernel, by decide +kernel⟩
theorem ok_law_setup (T : Txt Pg K mg) {f : Addr} {fd : FuncData} (F : FunD K ("_law_setup" : Str) ("_law_setup" : Str) (defArgs s_law_setup) (defBody s_law_setup) (defScope s_law_setup) [] [] f fd) (g_law_draw_2 : Fg Pg wo K mg base (cas K) 1 ("_law_draw" : Str) m_law_draw []) (g_law_two_2 : Fg Pg wo K mg base (cas K) 2 ("_law_two" : Str) m_law_two []) : FOk Pg wo K mg base (cas K) 3 f fd [("_law_urn_here" : Str)] m_law_setup :=
  fn_ok F sc_law_setup fun cdv A outer s H E hr =>
    sss_cons (ss_set 1 sc_law_setup.nd (se_add (se_int) (se_call g_law_draw_2 hr (by decide) (takes_of rfl rfl rfl rfl) (sa_cons (se_var 0) (sa_cons (se_int) (sa_nil))))))
      (sss_cons (ss_par2 2 3 rfl sc_law_setup.nd (sa_cons (se_tup (sa_cons (se_add (se_int) (se_call g_law_draw_2 hr (by decide) (takes_of rfl rfl rfl rfl) (sa_cons (se_var 0) (sa_cons (se_int) (sa_nil))))) (sa_cons (se_call g_law_draw_2 hr (by decide) (takes_of rfl rfl rfl rfl) (sa_cons (se_var 0) (sa_cons (se_int) (sa_nil)))) (sa_nil)))) (sa_cons (se_tup (sa_cons (se_call g_law_draw_2 hr (by decide) (takes_of rfl rfl rfl rfl) (sa_cons (se_var 0) (sa_cons (se_int) (sa_nil)))) (sa_cons (se_call g_law_draw_2 hr (by decide) (takes_of rfl rfl rfl rfl) (sa_cons (se_var 0) (sa_cons (se_int) (sa_nil)))) (sa_nil)))) (sa_nil))))
      (sss_cons (ss_set 4 sc_law_setup.nd (se_tuple (sl_n (sn_lc (own := [(("_law_place" : Str), 5)]) rfl sc_law_setup.nd (si_rng1 (sa_cons (se_int) (sa_nil)) T.b_range) (blkOk_by (by kernel_rfl)) (fun _ _ _ _ _ => sg_name 5 sc_law_setup.nd) (fun _ _ _ _ _ => sts_nil) (fun _ _ _ _ _ => se_call g_law_draw_2 hr (by decide) takesF (sa_cons (se_var 0) (sa_cons (se_int) (sa_nil)))))) T.b_tuple))
      (sss_one (ss_ret (se_tup (sa_cons (se_var 1) (sa_cons (se_call g_law_two_2 hr (by decide) (takes_of rfl rfl rfl rfl) (sa_cons (se_var 0) (sa_cons (se_var 1) (sa_nil)))) (sa_cons (se_var 2) (sa_cons (se_var 3) (sa_cons (se_call g_law_two_2 hr (by decide) (takes_of rfl rfl rfl rfl) (sa_cons (se_var 0) (sa_cons (se_int) (sa_nil)))) (sa_cons (se_add (se_int) (se_call g_law_draw_2 hr (by decide) (takes_of rfl rfl rfl rfl) (sa_cons (se_var 0) (sa_cons (se_int) (sa_nil))))) (sa_cons (se_var 4) (sa_nil)))))))))))))
theorem sc_law_comers : FnScope [("_law_urn_here" : Str), ("_law_shop" : Str), ("_law_groups" : Str), ("_law_turn" : Str)] [("_law_urn_here" : Str), ("_law_shop" : Str)] (defScope s_law_comers) := ⟨rfl, rfl, rfl, by decide +kernel, rfl, by decide +kernel, by decide +kernel⟩
theorem ok_law_comers (T : Txt Pg K mg) {f : Addr} {fd : FuncData} (F : FunD K ("_law_comers" : Str) ("_law_comers" : Str) (defArgs s_law_comers) (defBody s_law_comers) (defScope s_law_comers) [] [] f fd) (g_law_draw_2 : Fg Pg wo K mg base (cas K) 1 ("_law_draw" : Str) m_law_draw []) : FOk Pg wo K mg base (cas K) 2 f fd [("_law_urn_here" : Str), ("_law_shop" : Str)] m_law_comers :=
  fn_ok F sc_law_comers fun cdv A outer s H E hr =>
    sss_cons (ss_set 2 sc_law_comers.nd (se_tuple (sl_n (sn_lc (own := [(("_law_turn" : Str), 3)]) rfl sc_law_comers.nd (si_rng1 (sa_cons (se_call g_law_draw_2 hr (by decide) (takes_of rfl rfl rfl rfl) (sa_cons (se_var 0) (sa_cons (se_add (se_ix (se_ix (se_var 1) (se_int)) (se_int)) (se_int)) (sa_nil)))) (sa_nil)) T.b_range) (blkOk_by (by kernel_rfl)) (fun _ _ _ _ _ => sg_name 3 sc_law_comers.nd) (fun _ _ _ _ _ => sts_nil) (fun _ _ _ _ _ => se_ix (se_ix (se_var 1) (se_int)) (se_call g_law_draw_2 hr (by decide) takesF (sa_cons (se_var 0) (sa_cons (se_len (so_e (se_ix (se_var 1) (se_int))) T.b_len) (sa_nil))))))) T.b_tuple))
      (sss_one (ss_ret (se_tup (sa_cons (se_var 2) (sa_cons (se_call g_law_draw_2 hr (by decide) (takes_of rfl rfl rfl rfl) (sa_cons (se_var 0) (sa_cons (se_add (se_ix (se_ix (se_var 1) (se_int)) (se_int)) (se_int)) (sa_nil)))) (sa_nil))))))
theorem sc_law_word : FnScope [("_law_comers_here" : Str), ("_law_sizes" : Str), ("_law_size" : Str)] [("_law_comers_here" : Str)] (defScope s_law_word) := ⟨rfl, rfl, rfl, by decide +kernel, rfl, by decide +kernel, by decide +kernel⟩
theorem ok_law_word (T : Txt Pg K mg) {f : Addr} {fd : FuncData} (F : FunD K ("_law_word" : Str) ("_law_word" : Str) (defArgs s_law_word) (defBody s_law_word) (defScope s_law_word) [] [] f fd)  : FOk Pg wo K mg base (cas K) 1 f fd [("_law_comers_here" : Str)] m_law_word :=
  fn_ok F sc_law_word fun cdv A outer s H E hr =>
    sss_cons (ss_set 1 sc_law_word.nd (se_join (se_str) (sl_n (sn_lc (own := [(("_law_size" : Str), 2)]) rfl sc_law_word.nd (si_e (se_ix (se_var 0) (se_int))) (blkOk_by (by kernel_rfl)) (fun _ _ _ _ _ => sg_name 2 sc_law_word.nd) (fun _ _ _ _ _ => sts_nil) (fun _ _ _ _ _ => se_str1 (so_e (se_var 2)) T.b_str)))))
      (sss_one (ss_ret (se_add (se_add (se_ix (se_n (sn_lst (sa_cons (se_var 1) (sa_cons (se_str) (sa_nil))))) (se_int1 (so_e (se_cmp (cr_eq hr.units) (se_ix (se_var 0) (se_int)) (so_e (se_tup (sa_nil))))) T.b_int)) (se_str)) (se_str1 (so_e (se_ix (se_var 0) (se_int))) T.b_str))))
theorem sc_law_words : FnScope [("_law_run" : Str), ("_law_comers_here" : Str)] [("_law_run" : Str)] (defScope s_law_words) := ⟨rfl, rfl, rfl, by decide +kernel, rfl, by decide +kernel, by decide +kernel⟩
theorem ok_law_words (T : Txt Pg K mg) {f : Addr} {fd : FuncData} (F : FunD K ("_law_words" : Str) ("_law_words" : Str) (defArgs s_law_words) (defBody s_law_words) (defScope s_law_words) [] [] f fd) (g_law_word_1 : Fg Pg wo K mg base (cas K) 1 ("_law_word" : Str) m_law_word []) : FOk Pg wo K mg base (cas K) 2 f fd [("_law_run" : Str)] m_law_words :=
  fn_ok F sc_law_words fun cdv A outer s H E hr =>
    sss_one (ss_ret (se_if (sb_cmp (cr_ne hr.units) (se_var 0) (so_n (sn_lst (sa_nil)))) (se_n (sn_lc (own := [(("_law_comers_here" : Str), 1)]) rfl sc_law_words.nd (si_e (se_var 0)) (blkOk_by (by kernel_rfl)) (fun _ _ _ _ _ => sg_name 1 sc_law_words.nd) (fun _ _ _ _ _ => sts_nil) (fun _ _ _ _ _ => se_call g_law_word_1 hr (by decide) takesF (sa_cons (se_var 1) (sa_nil))))) (se_n (sn_lst (sa_cons (se_str) (sa_nil))))))
theorem sc_law_same : FnScope [("_law_found" : Str), ("_law_due_here" : Str), ("_law_one" : Str), ("_law_other" : Str)] [("_law_found" : Str), ("_law_due_here" : Str)] (defScope s_law_same) := ⟨rfl, rfl, rfl, by decide +kernel, rfl, by decide +kernel, by decide +kernel⟩
theorem ok_law_same (T : Txt Pg K mg) {f : Addr} {fd : FuncData} (F : FunD K ("_law_same" : Str) ("_law_same" : Str) (defArgs s_law_same) (defBody s_law_same) (defScope s_law_same) [] [] f fd)  (n : Nat) (g_law_same_2 : Fg Pg wo K mg base (cas K) (1 + n) ("_law_same" : Str) (m_law_same n) []) : FOk Pg wo K mg base (cas K) (1 + n + 1) f fd [("_law_found" : Str), ("_law_due_here" : Str)] (m_law_same (n + 1)) :=
  fn_ok F sc_law_same fun cdv A outer s H E hr =>
    sss_cons (ss_if (sb_truth (so_e (se_isi (T := "tuple") (so_e (se_var 1)) T.b_tuple T.b_isinstance))) (sss_cons (ss_if (sb_w (sbw_or (sb_not (sb_truth (so_e (se_isi (T := "tuple") (so_e (se_var 0)) T.b_tuple T.b_isinstance)))) (sbw_or1 (sb_cmp (cr_ne hr.units) (se_len (so_e (se_var 0)) T.b_len) (so_e (se_len (so_e (se_var 1)) T.b_len)))))) (sss_one (ss_ret (se_bl))) (sss_nil))
      (sss_one (ss_ret (se_all rfl (so_n (sn_lc (own := [(("_law_one" : Str), 2), (("_law_other" : Str), 3)]) rfl sc_law_same.nd (si_zip2 (sa_cons (se_var 0) (sa_cons (se_var 1) (sa_nil))) T.b_zip) (blkOk_by (by kernel_rfl)) (fun _ _ _ _ _ => sg_tup rfl (sgs_cons (sg_name 2 sc_law_same.nd) (sgs_cons (sg_name 3 sc_law_same.nd) (sgs_nil)))) (fun _ _ _ _ _ => sts_nil) (fun _ _ _ _ _ => se_call g_law_same_2 hr (by first | decide | omega) takesF (sa_cons (se_var 2) (sa_cons (se_var 3) (sa_nil)))))) T.b_all)))) (sss_nil))
      (sss_cons (ss_if (sb_truth (so_e (se_isi (T := "int") (so_e (se_var 1)) T.b_int T.b_isinstance))) (sss_one (ss_ret (se_and (se_isi (T := "int") (so_e (se_var 0)) T.b_int T.b_isinstance) (se_and (se_not (so_e (se_isi (T := "bool") (so_e (se_var 0)) T.b_bool T.b_isinstance))) (se_one (se_cmp (cr_eq hr.units) (se_var 0) (so_e (se_var 1)))))))) (sss_nil))
      (sss_one (ss_ret (se_and (se_isi (T := "str") (so_e (se_var 0)) T.b_str T.b_isinstance) (se_one (se_cmp (cr_eq hr.units) (se_var 0) (so_e (se_var 1))))))))
theorem sc_law_as_due : FnScope [("_law_told" : Str), ("_law_due_here" : Str)] [("_law_told" : Str), ("_law_due_here" : Str)] (defScope s_law_as_due) := ⟨rfl, rfl, rfl, by decide +kernel, rfl, by decide +kernel, by decide +kernel⟩
theorem ok_law_as_due (T : Txt Pg K mg) {f : Addr} {fd : FuncData} (F : FunD K ("_law_as_due" : Str) ("_law_as_due" : Str) (defArgs s_law_as_due) (defBody s_law_as_due) (defScope s_law_as_due) [] [] f fd) (g_law_same_2 : Fg Pg wo K mg base (cas K) 7 ("_law_same" : Str) (m_law_same 6) []) : FOk Pg wo K mg base (cas K) 8 f fd [("_law_told" : Str), ("_law_due_here" : Str)] m_law_as_due :=
  fn_ok F sc_law_as_due fun cdv A outer s H E hr =>
    sss_cons (ss_if (sb_cmp cr_isN (se_ix (se_var 1) (se_int)) (so_e (se_non))) (sss_one (ss_ret (se_and (se_cmp cr_isN (se_ix (se_var 0) (se_int)) (so_e (se_non))) (se_and (se_isi (T := "list") (so_e (se_ix (se_var 0) (se_int))) T.b_list T.b_isinstance) (se_one (se_call g_law_same_2 hr (by decide) (takes_of rfl rfl rfl rfl) (sa_cons (se_tuple (sl_e (se_ix (se_var 0) (se_int))) T.b_tuple) (sa_cons (se_tuple (sl_e (se_ix (se_var 1) (se_int))) T.b_tuple) (sa_nil))))))))) (sss_nil))
      (sss_one (ss_ret (se_and (se_cmp cr_isN (se_ix (se_var 0) (se_int)) (so_e (se_non))) (se_and (se_isi (T := "int") (so_e (se_ix (se_var 0) (se_int))) T.b_int T.b_isinstance) (se_and (se_not (so_e (se_isi (T := "bool") (so_e (se_ix (se_var 0) (se_int))) T.b_bool T.b_isinstance))) (se_one (se_cmp (cr_eq hr.units) (se_ix (se_var 0) (se_int)) (so_e (se_ix (se_var 1) (se_int))))))))))
theorem sc_is_integer : FnScope [("thing" : Str), ("low" : Str), ("high" : Str)] [("thing" : Str), ("low" : Str), ("high" : Str)] (defScope s_is_integer) := ⟨rfl, rfl, rfl, by decide +kernel, rfl, by decide +kernel, by decide +kernel⟩
theorem ok_is_integer (T : Txt Pg K mg) {f : Addr} {fd : FuncData} (F : FunD K ("is_integer" : Str) ("is_integer" : Str) (defArgs s_is_integer) (defBody s_is_integer) (defScope s_is_integer) [V.non, V.non] [] f fd)  : FOk Pg wo K mg base (cas K) 1 f fd [("thing" : Str), ("low" : Str), ("high" : Str)] m_is_integer :=
  fn_ok F sc_is_integer fun cdv A outer s H E hr =>
    sss_cons (ss_if (sb_w (sbw_or (sb_not (sb_truth (so_e (se_isi (T := "int") (so_e (se_var 0)) T.b_int T.b_isinstance)))) (sbw_or1 (sb_truth (so_e (se_isi (T := "bool") (so_e (se_var 0)) T.b_bool T.b_isinstance)))))) (sss_one (ss_ret (se_bl))) (sss_nil))
      (sss_one (ss_ret (se_and (se_or (se_cmp cr_isN (se_var 1) (so_e (se_non))) (se_one (se_cmp cr_le (se_var 1) (so_e (se_var 0))))) (se_one (se_or (se_cmp cr_isN (se_var 2) (so_e (se_non))) (se_one (se_cmp cr_le (se_var 0) (so_e (se_var 2)))))))))
theorem sc_is_row_of : FnScope [("thing" : Str), ("lows" : Str), ("highs" : Str), ("one" : Str), ("low" : Str), ("high" : Str)] [("thing" : Str), ("lows" : Str), ("highs" : Str)] (defScope s_is_row_of) := ⟨rfl, rfl, rfl, by decide +kernel, rfl, by decide +kernel, by decide +kernel⟩
theorem ok_is_row_of (T : Txt Pg K mg) {f : Addr} {fd : FuncData} (F : FunD K ("is_row_of" : Str) ("is_row_of" : Str) (defArgs s_is_row_of) (defBody s_is_row_of) (defScope s_is_row_of) [] [] f fd) (g_is_integer_3 : Fg Pg wo K mg base (cas K) 1 ("is_integer" : Str) m_is_integer []) : FOk Pg wo K mg base (cas K) 2 f fd [("thing" : Str), ("lows" : Str), ("highs" : Str)] m_is_row_of :=
  fn_ok F sc_is_row_of fun cdv A outer s H E hr =>
    sss_cons (ss_if (sb_w (sbw_or (sb_not (sb_truth (so_e (se_isi (T := "tuple") (so_e (se_var 0)) T.b_tuple T.b_isinstance)))) (sbw_or1 (sb_cmp (cr_ne hr.units) (se_len (so_e (se_var 0)) T.b_len) (so_e (se_len (so_e (se_var 1)) T.b_len)))))) (sss_one (ss_ret (se_bl))) (sss_nil))
      (sss_one (ss_ret (se_all rfl (so_n (sn_lc (own := [(("one" : Str), 3), (("low" : Str), 4), (("high" : Str), 5)]) rfl sc_is_row_of.nd (si_zip3 (sa_cons (se_var 0) (sa_cons (se_var 1) (sa_cons (se_var 2) (sa_nil)))) T.b_zip) (blkOk_by (by kernel_rfl)) (fun _ _ _ _ _ => sg_tup rfl (sgs_cons (sg_name 3 sc_is_row_of.nd) (sgs_cons (sg_name 4 sc_is_row_of.nd) (sgs_cons (sg_name 5 sc_is_row_of.nd) (sgs_nil))))) (fun _ _ _ _ _ => sts_nil) (fun _ _ _ _ _ => se_call g_is_integer_3 hr (by decide) takesF (sa_cons (se_var 3) (sa_cons (se_var 4) (sa_cons (se_var 5) (sa_nil))))))) T.b_all)))
theorem sc_is_choice : FnScope [("thing" : Str), ("most" : Str), ("one" : Str)] [("thing" : Str), ("most" : Str)] (defScope s_is_choice) := ⟨rfl, rfl, rfl, by decide +kernel, rfl, by decide +kernel, by decide +kernel⟩
theorem ok_is_choice (T : Txt Pg K mg) {f : Addr} {fd : FuncData} (F : FunD K ("is_choice" : Str) ("is_choice" : Str) (defArgs s_is_choice) (defBody s_is_choice) (defScope s_is_choice) [] [] f fd) (g_is_integer_3 : Fg Pg wo K mg base (cas K) 1 ("is_integer" : Str) m_is_integer []) : FOk Pg wo K mg base (cas K) 2 f fd [("thing" : Str), ("most" : Str)] m_is_choice :=
  fn_ok F sc_is_choice fun cdv A outer s H E hr =>
    sss_cons (ss_if (sb_w (sbw_or (sb_not (sb_truth (so_e (se_isi (T := "tuple") (so_e (se_var 0)) T.b_tuple T.b_isinstance)))) (sbw_or1 (sb_cmp (cr_notIn hr.units) (se_len (so_e (se_var 0)) T.b_len) (so_e (se_tup (sa_cons (se_int) (sa_cons (se_int) (sa_nil))))))))) (sss_one (ss_ret (se_bl))) (sss_nil))
      (sss_cons (ss_if (sb_not (sb_truth (so_e (se_all rfl (so_n (sn_lc (own := [(("one" : Str), 2)]) rfl sc_is_choice.nd (si_e (se_var 0)) (blkOk_by (by kernel_rfl)) (fun _ _ _ _ _ => sg_name 2 sc_is_choice.nd) (fun _ _ _ _ _ => sts_nil) (fun _ _ _ _ _ => se_call g_is_integer_3 hr (by decide) takesF (sa_cons (se_var 2) (sa_cons (se_int) (sa_cons (se_var 1) (sa_nil))))))) T.b_all)))) (sss_one (ss_ret (se_bl))) (sss_nil))
      (sss_one (ss_ret (se_or (se_cmp (cr_eq hr.units) (se_len (so_e (se_var 0)) T.b_len) (so_e (se_int))) (se_one (se_cmp cr_lt (se_ix (se_var 0) (se_int)) (so_e (se_ix (se_var 0) (se_int)))))))))
theorem sc_is_setup : FnScope [("thing" : Str), ("seats" : Str), ("sizes" : Str), ("rooms" : Str), ("comers" : Str), ("kinds" : Str), ("life" : Str), ("prices" : Str)] [("thing" : Str)] (defScope s_is_setup) := ⟨rfl, rfl, rfl, by decide +kernel, rfl, by decide +kernel, by decide +kernel⟩
theorem ok_is_setup (T : Txt Pg K mg) {f : Addr} {fd : FuncData} (F : FunD K ("is_setup" : Str) ("is_setup" : Str) (defArgs s_is_setup) (defBody s_is_setup) (defScope s_is_setup) [] [] f fd) (g_is_integer_3 : Fg Pg wo K mg base (cas K) 1 ("is_integer" : Str) m_is_integer []) (g_is_choice_2 : Fg Pg wo K mg base (cas K) 2 ("is_choice" : Str) m_is_choice []) (g_is_row_of_3 : Fg Pg wo K mg base (cas K) 2 ("is_row_of" : Str) m_is_row_of []) : FOk Pg wo K mg base (cas K) 3 f fd [("thing" : Str)] m_is_setup :=
  fn_ok F sc_is_setup fun cdv A outer s H E hr =>
    sss_cons (ss_if (sb_w (sbw_or (sb_not (sb_truth (so_e (se_isi (T := "tuple") (so_e (se_var 0)) T.b_tuple T.b_isinstance)))) (sbw_or1 (sb_cmp (cr_ne hr.units) (se_len (so_e (se_var 0)) T.b_len) (so_e (se_int)))))) (sss_one (ss_ret (se_bl))) (sss_nil))
      (sss_cons (ss_tg (se_var 0) (sg_tup rfl (sgs_cons (sg_name 1 sc_is_setup.nd) (sgs_cons (sg_name 2 sc_is_setup.nd) (sgs_cons (sg_name 3 sc_is_setup.nd) (sgs_cons (sg_name 4 sc_is_setup.nd) (sgs_cons (sg_name 5 sc_is_setup.nd) (sgs_cons (sg_name 6 sc_is_setup.nd) (sgs_cons (sg_name 7 sc_is_setup.nd) (sgs_nil))))))))))
      (sss_cons (ss_if (sb_w (sbw_or (sb_not (sb_truth (so_e (se_call g_is_integer_3 hr (by decide) (takes_of rfl rfl rfl rfl) (sa_cons (se_var 1) (sa_cons (se_int) (sa_cons (se_cst T.c_MOST_SEATS) (sa_nil)))))))) (sbw_or1 (sb_not (sb_truth (so_e (se_call g_is_choice_2 hr (by decide) (takes_of rfl rfl rfl rfl) (sa_cons (se_var 2) (sa_cons (se_var 1) (sa_nil)))))))))) (sss_one (ss_ret (se_bl))) (sss_nil))
      (sss_cons (ss_if (sb_w (sbw_or (sb_not (sb_truth (so_e (se_call g_is_row_of_3 hr (by decide) (takes_of rfl rfl rfl rfl) (sa_cons (se_var 3) (sa_cons (se_tup (sa_cons (se_int) (sa_cons (se_int) (sa_nil)))) (sa_cons (se_tup (sa_cons (se_int) (sa_cons (se_int) (sa_nil)))) (sa_nil)))))))) (sbw_or1 (sb_not (sb_truth (so_e (se_call g_is_row_of_3 hr (by decide) (takes_of rfl rfl rfl rfl) (sa_cons (se_var 4) (sa_cons (se_tup (sa_cons (se_int) (sa_cons (se_int) (sa_nil)))) (sa_cons (se_tup (sa_cons (se_int) (sa_cons (se_int) (sa_nil)))) (sa_nil))))))))))) (sss_one (ss_ret (se_bl))) (sss_nil))
      (sss_cons (ss_if (sb_w (sbw_or (sb_not (sb_truth (so_e (se_call g_is_choice_2 hr (by decide) (takes_of rfl rfl rfl rfl) (sa_cons (se_var 5) (sa_cons (se_cst T.c_MOST_PORTIONS) (sa_nil))))))) (sbw_or1 (sb_not (sb_truth (so_e (se_call g_is_integer_3 hr (by decide) (takes_of rfl rfl rfl rfl) (sa_cons (se_var 6) (sa_cons (se_int) (sa_cons (se_cst T.c_MOST_LIFE) (sa_nil))))))))))) (sss_one (ss_ret (se_bl))) (sss_nil))
      (sss_one (ss_ret (se_call g_is_row_of_3 hr (by decide) (takes_of rfl rfl rfl rfl) (sa_cons (se_var 7) (sa_cons (se_tup (sa_cons (se_int) (sa_cons (se_int) (sa_cons (se_int) (sa_cons (se_int) (sa_nil)))))) (sa_cons (se_repT (se_tup (sa_cons (se_cst T.c_MOST_PRICE) (sa_nil))) (se_int)) (sa_nil)))))))))))
theorem sc_need_setup : FnScope [("setup" : Str)] [("setup" : Str)] (defScope s_need_setup) := ⟨rfl, rfl, rfl, by decide +kernel, rfl, by decide +kernel, by decide +kernel⟩
theorem ok_need_setup (T : Txt Pg K mg) {f : Addr} {fd : FuncData} (F : FunD K ("need_setup" : Str) ("need_setup" : Str) (defArgs s_need_setup) (defBody s_need_setup) (defScope s_need_setup) [] [] f fd) (g_is_setup_1 : Fg Pg wo K mg base (cas K) 3 ("is_setup" : Str) m_is_setup []) : FOk Pg wo K mg base (cas K) 4 f fd [("setup" : Str)] m_need_setup :=
  fn_ok F sc_need_setup fun cdv A outer s H E hr =>
    sss_one (ss_if (sb_not (sb_truth (so_e (se_call g_is_setup_1 hr (by decide) (takes_of rfl rfl rfl rfl) (sa_cons (se_var 0) (sa_nil)))))) (sss_one (ss_raise 2 PySem.F.excBase_ValueError T.e_BadSetup.1 T.e_BadSetup.2.1 (T.e_BadSetup.2.2 _ rfl) rfl (takes_of rfl rfl rfl rfl) T.g_BadSetup)) (sss_nil))
theorem sc_Words__init : FnScope [("self" : Str), ("text" : Str)] [("self" : Str), ("text" : Str)] (defScope s_Words__init) := ⟨rfl, rfl, rfl, by decide +kernel, rfl, by decide +kernel, by decide +kernel⟩
theorem ok_Words__init (T : Txt Pg K mg) {f : Addr} {fd : FuncData} (F : FunD K ("__init__" : Str) ("Words.__init__" : Str) (defArgs s_Words__init) (defBody s_Words__init) (defScope s_Words__init) [] [] f fd)  : FOk Pg wo K mg base (cas K) 1 f fd [("self" : Str), ("text" : Str)] m_Words__init :=
  fn_ok F sc_Words__init fun cdv A outer s H E hr =>
    sss_cons (ss_if (sb_not (sb_truth (so_e (se_isi (T := "str") (so_e (se_var 1)) T.b_str T.b_isinstance)))) (sss_one (ss_raiseP 4 T.p_BadText rfl hr (takes_of rfl rfl rfl rfl) (sa_cons (se_int) (sa_nil)) T.g_BadText)) (sss_nil))
      (sss_cons (ss_fld 0 T.k_Words T.n_Words_all_words (se_var 0) (se_n (sn_split (se_var 1) (se_str))))
      (sss_one (ss_fld 0 T.k_Words T.n_Words_next_index (se_var 0) (se_int))))
theorem sc_Words_peek : FnScope [("self" : Str)] [("self" : Str)] (defScope s_Words_peek) := ⟨rfl, rfl, rfl, by decide +kernel, rfl, by decide +kernel, by decide +kernel⟩
theorem ok_Words_peek (T : Txt Pg K mg) {f : Addr} {fd : FuncData} (F : FunD K ("peek" : Str) ("Words.peek" : Str) (defArgs s_Words_peek) (defBody s_Words_peek) (defScope s_Words_peek) [] [] f fd)  : FOk Pg wo K mg base (cas K) 1 f fd [("self" : Str)] m_Words_peek :=
  fn_ok F sc_Words_peek fun cdv A outer s H E hr =>
    sss_one (ss_ret (se_if (sb_cmp cr_lt (se_fld 0 T.k_Words T.n_Words_next_index (se_var 0)) (so_e (se_len (so_e (se_fld 0 T.k_Words T.n_Words_all_words (se_var 0))) T.b_len))) (se_ix (se_fld 0 T.k_Words T.n_Words_all_words (se_var 0)) (se_fld 0 T.k_Words T.n_Words_next_index (se_var 0))) (se_non)))
theorem sc_Words_skip : FnScope [("self" : Str)] [("self" : Str)] (defScope s_Words_skip) := ⟨rfl, rfl, rfl, by decide +kernel, rfl, by decide +kernel, by decide +kernel⟩
theorem ok_Words_skip (T : Txt Pg K mg) {f : Addr} {fd : FuncData} (F : FunD K ("skip" : Str) ("Words.skip" : Str) (defArgs s_Words_skip) (defBody s_Words_skip) (defScope s_Words_skip) [] [] f fd)  : FOk Pg wo K mg base (cas K) 1 f fd [("self" : Str)] m_Words_skip :=
  fn_ok F sc_Words_skip fun cdv A outer s H E hr =>
    sss_one (ss_fld 0 T.k_Words T.n_Words_next_index (se_var 0) (se_add (se_fld 0 T.k_Words T.n_Words_next_index (se_var 0)) (se_int)))
theorem sc_Words_refuse : FnScope [("self" : Str)] [("self" : Str)] (defScope s_Words_refuse) := ⟨rfl, rfl, rfl, by decide +kernel, rfl, by decide +kernel, by decide +kernel⟩
theorem ok_Words_refuse (T : Txt Pg K mg) {f : Addr} {fd : FuncData} (F : FunD K ("refuse" : Str) ("Words.refuse" : Str) (defArgs s_Words_refuse) (defBody s_Words_refuse) (defScope s_Words_refuse) [] [] f fd)  : FOk Pg wo K mg base (cas K) 1 f fd [("self" : Str)] m_Words_refuse :=
  fn_ok F sc_Words_refuse fun cdv A outer s H E hr =>
    sss_one (ss_raiseP 4 T.p_BadText rfl hr (takes_of rfl rfl rfl rfl) (sa_cons (se_fld 0 T.k_Words T.n_Words_next_index (se_var 0)) (sa_nil)) T.g_BadText)
theorem sc_Words_finish : FnScope [("self" : Str)] [("self" : Str)] (defScope s_Words_finish) := ⟨rfl, rfl, rfl, by decide +kernel, rfl, by decide +kernel, by decide +kernel⟩
theorem ok_Words_finish (T : Txt Pg K mg) {f : Addr} {fd : FuncData} (F : FunD K ("finish" : Str) ("Words.finish" : Str) (defArgs s_Words_finish) (defBody s_Words_finish) (defScope s_Words_finish) [] [] f fd) (g_Words_peek_m0 : Mg Pg wo K mg base (cas K) 1 0 ("peek" : Str) m_Words_peek []) (g_Words_refuse_m0 : Mg Pg wo K mg base (cas K) 1 0 ("refuse" : Str) m_Words_refuse []) : FOk Pg wo K mg base (cas K) 2 f fd [("self" : Str)] m_Words_finish :=
  fn_ok F sc_Words_finish fun cdv A outer s H E hr =>
    sss_one (ss_if (sb_cmp cr_notN (se_meth0 0 g_Words_peek_m0 hr (by decide) (takes_of rfl rfl rfl rfl) (se_var 0)) (so_e (se_non))) (sss_one (ss_expr (se_meth0 0 g_Words_refuse_m0 hr (by decide) (takes_of rfl rfl rfl rfl) (se_var 0)))) (sss_nil))
theorem sc_digit_in : FnScope [("word" : Str), ("low" : Str), ("high" : Str)] [("word" : Str), ("low" : Str), ("high" : Str)] (defScope s_digit_in) := ⟨rfl, rfl, rfl, by decide +kernel, rfl, by decide +kernel, by decide +kernel⟩
theorem ok_digit_in (T : Txt Pg K mg) {f : Addr} {fd : FuncData} (F : FunD K ("digit_in" : Str) ("digit_in" : Str) (defArgs s_digit_in) (defBody s_digit_in) (defScope s_digit_in) [] [] f fd)  : FOk Pg wo K mg base (cas K) 1 f fd [("word" : Str), ("low" : Str), ("high" : Str)] m_digit_in :=
  fn_ok F sc_digit_in fun cdv A outer s H E hr =>
    sss_cons (ss_if (sb_w (sbw_or (sb_not (sb_truth (so_e (se_isi (T := "str") (so_e (se_var 0)) T.b_str T.b_isinstance)))) (sbw_or (sb_cmp (cr_ne hr.units) (se_len (so_e (se_var 0)) T.b_len) (so_e (se_int))) (sbw_or1 (sb_cmp cr_notInS (se_var 0) (so_e (se_cst T.c_DIGITS))))))) (sss_one (ss_ret (se_non))) (sss_nil))
      (sss_one (ss_ret (se_if (sb_chain cr_le cr_le (se_var 1) (se_int1 (so_e (se_var 0)) T.b_int) (se_var 2)) (se_int1 (so_e (se_var 0)) T.b_int) (se_non))))
theorem sc_comers_in : FnScope [("setup" : Str), ("word" : Str), ("sizes" : Str), ("most" : Str), ("groups" : Str), ("plus" : Str), ("number" : Str), ("singles" : Str), ("found" : Str), ("sign" : Str), ("size" : Str)] [("setup" : Str), ("word" : Str)] (defScope s_comers_in) := ⟨rfl, rfl, rfl, by decide +kernel, rfl, by decide +kernel, by decide +kernel⟩
theorem ok_comers_in (T : Txt Pg K mg) {f : Addr} {fd : FuncData} (F : FunD K ("comers_in" : Str) ("comers_in" : Str) (defArgs s_comers_in) (defBody s_comers_in) (defScope s_comers_in) [] [] f fd) (g_digit_in_3 : Fg Pg wo K mg base (cas K) 1 ("digit_in" : Str) m_digit_in []) : FOk Pg wo K mg base (cas K) 2 f fd [("setup" : Str), ("word" : Str)] m_comers_in :=
  fn_ok F sc_comers_in fun cdv A outer s H E hr =>
    sss_cons (ss_tg (se_tup (sa_cons (se_ix (se_var 0) (se_int)) (sa_cons (se_ix (se_var 0) (se_int)) (sa_nil)))) (sg_tup rfl (sgs_cons (sg_name 2 sc_comers_in.nd) (sgs_cons (sg_name 3 sc_comers_in.nd) (sgs_nil)))))
      (sss_cons (ss_tg (se_part (se_var 1) (se_str)) (sg_tup rfl (sgs_cons (sg_name 4 sc_comers_in.nd) (sgs_cons (sg_name 5 sc_comers_in.nd) (sgs_cons (sg_name 6 sc_comers_in.nd) (sgs_nil))))))
      (sss_cons (ss_set 7 sc_comers_in.nd (se_call g_digit_in_3 hr (by decide) (takes_of rfl rfl rfl rfl) (sa_cons (se_var 6) (sa_cons (se_int) (sa_cons (se_ix (se_var 3) (se_int)) (sa_nil))))))
      (sss_cons (ss_if (sb_w (sbw_or (sb_cmp (cr_eq hr.units) (se_var 5) (so_e (se_str))) (sbw_or (sb_cmp (cr_eq hr.units) (se_var 4) (so_e (se_str))) (sbw_or1 (sb_cmp cr_isN (se_var 7) (so_e (se_non))))))) (sss_one (ss_ret (se_non))) (sss_nil))
      (sss_cons (ss_if (sb_cmp (cr_eq hr.units) (se_var 4) (so_e (se_cst T.c_NO_GROUPS))) (sss_one (ss_ret (se_tup (sa_cons (se_tup (sa_nil)) (sa_cons (se_var 7) (sa_nil)))))) (sss_nil))
      (sss_cons (ss_set 8 sc_comers_in.nd (se_tuple (sl_n (sn_lc (own := [(("sign" : Str), 9)]) rfl sc_comers_in.nd (si_e (se_var 4)) (blkOk_by (by kernel_rfl)) (fun _ _ _ _ _ => sg_name 9 sc_comers_in.nd) (fun _ _ _ _ _ => sts_nil) (fun _ _ _ _ _ => se_call g_digit_in_3 hr (by decide) takesF (sa_cons (se_var 9) (sa_cons (se_int) (sa_cons (se_int) (sa_nil))))))) T.b_tuple))
      (sss_cons (ss_if (sb_w (sbw_or (sb_cmp cr_gt (se_len (so_e (se_var 8)) T.b_len) (so_e (se_ix (se_var 3) (se_int)))) (sbw_or1 (sb_not (sb_truth (so_e (se_all rfl (so_n (sn_lc (own := [(("size" : Str), 10)]) rfl sc_comers_in.nd (si_e (se_var 8)) (blkOk_by (by kernel_rfl)) (fun _ _ _ _ _ => sg_name 10 sc_comers_in.nd) (fun _ _ _ _ _ => sts_nil) (fun _ _ _ _ _ => se_cmp (cr_in hr.units) (se_var 10) (so_e (se_var 2))))) T.b_all))))))) (sss_one (ss_ret (se_non))) (sss_nil))
      (sss_one (ss_ret (se_tup (sa_cons (se_var 8) (sa_cons (se_var 7) (sa_nil))))))))))))
theorem sc_read_row : FnScope [("setup" : Str), ("text" : Str), ("words" : Str), ("found" : Str), ("comers" : Str)] [("setup" : Str), ("text" : Str)] (defScope s_read_row) := ⟨rfl, rfl, rfl, by decide +kernel, rfl, by decide +kernel, by decide +kernel⟩
theorem ok_read_row (T : Txt Pg K mg) {f : Addr} {fd : FuncData} (F : FunD K ("read_row" : Str) ("read_row" : Str) (defArgs s_read_row) (defBody s_read_row) (defScope s_read_row) [] [] f fd) (g_need_setup_1 : Fg Pg wo K mg base (cas K) 4 ("need_setup" : Str) m_need_setup []) (g_Words__init_i1 : Ig Pg wo K mg base (cas K) 1 0 ("Words" : Str) m_Words__init []) (g_Words_peek_m0 : Mg Pg wo K mg base (cas K) 1 0 ("peek" : Str) m_Words_peek []) (g_Words_skip_m0 : Mg Pg wo K mg base (cas K) 1 0 ("skip" : Str) m_Words_skip []) (g_Words_finish_m0 : Mg Pg wo K mg base (cas K) 2 0 ("finish" : Str) m_Words_finish []) (g_comers_in_2 : Fg Pg wo K mg base (cas K) 2 ("comers_in" : Str) m_comers_in []) (g_Words_refuse_m0 : Mg Pg wo K mg base (cas K) 1 0 ("refuse" : Str) m_Words_refuse []) : FOk Pg wo K mg base (cas K) 5 f fd [("setup" : Str), ("text" : Str)] m_read_row :=
  fn_ok F sc_read_row fun cdv A outer s H E hr =>
    sss_cons (ss_expr (se_call g_need_setup_1 hr (by decide) (takes_of rfl rfl rfl rfl) (sa_cons (se_var 0) (sa_nil))))
      (sss_cons (ss_set 2 sc_read_row.nd (se_make 0 g_Words__init_i1 hr (by decide) (takes_of rfl rfl rfl rfl) (sa_cons (se_var 1) (sa_nil))))
      (sss_cons (ss_if (sb_cmp (cr_eq hr.units) (se_meth0 0 g_Words_peek_m0 hr (by decide) (takes_of rfl rfl rfl rfl) (se_var 2)) (so_e (se_cst T.c_NO_ROW))) (sss_cons (ss_expr (se_meth0 0 g_Words_skip_m0 hr (by decide) (takes_of rfl rfl rfl rfl) (se_var 2)))
      (sss_cons (ss_expr (se_meth0 0 g_Words_finish_m0 hr (by decide) (takes_of rfl rfl rfl rfl) (se_var 2)))
      (sss_one (ss_retN (sn_lst (sa_nil)))))) (sss_nil))
      (sss_cons (ss_own 3 sc_read_row.nd (sn_lst (sa_nil)))
      (sss_cons (ss_while 300 (passes_of rfl) (sb_cmp cr_notN (se_meth0 0 g_Words_peek_m0 hr (by decide) (takes_of rfl rfl rfl rfl) (se_var 2)) (so_e (se_non))) (sss_cons (ss_set 4 sc_read_row.nd (se_call g_comers_in_2 hr (by decide) (takes_of rfl rfl rfl rfl) (sa_cons (se_var 0) (sa_cons (se_meth0 0 g_Words_peek_m0 hr (by decide) (takes_of rfl rfl rfl rfl) (se_var 2)) (sa_nil)))))
      (sss_cons (ss_if (sb_w (sbw_or (sb_cmp cr_isN (se_var 4) (so_e (se_non))) (sbw_or1 (sb_cmp (cr_eq hr.units) (se_len (so_own 3) T.b_len) (so_e (se_cst T.c_MOST_BEATS)))))) (sss_one (ss_expr (se_meth0 0 g_Words_refuse_m0 hr (by decide) (takes_of rfl rfl rfl rfl) (se_var 2)))) (sss_nil))
      (sss_cons (ss_expr (se_meth0 0 g_Words_skip_m0 hr (by decide) (takes_of rfl rfl rfl rfl) (se_var 2)))
      (sss_one (ss_append (sp_cell 3) (se_var 4)))))))
      (sss_one (ss_retO 3))))))
theorem sc_law_read : FnScope [("_law_shop" : Str), ("_law_note" : Str), ("_law_found" : Str), ("_law_caught" : Str), ("e" : Str)] [("_law_shop" : Str), ("_law_note" : Str)] (defScope s_law_read) := ⟨rfl, rfl, rfl, by decide +kernel, rfl, by decide +kernel, by decide +kernel⟩
theorem ok_law_read (T : Txt Pg K mg) {f : Addr} {fd : FuncData} (F : FunD K ("_law_read" : Str) ("_law_read" : Str) (defArgs s_law_read) (defBody s_law_read) (defScope s_law_read) [] [] f fd) (g_read_row_2 : Fg Pg wo K mg base (cas K) 5 ("read_row" : Str) m_read_row []) : FOk Pg wo K mg base (cas K) 6 f fd [("_law_shop" : Str), ("_law_note" : Str)] m_law_read :=
  fn_ok F sc_law_read fun cdv A outer s H E hr =>
    sss_cons (ss_tg (se_tup (sa_cons (se_non) (sa_cons (se_non) (sa_nil)))) (sg_tup rfl (sgs_cons (sg_name 2 sc_law_read.nd) (sgs_cons (sg_name 3 sc_law_read.nd) (sgs_nil)))))
      (sss_cons (ss_tryK 4 3 T.t_ParlourError rfl rfl rfl sc_law_read.nd ⟨rfl, by decide, Or.inl T.g_ParlourError⟩ (takes_of rfl rfl rfl rfl) (fun _ _ _ t1 t2 => sss_one (ss_set 2 sc_law_read.nd (se_n (sn_call g_read_row_2 hr (by decide) t1 (sa_cons (se_var 0) (sa_cons (se_var 1) (sa_nil))))))))
      (sss_cons (ss_if (sb_w (sbw_and (sb_truth (so_e (se_isX T.i_BadText (se_var 3) T.g_BadText T.b_isinstance))) (sbw_and1 (sb_not (sb_truth (so_e (se_isX2 T.i_BadRow T.i_BadSetup (se_var 3) T.g_BadRow T.g_BadSetup T.b_isinstance))))))) (sss_one (ss_ret (se_tup (sa_cons (se_non) (sa_cons (se_place T.x_place (se_var 3)) (sa_nil)))))) (sss_nil))
      (sss_one (ss_ret (se_if (sb_truth (so_e (se_isX T.i_BadSetup (se_var 3) T.g_BadSetup T.b_isinstance))) (se_tup (sa_cons (se_non) (sa_cons (se_str) (sa_nil)))) (se_tup (sa_cons (se_var 2) (sa_cons (se_non) (sa_nil)))))))))
theorem sc_law_long_right : FnScope [("_law_urn_here" : Str), ("_law_shop" : Str), ("_law_run" : Str), ("_law_more" : Str), ("_law_words_here" : Str), ("_law_turn" : Str)] [("_law_urn_here" : Str), ("_law_shop" : Str)] (defScope s_law_long_right) := ⟨rfl, rfl, rfl, by decide +kernel, rfl, by decide +kernel, by decide +kernel⟩
theorem ok_law_long_right (T : Txt Pg K mg) {f : Addr} {fd : FuncData} (F : FunD K ("_law_long_right" : Str) ("_law_long_right" : Str) (defArgs s_law_long_right) (defBody s_law_long_right) (defScope s_law_long_right) [] [] f fd) (g_law_comers_2 : Fg Pg wo K mg base (cas K) 2 ("_law_comers" : Str) m_law_comers []) (g_law_words_1 : Fg Pg wo K mg base (cas K) 2 ("_law_words" : Str) m_law_words []) (g_law_as_due_2 : Fg Pg wo K mg base (cas K) 8 ("_law_as_due" : Str) m_law_as_due []) (g_law_read_2 : Fg Pg wo K mg base (cas K) 6 ("_law_read" : Str) m_law_read []) : FOk Pg wo K mg base (cas K) 9 f fd [("_law_urn_here" : Str), ("_law_shop" : Str)] m_law_long_right :=
  fn_ok F sc_law_long_right fun cdv A outer s H E hr =>
    sss_cons (ss_setLc 2 (own := [(("_law_turn" : Str), 5)]) rfl sc_law_long_right.nd (si_rng1 (sa_cons (se_int) (sa_nil)) T.b_range) (blkOk_by (by kernel_rfl)) (fun _ _ _ _ _ => sg_name 5 sc_law_long_right.nd) (fun _ _ _ _ _ => sts_nil) (fun _ _ _ _ _ => se_call g_law_comers_2 hr (by decide) takesF (sa_cons (se_var 0) (sa_cons (se_var 1) (sa_nil)))) sw_one)
      (sss_cons (ss_for (passes_of rfl) rfl (si_rng1 (sa_cons (se_int) (sa_nil)) T.b_range) (sg_name 3 sc_law_long_right.nd) (sss_cons (ss_set 4 sc_law_long_right.nd (se_call g_law_words_1 hr (by decide) (takes_of rfl rfl rfl rfl) (sa_cons (se_var 2) (sa_nil))))
      (sss_cons (ss_if (sb_not (sb_truth (so_e (se_call g_law_as_due_2 hr (by decide) (takes_of rfl rfl rfl rfl) (sa_cons (se_call g_law_read_2 hr (by decide) (takes_of rfl rfl rfl rfl) (sa_cons (se_var 1) (sa_cons (se_join (se_str) (sl_e (se_var 4))) (sa_nil)))) (sa_cons (se_if (sb_cmp (cr_eq hr.units) (se_var 3) (so_e (se_int))) (se_tup (sa_cons (se_non) (sa_cons (se_int) (sa_nil)))) (se_tup (sa_cons (se_var 2) (sa_cons (se_non) (sa_nil))))) (sa_nil))))))) (sss_one (ss_ret (se_bl))) (sss_nil))
      (sss_one (ss_set 2 sc_law_long_right.nd (se_n (sn_cat (se_var 2) (se_n (sn_lst (sa_cons (se_tup (sa_cons (se_tup (sa_nil)) (sa_cons (se_int) (sa_nil)))) (sa_nil)))))))))))
      (sss_one (ss_ret (se_bl))))
theorem sc_law_refused_right : FnScope [("_law_urn_here" : Str), ("_law_shop" : Str), ("_law_odd_here" : Str), ("_law_bad" : Str)] [("_law_urn_here" : Str), ("_law_shop" : Str)] (defScope s_law_refused_right) := ⟨rfl, rfl, rfl, by decide +kernel, rfl, by decide +kernel, by decide +kernel⟩
theorem ok_law_refused_right (T : Txt Pg K mg) {f : Addr} {fd : FuncData} (F : FunD K ("_law_refused_right" : Str) ("_law_refused_right" : Str) (defArgs s_law_refused_right) (defBody s_law_refused_right) (defScope s_law_refused_right) [] [] f fd) (g_law_draw_2 : Fg Pg wo K mg base (cas K) 1 ("_law_draw" : Str) m_law_draw []) (g_law_as_due_2 : Fg Pg wo K mg base (cas K) 8 ("_law_as_due" : Str) m_law_as_due []) (g_law_read_2 : Fg Pg wo K mg base (cas K) 6 ("_law_read" : Str) m_law_read []) : FOk Pg wo K mg base (cas K) 9 f fd [("_law_urn_here" : Str), ("_law_shop" : Str)] m_law_refused_right :=
  fn_ok F sc_law_refused_right fun cdv A outer s H E hr =>
    sss_cons (ss_set 2 sc_law_refused_right.nd (se_ix (se_n (sn_lst (sa_cons (se_non) (sa_cons (se_int) (sa_cons (se_bl) (sa_cons (se_n (sn_lst (sa_cons (se_str) (sa_nil)))) (sa_cons (se_tup (sa_cons (se_str) (sa_nil))) (sa_cons (se_n (sn_dic0)) (sa_nil))))))))) (se_call g_law_draw_2 hr (by decide) (takes_of rfl rfl rfl rfl) (sa_cons (se_var 0) (sa_cons (se_int) (sa_nil))))))
      (sss_cons (ss_set 3 sc_law_refused_right.nd (se_ix (se_n (sn_lst (sa_cons (se_non) (sa_cons (se_sl (se_var 1) (spt_none) (spt_some (se_int))) (sa_cons (se_n (sn_list (sl_e (se_var 1)) T.b_list)) (sa_cons (se_add (se_tup (sa_cons (se_int) (sa_nil))) (se_sl (se_var 1) (spt_some (se_int)) (spt_none))) (sa_cons (se_add (se_add (se_sl (se_var 1) (spt_none) (spt_some (se_int))) (se_tup (sa_cons (se_int) (sa_nil)))) (se_sl (se_var 1) (spt_some (se_int)) (spt_none))) (sa_cons (se_add (se_add (se_sl (se_var 1) (spt_none) (spt_some (se_int))) (se_tup (sa_cons (se_n (sn_lst (sa_cons (se_int) (sa_nil)))) (sa_nil)))) (se_sl (se_var 1) (spt_some (se_int)) (spt_none))) (sa_nil))))))))) (se_call g_law_draw_2 hr (by decide) (takes_of rfl rfl rfl rfl) (sa_cons (se_var 0) (sa_cons (se_int) (sa_nil))))))
      (sss_cons (ss_if (sb_not (sb_truth (so_e (se_call g_law_as_due_2 hr (by decide) (takes_of rfl rfl rfl rfl) (sa_cons (se_call g_law_read_2 hr (by decide) (takes_of rfl rfl rfl rfl) (sa_cons (se_var 1) (sa_cons (se_var 2) (sa_nil)))) (sa_cons (se_tup (sa_cons (se_non) (sa_cons (se_int) (sa_nil)))) (sa_nil))))))) (sss_one (ss_ret (se_bl))) (sss_nil))
      (sss_one (ss_ret (se_and (se_cmp (cr_eq hr.units) (se_call g_law_read_2 hr (by decide) (takes_of rfl rfl rfl rfl) (sa_cons (se_var 3) (sa_cons (se_var 2) (sa_nil)))) (so_e (se_tup (sa_cons (se_non) (sa_cons (se_str) (sa_nil)))))) (se_and (se_cmp (cr_eq hr.units) (se_call g_law_read_2 hr (by decide) (takes_of rfl rfl rfl rfl) (sa_cons (se_var 3) (sa_cons (se_str) (sa_nil)))) (so_e (se_tup (sa_cons (se_non) (sa_cons (se_str) (sa_nil)))))) (se_one (se_cmp (cr_eq hr.units) (se_call g_law_read_2 hr (by decide) (takes_of rfl rfl rfl rfl) (sa_cons (se_var 3) (sa_cons (se_str) (sa_nil)))) (so_e (se_tup (sa_cons (se_non) (sa_cons (se_str) (sa_nil)))))))))))))
theorem sc_comers_of : FnScope [("setup" : Str), ("groups" : Str), ("found" : Str), ("some" : Str), ("size" : Str), ("singles" : Str)] [("setup" : Str)] (defScope s_comers_of) := ⟨rfl, rfl, rfl, by decide +kernel, rfl, by decide +kernel, by decide +kernel⟩
theorem ok_comers_of (T : Txt Pg K mg) {f : Addr} {fd : FuncData} (F : FunD K ("comers_of" : Str) ("comers_of" : Str) (defArgs s_comers_of) (defBody s_comers_of) (defScope s_comers_of) [] [] f fd)  : FOk Pg wo K mg base (cas K) 1 f fd [("setup" : Str)] m_comers_of :=
  fn_ok F sc_comers_of fun cdv A outer s H E hr =>
    sss_cons (ss_set 1 sc_comers_of.nd (se_n (sn_lst (sa_cons (se_tup (sa_nil)) (sa_nil)))))
      (sss_cons (ss_if (sb_cmp cr_gt (se_ix (se_ix (se_var 0) (se_int)) (se_int)) (so_e (se_int))) (sss_one (ss_set 1 sc_comers_of.nd (se_n (sn_cat (se_var 1) (se_n (sn_lc (own := [(("size" : Str), 4)]) rfl sc_comers_of.nd (si_e (se_ix (se_var 0) (se_int))) (blkOk_by (by kernel_rfl)) (fun _ _ _ _ _ => sg_name 4 sc_comers_of.nd) (fun _ _ _ _ _ => sts_nil) (fun _ _ _ _ _ => se_tup (sa_cons (se_var 4) (sa_nil))))))))) (sss_nil))
      (sss_cons (ss_own 2 sc_comers_of.nd (sn_lst (sa_nil)))
      (sss_cons (ss_for (passes_of rfl) rfl (si_e (se_var 1)) (sg_name 3 sc_comers_of.nd) (sss_one (ss_extend (sp_cell 2) (sn_lc (own := [(("singles" : Str), 5)]) rfl sc_comers_of.nd (si_rng1 (sa_cons (se_add (se_ix (se_ix (se_var 0) (se_int)) (se_int)) (se_int)) (sa_nil)) T.b_range) (blkOk_by (by kernel_rfl)) (fun _ _ _ _ _ => sg_name 5 sc_comers_of.nd) (fun _ _ _ _ _ => sts_nil) (fun _ _ _ _ _ => se_tup (sa_cons (se_var 3) (sa_cons (se_var 5) (sa_nil))))))))
      (sss_one (ss_retO 2)))))
theorem sc_all_comers : FnScope [("setup" : Str)] [("setup" : Str)] (defScope s_all_comers) := ⟨rfl, rfl, rfl, by decide +kernel, rfl, by decide +kernel, by decide +kernel⟩
theorem ok_all_comers (T : Txt Pg K mg) {f : Addr} {fd : FuncData} (F : FunD K ("all_comers" : Str) ("all_comers" : Str) (defArgs s_all_comers) (defBody s_all_comers) (defScope s_all_comers) [] [] f fd) (g_need_setup_1 : Fg Pg wo K mg base (cas K) 4 ("need_setup" : Str) m_need_setup []) (g_comers_of_1 : Fg Pg wo K mg base (cas K) 1 ("comers_of" : Str) m_comers_of []) : FOk Pg wo K mg base (cas K) 5 f fd [("setup" : Str)] m_all_comers :=
  fn_ok F sc_all_comers fun cdv A outer s H E hr =>
    sss_cons (ss_expr (se_call g_need_setup_1 hr (by decide) (takes_of rfl rfl rfl rfl) (sa_cons (se_var 0) (sa_nil))))
      (sss_one (ss_retN (sn_call g_comers_of_1 hr (by decide) (takes_of rfl rfl rfl rfl) (sa_cons (se_var 0) (sa_nil)))))
theorem sc_comers_text : FnScope [("comers" : Str), ("groups" : Str), ("singles" : Str), ("sizes" : Str), ("size" : Str)] [("comers" : Str)] (defScope s_comers_text) := ⟨rfl, rfl, rfl, by decide +kernel, rfl, by decide +kernel, by decide +kernel⟩
theorem ok_comers_text (T : Txt Pg K mg) {f : Addr} {fd : FuncData} (F : FunD K ("comers_text" : Str) ("comers_text" : Str) (defArgs s_comers_text) (defBody s_comers_text) (defScope s_comers_text) [] [] f fd)  : FOk Pg wo K mg base (cas K) 1 f fd [("comers" : Str)] m_comers_text :=
  fn_ok F sc_comers_text fun cdv A outer s H E hr =>
    sss_cons (ss_tg (se_var 0) (sg_tup rfl (sgs_cons (sg_name 1 sc_comers_text.nd) (sgs_cons (sg_name 2 sc_comers_text.nd) (sgs_nil)))))
      (sss_cons (ss_set 3 sc_comers_text.nd (se_if (sb_cmp (cr_ne hr.units) (se_var 1) (so_e (se_tup (sa_nil)))) (se_join (se_str) (sl_n (sn_lc (own := [(("size" : Str), 4)]) rfl sc_comers_text.nd (si_e (se_var 1)) (blkOk_by (by kernel_rfl)) (fun _ _ _ _ _ => sg_name 4 sc_comers_text.nd) (fun _ _ _ _ _ => sts_nil) (fun _ _ _ _ _ => se_str1 (so_e (se_var 4)) T.b_str)))) (se_cst T.c_NO_GROUPS)))
      (sss_one (ss_ret (se_joined (sj_cons (se_fmt (se_var 3)) (sj_cons (se_str) (sj_cons (se_fmt (se_var 2)) (sj_nil))))))))
theorem sc_show_row : FnScope [("row" : Str), ("comers" : Str)] [("row" : Str)] (defScope s_show_row) := ⟨rfl, rfl, rfl, by decide +kernel, rfl, by decide +kernel, by decide +kernel⟩
theorem ok_show_row (T : Txt Pg K mg) {f : Addr} {fd : FuncData} (F : FunD K ("show_row" : Str) ("show_row" : Str) (defArgs s_show_row) (defBody s_show_row) (defScope s_show_row) [] [] f fd) (g_comers_text_1 : Fg Pg wo K mg base (cas K) 1 ("comers_text" : Str) m_comers_text []) : FOk Pg wo K mg base (cas K) 2 f fd [("row" : Str)] m_show_row :=
  fn_ok F sc_show_row fun cdv A outer s H E hr =>
    sss_one (ss_ret (se_if (sb_cmp (cr_ne hr.units) (se_var 0) (so_n (sn_lst (sa_nil)))) (se_join (se_str) (sl_n (sn_lc (own := [(("comers" : Str), 1)]) rfl sc_show_row.nd (si_e (se_var 0)) (blkOk_by (by kernel_rfl)) (fun _ _ _ _ _ => sg_name 1 sc_show_row.nd) (fun _ _ _ _ _ => sts_nil) (fun _ _ _ _ _ => se_call g_comers_text_1 hr (by decide) takesF (sa_cons (se_var 1) (sa_nil)))))) (se_cst T.c_NO_ROW)))
theorem sc_law_odd : FnScope [("_law_urn_here" : Str), ("_law_some" : Str)] [("_law_urn_here" : Str)] (defScope s_law_odd) := ⟨rfl, rfl, rfl, by decide +kernel, rfl, by decide +kernel, by decide +kernel⟩
theorem ok_law_odd (T : Txt Pg K mg) {f : Addr} {fd : FuncData} (F : FunD K ("_law_odd" : Str) ("_law_odd" : Str) (defArgs s_law_odd) (defBody s_law_odd) (defScope s_law_odd) [] [] f fd) (g_law_draw_2 : Fg Pg wo K mg base (cas K) 1 ("_law_draw" : Str) m_law_draw []) : FOk Pg wo K mg base (cas K) 2 f fd [("_law_urn_here" : Str)] m_law_odd :=
  fn_ok F sc_law_odd fun cdv A outer s H E hr =>
    sss_cons (ss_set 1 sc_law_odd.nd (se_n (sn_lst (sa_cons (se_str) (sa_cons (se_str) (sa_cons (se_str) (sa_cons (se_str) (sa_cons (se_str) (sa_cons (se_str) (sa_cons (se_str) (sa_cons (se_str) (sa_cons (se_str) (sa_cons (se_str) (sa_cons (se_str) (sa_cons (se_str) (sa_cons (se_str) (sa_cons (se_str) (sa_cons (se_str) (sa_cons (se_str) (sa_cons (se_str) (sa_cons (se_str) (sa_nil))))))))))))))))))))))
      (sss_cons (ss_set 1 sc_law_odd.nd (se_n (sn_cat (se_var 1) (se_n (sn_lst (sa_cons (se_str) (sa_cons (se_str) (sa_cons (se_str) (sa_cons (se_str) (sa_cons (se_str) (sa_cons (se_str) (sa_cons (se_str) (sa_cons (se_str) (sa_cons (se_str) (sa_cons (se_str) (sa_cons (se_str) (sa_cons (se_str) (sa_cons (se_str) (sa_cons (se_str) (sa_nil))))))))))))))))))))
      (sss_one (ss_ret (se_ix (se_var 1) (se_call g_law_draw_2 hr (by decide) (takes_of rfl rfl rfl rfl) (sa_cons (se_var 0) (sa_cons (se_len (so_e (se_var 1)) T.b_len) (sa_nil))))))))
theorem sc_law_bent : FnScope [("_law_urn_here" : Str), ("_law_words_here" : Str), ("_law_found" : Str), ("_law_turn" : Str), ("_law_at" : Str), ("_law_way" : Str), ("_law_word_here" : Str), ("_law_place" : Str)] [("_law_urn_here" : Str), ("_law_words_here" : Str)] (defScope s_law_bent) := ⟨rfl, rfl, rfl, by decide +kernel, rfl, by decide +kernel, by decide +kernel⟩
theorem ok_law_bent (T : Txt Pg K mg) {f : Addr} {fd : FuncData} (F : FunD K ("_law_bent" : Str) ("_law_bent" : Str) (defArgs s_law_bent) (defBody s_law_bent) (defScope s_law_bent) [] [] f fd) (g_law_draw_2 : Fg Pg wo K mg base (cas K) 1 ("_law_draw" : Str) m_law_draw []) (g_law_odd_1 : Fg Pg wo K mg base (cas K) 2 ("_law_odd" : Str) m_law_odd []) : FOk Pg wo K mg base (cas K) 3 f fd [("_law_urn_here" : Str), ("_law_words_here" : Str)] m_law_bent :=
  fn_ok F sc_law_bent fun cdv A outer s H E hr =>
    sss_cons (ss_set 2 sc_law_bent.nd (se_n (sn_list (sl_e (se_var 1)) T.b_list)))
      (sss_cons (ss_for (passes_of rfl) rfl (si_rng1 (sa_cons (se_call g_law_draw_2 hr (by decide) (takes_of rfl rfl rfl rfl) (sa_cons (se_var 0) (sa_cons (se_int) (sa_nil)))) (sa_nil)) T.b_range) (sg_name 3 sc_law_bent.nd) (sss_cons (ss_par2 4 5 rfl sc_law_bent.nd (sa_cons (se_call g_law_draw_2 hr (by decide) (takes_of rfl rfl rfl rfl) (sa_cons (se_var 0) (sa_cons (se_add (se_len (so_e (se_var 2)) T.b_len) (se_int)) (sa_nil)))) (sa_cons (se_call g_law_draw_2 hr (by decide) (takes_of rfl rfl rfl rfl) (sa_cons (se_var 0) (sa_cons (se_int) (sa_nil)))) (sa_nil))))
      (sss_one (ss_if (sb_cmp (cr_eq hr.units) (se_var 5) (so_e (se_int))) (sss_one (ss_set 2 sc_law_bent.nd (se_n (sn_cat (se_n (sn_cat (se_sl (se_var 2) (spt_none) (spt_some (se_var 4))) (se_n (sn_lst (sa_cons (se_call g_law_odd_1 hr (by decide) (takes_of rfl rfl rfl rfl) (sa_cons (se_var 0) (sa_nil))) (sa_nil)))))) (se_sl (se_var 2) (spt_some (se_add (se_var 4) (se_int))) (spt_none)))))) (sss_one (ss_if (sb_cmp (cr_eq hr.units) (se_var 5) (so_e (se_int))) (sss_one (ss_set 2 sc_law_bent.nd (se_n (sn_cat (se_n (sn_cat (se_sl (se_var 2) (spt_none) (spt_some (se_var 4))) (se_n (sn_lst (sa_cons (se_call g_law_odd_1 hr (by decide) (takes_of rfl rfl rfl rfl) (sa_cons (se_var 0) (sa_nil))) (sa_nil)))))) (se_sl (se_var 2) (spt_some (se_var 4)) (spt_none)))))) (sss_one (ss_if (sb_cmp (cr_eq hr.units) (se_var 5) (so_e (se_int))) (sss_one (ss_set 2 sc_law_bent.nd (se_n (sn_cat (se_sl (se_var 2) (spt_none) (spt_some (se_var 4))) (se_sl (se_var 2) (spt_some (se_add (se_var 4) (se_int))) (spt_none)))))) (sss_one (ss_if (sb_cmp (cr_eq hr.units) (se_var 5) (so_e (se_int))) (sss_one (ss_set 2 sc_law_bent.nd (se_n (sn_cat (se_n (sn_cat (se_sl (se_var 2) (spt_none) (spt_some (se_var 4))) (se_sl (se_var 2) (spt_some (se_var 4)) (spt_some (se_add (se_var 4) (se_int)))))) (se_sl (se_var 2) (spt_some (se_var 4)) (spt_none)))))) (sss_one (ss_if (sb_w (sbw_and (sb_cmp (cr_eq hr.units) (se_var 5) (so_e (se_int))) (sbw_and1 (sb_cmp cr_lt (se_var 4) (so_e (se_len (so_e (se_var 2)) T.b_len)))))) (sss_cons (ss_par2 6 7 rfl sc_law_bent.nd (sa_cons (se_ix (se_var 2) (se_var 4)) (sa_cons (se_call g_law_draw_2 hr (by decide) (takes_of rfl rfl rfl rfl) (sa_cons (se_var 0) (sa_cons (se_add (se_len (so_e (se_ix (se_var 2) (se_var 4))) T.b_len) (se_int)) (sa_nil)))) (sa_nil))))
      (sss_cons (ss_set 6 sc_law_bent.nd (se_add (se_add (se_sl (se_var 6) (spt_none) (spt_some (se_var 7))) (se_ix (se_n (sn_lst (sa_cons (se_str) (sa_cons (se_str) (sa_cons (se_str) (sa_cons (se_str) (sa_cons (se_str) (sa_nil)))))))) (se_call g_law_draw_2 hr (by decide) (takes_of rfl rfl rfl rfl) (sa_cons (se_var 0) (sa_cons (se_int) (sa_nil)))))) (se_sl (se_var 6) (spt_some (se_add (se_var 7) (se_call g_law_draw_2 hr (by decide) (takes_of rfl rfl rfl rfl) (sa_cons (se_var 0) (sa_cons (se_int) (sa_nil)))))) (spt_none))))
      (sss_one (ss_set 2 sc_law_bent.nd (se_n (sn_cat (se_n (sn_cat (se_sl (se_var 2) (spt_none) (spt_some (se_var 4))) (se_n (sn_lst (sa_cons (se_var 6) (sa_nil)))))) (se_sl (se_var 2) (spt_some (se_add (se_var 4) (se_int))) (spt_none)))))))) (sss_one (ss_set 2 sc_law_bent.nd (se_n (sn_cat (se_n (sn_cat (se_sl (se_var 2) (spt_none) (spt_some (se_var 4))) (se_rev (se_sl (se_var 2) (spt_some (se_var 4)) (spt_some (se_add (se_var 4) (se_int))))))) (se_sl (se_var 2) (spt_some (se_add (se_var 4) (se_int))) (spt_none))))))))))))))))))
      (sss_one (ss_retN (sn_split (se_join (se_str) (sl_e (se_var 2))) (se_str)))))
theorem sc_law_due : FnScope [("_law_shop" : Str), ("_law_words_here" : Str), ("_law_known" : Str), ("_law_number" : Str), ("_law_found" : Str), ("_law_at" : Str), ("_law_word_here" : Str), ("_law_size" : Str), ("_law_comers_here" : Str)] [("_law_shop" : Str), ("_law_words_here" : Str)] (defScope s_law_due) := ⟨rfl, rfl, rfl, by decide +kernel, rfl, by decide +kernel, by decide +kernel⟩
theorem ok_law_due (T : Txt Pg K mg) {f : Addr} {fd : FuncData} (F : FunD K ("_law_due" : Str) ("_law_due" : Str) (defArgs s_law_due) (defBody s_law_due) (defScope s_law_due) [] [] f fd) (g_law_word_1 : Fg Pg wo K mg base (cas K) 1 ("_law_word" : Str) m_law_word []) : FOk Pg wo K mg base (cas K) 2 f fd [("_law_shop" : Str), ("_law_words_here" : Str)] m_law_due :=
  fn_ok F sc_law_due fun cdv A outer s H E hr =>
    sss_cons (ss_if (sb_cmp (cr_eq hr.units) (se_ix (se_var 1) (se_int)) (so_e (se_str))) (sss_one (ss_ret (se_if (sb_cmp (cr_eq hr.units) (se_len (so_e (se_var 1)) T.b_len) (so_e (se_int))) (se_tup (sa_cons (se_n (sn_lst (sa_nil))) (sa_cons (se_non) (sa_nil)))) (se_tup (sa_cons (se_non) (sa_cons (se_int) (sa_nil))))))) (sss_nil))
      (sss_cons (ss_own 2 sc_law_due.nd (sn_dic0))
      (sss_cons (ss_for (passes_of rfl) rfl (si_rng1 (sa_cons (se_add (se_ix (se_ix (se_var 0) (se_int)) (se_int)) (se_int)) (sa_nil)) T.b_range) (sg_name 3 sc_law_due.nd) (sss_cons (ss_putD hr.units (se_tup (sa_cons (se_tup (sa_nil)) (sa_cons (se_var 3) (sa_nil)))) (sp_cell 2) (se_call g_law_word_1 hr (by decide) (takes_of rfl rfl rfl rfl) (sa_cons (se_tup (sa_cons (se_tup (sa_nil)) (sa_cons (se_var 3) (sa_nil)))) (sa_nil))))
      (sss_one (ss_for (passes_of rfl) rfl (si_e (se_ix (se_var 0) (se_int))) (sg_name 7 sc_law_due.nd) (sss_one (ss_putD hr.units (se_tup (sa_cons (se_tup (sa_cons (se_var 7) (sa_nil))) (sa_cons (se_var 3) (sa_nil)))) (sp_cell 2) (se_call g_law_word_1 hr (by decide) (takes_of rfl rfl rfl rfl) (sa_cons (se_tup (sa_cons (se_tup (sa_cons (se_var 7) (sa_nil))) (sa_cons (se_var 3) (sa_nil)))) (sa_nil)))))))))
      (sss_cons (ss_own 4 sc_law_due.nd (sn_lst (sa_nil)))
      (sss_cons (ss_for (passes_of rfl) rfl (si_enum (p2 := default) (sa_cons (se_var 1) (sa_nil)) T.b_enumerate) (sg_tup rfl (sgs_cons (sg_name 5 sc_law_due.nd) (sgs_cons (sg_name 6 sc_law_due.nd) (sgs_nil)))) (sss_cons (ss_set 8 sc_law_due.nd (se_getO 2 hr.units (se_var 6) ⟨rfl, rfl, rfl, rfl⟩))
      (sss_cons (ss_if (sb_w (sbw_or (sb_cmp cr_isN (se_var 8) (so_e (se_non))) (sbw_or (sb_cmp cr_gt (se_len (so_e (se_ix (se_var 8) (se_int))) T.b_len) (so_e (se_ix (se_ix (se_var 0) (se_int)) (se_int)))) (sbw_or1 (sb_cmp (cr_eq hr.units) (se_var 5) (so_e (se_int))))))) (sss_one (ss_ret (se_tup (sa_cons (se_non) (sa_cons (se_var 5) (sa_nil)))))) (sss_nil))
      (sss_one (ss_append (sp_cell 4) (se_var 8))))))
      (sss_one (ss_frz 4 (ss_ret (se_tup (sa_cons (se_var 4) (sa_cons (se_non) (sa_nil)))))))))))
theorem sc_law_row_right : FnScope [("_law_urn_here" : Str), ("_law_shop" : Str), ("_law_run" : Str), ("_law_words_here" : Str), ("_law_given" : Str), ("_law_note" : Str), ("_law_some" : Str), ("_law_turn" : Str), ("_law_bent_here" : Str), ("_law_told" : Str), ("_law_comers_here" : Str)] [("_law_urn_here" : Str), ("_law_shop" : Str), ("_law_run" : Str)] (defScope s_law_row_right) := ⟨rfl, rfl, rfl, by decide +kernel, rfl, by decide +kernel, by decide +kernel⟩
theorem ok_law_row_right (T : Txt Pg K mg) {f : Addr} {fd : FuncData} (F : FunD K ("_law_row_right" : Str) ("_law_row_right" : Str) (defArgs s_law_row_right) (defBody s_law_row_right) (defScope s_law_row_right) [] [] f fd) (g_law_words_1 : Fg Pg wo K mg base (cas K) 2 ("_law_words" : Str) m_law_words []) (g_law_same_2 : Fg Pg wo K mg base (cas K) 7 ("_law_same" : Str) (m_law_same 6) []) (g_show_row_1 : Fg Pg wo K mg base (cas K) 2 ("show_row" : Str) m_show_row []) (g_show_row_k0_row : Kg Pg wo K mg base (cas K) 2 ("show_row" : Str) m_show_row 0 [("row" : Str)] [] [0]) (g_law_as_due_2 : Fg Pg wo K mg base (cas K) 8 ("_law_as_due" : Str) m_law_as_due []) (g_read_row_k0_text_setup : Kg Pg wo K mg base (cas K) 5 ("read_row" : Str) m_read_row 0 [("text" : Str), ("setup" : Str)] [] [1, 0]) (g_all_comers_1 : Fg Pg wo K mg base (cas K) 5 ("all_comers" : Str) m_all_comers []) (g_law_bent_2 : Fg Pg wo K mg base (cas K) 3 ("_law_bent" : Str) m_law_bent []) (g_law_read_2 : Fg Pg wo K mg base (cas K) 6 ("_law_read" : Str) m_law_read []) (g_law_due_2 : Fg Pg wo K mg base (cas K) 2 ("_law_due" : Str) m_law_due []) (g_read_row_2 : Fg Pg wo K mg base (cas K) 5 ("read_row" : Str) m_read_row []) : FOk Pg wo K mg base (cas K) 9 f fd [("_law_urn_here" : Str), ("_law_shop" : Str), ("_law_run" : Str)] m_law_row_right :=
  fn_ok F sc_law_row_right fun cdv A outer s H E hr =>
    sss_cons (ss_par2 3 4 rfl sc_law_row_right.nd (sa_cons (se_call g_law_words_1 hr (by decide) (takes_of rfl rfl rfl rfl) (sa_cons (se_var 2) (sa_nil))) (sa_cons (se_n (sn_list (sl_e (se_var 2)) T.b_list)) (sa_nil))))
      (sss_cons (ss_set 5 sc_law_row_right.nd (se_join (se_str) (sl_e (se_var 3))))
      (sss_cons (ss_if (sb_w (sbw_or (sb_not (sb_truth (so_e (se_call g_law_same_2 hr (by decide) (takes_of rfl rfl rfl rfl) (sa_cons (se_call g_show_row_1 hr (by decide) (takes_of rfl rfl rfl rfl) (sa_cons (se_var 4) (sa_nil))) (sa_cons (se_var 5) (sa_nil))))))) (sbw_or (sb_cmp (cr_ne hr.units) (se_var 4) (so_e (se_var 2))) (sbw_or1 (sb_cmp (cr_ne hr.units) (se_callK0 (ks := [("row" : Str)]) g_show_row_k0_row hr (by decide) (takes_of rfl rfl rfl rfl) (sk_cons (se_var 2) (sk_nil))) (so_e (se_var 5))))))) (sss_one (ss_ret (se_bl))) (sss_nil))
      (sss_cons (ss_if (sb_not (sb_truth (so_e (se_call g_law_as_due_2 hr (by decide) (takes_of rfl rfl rfl rfl) (sa_cons (se_tup (sa_cons (se_n (sn_callK0 (ks := [("text" : Str), ("setup" : Str)]) g_read_row_k0_text_setup hr (by decide) (takes_of rfl rfl rfl rfl) (sk_cons (se_var 5) (sk_cons (se_var 1) (sk_nil))))) (sa_cons (se_non) (sa_nil)))) (sa_cons (se_tup (sa_cons (se_var 2) (sa_cons (se_non) (sa_nil)))) (sa_nil))))))) (sss_one (ss_ret (se_bl))) (sss_nil))
      (sss_cons (ss_set 6 sc_law_row_right.nd (se_n (sn_call g_all_comers_1 hr (by decide) (takes_of rfl rfl rfl rfl) (sa_cons (se_var 1) (sa_nil)))))
      (sss_cons (ss_for (passes_of rfl) rfl (si_rng1 (sa_cons (se_int) (sa_nil)) T.b_range) (sg_name 7 sc_law_row_right.nd) (sss_cons (ss_set 8 sc_law_row_right.nd (se_if (sb_cmp (cr_eq hr.units) (se_var 7) (so_e (se_int))) (se_var 3) (se_n (sn_call g_law_bent_2 hr (by decide) (takes_of rfl rfl rfl rfl) (sa_cons (se_var 0) (sa_cons (se_var 3) (sa_nil)))))))
      (sss_cons (ss_set 9 sc_law_row_right.nd (se_call g_law_read_2 hr (by decide) (takes_of rfl rfl rfl rfl) (sa_cons (se_var 1) (sa_cons (se_join (se_str) (sl_e (se_var 8))) (sa_nil)))))
      (sss_cons (ss_if (sb_not (sb_truth (so_e (se_call g_law_as_due_2 hr (by decide) (takes_of rfl rfl rfl rfl) (sa_cons (se_var 9) (sa_cons (se_call g_law_due_2 hr (by decide) (takes_of rfl rfl rfl rfl) (sa_cons (se_var 1) (sa_cons (se_var 8) (sa_nil)))) (sa_nil))))))) (sss_one (ss_ret (se_bl))) (sss_nil))
      (sss_one (ss_if (sb_w (sbw_and (sb_cmp cr_isN (se_ix (se_var 9) (se_int)) (so_e (se_non))) (sbw_and1 (sb_cmp (cr_ne hr.units) (se_n (sn_lc (own := [(("_law_comers_here" : Str), 10)]) rfl sc_law_row_right.nd (si_e (se_ix (se_var 9) (se_int))) (blkOk_by (by kernel_rfl)) (fun _ _ _ _ _ => sg_name 10 sc_law_row_right.nd) (fun _ _ _ _ _ => sts_one (sb_cmp (cr_notIn hr.units) (se_var 10) (so_e (se_var 6)))) (fun _ _ _ _ _ => se_var 10))) (so_n (sn_lst (sa_nil))))))) (sss_one (ss_ret (se_bl))) (sss_nil)))))))
      (sss_cons (ss_if (sb_cmp (cr_ne hr.units) (se_var 2) (so_n (sn_lst (sa_nil)))) (sss_one (ss_append (sp_ob (se_obj (sn_call g_read_row_2 hr (by decide) (takes_of rfl rfl rfl rfl) (sa_cons (se_var 1) (sa_cons (se_var 5) (sa_nil)))))) (se_str))) (sss_nil))
      (sss_one (ss_ret (se_call g_law_as_due_2 hr (by decide) (takes_of rfl rfl rfl rfl) (sa_cons (se_call g_law_read_2 hr (by decide) (takes_of rfl rfl rfl rfl) (sa_cons (se_var 1) (sa_cons (se_var 5) (sa_nil)))) (sa_cons (se_tup (sa_cons (se_var 2) (sa_cons (se_non) (sa_nil)))) (sa_nil))))))))))))
theorem sc_show_deed : FnScope [("deed" : Str)] [("deed" : Str)] (defScope s_show_deed) := ⟨rfl, rfl, rfl, by decide +kernel, rfl, by decide +kernel, by decide +kernel⟩
theorem ok_show_deed (T : Txt Pg K mg) {f : Addr} {fd : FuncData} (F : FunD K ("show_deed" : Str) ("show_deed" : Str) (defArgs s_show_deed) (defBody s_show_deed) (defScope s_show_deed) [] [] f fd)  : FOk Pg wo K mg base (cas K) 1 f fd [("deed" : Str)] m_show_deed :=
  fn_ok F sc_show_deed fun cdv A outer s H E hr =>
    sss_one (ss_ret (se_if (sb_cmp (cr_eq hr.units) (se_ix (se_var 0) (se_int)) (so_e (se_str))) (se_str) (se_joined (sj_cons (se_str) (sj_cons (se_fmt (se_ix (se_var 0) (se_int))) (sj_nil))))))
theorem sc_show_bill : FnScope [("bill" : Str), ("deeds" : Str), ("empty" : Str), ("away" : Str), ("opened" : Str), ("served" : Str), ("unserved" : Str), ("melted" : Str), ("done" : Str), ("tubs" : Str), ("front" : Str), ("deed" : Str), ("portions" : Str)] [("bill" : Str)] (defScope s_show_bill) := ⟨rfl, rfl, rfl, by decide +kernel, rfl, by decide +kernel, by decide +kernel⟩
theorem ok_show_bill (T : Txt Pg K mg) {f : Addr} {fd : FuncData} (F : FunD K ("show_bill" : Str) ("show_bill" : Str) (defArgs s_show_bill) (defBody s_show_bill) (defScope s_show_bill) [] [] f fd) (g_show_deed_1 : Fg Pg wo K mg base (cas K) 1 ("show_deed" : Str) m_show_deed []) : FOk Pg wo K mg base (cas K) 2 f fd [("bill" : Str)] m_show_bill :=
  fn_ok F sc_show_bill fun cdv A outer s H E hr =>
    sss_cons (ss_tg (se_var 0) (sg_tup rfl (sgs_cons (sg_name 1 sc_show_bill.nd) (sgs_cons (sg_name 2 sc_show_bill.nd) (sgs_cons (sg_name 3 sc_show_bill.nd) (sgs_cons (sg_name 4 sc_show_bill.nd) (sgs_cons (sg_name 5 sc_show_bill.nd) (sgs_cons (sg_name 6 sc_show_bill.nd) (sgs_cons (sg_name 7 sc_show_bill.nd) (sgs_nil))))))))))
      (sss_cons (ss_set 8 sc_show_bill.nd (se_if (sb_cmp (cr_ne hr.units) (se_var 1) (so_e (se_tup (sa_nil)))) (se_join (se_str) (sl_n (sn_lc (own := [(("deed" : Str), 11)]) rfl sc_show_bill.nd (si_e (se_var 1)) (blkOk_by (by kernel_rfl)) (fun _ _ _ _ _ => sg_name 11 sc_show_bill.nd) (fun _ _ _ _ _ => sts_nil) (fun _ _ _ _ _ => se_call g_show_deed_1 hr (by decide) takesF (sa_cons (se_var 11) (sa_nil)))))) (se_cst T.c_NO_GROUPS)))
      (sss_cons (ss_set 9 sc_show_bill.nd (se_if (sb_cmp (cr_ne hr.units) (se_var 4) (so_e (se_tup (sa_nil)))) (se_join (se_str) (sl_n (sn_lc (own := [(("portions" : Str), 12)]) rfl sc_show_bill.nd (si_e (se_var 4)) (blkOk_by (by kernel_rfl)) (fun _ _ _ _ _ => sg_name 12 sc_show_bill.nd) (fun _ _ _ _ _ => sts_nil) (fun _ _ _ _ _ => se_str1 (so_e (se_var 12)) T.b_str)))) (se_cst T.c_NO_GROUPS)))
      (sss_cons (ss_set 10 sc_show_bill.nd (se_joined (sj_cons (se_fmt (se_var 8)) (sj_cons (se_str) (sj_cons (se_fmt (se_var 2)) (sj_cons (se_str) (sj_cons (se_fmt (se_var 3)) (sj_cons (se_str) (sj_cons (se_fmt (se_var 9)) (sj_nil))))))))))
      (sss_one (ss_ret (se_joined (sj_cons (se_fmt (se_var 10)) (sj_cons (se_str) (sj_cons (se_fmt (se_var 5)) (sj_cons (se_str) (sj_cons (se_fmt (se_var 6)) (sj_cons (se_str) (sj_cons (se_fmt (se_var 7)) (sj_nil))))))))))))))
theorem sc_law_bill_right : FnScope [("_law_urn_here" : Str), ("_law_shop" : Str), ("_law_left" : Str), ("_law_deeds" : Str), ("_law_turn" : Str), ("_law_opened" : Str), ("_law_served" : Str), ("_law_away" : Str), ("_law_melted" : Str), ("_law_numbers" : Str), ("_law_done" : Str), ("_law_note" : Str), ("_law_slip" : Str), ("_law_some" : Str), ("_law_deed" : Str), ("_law_word_here" : Str), ("_law_size" : Str), ("_law_one" : Str)] [("_law_urn_here" : Str), ("_law_shop" : Str)] (defScope s_law_bill_right) := ⟨rfl, rfl, rfl, by decide +kernel, rfl, by decide +kernel, by decide +kernel⟩
theorem ok_law_bill_right (T : Txt Pg K mg) {f : Addr} {fd : FuncData} (F : FunD K ("_law_bill_right" : Str) ("_law_bill_right" : Str) (defArgs s_law_bill_right) (defBody s_law_bill_right) (defScope s_law_bill_right) [] [] f fd) (g_law_draw_2 : Fg Pg wo K mg base (cas K) 1 ("_law_draw" : Str) m_law_draw []) (g_law_same_2 : Fg Pg wo K mg base (cas K) 7 ("_law_same" : Str) (m_law_same 6) []) (g_show_bill_1 : Fg Pg wo K mg base (cas K) 2 ("show_bill" : Str) m_show_bill []) (g_show_bill_k0_bill : Kg Pg wo K mg base (cas K) 2 ("show_bill" : Str) m_show_bill 0 [("bill" : Str)] [] [0]) : FOk Pg wo K mg base (cas K) 8 f fd [("_law_urn_here" : Str), ("_law_shop" : Str)] m_law_bill_right :=
  fn_ok F sc_law_bill_right fun cdv A outer s H E hr =>
    sss_cons (ss_par2 2 3 rfl sc_law_bill_right.nd (sa_cons (se_ix (se_var 1) (se_int)) (sa_cons (se_tup (sa_nil)) (sa_nil))))
      (sss_cons (ss_for (passes_of rfl) rfl (si_rng1 (sa_cons (se_call g_law_draw_2 hr (by decide) (takes_of rfl rfl rfl rfl) (sa_cons (se_var 0) (sa_cons (se_int) (sa_nil)))) (sa_nil)) T.b_range) (sg_name 4 sc_law_bill_right.nd) (sss_cons (ss_set 13 sc_law_bill_right.nd (se_n (sn_cat (se_n (sn_lst (sa_cons (se_tup (sa_cons (se_str) (sa_cons (se_int) (sa_nil)))) (sa_nil)))) (se_n (sn_lc (own := [(("_law_size" : Str), 16)]) rfl sc_law_bill_right.nd (si_e (se_ix (se_var 1) (se_int))) (blkOk_by (by kernel_rfl)) (fun _ _ _ _ _ => sg_name 16 sc_law_bill_right.nd) (fun _ _ _ _ _ => sts_nil) (fun _ _ _ _ _ => se_tup (sa_cons (se_str) (sa_cons (se_var 16) (sa_nil)))))))))
      (sss_cons (ss_set 14 sc_law_bill_right.nd (se_ix (se_var 13) (se_call g_law_draw_2 hr (by decide) (takes_of rfl rfl rfl rfl) (sa_cons (se_var 0) (sa_cons (se_len (so_e (se_var 13)) T.b_len) (sa_nil))))))
      (sss_one (ss_if (sb_cmp cr_le (se_ix (se_var 14) (se_int)) (so_e (se_var 2))) (sss_one (ss_par2 3 2 rfl sc_law_bill_right.nd (sa_cons (se_add (se_var 3) (se_tup (sa_cons (se_var 14) (sa_nil)))) (sa_cons (se_sub (se_var 2) (se_ix (se_var 14) (se_int))) (sa_nil))))) (sss_nil))))))
      (sss_cons (ss_set 5 sc_law_bill_right.nd (se_tuple (sl_n (sn_lc (own := [(("_law_turn" : Str), 4)]) rfl sc_law_bill_right.nd (si_rng1 (sa_cons (se_call g_law_draw_2 hr (by decide) (takes_of rfl rfl rfl rfl) (sa_cons (se_var 0) (sa_cons (se_int) (sa_nil)))) (sa_nil)) T.b_range) (blkOk_by (by kernel_rfl)) (fun _ _ _ _ _ => sg_name 4 sc_law_bill_right.nd) (fun _ _ _ _ _ => sts_nil) (fun _ _ _ _ _ => se_ix (se_ix (se_var 1) (se_int)) (se_call g_law_draw_2 hr (by decide) takesF (sa_cons (se_var 0) (sa_cons (se_len (so_e (se_ix (se_var 1) (se_int))) T.b_len) (sa_nil))))))) T.b_tuple))
      (sss_cons (ss_set 6 sc_law_bill_right.nd (se_call g_law_draw_2 hr (by decide) (takes_of rfl rfl rfl rfl) (sa_cons (se_var 0) (sa_cons (se_add (se_sub (se_ix (se_var 1) (se_int)) (se_var 2)) (se_int)) (sa_nil)))))
      (sss_cons (ss_set 7 sc_law_bill_right.nd (se_call g_law_draw_2 hr (by decide) (takes_of rfl rfl rfl rfl) (sa_cons (se_var 0) (sa_cons (se_add (se_add (se_mul (se_ix (se_ix (se_var 1) (se_int)) (se_int)) (se_ix (se_ix (se_var 1) (se_int)) (se_neg (se_int)))) (se_ix (se_ix (se_var 1) (se_int)) (se_int))) (se_int)) (sa_nil)))))
      (sss_cons (ss_set 8 sc_law_bill_right.nd (se_call g_law_draw_2 hr (by decide) (takes_of rfl rfl rfl rfl) (sa_cons (se_var 0) (sa_cons (se_add (se_mul (se_int) (se_ix (se_ix (se_var 1) (se_int)) (se_neg (se_int)))) (se_int)) (sa_nil)))))
      (sss_cons (ss_if (sb_cmp cr_lt (se_var 6) (so_e (se_sub (se_ix (se_var 1) (se_int)) (se_var 2)))) (sss_one (ss_set 8 sc_law_bill_right.nd (se_int))) (sss_nil))
      (sss_cons (ss_set 9 sc_law_bill_right.nd (se_n (sn_lst (sa_cons (se_ix (se_n (sn_lst (sa_cons (se_int) (sa_cons (se_var 2) (sa_nil))))) (se_call g_law_draw_2 hr (by decide) (takes_of rfl rfl rfl rfl) (sa_cons (se_var 0) (sa_cons (se_int) (sa_nil))))) (sa_cons (se_var 7) (sa_cons (se_var 6) (sa_cons (se_sub (se_sub (se_ix (se_var 1) (se_int)) (se_var 2)) (se_var 6)) (sa_cons (se_var 8) (sa_nil)))))))))
      (sss_cons (ss_set 10 sc_law_bill_right.nd (se_join (se_str) (sl_n (sn_lc (own := [(("_law_word_here" : Str), 15), (("_law_size" : Str), 16)]) rfl sc_law_bill_right.nd (si_e (se_var 3)) (blkOk_by (by kernel_rfl)) (fun _ _ _ _ _ => sg_tup rfl (sgs_cons (sg_name 15 sc_law_bill_right.nd) (sgs_cons (sg_name 16 sc_law_bill_right.nd) (sgs_nil)))) (fun _ _ _ _ _ => sts_nil) (fun _ _ _ _ _ => se_if (sb_cmp (cr_eq hr.units) (se_var 15) (so_e (se_str))) (se_str) (se_add (se_str) (se_str1 (so_e (se_var 16)) T.b_str)))))))
      (sss_cons (ss_set 11 sc_law_bill_right.nd (se_add (se_add (se_add (se_add (se_add (se_ix (se_n (sn_lst (sa_cons (se_var 10) (sa_cons (se_str) (sa_nil))))) (se_int1 (so_e (se_cmp (cr_eq hr.units) (se_var 3) (so_e (se_tup (sa_nil))))) T.b_int)) (se_str)) (se_str1 (so_e (se_ix (se_var 9) (se_int))) T.b_str)) (se_str)) (se_str1 (so_e (se_ix (se_var 9) (se_int))) T.b_str)) (se_str)))
      (sss_cons (ss_set 11 sc_law_bill_right.nd (se_add (se_add (se_add (se_var 11) (se_ix (se_n (sn_lst (sa_cons (se_join (se_str) (sl_n (sn_lc (own := [(("_law_one" : Str), 17)]) rfl sc_law_bill_right.nd (si_e (se_var 5)) (blkOk_by (by kernel_rfl)) (fun _ _ _ _ _ => sg_name 17 sc_law_bill_right.nd) (fun _ _ _ _ _ => sts_nil) (fun _ _ _ _ _ => se_str1 (so_e (se_var 17)) T.b_str)))) (sa_cons (se_str) (sa_nil))))) (se_int1 (so_e (se_cmp (cr_eq hr.units) (se_var 5) (so_e (se_tup (sa_nil))))) T.b_int))) (se_str)) (se_str1 (so_e (se_ix (se_var 9) (se_int))) T.b_str)))
      (sss_cons (ss_set 11 sc_law_bill_right.nd (se_add (se_add (se_add (se_add (se_var 11) (se_str)) (se_str1 (so_e (se_ix (se_var 9) (se_int))) T.b_str)) (se_str)) (se_str1 (so_e (se_ix (se_var 9) (se_int))) T.b_str)))
      (sss_cons (ss_set 12 sc_law_bill_right.nd (se_tup (sa_cons (se_var 3) (sa_cons (se_ix (se_var 9) (se_int)) (sa_cons (se_ix (se_var 9) (se_int)) (sa_cons (se_var 5) (sa_cons (se_ix (se_var 9) (se_int)) (sa_cons (se_ix (se_var 9) (se_int)) (sa_cons (se_ix (se_var 9) (se_int)) (sa_nil))))))))))
      (sss_one (ss_ret (se_and (se_call g_law_same_2 hr (by decide) (takes_of rfl rfl rfl rfl) (sa_cons (se_call g_show_bill_1 hr (by decide) (takes_of rfl rfl rfl rfl) (sa_cons (se_var 12) (sa_nil))) (sa_cons (se_var 11) (sa_nil)))) (se_one (se_cmp (cr_eq hr.units) (se_callK0 (ks := [("bill" : Str)]) g_show_bill_k0_bill hr (by decide) (takes_of rfl rfl rfl rfl) (sk_cons (se_var 12) (sk_nil))) (so_e (se_var 11)))))))))))))))))))
theorem sc_law : FnScope [("_law_script" : Str), ("_law_k" : Str), ("_law_urn_here" : Str), ("_law_shop" : Str), ("_law_turn" : Str), ("_law_run" : Str), ("_law_beat" : Str)] [("_law_script" : Str)] (defScope s_law) := ⟨rfl, rfl, rfl, by decide +kernel, rfl, by decide +kernel, by decide +kernel⟩
theorem ok_law (T : Txt Pg K mg) {f : Addr} {fd : FuncData} (F : FunD K ("law" : Str) ("law" : Str) (defArgs s_law) (defBody s_law) (defScope s_law) [] [] f fd) (g_law_urn_2 : Fg Pg wo K mg base (cas K) 1 ("_law_urn" : Str) m_law_urn []) (g_law_setup_1 : Fg Pg wo K mg base (cas K) 3 ("_law_setup" : Str) m_law_setup []) (g_law_draw_2 : Fg Pg wo K mg base (cas K) 1 ("_law_draw" : Str) m_law_draw []) (g_law_comers_2 : Fg Pg wo K mg base (cas K) 2 ("_law_comers" : Str) m_law_comers []) (g_law_row_right_3 : Fg Pg wo K mg base (cas K) 9 ("_law_row_right" : Str) m_law_row_right []) (g_law_bill_right_2 : Fg Pg wo K mg base (cas K) 8 ("_law_bill_right" : Str) m_law_bill_right []) (g_law_long_right_2 : Fg Pg wo K mg base (cas K) 9 ("_law_long_right" : Str) m_law_long_right []) (g_law_refused_right_2 : Fg Pg wo K mg base (cas K) 9 ("_law_refused_right" : Str) m_law_refused_right []) : FOk Pg wo K mg base (cas K) 10 f fd [("_law_script" : Str)] m_law :=
  fn_ok F sc_law fun cdv A outer s H E hr =>
    sss_cons (ss_for (passes_of rfl) rfl (si_rng1 (sa_cons (se_max2 rfl (sa_cons (se_int) (sa_cons (se_min2 rfl (sa_cons (se_int) (sa_cons (se_add (se_len (so_e (se_var 0)) T.b_len) (se_int)) (sa_nil))) T.b_min) (sa_nil))) T.b_max) (sa_nil)) T.b_range) (sg_name 1 sc_law.nd) (sss_cons (ss_set 2 sc_law.nd (se_obj (sn_call g_law_urn_2 hr (by decide) (takes_of rfl rfl rfl rfl) (sa_cons (se_var 0) (sa_cons (se_var 1) (sa_nil))))))
      (sss_cons (ss_set 3 sc_law.nd (se_call g_law_setup_1 hr (by decide) (takes_of rfl rfl rfl rfl) (sa_cons (se_var 2) (sa_nil))))
      (sss_cons (ss_for (passes_of rfl) rfl (si_rng1 (sa_cons (se_int) (sa_nil)) T.b_range) (sg_name 4 sc_law.nd) (sss_cons (ss_setLc 5 (own := [(("_law_beat" : Str), 6)]) rfl sc_law.nd (si_rng1 (sa_cons (se_call g_law_draw_2 hr (by decide) (takes_of rfl rfl rfl rfl) (sa_cons (se_var 2) (sa_cons (se_int) (sa_nil)))) (sa_nil)) T.b_range) (blkOk_by (by kernel_rfl)) (fun _ _ _ _ _ => sg_name 6 sc_law.nd) (fun _ _ _ _ _ => sts_nil) (fun _ _ _ _ _ => se_call g_law_comers_2 hr (by decide) takesF (sa_cons (se_var 2) (sa_cons (se_var 3) (sa_nil)))) sw_one)
      (sss_one (ss_if (sb_w (sbw_or (sb_not (sb_truth (so_e (se_call g_law_row_right_3 hr (by decide) (takes_of rfl rfl rfl rfl) (sa_cons (se_var 2) (sa_cons (se_var 3) (sa_cons (se_var 5) (sa_nil)))))))) (sbw_or1 (sb_not (sb_truth (so_e (se_call g_law_bill_right_2 hr (by decide) (takes_of rfl rfl rfl rfl) (sa_cons (se_var 2) (sa_cons (se_var 3) (sa_nil)))))))))) (sss_one (ss_ret (se_bl))) (sss_nil)))))
      (sss_one (ss_if (sb_w (sbw_or (sb_not (sb_truth (so_e (se_call g_law_long_right_2 hr (by decide) (takes_of rfl rfl rfl rfl) (sa_cons (se_var 2) (sa_cons (se_var 3) (sa_nil))))))) (sbw_or1 (sb_not (sb_truth (so_e (se_call g_law_refused_right_2 hr (by decide) (takes_of rfl rfl rfl rfl) (sa_cons (se_var 2) (sa_cons (se_var 3) (sa_nil)))))))))) (sss_one (ss_ret (se_bl))) (sss_nil)))))))
      (sss_one (ss_ret (se_bl)))
end
end K84
end

section
set_option Elab.async false
set_option linter.all false
set_option maxRecDepth 100000
set_option maxHeartbeats 4000000
namespace K84
open PySem L2 PV
/-! ### the head -/
def dd_law_urn : He.DefD := ⟨(("_law_urn" : Str), none), ("_law_urn" : Str), ("_law_urn" : Str), defArgs s_law_urn, defBody s_law_urn, defScope s_law_urn, [], []⟩
def dd_law_draw : He.DefD := ⟨(("_law_draw" : Str), none), ("_law_draw" : Str), ("_law_draw" : Str), defArgs s_law_draw, defBody s_law_draw, defScope s_law_draw, [], []⟩
def dd_law_two : He.DefD := ⟨(("_law_two" : Str), none), ("_law_two" : Str), ("_law_two" : Str), defArgs s_law_two, defBody s_law_two, defScope s_law_two, [], []⟩
def dd_law_setup : He.DefD := ⟨(("_law_setup" : Str), none), ("_law_setup" : Str), ("_law_setup" : Str), defArgs s_law_setup, defBody s_law_setup, defScope s_law_setup, [], []⟩
def dd_law_comers : He.DefD := ⟨(("_law_comers" : Str), none), ("_law_comers" : Str), ("_law_comers" : Str), defArgs s_law_comers, defBody s_law_comers, defScope s_law_comers, [], []⟩
def dd_law_word : He.DefD := ⟨(("_law_word" : Str), none), ("_law_word" : Str), ("_law_word" : Str), defArgs s_law_word, defBody s_law_word, defScope s_law_word, [], []⟩
def dd_law_words : He.DefD := ⟨(("_law_words" : Str), none), ("_law_words" : Str), ("_law_words" : Str), defArgs s_law_words, defBody s_law_words, defScope s_law_words, [], []⟩
def dd_law_same : He.DefD := ⟨(("_law_same" : Str), none), ("_law_same" : Str), ("_law_same" : Str), defArgs s_law_same, defBody s_law_same, defScope s_law_same, [], []⟩
def dd_law_as_due : He.DefD := ⟨(("_law_as_due" : Str), none), ("_law_as_due" : Str), ("_law_as_due" : Str), defArgs s_law_as_due, defBody s_law_as_due, defScope s_law_as_due, [], []⟩
def dd_is_integer : He.DefD := ⟨(("is_integer" : Str), none), ("is_integer" : Str), ("is_integer" : Str), defArgs s_is_integer, defBody s_is_integer, defScope s_is_integer, [.non, .non], []⟩
def dd_is_row_of : He.DefD := ⟨(("is_row_of" : Str), none), ("is_row_of" : Str), ("is_row_of" : Str), defArgs s_is_row_of, defBody s_is_row_of, defScope s_is_row_of, [], []⟩
def dd_is_choice : He.DefD := ⟨(("is_choice" : Str), none), ("is_choice" : Str), ("is_choice" : Str), defArgs s_is_choice, defBody s_is_choice, defScope s_is_choice, [], []⟩
def dd_is_setup : He.DefD := ⟨(("is_setup" : Str), none), ("is_setup" : Str), ("is_setup" : Str), defArgs s_is_setup, defBody s_is_setup, defScope s_is_setup, [], []⟩
def dd_need_setup : He.DefD := ⟨(("need_setup" : Str), none), ("need_setup" : Str), ("need_setup" : Str), defArgs s_need_setup, defBody s_need_setup, defScope s_need_setup, [], []⟩
def dd_Words__init : He.DefD := ⟨(("Words" : Str), some ("__init__" : Str)), ("__init__" : Str), ("Words.__init__" : Str), defArgs s_Words__init, defBody s_Words__init, defScope s_Words__init, [], []⟩
def dd_Words_peek : He.DefD := ⟨(("Words" : Str), some ("peek" : Str)), ("peek" : Str), ("Words.peek" : Str), defArgs s_Words_peek, defBody s_Words_peek, defScope s_Words_peek, [], []⟩
def dd_Words_skip : He.DefD := ⟨(("Words" : Str), some ("skip" : Str)), ("skip" : Str), ("Words.skip" : Str), defArgs s_Words_skip, defBody s_Words_skip, defScope s_Words_skip, [], []⟩
def dd_Words_refuse : He.DefD := ⟨(("Words" : Str), some ("refuse" : Str)), ("refuse" : Str), ("Words.refuse" : Str), defArgs s_Words_refuse, defBody s_Words_refuse, defScope s_Words_refuse, [], []⟩
def dd_Words_finish : He.DefD := ⟨(("Words" : Str), some ("finish" : Str)), ("finish" : Str), ("Words.finish" : Str), defArgs s_Words_finish, defBody s_Words_finish, defScope s_Words_finish, [], []⟩
def dd_digit_in : He.DefD := ⟨(("digit_in" : Str), none), ("digit_in" : Str), ("digit_in" : Str), defArgs s_digit_in, defBody s_digit_in, defScope s_digit_in, [], []⟩
def dd_comers_in : He.DefD := ⟨(("comers_in" : Str), none), ("comers_in" : Str), ("comers_in" : Str), defArgs s_comers_in, defBody s_comers_in, defScope s_comers_in, [], []⟩
def dd_read_row : He.DefD := ⟨(("read_row" : Str), none), ("read_row" : Str), ("read_row" : Str), defArgs s_read_row, defBody s_read_row, defScope s_read_row, [], []⟩
def dd_law_read : He.DefD := ⟨(("_law_read" : Str), none), ("_law_read" : Str), ("_law_read" : Str), defArgs s_law_read, defBody s_law_read, defScope s_law_read, [], []⟩
def dd_law_long_right : He.DefD := ⟨(("_law_long_right" : Str), none), ("_law_long_right" : Str), ("_law_long_right" : Str), defArgs s_law_long_right, defBody s_law_long_right, defScope s_law_long_right, [], []⟩
def dd_law_refused_right : He.DefD := ⟨(("_law_refused_right" : Str), none), ("_law_refused_right" : Str), ("_law_refused_right" : Str), defArgs s_law_refused_right, defBody s_law_refused_right, defScope s_law_refused_right, [], []⟩
def dd_comers_of : He.DefD := ⟨(("comers_of" : Str), none), ("comers_of" : Str), ("comers_of" : Str), defArgs s_comers_of, defBody s_comers_of, defScope s_comers_of, [], []⟩
def dd_all_comers : He.DefD := ⟨(("all_comers" : Str), none), ("all_comers" : Str), ("all_comers" : Str), defArgs s_all_comers, defBody s_all_comers, defScope s_all_comers, [], []⟩
def dd_comers_text : He.DefD := ⟨(("comers_text" : Str), none), ("comers_text" : Str), ("comers_text" : Str), defArgs s_comers_text, defBody s_comers_text, defScope s_comers_text, [], []⟩
def dd_show_row : He.DefD := ⟨(("show_row" : Str), none), ("show_row" : Str), ("show_row" : Str), defArgs s_show_row, defBody s_show_row, defScope s_show_row, [], []⟩
def dd_law_odd : He.DefD := ⟨(("_law_odd" : Str), none), ("_law_odd" : Str), ("_law_odd" : Str), defArgs s_law_odd, defBody s_law_odd, defScope s_law_odd, [], []⟩
def dd_law_bent : He.DefD := ⟨(("_law_bent" : Str), none), ("_law_bent" : Str), ("_law_bent" : Str), defArgs s_law_bent, defBody s_law_bent, defScope s_law_bent, [], []⟩
def dd_law_due : He.DefD := ⟨(("_law_due" : Str), none), ("_law_due" : Str), ("_law_due" : Str), defArgs s_law_due, defBody s_law_due, defScope s_law_due, [], []⟩
def dd_law_row_right : He.DefD := ⟨(("_law_row_right" : Str), none), ("_law_row_right" : Str), ("_law_row_right" : Str), defArgs s_law_row_right, defBody s_law_row_right, defScope s_law_row_right, [], []⟩
def dd_show_deed : He.DefD := ⟨(("show_deed" : Str), none), ("show_deed" : Str), ("show_deed" : Str), defArgs s_show_deed, defBody s_show_deed, defScope s_show_deed, [], []⟩
def dd_show_bill : He.DefD := ⟨(("show_bill" : Str), none), ("show_bill" : Str), ("show_bill" : Str), defArgs s_show_bill, defBody s_show_bill, defScope s_show_bill, [], []⟩
def dd_law_bill_right : He.DefD := ⟨(("_law_bill_right" : Str), none), ("_law_bill_right" : Str), ("_law_bill_right" : Str), defArgs s_law_bill_right, defBody s_law_bill_right, defScope s_law_bill_right, [], []⟩
def dd_law : He.DefD := ⟨(("law" : Str), none), ("law" : Str), ("law" : Str), defArgs s_law, defBody s_law, defScope s_law, [], []⟩
def fn0 : List He.DefD := [dd_law_urn, dd_law_draw, dd_law_two, dd_law_setup, dd_law_comers, dd_law_word, dd_law_words, dd_law_same, dd_law_as_due, dd_is_integer, dd_is_row_of, dd_is_choice, dd_is_setup, dd_need_setup, dd_Words__init, dd_Words_peek, dd_Words_skip, dd_Words_refuse, dd_Words_finish, dd_digit_in, dd_comers_in, dd_read_row, dd_law_read, dd_law_long_right, dd_law_refused_right, dd_comers_of, dd_all_comers, dd_comers_text, dd_show_row, dd_law_odd]
def fn1 : List He.DefD := [dd_law_bent, dd_law_due, dd_law_row_right, dd_show_deed, dd_show_bill, dd_law_bill_right, dd_law]
def fn : List He.DefD := fn0 ++ fn1
def xs : List Str := [("BadText" : Str)]
def xv : List (Option (Arguments × FuncBody × Scope)) := [some (defArgs (inClass (top 5) 0), .stmts (defBody (inClass (top 5) 0)), defScope (inClass (top 5) 0))]
def bs0 (K : PySem.W.Frag) : List Bool := [decide (PySem.W.nsIn K mainGlobals ("all" : Str) = some none),
  decide (PySem.W.nsIn K mainGlobals ("bool" : Str) = some none),
  decide (PySem.W.nsIn K mainGlobals ("enumerate" : Str) = some none),
  decide (PySem.W.nsIn K mainGlobals ("int" : Str) = some none),
  decide (PySem.W.nsIn K mainGlobals ("isinstance" : Str) = some none),
  decide (PySem.W.nsIn K mainGlobals ("len" : Str) = some none),
  decide (PySem.W.nsIn K mainGlobals ("list" : Str) = some none),
  decide (PySem.W.nsIn K mainGlobals ("max" : Str) = some none),
  decide (PySem.W.nsIn K mainGlobals ("min" : Str) = some none),
  decide (PySem.W.nsIn K mainGlobals ("range" : Str) = some none),
  decide (PySem.W.nsIn K mainGlobals ("str" : Str) = some none),
  decide (PySem.W.nsIn K mainGlobals ("tuple" : Str) = some none),
  decide (PySem.W.nsIn K mainGlobals ("zip" : Str) = some none),
  cstD K ("DIGITS" : Str) (.str ("0123456789" : Str)),
  cstD K ("MOST_BEATS" : Str) (.int 200),
  cstD K ("MOST_LIFE" : Str) (.int 3),
  cstD K ("MOST_PORTIONS" : Str) (.int 4),
  cstD K ("MOST_PRICE" : Str) (.int 5),
  cstD K ("MOST_SEATS" : Str) (.int 4),
  cstD K ("NO_GROUPS" : Str) (.str ("-" : Str)),
  cstD K ("NO_ROW" : Str) (.str ("none" : Str)),
  (He.Fa.glo ("BadRow" : Str)).ok K,
  (He.Fa.glo ("BadSetup" : Str)).ok K,
  (He.Fa.glo ("BadText" : Str)).ok K,
  (He.Fa.glo ("ParlourError" : Str)).ok K,
  isCB K ("BadRow" : Str) cnames il_BadRow,
  isCB K ("BadSetup" : Str) cnames il_BadSetup,
  isCB K ("BadText" : Str) cnames il_BadText,
  mtsB K ("ParlourError" : Str) cnames ml_ParlourError,
  plcB K cnames plks]
def bs1 (K : PySem.W.Frag) : List Bool := [(He.Fa.exc ("BadSetup" : Str)).ok K,
  He.Fa.ok K (.noat ("Words" : Str) ("all_words" : Str)),
  He.Fa.ok K (.noat ("Words" : Str) ("next_index" : Str)),
  (He.Fa.cls ("Words" : Str)).ok K,
  plB PySem.Challenge.rw_parlourday_k84_rows_and_bills_written.prog K ("BadText" : Str),
  (He.Fa.glo ("_law_urn" : Str)).ok K,
  (He.Fa.glo ("_law_draw" : Str)).ok K,
  (He.Fa.glo ("_law_two" : Str)).ok K,
  (He.Fa.glo ("_law_setup" : Str)).ok K,
  (He.Fa.glo ("_law_comers" : Str)).ok K,
  (He.Fa.glo ("_law_word" : Str)).ok K,
  (He.Fa.glo ("_law_words" : Str)).ok K,
  (He.Fa.glo ("_law_same" : Str)).ok K,
  (He.Fa.glo ("_law_as_due" : Str)).ok K,
  (He.Fa.glo ("is_integer" : Str)).ok K,
  (He.Fa.glo ("is_row_of" : Str)).ok K,
  (He.Fa.glo ("is_choice" : Str)).ok K,
  (He.Fa.glo ("is_setup" : Str)).ok K,
  (He.Fa.glo ("need_setup" : Str)).ok K,
  (He.Fa.glo ("digit_in" : Str)).ok K,
  (He.Fa.glo ("comers_in" : Str)).ok K,
  (He.Fa.glo ("read_row" : Str)).ok K,
  (He.Fa.glo ("_law_read" : Str)).ok K,
  (He.Fa.glo ("_law_long_right" : Str)).ok K,
  (He.Fa.glo ("_law_refused_right" : Str)).ok K,
  (He.Fa.glo ("comers_of" : Str)).ok K,
  (He.Fa.glo ("all_comers" : Str)).ok K,
  (He.Fa.glo ("comers_text" : Str)).ok K,
  (He.Fa.glo ("show_row" : Str)).ok K,
  (He.Fa.glo ("_law_odd" : Str)).ok K]
def bs2 (K : PySem.W.Frag) : List Bool := [(He.Fa.glo ("_law_bent" : Str)).ok K,
  (He.Fa.glo ("_law_due" : Str)).ok K,
  (He.Fa.glo ("_law_row_right" : Str)).ok K,
  (He.Fa.glo ("show_deed" : Str)).ok K,
  (He.Fa.glo ("show_bill" : Str)).ok K,
  (He.Fa.glo ("_law_bill_right" : Str)).ok K,
  (He.Fa.glo ("law" : Str)).ok K,
  (He.Fa.meth ("Words" : Str) ("peek" : Str)).ok K,
  (He.Fa.cls ("Words" : Str)).ok K,
  (He.Fa.meth ("Words" : Str) ("refuse" : Str)).ok K,
  (He.Fa.mkr ("Words" : Str)).ok K,
  (He.Fa.glo ("Words" : Str)).ok K,
  (He.Fa.meth ("Words" : Str) ("skip" : Str)).ok K,
  (He.Fa.meth ("Words" : Str) ("finish" : Str)).ok K]
def B (K : PySem.W.Frag) : Bool := (bs0 K).all id && ((bs1 K).all id && ((bs2 K).all id && true))
theorem bget {l : List Bool} (h : l.all id = true) (i : Nat) {b : Bool} (e : l[i]? = some b) : b = true := List.all_eq_true.mp h b (List.mem_of_getElem? e)
abbrev Pg : Program := PySem.Challenge.rw_parlourday_k84_rows_and_bills_written.prog
theorem law_ok {wo : World} {K : PySem.W.Frag} {h : Heap} {mg : Str → Option Value} {fa : Addr} (Y : K.In h) (G : h.Ns mainGlobals mg) (hfa : mg ("law" : Str) = some (.ref fa)) (c : SaysB B fn xs xv K) :
    ∃ fd : FuncData, (∀ (s : Shared) (v : Value), BindsTo s fd ⟨[v], []⟩ [(("_law_script" : Str), v)]) ∧ ∀ base : Heap, FOk Pg wo K mg base (cas K) 10 fa fd [("_law_script" : Str)] m_law := by
  have c0 : (bs0 K).all id = true := (He.ba c.b).1
  have c1 : (bs1 K).all id = true := (He.ba (He.ba c.b).2).1
  have c2 : (bs2 K).all id = true := (He.ba (He.ba (He.ba c.b).2).2).1
  have T : Txt Pg K mg := {
    b_all := PySem.W.mg_none_of Y G (of_decide_eq_true (show (decide (PySem.W.nsIn K mainGlobals ("all" : Str) = some none)) = true from bget c0 0 rfl))
    b_bool := PySem.W.mg_none_of Y G (of_decide_eq_true (show (decide (PySem.W.nsIn K mainGlobals ("bool" : Str) = some none)) = true from bget c0 1 rfl))
    b_enumerate := PySem.W.mg_none_of Y G (of_decide_eq_true (show (decide (PySem.W.nsIn K mainGlobals ("enumerate" : Str) = some none)) = true from bget c0 2 rfl))
    b_int := PySem.W.mg_none_of Y G (of_decide_eq_true (show (decide (PySem.W.nsIn K mainGlobals ("int" : Str) = some none)) = true from bget c0 3 rfl))
    b_isinstance := PySem.W.mg_none_of Y G (of_decide_eq_true (show (decide (PySem.W.nsIn K mainGlobals ("isinstance" : Str) = some none)) = true from bget c0 4 rfl))
    b_len := PySem.W.mg_none_of Y G (of_decide_eq_true (show (decide (PySem.W.nsIn K mainGlobals ("len" : Str) = some none)) = true from bget c0 5 rfl))
    b_list := PySem.W.mg_none_of Y G (of_decide_eq_true (show (decide (PySem.W.nsIn K mainGlobals ("list" : Str) = some none)) = true from bget c0 6 rfl))
    b_max := PySem.W.mg_none_of Y G (of_decide_eq_true (show (decide (PySem.W.nsIn K mainGlobals ("max" : Str) = some none)) = true from bget c0 7 rfl))
    b_min := PySem.W.mg_none_of Y G (of_decide_eq_true (show (decide (PySem.W.nsIn K mainGlobals ("min" : Str) = some none)) = true from bget c0 8 rfl))
    b_range := PySem.W.mg_none_of Y G (of_decide_eq_true (show (decide (PySem.W.nsIn K mainGlobals ("range" : Str) = some none)) = true from bget c0 9 rfl))
    b_str := PySem.W.mg_none_of Y G (of_decide_eq_true (show (decide (PySem.W.nsIn K mainGlobals ("str" : Str) = some none)) = true from bget c0 10 rfl))
    b_tuple := PySem.W.mg_none_of Y G (of_decide_eq_true (show (decide (PySem.W.nsIn K mainGlobals ("tuple" : Str) = some none)) = true from bget c0 11 rfl))
    b_zip := PySem.W.mg_none_of Y G (of_decide_eq_true (show (decide (PySem.W.nsIn K mainGlobals ("zip" : Str) = some none)) = true from bget c0 12 rfl))
    c_DIGITS := cst_ok Y G (show (cstD K ("DIGITS" : Str) (.str ("0123456789" : Str))) = true from bget c0 13 rfl) (fun _ _ => by simp only [Rp])
    c_MOST_BEATS := cst_ok Y G (show (cstD K ("MOST_BEATS" : Str) (.int 200)) = true from bget c0 14 rfl) (fun _ _ => by simp only [Rp])
    c_MOST_LIFE := cst_ok Y G (show (cstD K ("MOST_LIFE" : Str) (.int 3)) = true from bget c0 15 rfl) (fun _ _ => by simp only [Rp])
    c_MOST_PORTIONS := cst_ok Y G (show (cstD K ("MOST_PORTIONS" : Str) (.int 4)) = true from bget c0 16 rfl) (fun _ _ => by simp only [Rp])
    c_MOST_PRICE := cst_ok Y G (show (cstD K ("MOST_PRICE" : Str) (.int 5)) = true from bget c0 17 rfl) (fun _ _ => by simp only [Rp])
    c_MOST_SEATS := cst_ok Y G (show (cstD K ("MOST_SEATS" : Str) (.int 4)) = true from bget c0 18 rfl) (fun _ _ => by simp only [Rp])
    c_NO_GROUPS := cst_ok Y G (show (cstD K ("NO_GROUPS" : Str) (.str ("-" : Str))) = true from bget c0 19 rfl) (fun _ _ => by simp only [Rp])
    c_NO_ROW := cst_ok Y G (show (cstD K ("NO_ROW" : Str) (.str ("none" : Str))) = true from bget c0 20 rfl) (fun _ _ => by simp only [Rp])
    g_BadRow := He.glo_ok Y G (show ((He.Fa.glo ("BadRow" : Str)).ok K) = true from bget c0 21 rfl)
    g_BadSetup := He.glo_ok Y G (show ((He.Fa.glo ("BadSetup" : Str)).ok K) = true from bget c0 22 rfl)
    g_BadText := He.glo_ok Y G (show ((He.Fa.glo ("BadText" : Str)).ok K) = true from bget c0 23 rfl)
    g_ParlourError := He.glo_ok Y G (show ((He.Fa.glo ("ParlourError" : Str)).ok K) = true from bget c0 24 rfl)
    i_BadRow := isCB_ok (show (isCB K ("BadRow" : Str) cnames il_BadRow) = true from bget c0 25 rfl)
    i_BadSetup := isCB_ok (show (isCB K ("BadSetup" : Str) cnames il_BadSetup) = true from bget c0 26 rfl)
    i_BadText := isCB_ok (show (isCB K ("BadText" : Str) cnames il_BadText) = true from bget c0 27 rfl)
    t_ParlourError := mtsB_ok (show (mtsB K ("ParlourError" : Str) cnames ml_ParlourError) = true from bget c0 28 rfl)
    x_place := plcB_ok (show (plcB K cnames plks) = true from bget c0 29 rfl)
    e_BadSetup := exc_raises (show ((He.Fa.exc ("BadSetup" : Str)).ok K) = true from bget c1 0 rfl)
    n_Words_all_words := He.noat_ok (show (He.Fa.ok K (.noat ("Words" : Str) ("all_words" : Str))) = true from bget c1 1 rfl)
    n_Words_next_index := He.noat_ok (show (He.Fa.ok K (.noat ("Words" : Str) ("next_index" : Str))) = true from bget c1 2 rfl)
    k_Words := He.cls_ok (show ((He.Fa.cls ("Words" : Str)).ok K) = true from bget c1 3 rfl)
    p_BadText := plB_ok (x := ("BadText" : Str)) (show (plB PySem.Challenge.rw_parlourday_k84_rows_and_bills_written.prog K ("BadText" : Str)) = true from bget c1 4 rfl) (c.pl 0 (x := ("BadText" : Str)) (v := some (defArgs (inClass (top 5) 0), .stmts (defBody (inClass (top 5) 0)), defScope (inClass (top 5) 0))) rfl rfl) rfl
  }
  obtain ⟨fd_law_urn, F_law_urn⟩ := c.def_ 0 (d := dd_law_urn) rfl
  obtain ⟨fd_law_draw, F_law_draw⟩ := c.def_ 1 (d := dd_law_draw) rfl
  obtain ⟨fd_law_two, F_law_two⟩ := c.def_ 2 (d := dd_law_two) rfl
  obtain ⟨fd_law_setup, F_law_setup⟩ := c.def_ 3 (d := dd_law_setup) rfl
  obtain ⟨fd_law_comers, F_law_comers⟩ := c.def_ 4 (d := dd_law_comers) rfl
  obtain ⟨fd_law_word, F_law_word⟩ := c.def_ 5 (d := dd_law_word) rfl
  obtain ⟨fd_law_words, F_law_words⟩ := c.def_ 6 (d := dd_law_words) rfl
  obtain ⟨fd_law_same, F_law_same⟩ := c.def_ 7 (d := dd_law_same) rfl
  obtain ⟨fd_law_as_due, F_law_as_due⟩ := c.def_ 8 (d := dd_law_as_due) rfl
  obtain ⟨fd_is_integer, F_is_integer⟩ := c.def_ 9 (d := dd_is_integer) rfl
  obtain ⟨fd_is_row_of, F_is_row_of⟩ := c.def_ 10 (d := dd_is_row_of) rfl
  obtain ⟨fd_is_choice, F_is_choice⟩ := c.def_ 11 (d := dd_is_choice) rfl
  obtain ⟨fd_is_setup, F_is_setup⟩ := c.def_ 12 (d := dd_is_setup) rfl
  obtain ⟨fd_need_setup, F_need_setup⟩ := c.def_ 13 (d := dd_need_setup) rfl
  obtain ⟨fd_Words__init, F_Words__init⟩ := c.def_ 14 (d := dd_Words__init) rfl
  obtain ⟨fd_Words_peek, F_Words_peek⟩ := c.def_ 15 (d := dd_Words_peek) rfl
  obtain ⟨fd_Words_skip, F_Words_skip⟩ := c.def_ 16 (d := dd_Words_skip) rfl
  obtain ⟨fd_Words_refuse, F_Words_refuse⟩ := c.def_ 17 (d := dd_Words_refuse) rfl
  obtain ⟨fd_Words_finish, F_Words_finish⟩ := c.def_ 18 (d := dd_Words_finish) rfl
  obtain ⟨fd_digit_in, F_digit_in⟩ := c.def_ 19 (d := dd_digit_in) rfl
  obtain ⟨fd_comers_in, F_comers_in⟩ := c.def_ 20 (d := dd_comers_in) rfl
  obtain ⟨fd_read_row, F_read_row⟩ := c.def_ 21 (d := dd_read_row) rfl
  obtain ⟨fd_law_read, F_law_read⟩ := c.def_ 22 (d := dd_law_read) rfl
  obtain ⟨fd_law_long_right, F_law_long_right⟩ := c.def_ 23 (d := dd_law_long_right) rfl
  obtain ⟨fd_law_refused_right, F_law_refused_right⟩ := c.def_ 24 (d := dd_law_refused_right) rfl
  obtain ⟨fd_comers_of, F_comers_of⟩ := c.def_ 25 (d := dd_comers_of) rfl
  obtain ⟨fd_all_comers, F_all_comers⟩ := c.def_ 26 (d := dd_all_comers) rfl
  obtain ⟨fd_comers_text, F_comers_text⟩ := c.def_ 27 (d := dd_comers_text) rfl
  obtain ⟨fd_show_row, F_show_row⟩ := c.def_ 28 (d := dd_show_row) rfl
  obtain ⟨fd_law_odd, F_law_odd⟩ := c.def_ 29 (d := dd_law_odd) rfl
  obtain ⟨fd_law_bent, F_law_bent⟩ := c.def_ 30 (d := dd_law_bent) rfl
  obtain ⟨fd_law_due, F_law_due⟩ := c.def_ 31 (d := dd_law_due) rfl
  obtain ⟨fd_law_row_right, F_law_row_right⟩ := c.def_ 32 (d := dd_law_row_right) rfl
  obtain ⟨fd_show_deed, F_show_deed⟩ := c.def_ 33 (d := dd_show_deed) rfl
  obtain ⟨fd_show_bill, F_show_bill⟩ := c.def_ 34 (d := dd_show_bill) rfl
  obtain ⟨fd_law_bill_right, F_law_bill_right⟩ := c.def_ 35 (d := dd_law_bill_right) rfl
  obtain ⟨fd_law, F_law⟩ := c.def_ 36 (d := dd_law) rfl
  have e := hfa.symm.trans (He.glo_ok Y G (show ((He.Fa.glo ("law" : Str)).ok K) = true from bget c2 6 rfl))
  cases e
  have bl := FunD.bindsA (ps := [("_law_script" : Str)]) F_law fun _ _ _ _ _ _ us hl => match us, hl with | [_], _ => rfl
  refine ⟨fd_law, fun s v => bl s [v] rfl, fun base => ?_⟩
  have O_law_urn := ok_law_urn (wo := wo) (base := base) T F_law_urn 
  have g_law_urn_2 : Fg Pg wo K mg base (cas K) 1 ("_law_urn" : Str) m_law_urn [] := ⟨_, _, [("_law_script" : Str), ("_law_k" : Str)], O_law_urn, (He.glo_ok Y G (show ((He.Fa.glo ("_law_urn" : Str)).ok K) = true from bget c1 5 rfl)), F_law_urn.kp, bd_of (FunD.bindsN (ps := [("_law_script" : Str), ("_law_k" : Str)]) F_law_urn fun _ _ _ _ _ _ us hl => match us, hl with | [_, _], _ => rfl)⟩
  have O_law_draw := ok_law_draw (wo := wo) (base := base) T F_law_draw 
  have g_law_draw_2 : Fg Pg wo K mg base (cas K) 1 ("_law_draw" : Str) m_law_draw [] := ⟨_, _, [("_law_urn_here" : Str), ("_law_many" : Str)], O_law_draw, (He.glo_ok Y G (show ((He.Fa.glo ("_law_draw" : Str)).ok K) = true from bget c1 6 rfl)), F_law_draw.kp, bd_of (FunD.bindsN (ps := [("_law_urn_here" : Str), ("_law_many" : Str)]) F_law_draw fun _ _ _ _ _ _ us hl => match us, hl with | [_, _], _ => rfl)⟩
  have O_law_two := ok_law_two (wo := wo) (base := base) T F_law_two g_law_draw_2
  have g_law_two_2 : Fg Pg wo K mg base (cas K) 2 ("_law_two" : Str) m_law_two [] := ⟨_, _, [("_law_urn_here" : Str), ("_law_high" : Str)], O_law_two, (He.glo_ok Y G (show ((He.Fa.glo ("_law_two" : Str)).ok K) = true from bget c1 7 rfl)), F_law_two.kp, bd_of (FunD.bindsN (ps := [("_law_urn_here" : Str), ("_law_high" : Str)]) F_law_two fun _ _ _ _ _ _ us hl => match us, hl with | [_, _], _ => rfl)⟩
  have O_law_setup := ok_law_setup (wo := wo) (base := base) T F_law_setup g_law_draw_2 g_law_two_2
  have g_law_setup_1 : Fg Pg wo K mg base (cas K) 3 ("_law_setup" : Str) m_law_setup [] := ⟨_, _, [("_law_urn_here" : Str)], O_law_setup, (He.glo_ok Y G (show ((He.Fa.glo ("_law_setup" : Str)).ok K) = true from bget c1 8 rfl)), F_law_setup.kp, bd_of (FunD.bindsN (ps := [("_law_urn_here" : Str)]) F_law_setup fun _ _ _ _ _ _ us hl => match us, hl with | [_], _ => rfl)⟩
  have O_law_comers := ok_law_comers (wo := wo) (base := base) T F_law_comers g_law_draw_2
  have g_law_comers_2 : Fg Pg wo K mg base (cas K) 2 ("_law_comers" : Str) m_law_comers [] := ⟨_, _, [("_law_urn_here" : Str), ("_law_shop" : Str)], O_law_comers, (He.glo_ok Y G (show ((He.Fa.glo ("_law_comers" : Str)).ok K) = true from bget c1 9 rfl)), F_law_comers.kp, bd_of (FunD.bindsN (ps := [("_law_urn_here" : Str), ("_law_shop" : Str)]) F_law_comers fun _ _ _ _ _ _ us hl => match us, hl with | [_, _], _ => rfl)⟩
  have O_law_word := ok_law_word (wo := wo) (base := base) T F_law_word 
  have g_law_word_1 : Fg Pg wo K mg base (cas K) 1 ("_law_word" : Str) m_law_word [] := ⟨_, _, [("_law_comers_here" : Str)], O_law_word, (He.glo_ok Y G (show ((He.Fa.glo ("_law_word" : Str)).ok K) = true from bget c1 10 rfl)), F_law_word.kp, bd_of (FunD.bindsN (ps := [("_law_comers_here" : Str)]) F_law_word fun _ _ _ _ _ _ us hl => match us, hl with | [_], _ => rfl)⟩
  have O_law_words := ok_law_words (wo := wo) (base := base) T F_law_words g_law_word_1
  have g_law_words_1 : Fg Pg wo K mg base (cas K) 2 ("_law_words" : Str) m_law_words [] := ⟨_, _, [("_law_run" : Str)], O_law_words, (He.glo_ok Y G (show ((He.Fa.glo ("_law_words" : Str)).ok K) = true from bget c1 11 rfl)), F_law_words.kp, bd_of (FunD.bindsN (ps := [("_law_run" : Str)]) F_law_words fun _ _ _ _ _ _ us hl => match us, hl with | [_], _ => rfl)⟩
  have r_law_same : ∀ n, Fg Pg wo K mg base (cas K) (1 + n) ("_law_same" : Str) (m_law_same n) [] := by
    intro n; induction n with
    | zero => exact ⟨_, _, [("_law_found" : Str), ("_law_due_here" : Str)], fok_stuck F_law_same sc_law_same, (He.glo_ok Y G (show ((He.Fa.glo ("_law_same" : Str)).ok K) = true from bget c1 12 rfl)), F_law_same.kp, bd_of (FunD.bindsN (ps := [("_law_found" : Str), ("_law_due_here" : Str)]) F_law_same fun _ _ _ _ _ _ us hl => match us, hl with | [_, _], _ => rfl)⟩
    | succ n ih => exact ⟨_, _, [("_law_found" : Str), ("_law_due_here" : Str)], ok_law_same T F_law_same  n ih, (He.glo_ok Y G (show ((He.Fa.glo ("_law_same" : Str)).ok K) = true from bget c1 12 rfl)), F_law_same.kp, bd_of (FunD.bindsN (ps := [("_law_found" : Str), ("_law_due_here" : Str)]) F_law_same fun _ _ _ _ _ _ us hl => match us, hl with | [_, _], _ => rfl)⟩
  have g_law_same_2 : Fg Pg wo K mg base (cas K) 7 ("_law_same" : Str) (m_law_same 6) [] := r_law_same 6
  have O_law_as_due := ok_law_as_due (wo := wo) (base := base) T F_law_as_due g_law_same_2
  have g_law_as_due_2 : Fg Pg wo K mg base (cas K) 8 ("_law_as_due" : Str) m_law_as_due [] := ⟨_, _, [("_law_told" : Str), ("_law_due_here" : Str)], O_law_as_due, (He.glo_ok Y G (show ((He.Fa.glo ("_law_as_due" : Str)).ok K) = true from bget c1 13 rfl)), F_law_as_due.kp, bd_of (FunD.bindsN (ps := [("_law_told" : Str), ("_law_due_here" : Str)]) F_law_as_due fun _ _ _ _ _ _ us hl => match us, hl with | [_, _], _ => rfl)⟩
  have O_is_integer := ok_is_integer (wo := wo) (base := base) T F_is_integer 
  have g_is_integer_3 : Fg Pg wo K mg base (cas K) 1 ("is_integer" : Str) m_is_integer [] := ⟨_, _, [("thing" : Str), ("low" : Str), ("high" : Str)], O_is_integer, (He.glo_ok Y G (show ((He.Fa.glo ("is_integer" : Str)).ok K) = true from bget c1 14 rfl)), F_is_integer.kp, bd_ex (FunD.binds1 (ps := [("thing" : Str), ("low" : Str), ("high" : Str)]) F_is_integer 3 2 (List.cons_ne_nil _ _) rfl fun _ _ _ _ _ _ _ us its l1 l2 => match us, l1, its, l2 with | [_, _, _], _, [_, _], _ => ⟨_, rfl, rfl⟩) (fun _ _ => Rps.nil)⟩
  have O_is_row_of := ok_is_row_of (wo := wo) (base := base) T F_is_row_of g_is_integer_3
  have g_is_row_of_3 : Fg Pg wo K mg base (cas K) 2 ("is_row_of" : Str) m_is_row_of [] := ⟨_, _, [("thing" : Str), ("lows" : Str), ("highs" : Str)], O_is_row_of, (He.glo_ok Y G (show ((He.Fa.glo ("is_row_of" : Str)).ok K) = true from bget c1 15 rfl)), F_is_row_of.kp, bd_of (FunD.bindsN (ps := [("thing" : Str), ("lows" : Str), ("highs" : Str)]) F_is_row_of fun _ _ _ _ _ _ us hl => match us, hl with | [_, _, _], _ => rfl)⟩
  have O_is_choice := ok_is_choice (wo := wo) (base := base) T F_is_choice g_is_integer_3
  have g_is_choice_2 : Fg Pg wo K mg base (cas K) 2 ("is_choice" : Str) m_is_choice [] := ⟨_, _, [("thing" : Str), ("most" : Str)], O_is_choice, (He.glo_ok Y G (show ((He.Fa.glo ("is_choice" : Str)).ok K) = true from bget c1 16 rfl)), F_is_choice.kp, bd_of (FunD.bindsN (ps := [("thing" : Str), ("most" : Str)]) F_is_choice fun _ _ _ _ _ _ us hl => match us, hl with | [_, _], _ => rfl)⟩
  have O_is_setup := ok_is_setup (wo := wo) (base := base) T F_is_setup g_is_integer_3 g_is_choice_2 g_is_row_of_3
  have g_is_setup_1 : Fg Pg wo K mg base (cas K) 3 ("is_setup" : Str) m_is_setup [] := ⟨_, _, [("thing" : Str)], O_is_setup, (He.glo_ok Y G (show ((He.Fa.glo ("is_setup" : Str)).ok K) = true from bget c1 17 rfl)), F_is_setup.kp, bd_of (FunD.bindsN (ps := [("thing" : Str)]) F_is_setup fun _ _ _ _ _ _ us hl => match us, hl with | [_], _ => rfl)⟩
  have O_need_setup := ok_need_setup (wo := wo) (base := base) T F_need_setup g_is_setup_1
  have g_need_setup_1 : Fg Pg wo K mg base (cas K) 4 ("need_setup" : Str) m_need_setup [] := ⟨_, _, [("setup" : Str)], O_need_setup, (He.glo_ok Y G (show ((He.Fa.glo ("need_setup" : Str)).ok K) = true from bget c1 18 rfl)), F_need_setup.kp, bd_of (FunD.bindsN (ps := [("setup" : Str)]) F_need_setup fun _ _ _ _ _ _ us hl => match us, hl with | [_], _ => rfl)⟩
  have O_Words__init := ok_Words__init (wo := wo) (base := base) T F_Words__init 
  have g_Words__init_i1 : Ig Pg wo K mg base (cas K) 1 0 ("Words" : Str) m_Words__init [] := ⟨_, _, [("self" : Str), ("text" : Str)], O_Words__init, He.mkr_ok (show ((He.Fa.mkr ("Words" : Str)).ok K) = true from bget c2 10 rfl), He.glo_ok Y G (show ((He.Fa.glo ("Words" : Str)).ok K) = true from bget c2 11 rfl), bd_of (FunD.bindsN (ps := [("self" : Str), ("text" : Str)]) F_Words__init fun _ _ _ _ _ _ us hl => match us, hl with | [_, _], _ => rfl)⟩
  have O_Words_peek := ok_Words_peek (wo := wo) (base := base) T F_Words_peek 
  have g_Words_peek_m0 : Mg Pg wo K mg base (cas K) 1 0 ("peek" : Str) m_Words_peek [] := ⟨_, _, [("self" : Str)], O_Words_peek, He.cls_ok (show ((He.Fa.cls ("Words" : Str)).ok K) = true from bget c2 8 rfl), He.meth_ok (show ((He.Fa.meth ("Words" : Str) ("peek" : Str)).ok K) = true from bget c2 7 rfl), bd_of (FunD.bindsN (ps := [("self" : Str)]) F_Words_peek fun _ _ _ _ _ _ us hl => match us, hl with | [_], _ => rfl)⟩
  have O_Words_skip := ok_Words_skip (wo := wo) (base := base) T F_Words_skip 
  have g_Words_skip_m0 : Mg Pg wo K mg base (cas K) 1 0 ("skip" : Str) m_Words_skip [] := ⟨_, _, [("self" : Str)], O_Words_skip, He.cls_ok (show ((He.Fa.cls ("Words" : Str)).ok K) = true from bget c2 8 rfl), He.meth_ok (show ((He.Fa.meth ("Words" : Str) ("skip" : Str)).ok K) = true from bget c2 12 rfl), bd_of (FunD.bindsN (ps := [("self" : Str)]) F_Words_skip fun _ _ _ _ _ _ us hl => match us, hl with | [_], _ => rfl)⟩
  have O_Words_refuse := ok_Words_refuse (wo := wo) (base := base) T F_Words_refuse 
  have g_Words_refuse_m0 : Mg Pg wo K mg base (cas K) 1 0 ("refuse" : Str) m_Words_refuse [] := ⟨_, _, [("self" : Str)], O_Words_refuse, He.cls_ok (show ((He.Fa.cls ("Words" : Str)).ok K) = true from bget c2 8 rfl), He.meth_ok (show ((He.Fa.meth ("Words" : Str) ("refuse" : Str)).ok K) = true from bget c2 9 rfl), bd_of (FunD.bindsN (ps := [("self" : Str)]) F_Words_refuse fun _ _ _ _ _ _ us hl => match us, hl with | [_], _ => rfl)⟩
  have O_Words_finish := ok_Words_finish (wo := wo) (base := base) T F_Words_finish g_Words_peek_m0 g_Words_refuse_m0
  have g_Words_finish_m0 : Mg Pg wo K mg base (cas K) 2 0 ("finish" : Str) m_Words_finish [] := ⟨_, _, [("self" : Str)], O_Words_finish, He.cls_ok (show ((He.Fa.cls ("Words" : Str)).ok K) = true from bget c2 8 rfl), He.meth_ok (show ((He.Fa.meth ("Words" : Str) ("finish" : Str)).ok K) = true from bget c2 13 rfl), bd_of (FunD.bindsN (ps := [("self" : Str)]) F_Words_finish fun _ _ _ _ _ _ us hl => match us, hl with | [_], _ => rfl)⟩
  have O_digit_in := ok_digit_in (wo := wo) (base := base) T F_digit_in 
  have g_digit_in_3 : Fg Pg wo K mg base (cas K) 1 ("digit_in" : Str) m_digit_in [] := ⟨_, _, [("word" : Str), ("low" : Str), ("high" : Str)], O_digit_in, (He.glo_ok Y G (show ((He.Fa.glo ("digit_in" : Str)).ok K) = true from bget c1 19 rfl)), F_digit_in.kp, bd_of (FunD.bindsN (ps := [("word" : Str), ("low" : Str), ("high" : Str)]) F_digit_in fun _ _ _ _ _ _ us hl => match us, hl with | [_, _, _], _ => rfl)⟩
  have O_comers_in := ok_comers_in (wo := wo) (base := base) T F_comers_in g_digit_in_3
  have g_comers_in_2 : Fg Pg wo K mg base (cas K) 2 ("comers_in" : Str) m_comers_in [] := ⟨_, _, [("setup" : Str), ("word" : Str)], O_comers_in, (He.glo_ok Y G (show ((He.Fa.glo ("comers_in" : Str)).ok K) = true from bget c1 20 rfl)), F_comers_in.kp, bd_of (FunD.bindsN (ps := [("setup" : Str), ("word" : Str)]) F_comers_in fun _ _ _ _ _ _ us hl => match us, hl with | [_, _], _ => rfl)⟩
  have O_read_row := ok_read_row (wo := wo) (base := base) T F_read_row g_need_setup_1 g_Words__init_i1 g_Words_peek_m0 g_Words_skip_m0 g_Words_finish_m0 g_comers_in_2 g_Words_refuse_m0
  have g_read_row_2 : Fg Pg wo K mg base (cas K) 5 ("read_row" : Str) m_read_row [] := ⟨_, _, [("setup" : Str), ("text" : Str)], O_read_row, (He.glo_ok Y G (show ((He.Fa.glo ("read_row" : Str)).ok K) = true from bget c1 21 rfl)), F_read_row.kp, bd_of (FunD.bindsN (ps := [("setup" : Str), ("text" : Str)]) F_read_row fun _ _ _ _ _ _ us hl => match us, hl with | [_, _], _ => rfl)⟩
  have g_read_row_k0_text_setup : Kg Pg wo K mg base (cas K) 5 ("read_row" : Str) m_read_row 0 [("text" : Str), ("setup" : Str)] [] [1, 0] := ⟨_, _, [("setup" : Str), ("text" : Str)], [], [], O_read_row, (He.glo_ok Y G (show ((He.Fa.glo ("read_row" : Str)).ok K) = true from bget c1 21 rfl)), F_read_row.kp, kb_of F_read_row (fun _ _ _ _ _ _ us ws l1 l2 => match us, l1, ws, l2 with | [], _, [_, _], _ => rfl), .nil, fun _ _ => Rps.nil⟩
  have O_law_read := ok_law_read (wo := wo) (base := base) T F_law_read g_read_row_2
  have g_law_read_2 : Fg Pg wo K mg base (cas K) 6 ("_law_read" : Str) m_law_read [] := ⟨_, _, [("_law_shop" : Str), ("_law_note" : Str)], O_law_read, (He.glo_ok Y G (show ((He.Fa.glo ("_law_read" : Str)).ok K) = true from bget c1 22 rfl)), F_law_read.kp, bd_of (FunD.bindsN (ps := [("_law_shop" : Str), ("_law_note" : Str)]) F_law_read fun _ _ _ _ _ _ us hl => match us, hl with | [_, _], _ => rfl)⟩
  have O_law_long_right := ok_law_long_right (wo := wo) (base := base) T F_law_long_right g_law_comers_2 g_law_words_1 g_law_as_due_2 g_law_read_2
  have g_law_long_right_2 : Fg Pg wo K mg base (cas K) 9 ("_law_long_right" : Str) m_law_long_right [] := ⟨_, _, [("_law_urn_here" : Str), ("_law_shop" : Str)], O_law_long_right, (He.glo_ok Y G (show ((He.Fa.glo ("_law_long_right" : Str)).ok K) = true from bget c1 23 rfl)), F_law_long_right.kp, bd_of (FunD.bindsN (ps := [("_law_urn_here" : Str), ("_law_shop" : Str)]) F_law_long_right fun _ _ _ _ _ _ us hl => match us, hl with | [_, _], _ => rfl)⟩
  have O_law_refused_right := ok_law_refused_right (wo := wo) (base := base) T F_law_refused_right g_law_draw_2 g_law_as_due_2 g_law_read_2
  have g_law_refused_right_2 : Fg Pg wo K mg base (cas K) 9 ("_law_refused_right" : Str) m_law_refused_right [] := ⟨_, _, [("_law_urn_here" : Str), ("_law_shop" : Str)], O_law_refused_right, (He.glo_ok Y G (show ((He.Fa.glo ("_law_refused_right" : Str)).ok K) = true from bget c1 24 rfl)), F_law_refused_right.kp, bd_of (FunD.bindsN (ps := [("_law_urn_here" : Str), ("_law_shop" : Str)]) F_law_refused_right fun _ _ _ _ _ _ us hl => match us, hl with | [_, _], _ => rfl)⟩
  have O_comers_of := ok_comers_of (wo := wo) (base := base) T F_comers_of 
  have g_comers_of_1 : Fg Pg wo K mg base (cas K) 1 ("comers_of" : Str) m_comers_of [] := ⟨_, _, [("setup" : Str)], O_comers_of, (He.glo_ok Y G (show ((He.Fa.glo ("comers_of" : Str)).ok K) = true from bget c1 25 rfl)), F_comers_of.kp, bd_of (FunD.bindsN (ps := [("setup" : Str)]) F_comers_of fun _ _ _ _ _ _ us hl => match us, hl with | [_], _ => rfl)⟩
  have O_all_comers := ok_all_comers (wo := wo) (base := base) T F_all_comers g_need_setup_1 g_comers_of_1
  have g_all_comers_1 : Fg Pg wo K mg base (cas K) 5 ("all_comers" : Str) m_all_comers [] := ⟨_, _, [("setup" : Str)], O_all_comers, (He.glo_ok Y G (show ((He.Fa.glo ("all_comers" : Str)).ok K) = true from bget c1 26 rfl)), F_all_comers.kp, bd_of (FunD.bindsN (ps := [("setup" : Str)]) F_all_comers fun _ _ _ _ _ _ us hl => match us, hl with | [_], _ => rfl)⟩
  have O_comers_text := ok_comers_text (wo := wo) (base := base) T F_comers_text 
  have g_comers_text_1 : Fg Pg wo K mg base (cas K) 1 ("comers_text" : Str) m_comers_text [] := ⟨_, _, [("comers" : Str)], O_comers_text, (He.glo_ok Y G (show ((He.Fa.glo ("comers_text" : Str)).ok K) = true from bget c1 27 rfl)), F_comers_text.kp, bd_of (FunD.bindsN (ps := [("comers" : Str)]) F_comers_text fun _ _ _ _ _ _ us hl => match us, hl with | [_], _ => rfl)⟩
  have O_show_row := ok_show_row (wo := wo) (base := base) T F_show_row g_comers_text_1
  have g_show_row_1 : Fg Pg wo K mg base (cas K) 2 ("show_row" : Str) m_show_row [] := ⟨_, _, [("row" : Str)], O_show_row, (He.glo_ok Y G (show ((He.Fa.glo ("show_row" : Str)).ok K) = true from bget c1 28 rfl)), F_show_row.kp, bd_of (FunD.bindsN (ps := [("row" : Str)]) F_show_row fun _ _ _ _ _ _ us hl => match us, hl with | [_], _ => rfl)⟩
  have g_show_row_k0_row : Kg Pg wo K mg base (cas K) 2 ("show_row" : Str) m_show_row 0 [("row" : Str)] [] [0] := ⟨_, _, [("row" : Str)], [], [], O_show_row, (He.glo_ok Y G (show ((He.Fa.glo ("show_row" : Str)).ok K) = true from bget c1 28 rfl)), F_show_row.kp, kb_of F_show_row (fun _ _ _ _ _ _ us ws l1 l2 => match us, l1, ws, l2 with | [], _, [_], _ => rfl), .nil, fun _ _ => Rps.nil⟩
  have O_law_odd := ok_law_odd (wo := wo) (base := base) T F_law_odd g_law_draw_2
  have g_law_odd_1 : Fg Pg wo K mg base (cas K) 2 ("_law_odd" : Str) m_law_odd [] := ⟨_, _, [("_law_urn_here" : Str)], O_law_odd, (He.glo_ok Y G (show ((He.Fa.glo ("_law_odd" : Str)).ok K) = true from bget c1 29 rfl)), F_law_odd.kp, bd_of (FunD.bindsN (ps := [("_law_urn_here" : Str)]) F_law_odd fun _ _ _ _ _ _ us hl => match us, hl with | [_], _ => rfl)⟩
  have O_law_bent := ok_law_bent (wo := wo) (base := base) T F_law_bent g_law_draw_2 g_law_odd_1
  have g_law_bent_2 : Fg Pg wo K mg base (cas K) 3 ("_law_bent" : Str) m_law_bent [] := ⟨_, _, [("_law_urn_here" : Str), ("_law_words_here" : Str)], O_law_bent, (He.glo_ok Y G (show ((He.Fa.glo ("_law_bent" : Str)).ok K) = true from bget c2 0 rfl)), F_law_bent.kp, bd_of (FunD.bindsN (ps := [("_law_urn_here" : Str), ("_law_words_here" : Str)]) F_law_bent fun _ _ _ _ _ _ us hl => match us, hl with | [_, _], _ => rfl)⟩
  have O_law_due := ok_law_due (wo := wo) (base := base) T F_law_due g_law_word_1
  have g_law_due_2 : Fg Pg wo K mg base (cas K) 2 ("_law_due" : Str) m_law_due [] := ⟨_, _, [("_law_shop" : Str), ("_law_words_here" : Str)], O_law_due, (He.glo_ok Y G (show ((He.Fa.glo ("_law_due" : Str)).ok K) = true from bget c2 1 rfl)), F_law_due.kp, bd_of (FunD.bindsN (ps := [("_law_shop" : Str), ("_law_words_here" : Str)]) F_law_due fun _ _ _ _ _ _ us hl => match us, hl with | [_, _], _ => rfl)⟩
  have O_law_row_right := ok_law_row_right (wo := wo) (base := base) T F_law_row_right g_law_words_1 g_law_same_2 g_show_row_1 g_show_row_k0_row g_law_as_due_2 g_read_row_k0_text_setup g_all_comers_1 g_law_bent_2 g_law_read_2 g_law_due_2 g_read_row_2
  have g_law_row_right_3 : Fg Pg wo K mg base (cas K) 9 ("_law_row_right" : Str) m_law_row_right [] := ⟨_, _, [("_law_urn_here" : Str), ("_law_shop" : Str), ("_law_run" : Str)], O_law_row_right, (He.glo_ok Y G (show ((He.Fa.glo ("_law_row_right" : Str)).ok K) = true from bget c2 2 rfl)), F_law_row_right.kp, bd_of (FunD.bindsN (ps := [("_law_urn_here" : Str), ("_law_shop" : Str), ("_law_run" : Str)]) F_law_row_right fun _ _ _ _ _ _ us hl => match us, hl with | [_, _, _], _ => rfl)⟩
  have O_show_deed := ok_show_deed (wo := wo) (base := base) T F_show_deed 
  have g_show_deed_1 : Fg Pg wo K mg base (cas K) 1 ("show_deed" : Str) m_show_deed [] := ⟨_, _, [("deed" : Str)], O_show_deed, (He.glo_ok Y G (show ((He.Fa.glo ("show_deed" : Str)).ok K) = true from bget c2 3 rfl)), F_show_deed.kp, bd_of (FunD.bindsN (ps := [("deed" : Str)]) F_show_deed fun _ _ _ _ _ _ us hl => match us, hl with | [_], _ => rfl)⟩
  have O_show_bill := ok_show_bill (wo := wo) (base := base) T F_show_bill g_show_deed_1
  have g_show_bill_1 : Fg Pg wo K mg base (cas K) 2 ("show_bill" : Str) m_show_bill [] := ⟨_, _, [("bill" : Str)], O_show_bill, (He.glo_ok Y G (show ((He.Fa.glo ("show_bill" : Str)).ok K) = true from bget c2 4 rfl)), F_show_bill.kp, bd_of (FunD.bindsN (ps := [("bill" : Str)]) F_show_bill fun _ _ _ _ _ _ us hl => match us, hl with | [_], _ => rfl)⟩
  have g_show_bill_k0_bill : Kg Pg wo K mg base (cas K) 2 ("show_bill" : Str) m_show_bill 0 [("bill" : Str)] [] [0] := ⟨_, _, [("bill" : Str)], [], [], O_show_bill, (He.glo_ok Y G (show ((He.Fa.glo ("show_bill" : Str)).ok K) = true from bget c2 4 rfl)), F_show_bill.kp, kb_of F_show_bill (fun _ _ _ _ _ _ us ws l1 l2 => match us, l1, ws, l2 with | [], _, [_], _ => rfl), .nil, fun _ _ => Rps.nil⟩
  have O_law_bill_right := ok_law_bill_right (wo := wo) (base := base) T F_law_bill_right g_law_draw_2 g_law_same_2 g_show_bill_1 g_show_bill_k0_bill
  have g_law_bill_right_2 : Fg Pg wo K mg base (cas K) 8 ("_law_bill_right" : Str) m_law_bill_right [] := ⟨_, _, [("_law_urn_here" : Str), ("_law_shop" : Str)], O_law_bill_right, (He.glo_ok Y G (show ((He.Fa.glo ("_law_bill_right" : Str)).ok K) = true from bget c2 5 rfl)), F_law_bill_right.kp, bd_of (FunD.bindsN (ps := [("_law_urn_here" : Str), ("_law_shop" : Str)]) F_law_bill_right fun _ _ _ _ _ _ us hl => match us, hl with | [_, _], _ => rfl)⟩
  have O_law := ok_law (wo := wo) (base := base) T F_law g_law_urn_2 g_law_setup_1 g_law_draw_2 g_law_comers_2 g_law_row_right_3 g_law_bill_right_2 g_law_long_right_2 g_law_refused_right_2
  exact O_law
abbrev R : PySem.W.OpenRow := PySem.W.OpenLaw.row PySem.Challenge.rw_parlourday_k84_rows_and_bills_written
abbrev hk : PySem.W.Hook := hookB 5 B fn xs xv
def ob (s : PySem.W.SharedT) : ObT := obBG 5 B fn xs (HandSHeadRun.getT s)
theorem ob_eq (s : PySem.W.SharedT) : ob s = hk.obs s.abs := obBG_eq (HandSHeadRun.getT_eq s)
def ls0 : List Str := [("_wall" : Str), ("__name__" : Str), ("ParlourError" : Str), ("BadSetup" : Str), ("BadRow" : Str), ("BadText" : Str), ("is_integer" : Str), ("MOST_SEATS" : Str), ("MOST_PORTIONS" : Str), ("MOST_LIFE" : Str), ("MOST_PRICE" : Str), ("is_row_of" : Str), ("is_choice" : Str), ("is_setup" : Str), ("comers_of" : Str), ("need_setup" : Str), ("all_comers" : Str), ("DIGITS" : Str), ("digit_in" : Str), ("Words" : Str), ("NO_ROW" : Str), ("NO_GROUPS" : Str), ("MOST_BEATS" : Str), ("comers_text" : Str), ("show_row" : Str), ("show_deed" : Str), ("show_bill" : Str), ("comers_in" : Str), ("read_row" : Str), ("_law_urn" : Str)]
def ls1 : List Str := [("_law_draw" : Str), ("_law_same" : Str), ("_law_two" : Str), ("_law_setup" : Str), ("_law_range" : Str), ("_law_half" : Str), ("_law_comers" : Str), ("_law_word" : Str), ("_law_words" : Str), ("_law_due" : Str), ("_law_odd" : Str), ("_law_bent" : Str), ("_law_read" : Str), ("_law_as_due" : Str), ("_law_row_right" : Str), ("_law_long_right" : Str), ("_law_refused_right" : Str), ("_law_bill_right" : Str)]
def loose : List Str := ls0 ++ ls1
theorem run (w : World) : HandSHeadRun.RunEq R (PySem.W.view R.prog [53]) hk ob 4000 loose w := by
  intro os
  kernel_rfl
end K84
open PySem PySem.W PySem.Calls PyProof.Rows
theorem K84_holds (plain : ∀ ns : List Int, ns.length ≤ 63 → ∃ h, K84.m_law [.lst (ns.map .int)] [] = .val (.bl true) h) : PySem.Challenge.rw_parlourday_k84_rows_and_bills_written.Holds := by
  w_on; o_law
  refine HandSHeadRun.head_any (r := OpenLaw.row PySem.Challenge.rw_parlourday_k84_rows_and_bills_written) (q := view (OpenLaw.row PySem.Challenge.rw_parlourday_k84_rows_and_bills_written).prog [53]) (H := K84.hk) (ob := K84.ob) (M := 4000) (loose := K84.loose) (d := HandSHeadRun.topDef (OpenLaw.row PySem.Challenge.rw_parlourday_k84_rows_and_bills_written).prog 53) (kwd := []) K84.ob_eq
    (by kernel_rfl) (fun s => by kernel_rfl) K84.run (by kernel_rfl) (by kernel_rfl) (by kernel_rfl) (by rfl) (by first | assumption | decide +kernel) (by decide +kernel) ⟨rfl, rfl, rfl, rfl, rfl, by decide +kernel⟩ ?hw ?hc
  case hw => w_witness2
  case hc =>
    refine PV.walk_pv (ol := PySem.Challenge.rw_parlourday_k84_rows_and_bills_written) (lim := 63) (lev := 10) (arg := ("_law_script" : Str)) rfl (by decide) (by kernel_rfl) ⟨rfl, by decide, by decide⟩ ?F
    intro w mg fa h Y G hmg0
    obtain ⟨K, KX, c⟩ := Y
    have hmg : mg ("law" : PySem.Str) = some (.ref fa) := by
      have e : (HandSHeadRun.topDef (OpenLaw.row PySem.Challenge.rw_parlourday_k84_rows_and_bills_written).prog 53).name = ("law" : PySem.Str) := by kernel_rfl
      rw [← e]
      exact hmg0
    obtain ⟨fd, hb, hF⟩ := K84.law_ok (wo := w) KX G hmg c
    exact ⟨K, fd, _, KX, hb, fun H a ns hl hS => PV.law_sp (Nat.le_trans hl (by decide)) hS (plain ns hl), fun base => hF base⟩
end

section
set_option Elab.async false
set_option linter.all false
set_option maxRecDepth 100000
set_option maxHeartbeats 1000000
/-! PV.P0: the words of the plain logic as rewritings; texts by signs; the urn. -/
namespace PV
open PySem L2
theorem beq_dec {α : Type} [BEq α] [LawfulBEq α] [DecidableEq α] (x y : α) : (x == y) = decide (x = y) := by
  by_cases h : x = y
  · subst h; simp
  · simp [h]
/-- an outcome that is no new container -/
def wV (r : FR) (Q : D → Hh → Prop) (X : XP) : Prop := match r with
  | .exc c p h => X c p h
  | .val d h => Q d h
  | _ => False
def finV (Q : D → Hh → Prop) : Fl → Env → Hh → Prop := fun f _ h => match f with
  | .next => Q .non h
  | .ret d => Q d h
  | _ => False
theorem finV_next {ρ : Env} {h : Hh} {Q : D → Hh → Prop} : finV Q .next ρ h = Q .non h := rfl
theorem finV_ret {ρ : Env} {h : Hh} {Q : D → Hh → Prop} {d : D} : finV Q (.ret d) ρ h = Q d h := rfl
theorem wV_fn {n k : Nat} {body : SM} {xs : List D} {h : Hh} {X : XP} {Q : D → Hh → Prop} (hl : xs.length = n) (w : wS (body (xs.map .val ++ List.replicate (k - n) .un) h) (finV Q) fun c p _ h1 => X c p h1) : wV (fnM n k body xs h) Q X := by
  unfold fnM
  rw [if_pos hl]
  revert w
  cases body (xs.map .val ++ List.replicate (k - n) .un) h with
  | stuck => exact fun w => w
  | exc c p ρ h => exact fun w => w
  | ok f ρ h => cases f <;> exact fun w => w
theorem wE_makeV {ρ : Env} {h : Hh} {X : XP} {QD : D → Hh → Prop} {cl : Nat} {m : Fn} {dd : List D} {as : EM (List D)} : wE (eMake cl m dd as ρ h) QD X = wE (as ρ h) (fun xs h1 => wV (m (.obj h1.length :: (xs ++ dd)) (h1 ++ [.ins cl []])) (fun d h' => d = .non ∧ QD (.obj h1.length) h') X) X := by
  rw [wE_make]
  congr
  funext xs h1
  cases m (.obj h1.length :: (xs ++ dd)) (h1 ++ [.ins cl []]) with
  | stuck => rfl
  | exc c p h' => rfl
  | new d h' => rfl
  | val d h' => cases d <;> simp [wV]
theorem getP_own {ρ : Env} {h : Hh} {i : Nat} : getP (.cell i) ρ h = ownAt ρ i := rfl
theorem asB_bl {b : Bool} : asB (.bl b) = some b := rfl
/-! ### operators at whole numbers -/
section
variable {i j : Int} {x y : Str} {b : Bool} {xs ys : List D} {d : D}
theorem d_add : dAdd (.int i) (.int j) = some (.int (i + j)) := rfl
theorem d_sub : dSub (.int i) (.int j) = some (.int (i - j)) := rfl
theorem d_lt : dLt (.int i) (.int j) = some (.bl (decide (i < j))) := rfl
theorem d_le : dLe (.int i) (.int j) = some (.bl (decide (i ≤ j))) := rfl
theorem d_gt : dGt (.int i) (.int j) = some (.bl (decide (j < i))) := rfl
theorem d_ge : dGe (.int i) (.int j) = some (.bl (decide (j ≤ i))) := rfl
theorem d_int : dInt (.int i) = some (.int i) := rfl
theorem d_intB : dInt (.bl b) = some (.int (if b then 1 else 0)) := rfl
theorem d_mod (h : 0 < j) : dMod (.int i) (.int j) = some (.int (i % j)) := if_pos h
theorem d_fdiv (h : 0 < j ∧ j < 1073741824) : dFdiv (.int i) (.int j) = some (.int (i / j)) := if_pos h
theorem d_mul (h : mulOk i j = true) : dMul (.int i) (.int j) = some (.int (i * j)) := if_pos h
theorem d_pow (h : powOk i j = true) : dPow (.int i) (.int j) = some (.int (i ^ j.toNat)) := if_pos h
theorem d_max {i j : Int} : dMax2 [.int i, .int j] = some (.int (if j > i then j else i)) := rfl
theorem d_min {i j : Int} : dMin2 [.int i, .int j] = some (.int (if j < i then j else i)) := rfl
theorem nn_non : isNonD .non = true := rfl
theorem nn_bl {b : Bool} : isNonD (.bl b) = false := rfl
theorem nn_int {i : Int} : isNonD (.int i) = false := rfl
theorem nn_str {x : Str} : isNonD (.str x) = false := rfl
theorem nn_tup {x : List D} : isNonD (.tup x) = false := rfl
theorem nn_lst {x : List D} : isNonD (.lst x) = false := rfl
theorem nn_dic {x : List (D × D)} : isNonD (.dic x) = false := rfl
theorem nn_obj {i : Nat} : isNonD (.obj i) = false := rfl
theorem nn_exn {i : Nat} {p : D} : isNonD (.exn i p) = false := rfl
theorem d_isN : dIsN d .non = some (.bl (isNonD d)) := rfl
theorem d_notN : dNotN d .non = some (.bl (!isNonD d)) := rfl
theorem d_eqI : dEqD (.int i) (.int j) = some (.bl (decide (i = j))) := by
  show ((if (plainD (.int i) && plainD (.int j) && decide (min (depD (.int i)) (depD (.int j)) ≤ 60)) = true then some (eqvD (.int i) (.int j)) else none)).map D.bl = _
  have e : eqvD (.int i) (.int j) = decide (i = j) := by simp only [eqvD, toP, PyData.eqv]; exact beq_dec _ _
  have g : (plainD (.int i) && plainD (.int j) && decide (min (depD (.int i)) (depD (.int j)) ≤ 60)) = true := by simp [plainD, depD, toP, PyData.depth]
  rw [if_pos g, e]
  rfl
theorem eq_to_ne {x y : D} {b : Bool} (h : dEqD x y = some (.bl b)) : dNeD x y = some (.bl (!b)) := by
  unfold dEqD at h
  unfold dNeD
  cases e : dEq x y with
  | none => rw [e] at h; cases h
  | some c => rw [e] at h; cases h; rfl
theorem d_neI : dNeD (.int i) (.int j) = some (.bl (!decide (i = j))) := eq_to_ne d_eqI
mutual
theorem eqv_refl : ∀ x : D, eqvD x x = true
  | .non => rfl
  | .bl b => by simp only [eqvD, toP, PyData.eqv]; cases b <;> rfl
  | .int i => by simp only [eqvD, toP, PyData.eqv]; exact beq_self_eq_true i
  | .str x => by simp only [eqvD, toP, PyData.eqv]; exact beq_self_eq_true x
  | .tup xs => by simp only [eqvD, toP, PyData.eqv]; exact eqvs_refl xs
  | .lst xs => by simp only [eqvD, toP, PyData.eqv]; exact eqvs_refl xs
  | .dic _ => rfl
  | .obj _ => rfl
  | .exn _ _ => rfl
theorem eqvs_refl : ∀ xs : List D, PyData.eqvAll (toPs xs) (toPs xs) = true
  | [] => rfl
  | x :: xs => by
    have h := eqv_refl x
    unfold eqvD at h
    simp only [toPs, PyData.eqvAll, h, eqvs_refl xs, Bool.and_self]
end
theorem d_eqP {x y : D} (h1 : plainD x = true) (h2 : plainD y = true) (h3 : depD x ≤ 60 ∨ depD y ≤ 60) : dEqD x y = some (.bl (eqvD x y)) := by
  unfold dEqD dEq
  have h4 : min (depD x) (depD y) ≤ 60 := by omega
  rw [h1, h2, decide_eq_true h4]
  rfl
theorem d_eqL0 {xs : List D} (h : plainDs xs = true) : dEqD (.lst xs) (.lst []) = some (.bl xs.isEmpty) := by
  rw [d_eqP (by simpa [plainD] using h) rfl (.inr (by decide))]
  cases xs <;> rfl
theorem d_eqT0 {xs : List D} (h : plainDs xs = true) : dEqD (.tup xs) (.tup []) = some (.bl xs.isEmpty) := by
  rw [d_eqP (by simpa [plainD] using h) rfl (.inr (by decide))]
  cases xs <;> rfl
theorem d_eqR {x : D} (h : plainD x = true) (h3 : depD x ≤ 60) : dEqD x x = some (.bl true) := by
  rw [d_eqP h h (.inl h3), eqv_refl]
theorem d_eqS : dEqD (.str x) (.str y) = some (.bl (decide (x = y))) := by
  show ((if (plainD (.str x) && plainD (.str y) && decide (min (depD (.str x)) (depD (.str y)) ≤ 60)) = true then some (eqvD (.str x) (.str y)) else none)).map D.bl = _
  have e : eqvD (.str x) (.str y) = decide (x = y) := by simp only [eqvD, toP, PyData.eqv]; exact beq_dec _ _
  have g : (plainD (.str x) && plainD (.str y) && decide (min (depD (.str x)) (depD (.str y)) ≤ 60)) = true := by simp [plainD, depD, toP, PyData.depth]
  rw [if_pos g, e]
  rfl
theorem d_neS : dNeD (.str x) (.str y) = some (.bl (!decide (x = y))) := eq_to_ne d_eqS
theorem ix_nat {α : Type} {xs : List α} {k : Nat} : atI xs (k : Int) = xs[k]? := by
  show (if (0 : Int) ≤ (k : Int) then (if (k : Int) < (xs.length : Int) then some ((k : Int).toNat) else none) else _).bind (fun j => xs[j]?) = xs[k]?
  rw [if_pos (by omega)]
  by_cases h : k < xs.length
  · rw [if_pos (by omega)]; rfl
  · rw [if_neg (by omega), List.getElem?_eq_none (by omega)]; rfl
theorem ix0 {α : Type} {a0 : α} {l : List α} : atI (a0 :: l) 0 = some a0 := ix_nat (k := 0)
theorem ix1 {α : Type} {a0 a1 : α} {l : List α} : atI (a0 :: a1 :: l) 1 = some a1 := ix_nat (k := 1)
theorem ix2 {α : Type} {a0 a1 a2 : α} {l : List α} : atI (a0 :: a1 :: a2 :: l) 2 = some a2 := ix_nat (k := 2)
theorem ix3 {α : Type} {a0 a1 a2 a3 : α} {l : List α} : atI (a0 :: a1 :: a2 :: a3 :: l) 3 = some a3 := ix_nat (k := 3)
theorem ix4 {α : Type} {a0 a1 a2 a3 a4 : α} {l : List α} : atI (a0 :: a1 :: a2 :: a3 :: a4 :: l) 4 = some a4 := ix_nat (k := 4)
theorem ix5 {α : Type} {a0 a1 a2 a3 a4 a5 : α} {l : List α} : atI (a0 :: a1 :: a2 :: a3 :: a4 :: a5 :: l) 5 = some a5 := ix_nat (k := 5)
theorem ix6 {α : Type} {a0 a1 a2 a3 a4 a5 a6 : α} {l : List α} : atI (a0 :: a1 :: a2 :: a3 :: a4 :: a5 :: a6 :: l) 6 = some a6 := ix_nat (k := 6)
theorem d_ixL : dIx (.lst xs) (.int i) = atI xs i := rfl
theorem d_ixT : dIx (.tup xs) (.int i) = atI xs i := rfl
theorem boxD_at {u : Nat} {h : Hh} (e : h[u]? = some (.box d)) : boxD (.obj u) h = some d := by simp only [boxD, e]
theorem getP_at {ρ : Env} {u : Nat} {h : Hh} (e : h[u]? = some (.box d)) : getP (.ob u) ρ h = some d := by simp only [getP, e]
theorem ixN_nat {n k : Nat} (h : k < n) : ixN n (k : Int) = some k := by
  unfold ixN
  rw [if_pos (by omega), if_pos (by omega)]; rfl
theorem fs0 {a y : D} {l : List D} : fSet (.lst (a :: l)) (.int 0) y = some (.lst (y :: l)) := by
  show (ixN (l.length + 1) ((0 : Nat) : Int)).map _ = _
  rw [ixN_nat (by omega)]; rfl
theorem fs2 {a b c y : D} {l : List D} : fSet (.lst (a :: b :: c :: l)) (.int 2) y = some (.lst (a :: b :: y :: l)) := by
  show (ixN (l.length + 3) ((2 : Nat) : Int)).map _ = _
  rw [ixN_nat (by omega)]; rfl
theorem d_lenL : dLen (.lst xs) = some (.int (xs.length : Nat)) := rfl
theorem d_lenT : dLen (.tup xs) = some (.int (xs.length : Nat)) := rfl
theorem d_tupL : dTuple (.lst xs) = some (.tup xs) := rfl
theorem d_tupT : dTuple (.tup xs) = some (.tup xs) := rfl
theorem d_listL : dListN (.lst xs) = some (.lst xs) := rfl
theorem d_listT : dListN (.tup xs) = some (.lst xs) := rfl
end
theorem log2_le' {n a : Nat} (h : n < 2 ^ a) : n.log2 ≤ a := by
  by_cases z : n = 0
  · subst z; simp
  · exact Nat.le_of_lt ((Nat.log2_lt z).mpr h)
theorem mul_ok {i j : Int} (a b : Nat) (h1 : i.natAbs < 2 ^ a) (h2 : j.natAbs < 2 ^ b) (h : a + b < 1000000) : mulOk i j = true := by
  unfold mulOk
  have := log2_le' h1
  have := log2_le' h2
  exact decide_eq_true (by omega)
theorem pow_ok {i : Int} {j a : Nat} (h1 : i.natAbs < 2 ^ a) (h : a * j ≤ 134217728) : powOk i (j : Int) = true := by
  unfold powOk
  have e : Builtin.Int.intBits i ≤ a := PySem.intBits_le_iff.mpr h1
  refine decide_eq_true ⟨by omega, ?_⟩
  have e2 : Builtin.Int.intBits i * j ≤ a * j := Nat.mul_le_mul_right _ e
  have e3 : ((Builtin.Int.intBits i * j : Nat) : Int) ≤ 2 ^ 27 := by
    have : (2 : Int) ^ 27 = ((134217728 : Nat) : Int) := by decide
    rw [this]
    omega
  simpa using e3
/-! ### the urn -/
def Urn (u n : Nat) (h : Hh) : Prop := ∃ a b c : Int, h[u]? = some (.box (.lst [.int a, .int b, .int c])) ∧ 0 ≤ b ∧ b < 10 ^ 40 ∧ 0 ≤ c ∧ c ≤ n
theorem Urn.mono {u n m : Nat} {h : Hh} (k : Urn u n h) (l : n ≤ m) : Urn u m h := by
  obtain ⟨a, b, c, e, h1, h2, h3, h4⟩ := k
  exact ⟨a, b, c, e, h1, h2, h3, by omega⟩
theorem Urn.app {u n : Nat} {h t : Hh} (k : Urn u n h) : Urn u n (h ++ t) := by
  obtain ⟨a, b, c, e, r⟩ := k
  exact ⟨a, b, c, by rw [List.getElem?_append_left (List.getElem?_eq_some_iff.mp e).1]; exact e, r⟩
/-- a draw's promise: the urn at u, a whole number from 0 to k - 1 -/
def DrawOk (m : Fn) : Prop := ∀ (u n : Nat) (k : Int) (h : Hh), 0 < k → k < 1073741824 → n < 1000000000 → Urn u n h →
  wF (m [.obj u, .int k] h) (fun d h' => ∃ i : Int, d = .int i ∧ 0 ≤ i ∧ i < k ∧ Urn u (n + 1) h') noX
end PV
end

local macro_rules
  | `(tactic| and_intros) => `(tactic| try simp only [PV.wS_seq, PV.wS_next, PV.wS_brk, PV.wS_cont, PV.wS_if, PV.wS_drop, PV.wS_ret, PV.wS_retN, PV.wS_retO, PV.wS_set, PV.wS_own, PV.wS_frz, PV.wS_tg, PV.wS_par, PV.wS_fld, PV.wS_mut, PV.wS_put, PV.wS_raise, PV.wS_raiseP, PV.wS_try, PV.wS_forE,
  PV.wE_ret, PV.wE_var, PV.wE_own, PV.wE_if, PV.wE_map, PV.wE_op, PV.wE_nil, PV.wE_cons, PV.wE_tup, PV.wE_lst, PV.wE_not, PV.wE_and, PV.wE_or, PV.wE_truth, PV.wE_asB, PV.wE_ofB, PV.wE_andV, PV.wE_orV, PV.wE_notV, PV.wE_chain, PV.wE_noPart, PV.wE_somePart, PV.wE_sl, PV.wE_chkS, PV.wE_L, PV.wE_mapL, PV.wE_items, PV.wE_rng1, PV.wE_rng2, PV.wE_enum, PV.wE_zip2, PV.wE_zip3, PV.wE_see, PV.wE_obj, PV.wE_ixB, PV.wE_get, PV.wE_dic0, PV.wE_len, PV.wE_kwA, PV.wE_call, PV.wE_callN, PV.wE_meth, PV.wE_methN, PV.wE_makeV, PV.wE_plC, PV.wE_plO, PV.wE_plChk, PV.wE_lcE,
  PV.wO_some, PV.wO_none, PV.val_0, PV.val_s, PV.own_0, PV.own_s, PV.any_0v, PV.any_0o, PV.any_s, List.set_cons_zero, List.set_cons_succ, List.map_cons, List.map_nil, List.replicate_succ, List.replicate_zero, List.nil_append, List.cons_append, List.append_nil, Nat.reduceSub, Nat.sub_self,
  PV.finV_next, PV.finV_ret, PV.fin_next, PV.fin_ret, PV.fin_retN, PV.finN_retN, PV.sq_ret, PV.sq_retN, PV.sq_brk, PV.sq_cont, PV.asB_bl, if_true, Option.bind_some, Option.map_some, Bool.not_true, Bool.not_false, Bool.false_eq_true, if_false, List.length_cons, List.length_nil, PV.tgV, PV.tgAll, PV.tgT, PV.wipeE, PV.setP, PV.getP_own, PV.prm])

local macro_rules
  | `(tactic| subst_eqs) => `(tactic| try simp only [PV.d_max, PV.d_min, PV.d_add, PV.d_sub, PV.d_lt, PV.d_le, PV.d_gt, PV.d_ge, PV.d_int, PV.d_intB, PV.d_isN, PV.d_notN, PV.d_eqI, PV.d_neI, PV.d_eqS, PV.d_neS, PV.d_ixL, PV.d_ixT, PV.ix_nat, PV.ix0, PV.ix1, PV.ix2, PV.ix3, PV.ix4, PV.ix5, PV.ix6, PV.fs0, PV.fs2, List.getElem?_cons_zero, List.getElem?_cons_succ, PV.d_lenL, PV.d_lenT, PV.d_tupL, PV.d_tupT, PV.d_listL, PV.d_listT, PV.nn_non, PV.nn_bl, PV.nn_int, PV.nn_str, PV.nn_tup, PV.nn_lst, PV.nn_dic, PV.nn_obj, PV.nn_exn, Bool.not_true, Bool.not_false, PV.wO_some, PV.wO_none, PV.asB_bl, if_true, Bool.false_eq_true, if_false])

local macro_rules
  | `(tactic| subst_vars) => `(tactic| (subst_eqs; (try rw [PV.sq_next]); and_intros; subst_eqs))

section
set_option Elab.async false
set_option linter.all false
set_option maxRecDepth 100000
set_option maxHeartbeats 1000000
namespace K84
open PySem PV
theorem draw_ok : DrawOk m_law_draw := by
  intro u n k h k0 k1 hn ⟨a, b, c, e, b0, b1, c0, c1⟩
  unfold m_law_draw
  refine wF_fn rfl ?_
  and_intros
  rw [boxD_at e]
  subst_eqs
  by_cases ha : 0 < a
  · simp only [ha, decide_true, if_true]
    rw [d_mod k0]
    simp only [wO_some]
    subst_vars
    rw [boxD_at e]
    subst_eqs
    rw [d_fdiv ⟨k0, k1⟩, getP_at e]
    subst_eqs
    subst_vars
    refine ⟨_, rfl, Int.emod_nonneg _ (by omega), Int.emod_lt_of_pos _ k0, a / k, b, c, ?_, b0, b1, c0, by omega⟩
    rw [List.getElem?_set_self (List.getElem?_eq_some_iff.mp e).1]
  · simp only [ha, decide_false, if_false, Bool.false_eq_true]
    subst_vars
    rw [boxD_at e]
    subst_eqs
    rw [getP_at e]
    subst_eqs
    subst_vars
    have e2 : (h.set u (.box (.lst [.int a, .int b, .int (c + 1)])))[u]? = some (.box (.lst [.int a, .int b, .int (c + 1)])) := by rw [List.getElem?_set_self (List.getElem?_eq_some_iff.mp e).1]
    rw [boxD_at e2]
    subst_eqs
    rw [d_mul (mul_ok 60 60 (by omega) (by omega) (by omega))]
    subst_eqs
    rw [show (3 : Int) = ((3 : Nat) : Int) from rfl, d_pow (pow_ok (a := 200) (by omega) (by omega))]
    subst_eqs
    rw [d_pow (by decide +kernel)]
    subst_eqs
    rw [d_mod (by decide +kernel)]
    subst_eqs
    subst_vars
    rw [boxD_at e2]
    subst_eqs
    have bnd : ∀ z : Int, 0 ≤ z % (10 ^ Int.toNat 43 + 57) ∧ z % (10 ^ Int.toNat 43 + 57) < 2 ^ 200 := fun z => ⟨Int.emod_nonneg _ (by decide +kernel), Int.lt_trans (Int.emod_lt_of_pos _ (by decide +kernel)) (by decide +kernel)⟩
    obtain ⟨z1, z2⟩ := bnd ((b + 314159265358979 * (c + 1)) ^ ((3 : Nat) : Int).toNat)
    generalize (b + 314159265358979 * (c + 1)) ^ ((3 : Nat) : Int).toNat % (10 ^ Int.toNat 43 + 57) = z at z1 z2 ⊢
    rw [d_mul (mul_ok 200 200 (by omega) (by omega) (by omega))]
    subst_eqs
    rw [d_mul (mul_ok 60 60 (by omega) (by omega) (by omega))]
    subst_eqs
    rw [d_pow (by decide +kernel)]
    subst_eqs
    rw [d_mod (by decide +kernel)]
    subst_eqs
    subst_vars
    rw [d_pow (by decide +kernel)]
    subst_eqs
    rw [d_fdiv (by decide +kernel)]
    subst_eqs
    rw [d_mod k0]
    subst_eqs
    exact ⟨_, rfl, Int.emod_nonneg _ (by omega), Int.emod_lt_of_pos _ k0, a, b, c + 1, e2, b0, b1, by omega, by omega⟩
end K84
end

section
set_option Elab.async false
set_option linter.all false
set_option maxRecDepth 100000
set_option maxHeartbeats 1000000
namespace K84
open PySem PV
/-- one or two sizes -/
def Cho (m : Int) (l : List Int) : Prop := (∃ s, l = [s] ∧ 1 ≤ s ∧ s ≤ m) ∨ ∃ s t, l = [s, t] ∧ 1 ≤ s ∧ s < t ∧ t ≤ m
theorem urn_ok {ns : List Int} {k : Nat} {h : Hh} (hk : k < 10) : wN (m_law_urn [.lst (ns.map .int), .int (k : Int)] h) (fun d h' => h' = h ∧ Urn h.length 0 (h ++ [.box d])) noX := by
  unfold m_law_urn
  refine wN_fn rfl ?_
  and_intros
  subst_vars
  have fin_ : ∀ v : Int, Urn h.length 0 (h ++ [.box (.lst [.int (if v - 10 ^ (18 : Int).toNat > 0 then v - 10 ^ (18 : Int).toNat else 0), .int (v % (10 ^ (39 : Int).toNat + 3) + 977 * (k : Int) * (k : Int) + 13), .int 0])]) := fun v => by
    have z0 := Int.emod_nonneg v (show (10 : Int) ^ (39 : Int).toNat + 3 ≠ 0 by decide +kernel)
    have z1 := Int.emod_lt_of_pos v (show (0 : Int) < (10 : Int) ^ (39 : Int).toNat + 3 by decide +kernel)
    have z2 : ((10 : Int) ^ (39 : Int).toNat + 3) = 10 ^ 39 + 3 := by decide +kernel
    rw [z2] at z0 z1 ⊢
    have kk : (k : Int) * k ≤ 9 * 9 := Int.mul_le_mul (by omega) (by omega) (by omega) (by omega)
    have kk0 : 0 ≤ (k : Int) * k := Int.mul_nonneg (by omega) (by omega)
    have e : 977 * (k : Int) * k = 977 * ((k : Int) * k) := Int.mul_assoc ..
    rw [e]
    generalize (k : Int) * k = q at *
    exact ⟨_, _, _, List.getElem?_concat_length .., by omega, by omega, by omega, by omega⟩
  have rest : ∀ v : Int, wS (sRetN (eLst (eCons (eMapL dMax2 (eCons (eRet (.int 0)) (eCons (eOp dSub (eVar 2) (eOp dPow (eRet (.int 10)) (eRet (.int 18)))) (eNil)))) (eCons (eOp dAdd (eOp dAdd (eOp dMod (eMap dInt (eVar 2)) (eOp dAdd (eOp dPow (eRet (.int 10)) (eRet (.int 39))) (eRet (.int 3)))) (eOp dMul (eOp dMul (eRet (.int 977)) (eVar 1)) (eVar 1))) (eRet (.int 13))) (eCons (eRet (.int 0)) (eNil))))) [.val (.lst (ns.map .int)), .val (.int k), .val (.int v)] h) (finN fun d h' => h' = h ∧ Urn h.length 0 (h ++ [.box d])) (fun c p x h1 => noX c p h1) := fun v => by
    and_intros
    rw [d_pow (by decide +kernel)]
    subst_eqs
    rw [d_pow (by decide +kernel)]
    subst_eqs
    rw [d_mod (by decide +kernel)]
    subst_eqs
    rw [d_mul (mul_ok 20 20 (by omega) (by omega) (by omega))]
    subst_eqs
    rw [d_mul (mul_ok 20 20 (by omega) (by omega) (by omega))]
    subst_eqs
    exact ⟨by decide, trivial, fin_ v⟩
  by_cases c : (k : Int) < ((ns.map D.int).length : Nat)
  · simp only [c, decide_true, if_true]
    rw [List.length_map] at c
    have lt : k < ns.length := by omega
    rw [List.getElem?_map, List.getElem?_eq_getElem lt]
    exact rest _
  · simp only [c, decide_false, if_false, Bool.false_eq_true]
    exact rest 0
theorem two_ok {u n : Nat} {k : Int} {h : Hh} (k0 : 0 < k) (k1 : k < 100) (hn : n < 999999990) (U : Urn u n h) : wF (m_law_two [.obj u, .int k] h) (fun d h' => ∃ l, d = .tup (l.map .int) ∧ Cho k l ∧ Urn u (n + 3) h') noX := by
  unfold m_law_two
  refine wF_fn rfl ?_
  and_intros
  refine (draw_ok u n k h k0 (by omega) (by omega) U).imp ?_
  rintro d h1 ⟨i, rfl, i0, i1, U1⟩
  subst_eqs
  subst_vars
  subst_eqs
  by_cases c : 1 + i < k
  · simp only [c, decide_true, if_true]
    refine (draw_ok u _ 2 h1 (by omega) (by omega) (by omega) U1).imp ?_
    rintro d h2 ⟨j, rfl, j0, j1, U2⟩
    subst_eqs
    by_cases c2 : j = 0
    · simp only [c2, decide_true, if_true]
      subst_eqs
      refine (draw_ok u _ (k - (1 + i)) h2 (by omega) (by omega) (by omega) U2).imp ?_
      rintro d h2 ⟨r, rfl, r0, r1, U3⟩
      subst_eqs
      exact ⟨by decide, [1 + i, 1 + i + 1 + r], rfl, .inr ⟨_, _, rfl, by omega, by omega, by omega⟩, U3⟩
    · simp only [c2, decide_false, if_false, Bool.false_eq_true]
      subst_vars
      exact ⟨by decide, [1 + i], rfl, .inl ⟨_, rfl, by omega, by omega⟩, U2.mono (by omega)⟩
  · simp only [c, decide_false, if_false, Bool.false_eq_true]
    subst_vars
    exact ⟨by decide, [1 + i], rfl, .inl ⟨_, rfl, by omega, by omega⟩, U1.mono (by omega)⟩
end K84
end

section
set_option Elab.async false
set_option linter.all false
set_option maxRecDepth 100000
set_option maxHeartbeats 1000000
namespace K84
open PySem PV
/-- a setup's numbers -/
structure SP where
  s : Int
  r1 : Int
  r2 : Int
  g : Int
  m : Int
  life : Int
  p0 : Int
  p1 : Int
  p2 : Int
  p3 : Int
  l1 : List Int
  l2 : List Int
def dints (l : List Int) : D := .tup (l.map .int)
def SP.d (p : SP) : D := .tup [.int p.s, dints p.l1, .tup [.int p.r1, .int p.r2], .tup [.int p.g, .int p.m], dints p.l2, .int p.life, .tup [.int p.p0, .int p.p1, .int p.p2, .int p.p3]]
structure SP.ok (p : SP) : Prop where
  s0 : 1 ≤ p.s
  s1 : p.s ≤ 4
  c1 : Cho p.s p.l1
  r1 : 1 ≤ p.r1
  r1' : p.r1 ≤ 2
  r2 : 0 ≤ p.r2
  r2' : p.r2 ≤ 2
  g : 0 ≤ p.g
  g' : p.g ≤ 1
  m : 0 ≤ p.m
  m' : p.m ≤ 2
  c2 : Cho 4 p.l2
  li : 1 ≤ p.life
  li' : p.life ≤ 3
  p0 : 0 ≤ p.p0 ∧ p.p0 ≤ 5
  p1 : 0 ≤ p.p1 ∧ p.p1 ≤ 5
  p2 : 0 ≤ p.p2 ∧ p.p2 ≤ 5
  p3 : 0 ≤ p.p3 ∧ p.p3 ≤ 5
theorem rng_nat (k : Nat) (h : k < 1000000) : rngD 0 (k : Int) = some ((List.range k).map fun i => .int ((i : Nat) : Int)) := by
  unfold rngD
  rw [if_pos (by omega)]
  simp
theorem setup_ok {u n : Nat} {h : Hh} (hn : n < 999999900) (U : Urn u n h) : wF (m_law_setup [.obj u] h) (fun d h' => ∃ p : SP, d = p.d ∧ p.ok ∧ Urn u (n + 20) h') noX := by
  unfold m_law_setup
  refine wF_fn rfl ?_
  and_intros
  refine (draw_ok u _ 4 h (by omega) (by omega) (by omega) U).imp ?_
  rintro d h1 ⟨s, rfl, s0, s1, U1⟩
  subst_eqs
  subst_vars
  refine (draw_ok u _ 2 _ (by omega) (by omega) (by omega) U1).imp ?_
  rintro d h2 ⟨r1, rfl, r10, r11, U2⟩
  subst_eqs
  refine (draw_ok u _ 3 _ (by omega) (by omega) (by omega) U2).imp ?_
  rintro d h3 ⟨r2, rfl, r20, r21, U3⟩
  subst_eqs
  refine ⟨by decide, ?_⟩
  refine (draw_ok u _ 2 _ (by omega) (by omega) (by omega) U3).imp ?_
  rintro d h4 ⟨g, rfl, g0, g1, U4⟩
  refine (draw_ok u _ 3 _ (by omega) (by omega) (by omega) U4).imp ?_
  rintro d h5 ⟨m, rfl, m0, m1, U5⟩
  subst_eqs
  refine ⟨by decide, ?_⟩
  subst_vars
  rw [show rngD 0 4 = _ from rng_nat 4 (by decide)]
  subst_eqs
  refine wE_lcAll (fun i h => Urn u (n + 5 + i) h) (fun d => ∃ i : Int, d = .int i ∧ 0 ≤ i ∧ i < 6) (by decide) (U5.mono (by omega)) (fun i d h' e V => ?_) fun ys h6 yl yP V => ?_
  · and_intros
    have hi : i < 4 := by
      have := (List.getElem?_eq_some_iff.mp e).1
      simpa using this
    refine (draw_ok u _ 6 _ (by omega) (by omega) (by omega) V).imp ?_
    rintro d h5 ⟨m, rfl, m0, m1, U5⟩
    exact ⟨⟨m, rfl, m0, m1⟩, U5.mono (by omega)⟩
  · replace yl : ys.length = 4 := by simpa using yl
    match ys, yl with
    | [a, b, c, e], _ =>
      obtain ⟨a, rfl, a0, a1⟩ := yP a (by simp)
      obtain ⟨b, rfl, b0, b1⟩ := yP b (by simp)
      obtain ⟨c, rfl, c0, c1⟩ := yP c (by simp)
      obtain ⟨e, rfl, e0, e1⟩ := yP e (by simp)
      refine ⟨rfl, ?_⟩
      subst_vars
      refine (two_ok (n := n + 9) (k := 1 + s) (by omega) (by omega) (by omega) (V.mono (by simp))).imp ?_
      rintro d h7 ⟨l1, rfl, q1, V1⟩
      refine (two_ok (n := n + 12) (k := 4) (by omega) (by omega) (by omega) V1).imp ?_
      rintro d h8 ⟨l2, rfl, q2, V2⟩
      refine (draw_ok u (n + 15) 3 _ (by omega) (by omega) (by omega) V2).imp ?_
      rintro d h9 ⟨li, rfl, li0, li1, V3⟩
      subst_eqs
      refine ⟨by decide, ⟨1 + s, 1 + r1, r2, g, m, 1 + li, a, b, c, e, l1, l2⟩, rfl, ⟨?_, ?_, q1, ?_, ?_, ?_, ?_, ?_, ?_, ?_, ?_, q2, ?_, ?_, ⟨?_, ?_⟩, ⟨?_, ?_⟩, ⟨?_, ?_⟩, ⟨?_, ?_⟩⟩, V3.mono (by omega)⟩ <;> (simp only []; omega)
end K84
end

section
set_option Elab.async false
set_option linter.all false
set_option maxRecDepth 100000
set_option maxHeartbeats 1000000
namespace K84
open PySem PV
structure Com where
  f : List Int
  n : Int
def Com.d (c : Com) : D := .tup [dints c.f, .int c.n]
/-- comers that a setup may have, but for the sizes' number -/
def Com.may (p : SP) (c : Com) : Prop := (c.f = [] ∨ ∃ x, c.f = [x] ∧ x ∈ p.l1) ∧ 0 ≤ c.n ∧ c.n ≤ p.m
def Com.small (c : Com) : Prop := (c.f = [] ∨ ∃ x : Int, c.f = [x] ∧ 1 ≤ x ∧ x ≤ 4) ∧ 0 ≤ c.n ∧ c.n ≤ 2
def wl (c : Com) : List Nat := (match c.f with | [] => [45] | l => l.map fun x => (48 + x).toNat) ++ [43, (48 + c.n).toNat]
theorem cho_in {m : Int} {l : List Int} (h : Cho m l) {x : Int} (hx : x ∈ l) : 1 ≤ x ∧ x ≤ m := by
  rcases h with ⟨s, rfl, h1, h2⟩ | ⟨s, t, rfl, h1, h2, h3⟩
  · rw [List.mem_singleton.mp hx]; exact ⟨h1, h2⟩
  · rcases List.mem_cons.mp hx with e | e
    · subst e; exact ⟨h1, by omega⟩
    · rw [List.mem_singleton.mp e]; exact ⟨by omega, h3⟩
theorem Com.may.small {p : SP} {c : Com} (h : c.may p) (o : p.ok) : c.small := by
  obtain ⟨h1, h2, h3⟩ := h
  have := o.m'
  have := o.s1
  refine ⟨?_, h2, by omega⟩
  rcases h1 with h1 | ⟨x, e, hx⟩
  · exact .inl h1
  · have := cho_in o.c1 hx
    exact .inr ⟨x, e, by omega, by omega⟩
/-- each of the fifteen -/
theorem Com.cases {P : Com → Prop} (hp : ∀ n : Fin 3, P ⟨[], (n.val : Int)⟩) (hq : ∀ (x : Fin 4) (n : Fin 3), P ⟨[(x.val : Int) + 1], (n.val : Int)⟩) {c : Com} (h : c.small) : P c := by
  obtain ⟨f, n⟩ := c
  obtain ⟨h1, h2, h3⟩ := h
  simp only at h1 h2 h3
  have en : n = ((⟨n.toNat, by omega⟩ : Fin 3).val : Int) := by simp only; omega
  rcases h1 with rfl | ⟨x, rfl, x1, x2⟩
  · rw [en]; exact hp _
  · have ex : x = ((⟨(x - 1).toNat, by omega⟩ : Fin 4).val : Int) + 1 := by simp only; omega
    rw [en, ex]; exact hq _ _
def fin3 {P : Fin 3 → Prop} (a : P 0) (b : P 1) (c : P 2) : ∀ n, P n
  | 0 => a
  | 1 => b
  | 2 => c
def fin4 {P : Fin 4 → Prop} (a : P 0) (b : P 1) (c : P 2) (d : P 3) : ∀ n, P n
  | 0 => a
  | 1 => b
  | 2 => c
  | 3 => d
theorem word_eq {c : Com} (h : c.small) (hp : Hh) : m_law_word [c.d] hp = .val (.str (SX.S (wl c))) hp := by
  refine Com.cases (P := fun c => m_law_word [c.d] hp = .val (.str (SX.S (wl c))) hp) (fin3 ?_ ?_ ?_) (fin4 (fin3 ?_ ?_ ?_) (fin3 ?_ ?_ ?_) (fin3 ?_ ?_ ?_) (fin3 ?_ ?_ ?_)) h <;> kernel_rfl
theorem text_eq {c : Com} (h : c.small) (hp : Hh) : m_comers_text [c.d] hp = .val (.str (SX.S (wl c))) hp := by
  refine Com.cases (P := fun c => m_comers_text [c.d] hp = .val (.str (SX.S (wl c))) hp) (fin3 ?_ ?_ ?_) (fin4 (fin3 ?_ ?_ ?_) (fin3 ?_ ?_ ?_) (fin3 ?_ ?_ ?_) (fin3 ?_ ?_ ?_)) h <;> kernel_rfl
end K84
end

section
set_option Elab.async false
set_option linter.all false
set_option maxRecDepth 100000
set_option maxHeartbeats 1000000
namespace K84
open PySem PV
def Com.ok (p : SP) (c : Com) : Prop := c.may p ∧ (c.f.length : Int) ≤ p.g
theorem Com.ok.small {p : SP} {c : Com} (h : c.ok p) (o : p.ok) : c.small := h.1.small o
theorem ix_ints {l : List Int} {i : Int} (h0 : 0 ≤ i) (h1 : i < l.length) : ∃ x, L2.atI (l.map D.int) i = some (.int x) ∧ x ∈ l := by
  obtain ⟨k, rfl⟩ := Int.eq_ofNat_of_zero_le h0
  have lt : k < l.length := by omega
  refine ⟨l[k], ?_, List.getElem_mem lt⟩
  rw [ix_nat, List.getElem?_map, List.getElem?_eq_getElem lt]
  rfl
theorem cho_len {m : Int} {l : List Int} (h : Cho m l) : 1 ≤ l.length ∧ l.length ≤ 2 := by
  rcases h with ⟨s, rfl, _⟩ | ⟨s, t, rfl, _⟩ <;> simp
theorem comers_ok {u n : Nat} {h : Hh} {p : SP} (o : p.ok) (hn : n < 999999900) (U : Urn u n h) : wF (m_law_comers [.obj u, p.d] h) (fun d h' => ∃ c : Com, d = c.d ∧ c.ok p ∧ Urn u (n + 5) h') noX := by
  unfold m_law_comers
  refine wF_fn rfl ?_
  and_intros
  simp only [SP.d]
  subst_eqs
  have hg := o.g
  have hg' := o.g'
  refine (draw_ok u _ _ h (by omega) (by omega) (by omega) U).imp ?_
  rintro d h1 ⟨i, rfl, i0, i1, U1⟩
  obtain ⟨k, rfl⟩ := Int.eq_ofNat_of_zero_le i0
  subst_eqs
  rw [rng_nat k (by omega)]
  subst_eqs
  have hc := cho_len o.c1
  have zz : ((List.range k).map fun i => D.int ((i : Nat) : Int)).length = k := by simp
  refine wE_lcAll (fun i h => Urn u (n + 1 + i) h) (fun d => ∃ i : Int, d = .int i ∧ i ∈ p.l1) (by rw [zz]; omega) U1 (fun i d h' e V => ?_) fun ys h6 yl yP V => ?_
  · and_intros
    have hi : i < 2 := by
      have := (List.getElem?_eq_some_iff.mp e).1
      rw [zz] at this
      omega
    subst_eqs
    simp only [dints]
    subst_eqs
    refine (draw_ok u _ _ _ (by rw [List.length_map]; omega) (by rw [List.length_map]; omega) (by omega) V).imp ?_
    rintro d h5 ⟨m, rfl, m0, m1, U5⟩
    rw [List.length_map] at m1
    subst_eqs
    obtain ⟨x, ex, hx⟩ := ix_ints m0 m1
    rw [ex]
    exact ⟨⟨x, rfl, hx⟩, U5.mono (by omega)⟩
  · rw [zz] at yl V
    refine ⟨rfl, ?_⟩
    subst_vars
    refine (draw_ok u (n + 3) _ _ (by have := o.m; omega) (by have := o.m'; omega) (by omega) (V.mono (by omega))).imp ?_
    rintro d h7 ⟨q, rfl, q0, q1, V1⟩
    have fs : ∃ f : List Int, D.tup ys = dints f ∧ (f = [] ∨ ∃ x, f = [x] ∧ x ∈ p.l1) ∧ f.length = k := by
      match ys, yl, yP with
      | [], yl, yP => exact ⟨[], rfl, .inl rfl, by simpa using yl⟩
      | [y], yl, yP =>
        obtain ⟨x, rfl, hx⟩ := yP y (by simp)
        exact ⟨[x], rfl, .inr ⟨x, rfl, hx⟩, by simpa using yl⟩
      | _ :: _ :: _, yl, yP => simp at yl; omega
    obtain ⟨f, ef, hf, hl⟩ := fs
    refine ⟨by decide, ⟨f, q⟩, ?_, ⟨⟨hf, q0, ?_⟩, ?_⟩, V1.mono (by omega)⟩
    · show D.tup [D.tup ys, _] = D.tup [dints f, _]
      rw [ef]
    · show q ≤ p.m; omega
    · show (f.length : Int) ≤ p.g; omega
/-! ### rows as texts -/
def rowD (r : List Com) : D := .lst (r.map Com.d)
def rowW (r : List Com) : List (List Nat) := if r = [] then [[110, 111, 110, 101]] else r.map wl
def sgn (l : List (List Nat)) : List D := l.map fun x => .str (SX.S x)
def noteL (ws : List (List Nat)) : List Nat := TL.joinL [32] ws
theorem plain_com {c : Com} : plainD c.d = true := by
  have e : ∀ l : List Int, plainDs (l.map D.int) = true := fun l => by
    induction l with
    | nil => rfl
    | cons x l ih => simp only [List.map_cons, plainDs, plainD, ih, Bool.and_self]
  simp only [Com.d, dints, plainD, plainDs, e, Bool.and_self]
theorem plain_row {r : List Com} : plainDs (r.map Com.d) = true := by
  induction r with
  | nil => rfl
  | cons x l ih => simp only [List.map_cons, plainDs, plain_com, ih, Bool.and_self]
end K84
end

section
set_option Elab.async false
set_option linter.all false
set_option maxRecDepth 100000
set_option maxHeartbeats 1000000
namespace K84
open PySem PV
theorem sp_eq : (" " : Str) = SX.S [32] := rfl
theorem sgn_strs (l : List (List Nat)) : strsD (sgn l) = some (l.map SX.S) := by
  induction l with
  | nil => rfl
  | cons x l ih =>
    show (strsD (sgn l)).map _ = _
    rw [ih]; rfl
theorem sum_len (l : List (List Nat)) {b : Nat} (h : ∀ x ∈ l, x.length ≤ b) : ((l.map SX.S).map (·.length)).sum ≤ l.length * b := by
  rw [SX.lens]
  induction l with
  | nil => simp
  | cons x l ih =>
    have h1 := h x (by simp)
    have h2 := ih fun y m => h y (by simp [m])
    simp only [List.map_cons, List.sum_cons, List.length_cons, Nat.add_mul]
    omega
theorem join_sp {l : List (List Nat)} {b : Nat} (h : ∀ x ∈ l, x.length ≤ b) (hz : l.length * (b + 1) ≤ 16777216) : dJoin (.str (" " : Str)) (.lst (sgn l)) = some (.str (SX.S (noteL l))) := by
  show ((strsD (sgn l)).bind fun ys => if (ys.map (·.length)).sum + ys.length * (" " : Str).length ≤ 16777216 then some (D.str (Txt.join (" " : Str) ys)) else none) = _
  rw [sgn_strs, Option.bind_some, sp_eq, SX.join_S]
  have := sum_len l h
  rw [Nat.mul_add] at hz
  rw [if_pos (by rw [List.length_map, SX.S_len]; show _ + l.length * 1 ≤ _; omega)]
  rfl
theorem wl_len {c : Com} (h : c.small) : (wl c).length = 3 := by
  obtain ⟨f, n⟩ := c
  obtain ⟨h1 | ⟨x, h1, _⟩, _⟩ := h <;> (simp only at h1; subst h1; rfl)
theorem rowD_ne (r : List Com) : dNeD (rowD r) (.lst []) = some (.bl (!r.isEmpty)) := by
  have e := eq_to_ne (d_eqL0 (plain_row (r := r)))
  rw [List.isEmpty_map] at e
  exact e
theorem words_ok {p : SP} (o : p.ok) {r : List Com} (hr : ∀ c ∈ r, c.small) (hz : r.length ≤ 1000) {h : Hh} : wF (m_law_words [rowD r] h) (fun d h' => d = .lst (sgn (rowW r)) ∧ h' = h) noX := by
  unfold m_law_words
  refine wF_fn rfl ?_
  and_intros
  refine ⟨by decide, ?_⟩
  rw [rowD_ne]
  subst_eqs
  by_cases e : r = []
  · subst e
    simp only [List.isEmpty_nil, Bool.not_true, if_false, Bool.false_eq_true]
    exact ⟨by decide, rfl, trivial⟩
  · have ee : r.isEmpty = false := by cases r <;> simp_all
    simp only [ee, Bool.not_false, if_true]
    simp only [rowD, itemsD, wO_some]
    refine wE_lcMap (ds := r.map Com.d) (f := fun d => match m_law_word [d] h with | .val x _ => x | _ => .non) (by rw [List.length_map]; omega) (fun d m => ?_) ?_
    · obtain ⟨c, hc, rfl⟩ := List.mem_map.mp m
      and_intros
      rw [word_eq (hr c hc)]
      exact ⟨rfl, rfl⟩
    · refine ⟨?_, rfl⟩
      rw [rowW, if_neg e, sgn, List.map_map, List.map_map]
      refine congrArg D.lst (List.map_congr_left fun c hc => ?_)
      show (match m_law_word [c.d] h with | .val x _ => x | _ => .non) = _
      rw [word_eq (hr c hc)]
      rfl
theorem rowW_len {r : List Com} (hr : ∀ c ∈ r, c.small) : ∀ x ∈ rowW r, x.length ≤ 4 := by
  intro x m
  unfold rowW at m
  split at m
  · rw [List.mem_singleton.mp m]; decide
  · obtain ⟨c, hc, rfl⟩ := List.mem_map.mp m
    rw [wl_len (hr c hc)]; decide
theorem rowW_size (r : List Com) : (rowW r).length ≤ r.length + 1 ∧ 1 ≤ (rowW r).length := by
  unfold rowW
  split
  · rename_i e; subst e; decide
  · rename_i e
    rw [List.length_map]
    cases r with
    | nil => exact absurd rfl e
    | cons c r => simp
theorem show_ok {p : SP} (o : p.ok) {r : List Com} (hr : ∀ c ∈ r, c.small) (hz : r.length ≤ 1000) {h : Hh} : wF (m_show_row [rowD r] h) (fun d h' => d = .str (SX.S (noteL (rowW r))) ∧ h' = h) noX := by
  unfold m_show_row
  refine wF_fn rfl ?_
  and_intros
  refine ⟨by decide, ?_⟩
  rw [rowD_ne]
  subst_eqs
  by_cases e : r = []
  · subst e
    simp only [List.isEmpty_nil, Bool.not_true, if_false, Bool.false_eq_true]
    exact ⟨rfl, trivial⟩
  · have ee : r.isEmpty = false := by cases r <;> simp_all
    simp only [ee, Bool.not_false, if_true]
    simp only [rowD, itemsD, wO_some]
    refine wE_lcMap (ds := r.map Com.d) (f := fun d => match m_comers_text [d] h with | .val x _ => x | _ => .non) (by rw [List.length_map]; omega) (fun d m => ?_) ?_
    · obtain ⟨c, hc, rfl⟩ := List.mem_map.mp m
      and_intros
      rw [text_eq (hr c hc)]
      exact ⟨rfl, rfl⟩
    · refine ⟨rfl, ?_⟩
      have q : (r.map Com.d).map (fun d => match m_comers_text [d] h with | .val x _ => x | _ => .non) = sgn (rowW r) := by
        rw [rowW, if_neg e, sgn, List.map_map, List.map_map]
        refine List.map_congr_left fun c hc => ?_
        show (match m_comers_text [c.d] h with | .val x _ => x | _ => .non) = _
        rw [text_eq (hr c hc)]
        rfl
      rw [q, join_sp (rowW_len hr) (by have := (rowW_size r).1; omega)]
      exact ⟨rfl, rfl⟩
end K84
end

section
set_option Elab.async false
set_option linter.all false
set_option maxRecDepth 100000
set_option maxHeartbeats 1000000
namespace K84
open PySem PV
theorem isi_int {i : Int} : dIsi "int" (.int i) = some (.bl true) := rfl
theorem isi_bi {i : Int} : dIsi "bool" (.int i) = some (.bl false) := rfl
theorem isi_tt {l : List D} : dIsi "tuple" (.tup l) = some (.bl true) := rfl
theorem tr_bl {b : Bool} : dTruth (.bl b) = some b := rfl
theorem is_int {i a b : Int} {h : Hh} : wF (m_is_integer [.int i, .int a, .int b] h) (fun d h' => d = .bl (decide (a ≤ i) && decide (i ≤ b)) ∧ h' = h) noX := by
  unfold m_is_integer
  refine wF_fn rfl ?_
  and_intros
  simp only [isi_int, isi_bi, tr_bl]
  subst_eqs
  subst_vars
  simp only [tr_bl]
  subst_eqs
  generalize decide (a ≤ i) = x
  generalize decide (i ≤ b) = y
  cases x <;> cases y <;> (simp only [tr_bl, wO_some, if_true, if_false, Bool.false_eq_true]; exact ⟨rfl, trivial⟩)
/-- a whole number within bounds, told by three items -/
def f3 : D → D
  | .tup [.int i, .int a, .int b] => .bl (decide (a ≤ i) && decide (i ≤ b))
  | _ => .non
theorem d_lenNe {xs ys : List D} : dNeD (.int (xs.length : Nat)) (.int (ys.length : Nat)) = some (.bl (!decide ((xs.length : Int) = ys.length))) := d_neI
theorem row2 {x y a b c e : Int} {h : Hh} : wF (m_is_row_of [.tup [.int x, .int y], .tup [.int a, .int b], .tup [.int c, .int e]] h) (fun d h' => d = .bl ((decide (a ≤ x) && decide (x ≤ c)) && (decide (b ≤ y) && decide (y ≤ e))) ∧ h' = h) noX := by
  unfold m_is_row_of
  refine wF_fn rfl ?_
  and_intros
  simp only [isi_tt, tr_bl]
  subst_eqs
  simp only [List.length_cons, List.length_nil, decide_true, Bool.not_true, Bool.false_eq_true, if_false]
  subst_vars
  refine wE_lcMap (ds := [.tup [.int x, .int a, .int c], .tup [.int y, .int b, .int e]]) (f := f3) (by simp) (fun d m => ?_) ?_
  · rcases List.mem_cons.mp m with rfl | m
    · and_intros; exact is_int
    · rw [List.mem_singleton.mp m]; and_intros; exact is_int
  · refine ⟨?_, rfl⟩
    simp only [List.map_cons, List.map_nil, f3, List.all_cons, List.all_nil, Bool.and_true, _root_.id]
theorem row4 {x y z t a b c e i j k l : Int} {h : Hh} : wF (m_is_row_of [.tup [.int x, .int y, .int z, .int t], .tup [.int a, .int b, .int i, .int j], .tup [.int c, .int e, .int k, .int l]] h) (fun d h' => d = .bl ((decide (a ≤ x) && decide (x ≤ c)) && ((decide (b ≤ y) && decide (y ≤ e)) && ((decide (i ≤ z) && decide (z ≤ k)) && (decide (j ≤ t) && decide (t ≤ l))))) ∧ h' = h) noX := by
  unfold m_is_row_of
  refine wF_fn rfl ?_
  and_intros
  simp only [isi_tt, tr_bl]
  subst_eqs
  simp only [List.length_cons, List.length_nil, decide_true, Bool.not_true, Bool.false_eq_true, if_false]
  subst_vars
  refine wE_lcMap (ds := [.tup [.int x, .int a, .int c], .tup [.int y, .int b, .int e], .tup [.int z, .int i, .int k], .tup [.int t, .int j, .int l]]) (f := f3) (by simp) (fun d m => ?_) ?_
  · simp only [List.mem_cons, List.not_mem_nil, or_false] at m
    rcases m with rfl | rfl | rfl | rfl <;> (and_intros; exact is_int)
  · refine ⟨?_, rfl⟩
    simp only [List.map_cons, List.map_nil, f3, List.all_cons, List.all_nil, Bool.and_true, _root_.id]
/-- whether l is a choice of sizes from 1 to m -/
def choB (m : Int) : List Int → Bool
  | [s] => decide (1 ≤ s) && decide (s ≤ m)
  | [s, t] => (decide (1 ≤ s) && decide (s ≤ m)) && (decide (1 ≤ t) && decide (t ≤ m)) && decide (s < t)
  | _ => false
def f1 (m : Int) : D → D
  | .int i => .bl (decide (1 ≤ i) && decide (i ≤ m))
  | _ => .non
theorem nin1 : dNinD (.int ((0 + 1 : Nat) : Int)) (.tup [.int 1, .int 2]) = some (.bl false) := by kernel_rfl
theorem nin2 : dNinD (.int ((0 + 1 + 1 : Nat) : Int)) (.tup [.int 1, .int 2]) = some (.bl false) := by kernel_rfl
theorem cho_ok {m : Int} {l : List Int} {h : Hh} (hl : l.length = 1 ∨ l.length = 2) : wF (m_is_choice [dints l, .int m] h) (fun d h' => d = .bl (choB m l) ∧ h' = h) noX := by
  unfold m_is_choice
  refine wF_fn rfl ?_
  rcases hl with hl | hl
  · obtain ⟨s, rfl⟩ : ∃ s, l = [s] := by
      match l, hl with
      | [s], _ => exact ⟨s, rfl⟩
    and_intros
    simp only [dints, isi_tt, tr_bl, List.map_cons, List.map_nil]
    subst_eqs
    refine ⟨by decide, ?_⟩
    simp only [List.length_cons, List.length_nil, nin1]
    subst_vars
    simp only [itemsD, wO_some]
    refine wE_lcMap (ds := [.int s]) (f := f1 m) (by simp) (fun d hm => ?_) ?_
    · rw [List.mem_singleton.mp hm]; and_intros; exact is_int
    · simp only [List.map_cons, List.map_nil, f1, choB, dAll, dBls, Option.map_some, wO_some, tr_bl, List.all_cons, List.all_nil, Bool.and_true, _root_.id]
      generalize (decide (1 ≤ s) && decide (s ≤ m)) = x
      cases x
      · simp only [Bool.not_false, if_true]; subst_vars; exact ⟨trivial, trivial⟩
      · simp only [Bool.not_true, if_false, Bool.false_eq_true]; subst_vars
        simp only [tr_bl, wO_some]
        exact ⟨rfl, trivial⟩
  · obtain ⟨s, t, rfl⟩ : ∃ s t, l = [s, t] := by
      match l, hl with
      | [s, t], _ => exact ⟨s, t, rfl⟩
    and_intros
    simp only [dints, isi_tt, tr_bl, List.map_cons, List.map_nil]
    subst_eqs
    refine ⟨by decide, ?_⟩
    simp only [List.length_cons, List.length_nil, nin2]
    subst_vars
    simp only [itemsD, wO_some]
    refine wE_lcMap (ds := [.int s, .int t]) (f := f1 m) (by simp) (fun d hm => ?_) ?_
    · simp only [List.mem_cons, List.not_mem_nil, or_false] at hm
      rcases hm with rfl | rfl <;> (and_intros; exact is_int)
    · simp only [List.map_cons, List.map_nil, f1, choB, dAll, dBls, Option.map_some, wO_some, tr_bl, List.all_cons, List.all_nil, Bool.and_true, _root_.id]
      generalize ((decide (1 ≤ s) && decide (s ≤ m)) && (decide (1 ≤ t) && decide (t ≤ m))) = x
      cases x
      · simp only [Bool.not_false, if_true]; subst_vars; exact ⟨rfl, trivial⟩
      · simp only [Bool.not_true, if_false, Bool.false_eq_true]; subst_vars
        simp only [tr_bl, wO_some]
        simp
theorem cho_true {m : Int} {l : List Int} (h : Cho m l) : choB m l = true ∧ (l.length = 1 ∨ l.length = 2) := by
  rcases h with ⟨s, rfl, h1, h2⟩ | ⟨s, t, rfl, h1, h2, h3⟩
  · exact ⟨by simp [choB]; omega, .inl rfl⟩
  · exact ⟨by simp [choB]; omega, .inr rfl⟩
theorem rep4 : dRepT (.tup [.int 5]) (.int 4) = some (.tup [.int 5, .int 5, .int 5, .int 5]) := by kernel_rfl
theorem isset_ok {p : SP} (o : p.ok) {h : Hh} : wF (m_is_setup [p.d] h) (fun d h' => d = .bl true ∧ h' = h) noX := by
  unfold m_is_setup
  refine wF_fn rfl ?_
  and_intros
  simp only [SP.d, isi_tt, tr_bl]
  subst_eqs
  simp only [List.length_cons, List.length_nil]
  subst_eqs
  simp only [show decide (((0 + 1 + 1 + 1 + 1 + 1 + 1 + 1 : Nat) : Int) = 7) = true from rfl, Bool.not_true, if_false, Bool.false_eq_true]
  subst_vars
  subst_vars
  refine is_int.imp ?_
  rintro d h1 ⟨rfl, rfl⟩
  simp only [tr_bl]
  subst_eqs
  have := o.s0; have := o.s1
  simp only [decide_eq_true o.s0, decide_eq_true o.s1, Bool.and_self, Bool.not_true, if_false, Bool.false_eq_true]
  refine (cho_ok (cho_true o.c1).2).imp ?_
  rintro d h2 ⟨rfl, rfl⟩
  rw [(cho_true o.c1).1]
  simp only [tr_bl]
  subst_eqs
  try simp only [Bool.not_true, if_false, Bool.false_eq_true]
  subst_vars
  refine ⟨by simp, by simp, ?_⟩
  refine row2.imp ?_
  rintro d h3 ⟨rfl, rfl⟩
  simp only [tr_bl]
  subst_eqs
  simp only [decide_eq_true o.r1, decide_eq_true o.r1', decide_eq_true o.r2, decide_eq_true o.r2', Bool.and_self, Bool.not_true, if_false, Bool.false_eq_true]
  refine ⟨by simp, by simp, ?_⟩
  refine row2.imp ?_
  rintro d h4 ⟨rfl, rfl⟩
  simp only [tr_bl]
  subst_eqs
  simp only [decide_eq_true o.g, decide_eq_true o.g', decide_eq_true o.m, decide_eq_true o.m', Bool.and_self, Bool.not_true, if_false, Bool.false_eq_true]
  subst_vars
  refine (cho_ok (cho_true o.c2).2).imp ?_
  rintro d h5 ⟨rfl, rfl⟩
  rw [(cho_true o.c2).1]
  simp only [tr_bl]
  subst_eqs
  try simp only [Bool.not_true, if_false, Bool.false_eq_true]
  refine is_int.imp ?_
  rintro d h6 ⟨rfl, rfl⟩
  simp only [tr_bl]
  subst_eqs
  simp only [decide_eq_true o.li, decide_eq_true o.li', Bool.and_self, Bool.not_true, if_false, Bool.false_eq_true]
  subst_vars
  refine ⟨by simp, by simp, ?_⟩
  rw [rep4]
  subst_eqs
  refine row4.imp ?_
  rintro d h7 ⟨rfl, rfl⟩
  simp only [decide_eq_true o.p0.1, decide_eq_true o.p0.2, decide_eq_true o.p1.1, decide_eq_true o.p1.2, decide_eq_true o.p2.1, decide_eq_true o.p2.2, decide_eq_true o.p3.1, decide_eq_true o.p3.2, Bool.and_self]
  exact ⟨trivial, trivial⟩
theorem need_ok {p : SP} (o : p.ok) {h : Hh} {Q : D → Hh → Prop} {X : XP} (k : Q .non h) : wF (m_need_setup [p.d] h) Q X := by
  unfold m_need_setup
  refine wF_fn rfl ?_
  and_intros
  refine (isset_ok o).imp ?_
  rintro d h7 ⟨rfl, rfl⟩
  simp only [tr_bl]
  subst_eqs
  exact k
end K84
end

section
set_option Elab.async false
set_option linter.all false
set_option maxRecDepth 100000
set_option maxHeartbeats 1000000
namespace K84
open PySem PV
def oD : Option Int → D
  | some i => .int i
  | none => .non
/-- a digit from lo to hi -/
def dig (l : List Nat) (lo hi : Int) : Option Int := match l with
  | [c] => if (48 ≤ c ∧ c ≤ 57) ∧ (lo ≤ (c : Int) - 48 ∧ (c : Int) - 48 ≤ hi) then some ((c : Int) - 48) else none
  | _ => none
theorem isi_ss {x : Str} : dIsi "str" (.str x) = some (.bl true) := rfl
theorem d_lenS {l : List Nat} (h : l.length ≤ 16777216) : dLen (.str (SX.S l)) = some (.int (l.length : Nat)) := by
  show (if (SX.S l).length ≤ 16777216 then some (D.int ((SX.S l).length : Nat)) else none) = _
  rw [SX.S_len, if_pos h]
theorem digits_mem {c : Nat} : c ∈ ("0123456789" : Str).cps.toList ↔ 48 ≤ c ∧ c ≤ 57 := by
  have e : ("0123456789" : Str).cps.toList = [48, 49, 50, 51, 52, 53, 54, 55, 56, 57] := by kernel_rfl
  rw [e]
  simp only [List.mem_cons, List.not_mem_nil, or_false]
  omega
theorem int_sign {c : Nat} (h : 48 ≤ c ∧ c ≤ 57) : dInt (.str (SX.S [c])) = some (.int ((c : Int) - 48)) := by
  obtain ⟨k, rfl⟩ : ∃ k, c = 48 + k := ⟨c - 48, by omega⟩
  have hk : k < 10 := by omega
  have e : ((48 + k : Nat) : Int) - 48 = k := by omega
  rw [e]
  clear h e
  match k, hk with
  | 0, _ => kernel_rfl
  | 1, _ => kernel_rfl
  | 2, _ => kernel_rfl
  | 3, _ => kernel_rfl
  | 4, _ => kernel_rfl
  | 5, _ => kernel_rfl
  | 6, _ => kernel_rfl
  | 7, _ => kernel_rfl
  | 8, _ => kernel_rfl
  | 9, _ => kernel_rfl
  | k + 10, h => omega
theorem digit_ok {l : List Nat} {lo hi : Int} {h : Hh} (hz : l.length ≤ 16777216) : wF (m_digit_in [.str (SX.S l), .int lo, .int hi] h) (fun d h' => d = oD (dig l lo hi) ∧ h' = h) noX := by
  unfold m_digit_in
  refine wF_fn rfl ?_
  and_intros
  simp only [isi_ss, tr_bl, d_lenS hz]
  subst_eqs
  by_cases e : l.length = 1
  · obtain ⟨c, rfl⟩ : ∃ c, l = [c] := by
      match l, e with
      | [c], _ => exact ⟨c, rfl⟩
    have en : decide ((([c] : List Nat).length : Int) = 1) = true := rfl
    rw [en]
    have ed : dInS true (.str (SX.S [c])) d_DIGITS = some (.bl (true != decide (48 ≤ c ∧ c ≤ 57))) := by
      show some (D.bl (true != decide (c ∈ ("0123456789" : Str).cps.toList))) = _
      rw [decide_eq_decide.mpr digits_mem]
    simp only [Bool.not_true, if_false, Bool.false_eq_true, ed]
    subst_eqs
    by_cases hc : 48 ≤ c ∧ c ≤ 57
    · simp only [decide_eq_true hc, bne_self_eq_false, if_false, Bool.false_eq_true]
      subst_vars
      simp only [int_sign hc]
      subst_eqs
      simp only [oD, dig, hc, true_and]
      by_cases h1 : lo ≤ (c : Int) - 48
      · simp only [decide_eq_true h1, if_true]
        subst_eqs
        by_cases h2 : (c : Int) - 48 ≤ hi
        · simp only [decide_eq_true h2, if_true, h1, h2, and_self, tr_bl, wO_some, Bool.not_true, if_false, Bool.false_eq_true, decide_true]
        · simp only [decide_eq_false h2, if_false, Bool.false_eq_true, h1, h2, and_false, and_self, tr_bl, wO_some, Bool.not_true, decide_false]
      · simp only [decide_eq_false h1, if_false, Bool.false_eq_true, h1, false_and]
        subst_eqs
        trivial
    · simp only [decide_eq_false hc]
      subst_eqs
      simp only [show (true != false) = true from rfl, if_true, oD, dig, hc, false_and, if_false]
      exact ⟨trivial, trivial⟩
  · have en : decide ((l.length : Int) = 1) = false := decide_eq_false (by omega)
    rw [en]
    simp only [Bool.not_false, if_true, Bool.not_true, if_false, Bool.false_eq_true]
    have e2 : dig l lo hi = none := by
      unfold dig
      match l, e with
      | [], _ => rfl
      | [c], e => exact absurd rfl e
      | _ :: _ :: _, _ => rfl
    rw [e2]
    exact ⟨rfl, trivial⟩
end K84
end

section
set_option Elab.async false
set_option linter.all false
set_option maxRecDepth 100000
set_option maxHeartbeats 1000000
namespace K84
open PySem PV
def oC : Option Com → D
  | some c => c.d
  | none => .non
/-- the comers that a word may mean -/
def look (p : SP) (l : List Nat) : Option Com := match l with
  | [c, e, d] => if e = 43 ∧ (48 ≤ d ∧ d ≤ 57) ∧ (d : Int) - 48 ≤ p.m then (if c = 45 then some ⟨[], (d : Int) - 48⟩ else if (48 ≤ c ∧ c ≤ 57) ∧ (c : Int) - 48 ∈ p.l1 then some ⟨[(c : Int) - 48], (d : Int) - 48⟩ else none) else none
  | _ => none
def lk (p : SP) (l : List Nat) : Option Com := (look p l).bind fun c => if (c.f.length : Int) ≤ p.g then some c else none
theorem cut_at {l : List Nat} (h : 43 ∈ l) : ∃ a b, l = a ++ 43 :: b ∧ 43 ∉ a := by
  induction l with
  | nil => cases h
  | cons c l ih =>
    by_cases e : c = 43
    · subst e; exact ⟨[], l, rfl, by simp⟩
    · obtain ⟨a, b, rfl, hn⟩ := ih (by simpa [Ne.symm e] using h)
      exact ⟨c :: a, b, rfl, by simp [hn, Ne.symm e]⟩
theorem part_no {l : List Nat} (hz : l.length ≤ 16777216) (h : 43 ∉ l) : dPart (.str (SX.S l)) (.str ("+" : Str)) = some (.tup [.str (SX.S l), .str (SX.S []), .str (SX.S [])]) := by
  show (if ((("+" : Str).length == 0) = false ∧ (SX.S l).length ≤ 16777216) then _ else none) = _
  rw [if_pos ⟨rfl, by rw [SX.S_len]; exact hz⟩, show ("+" : Str) = SX.S [43] from rfl, SX.partition_none (by simp) (SX.par_head_none h)]
theorem part_at {a b : List Nat} (hz : (a ++ 43 :: b).length ≤ 16777216) (h : 43 ∉ a) : dPart (.str (SX.S (a ++ 43 :: b))) (.str ("+" : Str)) = some (.tup [.str (SX.S a), .str (SX.S [43]), .str (SX.S b)]) := by
  show (if ((("+" : Str).length == 0) = false ∧ (SX.S (a ++ 43 :: b)).length ≤ 16777216) then _ else none) = _
  rw [if_pos ⟨rfl, by rw [SX.S_len]; exact hz⟩, show ("+" : Str) = SX.S [43] from rfl, SX.partition_some (a := a ++ 43 :: b) (p := a) (q := b) (by simp) (SX.par_head (sep := []) b h)]
theorem S_eq {a b : List Nat} : decide (SX.S a = SX.S b) = decide (a = b) := decide_eq_decide.mpr ⟨SX.S_inj, fun e => by rw [e]⟩
def lookC (p : SP) : List Nat → List Nat → Option Com
  | [c], [d] => if (48 ≤ d ∧ d ≤ 57) ∧ (d : Int) - 48 ≤ p.m then (if c = 45 then some ⟨[], (d : Int) - 48⟩ else if (48 ≤ c ∧ c ≤ 57) ∧ (c : Int) - 48 ∈ p.l1 then some ⟨[(c : Int) - 48], (d : Int) - 48⟩ else none) else none
  | _, _ => none
theorem look_cut {p : SP} {a b : List Nat} (h : 43 ∉ a) : look p (a ++ 43 :: b) = lookC p a b := by
  match a, b with
  | [], [] => rfl
  | [], [x] => rfl
  | [], [x, y] =>
    show (if x = 43 ∧ _ then (if (43 : Nat) = 45 then _ else if (48 ≤ 43 ∧ 43 ≤ 57) ∧ _ then _ else none) else none) = none
    split
    · simp
    · rfl
  | [], x :: y :: z :: t => rfl
  | [c], [] => rfl
  | [c], [d] => simp only [look, lookC, List.cons_append, List.nil_append, true_and]
  | [c], x :: y :: t => rfl
  | c :: d :: t, b =>
    have hd : d ≠ 43 := fun e => h (by rw [e]; simp)
    have e : c :: d :: t ++ 43 :: b = c :: d :: (t ++ 43 :: b) := rfl
    rw [e]
    unfold look
    split
    · rename_i h1 h2 h3
      simp only [List.cons.injEq] at h3
      obtain ⟨_, rfl, _⟩ := h3
      rw [if_neg (by simp [hd])]
      cases b <;> rfl
    · cases b <;> rfl
theorem look_no {p : SP} {l : List Nat} (h : 43 ∉ l) : look p l = none := by
  unfold look
  split
  · rename_i c e d
    have : e ≠ 43 := fun z => h (by rw [z]; simp)
    rw [if_neg (by simp [this])]
  · rfl
end K84
end

section
set_option Elab.async false
set_option linter.all false
set_option maxRecDepth 100000
set_option maxHeartbeats 1000000
namespace K84
open PySem PV
theorem nonO {o : Option Int} : isNonD (oD o) = o.isNone := by cases o <;> rfl
theorem S_eq0 {a : List Nat} : decide (SX.S a = ("" : Str)) = decide (a = []) := decide_eq_decide.mpr ⟨fun e => SX.S_inj (b := []) e, fun e => by rw [e]; rfl⟩
theorem S_eq1 {a : List Nat} : decide (SX.S a = ("-" : Str)) = decide (a = [45]) := decide_eq_decide.mpr ⟨fun e => SX.S_inj (b := [45]) e, fun e => by rw [e]; rfl⟩
theorem signs_S (l : List Nat) : signD (SX.S l) = l.map fun c => .str (SX.S [c]) := rfl
def fdig : D → D
  | .str x => oD (dig x.cps.toList 1 9)
  | _ => .non
theorem plain_ints (l : List Int) : plainDs (l.map D.int) = true := by
  induction l with
  | nil => rfl
  | cons x l ih => simp only [List.map_cons, plainDs, plainD, ih, Bool.and_self]
theorem in_ints {x : Option Int} {l : List Int} : dInD (oD x) (dints l) = some (.bl (match x with | some i => decide (i ∈ l) | none => false)) := by
  have hp : plainDs (l.map D.int) = true := plain_ints l
  cases x with
  | none =>
    show ((if plainD .non && plainDs (l.map D.int) && decide (depD .non ≤ 50) then some ((l.map D.int).any fun y => eqvD y .non) else none)).map D.bl = _
    rw [hp, if_pos (by decide)]
    have e : ((l.map D.int).any fun y => eqvD y .non) = false := by
      rw [List.any_map, List.any_eq_false]
      intro y _
      show ¬ eqvD (.int y) .non = true
      simp [eqvD, toP, PyData.eqv]
    rw [e]
    rfl
  | some i =>
    show ((if plainD (.int i) && plainDs (l.map D.int) && decide (depD (.int i) ≤ 50) then some ((l.map D.int).any fun y => eqvD y (.int i)) else none)).map D.bl = _
    rw [hp, if_pos (show (plainD (.int i) && true && decide (depD (.int i) ≤ 50)) = true from rfl)]
    have e : ((l.map D.int).any fun y => eqvD y (.int i)) = decide (i ∈ l) := by
      rw [List.any_map, Bool.eq_iff_iff, List.any_eq_true, decide_eq_true_iff]
      constructor
      · rintro ⟨y, hy, e⟩
        have e' : eqvD (.int y) (.int i) = true := e
        simp only [eqvD, toP, PyData.eqv, beq_iff_eq] at e'
        rw [← e']; exact hy
      · intro hi
        exact ⟨i, hi, eqv_refl _⟩
    rw [e]
    rfl
theorem comers_in_ok {p : SP} (o : p.ok) {l : List Nat} (hz : l.length ≤ 16777216) {h : Hh} : wF (m_comers_in [p.d, .str (SX.S l)] h) (fun d h' => d = oC (lk p l) ∧ h' = h) noX := by
  unfold m_comers_in
  refine wF_fn rfl ?_
  and_intros
  simp only [SP.d]
  subst_eqs
  refine ⟨by decide, ?_⟩
  subst_vars
  by_cases hp : 43 ∈ l
  · obtain ⟨a, b, rfl, hn⟩ := cut_at hp
    rw [part_at hz hn]
    and_intros
    subst_vars
    rw [List.length_append, List.length_cons] at hz
    refine (digit_ok (l := b) (by omega)).imp ?_
    rintro d h1 ⟨rfl, rfl⟩
    subst_vars
    simp only [S_eq0, nonO]
    simp only [show decide (([43] : List Nat) = []) = false from rfl, if_false, Bool.false_eq_true]
    have lc := look_cut (p := p) (b := b) hn
    cases hd : dig b 0 p.m with
    | none =>
      have e0 : lk p (a ++ 43 :: b) = none := by
        unfold lk
        rw [lc]
        unfold dig at hd
        match a, b, hd with
        | [], _, _ => rfl
        | [c], [], _ => rfl
        | [c], _ :: _ :: _, _ => rfl
        | _ :: _ :: _, _, _ => rfl
        | [c], [d], hd =>
          simp only [lookC] at hd ⊢
          rw [if_neg]
          · rfl
          · rintro ⟨z1, z2⟩
            rw [if_pos ⟨z1, by omega, z2⟩] at hd
            cases hd
      rw [e0]
      by_cases ha : a = []
      · rw [decide_eq_true ha]; simp only [if_true]; exact ⟨rfl, trivial⟩
      · rw [decide_eq_false ha]; simp only [Option.isNone_none, if_true, if_false, Bool.false_eq_true]; exact ⟨rfl, trivial⟩
    | some v =>
      obtain ⟨d, rfl, d1, d2, d3⟩ : ∃ d, b = [d] ∧ (48 ≤ d ∧ d ≤ 57) ∧ (d : Int) - 48 ≤ p.m ∧ v = (d : Int) - 48 := by
        unfold dig at hd
        match b, hd with
        | [d], hd =>
          simp only at hd
          split at hd
          · rename_i z
            exact ⟨d, rfl, z.1, z.2.2, (Option.some.inj hd).symm⟩
          · cases hd
      by_cases ha : a = []
      · subst ha
        have e0 : lk p ([] ++ 43 :: [d]) = none := by unfold lk; rw [lc]; rfl
        rw [e0]
        simp only [decide_true, if_true]
        exact ⟨rfl, trivial⟩
      · rw [decide_eq_false ha]
        simp only [Option.isNone_some, if_false, Bool.false_eq_true]
        subst_vars
        simp only [S_eq1]
        by_cases hm : a = [45]
        · subst hm
          rw [decide_eq_true rfl]
          simp only [if_true]
          refine ⟨by decide, by decide, ?_, trivial⟩
          have e0 : lk p ([45] ++ 43 :: [d]) = some ⟨[], (d : Int) - 48⟩ := by
            unfold lk
            rw [lc]
            simp only [lookC, d1, d2, and_self, if_true, Option.bind_some]
            rw [if_pos (show ((([] : List Int).length : Nat) : Int) ≤ p.g from o.g)]
          rw [e0, d3]
          rfl
        · rw [decide_eq_false hm]
          simp only [if_false, Bool.false_eq_true]
          subst_vars
          simp only [itemsD, wO_some, signs_S]
          refine wE_lcMap (f := fdig) (by rw [List.length_map]; omega) (fun x hx => ?_) ?_
          · obtain ⟨c, hc, rfl⟩ := List.mem_map.mp hx
            and_intros
            exact digit_ok (by simp)
          · refine ⟨rfl, ?_⟩
            subst_vars
            have ef : (a.map fun c => D.str (SX.S [c])).map fdig = a.map fun c => oD (dig [c] 1 9) := by
              rw [List.map_map]; rfl
            rw [ef]
            simp only [List.length_map]
            by_cases hl : p.g < (a.length : Int)
            · rw [decide_eq_true hl]
              simp only [if_true]
              have e0 : lk p (a ++ 43 :: [d]) = none := by
                unfold lk
                rw [lc]
                match a, ha, hm, hl with
                | [c], _, hm, hl =>
                  have hc : c ≠ 45 := fun z => hm (by rw [z])
                  simp only [lookC, d1, d2, and_self, if_true, hc, if_false]
                  split
                  · rw [Option.bind_some, if_neg]
                    simp only [List.length_cons, List.length_nil] at hl ⊢
                    omega
                  · rfl
                | _ :: _ :: _, _, _, _ => rfl
              rw [e0]
              exact ⟨rfl, trivial⟩
            · rw [decide_eq_false hl]
              simp only [if_false, Bool.false_eq_true]
              have hg := o.g'
              obtain ⟨c, rfl⟩ : ∃ c, a = [c] := by
                match a, ha, hl with
                | [c], _, _ => exact ⟨c, rfl⟩
                | _ :: _ :: _, _, hl => simp only [List.length_cons] at hl; omega
              have hc : c ≠ 45 := fun z => hm (by rw [z])
              simp only [itemsD, wO_some, List.map_cons, List.map_nil]
              refine wE_lcMap (ds := [oD (dig [c] 1 9)]) (f := fun x => .bl (match dig [c] 1 9 with | some i => decide (i ∈ p.l1) | none => false)) (by simp) (fun x hx => ?_) ?_
              · rw [List.mem_singleton.mp hx]
                and_intros
                rw [in_ints]
                exact ⟨rfl, trivial⟩
              · simp only [List.map_cons, List.map_nil, dAll, dBls, Option.map_some, wO_some, tr_bl, List.all_cons, List.all_nil, Bool.and_true, _root_.id]
                have l1 : ∀ {i : Int}, i ∈ p.l1 → 1 ≤ i ∧ i ≤ 4 := fun hi => by
                  have := cho_in o.c1 hi
                  have := o.s1
                  omega
                by_cases hq : (48 ≤ c ∧ c ≤ 57) ∧ (c : Int) - 48 ∈ p.l1
                · have q1 := l1 hq.2
                  have ed : dig [c] 1 9 = some ((c : Int) - 48) := by
                    simp only [dig]
                    rw [if_pos ⟨hq.1, by omega, by omega⟩]
                  rw [ed]
                  simp only [decide_eq_true hq.2, Bool.not_true, if_false, Bool.false_eq_true]
                  subst_vars
                  refine ⟨by decide, ?_, trivial⟩
                  have e0 : lk p ([c] ++ 43 :: [d]) = some ⟨[(c : Int) - 48], (d : Int) - 48⟩ := by
                    unfold lk
                    rw [lc]
                    simp only [lookC, d1, d2, and_self, if_true, hc, if_false, hq, Option.bind_some]
                    rw [if_pos]
                    simp only [List.length_cons, List.length_nil] at hl ⊢
                    omega
                  rw [show lk p [c, 43, d] = _ from e0, d3]
                  rfl
                · have e0 : lk p ([c] ++ 43 :: [d]) = none := by
                    unfold lk
                    rw [lc]
                    simp only [lookC, d1, d2, and_self, if_true, hc, if_false]
                    rw [if_neg hq]
                    rfl
                  rw [e0]
                  have eb : (match dig [c] 1 9 with | some i => decide (i ∈ p.l1) | none => false) = false := by
                    have no : ∀ i, dig [c] 1 9 = some i → i ∉ p.l1 := fun i ei z2 => by
                      simp only [dig] at ei
                      by_cases z : (48 ≤ c ∧ c ≤ 57) ∧ 1 ≤ (c : Int) - 48 ∧ (c : Int) - 48 ≤ 9
                      · rw [if_pos z] at ei
                        rw [← Option.some.inj ei] at z2
                        exact hq ⟨z.1, z2⟩
                      · rw [if_neg z] at ei
                        cases ei
                    cases ed : dig [c] 1 9 with
                    | none => rfl
                    | some i => exact decide_eq_false (no i ed)
                  rw [eb]
                  simp only [Bool.not_false, if_true]
                  exact ⟨rfl, trivial⟩
  · rw [part_no hz hp]
    and_intros
    subst_vars
    refine (digit_ok (l := []) (by decide)).imp ?_
    rintro d h1 ⟨rfl, rfl⟩
    subst_vars
    simp only [S_eq0]
    simp only [decide_true, if_true]
    have e0 : lk p l = none := by unfold lk; rw [look_no hp]; rfl
    rw [e0]
    exact ⟨rfl, trivial⟩
end K84
end

section
set_option Elab.async false
set_option linter.all false
set_option maxRecDepth 100000
set_option maxHeartbeats 1000000
namespace K84
open PySem PV
/-- the words that are read: all of them, the place -/
def wo (ws : List (List Nat)) (i : Nat) : Ob := .ins 0 [(("all_words" : Str), .lst (sgn ws)), (("next_index" : Str), .int (i : Int))]
def atW (ws : List (List Nat)) (i : Nat) : D := match ws[i]? with
  | some w => .str (SX.S w)
  | none => .non
section
variable {h : Hh} {ws : List (List Nat)} {i : Nat} {X : XP}
theorem at_last {o : Ob} : (h ++ [o])[h.length]? = some o := by simp
theorem set_last {o o' : Ob} : (h ++ [o]).set h.length o' = h ++ [o'] := by simp
theorem fld_w : fldD 0 ("all_words" : Str) (.obj h.length) (h ++ [wo ws i]) = some (.lst (sgn ws)) := by
  simp only [fldD, at_last, wo]; rfl
theorem fld_i : fldD 0 ("next_index" : Str) (.obj h.length) (h ++ [wo ws i]) = some (.int (i : Int)) := by
  simp only [fldD, at_last, wo]; rfl
theorem rec_w {m : Str} (hm : (([(("all_words" : Str), D.lst (sgn ws)), (("next_index" : Str), .int (i : Int))] : List (Str × D)).lookup m) = none) : recD 0 m (.obj h.length) (h ++ [wo ws i]) = some (.obj h.length) := by
  simp only [recD, at_last, wo]
  rw [if_pos ⟨trivial, hm⟩]
theorem sgn_len (l : List (List Nat)) : (sgn l).length = l.length := List.length_map ..
theorem peek_ok : wF (m_Words_peek [.obj h.length] (h ++ [wo ws i])) (fun d h' => d = atW ws i ∧ h' = h ++ [wo ws i]) X := by
  unfold m_Words_peek
  refine wF_fn rfl ?_
  and_intros
  simp only [fld_w, fld_i]
  subst_eqs
  rw [sgn_len]
  by_cases hi : (i : Int) < (ws.length : Nat)
  · have lt : i < ws.length := by omega
    simp only [decide_eq_true hi, if_true]
    rw [sgn, List.getElem?_map, List.getElem?_eq_getElem lt]
    simp only [Option.map_some, wO_some, atW, List.getElem?_eq_getElem lt]
    exact ⟨trivial, trivial⟩
  · simp only [decide_eq_false hi, if_false, Bool.false_eq_true, atW, List.getElem?_eq_none (show ws.length ≤ i by omega)]
    exact ⟨trivial, trivial⟩
theorem skip_ok : wF (m_Words_skip [.obj h.length] (h ++ [wo ws i])) (fun d h' => d = .non ∧ h' = h ++ [wo ws (i + 1)]) X := by
  unfold m_Words_skip
  refine wF_fn rfl ?_
  and_intros
  simp only [fld_i]
  subst_eqs
  simp only [setD, at_last, wo]
  rw [if_pos ⟨trivial, by show 2 < 1000; omega⟩]
  simp only [wO_some, set_last]
  refine ⟨trivial, ?_⟩
  rfl
theorem refuse_ok {Q : D → Hh → Prop} (k : X 4 (.int (i : Int)) (h ++ [wo ws i])) : wF (m_Words_refuse [.obj h.length] (h ++ [wo ws i])) Q X := by
  unfold m_Words_refuse
  refine wF_fn rfl ?_
  and_intros
  simp only [fld_i]
  subst_eqs
  exact k
theorem finish_ok {Q : D → Hh → Prop} (k0 : ws.length ≤ i → Q .non (h ++ [wo ws i])) (k1 : i < ws.length → X 4 (.int (i : Int)) (h ++ [wo ws i])) : wF (m_Words_finish [.obj h.length] (h ++ [wo ws i])) Q X := by
  unfold m_Words_finish
  refine wF_fn rfl ?_
  and_intros
  rw [rec_w rfl]
  and_intros
  refine wF.imp (X := noX) peek_ok ?_
  rintro d h' ⟨rfl, rfl⟩
  subst_eqs
  by_cases hi : i < ws.length
  · simp only [atW, List.getElem?_eq_getElem hi]
    subst_eqs
    rw [rec_w rfl]
    and_intros
    exact refuse_ok (k1 hi)
  · simp only [atW, List.getElem?_eq_none (show ws.length ≤ i by omega)]
    subst_eqs
    exact k0 (by omega)
theorem split_S {l : List Nat} (hz : l.length + 2 ≤ 16777216) (hw : (TL.spl [32] 0 [] l).length ≤ 16777216) : dSplit (.str (SX.S l)) (.str (" " : Str)) = some (.lst (sgn (TL.spl [32] 0 [] l))) := by
  have e := SX.split_S (a := l) (b := [32]) (by simp) rfl
  show (if ((" " : Str).length == 0) = false ∧ (SX.S l).length + 2 ≤ 16777216 ∧ (Txt.split (SX.S l) (" " : Str)).length ≤ 16777216 then some (D.lst ((Txt.split (SX.S l) (" " : Str)).map D.str)) else none) = _
  rw [sp_eq, e, if_pos ⟨rfl, by rw [SX.S_len]; exact hz, by rw [List.length_map]; exact hw⟩, List.map_map]
  rfl
theorem init_ok {l : List Nat} {Q : D → Hh → Prop} (hz : l.length + 2 ≤ 16777216) (hw : (TL.spl [32] 0 [] l).length ≤ 16777216) (k : Q .non (h ++ [wo (TL.spl [32] 0 [] l) 0])) :
    wV (m_Words__init [.obj h.length, .str (SX.S l)] (h ++ [.ins 0 []])) Q X := by
  unfold m_Words__init
  refine wV_fn rfl ?_
  and_intros
  simp only [isi_ss, tr_bl]
  subst_eqs
  try simp only [Bool.not_true, if_false, Bool.false_eq_true]
  subst_vars
  rw [split_S hz hw]
  simp only [wO_some, setD, at_last]
  rw [if_pos ⟨trivial, by decide⟩]
  simp only [wO_some, set_last]
  subst_vars
  simp only [setD, at_last]
  rw [if_pos ⟨trivial, by show 1 < 1000; omega⟩]
  simp only [wO_some, set_last]
  exact k
end
end K84
end

section
set_option Elab.async false
set_option linter.all false
set_option maxRecDepth 100000
set_option maxHeartbeats 1000000
namespace K84
open PySem PV
/-- the words from i on, the comers so far: the place of the first bad word, or the row -/
def goR (p : SP) : List (List Nat) → Nat → List Com → Nat ⊕ List Com
  | [], i, acc => .inr acc
  | w :: ws, i, acc => match lk p w with
    | none => .inl i
    | some c => if i = 200 then .inl i else goR p ws (i + 1) (acc ++ [c])
def noneW : List Nat := [110, 111, 110, 101]
def rowR (p : SP) (ws : List (List Nat)) : Nat ⊕ List Com := if ws.head? = some noneW then (if ws.length = 1 then .inr [] else .inl 1) else goR p ws 0 []
theorem nw_eq {w : List Nat} : decide (SX.S w = ("none" : Str)) = decide (w = noneW) := decide_eq_decide.mpr ⟨fun e => SX.S_inj (b := noneW) e, fun e => by rw [e]; rfl⟩
theorem com_nn {c : Com} : isNonD c.d = false := rfl
theorem app_row {acc : List Com} {c : Com} (h : acc.length < 16777216) : fAppend (rowD acc) [c.d] = some (rowD (acc ++ [c])) := by
  show (if (acc.map Com.d).length < 16777216 then some (D.lst (acc.map Com.d ++ [c.d])) else none) = _
  rw [List.length_map, if_pos h, rowD, List.map_append]
  rfl
theorem isL_row {acc : List Com} : isL (rowD acc) = true := rfl
theorem len_row {acc : List Com} : dLen (rowD acc) = some (.int (acc.length : Nat)) := by
  show some (D.int ((acc.map Com.d).length : Nat)) = _
  rw [List.length_map]
/-- what read_row leaves -/
def ReadX (p : SP) (ws : List (List Nat)) (h : Hh) : XP := fun c q h' => c = 4 ∧ ∃ i : Nat, rowR p ws = .inl i ∧ q = .int (i : Int) ∧ ∃ t, h' = h ++ t
theorem read_ok {p : SP} (o : p.ok) {l : List Nat} {ws : List (List Nat)} (ew : TL.spl [32] 0 [] l = ws) (hz : l.length + 2 ≤ 16777216) (h0 : ws ≠ []) (hw : ws.length < 290) (hl : ∀ w ∈ ws, w.length ≤ 16777216) {h : Hh} :
    wN (m_read_row [p.d, .str (SX.S l)] h) (fun d h' => ∃ r, rowR p ws = .inr r ∧ d = rowD r ∧ ∃ t, h' = h ++ t) (ReadX p ws h) := by
  unfold m_read_row
  refine wN_fn rfl ?_
  and_intros
  refine need_ok o ?_
  subst_vars
  refine init_ok hz (by rw [ew]; omega) ⟨rfl, ?_⟩
  rw [ew]
  subst_vars
  rw [rec_w rfl]
  and_intros
  refine wF.imp (X := noX) peek_ok ?_
  rintro d h' ⟨rfl, rfl⟩
  obtain ⟨w0, wr, rfl⟩ : ∃ w0 wr, ws = w0 :: wr := by
    cases ws with
    | nil => exact absurd rfl h0
    | cons a b => exact ⟨a, b, rfl⟩
  simp only [atW, List.getElem?_cons_zero]
  subst_eqs
  rw [nw_eq]
  by_cases hn : w0 = noneW
  · rw [decide_eq_true hn]
    simp only [if_true]
    rw [rec_w rfl]
    and_intros
    refine wF.imp (X := noX) skip_ok ?_
    rintro d h' ⟨rfl, rfl⟩
    subst_vars
    rw [rec_w rfl]
    and_intros
    refine finish_ok (fun hle => ?_) fun hlt => ?_
    · subst_vars
      refine ⟨by decide, [], ?_, rfl, _, rfl⟩
      unfold rowR
      rw [if_pos (by rw [hn]; rfl), if_pos (by simp only [List.length_cons] at hle ⊢; omega)]
    · refine ⟨rfl, 1, ?_, rfl, _, rfl⟩
      unfold rowR
      rw [if_pos (by rw [hn]; rfl), if_neg (by simp only [List.length_cons] at hlt ⊢; omega)]
  · have er : rowR p (w0 :: wr) = goR p (w0 :: wr) 0 [] := by
      unfold rowR
      rw [if_neg]
      simpa using hn
    rw [decide_eq_false hn]
    simp only [if_false, Bool.false_eq_true]
    generalize hW : w0 :: wr = ws at *
    subst_vars
    refine ⟨by decide, ?_⟩
    subst_vars
    refine wS_while (I := fun m ρ h' => ∃ (i : Nat) (acc : List Com) (c4 : Cell), m + i = ws.length ∧ acc.length = i ∧ ρ = [.val p.d, .val (.str (SX.S l)), .val (.obj h.length), .own (rowD acc), c4] ∧ h' = h ++ [wo ws i] ∧ goR p (ws.drop i) i acc = rowR p ws) ?_ (m := ws.length) (by omega) ⟨0, [], .un, by omega, rfl, rfl, rfl, by rw [er]; rfl⟩
    rintro m ρ h' ⟨i, acc, c4, hm, ha, rfl, rfl, hg⟩
    and_intros
    rw [rec_w rfl]
    and_intros
    refine wF.imp (X := noX) peek_ok ?_
    rintro d h' ⟨rfl, rfl⟩
    by_cases hi : i < ws.length
    · have ea : atW ws i = .str (SX.S ws[i]) := by simp only [atW, List.getElem?_eq_getElem hi]
      rw [ea]
      subst_eqs
      refine ⟨m - 1, by omega, ?_⟩
      and_intros
      rw [rec_w rfl]
      and_intros
      refine wF.imp (X := noX) peek_ok ?_
      rintro d h' ⟨rfl, rfl⟩
      rw [ea]
      refine wF.imp (X := noX) (comers_in_ok o (hl _ (List.getElem_mem hi))) ?_
      rintro d h' ⟨rfl, rfl⟩
      subst_vars
      rw [List.drop_eq_getElem_cons hi] at hg
      unfold goR at hg
      cases hk : lk p ws[i] with
      | none =>
        rw [hk] at hg
        simp only [oC]
        subst_eqs
        rw [rec_w rfl]
        and_intros
        exact refuse_ok ⟨rfl, i, hg.symm, rfl, _, rfl⟩
      | some c =>
        rw [hk] at hg
        simp only at hg
        simp only [oC, com_nn, len_row]
        subst_eqs
        rw [ha]
        by_cases h2 : i = 200
        · rw [if_pos h2] at hg
          rw [decide_eq_true (show (i : Int) = 200 by omega)]
          simp only [if_true]
          rw [rec_w rfl]
          and_intros
          exact refuse_ok ⟨rfl, i, hg.symm, rfl, _, rfl⟩
        · rw [if_neg h2] at hg
          rw [decide_eq_false (show ¬ (i : Int) = 200 by omega)]
          simp only [if_false, Bool.false_eq_true]
          subst_vars
          rw [rec_w rfl]
          and_intros
          refine wF.imp (X := noX) skip_ok ?_
          rintro d h' ⟨rfl, rfl⟩
          subst_vars
          refine ⟨rfl, ?_⟩
          rw [app_row (by omega)]
          simp only [wO_some]
          exact ⟨i + 1, acc ++ [c], _, by omega, by rw [List.length_append, ha]; rfl, rfl, rfl, hg⟩
    · have ea : atW ws i = .non := by simp only [atW, List.getElem?_eq_none (show ws.length ≤ i by omega)]
      rw [ea]
      subst_eqs
      subst_vars
      rw [List.drop_eq_nil_of_le (by omega)] at hg
      exact ⟨acc, hg.symm, rfl, _, rfl⟩
end K84
end

section
set_option Elab.async false
set_option linter.all false
set_option maxRecDepth 100000
set_option maxHeartbeats 1000000
namespace K84
open PySem PV
def resD : Nat ⊕ List Com → D
  | .inr r => .tup [rowD r, .non]
  | .inl i => .tup [.non, .int (i : Int)]
theorem wN.toS {r : FR} {Q : D → Hh → Prop} {X : XP} (k : wN r Q X) : wN r Q X := k
theorem law_read_ok {p : SP} (o : p.ok) {l : List Nat} {ws : List (List Nat)} (ew : TL.spl [32] 0 [] l = ws) (hz : l.length + 2 ≤ 16777216) (h0 : ws ≠ []) (hw : ws.length < 290) (hl : ∀ w ∈ ws, w.length ≤ 16777216) {h : Hh} :
    wF (m_law_read [p.d, .str (SX.S l)] h) (fun d h' => d = resD (rowR p ws) ∧ ∃ t, h' = h ++ t) noX := by
  unfold m_law_read
  refine wF_fn rfl ?_
  and_intros
  refine ⟨by decide, ?_⟩
  subst_vars
  refine (read_ok o ew hz h0 hw hl).imp ?_ ?_
  · rintro d h' ⟨r, er, rfl, t, rfl⟩
    subst_vars
    simp only [show dIsX is_BadText .non = some (.bl false) from rfl, wO_some, tr_bl, if_false, Bool.false_eq_true]
    subst_vars
    simp only [show dIsX is_BadSetup .non = some (.bl false) from rfl, wO_some, tr_bl, if_false, Bool.false_eq_true]
    rw [er]
    exact ⟨by decide, rfl, t, rfl⟩
  · rintro c q h' ⟨rfl, i, er, rfl, t, rfl⟩
    show wO (some true) _
    subst_vars
    simp only [show dIsX is_BadText (.exn 4 (.int (i : Int))) = some (.bl true) from rfl, wO_some, tr_bl, if_true,
      show dIsX (fun k => (is_BadRow k).bind fun b => (is_BadSetup k).map fun b2 => b || b2) (.exn 4 (.int (i : Int))) = some (.bl false) from rfl, Bool.not_false]
    simp only [show dPlace plcs (.exn 4 (.int (i : Int))) = some (.int (i : Int)) from rfl, Option.bind_some, nn_int, if_false, Bool.false_eq_true, wO_some]
    rw [er]
    exact ⟨by decide, rfl, t, rfl⟩
/-! ### what is due -/
theorem isi_ll {l : List D} : dIsi "list" (.lst l) = some (.bl true) := rfl
theorem same_int (n : Nat) (i : Int) {h : Hh} : wF (m_law_same (n + 1) [.int i, .int i] h) (fun d h' => d = .bl true ∧ h' = h) noX := by
  unfold m_law_same
  refine wF_fn rfl ?_
  and_intros
  simp only [show dIsi "tuple" (.int i) = some (.bl false) from rfl, tr_bl, isi_int, isi_bi, wO_some, if_true, if_false, Bool.false_eq_true]
  subst_vars
  simp only [isi_int, isi_bi, tr_bl, wO_some, if_true, Bool.not_false]
  subst_eqs
  simp only [decide_true]
  exact ⟨trivial, trivial⟩
theorem same_str (n : Nat) (x y : Str) {h : Hh} : wF (m_law_same (n + 1) [.str x, .str y] h) (fun d h' => d = .bl (decide (x = y)) ∧ h' = h) noX := by
  unfold m_law_same
  refine wF_fn rfl ?_
  and_intros
  simp only [show ∀ x, dIsi "tuple" (.str x) = some (.bl false) from fun _ => rfl, tr_bl, wO_some, if_true, if_false, Bool.false_eq_true]
  subst_vars
  simp only [show ∀ x, dIsi "int" (.str x) = some (.bl false) from fun _ => rfl, tr_bl, wO_some, if_true, if_false, Bool.false_eq_true]
  subst_vars
  simp only [isi_ss, tr_bl, wO_some, if_true]
  exact ⟨trivial, trivial⟩
theorem zip_self : ∀ l : List D, zip2D l l = l.map fun x => .tup [x, x]
  | [] => rfl
  | x :: l => by rw [zip2D, zip_self l]; rfl
theorem all_true : ∀ l : List D, dAll (.lst (l.map fun _ => .bl true)) = some (.bl true) := fun l => by
  have e : dBls (l.map fun _ => .bl true) = some (l.map fun _ => true) := by
    induction l with
    | nil => rfl
    | cons x l ih => simp only [List.map_cons, dBls, ih, Option.map_some]
  show (dBls _).map _ = _
  rw [e]
  simp
theorem same_tup (n : Nat) {l : List D} {h : Hh} (hz : l.length ≤ 16777216) (hs : ∀ x ∈ l, wF (m_law_same n [x, x] h) (fun d h' => d = .bl true ∧ h' = h) noX) : wF (m_law_same (n + 1) [.tup l, .tup l] h) (fun d h' => d = .bl true ∧ h' = h) noX := by
  unfold m_law_same
  refine wF_fn rfl ?_
  and_intros
  simp only [isi_tt, tr_bl]
  subst_eqs
  simp only [decide_true, Bool.not_true, if_false, Bool.false_eq_true]
  subst_vars
  simp only [itemsD, Option.bind_some, Option.map_some, wO_some]
  refine wE_lcMap (f := fun _ => .bl true) (by rw [zip_self, List.length_map]; exact hz) (fun d m => ?_) ?_
  · rw [zip_self] at m
    obtain ⟨x, hx, rfl⟩ := List.mem_map.mp m
    and_intros
    exact hs x hx
  · rw [zip_self, List.map_map]
    have := all_true l
    rw [show ((fun _ => D.bl true) ∘ fun x => D.tup [x, x]) = fun (_ : D) => D.bl true from rfl, this]
    exact ⟨rfl, rfl⟩
theorem same_row {r : List Com} {h : Hh} (hz : r.length ≤ 1000) (hf : ∀ c ∈ r, c.small) : wF (m_law_same 6 [.tup (r.map Com.d), .tup (r.map Com.d)] h) (fun d h' => d = .bl true ∧ h' = h) noX := by
  refine same_tup 5 (by rw [List.length_map]; omega) fun x hx => ?_
  obtain ⟨c, hc, rfl⟩ := List.mem_map.mp hx
  refine same_tup 4 (by simp) fun x hx => ?_
  simp only [List.mem_cons, List.not_mem_nil, or_false] at hx
  rcases hx with rfl | rfl
  · have hl : c.f.length ≤ 1 := by
      rcases (hf c hc).1 with e | ⟨x, e, _⟩ <;> rw [e] <;> simp
    refine same_tup 3 (by rw [List.length_map]; omega) fun x hx => ?_
    obtain ⟨i, _, rfl⟩ := List.mem_map.mp hx
    exact same_int 2 i
  · exact same_int 3 _
def resOk (r : Nat ⊕ List Com) : Prop := match r with
  | .inr r => r.length ≤ 1000 ∧ ∀ c ∈ r, c.small
  | .inl _ => True
theorem as_due_ok {r : Nat ⊕ List Com} {h : Hh} (hr : resOk r) : wF (m_law_as_due [resD r, resD r] h) (fun d h' => d = .bl true ∧ h' = h) noX := by
  unfold m_law_as_due
  refine wF_fn rfl ?_
  and_intros
  cases r with
  | inr r =>
    simp only [resD]
    subst_eqs
    simp only [tr_bl, wO_some, if_true]
    simp only [rowD, isi_ll, tr_bl, wO_some, if_true]
    subst_eqs
    exact same_row hr.1 hr.2
  | inl i =>
    simp only [resD]
    subst_eqs
    subst_vars
    simp only [tr_bl, wO_some, if_true, isi_int, isi_bi, Bool.not_false]
    subst_eqs
    simp only [decide_true]
    exact ⟨trivial, trivial⟩
end K84
end

section
set_option Elab.async false
set_option linter.all false
set_option maxRecDepth 100000
set_option maxHeartbeats 1000000
namespace PV
open PySem L2
theorem get_map {k q : Key} {y : D} : ∀ kvs : List (D × D), (kvs.any fun p => kIs k p.1) = true → dGetK q (kvs.map fun p => if kIs k p.1 = true then (p.1, y) else p) = if q = k then some y else dGetK q kvs
  | [], h => by simp at h
  | (x, v) :: r, h => by
    by_cases hk : kIs k x = true
    · simp only [List.map_cons, hk, if_true, dGetK]
      have e : kOf x = some k := of_decide_eq_true hk
      by_cases hq : q = k
      · subst hq; simp only [hk, if_true]
      · have nq : kIs q x = false := decide_eq_false fun z => hq (by rw [e] at z; exact (Option.some.inj z).symm)
        simp only [nq, Bool.false_eq_true, if_false, if_neg hq]
        have ih : ∀ r : List (D × D), dGetK q (r.map fun p => if kIs k p.1 = true then (p.1, y) else p) = dGetK q r := fun r => by
          induction r with
          | nil => rfl
          | cons a r ih =>
            obtain ⟨x, v⟩ := a
            by_cases hk : kIs k x = true
            · have e : kOf x = some k := of_decide_eq_true hk
              have nq : kIs q x = false := decide_eq_false fun z => hq (by rw [e] at z; exact (Option.some.inj z).symm)
              simp only [List.map_cons, hk, if_true, dGetK, nq, Bool.false_eq_true, if_false, ih]
            · simp only [List.map_cons, hk, if_false, dGetK, ih, Bool.false_eq_true]
        exact ih r
    · have h' : (r.any fun p => kIs k p.1) = true := by
        rw [List.any_cons] at h
        simpa [hk] using h
      simp only [List.map_cons, hk, if_false, dGetK, get_map r h', Bool.false_eq_true]
      by_cases hq : q = k
      · subst hq; simp only [hk, if_false, if_true, Bool.false_eq_true]
      · simp only [if_neg hq]
theorem get_app {k q : Key} {y : D} : ∀ kvs : List (D × D), (kvs.any fun p => kIs k p.1) = false → dGetK q (kvs ++ [(kD k, y)]) = if q = k then some y else dGetK q kvs
  | [], h => by
    by_cases hq : q = k
    · subst hq
      simp only [List.nil_append, dGetK, kIs, kOf_kD, decide_true, if_true]
    · have : kIs q (kD k) = false := decide_eq_false fun z => hq (by rw [kOf_kD] at z; exact (Option.some.inj z).symm)
      simp only [List.nil_append, dGetK, this, if_neg hq, Bool.false_eq_true, if_false]
  | (x, v) :: r, h => by
    rw [List.any_cons, Bool.or_eq_false_iff] at h
    simp only [List.cons_append, dGetK, get_app r h.2]
    by_cases hq : q = k
    · subst hq; simp only [h.1, Bool.false_eq_true, if_false, if_true]
    · simp only [if_neg hq]
theorem get_put {k q : Key} {y : D} {kvs : List (D × D)} : dGetK q (dPutK k y kvs) = if q = k then some y else dGetK q kvs := by
  unfold dPutK
  by_cases h : (kvs.any fun p => kIs k p.1) = true
  · rw [if_pos h]; exact get_map kvs h
  · rw [if_neg h]; exact get_app kvs (by simpa using h)
theorem put_len {k : Key} {y : D} {kvs : List (D × D)} : (dPutK k y kvs).length ≤ kvs.length + 1 := by
  unfold dPutK
  split
  · rw [List.length_map]; omega
  · rw [List.length_append]; exact Nat.le_refl _
end PV
namespace K84
open PySem PV
theorem look_wl {p : SP} (o : p.ok) {c : Com} (h : c.may p) : look p (wl c) = some c := by
  obtain ⟨f, n⟩ := c
  have hs := h.small o
  obtain ⟨h1, h2, h3⟩ := h
  obtain ⟨_, s2, s3⟩ := hs
  simp only at h1 h2 h3 s2 s3
  have e2 : (((48 + n).toNat : Nat) : Int) - 48 = n := by omega
  rcases h1 with rfl | ⟨x, rfl, hx⟩
  · show (if (43 : Nat) = 43 ∧ (48 ≤ (48 + n).toNat ∧ (48 + n).toNat ≤ 57) ∧ (((48 + n).toNat : Nat) : Int) - 48 ≤ p.m then _ else none) = _
    rw [if_pos ⟨rfl, by omega, by omega⟩, e2]
    rfl
  · have hx' := cho_in o.c1 hx
    have := o.s1
    have e1 : (((48 + x).toNat : Nat) : Int) - 48 = x := by omega
    show (if (43 : Nat) = 43 ∧ (48 ≤ (48 + n).toNat ∧ (48 + n).toNat ≤ 57) ∧ (((48 + n).toNat : Nat) : Int) - 48 ≤ p.m then (if (48 + x).toNat = 45 then _ else if (48 ≤ (48 + x).toNat ∧ (48 + x).toNat ≤ 57) ∧ (((48 + x).toNat : Nat) : Int) - 48 ∈ p.l1 then _ else none) else none) = _
    rw [if_pos ⟨rfl, by omega, by omega⟩, if_neg (by omega), if_pos ⟨by omega, by rw [e1]; exact hx⟩, e1, e2]
theorem wl_look {p : SP} {w : List Nat} {c : Com} (h : look p w = some c) : w = wl c ∧ c.may p := by
  unfold look at h
  split at h
  · rename_i a e d
    split at h
    · rename_i z
      obtain ⟨rfl, z2, z3⟩ := z
      split at h
      · rename_i ha
        subst ha
        cases h
        refine ⟨?_, .inl rfl, by simp only; omega, z3⟩
        show _ = [45, 43, (48 + ((d : Int) - 48)).toNat]
        rw [show (48 + ((d : Int) - 48)).toNat = d by omega]
      · split at h
        · rename_i hq
          cases h
          refine ⟨?_, .inr ⟨_, rfl, hq.2⟩, by simp only; omega, z3⟩
          show _ = [(48 + ((a : Int) - 48)).toNat, 43, (48 + ((d : Int) - 48)).toNat]
          rw [show (48 + ((d : Int) - 48)).toNat = d by omega, show (48 + ((a : Int) - 48)).toNat = a by omega]
        · cases h
    · cases h
  · cases h
/-- what the dict knows: of the words' meanings those that kn says -/
def Kno (p : SP) (kn : Com → Prop) (kvs : List (D × D)) : Prop := ∀ w, dGetK (.inr (SX.S w)) kvs = none ∧ (∀ c, look p w = some c → ¬ kn c) ∨ ∃ c, look p w = some c ∧ kn c ∧ dGetK (.inr (SX.S w)) kvs = some c.d
theorem Kno.put {p : SP} (o : p.ok) {kn : Com → Prop} {kvs : List (D × D)} (k : Kno p kn kvs) {c : Com} (h : c.may p) : Kno p (fun c' => kn c' ∨ c' = c) (dPutK (.inr (SX.S (wl c))) c.d kvs) := by
  intro w
  rw [get_put]
  by_cases e : w = wl c
  · subst e
    rw [if_pos rfl]
    exact .inr ⟨c, look_wl o h, .inr rfl, rfl⟩
  · rw [if_neg (fun z => e (SX.S_inj (Sum.inr.inj z)))]
    rcases k w with ⟨k1, k2⟩ | ⟨c', k1, k2, k3⟩
    · refine .inl ⟨k1, fun c' hc => ?_⟩
      rintro (z | rfl)
      · exact k2 c' hc z
      · exact e (wl_look hc).1
    · exact .inr ⟨c', k1, .inl k2, k3⟩
end K84
end

section
set_option Elab.async false
set_option linter.all false
set_option maxRecDepth 100000
set_option maxHeartbeats 1000000
namespace K84
open PySem PV
theorem Kno.none {p : SP} : Kno p (fun _ => False) [] := fun w => .inl ⟨rfl, fun _ _ z => z⟩
theorem put_w {kvs : List (D × D)} {x : Str} {y : D} (h : kvs.length < 16777216) : fPutD (.dic kvs) (.str x) y = some (.dic (dPutK (.inr x) y kvs)) := if_pos h
theorem get_w {kvs : List (D × D)} {x : Str} : dGetM (.dic kvs) (.str x) = some ((dGetK (.inr x) kvs).getD .non) := rfl
theorem com_d {f : List Int} {n : Int} : D.tup [.tup (f.map .int), .int n] = (⟨f, n⟩ : Com).d := rfl
theorem word_wF {c : Com} (h : c.small) {hp : Hh} {Q : D → Hh → Prop} {X : XP} (k : Q (.str (SX.S (wl c))) hp) : wF (m_law_word [c.d] hp) Q X := by
  rw [word_eq h]; exact k
theorem due_ok {p : SP} (o : p.ok) {ws : List (List Nat)} (h0 : ws ≠ []) (hw : ws.length < 290) {h : Hh} : wF (m_law_due [p.d, .lst (sgn ws)] h) (fun d h' => d = resD (rowR p ws) ∧ h' = h) noX := by
  unfold m_law_due
  refine wF_fn rfl ?_
  obtain ⟨w0, wr, rfl⟩ : ∃ w0 wr, ws = w0 :: wr := by
    cases ws with
    | nil => exact absurd rfl h0
    | cons a b => exact ⟨a, b, rfl⟩
  and_intros
  have e1 : sgn (w0 :: wr) = .str (SX.S w0) :: sgn wr := rfl
  rw [e1]
  subst_eqs
  rw [nw_eq]
  by_cases hn : w0 = noneW
  · rw [decide_eq_true hn]
    simp only [if_true, List.length_cons, sgn_len]
    by_cases h1 : wr.length = 0
    · rw [decide_eq_true (show (((wr.length + 1 : Nat)) : Int) = 1 by omega)]
      simp only [if_true]
      refine ⟨by decide, by decide, ?_, trivial⟩
      unfold rowR
      rw [if_pos (by rw [hn]; rfl), if_pos (by simp only [List.length_cons]; omega)]
      rfl
    · rw [decide_eq_false (show ¬ (((wr.length + 1 : Nat)) : Int) = 1 by omega)]
      simp only [if_false, Bool.false_eq_true]
      refine ⟨by decide, ?_, trivial⟩
      unfold rowR
      rw [if_pos (by rw [hn]; rfl), if_neg (by simp only [List.length_cons]; omega)]
      rfl
  · have er : rowR p (w0 :: wr) = goR p (w0 :: wr) 0 [] := by
      unfold rowR
      rw [if_neg]
      simpa using hn
    rw [decide_eq_false hn, ← e1]
    simp only [if_false, Bool.false_eq_true]
    generalize hW : w0 :: wr = ws at *
    subst_vars
    subst_vars
    simp only [SP.d]
    subst_eqs
    have m0 := o.m
    have m1 := o.m'
    obtain ⟨mk, em⟩ := Int.eq_ofNat_of_zero_le m0
    rw [show p.m + 1 = ((mk + 1 : Nat) : Int) by omega, rng_nat (mk + 1) (by omega)]
    subst_eqs
    refine wS_for (I := fun k ρ h' => ∃ kn kvs c3 c7, Kno p kn kvs ∧ kvs.length ≤ 10 * k ∧ (∀ c : Com, c.may p → c.n < k → kn c) ∧ ρ = [.val p.d, .val (.lst (sgn ws)), .own (.dic kvs), c3, .un, .un, .un, c7, .un] ∧ h' = h) (n := 0)
      ⟨_, [], .un, .un, Kno.none, Nat.zero_le _, fun c hc hl => (by have := hc.2.1; omega), rfl, rfl⟩ ?_ ?_
    · rintro k d ρ h' ek ⟨kn, kvs, c3, c7, hk, hl, hc, rfl, rfl⟩
      rw [Nat.zero_add] at *
      have hk1 : k < mk + 1 := by simpa using (List.getElem?_eq_some_iff.mp ek).1
      have ed : d = .int (k : Int) := by
        rw [List.getElem?_map, List.getElem?_range hk1] at ek
        exact (Option.some.inj ek).symm
      subst ed
      and_intros
      refine ⟨by decide, by decide, by decide, by decide, ?_⟩
      have s0 : (⟨[], (k : Int)⟩ : Com).may p := ⟨.inl rfl, by simp only; omega, by simp only; omega⟩
      refine word_wF (c := ⟨[], (k : Int)⟩) (s0.small o) ?_
      rw [put_w (by omega)]
      subst_vars
      simp only [SP.d]
      subst_eqs
      simp only [dints, itemsD, wO_some]
      refine wS_for (I := fun j ρ h'' => ∃ kn' kvs' c7', Kno p kn' kvs' ∧ kvs'.length ≤ 10 * k + 1 + j ∧ (∀ c : Com, c.may p → (c.n < k ∨ c.n = k ∧ (c.f = [] ∨ ∃ x ∈ p.l1.take j, c.f = [x])) → kn' c) ∧ ρ = [.val p.d, .val (.lst (sgn ws)), .own (.dic kvs'), .val (.int k), .un, .un, .un, c7', .un] ∧ h'' = h') (n := 0)
        ⟨_, _, c7, hk.put o s0, by have := put_len (k := .inr (SX.S (wl ⟨[], (k : Int)⟩))) (y := (⟨[], (k : Int)⟩ : Com).d) (kvs := kvs); omega, ?_, rfl, rfl⟩ ?_ ?_
      · rintro ⟨f, n⟩ hm (hlt | ⟨rfl, rfl | ⟨x, hx, _⟩⟩)
        · exact .inl (hc _ hm hlt)
        · exact .inr rfl
        · simp at hx
      · rintro j d ρ h'' ej ⟨kn', kvs', c7', hk', hl', hc', rfl, rfl⟩
        rw [Nat.zero_add] at *
        have hj : j < p.l1.length := by simpa using (List.getElem?_eq_some_iff.mp ej).1
        have ed : d = .int p.l1[j] := by
          rw [List.getElem?_map, List.getElem?_eq_getElem hj] at ej
          exact (Option.some.inj ej).symm
        subst ed
        have hlen := cho_len o.c1
        and_intros
        refine ⟨by simp, by simp, by simp, by simp, ?_⟩
        have s1 : (⟨[p.l1[j]], (k : Int)⟩ : Com).may p := ⟨.inr ⟨_, rfl, List.getElem_mem hj⟩, by simp only; omega, by simp only; omega⟩
        refine word_wF (c := ⟨[p.l1[j]], (k : Int)⟩) (s1.small o) ?_
        rw [put_w (by omega)]
        simp only [wO_some]
        refine ⟨_, _, _, hk'.put o s1, by have := put_len (k := .inr (SX.S (wl ⟨[p.l1[j]], (k : Int)⟩))) (y := (⟨[p.l1[j]], (k : Int)⟩ : Com).d) (kvs := kvs'); omega, ?_, rfl, trivial⟩
        rintro ⟨f, n⟩ hm (hlt | ⟨rfl, rfl | ⟨x, hx, hf⟩⟩)
        · exact .inl (hc' _ hm (.inl hlt))
        · exact .inl (hc' _ hm (.inr ⟨rfl, .inl rfl⟩))
        · simp only at hf
          subst hf
          rw [List.take_succ, List.getElem?_eq_getElem hj] at hx
          rcases List.mem_append.mp hx with hx | hx
          · exact .inl (hc' _ hm (.inr ⟨rfl, .inr ⟨x, hx, rfl⟩⟩))
          · simp only [Option.toList_some, List.mem_singleton] at hx
            subst hx
            exact .inr rfl
      · rintro ρ h'' ⟨kn', kvs', c7', hk', hl', hc', rfl, rfl⟩
        rw [List.length_map, Nat.zero_add] at hl' hc'
        have hlen := cho_len o.c1
        refine ⟨kn', kvs', _, _, hk', by omega, fun c hm hlt => hc' c hm ?_, rfl, rfl⟩
        by_cases e : c.n < k
        · exact .inl e
        · refine .inr ⟨by omega, ?_⟩
          rw [List.take_length]
          rcases hm.1 with q | ⟨x, q1, q2⟩
          · exact .inl q
          · exact .inr ⟨x, q2, q1⟩
    · rintro ρ h' ⟨kn, kvs, c3, c7, hk, hl, hc, rfl, rfl⟩
      simp only [List.length_map, List.length_range, Nat.zero_add] at hl hc
      have hall : ∀ w c, look p w = some c → kn c := fun w c e => hc c (wl_look e).2 (by have := (wl_look e).2.2.2; omega)
      subst_vars
      refine ⟨by decide, ?_⟩
      subst_vars
      simp only [lstD, Option.map_some, wO_some]
      refine wS_for (I := fun i ρ h'' => ∃ acc c5 c6 c8, acc.length = i ∧ ρ = [.val p.d, .val (.lst (sgn ws)), .own (.dic kvs), c3, .own (rowD acc), c5, c6, c7, c8] ∧ h'' = h' ∧ goR p (ws.drop i) i acc = rowR p ws) (n := 0)
        ⟨[], .un, .un, .un, rfl, rfl, rfl, by rw [er]; rfl⟩ ?_ ?_
      · rintro i d ρ h' ei ⟨acc, c5, c6, c8, ha, rfl, rfl, hg⟩
        rw [Nat.zero_add] at *
        have hi : i < ws.length := by
          have := (List.getElem?_eq_some_iff.mp ei).1
          rw [enumD_len, sgn_len] at this
          exact this
        have es : (sgn ws)[i]? = some (.str (SX.S ws[i])) := by rw [sgn, List.getElem?_map, List.getElem?_eq_getElem hi]; rfl
        have ed := enumD_get (sgn ws) 0 i es
        rw [ei, Nat.zero_add] at ed
        cases ed
        and_intros
        refine ⟨rfl, ?_⟩
        rw [get_w]
        subst_vars
        rw [List.drop_eq_getElem_cons hi] at hg
        unfold goR at hg
        rcases hk ws[i] with ⟨k1, k2⟩ | ⟨c, k1, k2, k3⟩
        · have e0 : lk p ws[i] = none := by
            unfold lk
            cases e : look p ws[i] with
            | none => rfl
            | some c => exact absurd (hall _ _ e) (k2 c e)
          rw [e0] at hg
          rw [k1]
          simp only [Option.getD_none]
          subst_eqs
          refine ⟨by decide, ?_, trivial⟩
          rw [← hg]
          rfl
        · rw [k3]
          simp only [Option.getD_some, com_nn, if_false, Bool.false_eq_true]
          simp only [show dIx c.d (.int 0) = some (dints c.f) from ix0, wO_some]
          simp only [dints, SP.d]
          subst_eqs
          rw [List.length_map]
          by_cases hl : p.g < (c.f.length : Int)
          · have e0 : lk p ws[i] = none := by
              unfold lk
              rw [k1, Option.bind_some, if_neg (by omega)]
            rw [e0] at hg
            rw [decide_eq_true hl]
            simp only [if_true]
            refine ⟨by decide, ?_, trivial⟩
            rw [← hg]
            rfl
          · have e0 : lk p ws[i] = some c := by
              unfold lk
              rw [k1, Option.bind_some, if_pos (by omega)]
            rw [e0] at hg
            simp only at hg
            rw [decide_eq_false hl]
            simp only [if_false, Bool.false_eq_true]
            by_cases h2 : i = 200
            · rw [if_pos h2] at hg
              rw [decide_eq_true (show (i : Int) = 200 by omega)]
              simp only [if_true]
              refine ⟨by decide, ?_, trivial⟩
              rw [← hg]
              rfl
            · rw [if_neg h2] at hg
              rw [decide_eq_false (show ¬ (i : Int) = 200 by omega)]
              simp only [if_false, Bool.false_eq_true]
              subst_vars
              refine ⟨rfl, ?_⟩
              rw [app_row (by omega)]
              simp only [wO_some]
              exact ⟨acc ++ [c], _, _, _, by rw [List.length_append, ha]; rfl, rfl, trivial, hg⟩
      · rintro ρ h' ⟨acc, c5, c6, c8, ha, rfl, rfl, hg⟩
        rw [enumD_len, sgn_len, Nat.zero_add] at hg
        rw [List.drop_eq_nil_of_le (Nat.le_refl _)] at hg
        subst_vars
        subst_vars
        refine ⟨by decide, ?_, trivial⟩
        rw [← hg]
        rfl
end K84
end

section
set_option Elab.async false
set_option linter.all false
set_option maxRecDepth 100000
set_option maxHeartbeats 1000000
namespace K84
open PySem PV
def grpD (l : List (List Int)) : D := .lst (l.map dints)
def fgrp : D → D := fun d => .tup [d]
theorem ext_row {a b : List Com} (h : a.length + b.length ≤ 16777216) : fExtend (rowD a) [rowD b] = some (rowD (a ++ b)) := by
  show (if (a.map Com.d).length + (b.map Com.d).length ≤ 16777216 then some (D.lst (a.map Com.d ++ b.map Com.d)) else none) = _
  rw [List.length_map, List.length_map, if_pos h, rowD, List.map_append]
theorem comers_of_ok {p : SP} (o : p.ok) {h : Hh} : wN (m_comers_of [p.d] h) (fun d h' => h' = h ∧ ∃ cs : List Com, d = rowD cs ∧ ∀ c : Com, c.ok p → c ∈ cs) noX := by
  unfold m_comers_of
  refine wN_fn rfl ?_
  and_intros
  simp only [SP.d]
  refine ⟨by decide, by decide, ?_⟩
  have m0 := o.m
  have m1 := o.m'
  have g0 := o.g
  have g1 := o.g'
  obtain ⟨mk, em⟩ := Int.eq_ofNat_of_zero_le m0
  have hlen := cho_len o.c1
  have rest : ∀ gs : List (List Int), gs.length ≤ 10 → (∀ c : Com, c.ok p → c.f ∈ gs) → wS ((sSeq (sOwn 2 (eLst (eNil))) <|
  sSeq (sFor (eItems (eVar 1)) (tgV 3) (sMut (plChk isL (plC 2)) (eCons (eLc [5] (eRng1 (eCons (eOp dAdd (eOp dIx (eOp dIx (eVar 0) (eRet (.int 3))) (eRet (.int 1))) (eRet (.int 1))) (eNil))) (tgV 5) (bYes) (eTup (eCons (eVar 3) (eCons (eVar 5) (eNil))))) eNil) fExtend)) <|
  sRetO 2) [.val p.d, .val (grpD gs), .un, .un, .un, .un] h) (finN fun d h' => h' = h ∧ ∃ cs : List Com, d = rowD cs ∧ ∀ c : Com, c.ok p → c ∈ cs) (fun c p x h1 => noX c p h1) := by
    intro gs hz hgs
    and_intros
    refine ⟨by decide, ?_⟩
    subst_vars
    simp only [grpD, itemsD, wO_some]
    refine wS_for (I := fun i ρ h' => ∃ cs c3 c5, cs.length ≤ 10 * i ∧ (∀ c : Com, c.ok p → c.f ∈ gs.take i → c ∈ cs) ∧ ρ = [.val p.d, .val (grpD gs), .own (rowD cs), c3, .un, c5] ∧ h' = h) (n := 0) ⟨[], .un, .un, Nat.le_refl _, fun c _ m => by simp at m, rfl, rfl⟩ ?_ ?_
    · rintro i d ρ h' ei ⟨cs, c3, c5, hl, hc, rfl, rfl⟩
      rw [Nat.zero_add] at *
      have hi : i < gs.length := by simpa using (List.getElem?_eq_some_iff.mp ei).1
      have ed : d = dints gs[i] := by
        rw [List.getElem?_map, List.getElem?_eq_getElem hi] at ei
        exact (Option.some.inj ei).symm
      subst ed
      and_intros
      refine ⟨rfl, ?_⟩
      simp only [SP.d]
      subst_eqs
      rw [show p.m + 1 = ((mk + 1 : Nat) : Int) by omega, rng_nat (mk + 1) (by omega)]
      subst_eqs
      refine wE_lcMap (f := fun d => .tup [dints gs[i], d]) (by rw [List.length_map, List.length_range]; omega) (fun d m => ?_) ?_
      · and_intros
        refine ⟨by simp, ?_⟩
        exact ⟨trivial, trivial⟩
      · have e : D.lst (((List.range (mk + 1)).map fun i => D.int ((i : Nat) : Int)).map fun d => D.tup [dints gs[i], d]) = rowD ((List.range (mk + 1)).map fun n : Nat => (⟨gs[i], (n : Int)⟩ : Com)) := by
          rw [rowD, List.map_map, List.map_map]; rfl
        rw [e, ext_row (by rw [List.length_map, List.length_range]; omega)]
        simp only [wO_some]
        refine ⟨cs ++ (List.range (mk + 1)).map fun n : Nat => (⟨gs[i], (n : Int)⟩ : Com), _, _, by rw [List.length_append, List.length_map, List.length_range]; omega, ?_, rfl, trivial⟩
        intro c oc mc
        rw [List.take_succ, List.getElem?_eq_getElem hi] at mc
        rcases List.mem_append.mp mc with mc | mc
        · exact List.mem_append_left _ (hc c oc mc)
        · simp only [Option.toList_some, List.mem_singleton] at mc
          refine List.mem_append_right _ (List.mem_map.mpr ⟨c.n.toNat, List.mem_range.mpr ?_, ?_⟩)
          · have := oc.1.2.1; have := oc.1.2.2; omega
          · have := oc.1.2.1
            obtain ⟨f, n⟩ := c
            simp only at mc this
            rw [mc, show ((n.toNat : Nat) : Int) = n by omega]
    · rintro ρ h' ⟨cs, c3, c5, hl, hc, rfl, rfl⟩
      rw [List.length_map, Nat.zero_add] at hc
      subst_vars
      refine ⟨trivial, cs, rfl, fun c oc => hc c oc ?_⟩
      rw [List.take_length]
      exact hgs c oc
  subst_vars
  by_cases hg : 0 < p.g
  · rw [decide_eq_true hg]
    simp only [if_true, dints, itemsD, wO_some]
    refine wE_lcMap (f := fgrp) (by rw [List.length_map]; omega) (fun d m => ?_) ?_
    · and_intros
      refine ⟨by simp, ?_⟩
      exact ⟨rfl, trivial⟩
    · have e : dCat (.lst [.tup []]) (.lst ((p.l1.map D.int).map fgrp)) = some (grpD ([] :: p.l1.map fun x => [x])) := by
        show (if 1 + ((p.l1.map D.int).map fgrp).length ≤ 16777216 then some (D.lst ([.tup []] ++ (p.l1.map D.int).map fgrp)) else none) = _
        rw [List.length_map, List.length_map, if_pos (by omega), grpD, List.map_cons, List.map_map, List.map_map]
        rfl
      rw [e]
      simp only [wO_some]
      rw [sq_next]
      refine rest _ (by rw [List.length_cons, List.length_map]; omega) fun c oc => ?_
      rcases oc.1.1 with q | ⟨x, q, hx⟩
      · rw [q]; simp
      · rw [q]; simp [hx]
  · rw [decide_eq_false hg]
    simp only [if_false, Bool.false_eq_true]
    rw [sq_next]
    refine rest [[]] (by decide) fun c oc => ?_
    rcases oc.1.1 with q | ⟨x, q, hx⟩
    · rw [q]; simp
    · have := oc.2
      rw [q] at this
      simp only [List.length_cons, List.length_nil] at this
      omega
theorem all_comers_ok {p : SP} (o : p.ok) {h : Hh} : wN (m_all_comers [p.d] h) (fun d h' => h' = h ∧ ∃ cs : List Com, d = rowD cs ∧ ∀ c : Com, c.ok p → c ∈ cs) noX := by
  unfold m_all_comers
  refine wN_fn rfl ?_
  and_intros
  refine need_ok o ?_
  subst_vars
  exact comers_of_ok o
end K84
end

section
set_option Elab.async false
set_option linter.all false
set_option maxRecDepth 100000
set_option maxHeartbeats 1000000
namespace K84
open PySem PV
theorem cut_sp {l : List Nat} (h : 32 ∈ l) : ∃ a b, l = a ++ 32 :: b ∧ 32 ∉ a := by
  induction l with
  | nil => cases h
  | cons c l ih =>
    by_cases e : c = 32
    · subst e; exact ⟨[], l, rfl, by simp⟩
    · obtain ⟨a, b, rfl, hn⟩ := ih (by simpa [Ne.symm e] using h)
      exact ⟨c :: a, b, rfl, by simp [hn, Ne.symm e]⟩
theorem spl_parts : ∀ (n : Nat) (x : List Nat), x.length ≤ n → TL.spl [32] 0 [] x ≠ [] ∧ (∀ w ∈ TL.spl [32] 0 [] x, 32 ∉ w ∧ w.length ≤ x.length) ∧ (TL.spl [32] 0 [] x).length = x.count 32 + 1
  | n, x, hn => by
    by_cases h : 32 ∈ x
    · obtain ⟨a, b, rfl, ha⟩ := cut_sp h
      rw [List.length_append, List.length_cons] at hn
      have e : TL.spl [32] 0 [] (a ++ 32 :: b) = a :: TL.spl [32] 0 [] b := by
        have := TL.spl_part1 (s := 32) (S := []) (acc := []) (rest := b) ha
        rw [List.nil_append] at this
        exact this
      match n, hn with
      | n + 1, hn =>
        obtain ⟨i1, i2, i3⟩ := spl_parts n b (by omega)
        rw [e]
        refine ⟨List.cons_ne_nil _ _, fun w hw => ?_, ?_⟩
        · rw [List.length_append, List.length_cons]
          rcases List.mem_cons.mp hw with rfl | hw
          · exact ⟨ha, by omega⟩
          · have := i2 w hw
            exact ⟨this.1, by omega⟩
        · rw [List.length_cons, i3, List.count_append, List.count_cons_self, List.count_eq_zero.mpr ha]
          omega
    · have e : TL.spl [32] 0 [] x = [x] := by
        have := TL.spl_last1 (s := 32) (S := []) (acc := []) h
        rw [List.nil_append] at this
        exact this
      rw [e]
      refine ⟨List.cons_ne_nil _ _, fun w hw => ?_, ?_⟩
      · rw [List.mem_singleton.mp hw]; exact ⟨h, Nat.le_refl _⟩
      · rw [List.count_eq_zero.mpr h]; rfl
theorem spl_note {ws : List (List Nat)} (h0 : ws ≠ []) (h : ∀ w ∈ ws, 32 ∉ w) : TL.spl [32] 0 [] (noteL ws) = ws := SX.spl_join h0 h
theorem note_len : ∀ {ws : List (List Nat)} {b : Nat}, (∀ w ∈ ws, w.length ≤ b) → (noteL ws).length ≤ ws.length * (b + 1)
  | [], b, h => by simp [noteL, TL.joinL]
  | [w], b, h => by
    have := h w (by simp)
    show w.length ≤ 1 * (b + 1)
    omega
  | w :: v :: r, b, h => by
    have h1 := h w (by simp)
    have ih := note_len (ws := v :: r) (b := b) fun x m => h x (by simp [List.mem_cons.mp m])
    show (w ++ ([32] ++ noteL (v :: r))).length ≤ _
    rw [List.length_append, List.length_append]
    simp only [List.length_cons, List.length_nil, Nat.add_mul] at ih ⊢
    omega
theorem note_sp : ∀ {ws : List (List Nat)}, (noteL ws).count 32 + 1 ≤ (ws.map fun w => w.count 32).sum + ws.length + 1
  | [] => by simp [noteL, TL.joinL]
  | [w] => by
    show w.count 32 + 1 ≤ (w.count 32 + 0) + 1 + 1
    omega
  | w :: v :: r => by
    have ih := note_sp (ws := v :: r)
    show (w ++ ([32] ++ noteL (v :: r))).count 32 + 1 ≤ _
    rw [List.count_append, List.count_append]
    simp only [List.map_cons, List.sum_cons, List.length_cons, List.count_cons_self, List.count_nil] at ih ⊢
    omega
end K84
end

section
set_option Elab.async false
set_option linter.all false
set_option maxRecDepth 100000
set_option maxHeartbeats 1000000
namespace K84
open PySem PV
/-- a word of at most b signs, two blanks at most -/
def GW (b : Nat) (w : List Nat) : Prop := w.length ≤ b ∧ w.count 32 ≤ 2
def gwB (d : D) : Bool := match d with
  | .str x => decide (x.cps.toList.length ≤ 6) && decide (x.cps.toList.count 32 ≤ 2)
  | _ => false
theorem at_all {l : List D} {i : Int} {Q : D → Prop} (h : l.all gwB = true) (h0 : 0 ≤ i) (h1 : i < l.length) (k : ∀ w, GW 6 w → Q (.str (SX.S w))) : wO (L2.atI l i) Q := by
  obtain ⟨j, rfl⟩ := Int.eq_ofNat_of_zero_le h0
  have lt : j < l.length := by omega
  rw [ix_nat, List.getElem?_eq_getElem lt]
  have z := List.all_eq_true.mp h _ (List.getElem_mem lt)
  revert z
  cases l[j] with
  | str x =>
    intro z
    simp only [gwB, Bool.and_eq_true, decide_eq_true_eq] at z
    have := k x.cps.toList z
    rw [SX.S_tl] at this
    exact this
  | _ => intro z; cases z
theorem odd_ok {u n : Nat} {h : Hh} (hn : n < 999999900) (U : Urn u n h) : wF (m_law_odd [.obj u] h) (fun d h' => ∃ w, d = .str (SX.S w) ∧ GW 6 w ∧ Urn u (n + 1) h') noX := by
  unfold m_law_odd
  refine wF_fn rfl ?_
  and_intros
  refine ⟨by decide, ?_⟩
  subst_vars
  refine ⟨by decide, ?_⟩
  simp only [dCat]
  rw [if_pos (by simp)]
  subst_vars
  refine (draw_ok u n _ h (by simp) (by simp) (by omega) U).imp ?_
  rintro d h1 ⟨i, rfl, i0, i1, U1⟩
  subst_eqs
  exact at_all (by kernel_rfl) i0 i1 fun w hw => ⟨w, rfl, hw, U1⟩
def cutL (L : List (List Nat)) (lo hi : Option Int) : List (List Nat) := (L.drop (HT.sIx L.length 0 lo)).take (HT.sIx L.length L.length hi - HT.sIx L.length 0 lo)
theorem cut_sgn {L : List (List Nat)} {lo hi : Option Int} : dSl (.lst (sgn L)) lo hi = some (.lst (sgn (cutL L lo hi))) := by
  show some (D.lst (((sgn L).drop (HT.sIx (sgn L).length 0 lo)).take (HT.sIx (sgn L).length (sgn L).length hi - HT.sIx (sgn L).length 0 lo))) = _
  rw [sgn_len]
  simp only [sgn, cutL, List.map_take, List.map_drop]
theorem cat_sgn {A B : List (List Nat)} (h : A.length + B.length ≤ 16777216) : dCat (.lst (sgn A)) (.lst (sgn B)) = some (.lst (sgn (A ++ B))) := by
  show (if (sgn A).length + (sgn B).length ≤ 16777216 then some (D.lst (sgn A ++ sgn B)) else none) = _
  rw [sgn_len, sgn_len, if_pos h]
  simp only [sgn, List.map_append]
theorem rev_sgn {A : List (List Nat)} : dRev (.lst (sgn A)) = some (.lst (sgn A.reverse)) := by
  show some (D.lst (sgn A).reverse) = _
  simp only [sgn, List.map_reverse]
theorem one_sgn {w : List Nat} : D.lst [.str (SX.S w)] = .lst (sgn [w]) := rfl
def GL (b n : Nat) (L : List (List Nat)) : Prop := L.length ≤ n ∧ ∀ w ∈ L, GW b w
theorem GL.cut {b n : Nat} {L : List (List Nat)} {lo hi : Option Int} (h : GL b n L) : GL b n (cutL L lo hi) := by
  refine ⟨?_, fun w m => h.2 w (List.mem_of_mem_drop (List.mem_of_mem_take m))⟩
  unfold cutL
  rw [List.length_take, List.length_drop]
  have := h.1
  omega
theorem GL.app {b n m : Nat} {A B : List (List Nat)} (h : GL b n A) (g : GL b m B) : GL b (n + m) (A ++ B) := by
  refine ⟨by rw [List.length_append]; have := h.1; have := g.1; omega, fun w m => ?_⟩
  rcases List.mem_append.mp m with m | m
  · exact h.2 w m
  · exact g.2 w m
theorem GL.rev {b n : Nat} {A : List (List Nat)} (h : GL b n A) : GL b n A.reverse := ⟨by rw [List.length_reverse]; exact h.1, fun w m => h.2 w (List.mem_reverse.mp m)⟩
theorem GL.one {b : Nat} {w : List Nat} (h : GW b w) : GL b 1 [w] := ⟨Nat.le_refl _, fun v m => by rw [List.mem_singleton.mp m]; exact h⟩
theorem GW.mono {a b : Nat} {w : List Nat} (h : GW a w) (l : a ≤ b) : GW b w := ⟨Nat.le_trans h.1 l, h.2⟩
theorem GL.mono {a b n m : Nat} {A : List (List Nat)} (h : GL a n A) (l : a ≤ b) (k : n ≤ m) : GL b m A := ⟨Nat.le_trans h.1 k, fun w x => (h.2 w x).mono l⟩
end K84
end

section
set_option Elab.async false
set_option linter.all false
set_option maxRecDepth 100000
set_option maxHeartbeats 1000000
namespace K84
open PySem PV
def gcB (d : D) : Bool := match d with
  | .str x => decide (x.cps.toList.length ≤ 1) && decide (x.cps.toList.count 32 = 0)
  | _ => false
theorem at_sign {l : List D} {i : Int} {Q : D → Prop} (h : l.all gcB = true) (h0 : 0 ≤ i) (h1 : i < l.length) (k : ∀ w : List Nat, w.length ≤ 1 → w.count 32 = 0 → Q (.str (SX.S w))) : wO (L2.atI l i) Q := by
  obtain ⟨j, rfl⟩ := Int.eq_ofNat_of_zero_le h0
  have lt : j < l.length := by omega
  rw [ix_nat, List.getElem?_eq_getElem lt]
  have z := List.all_eq_true.mp h _ (List.getElem_mem lt)
  revert z
  cases l[j] with
  | str x =>
    intro z
    simp only [gcB, Bool.and_eq_true, decide_eq_true_eq] at z
    have := k x.cps.toList z.1 z.2
    rw [SX.S_tl] at this
    exact this
  | _ => intro z; cases z
theorem sl_to {w : List Nat} (hz : w.length ≤ 16777216) (k : Nat) : dSl (.str (SX.S w)) none (some (k : Int)) = some (.str (SX.S (w.take k))) := by
  show (if (SX.S w).length ≤ 16777216 then some (D.str (L2.cutS (SX.S w) none (some (k : Int)))) else none) = _
  rw [if_pos (by rw [SX.S_len]; exact hz)]
  have e : L2.cutS (SX.S w) none (some (k : Int)) = SX.S (w.take k) := by
    show SX.S ((w.drop (HT.sIx (SX.S w).length 0 none)).take (HT.sIx (SX.S w).length (SX.S w).length (some (k : Int)) - HT.sIx (SX.S w).length 0 none)) = _
    rw [HT.sIx_none, HT.sIx_nat, SX.S_len, List.drop_zero, Nat.sub_zero]
    by_cases h : k ≤ w.length
    · rw [Nat.min_eq_left h]
    · rw [Nat.min_eq_right (by omega), List.take_length, List.take_of_length_le (by omega)]
  rw [e]
theorem sl_from {w : List Nat} (hz : w.length ≤ 16777216) (k : Nat) : dSl (.str (SX.S w)) (some (k : Int)) none = some (.str (SX.S (w.drop k))) := by
  show (if (SX.S w).length ≤ 16777216 then some (D.str (L2.cutS (SX.S w) (some (k : Int)) none)) else none) = _
  rw [if_pos (by rw [SX.S_len]; exact hz)]
  have e : L2.cutS (SX.S w) (some (k : Int)) none = SX.S (w.drop k) := by
    show SX.S ((w.drop (HT.sIx (SX.S w).length 0 (some (k : Int)))).take (HT.sIx (SX.S w).length (SX.S w).length none - HT.sIx (SX.S w).length 0 (some (k : Int)))) = _
    rw [HT.sIx_none, HT.sIx_nat, SX.S_len]
    by_cases h : k ≤ w.length
    · rw [Nat.min_eq_left h, List.take_of_length_le (by rw [List.length_drop]; exact Nat.le_refl _)]
    · rw [Nat.min_eq_right (by omega), List.drop_length, List.drop_of_length_le (by omega), List.take_nil]
  rw [e]
theorem add_S {a b : List Nat} (h : a.length + b.length ≤ 16777216) : dAdd (.str (SX.S a)) (.str (SX.S b)) = some (.str (SX.S (a ++ b))) := by
  show (if (SX.S a).length + (SX.S b).length ≤ 16777216 then some (D.str (SX.S a ++ SX.S b)) else none) = _
  rw [SX.S_len, SX.S_len, if_pos h, SX.S_cat]
theorem bend_word {b k d : Nat} {w c : List Nat} (h : GW b w) (hc : c.length ≤ 1) (hc0 : c.count 32 = 0) : GW (2 * b + 1) (w.take k ++ c ++ w.drop (k + d)) := by
  refine ⟨?_, ?_⟩
  · rw [List.length_append, List.length_append, List.length_take, List.length_drop]
    have := h.1
    omega
  · rw [List.count_append, List.count_append, hc0]
    have e : w.count 32 = (w.take k).count 32 + (w.drop k).count 32 := by rw [← List.count_append, List.take_append_drop]
    have e2 : (w.drop (k + d)).count 32 ≤ (w.drop k).count 32 := by
      rw [← List.drop_drop]
      exact (List.drop_sublist d _).count_le _
    have := h.2
    omega
end K84
end

section
set_option Elab.async false
set_option linter.all false
set_option maxRecDepth 100000
set_option maxHeartbeats 1000000
namespace K84
open PySem PV
theorem GL.cat {b n m : Nat} {A B : List (List Nat)} (h : GL b n A) (g : GL b m B) (hz : n + m ≤ 1000) : dCat (.lst (sgn A)) (.lst (sgn B)) = some (.lst (sgn (A ++ B))) := by
  have := h.1
  have := g.1
  exact cat_sgn (by omega)
theorem GL.join {b n : Nat} {L : List (List Nat)} (h : GL b n L) (hz : n * (b + 1) ≤ 16777216) : dJoin (.str (" " : Str)) (.lst (sgn L)) = some (.str (SX.S (noteL L))) := by
  refine join_sp (fun w m => (h.2 w m).1) (Nat.le_trans (Nat.mul_le_mul_right _ h.1) hz)
theorem sum_sp {b : Nat} : ∀ {L : List (List Nat)}, (∀ w ∈ L, GW b w) → (L.map fun w => w.count 32).sum ≤ 2 * L.length
  | [], h => by simp
  | w :: L, h => by
    have h1 := (h w (by simp)).2
    have h2 := sum_sp (L := L) fun x m => h x (by simp [m])
    simp only [List.map_cons, List.sum_cons, List.length_cons]
    omega
theorem cut_to {L : List (List Nat)} {a : Nat} : cutL L none (some (a : Int)) = L.take a := by
  unfold cutL
  rw [HT.sIx_none, HT.sIx_nat, List.drop_zero, Nat.sub_zero]
  by_cases h : a ≤ L.length
  · rw [Nat.min_eq_left h]
  · rw [Nat.min_eq_right (by omega), List.take_length, List.take_of_length_le (by omega)]
theorem cut_from {L : List (List Nat)} {a : Nat} : cutL L (some (a : Int)) none = L.drop a := by
  unfold cutL
  rw [HT.sIx_none, HT.sIx_nat]
  by_cases h : a ≤ L.length
  · rw [Nat.min_eq_left h, List.take_of_length_le (by rw [List.length_drop]; exact Nat.le_refl _)]
  · rw [Nat.min_eq_right (by omega), List.drop_length, List.drop_of_length_le (by omega), List.take_nil]
theorem cut_mid {L : List (List Nat)} {a k : Nat} : cutL L (some (a : Int)) (some ((a + k : Nat) : Int)) = (L.drop a).take k := by
  unfold cutL
  rw [HT.sIx_nat, HT.sIx_nat]
  by_cases h : a + k ≤ L.length
  · rw [Nat.min_eq_left h, Nat.min_eq_left (by omega), Nat.add_sub_cancel_left]
  · rw [Nat.min_eq_right (by omega)]
    by_cases h2 : a ≤ L.length
    · rw [Nat.min_eq_left h2, List.take_of_length_le (by rw [List.length_drop]; exact Nat.le_refl _), List.take_of_length_le (by rw [List.length_drop]; omega)]
    · rw [Nat.min_eq_right (by omega), List.drop_length, List.drop_of_length_le (show L.length ≤ a by omega), List.take_nil, List.take_nil]
theorem nsucc {a k : Nat} : (a : Int) + ((k : Nat) : Int) = ((a + k : Nat) : Int) := by omega
theorem GL.to {b n a : Nat} {L : List (List Nat)} (h : GL b n L) : GL b a (L.take a) := ⟨by rw [List.length_take]; omega, fun w m => h.2 w (List.mem_of_mem_take m)⟩
theorem GL.from {b n a : Nat} {L : List (List Nat)} (h : GL b n L) : GL b (L.length - a) (L.drop a) := ⟨by rw [List.length_drop]; omega, fun w m => h.2 w (List.mem_of_mem_drop m)⟩
theorem GL.mid {b n a k : Nat} {L : List (List Nat)} (h : GL b n L) : GL b (min k (L.length - a)) ((L.drop a).take k) := ⟨by rw [List.length_take, List.length_drop]; omega, fun w m => h.2 w (List.mem_of_mem_drop (List.mem_of_mem_take m))⟩
/-- what is split again -/
def Spl (vs : List (List Nat)) : Prop := vs ≠ [] ∧ vs.length < 290 ∧ ∀ w ∈ vs, 32 ∉ w ∧ w.length ≤ 50000
theorem GL.spl {b n : Nat} {L : List (List Nat)} (h : GL b n L) (hn : n ≤ 60) (hb : b ≤ 500) : (noteL L).length ≤ 30060 ∧ Spl (TL.spl [32] 0 [] (noteL L)) := by
  have l1 := note_len (ws := L) (b := b) fun w m => (h.2 w m).1
  have l2 : L.length * (b + 1) ≤ 60 * 501 := Nat.mul_le_mul (by have := h.1; omega) (by omega)
  obtain ⟨s1, s2, s3⟩ := spl_parts _ (noteL L) (Nat.le_refl _)
  have s4 := note_sp (ws := L)
  have s5 := sum_sp h.2
  have := h.1
  refine ⟨by omega, s1, by omega, fun w m => ⟨(s2 w m).1, ?_⟩⟩
  have := (s2 w m).2
  omega
theorem bent_ok {u n : Nat} {h : Hh} {ws : List (List Nat)} (hg : GL 4 20 ws) (hn : n < 999999800) (U : Urn u n h) :
    wN (m_law_bent [.obj u, .lst (sgn ws)] h) (fun d h' => ∃ vs, d = .lst (sgn vs) ∧ Spl vs ∧ Urn u (n + 40) h') noX := by
  unfold m_law_bent
  refine wN_fn rfl ?_
  and_intros
  subst_eqs
  subst_vars
  refine (draw_ok u n 3 h (by omega) (by omega) (by omega) U).imp ?_
  rintro d h1 ⟨k, rfl, k0, k1, U1⟩
  obtain ⟨k, rfl⟩ := Int.eq_ofNat_of_zero_le k0
  subst_eqs
  rw [rng_nat k (by omega)]
  subst_eqs
  refine wS_for (I := fun i ρ h' => ∃ L c3 c4 c5 c6 c7, GL (10 * 3 ^ i) (20 + 3 * i) L ∧ ρ = [.val (.obj u), .val (.lst (sgn ws)), .val (.lst (sgn L)), c3, c4, c5, c6, c7] ∧ Urn u (n + 1 + 10 * i) h') (n := 0)
    ⟨ws, .un, .un, .un, .un, .un, hg.mono (by decide) (by omega), rfl, U1⟩ ?_ ?_
  · rintro i d ρ h' ei ⟨L, c3, c4, c5, c6, c7, hL, rfl, V⟩
    rw [Nat.zero_add] at *
    have hi : i < 2 := by
      have := (List.getElem?_eq_some_iff.mp ei).1
      simp at this
      omega
    have hb : 10 * 3 ^ i ≤ 30 ∧ 10 * 3 ^ (i + 1) = 3 * (10 * 3 ^ i) ∧ 10 ≤ 10 * 3 ^ i := by
      rw [Nat.pow_succ]
      rcases (show i = 0 ∨ i = 1 by omega) with rfl | rfl <;> decide
    rw [hb.2.1]
    generalize 10 * 3 ^ i = b at *
    obtain ⟨hb1, _, hb2⟩ := hb
    have hl := hL.1
    and_intros
    subst_eqs
    rw [sgn_len]
    refine (draw_ok u _ _ _ (by omega) (by omega) (by omega) V).imp ?_
    rintro x h2 ⟨a, rfl, a0, a1, U2⟩
    obtain ⟨a, rfl⟩ := Int.eq_ofNat_of_zero_le a0
    subst_eqs
    refine (draw_ok u _ 6 _ (by omega) (by omega) (by omega) U2).imp ?_
    rintro x h3 ⟨w, rfl, w0, w1, U3⟩
    subst_eqs
    subst_vars
    have fin_ : ∀ (M : List (List Nat)) (h' : Hh) (c3 c4 c5 c6 c7 : Cell) (q : Nat), GL (3 * b) (20 + 3 * (i + 1)) M → Urn u q h' → q ≤ n + 1 + 10 * (i + 1) → ∃ L c3' c4' c5' c6' c7', GL (3 * b) (20 + 3 * (i + 1)) L ∧ [Cell.val (.obj u), .val (.lst (sgn ws)), .val (.lst (sgn M)), c3, c4, c5, c6, c7] = [.val (.obj u), .val (.lst (sgn ws)), .val (.lst (sgn L)), c3', c4', c5', c6', c7'] ∧ Urn u (n + 1 + 10 * (i + 1)) h' :=
      fun M h' c3 c4 c5 c6 c7 q g v l => ⟨M, c3, c4, c5, c6, c7, g, rfl, v.mono l⟩
    have n1 : (a : Int) + 1 = ((a + 1 : Nat) : Int) := by omega
    have n2 : (a : Int) + 2 = ((a + 2 : Nat) : Int) := by omega
    have ha : a ≤ L.length := by omega
    by_cases e0 : w = 0
    · rw [decide_eq_true e0]
      simp only [if_true, cut_sgn, cut_to, cut_from, wO_some]
      refine (odd_ok (by omega) U3).imp ?_
      rintro x h4 ⟨v, rfl, gv, U4⟩
      refine ⟨by simp, ?_⟩
      have gv' := GL.one (gv.mono (show 6 ≤ b by omega))
      rw [one_sgn, hL.to.cat gv' (by omega)]
      subst_eqs
      simp only [n1, cut_sgn, cut_to, cut_from, wO_some]
      rw [(hL.to.app gv').cat hL.from (by omega)]
      simp only [wO_some]
      exact fin_ _ _ _ _ _ _ _ _ (((hL.to.app gv').app hL.from).mono (by omega) (by omega)) U4 (by omega)
    · rw [decide_eq_false e0]
      simp only [if_false, Bool.false_eq_true]
      subst_vars
      by_cases e1 : w = 1
      · rw [decide_eq_true e1]
        simp only [if_true, cut_sgn, cut_to, cut_from, wO_some]
        refine (odd_ok (by omega) U3).imp ?_
        rintro x h4 ⟨v, rfl, gv, U4⟩
        refine ⟨by simp, ?_⟩
        have gv' := GL.one (gv.mono (show 6 ≤ b by omega))
        rw [one_sgn, hL.to.cat gv' (by omega)]
        simp only [cut_sgn, cut_to, cut_from, wO_some]
        rw [(hL.to.app gv').cat hL.from (by omega)]
        simp only [wO_some]
        exact fin_ _ _ _ _ _ _ _ _ (((hL.to.app gv').app hL.from).mono (by omega) (by omega)) U4 (by omega)
      · rw [decide_eq_false e1]
        simp only [if_false, Bool.false_eq_true]
        subst_vars
        by_cases e2 : w = 2
        · rw [decide_eq_true e2]
          simp only [if_true, n1, cut_sgn, cut_to, cut_from, wO_some]
          rw [hL.to.cat hL.from (by omega)]
          simp only [wO_some]
          exact fin_ _ _ _ _ _ _ _ _ ((hL.to.app hL.from).mono (by omega) (by omega)) U3 (by omega)
        · rw [decide_eq_false e2]
          simp only [if_false, Bool.false_eq_true]
          subst_vars
          by_cases e3 : w = 3
          · rw [decide_eq_true e3]
            simp only [if_true, n1, cut_sgn, cut_to, cut_from, cut_mid, wO_some]
            rw [hL.to.cat hL.mid (by omega)]
            simp only [wO_some]
            rw [(hL.to.app hL.mid).cat hL.from (by omega)]
            simp only [wO_some]
            exact fin_ _ _ _ _ _ _ _ _ (((hL.to.app hL.mid).app hL.from).mono (by omega) (by omega)) U3 (by omega)
          · rw [decide_eq_false e3]
            simp only [if_false, Bool.false_eq_true]
            subst_vars
            by_cases e4 : w = 4
            · rw [decide_eq_true e4]
              simp only [if_true]
              subst_eqs
              rw [sgn_len]
              by_cases e5 : (a : Int) < (L.length : Nat)
              · rw [decide_eq_true e5]
                simp only [if_true]
                have lt : a < L.length := by omega
                have ew : (sgn L)[a]? = some (.str (SX.S L[a])) := by rw [sgn, List.getElem?_map, List.getElem?_eq_getElem lt]; rfl
                have gw := hL.2 L[a] (List.getElem_mem lt)
                generalize L[a] = v at *
                have gl := gw.1
                simp only [ew, wO_some, d_lenS (show v.length ≤ 16777216 by omega)]
                subst_eqs
                refine (draw_ok u _ _ _ (by omega) (by omega) (by omega) U3).imp ?_
                rintro x h4 ⟨k2, rfl, k0, k1, U4⟩
                obtain ⟨k2, rfl⟩ := Int.eq_ofNat_of_zero_le k0
                subst_eqs
                subst_vars
                rw [sl_to (show v.length ≤ 16777216 by omega)]
                simp only [wO_some]
                refine ⟨by decide, ?_⟩
                refine (draw_ok u _ 5 _ (by omega) (by omega) (by omega) U4).imp ?_
                rintro x h5 ⟨q, rfl, q0, q1, U5⟩
                subst_eqs
                refine at_sign (by kernel_rfl) q0 q1 fun c c0 c1 => ?_
                rw [add_S (by rw [List.length_take]; omega)]
                simp only [wO_some]
                refine (draw_ok u _ 2 _ (by omega) (by omega) (by omega) U5).imp ?_
                rintro x h6 ⟨q2, rfl, q20, q21, U6⟩
                obtain ⟨q2, rfl⟩ := Int.eq_ofNat_of_zero_le q20
                subst_eqs
                rw [nsucc, sl_from (show v.length ≤ 16777216 by omega)]
                simp only [wO_some]
                rw [add_S (by rw [List.length_append, List.length_take, List.length_drop]; omega)]
                simp only [wO_some]
                subst_vars
                have gv' := GL.one (bend_word (k := k2) (d := q2) gw c0 c1)
                simp only [n1, cut_sgn, cut_to, cut_from, wO_some]
                refine ⟨by simp, ?_⟩
                have hL3 := hL.mono (show b ≤ 2 * b + 1 by omega) (Nat.le_refl _)
                rw [one_sgn, hL3.to.cat gv' (by omega)]
                simp only [wO_some]
                rw [(hL3.to.app gv').cat hL3.from (by omega)]
                simp only [wO_some]
                exact fin_ _ _ _ _ _ _ _ _ (((hL3.to.app gv').app hL3.from).mono (by omega) (by omega)) U6 (by omega)
              · rw [decide_eq_false e5]
                simp only [if_false, Bool.false_eq_true]
                subst_eqs
                simp only [n2, cut_sgn, cut_to, cut_from, cut_mid, rev_sgn, wO_some]
                rw [hL.to.cat hL.mid.rev (by omega)]
                simp only [wO_some]
                rw [(hL.to.app hL.mid.rev).cat hL.from (by omega)]
                simp only [wO_some]
                exact fin_ _ _ _ _ _ _ _ _ (((hL.to.app hL.mid.rev).app hL.from).mono (by omega) (by omega)) U3 (by omega)
            · rw [decide_eq_false e4]
              simp only [if_false, Bool.false_eq_true]
              subst_eqs
              simp only [n2, cut_sgn, cut_to, cut_from, cut_mid, rev_sgn, wO_some]
              rw [hL.to.cat hL.mid.rev (by omega)]
              simp only [wO_some]
              rw [(hL.to.app hL.mid.rev).cat hL.from (by omega)]
              simp only [wO_some]
              exact fin_ _ _ _ _ _ _ _ _ (((hL.to.app hL.mid.rev).app hL.from).mono (by omega) (by omega)) U3 (by omega)
  · rintro ρ h' ⟨L, c3, c4, c5, c6, c7, hL, rfl, V⟩
    rw [Nat.zero_add, List.length_map, List.length_range] at *
    subst_vars
    have hb : 10 * 3 ^ k ≤ 90 := by
      rcases (show k = 0 ∨ k = 1 ∨ k = 2 by omega) with rfl | rfl | rfl <;> decide
    rw [hL.join (by
      have : (20 + 3 * k) * (10 * 3 ^ k + 1) ≤ 26 * 91 := Nat.mul_le_mul (by omega) (by omega)
      omega)]
    simp only [wO_some]
    obtain ⟨s1, s2⟩ := hL.spl (by omega) (by omega)
    rw [split_S (by omega) (by have := s2.2.1; omega)]
    simp only [wO_some]
    exact ⟨_, rfl, s2, V.mono (by omega)⟩
end K84
end

section
set_option Elab.async false
set_option linter.all false
set_option maxRecDepth 100000
set_option maxHeartbeats 1000000
namespace K84
open PySem PV
theorem lk_ok {p : SP} (o : p.ok) {c : Com} (h : c.ok p) : lk p (wl c) = some c := by
  unfold lk
  rw [look_wl o h.1, Option.bind_some, if_pos h.2]
theorem ok_lk {p : SP} {w : List Nat} {c : Com} (h : lk p w = some c) : c.ok p := by
  unfold lk at h
  cases e : look p w with
  | none => rw [e] at h; cases h
  | some c' =>
    rw [e, Option.bind_some] at h
    split at h
    · cases h
      exact ⟨(wl_look e).2, by assumption⟩
    · cases h
theorem goR_row {p : SP} (o : p.ok) : ∀ (r : List Com) (i : Nat) (acc : List Com), (∀ c ∈ r, c.ok p) → i + r.length ≤ 200 → goR p (r.map wl) i acc = .inr (acc ++ r)
  | [], i, acc, _, _ => by rw [List.map_nil, List.append_nil]; rfl
  | c :: r, i, acc, h, l => by
    rw [List.length_cons] at l
    rw [List.map_cons]
    unfold goR
    rw [lk_ok o (h c (by simp))]
    simp only
    rw [if_neg (by omega), goR_row o r (i + 1) (acc ++ [c]) (fun x m => h x (by simp [m])) (by omega), List.append_assoc]
    rfl
theorem wl_ne {c : Com} (h : c.small) : wl c ≠ noneW := fun e => by
  have := wl_len h
  rw [e] at this
  cases this
theorem rowR_row {p : SP} (o : p.ok) {r : List Com} (h : ∀ c ∈ r, c.ok p) (hz : r.length ≤ 200) : rowR p (rowW r) = .inr r := by
  unfold rowR rowW
  cases r with
  | nil => rfl
  | cons c r =>
    rw [if_neg (List.cons_ne_nil _ _), if_neg]
    · exact goR_row o (c :: r) 0 [] h (by omega)
    · rw [List.map_cons, List.head?_cons]
      exact fun e => wl_ne ((h c (by simp)).small o) (Option.some.inj e)
theorem goR_ok {p : SP} : ∀ (ws : List (List Nat)) (i : Nat) (acc r : List Com), goR p ws i acc = .inr r → (∀ c ∈ acc, c.ok p) → (∀ c ∈ r, c.ok p) ∧ r.length = acc.length + ws.length
  | [], i, acc, r, h, ha => by
    cases h
    exact ⟨ha, rfl⟩
  | w :: ws, i, acc, r, h, ha => by
    unfold goR at h
    cases e : lk p w with
    | none => rw [e] at h; cases h
    | some c =>
      rw [e] at h
      simp only at h
      split at h
      · cases h
      · obtain ⟨h1, h2⟩ := goR_ok ws (i + 1) (acc ++ [c]) r h fun x m => by
          rcases List.mem_append.mp m with m | m
          · exact ha x m
          · rw [List.mem_singleton.mp m]; exact ok_lk e
        refine ⟨h1, ?_⟩
        rw [h2]
        simp only [List.length_append, List.length_cons, List.length_nil]
        omega
theorem rowR_ok {p : SP} {ws : List (List Nat)} {r : List Com} (h : rowR p ws = .inr r) : (∀ c ∈ r, c.ok p) ∧ r.length ≤ ws.length := by
  unfold rowR at h
  split at h
  · split at h
    · cases h
      exact ⟨fun c m => (by cases m), by simp⟩
    · cases h
  · obtain ⟨h1, h2⟩ := goR_ok _ _ _ _ h fun c m => by cases m
    exact ⟨h1, by rw [h2]; simp⟩
theorem resOk_row {p : SP} (o : p.ok) {ws : List (List Nat)} (hw : ws.length < 290) : resOk (rowR p ws) := by
  cases e : rowR p ws with
  | inl i => trivial
  | inr r =>
    obtain ⟨h1, h2⟩ := rowR_ok e
    exact ⟨by omega, fun c m => (h1 c m).small o⟩
theorem dep_ints (l : List Int) : depD (dints l) ≤ 2 := by
  have e : ∀ l : List Int, PyData.depthAll (toPs (l.map D.int)) ≤ 1 := fun l => by
    induction l with
    | nil => decide
    | cons x l ih => simp only [List.map_cons, toPs, toP, PyData.depthAll, PyData.depth]; omega
  have := e l
  simp only [depD, dints, toP, PyData.depth]
  omega
theorem dep_com (c : Com) : depD c.d ≤ 3 := by
  have := dep_ints c.f
  simp only [depD, Com.d, toP, toPs, PyData.depth, PyData.depthAll] at this ⊢
  omega
theorem dep_row (r : List Com) : depD (rowD r) ≤ 4 := by
  have e : ∀ r : List Com, PyData.depthAll (toPs (r.map Com.d)) ≤ 3 := fun r => by
    induction r with
    | nil => decide
    | cons c r ih =>
      have := dep_com c
      simp only [depD] at this
      simp only [List.map_cons, toPs, PyData.depthAll]
      omega
  have := e r
  simp only [depD, rowD, toP, PyData.depth]
  omega
theorem plain_rowD (r : List Com) : plainD (rowD r) = true := by simpa [rowD, plainD] using plain_row (r := r)
theorem ne_row (r : List Com) : dNeD (rowD r) (rowD r) = some (.bl false) := eq_to_ne (d_eqR (plain_rowD r) (by have := dep_row r; omega))
theorem nin_row {c : Com} {cs : List Com} (h : c ∈ cs) : dNinD c.d (rowD cs) = some (.bl false) := by
  show (dIn c.d (.lst (cs.map Com.d))).map (fun b => D.bl (!b)) = _
  have e : dIn c.d (.lst (cs.map Com.d)) = some ((cs.map Com.d).any fun y => eqvD y c.d) := by
    show (if plainD c.d && plainDs (cs.map Com.d) && decide (depD c.d ≤ 50) then _ else none) = _
    rw [plain_com, plain_row, decide_eq_true (show depD c.d ≤ 50 by have := dep_com c; omega)]
    rfl
  rw [e]
  have e2 : ((cs.map Com.d).any fun y => eqvD y c.d) = true := by
    rw [List.any_eq_true]
    exact ⟨c.d, List.mem_map.mpr ⟨c, h, rfl⟩, eqv_refl _⟩
  rw [e2]
  rfl
end K84
end

section
set_option Elab.async false
set_option linter.all false
set_option maxRecDepth 100000
set_option maxHeartbeats 1000000
namespace K84
open PySem PV
theorem list_row {r : List Com} : dListN (rowD r) = some (rowD r) := rfl
theorem rowW_spl {r : List Com} (hr : ∀ c ∈ r, c.small) (hz : r.length ≤ 250) : Spl (rowW r) := by
  have h := rowW_size r
  refine ⟨fun e => by rw [e] at h; simp at h, by omega, fun w m => ⟨?_, by have := rowW_len hr w m; omega⟩⟩
  unfold rowW at m
  split at m
  · rw [List.mem_singleton.mp m]; decide
  · obtain ⟨c, hc, rfl⟩ := List.mem_map.mp m
    obtain ⟨f, n⟩ := c
    obtain ⟨h1, h2, h3⟩ := hr _ hc
    simp only at h1 h2 h3
    rcases h1 with rfl | ⟨x, rfl, h4, h5⟩
    · show ¬ 32 ∈ [45, 43, (48 + n).toNat]
      simp; omega
    · show ¬ 32 ∈ [(48 + x).toNat, 43, (48 + n).toNat]
      simp; omega
theorem Spl.len {ws : List (List Nat)} (h : Spl ws) : (noteL ws).length + 2 ≤ 16777216 := by
  have := note_len (ws := ws) (b := 50000) fun w m => (h.2.2 w m).2
  have h2 : ws.length * (50000 + 1) ≤ 289 * (50000 + 1) := Nat.mul_le_mul_right _ (by have := h.2.1; omega)
  omega
theorem Spl.join {ws : List (List Nat)} (h : Spl ws) : dJoin (.str (" " : Str)) (.lst (sgn ws)) = some (.str (SX.S (noteL ws))) := by
  refine join_sp (b := 50000) (fun w m => (h.2.2 w m).2) ?_
  have h2 : ws.length * (50000 + 1) ≤ 289 * (50000 + 1) := Nat.mul_le_mul_right _ (by have := h.2.1; omega)
  omega
theorem Spl.read {p : SP} (o : p.ok) {ws : List (List Nat)} (s : Spl ws) {h : Hh} : wF (m_law_read [p.d, .str (SX.S (noteL ws))] h) (fun d h' => d = resD (rowR p ws) ∧ ∃ t, h' = h ++ t) noX :=
  law_read_ok o (spl_note s.1 fun w m => (s.2.2 w m).1) s.len s.1 s.2.1 fun w m => by have := (s.2.2 w m).2; omega
theorem Spl.row {p : SP} (o : p.ok) {ws : List (List Nat)} (s : Spl ws) {h : Hh} : wN (m_read_row [p.d, .str (SX.S (noteL ws))] h) (fun d h' => ∃ r, rowR p ws = .inr r ∧ d = rowD r ∧ ∃ t, h' = h ++ t) (ReadX p ws h) :=
  read_ok o (spl_note s.1 fun w m => (s.2.2 w m).1) s.len s.1 s.2.1 fun w m => by have := (s.2.2 w m).2; omega
theorem Urn.box {u n : Nat} {h : Hh} {o o' : Ob} (U : Urn u n h) : Urn u n ((h ++ [o]).set h.length o') := by
  rw [set_last]; exact U.app
theorem row_right_ok {p : SP} (o : p.ok) {u n : Nat} {h : Hh} {r : List Com} (hr : ∀ c ∈ r, c.ok p) (hz : r.length ≤ 9) (hn : n < 999999000) (U : Urn u n h) :
    wF (m_law_row_right [.obj u, p.d, rowD r] h) (fun d h' => d = .bl true ∧ Urn u (n + 200) h') noX := by
  have hs : ∀ c ∈ r, c.small := fun c m => (hr c m).small o
  have sp := rowW_spl hs (by omega)
  have rr := rowR_row o hr (by omega)
  have ro : resOk (.inr r) := ⟨by omega, hs⟩
  unfold m_law_row_right
  refine wF_fn rfl ?_
  and_intros
  refine (words_ok o hs (by omega)).imp ?_
  rintro d h1 ⟨rfl, rfl⟩
  simp only [list_row, wO_some]
  subst_vars
  rw [sp.join]
  subst_vars
  refine (show_ok o hs (by omega)).imp ?_
  rintro d h2 ⟨rfl, rfl⟩
  refine (same_str 5 _ _).imp ?_
  rintro d h3 ⟨rfl, rfl⟩
  simp only [tr_bl, wO_some, decide_true, Bool.not_true, if_false, Bool.false_eq_true, ne_row]
  subst_eqs
  refine ⟨trivial, ?_⟩
  refine (show_ok o hs (by omega)).imp ?_
  rintro d h4 ⟨rfl, rfl⟩
  subst_eqs
  simp only [decide_true, Bool.not_true, if_false, Bool.false_eq_true]
  subst_vars
  refine ⟨trivial, ?_⟩
  rw [show List.filterMap (fun x => [D.str (SX.S (noteL (rowW r))), p.d][x]?) [1, 0] = [p.d, D.str (SX.S (noteL (rowW r)))] from rfl]
  have frow : ∀ {c : Nat} {q : D} {h' : Hh}, ReadX p (rowW r) h4 c q h' → False := fun ⟨_, i, e, _⟩ => by rw [rr] at e; cases e
  refine (sp.row o).imp ?_ fun c q h' k => (frow k).elim
  rintro d h5 ⟨r', er, rfl, t5, rfl⟩
  rw [rr] at er
  cases er
  refine ⟨by decide, by decide, ?_⟩
  refine (as_due_ok (r := .inr r) ro).imp ?_
  rintro d h6 ⟨rfl, rfl⟩
  simp only [tr_bl, wO_some, Bool.not_true, if_false, Bool.false_eq_true]
  subst_vars
  refine (all_comers_ok o).imp ?_
  rintro d h7 ⟨rfl, cs, rfl, hcs⟩
  subst_vars
  rw [show rngD 0 4 = _ from rng_nat 4 (by decide)]
  subst_eqs
  generalize eN : noteL (rowW r) = note at *
  refine wS_for (I := fun i ρ h' => ∃ c7 c8 c9 c10, ρ = [.val (.obj u), .val p.d, .val (rowD r), .val (.lst (sgn (rowW r))), .val (rowD r), .val (.str (SX.S note)), .val (rowD cs), c7, c8, c9, c10] ∧ Urn u (n + 40 * i) h') (n := 0)
    ⟨.un, .un, .un, .un, rfl, U.app⟩ ?_ ?_
  · rintro i d ρ h' ei ⟨c7, c8, c9, c10, rfl, V⟩
    rw [Nat.zero_add] at *
    have hi : i < 4 := by simpa using (List.getElem?_eq_some_iff.mp ei).1
    have ed : d = .int (i : Int) := by
      rw [List.getElem?_map, List.getElem?_range hi] at ei
      exact (Option.some.inj ei).symm
    subst ed
    have rest : ∀ (vs : List (List Nat)) (h1 : Hh), Spl vs → Urn u (n + 40 * (i + 1)) h1 → wS ((sSeq (sSet 9 (eCall m_law_read [] (eCons (eVar 1) (eCons (eOp dJoin (chkS (eRet (.str (" " : Str)))) (eVar 8)) (eNil))))) <|
        sSeq (sIf (bNot (eTruth (eCall m_law_as_due [] (eCons (eVar 9) (eCons (eCall m_law_due [] (eCons (eVar 1) (eCons (eVar 8) (eNil)))) (eNil)))))) (sRet (eRet (.bl false))) (sNext)) <|
        sIf (bAnd (eAsB (eOp dIsN (eOp dIx (eVar 9) (eRet (.int 1))) (eRet .non))) (eAsB (eOp dNeD (eLc [10] (eItems (eOp dIx (eVar 9) (eRet (.int 0)))) (tgV 10) (eAsB (eOp dNinD (eVar 10) (eVar 6))) (eVar 10)) (eLst (eNil))))) (sRet (eRet (.bl false))) (sNext))
          [.val (.obj u), .val p.d, .val (rowD r), .val (.lst (sgn (rowW r))), .val (rowD r), .val (.str (SX.S note)), .val (rowD cs), .val (.int i), .val (.lst (sgn vs)), c9, c10] h1)
        (fun f ρ2 h2 => f = .next ∧ ∃ c7 c8 c9 c10, ρ2 = [.val (.obj u), .val p.d, .val (rowD r), .val (.lst (sgn (rowW r))), .val (rowD r), .val (.str (SX.S note)), .val (rowD cs), c7, c8, c9, c10] ∧ Urn u (n + 40 * (i + 1)) h2) (fun c p x h1 => noX c p h1) := by
      intro vs h1 sv V1
      and_intros
      rw [sv.join]
      simp only [wO_some]
      refine (sv.read o).imp ?_
      rintro d h2 ⟨rfl, t2, rfl⟩
      subst_vars
      refine (due_ok o sv.1 sv.2.1).imp ?_
      rintro d h3 ⟨rfl, rfl⟩
      refine (as_due_ok (resOk_row o sv.2.1)).imp ?_
      rintro d h4 ⟨rfl, rfl⟩
      simp only [tr_bl, wO_some, Bool.not_true, if_false, Bool.false_eq_true]
      subst_vars
      cases er : rowR p vs with
      | inl j =>
        simp only [resD]
        subst_eqs
        exact ⟨trivial, _, _, _, _, rfl, V1.app⟩
      | inr r' =>
        simp only [resD]
        subst_eqs
        simp only [rowD, itemsD, wO_some]
        refine wE_lc (fun j acc h' => acc = [] ∧ h' = h1 ++ t2) (n := 0) ⟨rfl, rfl⟩ (Nat.le_refl _) (by have := (rowR_ok er).2; have := sv.2.1; rw [List.length_map]; omega) (fun j d acc h' ej ⟨ea, eh⟩ => ?_) fun acc h' ⟨ea, eh⟩ => ?_
        · subst ea eh
          obtain ⟨c, hc, rfl⟩ := List.mem_map.mp (List.mem_of_getElem? ej)
          and_intros
          rw [show dNinD c.d (.lst (cs.map Com.d)) = some (.bl false) from nin_row (hcs c ((rowR_ok er).1 c hc))]
          subst_eqs
          exact ⟨trivial, trivial⟩
        · subst ea eh
          refine ⟨by decide, ?_⟩
          rw [show dNeD (.lst []) (.lst []) = some (.bl false) from ne_row []]
          subst_eqs
          exact ⟨trivial, _, _, _, _, rfl, V1.app⟩
    and_intros
    subst_eqs
    by_cases e0 : (i : Int) = 0
    · rw [decide_eq_true e0]
      simp only [if_true]
      subst_eqs
      rw [sq_next]
      refine (rest _ _ sp (V.mono (by omega))).imp ?_
      rintro f ρ2 h2 ⟨rfl, k⟩
      exact k
    · rw [decide_eq_false e0]
      simp only [if_false, Bool.false_eq_true]
      subst_eqs
      refine (bent_ok ⟨by have := (rowW_size r).1; omega, fun w m => ⟨rowW_len hs w m, by rw [List.count_eq_zero.mpr (sp.2.2 w m).1]; decide⟩⟩ (by omega) V).imp ?_
      rintro d h8 ⟨vs, rfl, sv, U8⟩
      rw [sq_next]
      refine (rest _ _ sv (U8.mono (by omega))).imp ?_
      rintro f ρ2 h2 ⟨rfl, k⟩
      exact k
  · rintro ρ h' ⟨c7, c8, c9, c10, rfl, V⟩
    rw [List.length_map, List.length_range, Nat.zero_add] at V
    subst eN
    subst_vars
    refine ⟨by decide, ?_⟩
    rw [rowD_ne]
    subst_eqs
    have fin_ : ∀ h1 : Hh, Urn u (n + 160) h1 → wF (m_law_read [p.d, .str (SX.S (noteL (rowW r)))] h1) (fun x h2 => 0 + 1 + 1 ≤ 16777216 ∧ wF (m_law_as_due [x, .tup [rowD r, .non]] h2) (fun d h' => d = .bl true ∧ Urn u (n + 200) h') noX) noX := fun h1 V1 => by
      refine (sp.read o).imp ?_
      rintro d h2 ⟨rfl, t2, rfl⟩
      rw [rr]
      refine ⟨by decide, (as_due_ok (r := .inr r) ro).imp ?_⟩
      rintro d h3 ⟨rfl, rfl⟩
      exact ⟨rfl, (V1.app).mono (by omega)⟩
    by_cases e : r = []
    · have ee : r.isEmpty = true := by rw [e]; rfl
      simp only [ee, Bool.not_true, if_false, Bool.false_eq_true]
      subst_vars
      exact fin_ _ V
    · have ee : r.isEmpty = false := by cases r <;> simp_all
      simp only [ee, Bool.not_false, if_true]
      have frow2 : ∀ {c : Nat} {q : D} {h2 : Hh}, ReadX p (rowW r) h' c q h2 → False := fun ⟨_, i, e, _⟩ => by rw [rr] at e; cases e
      refine (sp.row o).imp ?_ fun c q h' k => (frow2 k).elim
      rintro d h5 ⟨r', er, rfl, t5, rfl⟩
      rw [rr] at er
      cases er
      subst_eqs
      rw [getP_at (d := rowD r) (by simp)]
      subst_eqs
      refine ⟨rfl, ?_⟩
      subst_vars
      rw [show fAppend (rowD r) [.str (Str.ofString "x")] = some (.lst (r.map Com.d ++ [.str (Str.ofString "x")])) from if_pos (by rw [List.length_map]; omega)]
      subst_vars
      rw [set_last]
      exact fin_ _ (V.app.app)
end K84
end

section
set_option Elab.async false
set_option linter.all false
set_option maxRecDepth 100000
set_option maxHeartbeats 1000000
namespace K84
open PySem PV
theorem cat_row {a b : List Com} (h : a.length + b.length ≤ 16777216) : dCat (rowD a) (rowD b) = some (rowD (a ++ b)) := by
  show (if (a.map Com.d).length + (b.map Com.d).length ≤ 16777216 then some (D.lst (a.map Com.d ++ b.map Com.d)) else none) = _
  rw [List.length_map, List.length_map, if_pos h, rowD, List.map_append]
theorem zero_com : D.lst [.tup [.tup [], .int 0]] = rowD [⟨[], 0⟩] := rfl
theorem zero_ok {p : SP} (o : p.ok) : (⟨[], 0⟩ : Com).ok p := ⟨⟨.inl rfl, Int.le_refl _, o.m⟩, o.g⟩
theorem goR_long {p : SP} (o : p.ok) : ∀ (r : List Com) (i : Nat) (acc : List Com), (∀ c ∈ r, c.ok p) → i ≤ 200 → i + r.length = 201 → goR p (r.map wl) i acc = .inl 200
  | [], i, acc, _, h1, h2 => by simp at h2; omega
  | c :: r, i, acc, h, h1, h2 => by
    rw [List.length_cons] at h2
    rw [List.map_cons]
    unfold goR
    rw [lk_ok o (h c (by simp))]
    simp only
    by_cases e : i = 200
    · rw [if_pos e, e]
    · rw [if_neg e]
      exact goR_long o r (i + 1) _ (fun x m => h x (by simp [m])) (by omega) (by omega)
theorem rowR_long {p : SP} (o : p.ok) {r : List Com} (h : ∀ c ∈ r, c.ok p) (hz : r.length = 201) : rowR p (rowW r) = .inl 200 := by
  unfold rowR rowW
  cases r with
  | nil => cases hz
  | cons c r =>
    rw [if_neg (List.cons_ne_nil _ _), if_neg]
    · exact goR_long o (c :: r) 0 [] h (by omega) (by omega)
    · rw [List.map_cons, List.head?_cons]
      exact fun e => wl_ne ((h c (by simp)).small o) (Option.some.inj e)
theorem long_ok {p : SP} (o : p.ok) {u n : Nat} {h : Hh} (hn : n < 999990000) (U : Urn u n h) :
    wF (m_law_long_right [.obj u, p.d] h) (fun d h' => d = .bl true ∧ Urn u (n + 1000) h') noX := by
  unfold m_law_long_right
  refine wF_fn rfl ?_
  and_intros
  rw [show rngD 0 199 = _ from rng_nat 199 (by decide)]
  subst_eqs
  have zz : ((List.range 199).map fun i => D.int ((i : Nat) : Int)).length = 199 := by simp
  refine wE_lcAll (fun i h => Urn u (n + 5 * i) h) (fun d => ∃ c : Com, d = c.d ∧ c.ok p) (by rw [zz]; omega) U (fun i d h' e V => ?_) fun ys h6 yl yP V => ?_
  · have hi : i < 199 := by
      have := (List.getElem?_eq_some_iff.mp e).1
      rw [zz] at this
      exact this
    and_intros
    refine (comers_ok o (by omega) V).imp ?_
    rintro d h5 ⟨c, rfl, oc, U5⟩
    exact ⟨⟨c, rfl, oc⟩, U5.mono (by omega)⟩
  · rw [zz] at yl V
    obtain ⟨r, er, hr, hl⟩ : ∃ r : List Com, D.lst ys = rowD r ∧ (∀ c ∈ r, c.ok p) ∧ r.length = 199 := by
      have : ∀ ys : List D, (∀ y ∈ ys, ∃ c : Com, y = c.d ∧ c.ok p) → ∃ r : List Com, ys = r.map Com.d ∧ ∀ c ∈ r, c.ok p := fun ys => by
        induction ys with
        | nil => exact fun _ => ⟨[], rfl, fun c m => by cases m⟩
        | cons y ys ih =>
          intro h
          obtain ⟨c, rfl, oc⟩ := h y (by simp)
          obtain ⟨r, rfl, hr⟩ := ih fun z m => h z (by simp [m])
          exact ⟨c :: r, rfl, fun x m => by rcases List.mem_cons.mp m with rfl | m; exact oc; exact hr x m⟩
      obtain ⟨r, rfl, hr⟩ := this ys yP
      exact ⟨r, rfl, hr, by simpa using yl⟩
    rw [er]
    subst_vars
    rw [show rngD 0 3 = _ from rng_nat 3 (by decide)]
    subst_eqs
    refine wS_for (I := fun i ρ h' => ∃ (r : List Com) (c3 c4 c5 : Cell), (∀ c ∈ r, c.ok p) ∧ r.length = 199 + i ∧ ρ = [.val (.obj u), .val p.d, .val (rowD r), c3, c4, c5] ∧ Urn u (n + 995) h') (n := 0)
      ⟨r, .un, .un, .un, hr, hl, rfl, V⟩ ?_ ?_
    · rintro i d ρ h' ei ⟨r, c3, c4, c5, hr, hl, rfl, V⟩
      rw [Nat.zero_add] at *
      have hi : i < 3 := by simpa using (List.getElem?_eq_some_iff.mp ei).1
      have ed : d = .int (i : Int) := by
        rw [List.getElem?_map, List.getElem?_range hi] at ei
        exact (Option.some.inj ei).symm
      subst ed
      have hs : ∀ c ∈ r, c.small := fun c m => (hr c m).small o
      have sp := rowW_spl hs (by omega)
      and_intros
      refine (words_ok o hs (by omega)).imp ?_
      rintro d h1 ⟨rfl, rfl⟩
      subst_vars
      rw [sp.join]
      subst_vars
      refine (sp.read o).imp ?_
      rintro d h2 ⟨rfl, t, rfl⟩
      subst_eqs
      have fin_ : ∀ h' : Hh, Urn u (n + 995) h' → wO (dCat (rowD r) (D.lst [.tup [.tup [], .int 0]])) fun z => ∃ (r' : List Com) (k3 k4 k5 : Cell), (∀ c ∈ r', c.ok p) ∧ r'.length = 199 + (i + 1) ∧ [Cell.val (.obj u), .val p.d, .val z, .val (.int i), .val (.lst (sgn (rowW r))), c5] = [.val (.obj u), .val p.d, .val (rowD r'), k3, k4, k5] ∧ Urn u (n + 995) h' := fun h' V => by
        rw [zero_com, cat_row (by simp; omega)]
        refine ⟨_, _, _, _, fun c m => ?_, ?_, rfl, V⟩
        · rcases List.mem_append.mp m with m | m
          · exact hr c m
          · rw [List.mem_singleton.mp m]; exact zero_ok o
        · rw [List.length_append, hl]; rfl
      by_cases e2 : i = 2
      · subst e2
        simp only [show decide (((2 : Nat) : Int) = 2) = true from rfl, if_true]
        rw [rowR_long o hr hl]
        refine ⟨by decide, ?_⟩
        refine (as_due_ok (r := .inl 200) trivial).imp ?_
        rintro d h4 ⟨rfl, rfl⟩
        simp only [tr_bl, wO_some, Bool.not_true, if_false, Bool.false_eq_true]
        subst_vars
        refine ⟨by decide, by decide, by decide, ?_⟩
        exact fin_ _ V.app
      · simp only [decide_eq_false (show ¬ (i : Int) = 2 by omega), if_false, Bool.false_eq_true]
        rw [rowR_row o hr (by omega)]
        refine ⟨by decide, ?_⟩
        refine (as_due_ok (r := .inr r) ⟨by omega, hs⟩).imp ?_
        rintro d h4 ⟨rfl, rfl⟩
        simp only [tr_bl, wO_some, Bool.not_true, if_false, Bool.false_eq_true]
        subst_vars
        refine ⟨by decide, by decide, by decide, ?_⟩
        exact fin_ _ V.app
    · rintro ρ h' ⟨r, c3, c4, c5, hr, hl, rfl, V⟩
      subst_vars
      exact ⟨trivial, V.mono (by omega)⟩
end K84
end

section
set_option Elab.async false
set_option linter.all false
set_option maxRecDepth 100000
set_option maxHeartbeats 1000000
namespace K84
open PySem PV
/-- what is no setup -/
def BadD (p : SP) (d : D) : Prop := ∀ h : Hh, wF (m_is_setup [d] h) (fun d h' => d = .bl false ∧ h' = h) noX
theorem need_bad {p : SP} {d : D} (b : BadD p d) {h : Hh} {Q : D → Hh → Prop} {X : XP} (k : X 2 .non h) : wF (m_need_setup [d] h) Q X := by
  unfold m_need_setup
  refine wF_fn rfl ?_
  and_intros
  refine (b h).imp ?_
  rintro d h7 ⟨rfl, rfl⟩
  simp only [tr_bl]
  subst_eqs
  exact k
theorem read_bad {p : SP} {d t : D} (b : BadD p d) {h : Hh} : wF (m_law_read [d, t] h) (fun d h' => d = .tup [.non, .str ("setup" : Str)] ∧ h' = h) noX := by
  unfold m_law_read
  refine wF_fn rfl ?_
  and_intros
  refine ⟨by decide, ?_⟩
  subst_vars
  have r : wN (m_read_row [d, t] h) (fun _ _ => False) (fun c q h' => c = 2 ∧ q = .non ∧ h' = h) := by
    unfold m_read_row
    refine wN_fn rfl ?_
    and_intros
    exact need_bad b ⟨rfl, rfl, rfl⟩
  refine r.imp (fun _ _ z => z.elim) ?_
  rintro c q h' ⟨rfl, rfl, rfl⟩
  show wO (some true) _
  subst_vars
  simp only [show dIsX is_BadText (.exn 2 .non) = some (.bl false) from rfl, tr_bl, wO_some, if_false, Bool.false_eq_true]
  subst_vars
  simp only [show dIsX is_BadSetup (.exn 2 .non) = some (.bl true) from rfl, tr_bl, wO_some, if_true]
  exact ⟨by decide, trivial, trivial⟩
def odd (d : D) : Prop := dIsi "str" d = some (.bl false)
theorem read_odd {p : SP} (o : p.ok) {t : D} (ht : odd t) {h : Hh} : wF (m_law_read [p.d, t] h) (fun d h' => d = resD (.inl 0) ∧ ∃ s, h' = h ++ s) noX := by
  unfold m_law_read
  refine wF_fn rfl ?_
  and_intros
  refine ⟨by decide, ?_⟩
  subst_vars
  have r : wN (m_read_row [p.d, t] h) (fun _ _ => False) (fun c q h' => c = 4 ∧ q = .int 0 ∧ ∃ s, h' = h ++ s) := by
    unfold m_read_row
    refine wN_fn rfl ?_
    and_intros
    refine need_ok o ?_
    subst_vars
    unfold m_Words__init
    refine wV_fn rfl ?_
    and_intros
    rw [show dIsi "str" t = _ from ht]
    subst_eqs
    simp only [tr_bl]
    subst_eqs
    exact ⟨trivial, trivial, _, rfl⟩
  refine r.imp (fun _ _ z => z.elim) ?_
  rintro c q h' ⟨rfl, rfl, s, rfl⟩
  show wO (some true) _
  subst_vars
  simp only [show dIsX is_BadText (.exn 4 (.int 0)) = some (.bl true) from rfl, wO_some, tr_bl, if_true,
    show dIsX (fun k => (is_BadRow k).bind fun b => (is_BadSetup k).map fun b2 => b || b2) (.exn 4 (.int 0)) = some (.bl false) from rfl, Bool.not_false]
  simp only [show dPlace plcs (.exn 4 (.int 0)) = some (.int 0) from rfl, Option.bind_some, nn_int, if_false, Bool.false_eq_true, wO_some]
  exact ⟨by decide, rfl, s, rfl⟩
theorem bad0 {p : SP} : BadD p .non := fun h => by
  unfold m_is_setup
  refine wF_fn rfl ?_
  and_intros
  simp only [show dIsi "tuple" .non = some (.bl false) from rfl, wO_some, tr_bl]
  subst_eqs
  exact ⟨trivial, trivial⟩
theorem bad1 {p : SP} : BadD p (.tup [.int p.s, dints p.l1, .tup [.int p.r1, .int p.r2], .tup [.int p.g, .int p.m], dints p.l2, .int p.life]) := fun h => by
  unfold m_is_setup
  refine wF_fn rfl ?_
  and_intros
  simp only [isi_tt, wO_some, tr_bl]
  subst_eqs
  simp only [List.length_cons, List.length_nil]
  subst_eqs
  simp only [show decide (((0 + 1 + 1 + 1 + 1 + 1 + 1 : Nat) : Int) = 7) = false from rfl, Bool.not_false, if_true]
  subst_eqs
  exact ⟨trivial, trivial⟩
theorem bad2 {p : SP} {l : List D} : BadD p (.lst l) := fun h => by
  unfold m_is_setup
  refine wF_fn rfl ?_
  and_intros
  simp only [show dIsi "tuple" (.lst l) = some (.bl false) from rfl, wO_some, tr_bl]
  subst_eqs
  exact ⟨trivial, trivial⟩
theorem bad3 {p : SP} {a b c e f g : D} : BadD p (.tup [.int 0, a, b, c, e, f, g]) := fun h => by
  unfold m_is_setup
  refine wF_fn rfl ?_
  and_intros
  simp only [isi_tt, wO_some, tr_bl]
  subst_eqs
  simp only [List.length_cons, List.length_nil]
  subst_eqs
  simp only [show decide (((0 + 1 + 1 + 1 + 1 + 1 + 1 + 1 : Nat) : Int) = 7) = true from rfl, Bool.not_true, if_false, Bool.false_eq_true]
  subst_vars
  subst_vars
  refine is_int.imp ?_
  rintro d h1 ⟨rfl, rfl⟩
  simp only [tr_bl]
  subst_eqs
  exact ⟨trivial, trivial⟩
theorem bad5 {p : SP} (o : p.ok) {l : List D} {b c e f g : D} : BadD p (.tup [.int p.s, .lst l, b, c, e, f, g]) := fun h => by
  unfold m_is_setup
  refine wF_fn rfl ?_
  and_intros
  simp only [isi_tt, wO_some, tr_bl]
  subst_eqs
  simp only [List.length_cons, List.length_nil]
  subst_eqs
  simp only [show decide (((0 + 1 + 1 + 1 + 1 + 1 + 1 + 1 : Nat) : Int) = 7) = true from rfl, Bool.not_true, if_false, Bool.false_eq_true]
  subst_vars
  subst_vars
  refine is_int.imp ?_
  rintro d h1 ⟨rfl, rfl⟩
  simp only [tr_bl]
  subst_eqs
  simp only [decide_eq_true o.s0, decide_eq_true o.s1, Bool.and_self, Bool.not_true, if_false, Bool.false_eq_true]
  have r : wF (m_is_choice [.lst l, .int p.s] h1) (fun d h' => d = .bl false ∧ h' = h1) noX := by
    unfold m_is_choice
    refine wF_fn rfl ?_
    and_intros
    simp only [show dIsi "tuple" (.lst l) = some (.bl false) from rfl, wO_some, tr_bl]
    subst_eqs
    exact ⟨trivial, trivial⟩
  refine r.imp ?_
  rintro d h2 ⟨rfl, rfl⟩
  simp only [tr_bl]
  subst_eqs
  exact ⟨trivial, trivial⟩
theorem bad4 {p : SP} (o : p.ok) {g : D} : BadD p (.tup [.int p.s, dints p.l1, .tup [.int p.r1, .int p.r2], .tup [.int p.g, .int p.m], dints p.l2, .int 4, g]) := fun h => by
  unfold m_is_setup
  refine wF_fn rfl ?_
  and_intros
  simp only [isi_tt, wO_some, tr_bl]
  subst_eqs
  simp only [List.length_cons, List.length_nil]
  subst_eqs
  simp only [show decide (((0 + 1 + 1 + 1 + 1 + 1 + 1 + 1 : Nat) : Int) = 7) = true from rfl, Bool.not_true, if_false, Bool.false_eq_true]
  subst_vars
  subst_vars
  refine is_int.imp ?_
  rintro d h1 ⟨rfl, rfl⟩
  simp only [tr_bl]
  subst_eqs
  simp only [decide_eq_true o.s0, decide_eq_true o.s1, Bool.and_self, Bool.not_true, if_false, Bool.false_eq_true]
  refine (cho_ok (cho_true o.c1).2).imp ?_
  rintro d h2 ⟨rfl, rfl⟩
  rw [(cho_true o.c1).1]
  simp only [tr_bl]
  subst_eqs
  try simp only [Bool.not_true, if_false, Bool.false_eq_true]
  subst_vars
  refine ⟨by simp, by simp, ?_⟩
  refine row2.imp ?_
  rintro d h3 ⟨rfl, rfl⟩
  simp only [tr_bl]
  subst_eqs
  simp only [decide_eq_true o.r1, decide_eq_true o.r1', decide_eq_true o.r2, decide_eq_true o.r2', Bool.and_self, Bool.not_true, if_false, Bool.false_eq_true]
  refine ⟨by simp, by simp, ?_⟩
  refine row2.imp ?_
  rintro d h4 ⟨rfl, rfl⟩
  simp only [tr_bl]
  subst_eqs
  simp only [decide_eq_true o.g, decide_eq_true o.g', decide_eq_true o.m, decide_eq_true o.m', Bool.and_self, Bool.not_true, if_false, Bool.false_eq_true]
  subst_vars
  refine (cho_ok (cho_true o.c2).2).imp ?_
  rintro d h5 ⟨rfl, rfl⟩
  rw [(cho_true o.c2).1]
  simp only [tr_bl]
  subst_eqs
  try simp only [Bool.not_true, if_false, Bool.false_eq_true]
  refine is_int.imp ?_
  rintro d h6 ⟨rfl, rfl⟩
  simp only [tr_bl]
  subst_eqs
  simp only [show (decide ((1 : Int) ≤ 4) && decide ((4 : Int) ≤ 3)) = false from rfl, Bool.not_false, if_true]
  subst_eqs
  exact ⟨trivial, trivial⟩
theorem at_each {l : List D} {i : Int} {Q : D → Prop} (h0 : 0 ≤ i) (h1 : i < l.length) (k : ∀ x ∈ l, Q x) : wO (L2.atI l i) Q := by
  obtain ⟨j, rfl⟩ := Int.eq_ofNat_of_zero_le h0
  have lt : j < l.length := by omega
  rw [ix_nat, List.getElem?_eq_getElem lt]
  exact k _ (List.getElem_mem lt)
theorem add_tt {a b : List D} (h : a.length + b.length ≤ 20) : dAdd (.tup a) (.tup b) = some (.tup (a ++ b)) := if_pos (by omega)
theorem cutp1 {p : SP} : dSl p.d none (some 6) = some (.tup [.int p.s, dints p.l1, .tup [.int p.r1, .int p.r2], .tup [.int p.g, .int p.m], dints p.l2, .int p.life]) := rfl
theorem cutp2 {p : SP} : dListN p.d = some (.lst [.int p.s, dints p.l1, .tup [.int p.r1, .int p.r2], .tup [.int p.g, .int p.m], dints p.l2, .int p.life, .tup [.int p.p0, .int p.p1, .int p.p2, .int p.p3]]) := rfl
theorem cutp3 {p : SP} : dSl p.d (some 1) none = some (.tup [dints p.l1, .tup [.int p.r1, .int p.r2], .tup [.int p.g, .int p.m], dints p.l2, .int p.life, .tup [.int p.p0, .int p.p1, .int p.p2, .int p.p3]]) := rfl
theorem cutp4 {p : SP} : dSl p.d none (some 5) = some (.tup [.int p.s, dints p.l1, .tup [.int p.r1, .int p.r2], .tup [.int p.g, .int p.m], dints p.l2]) := rfl
theorem cutp5 {p : SP} : dSl p.d (some 6) none = some (.tup [.tup [.int p.p0, .int p.p1, .int p.p2, .int p.p3]]) := rfl
theorem cutp6 {p : SP} : dSl p.d none (some 1) = some (.tup [.int p.s]) := rfl
theorem cutp7 {p : SP} : dSl p.d (some 2) none = some (.tup [.tup [.int p.r1, .int p.r2], .tup [.int p.g, .int p.m], dints p.l2, .int p.life, .tup [.int p.p0, .int p.p1, .int p.p2, .int p.p3]]) := rfl
theorem refused_ok {p : SP} (o : p.ok) {u n : Nat} {h : Hh} (hn : n < 999990000) (U : Urn u n h) :
    wF (m_law_refused_right [.obj u, p.d] h) (fun d h' => d = .bl true ∧ Urn u (n + 10) h') noX := by
  unfold m_law_refused_right
  refine wF_fn rfl ?_
  and_intros
  refine ⟨by decide, by decide, by decide, ?_⟩
  refine (draw_ok u n 6 _ (by omega) (by omega) (by omega) U).imp ?_
  rintro d h1 ⟨i, rfl, i0, i1, U1⟩
  subst_eqs
  refine at_each i0 (by simpa using i1) fun t mt => ?_
  have ht : odd t := by
    simp only [List.mem_cons, List.not_mem_nil, or_false] at mt
    rcases mt with rfl | rfl | rfl | rfl | rfl | rfl <;> rfl
  subst_vars
  rw [cutp1]
  simp only [wO_some]
  rw [cutp2]
  simp only [wO_some]
  refine ⟨by decide, ?_⟩
  rw [cutp3]
  simp only [wO_some]
  rw [add_tt (by simp)]
  simp only [wO_some]
  rw [cutp4]
  simp only [wO_some]
  refine ⟨by decide, ?_⟩
  rw [add_tt (by simp)]
  simp only [wO_some]
  rw [cutp5]
  simp only [wO_some]
  rw [add_tt (by simp)]
  simp only [wO_some]
  rw [cutp6]
  simp only [wO_some]
  refine ⟨by decide, by decide, ?_⟩
  rw [add_tt (by simp)]
  simp only [wO_some]
  rw [cutp7]
  simp only [wO_some]
  rw [add_tt (by simp)]
  simp only [wO_some]
  refine ⟨by decide, ?_⟩
  refine (draw_ok u _ 6 _ (by omega) (by omega) (by omega) U1).imp ?_
  rintro d h2 ⟨j, rfl, j0, j1, U2⟩
  subst_eqs
  refine at_each j0 (by simpa using j1) fun b mb => ?_
  have hb : BadD p b := by
    simp only [List.mem_cons, List.not_mem_nil, or_false, List.cons_append, List.nil_append] at mb
    rcases mb with rfl | rfl | rfl | rfl | rfl | rfl
    · exact bad0
    · exact bad1
    · exact bad2
    · exact bad3
    · exact bad4 o
    · exact bad5 o
  clear mb mt
  subst_vars
  refine (read_odd o ht).imp ?_
  rintro d h3 ⟨rfl, s, rfl⟩
  refine ⟨by decide, ?_⟩
  refine (as_due_ok (r := .inl 0) trivial).imp ?_
  rintro d h4 ⟨rfl, rfl⟩
  simp only [tr_bl]
  subst_eqs
  try simp only [Bool.not_true, if_false, Bool.false_eq_true]
  subst_vars
  have eqS : dEqD (.tup [.non, .str ("setup" : Str)]) (.tup [.non, .str ("setup" : Str)]) = some (.bl true) := d_eqR rfl (by decide)
  refine (read_bad hb).imp ?_
  rintro d h5 ⟨rfl, rfl⟩
  refine ⟨by decide, ?_⟩
  rw [eqS]
  simp only [wO_some, tr_bl, if_true]
  refine (read_bad hb).imp ?_
  rintro d h5 ⟨rfl, rfl⟩
  refine ⟨by decide, ?_⟩
  rw [eqS]
  simp only [wO_some, tr_bl, if_true]
  refine (read_bad hb).imp ?_
  rintro d h5 ⟨rfl, rfl⟩
  refine ⟨by decide, ?_⟩
  rw [eqS]
  simp only [wO_some, finV_ret, fin_ret]
  exact ⟨trivial, U2.app.mono (by omega)⟩
end K84
end

section
set_option Elab.async false
set_option linter.all false
set_option maxRecDepth 100000
set_option maxHeartbeats 1000000
namespace PV
open PySem L2
theorem wE_join0 {ρ : Env} {h : Hh} {X : XP} {Q : D → Hh → Prop} {acc : Str} : wE (eJoin [] acc ρ h) Q X = Q (.str acc) h := rfl
theorem wE_joinC {ρ : Env} {h : Hh} {X : XP} {Q : D → Hh → Prop} {acc : Str} {c : EM D} {cs : List (EM D)} : wE (eJoin (c :: cs) acc ρ h) Q X = wE (c ρ h) (fun x h1 => match x with
    | .str y => (acc ++ y).length ≤ 16777216 ∧ wE (eJoin cs (acc ++ y) ρ h1) Q X
    | _ => False) X := by
  show wE (eBind c _ ρ h) Q X = _
  rw [wE_bind]
  congr
  funext x h1
  cases x with
  | str y =>
    show wE ((if (acc ++ y).length ≤ 16777216 then eJoin cs (acc ++ y) else fun _ _ => .stuck) ρ h1) Q X = ((acc ++ y).length ≤ 16777216 ∧ _)
    by_cases hz : (acc ++ y).length ≤ 16777216
    · rw [if_pos hz]; simp [hz]
    · rw [if_neg hz]; simp [hz, wE]
  | _ => rfl
end PV
namespace K84
open PySem PV
def tx (i : Int) : List Nat := (Str.ofString (toString i)).cps.toList
theorem tx_b : ∀ k : Fin 30, (tx (k.val : Int)).length ≤ 3 ∧ (k.val : Int).natAbs.log2 < 1920 := by decide +kernel
theorem tx_len {i : Int} (h0 : 0 ≤ i) (h1 : i < 30) : (tx i).length ≤ 3 ∧ i.natAbs.log2 < 1920 := by
  obtain ⟨k, rfl⟩ := Int.eq_ofNat_of_zero_le h0
  exact tx_b ⟨k, by omega⟩
theorem fmt_i {i : Int} (h0 : 0 ≤ i) (h1 : i < 30) : dFmt (.int i) = some (.str (SX.S (tx i))) := by
  show (if i.natAbs.log2 < 1920 then some (D.str (Str.ofString (toString i))) else none) = _
  rw [if_pos (tx_len h0 h1).2, tx, SX.S_tl]
theorem str_i {i : Int} (h0 : 0 ≤ i) (h1 : i < 30) : dStr (.int i) = some (.str (SX.S (tx i))) := by
  show (if i.natAbs.log2 < 1920 then some (D.str (Str.ofString (toString i))) else none) = _
  rw [if_pos (tx_len h0 h1).2, tx, SX.S_tl]
theorem fmt_S {l : List Nat} (h : l.length ≤ 16777216) : dFmt (.str (SX.S l)) = some (.str (SX.S l)) := if_pos (by rw [SX.S_len]; exact h)
theorem join_e {l : List (List Nat)} {b : Nat} (h : ∀ x ∈ l, x.length ≤ b) (hz : l.length * b ≤ 16777216) : dJoin (.str ("" : Str)) (.lst (sgn l)) = some (.str (SX.S (TL.joinL [] l))) := by
  show ((strsD (sgn l)).bind fun ys => if (ys.map (·.length)).sum + ys.length * ("" : Str).length ≤ 16777216 then some (D.str (Txt.join ("" : Str) ys)) else none) = _
  rw [sgn_strs, Option.bind_some, show ("" : Str) = SX.S [] from rfl, SX.join_S]
  have := sum_len l h
  rw [if_pos (by rw [SX.S_len]; simp only [List.length_nil, Nat.mul_zero]; omega)]
/-- a deed: a single, or a group of so many -/
def deedD : Option Int → D
  | none => .tup [.str ("single" : Str), .int 1]
  | some x => .tup [.str ("group" : Str), .int x]
def deedT : Option Int → List Nat
  | none => [115]
  | some x => [103] ++ tx x
def deedOk (d : Option Int) : Prop := match d with
  | none => True
  | some x => 0 ≤ x ∧ x < 30
theorem deedT_len {d : Option Int} (h : deedOk d) : (deedT d).length ≤ 4 := by
  cases d with
  | none => decide
  | some x =>
    have := (tx_len h.1 h.2).1
    show ([103] ++ tx x).length ≤ 4
    rw [List.length_append]
    simp only [List.length_cons, List.length_nil]
    omega
theorem show_deed_ok {d : Option Int} (o : deedOk d) {h : Hh} : wF (m_show_deed [deedD d] h) (fun y h' => y = .str (SX.S (deedT d)) ∧ h' = h) noX := by
  unfold m_show_deed
  refine wF_fn rfl ?_
  and_intros
  cases d with
  | none =>
    simp only [deedD]
    subst_eqs
    simp only [decide_true, if_true]
    exact ⟨rfl, trivial⟩
  | some x =>
    simp only [deedD]
    subst_eqs
    simp only [show decide (("group" : Str) = ("single" : Str)) = false from decide_eq_false (by decide +kernel), if_false, Bool.false_eq_true]
    simp only [wE_joinC, wE_join0]
    and_intros
    have := (tx_len o.1 o.2).1
    subst_eqs
    rw [fmt_i o.1 o.2]
    refine ⟨by decide, ?_, ?_, trivial⟩
    · show (Str.empty ++ SX.S [103] ++ SX.S (tx x)).length ≤ _
      rw [show (Str.empty : Str) = SX.S [] from rfl, SX.S_cat, SX.S_cat, SX.S_len]
      simp only [List.length_append, List.length_cons, List.length_nil]
      omega
    · show D.str (Str.empty ++ SX.S [103] ++ SX.S (tx x)) = _
      rw [show (Str.empty : Str) = SX.S [] from rfl, SX.S_cat, SX.S_cat]
      rfl
end K84
end

section
set_option Elab.async false
set_option linter.all false
set_option maxRecDepth 100000
set_option maxHeartbeats 1000000
namespace K84
open PySem PV
def doneT (l : List (Option Int)) : List Nat := if l = [] then [45] else TL.joinL [32] (l.map deedT)
def opT (l : List Int) : List Nat := if l = [] then [45] else TL.joinL [] (l.map tx)
def deedsD (l : List (Option Int)) : D := .tup (l.map deedD)
theorem plain_deeds (l : List (Option Int)) : plainDs (l.map deedD) = true := by
  induction l with
  | nil => rfl
  | cons x l ih =>
    cases x <;> simp only [List.map_cons, plainDs, plainD, deedD, ih, Bool.and_self]
theorem joinL_len (a : List Nat) {b : Nat} : ∀ (l : List (List Nat)), (∀ w ∈ l, w.length ≤ b) → (TL.joinL a l).length ≤ l.length * (b + a.length)
  | [], h => by simp [TL.joinL]
  | [w], h => by
    have := h w (by simp)
    show w.length ≤ 1 * (b + a.length)
    omega
  | w :: v :: r, h => by
    have h1 := h w (by simp)
    have ih := joinL_len a (v :: r) fun x m => h x (by simp [List.mem_cons.mp m])
    show (w ++ (a ++ TL.joinL a (v :: r))).length ≤ _
    rw [List.length_append, List.length_append]
    simp only [List.length_cons, Nat.add_mul] at ih ⊢
    omega
structure Slip where
  dl : List (Option Int)
  n0 : Int
  n1 : Int
  op : List Int
  n2 : Int
  n3 : Int
  n4 : Int
structure Slip.ok (b : Slip) : Prop where
  dl : b.dl.length ≤ 4 ∧ ∀ d ∈ b.dl, deedOk d
  n0 : 0 ≤ b.n0 ∧ b.n0 < 30
  n1 : 0 ≤ b.n1 ∧ b.n1 < 30
  op : b.op.length ≤ 2 ∧ ∀ i ∈ b.op, 0 ≤ i ∧ i < 30
  n2 : 0 ≤ b.n2 ∧ b.n2 < 30
  n3 : 0 ≤ b.n3 ∧ b.n3 < 30
  n4 : 0 ≤ b.n4 ∧ b.n4 < 30
def Slip.d (b : Slip) : D := .tup [deedsD b.dl, .int b.n0, .int b.n1, dints b.op, .int b.n2, .int b.n3, .int b.n4]
def sg (x : String) : List Nat := (Str.ofString x).cps.toList
def Slip.t (b : Slip) : List Nat := doneT b.dl ++ sg " empty " ++ tx b.n0 ++ sg " away " ++ tx b.n1 ++ sg " opened " ++ opT b.op ++ sg " served " ++ tx b.n2 ++ sg " unserved " ++ tx b.n3 ++ sg " melted " ++ tx b.n4
theorem sg_S (x : String) : Str.ofString x = SX.S (sg x) := (SX.S_tl _).symm
theorem done_len {b : Slip} (o : b.ok) : (doneT b.dl).length ≤ 40 := by
  unfold doneT
  split
  · decide
  · have := joinL_len [32] (b := 4) (b.dl.map deedT) fun w m => by
      obtain ⟨d, hd, rfl⟩ := List.mem_map.mp m
      exact deedT_len (o.dl.2 d hd)
    have := o.dl.1
    rw [List.length_map] at *
    simp only [List.length_cons, List.length_nil] at *
    omega
theorem op_len {b : Slip} (o : b.ok) : (opT b.op).length ≤ 40 := by
  unfold opT
  split
  · decide
  · have := joinL_len [] (b := 3) (b.op.map tx) fun w m => by
      obtain ⟨d, hd, rfl⟩ := List.mem_map.mp m
      exact (tx_len (o.op.2 d hd).1 (o.op.2 d hd).2).1
    have := o.op.1
    rw [List.length_map] at *
    simp only [List.length_cons, List.length_nil] at *
    omega
theorem sg_len : (sg " empty ").length ≤ 12 ∧ (sg " away ").length ≤ 12 ∧ (sg " opened ").length ≤ 12 ∧ (sg " served ").length ≤ 12 ∧ (sg " unserved ").length ≤ 12 ∧ (sg " melted ").length ≤ 12 := by decide +kernel
theorem neT0 {l : List (Option Int)} : dNeD (deedsD l) (.tup []) = some (.bl (!l.isEmpty)) := by
  have e := eq_to_ne (d_eqT0 (plain_deeds l))
  rw [List.isEmpty_map] at e
  exact e
theorem neI0 {l : List Int} : dNeD (dints l) (.tup []) = some (.bl (!l.isEmpty)) := by
  have e := eq_to_ne (d_eqT0 (plain_ints l))
  rw [List.isEmpty_map] at e
  exact e
theorem done_wE {b : Slip} (o : b.ok) {ρ : PV.Env} {h : Hh} (hv : valAt ρ 1 = some (deedsD b.dl)) (hw : ∀ d, ∃ ρ', tgV 11 d (wipeE ρ [11]) = some ρ' ∧ valAt ρ' 11 = some d) : wE (eIf (eAsB (eOp dNeD (eVar 1) (eTup (eNil)))) (eOp dJoin (chkS (eRet (.str (" " : Str)))) (eL (eLc [11] (eItems (eVar 1)) (tgV 11) (bYes) (eCall m_show_deed [] (eCons (eVar 11) (eNil)))))) (eRet d_NO_GROUPS) ρ h) (fun d h' => d = .str (SX.S (doneT b.dl)) ∧ h' = h) noX := by
  simp only [wE_if, wE_asB, wE_op, wE_var, hv, wO_some, wE_tup, wE_nil]
  refine ⟨by decide, ?_⟩
  rw [neT0]
  subst_eqs
  by_cases e : b.dl = []
  · have ee : b.dl.isEmpty = true := by rw [e]; rfl
    simp only [ee, Bool.not_true, if_false, Bool.false_eq_true, wE_ret, doneT, e, if_true]
    exact ⟨rfl, trivial⟩
  · have ee : b.dl.isEmpty = false := by cases hq : b.dl <;> simp_all
    simp only [ee, Bool.not_false, if_true, wE_op, wE_chkS, wE_ret, wO_some, wE_L, wE_lcE, wE_items, wE_var, hv, deedsD, itemsD]
    refine wE_lcMap (ds := b.dl.map deedD) (f := fun d => match m_show_deed [d] h with | .val x _ => x | .new x _ => x | _ => .non) (by rw [List.length_map]; have := o.dl.1; omega) (fun d m => ?_) ?_
    · obtain ⟨c, hc, rfl⟩ := List.mem_map.mp m
      obtain ⟨ρ', e1, e2⟩ := hw (deedD c)
      rw [e1]
      simp only [wO_some, wE_call, wE_cons, wE_var, e2, wE_nil, List.append_nil]
      obtain ⟨d, h', k, k2, k3⟩ := (show_deed_ok (o.dl.2 c hc) (h := h)).ok
      subst k2 k3
      rcases k with k | k <;> (rw [k]; exact ⟨rfl, rfl⟩)
    · refine ⟨rfl, ?_⟩
      have q : (b.dl.map deedD).map (fun d => match m_show_deed [d] h with | .val x _ => x | .new x _ => x | _ => .non) = sgn (b.dl.map deedT) := by
        rw [sgn, List.map_map, List.map_map]
        refine List.map_congr_left fun c hc => ?_
        obtain ⟨d, h', k, k2, k3⟩ := (show_deed_ok (o.dl.2 c hc) (h := h)).ok
        subst k2 k3
        show (match m_show_deed [deedD c] h' with | .val x _ => x | .new x _ => x | _ => .non) = _
        rcases k with k | k <;> (rw [k]; rfl)
      rw [q, join_sp (b := 4) (fun w m => by
        obtain ⟨d, hd, rfl⟩ := List.mem_map.mp m
        exact deedT_len (o.dl.2 d hd)) (by rw [List.length_map]; have := o.dl.1; omega)]
      simp only [wO_some, doneT, e, if_false]
      exact ⟨rfl, trivial⟩
theorem op_wE {b : Slip} (o : b.ok) {ρ : PV.Env} {h : Hh} {i v : Nat} (hv : valAt ρ i = some (dints b.op)) (hw : ∀ d, ∃ ρ', tgV v d (wipeE ρ [v]) = some ρ' ∧ valAt ρ' v = some d) : wE (eOp dJoin (chkS (eRet (.str ("" : Str)))) (eL (eLc [v] (eItems (eVar i)) (tgV v) (bYes) (eMap dStr (eVar v)))) ρ h) (fun d h' => d = .str (SX.S (TL.joinL [] (b.op.map tx))) ∧ h' = h) noX := by
  simp only [wE_op, wE_chkS, wE_ret, wO_some, wE_L, wE_lcE, wE_items, wE_var, hv, dints, itemsD]
  refine wE_lcMap (ds := b.op.map .int) (f := fun d => match dStr d with | some x => x | none => .non) (by rw [List.length_map]; have := o.op.1; omega) (fun d m => ?_) ?_
  · obtain ⟨c, hc, rfl⟩ := List.mem_map.mp m
    obtain ⟨ρ', e1, e2⟩ := hw (.int c)
    rw [e1]
    have := o.op.2 c hc
    simp only [wO_some, wE_map, wE_var, e2, str_i this.1 this.2]
    exact ⟨trivial, trivial⟩
  · refine ⟨rfl, ?_⟩
    have q : (b.op.map D.int).map (fun d => match dStr d with | some x => x | none => .non) = sgn (b.op.map tx) := by
      rw [sgn, List.map_map, List.map_map]
      refine List.map_congr_left fun c hc => ?_
      have := o.op.2 c hc
      show (match dStr (.int c) with | some x => x | none => .non) = _
      rw [str_i this.1 this.2]
      rfl
    rw [q, join_e (b := 3) (fun w m => by
      obtain ⟨d, hd, rfl⟩ := List.mem_map.mp m
      exact (tx_len (o.op.2 d hd).1 (o.op.2 d hd).2).1) (by rw [List.length_map]; have := o.op.1; omega)]
    exact ⟨rfl, rfl⟩
theorem opif_wE {b : Slip} (o : b.ok) {ρ : PV.Env} {h : Hh} (hv : valAt ρ 4 = some (dints b.op)) (hw : ∀ d, ∃ ρ', tgV 12 d (wipeE ρ [12]) = some ρ' ∧ valAt ρ' 12 = some d) : wE (eIf (eAsB (eOp dNeD (eVar 4) (eTup (eNil)))) (eOp dJoin (chkS (eRet (.str ("" : Str)))) (eL (eLc [12] (eItems (eVar 4)) (tgV 12) (bYes) (eMap dStr (eVar 12))))) (eRet d_NO_GROUPS) ρ h) (fun d h' => d = .str (SX.S (opT b.op)) ∧ h' = h) noX := by
  have k := op_wE o (h := h) hv hw
  rw [wE_if]
  rw [wE_asB, wE_op, wE_var, hv]
  simp only [wO_some, wE_tup, wE_nil]
  refine ⟨by decide, ?_⟩
  rw [neI0]
  simp only [wO_some, asB_bl]
  by_cases e : b.op = []
  · have ee : b.op.isEmpty = true := by rw [e]; rfl
    simp only [ee, Bool.not_true, if_false, Bool.false_eq_true, wE_ret, opT, e, if_true]
    exact ⟨rfl, trivial⟩
  · have ee : b.op.isEmpty = false := by cases hq : b.op <;> simp_all
    simp only [ee, Bool.not_false, if_true]
    refine k.imp ?_
    rintro d h1 ⟨rfl, rfl⟩
    rw [opT, if_neg e]
    exact ⟨rfl, rfl⟩
theorem show_bill_ok {b : Slip} (o : b.ok) {h : Hh} : wF (m_show_bill [b.d] h) (fun y h' => y = .str (SX.S b.t) ∧ h' = h) noX := by
  have d1 := done_len o
  have d2 := op_len o
  have t0 := (tx_len o.n0.1 o.n0.2).1
  have t1 := (tx_len o.n1.1 o.n1.2).1
  have t2 := (tx_len o.n2.1 o.n2.2).1
  have t3 := (tx_len o.n3.1 o.n3.2).1
  have t4 := (tx_len o.n4.1 o.n4.2).1
  obtain ⟨g0, g1, g2, g3, g4, g5⟩ := sg_len
  have fmt := fmt_S (show (doneT b.dl).length ≤ 16777216 by omega)
  have tail2 : ∀ c12 : Cell, wS (sSeq (sSet 10 (eJoin [eMap dFmt (eVar 8), eRet (.str (" empty " : Str)), eMap dFmt (eVar 2), eRet (.str (" away " : Str)), eMap dFmt (eVar 3), eRet (.str (" opened " : Str)), eMap dFmt (eVar 9)] Str.empty)) (sRet (eJoin [eMap dFmt (eVar 10), eRet (.str (" served " : Str)), eMap dFmt (eVar 5), eRet (.str (" unserved " : Str)), eMap dFmt (eVar 6), eRet (.str (" melted " : Str)), eMap dFmt (eVar 7)] Str.empty))
      [.val b.d, .val (deedsD b.dl), .val (.int b.n0), .val (.int b.n1), .val (dints b.op), .val (.int b.n2), .val (.int b.n3), .val (.int b.n4), .val (.str (SX.S (doneT b.dl))), .val (.str (SX.S (opT b.op))), .un, .un, c12] h) (fin fun y h' => y = .str (SX.S b.t) ∧ h' = h) (fun c p x h1 => noX c p h1) := by
    intro c12
    and_intros
    simp only [wE_joinC, wE_join0]
    and_intros
    simp only [fmt, fmt_S (show (opT b.op).length ≤ 16777216 by omega), fmt_i o.n0.1 o.n0.2, fmt_i o.n1.1 o.n1.2, wO_some, sg_S, show (Str.empty : Str) = SX.S [] from rfl, SX.S_cat, SX.S_len, List.nil_append]
    have len : ∀ {l : List Nat}, l.length ≤ 400 → l.length ≤ 16777216 := fun h => by omega
    refine ⟨len (by omega), len (by simp only [List.length_append]; omega), len (by simp only [List.length_append]; omega), len (by simp only [List.length_append]; omega), len (by simp only [List.length_append]; omega), len (by simp only [List.length_append]; omega), len (by simp only [List.length_append]; omega), ?_⟩
    subst_vars
    simp only [wE_joinC, wE_join0]
    and_intros
    simp only [fmt_S (show (doneT b.dl ++ sg " empty " ++ tx b.n0 ++ sg " away " ++ tx b.n1 ++ sg " opened " ++ opT b.op).length ≤ 16777216 by simp only [List.length_append]; omega), fmt_i o.n2.1 o.n2.2, fmt_i o.n3.1 o.n3.2, fmt_i o.n4.1 o.n4.2, wO_some, sg_S, show (Str.empty : Str) = SX.S [] from rfl, SX.S_cat, SX.S_len, List.nil_append]
    refine ⟨len (by simp only [List.length_append]; omega), len (by simp only [List.length_append]; omega), len (by simp only [List.length_append]; omega), len (by simp only [List.length_append]; omega), len (by simp only [List.length_append]; omega), len (by simp only [List.length_append]; omega), len (by simp only [List.length_append]; omega), rfl, trivial⟩
  unfold m_show_bill
  refine wF_fn rfl ?_
  rw [wS_seq]
  simp only [wS_tg, wE_var, List.map_cons, List.map_nil, List.cons_append, List.nil_append, Nat.reduceSub, List.replicate_succ, List.replicate_zero, val_0, wO_some]
  simp only [Slip.d]
  simp only [tgT, tgAll, tgV, List.set_cons_zero, List.set_cons_succ, if_true, List.length_cons, List.length_nil, wO_some, Option.bind_some]
  rw [sq_next, wS_seq, wS_set]
  refine (done_wE o rfl fun d => ⟨_, rfl, rfl⟩).imp ?_
  rintro d h1 ⟨rfl, rfl⟩
  rw [sq_next, wS_seq, wS_set]
  refine (opif_wE o rfl fun d => ⟨_, rfl, rfl⟩).imp ?_
  rintro d h1 ⟨rfl, rfl⟩
  exact tail2 .un
end K84
end

section
set_option Elab.async false
set_option linter.all false
set_option maxRecDepth 100000
set_option maxHeartbeats 1000000
namespace K84
open PySem PV
theorem px0 {p : SP} : dIx p.d (.int 0) = some (.int p.s) := ix0
theorem px1 {p : SP} : dIx p.d (.int 1) = some (dints p.l1) := ix1
theorem px3 {p : SP} : dIx p.d (.int 3) = some (.tup [.int p.g, .int p.m]) := ix3
theorem px4 {p : SP} : dIx p.d (.int 4) = some (dints p.l2) := ix4
theorem neg1 : dNeg (.int 1) = some (.int (-1)) := rfl
theorem last_cho {m : Int} {l : List Int} (h : Cho m l) : ∃ x, dIx (dints l) (.int (-1)) = some (.int x) ∧ 1 ≤ x ∧ x ≤ m := by
  rcases h with ⟨s, rfl, h1, h2⟩ | ⟨s, t, rfl, h1, h2, h3⟩
  · exact ⟨s, rfl, h1, h2⟩
  · exact ⟨t, rfl, by omega, h3⟩
theorem add_tt' {a b : List D} (h : a.length + b.length ≤ 1000) : dAdd (.tup a) (.tup b) = some (.tup (a ++ b)) := if_pos (by omega)
/-- the deeds that may be drawn -/
def some_ (p : SP) : List (Option Int) := none :: p.l1.map some
theorem some_ok {p : SP} (o : p.ok) {d : Option Int} (h : d ∈ some_ p) : deedOk d ∧ ∃ z : Int, dIx (deedD d) (.int 1) = some (.int z) ∧ 1 ≤ z := by
  rcases List.mem_cons.mp h with rfl | h
  · exact ⟨trivial, 1, ix1, by decide⟩
  · obtain ⟨x, hx, rfl⟩ := List.mem_map.mp h
    have := cho_in o.c1 hx
    have := o.s1
    exact ⟨⟨by omega, by omega⟩, x, ix1, by omega⟩
theorem plain_slip (l : List (Option Int)) : dEqD (deedsD l) (.tup []) = some (.bl l.isEmpty) := by
  have e := d_eqT0 (plain_deeds l)
  rw [List.isEmpty_map] at e
  exact e
theorem plain_op (l : List Int) : dEqD (dints l) (.tup []) = some (.bl l.isEmpty) := by
  have e := d_eqT0 (plain_ints l)
  rw [List.isEmpty_map] at e
  exact e
theorem done2_wE {dl : List (Option Int)} (hl : dl.length ≤ 4) (hd : ∀ d ∈ dl, deedOk d) {ρ : PV.Env} {h : Hh} (hv : valAt ρ 3 = some (deedsD dl)) (hw : ∀ a b, ∃ ρ', tgT [tgV 15, tgV 16] (.tup [a, b]) (wipeE ρ [15, 16]) = some ρ' ∧ valAt ρ' 15 = some a ∧ valAt ρ' 16 = some b) :
    wE (eOp dJoin (chkS (eRet (.str (" " : Str)))) (eL (eLc [15, 16] (eItems (eVar 3)) (tgT [tgV 15, tgV 16]) (bYes) (eIf (eAsB (eOp dEqD (eVar 15) (eRet (.str ("single" : Str))))) (eRet (.str ("s" : Str))) (eOp dAdd (eRet (.str ("g" : Str))) (eMap dStr (eVar 16)))))) ρ h) (fun d h' => d = .str (SX.S (TL.joinL [32] (dl.map deedT))) ∧ h' = h) noX := by
  simp only [wE_op, wE_chkS, wE_ret, wO_some, wE_L, wE_lcE, wE_items, wE_var, hv, deedsD, itemsD]
  refine wE_lcMap (ds := dl.map deedD) (f := fun d => match m_show_deed [d] h with | .val x _ => x | .new x _ => x | _ => .non) (by rw [List.length_map]; omega) (fun d m => ?_) ?_
  · obtain ⟨c, hc, rfl⟩ := List.mem_map.mp m
    have oc := hd c hc
    obtain ⟨d, h', k, k2, k3⟩ := (show_deed_ok oc (h := h)).ok
    subst k2 k3
    have e : (match m_show_deed [deedD c] h' with | .val x _ => x | .new x _ => x | _ => D.non) = .str (SX.S (deedT c)) := by rcases k with k | k <;> rw [k]
    rw [e]
    cases c with
    | none =>
      obtain ⟨ρ', e1, e2, e3⟩ := hw (.str ("single" : Str)) (.int 1)
      simp only [deedD]
      rw [e1]
      simp only [wO_some, wE_if, wE_asB, wE_op, wE_var, e2, wE_ret, d_eqS, asB_bl, decide_true, if_true]
      exact ⟨rfl, trivial⟩
    | some x =>
      obtain ⟨ρ', e1, e2, e3⟩ := hw (.str ("group" : Str)) (.int x)
      have := (tx_len oc.1 oc.2).1
      simp only [deedD]
      rw [e1]
      simp only [wO_some, wE_if, wE_asB, wE_op, wE_var, e2, wE_ret, d_eqS, asB_bl, show decide (("group" : Str) = ("single" : Str)) = false from decide_eq_false (by decide +kernel), if_false, Bool.false_eq_true, wE_map, e3, str_i oc.1 oc.2]
      rw [show ("g" : Str) = SX.S [103] from rfl, add_S (by simp only [List.length_cons, List.length_nil]; omega)]
      exact ⟨rfl, trivial⟩
  · refine ⟨rfl, ?_⟩
    have q : (dl.map deedD).map (fun d => match m_show_deed [d] h with | .val x _ => x | .new x _ => x | _ => .non) = sgn (dl.map deedT) := by
      rw [sgn, List.map_map, List.map_map]
      refine List.map_congr_left fun c hc => ?_
      obtain ⟨d, h', k, k2, k3⟩ := (show_deed_ok (hd c hc) (h := h)).ok
      subst k2 k3
      show (match m_show_deed [deedD c] h' with | .val x _ => x | .new x _ => x | _ => .non) = _
      rcases k with k | k <;> (rw [k]; rfl)
    rw [q, join_sp (b := 4) (fun w m => by
      obtain ⟨d, hq, rfl⟩ := List.mem_map.mp m
      exact deedT_len (hd d hq)) (by rw [List.length_map]; omega)]
    exact ⟨rfl, rfl⟩
theorem pick1 {dl : List (Option Int)} : L2.atI [D.str (SX.S (TL.joinL [32] (dl.map deedT))), .str ("-" : Str)] (if dl.isEmpty = true then 1 else 0) = some (.str (SX.S (doneT dl))) := by
  cases dl with
  | nil => exact ix1
  | cons x l => exact ix0
theorem pick2 {l : List Int} : L2.atI [D.str (SX.S (TL.joinL [] (l.map tx))), .str ("-" : Str)] (if l.isEmpty = true then 1 else 0) = some (.str (SX.S (opT l))) := by
  cases l with
  | nil => exact ix1
  | cons x l => exact ix0
theorem add_sg {a : List Nat} {x : String} (h : a.length + (sg x).length ≤ 1000) : dAdd (.str (SX.S a)) (.str (Str.ofString x)) = some (.str (SX.S (a ++ sg x))) := by
  rw [sg_S, add_S (by omega)]
theorem add_tx {a b : List Nat} (h : a.length + b.length ≤ 1000) : dAdd (.str (SX.S a)) (.str (SX.S b)) = some (.str (SX.S (a ++ b))) := add_S (by omega)
theorem bill_tail {p : SP} (o : p.ok) {u n : Nat} {h : Hh} {dl : List (Option Int)} {left : Int} {op : List Int} {sv aw me : Int} {c4 c13 c14 : Cell} (hl : dl.length ≤ 4) (hd : ∀ d ∈ dl, deedOk d) (l0 : 0 ≤ left) (l1 : left ≤ p.s) (lo : op.length ≤ 2) (hop : ∀ i ∈ op, 0 ≤ i ∧ i < 30)
    (sv0 : 0 ≤ sv) (sv1 : sv < p.s - left + 1) (aw0 : 0 ≤ aw) (aw1 : aw < 30) (me0 : 0 ≤ me) (me1 : me < 30) (hn : n < 999999100) (U : Urn u n h) :
    wS ((sSeq (sSet 9 (eLst (eCons (eOp dIx (eLst (eCons (eRet (.int 0)) (eCons (eVar 2) (eNil)))) (eCall m_law_draw [] (eCons (eVar 0) (eCons (eRet (.int 2)) (eNil))))) (eCons (eVar 7) (eCons (eVar 6) (eCons (eOp dSub (eOp dSub (eOp dIx (eVar 1) (eRet (.int 0))) (eVar 2)) (eVar 6)) (eCons (eVar 8) (eNil)))))))) <| sSeq (sSet 10 (eOp dJoin (chkS (eRet (.str (" " : Str)))) (eL (eLc [15, 16] (eItems (eVar 3)) (tgT [tgV 15, tgV 16]) (bYes) (eIf (eAsB (eOp dEqD (eVar 15) (eRet (.str ("single" : Str))))) (eRet (.str ("s" : Str))) (eOp dAdd (eRet (.str ("g" : Str))) (eMap dStr (eVar 16)))))))) <| sSeq (sSet 11 (eOp dAdd (eOp dAdd (eOp dAdd (eOp dAdd (eOp dAdd (eOp dIx (eLst (eCons (eVar 10) (eCons (eRet (.str ("-" : Str))) (eNil)))) (eMap dInt (eOp dEqD (eVar 3) (eTup (eNil))))) (eRet (.str (" empty " : Str)))) (eMap dStr (eOp dIx (eVar 9) (eRet (.int 0))))) (eRet (.str (" away " : Str)))) (eMap dStr (eOp dIx (eVar 9) (eRet (.int 1))))) (eRet (.str (" opened " : Str))))) <| sSeq (sSet 11 (eOp dAdd (eOp dAdd (eOp dAdd (eVar 11) (eOp dIx (eLst (eCons (eOp dJoin (chkS (eRet (.str ("" : Str)))) (eL (eLc [17] (eItems (eVar 5)) (tgV 17) (bYes) (eMap dStr (eVar 17))))) (eCons (eRet (.str ("-" : Str))) (eNil)))) (eMap dInt (eOp dEqD (eVar 5) (eTup (eNil)))))) (eRet (.str (" served " : Str)))) (eMap dStr (eOp dIx (eVar 9) (eRet (.int 2)))))) <| sSeq (sSet 11 (eOp dAdd (eOp dAdd (eOp dAdd (eOp dAdd (eVar 11) (eRet (.str (" unserved " : Str)))) (eMap dStr (eOp dIx (eVar 9) (eRet (.int 3))))) (eRet (.str (" melted " : Str)))) (eMap dStr (eOp dIx (eVar 9) (eRet (.int 4)))))) <| sSeq (sSet 12 (eTup (eCons (eVar 3) (eCons (eOp dIx (eVar 9) (eRet (.int 0))) (eCons (eOp dIx (eVar 9) (eRet (.int 1))) (eCons (eVar 5) (eCons (eOp dIx (eVar 9) (eRet (.int 2))) (eCons (eOp dIx (eVar 9) (eRet (.int 3))) (eCons (eOp dIx (eVar 9) (eRet (.int 4))) (eNil)))))))))) <| sRet (eAndV (eCall (m_law_same 6) [] (eCons (eCall m_show_bill [] (eCons (eVar 12) (eNil))) (eCons (eVar 11) (eNil)))) (eOp dEqD (eCall m_show_bill [] (eKwA [0] [] eNil (eLen 1 (eCons (eVar 12) (eNil))))) (eVar 11)))) [.val (.obj u), .val p.d, .val (.int left), .val (deedsD dl), c4, .val (dints op), .val (.int sv), .val (.int aw), .val (.int me), .un, .un, .un, .un, c13, c14, .un, .un, .un] h)
      (fin fun d h' => d = .bl true ∧ Urn u (n + 1) h') (fun c p x h1 => noX c p h1) := by
  have s0 := o.s0
  have s1 := o.s1
  and_intros
  refine ⟨by decide, ?_⟩
  refine (draw_ok u n 2 _ (by omega) (by omega) (by omega) U).imp ?_
  rintro d h1 ⟨k, rfl, k0, k1, U1⟩
  subst_eqs
  refine at_each k0 (by simpa using k1) fun x hx => ?_
  obtain ⟨n0, rfl, n00, n01⟩ : ∃ n0 : Int, x = .int n0 ∧ 0 ≤ n0 ∧ n0 < 30 := by
    simp only [List.mem_cons, List.not_mem_nil, or_false] at hx
    rcases hx with rfl | rfl
    · exact ⟨0, rfl, by decide, by decide⟩
    · exact ⟨left, rfl, l0, by omega⟩
  simp only [px0, wO_some]
  subst_eqs
  refine ⟨by simp, ?_⟩
  have bo : (⟨dl, n0, aw, op, sv, p.s - left - sv, me⟩ : Slip).ok := ⟨⟨hl, hd⟩, ⟨n00, n01⟩, ⟨aw0, aw1⟩, ⟨lo, hop⟩, ⟨sv0, by show sv < 30; omega⟩, ⟨by show 0 ≤ p.s - left - sv; omega, by show p.s - left - sv < 30; omega⟩, ⟨me0, me1⟩⟩
  generalize hb : (⟨dl, n0, aw, op, sv, p.s - left - sv, me⟩ : Slip) = b at bo
  have d1 := done_len bo
  have d2 := op_len bo
  have t0 := (tx_len bo.n0.1 bo.n0.2).1
  have t1 := (tx_len bo.n1.1 bo.n1.2).1
  have t2 := (tx_len bo.n2.1 bo.n2.2).1
  have t3 := (tx_len bo.n3.1 bo.n3.2).1
  have t4 := (tx_len bo.n4.1 bo.n4.2).1
  have e0 := str_i bo.n0.1 bo.n0.2
  have e1 := str_i bo.n1.1 bo.n1.2
  have e2 := str_i bo.n2.1 bo.n2.2
  have e3 := str_i bo.n3.1 bo.n3.2
  have e4 := str_i bo.n4.1 bo.n4.2
  obtain ⟨g0, g1, g2, g3, g4, g5⟩ := sg_len
  have opw := fun (ρ : PV.Env) (h : Hh) => op_wE bo (ρ := ρ) (h := h) (i := 5) (v := 17)
  have sbo := fun (h : Hh) => show_bill_ok bo (h := h)
  simp only [Slip.d, Slip.t] at sbo
  subst hb
  simp only at d1 d2 t0 t1 t2 t3 t4 e0 e1 e2 e3 e4 opw sbo
  rw [sq_next, wS_seq, wS_set]
  refine (done2_wE hl hd rfl fun a b => ⟨_, rfl, rfl, rfl⟩).imp ?_
  rintro d h2 ⟨rfl, rfl⟩
  subst_vars
  refine ⟨by decide, by decide, ?_⟩
  rw [plain_slip]
  subst_eqs
  rw [pick1]
  simp only [e0, e1, wO_some]
  rw [add_sg (by omega)]
  simp only [wO_some]
  rw [add_tx (by simp only [List.length_append]; omega)]
  simp only [wO_some]
  rw [add_sg (by simp only [List.length_append]; omega)]
  simp only [wO_some]
  rw [add_tx (by simp only [List.length_append]; omega)]
  simp only [wO_some]
  rw [add_sg (by simp only [List.length_append]; omega)]
  simp only [wO_some]
  rw [sq_next, wS_seq, wS_set]
  rw [wE_op, wE_op, wE_op, wE_var]
  simp only [List.set_cons_zero, List.set_cons_succ, val_s, val_0, wO_some]
  rw [wE_op, wE_lst, wE_cons]
  refine (opw _ _ rfl fun d => ⟨_, rfl, rfl⟩).imp ?_
  rintro d h3 ⟨rfl, rfl⟩
  and_intros
  refine ⟨by decide, by decide, ?_⟩
  rw [plain_op]
  subst_eqs
  rw [pick2]
  simp only [wO_some]
  rw [add_tx (by simp only [List.length_append]; omega)]
  simp only [wO_some]
  rw [add_sg (by simp only [List.length_append]; omega)]
  subst_eqs
  simp only [e2, wO_some]
  rw [add_tx (by simp only [List.length_append]; omega)]
  simp only [wO_some]
  subst_vars
  rw [add_sg (by simp only [List.length_append]; omega)]
  simp only [e3, wO_some]
  rw [add_tx (by simp only [List.length_append]; omega)]
  simp only [wO_some]
  rw [add_sg (by simp only [List.length_append]; omega)]
  simp only [e4, wO_some]
  rw [add_tx (by simp only [List.length_append]; omega)]
  simp only [wO_some]
  subst_vars
  refine ⟨by decide, ?_⟩
  subst_vars
  have sb := sbo h3
  refine sb.imp ?_
  rintro d h4 ⟨rfl, rfl⟩
  refine (same_str 5 _ _).imp ?_
  rintro d h5 ⟨rfl, rfl⟩
  simp only [tr_bl, wO_some, decide_true, if_true]
  refine ⟨trivial, ?_⟩
  have sb := sbo h5
  refine sb.imp ?_
  rintro d h6 ⟨rfl, rfl⟩
  subst_eqs
  simp only [decide_true]
  exact ⟨trivial, U1⟩
theorem bill_right_ok {p : SP} (o : p.ok) {u n : Nat} {h : Hh} (hn : n < 999999000) (U : Urn u n h) :
    wF (m_law_bill_right [.obj u, p.d] h) (fun d h' => d = .bl true ∧ Urn u (n + 200) h') noX := by
  have hlen := cho_len o.c1
  have hlen2 := cho_len o.c2
  have s0 := o.s0
  have s1 := o.s1
  unfold m_law_bill_right
  refine wF_fn rfl ?_
  and_intros
  simp only [px0, wO_some]
  refine ⟨by decide, ?_⟩
  subst_vars
  refine (draw_ok u n 5 _ (by omega) (by omega) (by omega) U).imp ?_
  rintro d h1 ⟨k, rfl, k0, k1, U1⟩
  obtain ⟨k, rfl⟩ := Int.eq_ofNat_of_zero_le k0
  subst_eqs
  rw [rng_nat k (by omega)]
  subst_eqs
  refine wS_for (I := fun i ρ h' => ∃ (dl : List (Option Int)) (left : Int) (c4 c13 c14 : Cell), dl.length ≤ i ∧ (∀ d ∈ dl, deedOk d) ∧ 0 ≤ left ∧ left ≤ p.s ∧ ρ = [.val (.obj u), .val p.d, .val (.int left), .val (deedsD dl), c4, .un, .un, .un, .un, .un, .un, .un, .un, c13, c14, .un, .un, .un] ∧ Urn u (n + 1 + i) h') (n := 0)
    ⟨[], p.s, .un, .un, .un, Nat.le_refl _, fun d m => (by cases m), by omega, Int.le_refl _, rfl, U1⟩ ?_ ?_
  · rintro i d ρ h' ei ⟨dl, left, c4, c13, c14, hl, hd, l0, l1, rfl, V⟩
    rw [Nat.zero_add] at *
    have hi : i < k := by simpa using (List.getElem?_eq_some_iff.mp ei).1
    and_intros
    refine ⟨by decide, by decide, ?_⟩
    simp only [px1, wO_some]
    simp only [dints, itemsD, wO_some]
    refine wE_lcMap (f := fun d => .tup [.str ("group" : Str), d]) (by rw [List.length_map]; omega) (fun d m => ?_) ?_
    · and_intros
      exact ⟨by decide, trivial, trivial⟩
    · rw [show D.lst [.tup [.str ("single" : Str), .int 1]] = .lst [deedD none] from rfl]
      have ec : dCat (.lst [deedD none]) (.lst ((p.l1.map D.int).map fun d => .tup [.str ("group" : Str), d])) = some (.lst ((some_ p).map deedD)) := by
        show (if 1 + ((p.l1.map D.int).map fun d => D.tup [.str ("group" : Str), d]).length ≤ 16777216 then some (D.lst ([deedD none] ++ (p.l1.map D.int).map fun d => D.tup [.str ("group" : Str), d])) else none) = _
        rw [List.length_map, List.length_map, if_pos (by omega), some_, List.map_cons, List.map_map, List.map_map]
        rfl
      rw [ec]
      subst_vars
      rw [List.length_map]
      have sl : (some_ p).length = p.l1.length + 1 := by simp [some_]
      refine (draw_ok u _ _ _ (by omega) (by omega) (by omega) V).imp ?_
      rintro d h2 ⟨j, rfl, j0, j1, U2⟩
      obtain ⟨j, rfl⟩ := Int.eq_ofNat_of_zero_le j0
      have hj : j < (some_ p).length := by omega
      subst_eqs
      rw [List.getElem?_map, List.getElem?_eq_getElem hj]
      have hm := List.getElem_mem hj
      generalize (some_ p)[j] = dd at hm
      obtain ⟨od, z, ez, hz⟩ := some_ok o hm
      simp only [Option.map_some]
      subst_vars
      simp only [ez, wO_some]
      subst_eqs
      by_cases c : z ≤ left
      · rw [decide_eq_true c]
        simp only [if_true]
        refine ⟨by simp, ?_⟩
        simp only [deedsD]
        rw [add_tt' (by rw [List.length_map]; simp; omega)]
        simp only [wO_some]
        subst_eqs
        rw [show D.tup (dl.map deedD ++ [deedD dd]) = deedsD (dl ++ [dd]) from by rw [deedsD, List.map_append]; rfl]
        refine ⟨dl ++ [dd], left - z, _, _, _, by rw [List.length_append, List.length_singleton]; omega, fun x m => ?_, by omega, by omega, rfl, U2⟩
        · rcases List.mem_append.mp m with m | m
          · exact hd x m
          · rw [List.mem_singleton.mp m]; exact od
      · rw [decide_eq_false c]
        simp only [if_false, Bool.false_eq_true]
        exact ⟨dl, left, _, _, _, by omega, hd, l0, l1, rfl, U2⟩
  · rintro ρ h' ⟨dl, left, c4, c13, c14, hl, hd, l0, l1, rfl, V⟩
    rw [List.length_map, List.length_range, Nat.zero_add] at *
    subst_vars
    refine (draw_ok u _ 3 _ (by omega) (by omega) (by omega) V).imp ?_
    rintro d h2 ⟨k3, rfl, k30, k31, V1⟩
    obtain ⟨k3, rfl⟩ := Int.eq_ofNat_of_zero_le k30
    subst_eqs
    rw [rng_nat k3 (by omega)]
    subst_eqs
    have zz : ((List.range k3).map fun i => D.int ((i : Nat) : Int)).length = k3 := by simp
    refine wE_lcAll (fun i h => Urn u (n + 6 + i) h) (fun d => ∃ i : Int, d = .int i ∧ 0 ≤ i ∧ i < 30) (by rw [zz]; omega) (V1.mono (by omega)) (fun i d h' e V => ?_) fun ys h6 yl yP V => ?_
    · have hi : i < k3 := by
        have := (List.getElem?_eq_some_iff.mp e).1
        rw [zz] at this
        exact this
      and_intros
      simp only [px4, wO_some]
      simp only [dints]
      subst_eqs
      refine (draw_ok u _ _ _ (by rw [List.length_map]; omega) (by rw [List.length_map]; omega) (by omega) V).imp ?_
      rintro d h5 ⟨m, rfl, m0, m1, U5⟩
      rw [List.length_map] at m1
      subst_eqs
      obtain ⟨x, ex, hx⟩ := ix_ints m0 m1
      rw [ex]
      have := cho_in o.c2 hx
      exact ⟨⟨x, rfl, by omega, by omega⟩, U5.mono (by omega)⟩
    · rw [zz] at yl V
      obtain ⟨op, eop, hop⟩ : ∃ op : List Int, ys = op.map D.int ∧ ∀ i ∈ op, 0 ≤ i ∧ i < 30 := by
        have : ∀ ys : List D, (∀ y ∈ ys, ∃ i : Int, y = .int i ∧ 0 ≤ i ∧ i < 30) → ∃ op : List Int, ys = op.map D.int ∧ ∀ i ∈ op, 0 ≤ i ∧ i < 30 := fun ys => by
          induction ys with
          | nil => exact fun _ => ⟨[], rfl, fun c m => (by cases m)⟩
          | cons y ys ih =>
            intro h
            obtain ⟨c, rfl, oc⟩ := h y (by simp)
            obtain ⟨r, rfl, hr⟩ := ih fun z m => h z (by simp [m])
            exact ⟨c :: r, rfl, fun x m => by rcases List.mem_cons.mp m with rfl | m; exact oc; exact hr x m⟩
        exact this ys yP
      subst eop
      rw [List.length_map] at yl
      refine ⟨rfl, ?_⟩
      subst_vars
      simp only [px0, wO_some]
      subst_eqs
      refine (draw_ok u (n + 10) _ _ (by omega) (by omega) (by omega) (V.mono (by omega))).imp ?_
      rintro d h7 ⟨sv, rfl, sv0, sv1, V2⟩
      subst_vars
      simp only [px3, px1, neg1, wO_some]
      subst_eqs
      obtain ⟨x1, ex1, x10, x11⟩ := last_cho o.c1
      obtain ⟨x2, ex2, x20, x21⟩ := last_cho o.c2
      rw [ex1]
      subst_eqs
      have hg := o.g
      have hg' := o.g'
      have hm := o.m
      have hm' := o.m'
      rw [d_mul (mul_ok 10 10 (by omega) (by omega) (by omega))]
      subst_eqs
      have gx : 0 ≤ p.g * x1 ∧ p.g * x1 ≤ 4 := by
        rcases (show p.g = 0 ∨ p.g = 1 by omega) with e | e <;> rw [e] <;> omega
      refine (draw_ok u _ _ _ (by omega) (by omega) (by omega) V2).imp ?_
      rintro d h8 ⟨aw, rfl, aw0, aw1, V3⟩
      subst_vars
      simp only [px4, neg1, wO_some]
      rw [ex2]
      subst_eqs
      rw [d_mul (mul_ok 10 10 (by omega) (by omega) (by omega))]
      subst_eqs
      refine (draw_ok u _ _ _ (by omega) (by omega) (by omega) V3).imp ?_
      rintro d h9 ⟨me, rfl, me0, me1, V4⟩
      subst_vars
      simp only [px0, wO_some]
      subst_eqs
      by_cases c : sv < p.s - left
      · rw [decide_eq_true c]
        simp only [if_true]
        rw [sq_next]
        refine (bill_tail o (by omega) hd l0 l1 (by omega) hop sv0 sv1 aw0 (by omega) (Int.le_refl 0) (by decide) (by omega) V4).imp ?_
        intro a ρ h' k
        revert k
        cases a <;> first | exact fun k => k | exact fun ⟨k1, k2⟩ => ⟨k1, k2.mono (by omega)⟩
      · rw [decide_eq_false c]
        simp only [if_false, Bool.false_eq_true]
        rw [sq_next]
        refine (bill_tail o (by omega) hd l0 l1 (by omega) hop sv0 sv1 aw0 (by omega) me0 (by omega) (by omega) V4).imp ?_
        intro a ρ h' k
        revert k
        cases a <;> first | exact fun k => k | exact fun ⟨k1, k2⟩ => ⟨k1, k2.mono (by omega)⟩
end K84
end

section
set_option Elab.async false
set_option linter.all false
set_option maxRecDepth 100000
set_option maxHeartbeats 1000000
namespace K84
open PySem PV
theorem coms_of {p : SP} : ∀ ys : List D, (∀ y ∈ ys, ∃ c : Com, y = c.d ∧ c.ok p) → ∃ r : List Com, ys = r.map Com.d ∧ ∀ c ∈ r, c.ok p := fun ys => by
  induction ys with
  | nil => exact fun _ => ⟨[], rfl, fun c m => (by cases m)⟩
  | cons y ys ih =>
    intro h
    obtain ⟨c, rfl, oc⟩ := h y (by simp)
    obtain ⟨r, rfl, hr⟩ := ih fun z m => h z (by simp [m])
    exact ⟨c :: r, rfl, fun x m => by rcases List.mem_cons.mp m with rfl | m; exact oc; exact hr x m⟩
theorem law_wV (ns : List Int) (hz : ns.length ≤ 63) : wV (m_law [.lst (ns.map .int)] []) (fun d _ => d = .bl true) noX := by
  unfold m_law
  refine wV_fn rfl ?_
  and_intros
  subst_eqs
  obtain ⟨m, em, hm⟩ : ∃ m : Nat, (if (if (((ns.map D.int).length : Nat) : Int) + 1 < 2 then (((ns.map D.int).length : Nat) : Int) + 1 else 2) > 1 then (if (((ns.map D.int).length : Nat) : Int) + 1 < 2 then (((ns.map D.int).length : Nat) : Int) + 1 else 2) else (1 : Int)) = (m : Int) ∧ m ≤ 2 := by
    by_cases c : ns.length = 0
    · exact ⟨1, by rw [List.length_map, c]; decide, by decide⟩
    · exact ⟨2, by rw [List.length_map, if_neg (show ¬ ((ns.length : Nat) : Int) + 1 < 2 by omega), if_pos (by decide)]; rfl, by decide⟩
  rw [em, rng_nat m (by omega)]
  subst_eqs
  refine wS_for (I := fun i ρ h' => ∃ c1 c2 c3 c4 c5, ρ = [.val (.lst (ns.map .int)), c1, c2, c3, c4, c5, .un]) (n := 0) ⟨.un, .un, .un, .un, .un, rfl⟩ ?_ ?_
  · rintro i d ρ h' ei ⟨c1, c2, c3, c4, c5, rfl⟩
    have hi : i < m := by simpa using (List.getElem?_eq_some_iff.mp ei).1
    have ed : d = .int (i : Int) := by
      rw [List.getElem?_map, List.getElem?_range hi] at ei
      exact (Option.some.inj ei).symm
    subst ed
    and_intros
    refine (urn_ok (k := i) (by omega)).imp ?_
    rintro d h1 ⟨rfl, U⟩
    generalize h1 ++ [Ob.box d] = h2 at U
    generalize h1.length = u at U
    subst_vars
    refine (setup_ok (by omega) U).imp ?_
    rintro d h3 ⟨p, rfl, o, U1⟩
    subst_vars
    rw [show rngD 0 2 = _ from rng_nat 2 (by decide)]
    subst_eqs
    refine wS_for (I := fun j ρ h' => ∃ c4 c5, ρ = [.val (.lst (ns.map .int)), .val (.int i), .val (.obj u), .val p.d, c4, c5, .un] ∧ Urn u (20 + 1000 * j) h') (n := 0) ⟨c4, c5, rfl, U1.mono (by omega)⟩ ?_ ?_
    · rintro j d ρ h' ej ⟨c4, c5, rfl, V⟩
      rw [Nat.zero_add] at *
      have hj : j < 2 := by simpa using (List.getElem?_eq_some_iff.mp ej).1
      and_intros
      refine (draw_ok u _ 10 _ (by omega) (by omega) (by omega) V).imp ?_
      rintro d h4 ⟨k, rfl, k0, k1, V1⟩
      obtain ⟨k, rfl⟩ := Int.eq_ofNat_of_zero_le k0
      subst_eqs
      rw [rng_nat k (by omega)]
      subst_eqs
      have zz : ((List.range k).map fun i => D.int ((i : Nat) : Int)).length = k := by simp
      refine wE_lcAll (fun i h => Urn u (20 + 1000 * j + 1 + 5 * i) h) (fun d => ∃ c : Com, d = c.d ∧ c.ok p) (by rw [zz]; omega) V1 (fun i d h' e V => ?_) fun ys h6 yl yP V => ?_
      · have hi : i < k := by
          have := (List.getElem?_eq_some_iff.mp e).1
          rw [zz] at this
          exact this
        and_intros
        refine (comers_ok o (by omega) V).imp ?_
        rintro d h5 ⟨c, rfl, oc, U5⟩
        exact ⟨⟨c, rfl, oc⟩, U5.mono (by omega)⟩
      · rw [zz] at yl V
        obtain ⟨r, rfl, hr⟩ := coms_of ys yP
        rw [List.length_map] at yl
        subst_vars
        rw [show D.lst (r.map Com.d) = rowD r from rfl]
        refine (row_right_ok o hr (by omega) (by omega) V).imp ?_
        rintro d h7 ⟨rfl, V2⟩
        simp only [tr_bl, wO_some, Bool.not_true, if_false, Bool.false_eq_true]
        refine (bill_right_ok o (by omega) V2).imp ?_
        rintro d h8 ⟨rfl, V3⟩
        simp only [tr_bl, wO_some, Bool.not_true, if_false, Bool.false_eq_true]
        exact ⟨_, _, rfl, V3.mono (by omega)⟩
    · rintro ρ h' ⟨c4, c5, rfl, V⟩
      rw [List.length_map, List.length_range, Nat.zero_add] at V
      subst_vars
      refine (long_ok o (by omega) V).imp ?_
      rintro d h7 ⟨rfl, V2⟩
      simp only [tr_bl, wO_some, Bool.not_true, if_false, Bool.false_eq_true]
      refine (refused_ok o (by omega) V2).imp ?_
      rintro d h8 ⟨rfl, V3⟩
      simp only [tr_bl, wO_some, Bool.not_true, if_false, Bool.false_eq_true]
      exact ⟨_, _, _, _, _, rfl⟩
  · rintro ρ h' ⟨c1, c2, c3, c4, c5, rfl⟩
    subst_vars
theorem plain (ns : List Int) (hz : ns.length ≤ 63) : ∃ h, m_law [.lst (ns.map .int)] [] = .val (.bl true) h := by
  have k := law_wV ns hz
  revert k
  cases m_law [.lst (ns.map .int)] [] with
  | val d h =>
    intro k
    exact ⟨h, by rw [show d = .bl true from k]⟩
  | stuck => exact fun k => k.elim
  | exc c p h => exact fun k => k.elim
  | new d h => exact fun k => k.elim
end K84
end

set_option maxRecDepth 100000 in
set_option maxHeartbeats 8000000 in
theorem PySem.Challenge.cw_parlourday_k84_rows_and_bills_written_holds : PySem.Challenge.rw_parlourday_k84_rows_and_bills_written.Holds := by
  exact K84_holds K84.plain

