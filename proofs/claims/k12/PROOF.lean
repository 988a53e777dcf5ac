import PyProof.Rows.All
import Wide.All
import OpenK.AllK
import Wide.FinOn
import KE.KStateDown
import HandS.ForMost
import HandS.Defaults
import HandS.IsInst
import HandS.Wide
import HandS.WideBits
import HandS.TupAny
import HandS.Gcd
import HandS.Exc
import HandS.ExcOwn
import HandS.WordsExc
import HandS.Deep
import HandS.Zip
import HandS.HeadHook1
import HandS.HeadHook2
import HandS.HeadEnd
import HandS.Comp
import HandS.DictComp
import HandS.Iter
import HandS.Text
import HandS.CallSlots
import HandS.Flow
import HandS.Lambda
import HandS.FStr
import HandS.Steps
import KE.DataMinMax
import PyProof.Rows.SortShellAny
import HandS.Conv
import HandS.ExcIs
import HandS.ExcField
import HandS.ExcValue
import HandS.ExcInit
import PyProof.StrOps2
import HandS.SetFor
import KE.KExcSuper
import HandS.Nested
import HandS.Head0
import HandS.Head1
import HandS.Head2
import PySem.Challenge.RW_behindtaps_k12_texts_of_nets_there_and_b
import KE.IntBitsLaws
import KE.IntTextLaws
import PyProof.P3Eq
import HandS.HeadHook4
import HandS.Head3
import PyProof.Rows.RegStrFacts
import HandS.HeadWalk
section S_DL1
set_option Elab.async false
set_option linter.all false
set_option maxRecDepth 100000
set_option maxHeartbeats 4000000
/-! DL1: plain data for Python's values, denotations, the relation between a frame and its data. -/
namespace DL
open PySem PySem.Spec PyProof.Rows L2

/-- data -/
inductive D where
  | non | bl (b : Bool) | int (i : Int) | str (x : Str)
  | tup (l : List D) | lst (l : List D)
  | dct (l : List (D × D))
  | xc (c : Str) (l : List (Str × D))

/-! ### heaps that grow -/
def Ex (H H' : Hp) : Prop := ∀ a o, H a = some o → H' a = some o
theorem Ex.refl (H : Hp) : Ex H H := fun _ _ h => h
theorem Ex.trans {H H1 H2 : Hp} (a : Ex H H1) (b : Ex H1 H2) : Ex H H2 := fun x o h => b x o (a x o h)
theorem Ex.new {H : Hp} {p : Addr} {o : HO} (h : H p = none) : Ex H (upd H p o) := fun a u e => by
  rw [upd_ne (ne_of_none e h)]
  exact e
theorem Ex.noneOf {H H' : Hp} (e : Ex H H') {p : Addr} (h : H' p = none) : H p = none := by
  cases h1 : H p with
  | none => rfl
  | some o => rw [e p o h1] at h; cases h
theorem Ex.sqt {K : PySem.W.Frag} {H H' : Hp} {a : Addr} {xs : List V} (e : Ex H H') (h : SqT K H a xs) : SqT K H' a xs := by
  rcases h with (h | ⟨o, h⟩) | h
  · exact .inl (.inl (e _ _ h))
  · exact .inl (.inr ⟨o, e _ _ h⟩)
  · exact .inr h

/-- a caught exception that is kept: its class, its dict -/
def exH (cls : Value) (d : Option Addr) (a : Addr) : HO := .ext fun h => ∃ (oe : Obj) (vs : Array Value), h.get? a = some oe ∧ Zc cls d oe ∧ oe.data = .fields vs
/-! ### what a value stands for -/
mutual
inductive Rep (K : PySem.W.Frag) (B : Hp) : V → D → Prop
  | non : Rep K B .non .non
  | bl (b : Bool) : Rep K B (.bl b) (.bl b)
  | int (i : Int) : Rep K B (.int i) (.int i)
  | str (x : Str) : Rep K B (.str x) (.str x)
  | lst {a : Addr} {xs : List V} {ds : List D} : B a = some (.lst xs) → xs.length ≤ sizeLine → Reps K B xs ds → Rep K B (.ref a) (.lst ds)
  | tup {a : Addr} {xs : List V} {ds : List D} : SqT K B a xs → xs.length ≤ sizeLine → Reps K B xs ds → Rep K B (.ref a) (.tup ds)
  | xc0 {a : Addr} {n : Str} : B a = some (exH (.ref (He.ga K n)) none a) → Rep K B (.ref a) (.xc n [])
  | xc1 {a dd : Addr} {n k : Str} {v : V} {d : D} : B a = some (exH (.ref (He.ga K n)) (some dd) a) → B dd = some (.xd [(k, v)]) → Rep K B v d → Rep K B (.ref a) (.xc n [(k, d)])
inductive Reps (K : PySem.W.Frag) (B : Hp) : List V → List D → Prop
  | nil : Reps K B [] []
  | cons {v : V} {vs : List V} {d : D} {ds : List D} : Rep K B v d → Reps K B vs ds → Reps K B (v :: vs) (d :: ds)
end
section
variable {K : PySem.W.Frag} {B B' : Hp}
theorem rep_mono (e : Ex B B') : ∀ {v : V} {d : D}, Rep K B v d → Rep K B' v d := by
  intro v d h
  refine Rep.rec (motive_1 := fun v d _ => Rep K B' v d) (motive_2 := fun vs ds _ => Reps K B' vs ds) ?_ ?_ ?_ ?_ ?_ ?_ ?_ ?_ ?_ ?_ h
  · exact .non
  · exact .bl
  · exact .int
  · exact .str
  · intro a xs ds h1 h2 _ h3; exact .lst (e _ _ h1) h2 h3
  · intro a xs ds h1 h2 _ h3; exact .tup (e.sqt h1) h2 h3
  · intro a n h1; exact .xc0 (e _ _ h1)
  · intro a dd n k v d h1 h2 _ h3; exact .xc1 (e _ _ h1) (e _ _ h2) h3
  · exact .nil
  · intro v vs d ds _ _ h1 h2; exact .cons h1 h2
theorem reps_mono (e : Ex B B') : ∀ {v : List V} {d : List D}, Reps K B v d → Reps K B' v d := by
  intro v d h
  refine Reps.rec (motive_1 := fun v d _ => Rep K B' v d) (motive_2 := fun vs ds _ => Reps K B' vs ds) ?_ ?_ ?_ ?_ ?_ ?_ ?_ ?_ ?_ ?_ h
  · exact .non
  · exact .bl
  · exact .int
  · exact .str
  · intro a xs ds h1 h2 _ h3; exact .lst (e _ _ h1) h2 h3
  · intro a xs ds h1 h2 _ h3; exact .tup (e.sqt h1) h2 h3
  · intro a n h1; exact .xc0 (e _ _ h1)
  · intro a dd n k v d h1 h2 _ h3; exact .xc1 (e _ _ h1) (e _ _ h2) h3
  · exact .nil
  · intro v vs d ds _ _ h1 h2; exact .cons h1 h2
theorem Rep.up {v : V} {d : D} (h : Rep K B v d) (e : Ex B B') : Rep K B' v d := rep_mono e h
theorem Reps.up {v : List V} {d : List D} (h : Reps K B v d) (e : Ex B B') : Reps K B' v d := reps_mono e h
theorem Reps.len : ∀ {vs : List V} {ds : List D}, Reps K B vs ds → vs.length = ds.length
  | _, _, .nil => rfl
  | _, _, .cons _ t => congrArg Nat.succ (Reps.len t)
theorem Reps.app : ∀ {vs ws : List V} {ds es : List D}, Reps K B vs ds → Reps K B ws es → Reps K B (vs ++ ws) (ds ++ es)
  | _, _, _, _, .nil, q => q
  | _, _, _, _, .cons h t, q => .cons h (Reps.app t q)
theorem Reps.get : ∀ {vs : List V} {ds : List D} {i : Nat} {d : D}, Reps K B vs ds → ds[i]? = some d → ∃ v, vs[i]? = some v ∧ Rep K B v d
  | _, _, _, _, .nil, h => by simp at h
  | _, _, 0, _, .cons h t, e => by simp at e; subst e; exact ⟨_, rfl, h⟩
  | _, _, i + 1, _, .cons h t, e => by
    obtain ⟨v, h1, h2⟩ := Reps.get (i := i) t (by simpa using e)
    exact ⟨v, by simpa using h1, h2⟩
theorem Reps.getV : ∀ {vs : List V} {ds : List D} {i : Nat} {v : V}, Reps K B vs ds → vs[i]? = some v → ∃ d, ds[i]? = some d ∧ Rep K B v d
  | _, _, _, _, .nil, h => by simp at h
  | _, _, 0, _, .cons h t, e => by simp at e; subst e; exact ⟨_, rfl, h⟩
  | _, _, i + 1, _, .cons h t, e => by
    obtain ⟨v, h1, h2⟩ := Reps.getV (i := i) t (by simpa using e)
    exact ⟨v, by simpa using h1, h2⟩
theorem Reps.take : ∀ {vs : List V} {ds : List D} (n : Nat), Reps K B vs ds → Reps K B (vs.take n) (ds.take n)
  | _, _, 0, _ => .nil
  | _, _, _ + 1, .nil => .nil
  | _, _, n + 1, .cons h t => .cons h (Reps.take n t)
theorem Reps.drop : ∀ {vs : List V} {ds : List D} (n : Nat), Reps K B vs ds → Reps K B (vs.drop n) (ds.drop n)
  | _, _, 0, h => h
  | _, _, _ + 1, .nil => .nil
  | _, _, n + 1, .cons h t => Reps.drop n t
theorem Reps.erase : ∀ {vs : List V} {ds : List D} (n : Nat), Reps K B vs ds → Reps K B (vs.eraseIdx n) (ds.eraseIdx n)
  | _, _, _, .nil => .nil
  | _, _, 0, .cons h t => t
  | _, _, n + 1, .cons h t => .cons h (Reps.erase n t)
theorem Reps.set : ∀ {vs : List V} {ds : List D} (n : Nat) {v : V} {d : D}, Reps K B vs ds → Rep K B v d → Reps K B (vs.set n v) (ds.set n d)
  | _, _, _, _, _, .nil, _ => .nil
  | _, _, 0, _, _, .cons h t, q => .cons q t
  | _, _, n + 1, _, _, .cons h t, q => .cons h (Reps.set n t q)
theorem Reps.strs : ∀ {vs : List V} {xs : List Str}, Reps K B vs (xs.map D.str) → vs = xs.map V.str
  | _, [], h => by cases h; rfl
  | _, x :: xs, h => by
    cases h with
    | cons h1 h2 => cases h1; rw [Reps.strs h2]; rfl
theorem Reps.ofStrs : ∀ {xs : List Str}, Reps K B (xs.map V.str) (xs.map D.str)
  | [] => .nil
  | x :: xs => .cons (.str x) Reps.ofStrs
theorem Reps.ints : ∀ {vs : List V} {xs : List Int}, Reps K B vs (xs.map D.int) → vs = xs.map V.int
  | _, [], h => by cases h; rfl
  | _, x :: xs, h => by
    cases h with
    | cons h1 h2 => cases h1; rw [Reps.ints h2]; rfl
theorem Reps.bls : ∀ {vs : List V} {xs : List Bool}, Reps K B vs (xs.map D.bl) → vs = xs.map V.bl
  | _, [], h => by cases h; rfl
  | _, x :: xs, h => by
    cases h with
    | cons h1 h2 => cases h1; rw [Reps.bls h2]; rfl
end

/-! ### the draws' state, a frame's data -/
structure DSt where
  great : List Int
  cells : List Int
  rest : Int
  turn : Int
/-- what a name holds: nothing that is known, data, an own list, an own dict, the draws' state -/
inductive Sl where
  | un | fz (d : D) | ow (l : List D) | od (l : List (Key × D)) | st
structure FS where
  ρ : List Sl
  ds : DSt
inductive Res (α : Type) where
  | ok (a : α) (s : FS) | ex (e : D) (s : FS) | stuck
abbrev M (α : Type) := FS → Res α
def Res.post {α : Type} (r : Res α) (P : α → FS → Prop) (E : D → FS → Prop) : Prop := match r with
  | .ok a s => P a s
  | .ex e s => E e s
  | .stuck => False
def ret {α : Type} (a : α) : M α := fun s => .ok a s
def bnd {α β : Type} (m : M α) (k : α → M β) : M β := fun s => match m s with
  | .ok a s' => k a s'
  | .ex e s' => .ex e s'
  | .stuck => .stuck
instance : Monad M where
  pure := ret
  bind := bnd
theorem post_bnd {α β : Type} {m : M α} {k : α → M β} {s : FS} {P : β → FS → Prop} {E : D → FS → Prop} (h : ((m >>= k) s).post P E) : (m s).post (fun a s' => (k a s').post P E) E := by
  have h' : (bnd m k s).post P E := h
  unfold bnd at h'
  cases e : m s with
  | ok a s' => rw [e] at h'; exact h'
  | ex d s' => rw [e] at h'; exact h'
  | stuck => rw [e] at h'; exact h'
theorem Res.post.imp {α : Type} {r : Res α} {P P' : α → FS → Prop} {E E' : D → FS → Prop} (h : r.post P E) (hp : ∀ a s, P a s → P' a s) (he : ∀ e s, E e s → E' e s) : r.post P' E' := by
  cases r with
  | ok a s => exact hp _ _ h
  | ex e s => exact he _ _ h
  | stuck => exact h
def stk {α : Type} : M α := fun _ => .stuck
def lift {α : Type} (o : Option α) : M α := fun s => match o with
  | some a => .ok a s
  | none => .stuck
theorem lift_post {α : Type} {o : Option α} {s : FS} {P : α → FS → Prop} {E : D → FS → Prop} (h : (lift o s).post P E) : ∃ a, o = some a ∧ P a s := by
  cases o with
  | none => exact h.elim
  | some a => exact ⟨a, rfl, h⟩

/-- where the draws' state stands: its dict, its list of great cells, its list of cells; the tables of code objects that may grow -/
abbrev So := Option (Addr × Addr × Addr × List (Addr × Str))
def stK (a c : Addr) (d : DSt) : List (Key × V) := [(Sum.inr "great", V.ref a), (Sum.inr "cells", V.ref c), (Sum.inr "rest", V.int d.rest), (Sum.inr "turn", V.int d.turn)]
/-- a table that may grow: what it tells stands -/
def TbOk (B H : Hp) (T : List (Addr × Str)) : Prop := (∀ a ps, B a ≠ some (.tbl ps)) ∧ (∀ q ∈ T, B q.1 = none) ∧ LamX.Tabs T H
def CellsAt (B : Hp) (c : Addr) (d : DSt) : Prop := B c = some (.lst (d.cells.map V.int)) ∧ d.cells.length ≤ sizeLine ∧ d.great.length ≤ sizeLine
def StOk (B H : Hp) (so : So) (d : DSt) : Prop := match so with
  | none => True
  | some (p, a, c, T) => (H p = some (.dK (stK a c d)) ∧ H a = some (.lst (d.great.map V.int)) ∧ B p = none ∧ B a = none ∧ CellsAt B c d) ∧ TbOk B H T
def OffSo (so : So) (x : Addr) : Prop := match so with
  | none => True
  | some (p, a, _, T) => x ≠ p ∧ x ≠ a ∧ ∀ q ∈ T, x ≠ q.1
/-- where there are draws, a table may grow -/
def Tame (so : So) (o : HO) : Prop := match so with
  | none => True
  | some _ => ∀ ps, o ≠ .tbl ps
theorem tame_of {so : So} {o : HO} (h : ∀ ps, o ≠ .tbl ps) : Tame so o := by cases so with
  | none => trivial
  | some _ => exact h
theorem tame_lst {so : So} {l : List V} : Tame so (.lst l) := tame_of fun ps z => by cases z
theorem tame_dK {so : So} {l : List (Key × V)} : Tame so (.dK l) := tame_of fun ps z => by cases z
def Dk (K : PySem.W.Frag) (B : Hp) : List (Key × V) → List (Key × D) → Prop
  | [], [] => True
  | (k, v) :: r, (k', d) :: q => k = k' ∧ Rep K B v d ∧ Dk K B r q
  | _, _ => False
/-- the entry: what stood, the heap -/
structure Bs where
  B0 : Hp
  H0 : Hp
def SlotOk (K : PySem.W.Frag) (β : Bs) (B H : Hp) (so : So) (v : Option V) : Sl → Prop
  | .un => True
  | .fz d => ∃ x, v = some x ∧ Rep K B x d
  | .ow ds => ∃ a vs, v = some (V.ref a) ∧ H a = some (.lst vs) ∧ B a = none ∧ (OffSo so a ∧ β.H0 a = none) ∧ Reps K B vs ds ∧ vs.length ≤ sizeLine
  | .od kvs => ∃ a vs, v = some (V.ref a) ∧ H a = some (.dK vs) ∧ B a = none ∧ (OffSo so a ∧ β.H0 a = none) ∧ Dk K B vs kvs ∧ vs.length ≤ sizeLine
  | .st => ∃ p a c T, so = some (p, a, c, T) ∧ v = some (V.ref p)
def Sl.own : Sl → Bool
  | .ow _ => true
  | .od _ => true
  | _ => false
structure R (K : PySem.W.Frag) (so : So) (β : Bs) (B H : Hp) (σ : L2.St) (s : FS) : Prop where
  len : σ.length = s.ρ.length
  sl : ∀ (i : Nat) (x : Sl), s.ρ[i]? = some x → ∃ v, σ[i]? = some v ∧ SlotOk K β B H so v x
  dj : ∀ (i j : Nat) (x y : Sl) (a : Addr), s.ρ[i]? = some x → s.ρ[j]? = some y → x.own = true → y.own = true → σ[i]? = some (some (.ref a)) → σ[j]? = some (some (.ref a)) → i = j
  ext : Ex B H
  st : StOk B H so s.ds
  b0 : Ex β.B0 B
  keep : ∀ a o, β.H0 a = some o → OffSo so a → Tame so o → H a = some o
  dom : ∀ a, β.H0 a ≠ none → H a ≠ none
  n0 : ∀ a, β.H0 a ≠ none → β.B0 a = none → B a = none
  nt : ∀ a ps, B a = some (.tbl ps) → β.B0 a = some (.tbl ps)
  h0t : so.isSome = true → ∀ a ps, β.H0 a ≠ some (.tbl ps)

/-- the heap has grown (but for the draws' state), and the standing part with it by new objects alone -/
structure Gr (so : So) (B H B' H' : Hp) : Prop where
  b : Ex B B'
  h : ∀ a o, H a = some o → OffSo so a → Tame so o → H' a = some o
  e : Ex B' H'
  n : ∀ a o, H a = some o → Tame so o → B a = none → B' a = none
  d : ∀ a o, H a = some o → Tame so o → H' a ≠ none
  t : ∀ a ps, B' a = some (.tbl ps) → B a = some (.tbl ps)
theorem Gr.refl {so : So} {B H : Hp} (e : Ex B H) : Gr so B H B H := ⟨Ex.refl B, fun _ _ h _ _ => h, e, fun _ _ _ _ n => n, (fun _ _ h _ q => by rw [h] at q; cases q), fun _ _ h => h⟩
theorem Gr.any {so : So} {B H B' H' : Hp} (g : Gr none B H B' H') : Gr so B H B' H' := ⟨g.b, fun a o h _ _ => g.h a o h trivial trivial, g.e, fun a o h _ => g.n a o h trivial, fun a o h _ => g.d a o h trivial, g.t⟩
theorem Gr.hx {B H B' H' : Hp} (g : Gr none B H B' H') : Ex H H' := fun a o h => g.h a o h trivial trivial
theorem Gr.trans {B H B1 H1 B2 H2 : Hp} (a : Gr none B H B1 H1) (b : Gr none B1 H1 B2 H2) : Gr none B H B2 H2 :=
  ⟨a.b.trans b.b, fun x o h q t => b.h x o (a.h x o h q t) q t, b.e, fun x o hx _ n => b.n x o (a.hx x o hx) trivial (a.n x o hx trivial n), fun x o hx _ => b.d x o (a.hx x o hx) trivial, fun x ps h => a.t x ps (b.t x ps h)⟩
theorem Ex.d {H H' : Hp} (e : Ex H H') : ∀ a, H a ≠ none → H' a ≠ none := fun a h q => by
  cases e1 : H a with
  | none => exact h e1
  | some o => rw [e a o e1] at q; cases q
/-- a new object is laid, and stands from then on -/
theorem Gr.new {so : So} {B H : Hp} {p : Addr} {o : HO} (e : Ex B H) (h : H p = none) (ho : ∀ ps, o ≠ .tbl ps := by intro ps z; cases z) : Gr so B H (upd B p o) (upd H p o) :=
  ⟨Ex.new (e.noneOf h), fun a u q _ _ => Ex.new h a u q, fun a u q => by
    by_cases z : a = p
    · subst z; rw [upd_same] at q ⊢; exact q
    · rw [upd_ne z] at q ⊢; exact e a u q, fun a u ha _ n => by
    have z : a ≠ p := fun z => by rw [z, h] at ha; cases ha
    rw [upd_ne z]; exact n, (fun a u ha _ => Ex.d (Ex.new h) a (by rw [ha]; simp)), fun a ps q => by
    by_cases z : a = p
    · subst z; rw [upd_same] at q; exact absurd (Option.some.inj q) (ho ps)
    · rw [upd_ne z] at q; exact q⟩
/-- a new object is laid, an own one -/
theorem Gr.own {so : So} {B H : Hp} {p : Addr} {o : HO} (e : Ex B H) (h : H p = none) : Gr so B H B (upd H p o) :=
  ⟨Ex.refl B, fun a u q _ _ => Ex.new h a u q, e.trans (Ex.new h), fun a u ha _ n => n, fun a u ha _ => Ex.d (Ex.new h) a (by rw [ha]; simp), fun _ _ q => q⟩
section
variable {K : PySem.W.Frag} {so : So} {β : Bs} {B H B' H' : Hp} {σ : L2.St} {s : FS}
theorem Dk.up (e : Ex B B') : ∀ {vs : List (Key × V)} {ds : List (Key × D)}, Dk K B vs ds → Dk K B' vs ds
  | [], [], _ => trivial
  | (_, _) :: _, (_, _) :: _, ⟨h1, h2, h3⟩ => ⟨h1, h2.up e, Dk.up e h3⟩
  | [], _ :: _, h => h.elim
  | _ :: _, [], h => h.elim
theorem TbOk.gr (g : Gr none B H B' H') {T : List (Addr × Str)} (h : TbOk B H T) : TbOk B' H' T :=
  ⟨fun a ps q => h.1 a ps (g.t a ps q), fun q hq => by
    obtain ⟨ps, h1, _⟩ := h.2.2 q hq
    exact g.n _ _ h1 trivial (h.2.1 q hq), h.2.2.ext g.hx⟩
theorem TbOk.off {T : List (Addr × Str)} (h : TbOk B H T) {x : Addr} {o : HO} (n : ∀ q ∈ T, x ≠ q.1) (hc : ∀ q, H x ≠ some (LamX.CodeO x q)) : TbOk B (upd H x o) T := ⟨h.1, h.2.1, fun q hq => by
  obtain ⟨ps, h1, h2, h3⟩ := h.2.2 q hq
  refine ⟨ps, by rw [upd_ne (Ne.symm (n q hq))]; exact h1, h2, fun pos cv e => ?_⟩
  obtain ⟨c, e1, e2⟩ := h3 pos cv e
  exact ⟨c, e1, by rw [upd_ne (fun z => by rw [z] at e2; exact hc _ e2)]; exact e2⟩⟩
theorem TbOk.base {T : List (Addr × Str)} (h : TbOk B H T) {x : Addr} {o : HO} (n : ∀ q ∈ T, x ≠ q.1) (hb : B x = none) (ht : ∀ ps, o ≠ .tbl ps) : TbOk (upd B x o) H T := ⟨fun a ps q => by
  by_cases z : a = x
  · subst z; rw [upd_same] at q; exact ht ps (Option.some.inj q)
  · rw [upd_ne z] at q; exact h.1 a ps q, fun q hq => by rw [upd_ne (Ne.symm (n q hq))]; exact h.2.1 q hq, h.2.2⟩
theorem R.tameAt (r : R K so β B H σ s) {a : Addr} (h : β.H0 a ≠ none) : (∃ u, H a = some u ∧ Tame so u) ∨ ∃ p x c T, so = some (p, x, c, T) ∧ ∃ q ∈ T, a = q.1 := by
  cases so with
  | none =>
    cases e : H a with
    | none => exact absurd e (r.dom a h)
    | some u => exact .inl ⟨u, rfl, trivial⟩
  | some y =>
    obtain ⟨p, x, c, T⟩ := y
    obtain ⟨⟨h1, h2, _⟩, _⟩ := r.st
    by_cases e1 : a = p
    · subst e1; exact .inl ⟨_, h1, tame_dK⟩
    · by_cases e2 : a = x
      · subst e2; exact .inl ⟨_, h2, tame_lst⟩
      · by_cases e3 : ∃ q ∈ T, a = q.1
        · exact .inr ⟨p, x, c, T, rfl, e3⟩
        · cases e : β.H0 a with
          | none => exact absurd e h
          | some o =>
            have t : Tame (some (p, x, c, T)) o := fun ps z => r.h0t rfl a ps (by rw [e, z])
            exact .inl ⟨o, r.keep a o e ⟨e1, e2, fun q hq z => e3 ⟨q, hq, z⟩⟩ t, t⟩
theorem StOk.gr (g : Gr none B H B' H') {d : DSt} (h : StOk B H so d) : StOk B' H' so d := by
  cases so with
  | none => trivial
  | some x =>
    obtain ⟨p, a, c, T⟩ := x
    obtain ⟨⟨h1, h2, h3, h4, h5⟩, h6⟩ := h
    exact ⟨⟨g.hx _ _ h1, g.hx _ _ h2, g.n _ _ h1 trivial h3, g.n _ _ h2 trivial h4, ⟨g.b _ _ h5.1, h5.2⟩⟩, h6.gr g⟩
theorem SlotOk.gr (g : Gr so B H B' H') {v : Option V} : ∀ {x : Sl}, SlotOk K β B H so v x → SlotOk K β B' H' so v x
  | .un, _ => trivial
  | .fz d, ⟨x, e, r⟩ => ⟨x, e, r.up g.b⟩
  | .ow ds, ⟨a, vs, e, h1, h2, h3, h4, h5⟩ => ⟨a, vs, e, g.h _ _ h1 h3.1 tame_lst, g.n _ _ h1 tame_lst h2, h3, h4.up g.b, h5⟩
  | .od ds, ⟨a, vs, e, h1, h2, h3, h4, h5⟩ => ⟨a, vs, e, g.h _ _ h1 h3.1 tame_dK, g.n _ _ h1 tame_dK h2, h3, h4.up g.b, h5⟩
  | .st, h => h
/-- the heap has grown, the draws' state has moved -/
theorem R.grS (r : R K so β B H σ s) (g : Gr so B H B' H') {d : DSt} (q : StOk B' H' so d) : R K so β B' H' σ { s with ds := d } :=
  ⟨r.len, fun i x e => let ⟨v, h1, h2⟩ := r.sl i x e; ⟨v, h1, h2.gr g⟩, r.dj, g.e, q, r.b0.trans g.b, fun a o h n t => g.h a o (r.keep a o h n t) n t, (fun a h => by
    rcases r.tameAt h with ⟨u, hu, t⟩ | ⟨p, x, c, T, rfl, w, hw, e⟩
    · exact g.d a u hu t
    · obtain ⟨ps, h1, _⟩ := q.2.2.2 w hw
      rw [e, h1]; simp), (fun a h1 h2 => by
    rcases r.tameAt h1 with ⟨u, hu, t⟩ | ⟨p, x, c, T, rfl, w, hw, e⟩
    · exact g.n a u hu t (r.n0 a h1 h2)
    · rw [e]; exact q.2.2.1 w hw), fun a ps q => r.nt a ps (g.t a ps q), r.h0t⟩
theorem R.gr (r : R K so β B H σ s) (g : Gr none B H B' H') : R K so β B' H' σ s := r.grS g.any (r.st.gr g)
theorem set_cases {α : Type} {l : List α} {i j : Nat} {x y : α} (h : (l.set i x)[j]? = some y) : (i = j ∧ y = x) ∨ (i ≠ j ∧ l[j]? = some y) := by
  by_cases hj : i = j
  · subst hj
    by_cases hl : i < l.length
    · rw [List.getElem?_set_self hl] at h; cases h; exact .inl ⟨rfl, rfl⟩
    · rw [List.getElem?_eq_none (by simpa using hl)] at h; cases h
  · rw [List.getElem?_set_ne hj] at h
    exact .inr ⟨hj, h⟩
theorem set_self {α : Type} {l : List α} {i : Nat} {x y z : α} {l' : List Sl} {w w' : Sl} (hl : l.length = l'.length) (h : (l'.set i w)[i]? = some w') : (l.set i x)[i]? = some x := by
  by_cases hi : i < l.length
  · rw [List.getElem?_set_self hi]
  · rw [List.getElem?_eq_none (by simpa using (by omega : l'.length ≤ i))] at h; cases h
/-- a name is given something that is no own object -/
theorem R.set1 (r : R K so β B H σ s) {i : Nat} {v : Option V} {x : Sl} (hx : x.own = false) (h : SlotOk K β B H so v x) : R K so β B H (σ.set i v) { s with ρ := s.ρ.set i x } := by
  refine ⟨by simpa using r.len, fun j y e => ?_, fun j k y z a e1 e2 o1 o2 f1 f2 => ?_, r.ext, r.st, r.b0, r.keep, r.dom, r.n0, r.nt, r.h0t⟩
  · rcases set_cases e with ⟨rfl, rfl⟩ | ⟨hj, e⟩
    · exact ⟨v, set_self (y := v) (z := v) r.len e, h⟩
    · rw [List.getElem?_set_ne hj]
      exact r.sl j y e
  · rcases set_cases e1 with ⟨rfl, rfl⟩ | ⟨hj, e1⟩
    · rw [hx] at o1; cases o1
    · rcases set_cases e2 with ⟨rfl, rfl⟩ | ⟨hk, e2⟩
      · rw [hx] at o2; cases o2
      · rw [List.getElem?_set_ne hj] at f1
        rw [List.getElem?_set_ne hk] at f2
        exact r.dj j k y z a e1 e2 o1 o2 f1 f2
/-- a name is given data -/
theorem R.set (r : R K so β B H σ s) {i : Nat} {v : V} {d : D} (h : Rep K B v d) : R K so β B H (σ.set i (some v)) { s with ρ := s.ρ.set i (.fz d) } := r.set1 rfl ⟨v, rfl, h⟩
/-- a name is forgotten -/
theorem R.wip (r : R K so β B H σ s) {i : Nat} {v : Option V} : R K so β B H (σ.set i v) { s with ρ := s.ρ.set i .un } := r.set1 rfl trivial
theorem SlotOk.addr {x : Sl} {v : Option V} (h : SlotOk K β B H so v x) (o : x.own = true) : ∃ a, v = some (V.ref a) ∧ B a = none ∧ OffSo so a ∧ β.H0 a = none ∧ H a ≠ none := by
  cases x with
  | ow ds => obtain ⟨a, vs, e, h1, h2, h3, _⟩ := h; exact ⟨a, e, h2, h3.1, h3.2, by rw [h1]; simp⟩
  | od ds => obtain ⟨a, vs, e, h1, h2, h3, _⟩ := h; exact ⟨a, e, h2, h3.1, h3.2, by rw [h1]; simp⟩
  | un => cases o
  | fz d => cases o
  | st => cases o
theorem SlotOk.noCode {x : Sl} {v : Option V} (h : SlotOk K β B H so v x) (o : x.own = true) : ∀ a, v = some (V.ref a) → ∀ q, H a ≠ some (LamX.CodeO a q) := by
  intro b hb q z
  cases x with
  | ow ds => obtain ⟨a, vs, e, h1, _⟩ := h; rw [e] at hb; injection hb with hb; injection hb with hb; subst hb; rw [h1] at z; unfold LamX.CodeO at z; cases z
  | od ds => obtain ⟨a, vs, e, h1, _⟩ := h; rw [e] at hb; injection hb with hb; injection hb with hb; subst hb; rw [h1] at z; unfold LamX.CodeO at z; cases z
  | un => cases o
  | fz d => cases o
  | st => cases o
/-- no name holds p as its own -/
def NoOwn (σ : L2.St) (s : FS) (p : Addr) : Prop := ∀ (j : Nat) (y : Sl), s.ρ[j]? = some y → y.own = true → σ[j]? ≠ some (some (V.ref p))
/-- a new own object is given a name -/
theorem R.setOwn (r : R K so β B H σ s) {i : Nat} {p : Addr} {x : Sl} (fresh : NoOwn σ s p) (h : SlotOk K β B H so (some (V.ref p)) x) :
    R K so β B H (σ.set i (some (V.ref p))) { s with ρ := s.ρ.set i x } := by
  refine ⟨by simpa using r.len, fun j y e => ?_, fun j k y z a e1 e2 o1 o2 f1 f2 => ?_, r.ext, r.st, r.b0, r.keep, r.dom, r.n0, r.nt, r.h0t⟩
  · rcases set_cases e with ⟨rfl, rfl⟩ | ⟨hj, e⟩
    · exact ⟨_, set_self (y := some (V.ref p)) (z := some (V.ref p)) r.len e, h⟩
    · rw [List.getElem?_set_ne hj]
      exact r.sl j y e
  · rcases set_cases e1 with ⟨ej, ey⟩ | ⟨hj, e1'⟩
    · rcases set_cases e2 with ⟨ek, ez⟩ | ⟨hk, e2'⟩
      · exact ej.symm.trans ek
      · subst ej
        rw [set_self (y := some (V.ref p)) (z := some (V.ref p)) r.len e1] at f1
        rw [List.getElem?_set_ne hk] at f2
        have ea : p = a := by injection f1 with q; injection q with q; injection q with q
        rw [← ea] at f2
        exact absurd f2 (fresh k z e2' o2)
    · rcases set_cases e2 with ⟨ek, ez⟩ | ⟨hk, e2'⟩
      · subst ek
        rw [set_self (y := some (V.ref p)) (z := some (V.ref p)) r.len e2] at f2
        rw [List.getElem?_set_ne hj] at f1
        have ea : p = a := by injection f2 with q; injection q with q; injection q with q
        rw [← ea] at f1
        exact absurd f1 (fresh j y e1' o1)
      · rw [List.getElem?_set_ne hj] at f1
        rw [List.getElem?_set_ne hk] at f2
        exact r.dj j k y z a e1' e2' o1 o2 f1 f2
theorem R.noOwn (r : R K so β B H σ s) {p : Addr} (h : H p = none) : NoOwn σ s p := fun j y e o q => by
  obtain ⟨v, h1, h2⟩ := r.sl j y e
  obtain ⟨a, e1, _, _, _, h3⟩ := h2.addr o
  rw [q] at h1
  have : some (V.ref p) = v := Option.some.inj h1
  rw [e1] at this
  cases this
  exact h3 h
theorem R.offNew (r : R K so β B H σ s) {p : Addr} (h : H p = none) : OffSo so p := by
  have q := r.st
  cases so with
  | none => trivial
  | some x =>
    obtain ⟨a, b, c, T⟩ := x
    obtain ⟨⟨h1, h2, _⟩, h3⟩ := q
    exact ⟨fun e => (by rw [e] at h; rw [h] at h1; cases h1), fun e => (by rw [e] at h; rw [h] at h2; cases h2), fun t ht e => by
      obtain ⟨ps, g, _⟩ := h3.2.2 t ht
      rw [e] at h; rw [h] at g; cases g⟩
theorem R.h0New (r : R K so β B H σ s) {p : Addr} (h : H p = none) : β.H0 p = none := by
  cases e : β.H0 p with
  | none => rfl
  | some o => exact absurd h (r.dom p (by rw [e]; simp))
/-- an own object stands from now on -/
theorem R.freeze (r : R K so β B H σ s) {p : Addr} {o : HO} (hp : H p = some o) (hb : B p = none) (hn : NoOwn σ s p) (ho : OffSo so p) (h0 : β.H0 p = none) (ht : ∀ ps, o ≠ .tbl ps := by intro ps z; cases z) : R K so β (upd B p o) H σ s := by
  have eB : Ex B (upd B p o) := Ex.new hb
  refine ⟨r.len, fun i x e => ?_, r.dj, fun a u q => ?_, ?_, r.b0.trans eB, r.keep, r.dom, fun a h1 h2 => ?_, fun a ps q => ?_, r.h0t⟩
  · obtain ⟨v, h1, h2⟩ := r.sl i x e
    refine ⟨v, h1, ?_⟩
    have ne : ∀ a, v = some (V.ref a) → x.own = true → a ≠ p := fun a ev oy q => by
      subst q
      rw [ev] at h1
      exact hn i x e oy h1
    cases x with
    | un => trivial
    | fz d => obtain ⟨y, e1, e2⟩ := h2; exact ⟨y, e1, e2.up eB⟩
    | st => exact h2
    | ow ds =>
      obtain ⟨a, vs, q1, q2, q3, q4, q5, q6⟩ := h2
      exact ⟨a, vs, q1, q2, by rw [upd_ne (ne a q1 rfl)]; exact q3, q4, q5.up eB, q6⟩
    | od ds =>
      obtain ⟨a, vs, q1, q2, q3, q4, q5, q6⟩ := h2
      exact ⟨a, vs, q1, q2, by rw [upd_ne (ne a q1 rfl)]; exact q3, q4, q5.up eB, q6⟩
  · by_cases z : a = p
    · subst z; rw [upd_same] at q; rw [← q]; exact hp
    · rw [upd_ne z] at q; exact r.ext a u q
  · have q := r.st
    cases so with
    | none => trivial
    | some y =>
      obtain ⟨a, b, c, T⟩ := y
      obtain ⟨⟨h1, h2, h3, h4, h5⟩, h6⟩ := q
      obtain ⟨n1, n2, n3⟩ := ho
      exact ⟨⟨h1, h2, by rw [upd_ne (Ne.symm n1)]; exact h3, by rw [upd_ne (Ne.symm n2)]; exact h4, ⟨eB _ _ h5.1, h5.2⟩⟩, h6.base n3 hb ht⟩
  · have z : a ≠ p := fun z => h1 (by rw [z]; exact h0)
    rw [upd_ne z]; exact r.n0 a h1 h2
  · by_cases z : a = p
    · subst z; rw [upd_same] at q; exact absurd (Option.some.inj q) (ht ps)
    · rw [upd_ne z] at q; exact r.nt a ps q
/-- an own object is changed in its place -/
theorem R.chg (r : R K so β B H σ s) {i : Nat} {p : Addr} {x x' : Sl} {o : HO} (hi : s.ρ[i]? = some x) (hx : x.own = true) (hp : σ[i]? = some (some (V.ref p))) (hx' : x'.own = true) (h : SlotOk K β B (upd H p o) so (some (V.ref p)) x') :
    R K so β B (upd H p o) σ { s with ρ := s.ρ.set i x' } := by
  obtain ⟨v, e1, e2⟩ := r.sl i x hi
  rw [hp] at e1
  have ev : some (V.ref p) = v := Option.some.inj e1
  subst ev
  have hcode := e2.noCode hx
  obtain ⟨a, e3, hb, hoff, h0, hhn⟩ := e2.addr hx
  have ea : p = a := by injection e3 with q; injection q with q
  subst ea
  refine ⟨by simpa using r.len, fun j y e => ?_, fun j k y z a e1 e2 o1 o2 f1 f2 => ?_, fun a u q => ?_, ?_, r.b0, fun a o h1 h2 h3 => ?_, fun a h1 => ?_, r.n0, r.nt, r.h0t⟩
  · rcases set_cases e with ⟨rfl, rfl⟩ | ⟨hj, e'⟩
    · exact ⟨_, hp, h⟩
    · obtain ⟨v, h1, h2⟩ := r.sl j y e'
      refine ⟨v, h1, ?_⟩
      have ne : ∀ a, v = some (V.ref a) → y.own = true → a ≠ p := fun a ev oy q => by
        subst q
        rw [ev] at h1
        exact hj (r.dj i j x y a hi e' hx oy hp h1)
      cases y with
      | un => trivial
      | fz d => exact h2
      | st => exact h2
      | ow ds =>
        obtain ⟨a, vs, q1, q2, q3⟩ := h2
        exact ⟨a, vs, q1, by rw [upd_ne (ne a q1 rfl)]; exact q2, q3⟩
      | od ds =>
        obtain ⟨a, vs, q1, q2, q3⟩ := h2
        exact ⟨a, vs, q1, by rw [upd_ne (ne a q1 rfl)]; exact q2, q3⟩
  · have own_eq : ∀ {j : Nat} {y : Sl}, (s.ρ.set i x')[j]? = some y → y.own = true → ∃ y', s.ρ[j]? = some y' ∧ y'.own = true := fun {j y} e o => by
      rcases set_cases e with ⟨rfl, rfl⟩ | ⟨hj, e'⟩
      · exact ⟨x, hi, hx⟩
      · exact ⟨y, e', o⟩
    obtain ⟨y', g1, g2⟩ := own_eq e1 o1
    obtain ⟨z', g3, g4⟩ := own_eq e2 o2
    exact r.dj j k y' z' a g1 g3 g2 g4 f1 f2
  · have z : a ≠ p := fun z => by rw [z, hb] at q; cases q
    rw [upd_ne z]; exact r.ext a u q
  · have q := r.st
    cases so with
    | none => trivial
    | some y =>
      obtain ⟨a, b, c, T⟩ := y
      obtain ⟨⟨h1, h2, h3⟩, h6⟩ := q
      obtain ⟨n1, n2, n3⟩ := hoff
      exact ⟨⟨by rw [upd_ne (Ne.symm n1)]; exact h1, by rw [upd_ne (Ne.symm n2)]; exact h2, h3⟩, h6.off n3 (hcode _ rfl)⟩
  · have z : a ≠ p := fun z => by rw [z, h0] at h1; cases h1
    rw [upd_ne z]; exact r.keep a o h1 h2 h3
  · by_cases z : a = p
    · rw [z, upd_same]; simp
    · rw [upd_ne z]; exact r.dom a h1
end
end DL
end S_DL1
section S_DL2
set_option Elab.async false
set_option linter.all false
set_option maxRecDepth 100000
set_option maxHeartbeats 4000000
/-! DL2: a construct's rule and its denotation together. -/
namespace DL
open PySem PySem.Spec PyProof.Rows L2

/-- an exception's own fields -/
def Fk (K : PySem.W.Frag) (B : Hp) : List (Str × V) → List (Str × D) → Prop
  | [], [] => True
  | (k, v) :: r, (k', d) :: q => k = k' ∧ Rep K B v d ∧ Fk K B r q
  | _, _ => False
/-- an exception that is raised stands for e -/
def RX (K : PySem.W.Frag) (B H : Hp) (c : Value) (x : Option Addr) : D → Prop
  | .xc n [] => c = .ref (He.ga K n) ∧ x = none
  | .xc n (f :: fs) => c = .ref (He.ga K n) ∧ ∃ d fv, x = some d ∧ B d = some (.xd fv) ∧ Fk K B fv (f :: fs)
  | _ => False
def KE (K : PySem.W.Frag) (so : So) (β : Bs) (σ : L2.St) (B : Hp) (Q : VK) : D → FS → Prop := fun d s' => ∀ v B' H', Ex B B' → R K so β B' H' σ s' → Rep K B' v d → Q v H'
def KA (K : PySem.W.Frag) (so : So) (β : Bs) (σ : L2.St) (B : Hp) (Q : List V → Hp → Prop) : List D → FS → Prop := fun ds s' => ∀ vs B' H', Ex B B' → R K so β B' H' σ s' → Reps K B' vs ds → Q vs H'
def KL (K : PySem.W.Frag) (so : So) (β : Bs) (σ : L2.St) (B : Hp) (Q : VK) : List D → FS → Prop := fun ds s' => ∀ p vs B' H', Ex B B' → R K so β B' H' σ s' → H' p = some (.lst vs) → B' p = none → NoOwn σ s' p → OffSo so p → β.H0 p = none → Reps K B' vs ds → vs.length ≤ sizeLine → Q (.ref p) H'
def KT (K : PySem.W.Frag) (so : So) (β : Bs) (σ : L2.St) (B : Hp) (Q : Bool → Hp → Prop) : Bool → FS → Prop := fun b s' => ∀ B' H', Ex B B' → R K so β B' H' σ s' → Q b H'
def KX (K : PySem.W.Frag) (so : So) (β : Bs) (B : Hp) (W : WX) : D → FS → Prop := fun e s' => ∀ c x σ' B' H', Ex B B' → R K so β B' H' σ' s' → RX K B' H' c x e → W c x σ' H'
/-- where a statement goes on -/
inductive Fl where
  | nx | rt (d : D) | bk | ct
def KS (K : PySem.W.Frag) (so : So) (β : Bs) (B : Hp) (Z : Ends) : Fl → FS → Prop := fun f s' => ∀ σ' B' H', Ex B B' → R K so β B' H' σ' s' → match f with
  | .nx => Z.nx σ' H'
  | .rt d => ∀ v, Rep K B' v d → Z.rt v H'
  | .bk => Z.bk σ' H'
  | .ct => Z.ct σ' H'
section
variable {K : PySem.W.Frag} {so : So} {β : Bs} {σ : L2.St} {B B1 : Hp} {W : WX}
theorem KE.up (e : Ex B B1) {Q : VK} {d : D} {s : FS} (h : KE K so β σ B Q d s) : KE K so β σ B1 Q d s := fun v B' H' e' => h v B' H' (e.trans e')
theorem KA.up (e : Ex B B1) {Q : List V → Hp → Prop} {d : List D} {s : FS} (h : KA K so β σ B Q d s) : KA K so β σ B1 Q d s := fun v B' H' e' => h v B' H' (e.trans e')
theorem KL.up (e : Ex B B1) {Q : VK} {d : List D} {s : FS} (h : KL K so β σ B Q d s) : KL K so β σ B1 Q d s := fun p v B' H' e' => h p v B' H' (e.trans e')
theorem KT.up (e : Ex B B1) {Q : Bool → Hp → Prop} {d : Bool} {s : FS} (h : KT K so β σ B Q d s) : KT K so β σ B1 Q d s := fun B' H' e' => h B' H' (e.trans e')
theorem KX.up (e : Ex B B1) {d : D} {s : FS} (h : KX K so β B W d s) : KX K so β B1 W d s := fun c x σ' B' H' e' => h c x σ' B' H' (e.trans e')
theorem KS.up (e : Ex B B1) {Z : Ends} {d : Fl} {s : FS} (h : KS K so β B Z d s) : KS K so β B1 Z d s := fun σ' B' H' e' => h σ' B' H' (e.trans e')
end
def DE (K : PySem.W.Frag) (so : So) (W : WX) (t : TE) (f : M D) : Prop := ∀ (β : Bs) (B H : Hp) (σ : L2.St) (s : FS) (Q : VK), R K so β B H σ s → (f s).post (KE K so β σ B Q) (KX K so β B W) → t σ H Q
def DA (K : PySem.W.Frag) (so : So) (W : WX) (t : TA) (f : M (List D)) : Prop := ∀ (β : Bs) (B H : Hp) (σ : L2.St) (s : FS) (Q : List V → Hp → Prop), R K so β B H σ s → (f s).post (KA K so β σ B Q) (KX K so β B W) → t σ H Q
def DN (K : PySem.W.Frag) (so : So) (W : WX) (t : TE) (f : M (List D)) : Prop := ∀ (β : Bs) (B H : Hp) (σ : L2.St) (s : FS) (Q : VK), R K so β B H σ s → (f s).post (KL K so β σ B Q) (KX K so β B W) → t σ H Q
def DT (K : PySem.W.Frag) (so : So) (W : WX) (t : TT) (f : M Bool) : Prop := ∀ (β : Bs) (B H : Hp) (σ : L2.St) (s : FS) (Q : Bool → Hp → Prop), R K so β B H σ s → (f s).post (KT K so β σ B Q) (KX K so β B W) → t σ H Q
def DS (K : PySem.W.Frag) (so : So) (W : WX) (t : TS) (f : M Fl) : Prop := ∀ (β : Bs) (B H : Hp) (σ : L2.St) (s : FS) (Z : Ends), R K so β B H σ s → (f s).post (KS K so β B Z) (KX K so β B W) → t Z σ H

structure CE (X : Cx) (so : So) (W : WX) (e : Expr) (t : TE) (f : M D) : Prop where
  pe : PE X e t
  de : DE X.K so W t f
/-- a new list -/
structure CN (X : Cx) (so : So) (W : WX) (e : Expr) (t : TE) (f : M (List D)) : Prop where
  pe : PE X e t
  de : DN X.K so W t f
structure CA (X : Cx) (so : So) (W : WX) (e : List Expr) (t : TA) (f : M (List D)) : Prop where
  pa : PA X e t
  de : DA X.K so W t f
structure CT (X : Cx) (so : So) (W : WX) (e : Expr) (t : TT) (f : M Bool) : Prop where
  pt : PT X e t
  de : DT X.K so W t f
structure CW (X : Cx) (so : So) (W : WX) (e : Expr) (t : TT) (f : M Bool) : Prop where
  pw : PW X e t
  de : DT X.K so W t f
structure CS (X : Cx) (so : So) (W : WX) (e : Stmt) (t : TS) (f : M Fl) : Prop where
  ps : PS X e t
  de : DS X.K so W t f
structure CSs (X : Cx) (so : So) (W : WX) (e : List Stmt) (t : TS) (f : M Fl) : Prop where
  ps : PSs X e t
  de : DS X.K so W t f

/-! ### names, constants -/
def dVar (i : Nat) : M D := fun s => match s.ρ[i]? with
  | some (.fz d) => .ok d s
  | some (.ow l) => .ok (.lst l) { s with ρ := s.ρ.set i (.fz (.lst l)) }
  | _ => .stuck
section
variable {X : Cx} {so : So} {W : WX}
theorem de_var {K : PySem.W.Frag} (i : Nat) : DE K so W (tVar i) (dVar i) := by
  intro β B H σ s Q r h
  unfold dVar at h
  cases e : s.ρ[i]? with
  | none => rw [e] at h; exact h.elim
  | some x =>
    rw [e] at h
    obtain ⟨v, h1, h2⟩ := r.sl i x e
    cases x with
    | fz d =>
      obtain ⟨y, rfl, h3⟩ := h2
      exact ⟨y, h1, h y B H (Ex.refl B) r h3⟩
    | ow l =>
      obtain ⟨a, vs, rfl, q1, q2, ⟨q3, q4⟩, q5, q6⟩ := h2
      have hk : KE K so β σ B Q (.lst l) { s with ρ := s.ρ.set i (.fz (.lst l)) } := h
      have eB : Ex B (upd B a (.lst vs)) := Ex.new q2
      have r1 : R K so β B H (σ.set i none) { s with ρ := s.ρ.set i .un } := r.wip
      have n1 : NoOwn (σ.set i none) { s with ρ := s.ρ.set i .un } a := fun j y ej oy ha => by
        rcases set_cases ej with ⟨_, rfl⟩ | ⟨hj, ej⟩
        · cases oy
        · rw [List.getElem?_set_ne hj] at ha
          exact hj (r.dj i j _ y a e ej rfl oy h1 ha)
      have r2 := r1.freeze q1 q2 n1 q3 q4
      have rp : Rep K (upd B a (.lst vs)) (.ref a) (.lst l) := .lst upd_same q6 (q5.up eB)
      have r3 := r2.set (i := i) rp
      have e1 : (σ.set i none).set i (some (V.ref a)) = σ := by
        rw [List.set_set]
        exact List.ext_getElem? fun j => by
          by_cases hj : i = j
          · subst hj
            rw [h1]
            have hl : i < σ.length := (List.getElem?_eq_some_iff.mp h1).1
            rw [List.getElem?_set_self hl]
          · rw [List.getElem?_set_ne hj]
      have e2 : (s.ρ.set i Sl.un).set i (Sl.fz (.lst l)) = s.ρ.set i (Sl.fz (.lst l)) := List.set_set ..
      rw [e1] at r3
      have r4 : R K so β (upd B a (.lst vs)) H σ { s with ρ := s.ρ.set i (.fz (.lst l)) } := by rw [← e2]; exact r3
      exact ⟨_, h1, hk _ _ H eB r4 rp⟩
    | un => exact h.elim
    | od l => exact h.elim
    | st => exact h.elim
theorem ce_var {i : Nat} {x : Str} {pos : Pos} (hN : X.N[i]? = some x := by rfl) (hv : Vis X.env.scope x := by first | exact Or.inl rfl | exact Or.inr (Or.inl rfl) | exact Or.inr (Or.inr rfl)) (hd : (x == ("__debug__" : Str)) = false := by decide)
    (hcd : (x == ("__classdict__" : Str)) = false := by decide) : CE X so W (.Name x pos) (tVar i) (dVar i) := ⟨pe_var hN hv hd hcd, de_var i⟩
theorem de_c {K : PySem.W.Frag} {v : V} {d : D} (h : ∀ B, Rep K B v d) : DE K so W (tC v) (ret d) := fun β B H σ s Q r k => k v B H (Ex.refl B) r (h B)
theorem ce_int {i j pos} : CE X so W (.Constant (.int i) j pos) (tC (.int i)) (ret (.int i)) := ⟨pe_int, de_c fun _ => .int i⟩
theorem ce_bl {b j pos} : CE X so W (.Constant (.bool b) j pos) (tC (.bl b)) (ret (.bl b)) := ⟨pe_bl, de_c fun _ => .bl b⟩
theorem ce_non {j pos} : CE X so W (.Constant .none j pos) (tC .non) (ret .non) := ⟨pe_non, de_c fun _ => .non⟩
theorem ce_str {x j pos} : CE X so W (.Constant (.str x) j pos) (tC (.str x)) (ret (.str x)) := ⟨pe_str, de_c fun _ => .str x⟩
/-- a constant of the module -/
theorem ce_glob {x : Str} {v : V} {u : Value} {d : D} {pos : Pos} (hg : Gl X x) (hm : X.mg x = some u) (r : RelV v u) (h : ∀ B, Rep X.K B v d) (hd : (x == ("__debug__" : Str)) = false := by decide) : CE X so W (.Name x pos) (tC v) (ret d) := ⟨pe_glob hg hm r hd, de_c h⟩

/-! ### operators on values -/
def DR2 (K : PySem.W.Frag) (r : R2) (g : D → D → Option D) : Prop := ∀ (B H : Hp) (x y : V) (d e z : D) (Q : VK), Ex B H → Rep K B x d → Rep K B y e → g d e = some z → (∀ v B' H', Gr none B H B' H' → Rep K B' v z → Q v H') → r x y H Q
def dOp (g : D → D → Option D) (fa fb : M D) : M D := do
  let x ← fa
  let y ← fb
  lift (g x y)
theorem de_op {K : PySem.W.Frag} {r : R2} {g : D → D → Option D} {ta tb : TE} {fa fb : M D} (hr : DR2 K r g) (ha : DE K so W ta fa) (hb : DE K so W tb fb) : DE K so W (tOp r ta tb) (dOp g fa fb) := by
  intro β B H σ s Q rr h
  refine ha β B H σ s _ rr ((post_bnd h).imp (fun d s1 h1 v B1 H1 e1 r1 p1 => ?_) fun _ _ q => q)
  refine hb β B1 H1 σ s1 _ r1 ((post_bnd h1).imp (fun d2 s2 h2 v2 B2 H2 e2 r2 p2 => ?_) fun _ _ q => q.up e1)
  obtain ⟨z, hz, k⟩ := lift_post h2
  exact hr B2 H2 v v2 d d2 z Q r2.ext (p1.up e2) p2 hz fun w B3 H3 g3 p3 => k w B3 H3 ((e1.trans e2).trans g3.b) (r2.gr g3) p3
theorem ce_op {op : Operator} {r : R2} {g : D → D → Option D} {a b : Expr} {ta tb : TE} {fa fb : M D} {pos : Pos} (ho : OpR X (binaryOp op) r) (hr : DR2 X.K r g) (ha : CE X so W a ta fa) (hb : CE X so W b tb fb) : CE X so W (.BinOp a op b pos) (tOp r ta tb) (dOp g fa fb) :=
  ⟨pe_op ho ha.pe hb.pe, de_op hr ha.de hb.de⟩
theorem ce_cmp {op : CmpOp} {r : R2} {g : D → D → Option D} {a b : Expr} {ta tb : TE} {fa fb : M D} {pos : Pos} (ho : OpR X (compareOp op) r) (hr : DR2 X.K r g) (ha : CE X so W a ta fa) (hb : CE X so W b tb fb) (hm : behindInMarks op b = false) : CE X so W (.Compare a [op] [b] pos) (tOp r ta tb) (dOp g fa fb) :=
  ⟨pe_cmpR ho ha.pe hb.pe hm, de_op hr ha.de hb.de⟩
def isB : D → Option Bool
  | .bl b => some b
  | _ => none
def dTest (f : M D) : M Bool := do
  let x ← f
  lift (isB x)
theorem isB_rep {K : PySem.W.Frag} {B : Hp} {v : V} {d : D} {b : Bool} (h : isB d = some b) (r : Rep K B v d) : v = .bl b := by
  cases d with
  | bl c => cases r; cases h; rfl
  | _ => cases h
theorem dt_test {K : PySem.W.Frag} {t : TE} {f : M D} (h : DE K so W t f) : DT K so W (tTest t) (dTest f) := by
  intro β B H σ s Q rr h0
  refine h β B H σ s _ rr ((post_bnd h0).imp (fun d s1 h1 v B1 H1 e1 r1 p1 => ?_) fun _ _ q => q)
  obtain ⟨b, hb, k⟩ := lift_post h1
  exact ⟨b, isB_rep hb p1, k B1 H1 e1 r1⟩
theorem dt_B {K : PySem.W.Frag} {t : TE} {f : M D} (h : DE K so W t f) : DT K so W (tB t) (dTest f) := dt_test h
theorem ct_cmp {op : CmpOp} {r : R2} {g : D → D → Option D} {a b : Expr} {ta tb : TE} {fa fb : M D} {pos : Pos} (ho : OpR X (compareOp op) r) (hr : DR2 X.K r g) (ha : CE X so W a ta fa) (hb : CE X so W b tb fb) (hm : behindInMarks op b = false) : CT X so W (.Compare a [op] [b] pos) (tTest (tOp r ta tb)) (dTest (dOp g fa fb)) :=
  ⟨pt_cmpR ho ha.pe hb.pe hm, dt_test (de_op hr ha.de hb.de)⟩
/-- an expression whose value is True or False, as a test -/
theorem ct_val {e : Expr} {t : TE} {f : M D} (h : CE X so W e t f) (he : ∀ whole, isTrue e X.env whole = (do let v ← whole; standAt e.pos; holding [v] (truthy v)) := by intro _; rfl) : CT X so W e (tB t) (dTest f) := ⟨pt_val h.pe he, dt_B h.de⟩
/-- a < b < c -/
def dChain (g g' : D → D → Option D) (fa fb fc : M D) : M D := do
  let x ← fa
  let y ← fb
  let z ← lift (g x y)
  let k ← lift (isB z)
  if k then
    let w ← fc
    lift (g' y w)
  else ret (.bl false)
theorem de_chain {K : PySem.W.Frag} {r r' : R2} {g g' : D → D → Option D} {ta tb tc : TE} {fa fb fc : M D} (hr : DR2 K r g) (hr' : DR2 K r' g') (ha : DE K so W ta fa) (hb : DE K so W tb fb) (hc : DE K so W tc fc) : DE K so W (tChain r r' ta tb tc) (dChain g g' fa fb fc) := by
  intro β B H σ s Q rr h
  refine ha β B H σ s _ rr ((post_bnd h).imp (fun d s1 h1 v B1 H1 e1 r1 p1 => ?_) fun _ _ q => q)
  refine hb β B1 H1 σ s1 _ r1 ((post_bnd h1).imp (fun d2 s2 h2 v2 B2 H2 e2 r2 p2 => ?_) fun _ _ q => q.up e1)
  obtain ⟨z, hz, h3⟩ := lift_post (post_bnd h2)
  obtain ⟨b, hbz, h4⟩ := lift_post (post_bnd h3)
  refine hr B2 H2 v v2 d d2 z _ r2.ext (p1.up e2) p2 hz fun w B3 H3 g3 p3 => ?_
  have r3 := r2.gr g3
  have e3 := (e1.trans e2).trans g3.b
  refine ⟨b, isB_rep hbz p3, ?_⟩
  cases b with
  | false => exact h4 _ B3 H3 e3 r3 (.bl false)
  | true =>
    refine hc β B3 H3 σ s2 _ r3 ((post_bnd (show ((fc >>= fun w => lift (g' d2 w)) s2).post _ _ from h4)).imp (fun d4 s4 h5 v4 B4 H4 e4 r4 p4 => ?_) fun _ _ q => q.up e3)
    obtain ⟨z', hz', k⟩ := lift_post h5
    exact hr' B4 H4 v2 v4 d2 d4 z' Q r4.ext (p2.up (g3.b.trans e4)) p4 hz' fun w B5 H5 g5 p5 => k w B5 H5 ((e3.trans e4).trans g5.b) (r4.gr g5) p5
theorem ce_chain {op op' : CmpOp} {r r' : R2} {g g' : D → D → Option D} {a b c : Expr} {ta tb tc : TE} {fa fb fc : M D} {pos : Pos} (ho : OpR X (compareOp op) r) (ho' : OpR X (compareOp op') r') (hr : DR2 X.K r g) (hr' : DR2 X.K r' g') (ha : CE X so W a ta fa) (hb : CE X so W b tb fb) (hc : CE X so W c tc fc)
    (hm : lastMarks [op, op'] [b, c] = false := by with_unfolding_all rfl) : CE X so W (.Compare a [op, op'] [b, c] pos) (tChain r r' ta tb tc) (dChain g g' fa fb fc) := ⟨pe_chain ho ho' ha.pe hb.pe hc.pe hm, de_chain hr hr' ha.de hb.de hc.de⟩
theorem ct_chain {op op' : CmpOp} {r r' : R2} {g g' : D → D → Option D} {a b c : Expr} {ta tb tc : TE} {fa fb fc : M D} {pos : Pos} (ho : OpR X (compareOp op) r) (ho' : OpR X (compareOp op') r') (hr : DR2 X.K r g) (hr' : DR2 X.K r' g') (ha : CE X so W a ta fa) (hb : CE X so W b tb fb) (hc : CE X so W c tc fc)
    (hm : lastMarks [op, op'] [b, c] = false := by with_unfolding_all rfl) : CT X so W (.Compare a [op, op'] [b, c] pos) (tTest (tChain r r' ta tb tc)) (dTest (dChain g g' fa fb fc)) := ⟨pt_chain ho ho' ha.pe hb.pe hc.pe hm, dt_test (de_chain hr hr' ha.de hb.de hc.de)⟩

/-! ### and, or, not, if-else -/
def dAnd (f g : M Bool) : M Bool := do
  let c ← f
  if c then g else ret false
def dOr (f g : M Bool) : M Bool := do
  let c ← f
  if c then ret true else g
def dNot (f : M Bool) : M Bool := do
  let c ← f
  ret (!c)
def dIf {α : Type} (c : M Bool) (f g : M α) : M α := do
  let b ← c
  if b then f else g
theorem dt_and {K : PySem.W.Frag} {t u : TT} {f g : M Bool} (h1 : DT K so W t f) (h2 : DT K so W u g) : DT K so W (tAnd t u) (dAnd f g) := by
  intro β B H σ s Q rr h
  refine h1 β B H σ s _ rr ((post_bnd h).imp (fun c s1 k B1 H1 e1 r1 => ?_) fun _ _ q => q)
  cases c with
  | true => exact h2 β B1 H1 σ s1 Q r1 (k.imp (fun _ _ q => q.up e1) fun _ _ q => q.up e1)
  | false => exact k B1 H1 e1 r1
theorem dt_or {K : PySem.W.Frag} {t u : TT} {f g : M Bool} (h1 : DT K so W t f) (h2 : DT K so W u g) : DT K so W (tOr t u) (dOr f g) := by
  intro β B H σ s Q rr h
  refine h1 β B H σ s _ rr ((post_bnd h).imp (fun c s1 k B1 H1 e1 r1 => ?_) fun _ _ q => q)
  cases c with
  | false => exact h2 β B1 H1 σ s1 Q r1 (k.imp (fun _ _ q => q.up e1) fun _ _ q => q.up e1)
  | true => exact k B1 H1 e1 r1
theorem dt_not {K : PySem.W.Frag} {t : TT} {f : M Bool} (h1 : DT K so W t f) : DT K so W (tNot t) (dNot f) := by
  intro β B H σ s Q rr h
  exact h1 β B H σ s _ rr ((post_bnd h).imp (fun c s1 k B1 H1 e1 r1 => k B1 H1 e1 r1) fun _ _ q => q)
variable {a b : Expr} {rest : List Expr} {t u : TT} {f g : M Bool} {pos : Pos}
theorem cw_and1 (h : CT X so W a t f) : CW X so W (.BoolOp .And [a] pos) t f := ⟨pw_and1 h.pt, h.de⟩
theorem cw_or1 (h : CT X so W a t f) : CW X so W (.BoolOp .Or [a] pos) t f := ⟨pw_or1 h.pt, h.de⟩
theorem cw_and (h : CT X so W a t f) (k : CW X so W (.BoolOp .And (b :: rest) pos) u g) : CW X so W (.BoolOp .And (a :: b :: rest) pos) (tAnd t u) (dAnd f g) := ⟨pw_and h.pt k.pw, dt_and h.de k.de⟩
theorem cw_or (h : CT X so W a t f) (k : CW X so W (.BoolOp .Or (b :: rest) pos) u g) : CW X so W (.BoolOp .Or (a :: b :: rest) pos) (tOr t u) (dOr f g) := ⟨pw_or h.pt k.pw, dt_or h.de k.de⟩
theorem CW.ct {e : Expr} (h : CW X so W e t f) : CT X so W e t f := ⟨h.pw.pt, h.de⟩
theorem ct_not (h : CT X so W a t f) : CT X so W (.UnaryOp .Not a pos) (tNot t) (dNot f) := ⟨pt_not h.pt, dt_not h.de⟩
/-- as values: all but the last True or False -/
def dAndV (f g : M D) : M D := do
  let x ← f
  let c ← lift (isB x)
  if c then g else ret (.bl false)
def dOrV (f g : M D) : M D := do
  let x ← f
  let c ← lift (isB x)
  if c then ret (.bl true) else g
def dNotV (f : M D) : M D := do
  let x ← f
  let c ← lift (isB x)
  ret (.bl (!c))
theorem de_andV {K : PySem.W.Frag} {ta tb : TE} {f g : M D} (h1 : DE K so W ta f) (h2 : DE K so W tb g) : DE K so W (tAndV ta tb) (dAndV f g) := by
  intro β B H σ s Q rr h
  refine h1 β B H σ s _ rr ((post_bnd h).imp (fun d s1 k v B1 H1 e1 r1 p1 => ?_) fun _ _ q => q)
  obtain ⟨c, hc, k⟩ := lift_post (post_bnd k)
  refine ⟨c, isB_rep hc p1, ?_⟩
  cases c with
  | true => exact h2 β B1 H1 σ s1 Q r1 (Res.post.imp (show (g s1).post _ _ from k) (fun _ _ q => q.up e1) fun _ _ q => q.up e1)
  | false => exact k _ B1 H1 e1 r1 (.bl false)
theorem de_orV {K : PySem.W.Frag} {ta tb : TE} {f g : M D} (h1 : DE K so W ta f) (h2 : DE K so W tb g) : DE K so W (tOrV ta tb) (dOrV f g) := by
  intro β B H σ s Q rr h
  refine h1 β B H σ s _ rr ((post_bnd h).imp (fun d s1 k v B1 H1 e1 r1 p1 => ?_) fun _ _ q => q)
  obtain ⟨c, hc, k⟩ := lift_post (post_bnd k)
  refine ⟨c, isB_rep hc p1, ?_⟩
  cases c with
  | false => exact h2 β B1 H1 σ s1 Q r1 (Res.post.imp (show (g s1).post _ _ from k) (fun _ _ q => q.up e1) fun _ _ q => q.up e1)
  | true => exact k _ B1 H1 e1 r1 (.bl true)
theorem de_notV {K : PySem.W.Frag} {ta : TE} {f : M D} (h1 : DE K so W ta f) : DE K so W (tNotV ta) (dNotV f) := by
  intro β B H σ s Q rr h
  refine h1 β B H σ s _ rr ((post_bnd h).imp (fun d s1 k v B1 H1 e1 r1 p1 => ?_) fun _ _ q => q)
  obtain ⟨c, hc, k⟩ := lift_post (post_bnd k)
  exact ⟨c, isB_rep hc p1, k _ B1 H1 e1 r1 (.bl _)⟩
theorem de_if {K : PySem.W.Frag} {ta tb : TE} {f' g' : M D} (hc : DT K so W t f) (h1 : DE K so W ta f') (h2 : DE K so W tb g') : DE K so W (tIf t ta tb) (dIf f f' g') := by
  intro β B H σ s Q rr h
  refine hc β B H σ s _ rr ((post_bnd h).imp (fun c s1 k B1 H1 e1 r1 => ?_) fun _ _ q => q)
  cases c with
  | true => exact h1 β B1 H1 σ s1 Q r1 (Res.post.imp (show (f' s1).post _ _ from k) (fun _ _ q => q.up e1) fun _ _ q => q.up e1)
  | false => exact h2 β B1 H1 σ s1 Q r1 (Res.post.imp (show (g' s1).post _ _ from k) (fun _ _ q => q.up e1) fun _ _ q => q.up e1)
theorem ce_one {op : BoolOp} {ta : TE} {f' : M D} (h : CE X so W a ta f') : CE X so W (.BoolOp op [a] pos) ta f' := ⟨pe_one h.pe, h.de⟩
theorem ce_and {ta tb : TE} {f' g' : M D} (h : CE X so W a ta f') (k : CE X so W (.BoolOp .And (b :: rest) pos) tb g') : CE X so W (.BoolOp .And (a :: b :: rest) pos) (tAndV ta tb) (dAndV f' g') := ⟨pe_and h.pe k.pe, de_andV h.de k.de⟩
theorem ce_or {ta tb : TE} {f' g' : M D} (h : CE X so W a ta f') (k : CE X so W (.BoolOp .Or (b :: rest) pos) tb g') : CE X so W (.BoolOp .Or (a :: b :: rest) pos) (tOrV ta tb) (dOrV f' g') := ⟨pe_or h.pe k.pe, de_orV h.de k.de⟩
theorem ce_not {ta : TE} {f' : M D} (h : CE X so W a ta f') : CE X so W (.UnaryOp .Not a pos) (tNotV ta) (dNotV f') := ⟨pe_not h.pe, de_notV h.de⟩
theorem ce_if {c : Expr} {ta tb : TE} {f' g' : M D} (hc : CT X so W c t f) (h : CE X so W a ta f') (k : CE X so W b tb g') : CE X so W (.IfExp c a b pos) (tIf t ta tb) (dIf f f' g') := ⟨pe_ifExp hc.pt h.pe k.pe, de_if hc.de h.de k.de⟩

/-! ### argument lists, displays -/
def dCons (f : M D) (g : M (List D)) : M (List D) := do
  let x ← f
  let l ← g
  ret (x :: l)
theorem ca_nil : CA X so W [] tNil (ret []) := ⟨pa_nil, fun β B H σ s Q r k => k [] B H (Ex.refl B) r .nil⟩
theorem ca_cons {e : Expr} {es : List Expr} {te : TE} {ta : TA} {f' : M D} {g' : M (List D)} (h : CE X so W e te f') (k : CA X so W es ta g') (hs : starEach (e :: es) X.env = (false, eval e X.env) :: starEach es X.env := by rfl) : CA X so W (e :: es) (tCons te ta) (dCons f' g') := by
  refine ⟨pa_cons h.pe k.pa hs, fun β B H σ s Q rr hq => ?_⟩
  refine h.de β B H σ s _ rr ((post_bnd hq).imp (fun d s1 k1 v B1 H1 e1 r1 p1 => ?_) fun _ _ q => q)
  refine k.de β B1 H1 σ s1 _ r1 ((post_bnd k1).imp (fun d2 s2 h2 v2 B2 H2 e2 r2 p2 => ?_) fun _ _ q => q.up e1)
  exact h2 _ B2 H2 (e1.trans e2) r2 (.cons (p1.up e2) p2)
def dTup (f : M (List D)) : M D := do
  let l ← f
  if l.length ≤ sizeLine then ret (.tup l) else stk
def dLst (f : M (List D)) : M (List D) := do
  let l ← f
  if l.length ≤ sizeLine then ret l else stk
theorem ce_tup {es : List Expr} {x1} {ta : TA} {f' : M (List D)} (h : CA X so W es ta f') : CE X so W (.Tuple es x1 pos) (tTup ta) (dTup f') := by
  refine ⟨pe_tup h.pa, fun β B H σ s Q rr hq => ?_⟩
  refine h.de β B H σ s _ rr ((post_bnd hq).imp (fun l s1 k1 vs B1 H1 e1 r1 p1 => ?_) fun _ _ q => q)
  by_cases hl : l.length ≤ sizeLine
  · rw [if_pos hl] at k1
    have hv : vs.length ≤ sizeLine := by rw [p1.len]; exact hl
    refine ⟨hv, fun p hp => ?_⟩
    have g := Gr.new (so := none) (o := .tup vs) r1.ext hp
    exact k1 _ _ _ (e1.trans g.b) (r1.gr g) (.tup (.inl (.inl upd_same)) hv (p1.up g.b))
  · rw [if_neg hl] at k1; exact k1.elim
/-- a list that is made stands from now on -/
def dFrz (f : M (List D)) : M D := do
  let l ← f
  ret (.lst l)
theorem de_frz {K : PySem.W.Frag} {te : TE} {f' : M (List D)} (h : DN K so W te f') : DE K so W te (dFrz f') := by
  intro β B H σ s Q rr hq
  refine h β B H σ s Q rr ((post_bnd hq).imp (fun l s1 k p vs B1 H1 e1 r1 h1 h2 h3 h4 h5 h6 h7 => ?_) fun _ _ q => q)
  have eB : Ex B1 (upd B1 p (.lst vs)) := Ex.new h2
  exact k _ _ _ (e1.trans eB) (r1.freeze h1 h2 h3 h4 h5) (.lst upd_same h7 (h6.up eB))
theorem CN.ce {e : Expr} {te : TE} {f' : M (List D)} (h : CN X so W e te f') : CE X so W e te (dFrz f') := ⟨h.pe, de_frz h.de⟩
/-- a new list at a free place -/
theorem KL.give {K : PySem.W.Frag} {β : Bs} {σ : L2.St} {B0 B H : Hp} {s : FS} {Q : VK} {l : List D} (k : KL K so β σ B0 Q l s) (e : Ex B0 B) (r : R K so β B H σ s) {vs : List V} (p : Reps K B vs l) (hl : vs.length ≤ sizeLine) :
    ∀ a, H a = none → Q (.ref a) (upd H a (.lst vs)) := fun a ha => by
  have g := Gr.own (so := none) (o := .lst vs) r.ext ha
  exact k a vs B _ e (r.gr g) upd_same (r.ext.noneOf ha) (r.noOwn ha) (r.offNew ha) (r.h0New ha) p hl
theorem cn_lst {es : List Expr} {ta : TA} {f' : M (List D)} (h : CA X so W es ta f') : CN X so W (.List es pos) (tLst ta) (dLst f') := by
  refine ⟨pe_lst h.pa, fun β B H σ s Q rr hq => ?_⟩
  refine h.de β B H σ s _ rr ((post_bnd hq).imp (fun l s1 k1 vs B1 H1 e1 r1 p1 => ?_) fun _ _ q => q)
  by_cases hl : l.length ≤ sizeLine
  · rw [if_pos hl] at k1
    have hv : vs.length ≤ sizeLine := by rw [p1.len]; exact hl
    exact ⟨hv, KL.give k1 e1 r1 p1 hv⟩
  · rw [if_neg hl] at k1; exact k1.elim

/-! ### built-ins by their values -/
def DRC (K : PySem.W.Frag) (r : List V → Hp → VK → Prop) (g : List D → Option D) : Prop := ∀ (B H : Hp) (xs : List V) (ds : List D) (z : D) (Q : VK), Ex B H → Reps K B xs ds → g ds = some z → (∀ v B' H', Gr none B H B' H' → Rep K B' v z → Q v H') → r xs H Q
/-- .. that make a new list -/
def DRL (K : PySem.W.Frag) (r : List V → Hp → VK → Prop) (g : List D → Option (List D)) : Prop := ∀ (B H : Hp) (xs : List V) (ds : List D) (z : List D) (Q : VK), Ex B H → Reps K B xs ds → g ds = some z → (∀ vs, Reps K B vs z → vs.length ≤ sizeLine → ∀ p, H p = none → Q (.ref p) (upd H p (.lst vs))) → r xs H Q
def dCall (g : List D → Option D) (f : M (List D)) : M D := do
  let l ← f
  lift (g l)
def dCallL (g : List D → Option (List D)) (f : M (List D)) : M (List D) := do
  let l ← f
  lift (g l)
theorem de_cb {K : PySem.W.Frag} {r : List V → Hp → VK → Prop} {g : List D → Option D} {ta : TA} {f' : M (List D)} (hr : DRC K r g) (h : DA K so W ta f') : DE K so W (tCB r ta) (dCall g f') := by
  intro β B H σ s Q rr hq
  refine h β B H σ s _ rr ((post_bnd hq).imp (fun l s1 k1 vs B1 H1 e1 r1 p1 => ?_) fun _ _ q => q)
  obtain ⟨z, hz, k⟩ := lift_post k1
  exact hr B1 H1 vs l z Q r1.ext p1 hz fun v B2 H2 g2 p2 => k v B2 H2 (e1.trans g2.b) (r1.gr g2) p2
theorem dn_cb {K : PySem.W.Frag} {r : List V → Hp → VK → Prop} {g : List D → Option (List D)} {ta : TA} {f' : M (List D)} (hr : DRL K r g) (h : DA K so W ta f') : DN K so W (tCB r ta) (dCallL g f') := by
  intro β B H σ s Q rr hq
  refine h β B H σ s _ rr ((post_bnd hq).imp (fun l s1 k1 vs B1 H1 e1 r1 p1 => ?_) fun _ _ q => q)
  obtain ⟨z, hz, k⟩ := lift_post k1
  exact hr B1 H1 vs l z Q r1.ext p1 hz fun ws p2 hl => KL.give k e1 r1 p2 hl
variable {e : Expr} {es : List Expr} {x : Str} {p : Pos} {id T : String} {ta : TA} {r : List V → Hp → VK → Prop}
theorem ce_callB {gd : List D → Option D} {f' : M (List D)} (hr : DRC X.K r gd) (hc : CallR X (.builtin id) r) (hg : Gl X x) (hm : X.mg x = none) (hv : bootBuiltins x = some (.builtin id)) (ha : CA X so W (e :: es) ta f') (hn : x ≠ "__name__" := by decide) (hdb : (x == ("__debug__" : Str)) = false := by decide)
    (he : starEach (e :: es) X.env = (false, eval e X.env) :: starEach es X.env := by rfl) (hpl : (backTo pos (starEach es X.env)).any (·.1) = false := by rfl) : CE X so W (.Call (.Name x p) (e :: es) [] pos) (tCB r ta) (dCall gd f') :=
  ⟨pe_callB hc hg hm hv ha.pa hn hdb he hpl, de_cb hr ha.de⟩
theorem ce_callTy {gd : List D → Option D} {f' : M (List D)} (hr : DRC X.K r gd) (hc : CallR X (.type T) r) (hg : Gl X x) (hm : X.mg x = none) (hv : bootBuiltins x = some (.type T)) (ha : CA X so W (e :: es) ta f') (hn : x ≠ "__name__" := by decide) (hdb : (x == ("__debug__" : Str)) = false := by decide)
    (he : starEach (e :: es) X.env = (false, eval e X.env) :: starEach es X.env := by rfl) (hpl : (backTo pos (starEach es X.env)).any (·.1) = false := by rfl) : CE X so W (.Call (.Name x p) (e :: es) [] pos) (tCB r ta) (dCall gd f') :=
  ⟨pe_callTy hc hg hm hv ha.pa hn hdb he hpl, de_cb hr ha.de⟩
theorem cn_callB {gd : List D → Option (List D)} {f' : M (List D)} (hr : DRL X.K r gd) (hc : CallR X (.builtin id) r) (hg : Gl X x) (hm : X.mg x = none) (hv : bootBuiltins x = some (.builtin id)) (ha : CA X so W (e :: es) ta f') (hn : x ≠ "__name__" := by decide) (hdb : (x == ("__debug__" : Str)) = false := by decide)
    (he : starEach (e :: es) X.env = (false, eval e X.env) :: starEach es X.env := by rfl) (hpl : (backTo pos (starEach es X.env)).any (·.1) = false := by rfl) : CN X so W (.Call (.Name x p) (e :: es) [] pos) (tCB r ta) (dCallL gd f') :=
  ⟨pe_callB hc hg hm hv ha.pa hn hdb he hpl, dn_cb hr ha.de⟩
theorem cn_callTy {gd : List D → Option (List D)} {f' : M (List D)} (hr : DRL X.K r gd) (hc : CallR X (.type T) r) (hg : Gl X x) (hm : X.mg x = none) (hv : bootBuiltins x = some (.type T)) (ha : CA X so W (e :: es) ta f') (hn : x ≠ "__name__" := by decide) (hdb : (x == ("__debug__" : Str)) = false := by decide)
    (he : starEach (e :: es) X.env = (false, eval e X.env) :: starEach es X.env := by rfl) (hpl : (backTo pos (starEach es X.env)).any (·.1) = false := by rfl) : CN X so W (.Call (.Name x p) (e :: es) [] pos) (tCB r ta) (dCallL gd f') :=
  ⟨pe_callTy hc hg hm hv ha.pa hn hdb he hpl, dn_cb hr ha.de⟩
end
end DL
end S_DL2
section S_DL3
set_option Elab.async false
set_option linter.all false
set_option maxRecDepth 100000
set_option maxHeartbeats 4000000
/-! DL3: statements, targets, what is walked, loops, comprehensions. -/
namespace DL
open PySem PySem.Spec PyProof.Rows L2
section
variable {X : Cx} {so : So} {W : WX} {K : PySem.W.Frag} {β : Bs} {B H : Hp} {σ : L2.St} {s : FS}
/-! ### statements -/
def fSeq (f g : M Fl) : M Fl := do
  let a ← f
  match a with
  | .nx => g
  | .rt d => ret (.rt d)
  | .bk => ret .bk
  | .ct => ret .ct
theorem ds_seq {t u : TS} {f g : M Fl} (h1 : DS K so W t f) (h2 : DS K so W u g) : DS K so W (tSeq t u) (fSeq f g) := by
  intro β B H σ s Z r h
  refine h1 β B H σ s _ r ((post_bnd h).imp (fun a s1 k => ?_) fun _ _ q => q)
  intro σ1 B1 H1 e1 r1
  cases a with
  | nx => exact h2 β B1 H1 σ1 s1 Z r1 (Res.post.imp (show (g s1).post _ _ from k) (fun _ _ q => q.up e1) fun _ _ q => q.up e1)
  | rt d => exact k σ1 B1 H1 e1 r1
  | bk => exact k σ1 B1 H1 e1 r1
  | ct => exact k σ1 B1 H1 e1 r1
theorem cs_nil : CSs X so W [] tNext (ret .nx) := ⟨pss_nil, fun β B H σ s Z r k => k σ B H (Ex.refl B) r⟩
theorem cs_cons {st : Stmt} {rest : List Stmt} {t u : TS} {f g : M Fl} (h1 : CS X so W st t f) (h2 : CSs X so W rest u g) : CSs X so W (st :: rest) (tSeq t u) (fSeq f g) := ⟨pss_cons h1.ps h2.ps, ds_seq h1.de h2.de⟩
theorem cs_one {st : Stmt} {t : TS} {f : M Fl} (h1 : CS X so W st t f) : CSs X so W [st] t f := ⟨pss_one h1.ps, h1.de⟩
theorem cs_pass {pos} : CS X so W (.Pass pos) tNext (ret .nx) := ⟨ps_pass, fun β B H σ s Z r k => k σ B H (Ex.refl B) r⟩
theorem cs_break {pos} : CS X so W (.Break pos) tBreak (ret .bk) := ⟨ps_break, fun β B H σ s Z r k => k σ B H (Ex.refl B) r⟩
theorem cs_continue {pos} : CS X so W (.Continue pos) tCont (ret .ct) := ⟨ps_continue, fun β B H σ s Z r k => k σ B H (Ex.refl B) r⟩
def fRet (f : M D) : M Fl := do
  let d ← f
  ret (.rt d)
theorem cs_ret {e : Expr} {te : TE} {f : M D} {pos : Pos} (h : CE X so W e te f) : CS X so W (.Return (some e) pos) (tRet te) (fRet f) :=
  ⟨ps_ret h.pe, fun β B H σ s Z r k => h.de β B H σ s _ r ((post_bnd k).imp (fun d s1 k1 v B1 H1 e1 r1 p1 => k1 σ B1 H1 e1 r1 v p1) fun _ _ q => q)⟩
theorem cs_retN {pos : Pos} : CS X so W (.Return none pos) tRetN (ret (.rt .non)) := ⟨ps_retN, fun β B H σ s Z r k => k σ B H (Ex.refl B) r .non .non⟩
def fIf (c : M Bool) (f g : M Fl) : M Fl := dIf c f g
theorem ds_if {tc : TT} {t u : TS} {c : M Bool} {f g : M Fl} (hc : DT K so W tc c) (h1 : DS K so W t f) (h2 : DS K so W u g) : DS K so W (tIfS tc t u) (fIf c f g) := by
  intro β B H σ s Z r h
  refine hc β B H σ s _ r ((post_bnd h).imp (fun b s1 k B1 H1 e1 r1 => ?_) fun _ _ q => q)
  cases b with
  | true => exact h1 β B1 H1 σ s1 Z r1 (Res.post.imp (show (f s1).post _ _ from k) (fun _ _ q => q.up e1) fun _ _ q => q.up e1)
  | false => exact h2 β B1 H1 σ s1 Z r1 (Res.post.imp (show (g s1).post _ _ from k) (fun _ _ q => q.up e1) fun _ _ q => q.up e1)
theorem cs_if {c : Expr} {a b : List Stmt} {tc : TT} {t u : TS} {fc : M Bool} {f g : M Fl} {pos : Pos} (hc : CT X so W c tc fc) (ha : CSs X so W a t f) (hb : CSs X so W b u g) : CS X so W (.If c a b pos) (tIfS tc t u) (fIf fc f g) := ⟨ps_if hc.pt ha.ps hb.ps, ds_if hc.de ha.de hb.de⟩
/-- an expression whose value is dropped -/
def fDrop (f : M D) : M Fl := do
  let _ ← f
  ret .nx
theorem cs_expr {e : Expr} {te : TE} {f : M D} {pos : Pos} (h : CE X so W e te f) (hs : swapsWith e none pos.line X.env = pure false := by rfl) : CS X so W (.Expr e pos) (tDrop te) (fDrop f) :=
  ⟨ps_expr h.pe hs, fun β B H σ s Z r k => h.de β B H σ s _ r ((post_bnd k).imp (fun d s1 k1 v B1 H1 e1 r1 p1 => k1 σ B1 H1 e1 r1) fun _ _ q => q)⟩
/-- x = e -/
def putSl (i : Nat) (x : Sl) : M Fl := fun s => .ok .nx { s with ρ := s.ρ.set i x }
def fSet (i : Nat) (f : M D) : M Fl := do
  let d ← f
  putSl i (.fz d)
theorem ds_set {i : Nat} {te : TE} {f : M D} (h : DE K so W te f) : DS K so W (tAsg te (gName i)) (fSet i f) := fun β B H σ s Z r k =>
  h β B H σ s _ r ((post_bnd k).imp (fun d s1 k1 v B1 H1 e1 r1 p1 => k1 _ B1 H1 e1 (r1.set p1)) fun _ _ q => q)
theorem cs_set {i : Nat} {x : Str} {e : Expr} {te : TE} {f : M D} {pos pos' : Pos} (hN : X.N.Nodup) (h : CE X so W e te f) (hi : X.N[i]? = some x := by rfl) (hx : Loc X.env.scope x := by first | exact Or.inl rfl | exact Or.inr rfl) (hs : swapsWith e (some (.Name x pos')) pos.line X.env = pure false := by rfl)
    (hf : X.fn x = true ∨ X.env.scope.names.lookup x = some .local := by first | exact .inl rfl | exact .inr rfl) : CS X so W (.Assign [.Name x pos'] e pos) (tAsg te (gName i)) (fSet i f) := ⟨ps_set hN hi hx h.pe hs hf, ds_set h.de⟩
/-- x = e, a new list that x alone holds -/
def fSetN (i : Nat) (f : M (List D)) : M Fl := do
  let l ← f
  putSl i (.ow l)
theorem ds_setN {i : Nat} {te : TE} {f : M (List D)} (h : DN K so W te f) : DS K so W (tAsg te (gName i)) (fSetN i f) := fun β B H σ s Z r k =>
  h β B H σ s _ r ((post_bnd k).imp (fun d s1 k1 p vs B1 H1 e1 r1 h1 h2 h3 h4 h5 h6 h7 => k1 _ B1 H1 e1 (r1.setOwn h3 ⟨p, vs, rfl, h1, h2, ⟨h4, h5⟩, h6, h7⟩)) fun _ _ q => q)
theorem cs_setN {i : Nat} {x : Str} {e : Expr} {te : TE} {f : M (List D)} {pos pos' : Pos} (hN : X.N.Nodup) (h : CN X so W e te f) (hi : X.N[i]? = some x := by rfl) (hx : Loc X.env.scope x := by first | exact Or.inl rfl | exact Or.inr rfl) (hs : swapsWith e (some (.Name x pos')) pos.line X.env = pure false := by rfl)
    (hf : X.fn x = true ∨ X.env.scope.names.lookup x = some .local := by first | exact .inl rfl | exact .inr rfl) : CS X so W (.Assign [.Name x pos'] e pos) (tAsg te (gName i)) (fSetN i f) := ⟨ps_set hN hi hx h.pe hs hf, ds_setN h.de⟩

/-! ### targets -/
abbrev TgF := D → FS → Option FS
abbrev TgFs := List D → FS → Option FS
def DG (K : PySem.W.Frag) (so : So) (is : List Nat) (g : TG) (f : TgF) : Prop := ∀ (β : Bs) (B H : Hp) (σ : L2.St) (s s' : FS) (v : V) (d : D) (Q : L2.St → Hp → Prop), R K so β B H σ s → Rep K B v d →
  f d s = some s' → (∀ σ', R K so β B H σ' s' → (∀ vs : List Nat, (∀ i ∈ is, i ∈ vs) → wipe σ' vs = wipe σ vs) → Q σ' H) → g v σ H Q
def DGs (K : PySem.W.Frag) (so : So) (is : List Nat) (g : TGs) (f : TgFs) : Prop := ∀ (β : Bs) (B H : Hp) (σ : L2.St) (s s' : FS) (v : List V) (d : List D) (Q : L2.St → Hp → Prop), R K so β B H σ s → Reps K B v d →
  f d s = some s' → (∀ σ', R K so β B H σ' s' → (∀ vs : List Nat, (∀ i ∈ is, i ∈ vs) → wipe σ' vs = wipe σ vs) → Q σ' H) → g v σ H Q
structure CG (X : Cx) (so : So) (is : List Nat) (e : Expr) (t : TG) (f : TgF) : Prop where
  pg : PG X e t
  de : DG X.K so is t f
structure CGs (X : Cx) (so : So) (is : List Nat) (e : List Expr) (t : TGs) (f : TgFs) : Prop where
  pg : PGs X e t
  de : DGs X.K so is t f
def tgName (i : Nat) : TgF := fun d s => some { s with ρ := s.ρ.set i (.fz d) }
def tgo (f : TgF) (d : D) : M Unit := fun s => match f d s with
  | some s' => .ok () s'
  | none => .stuck
theorem tgo_post {f : TgF} {d : D} {s : FS} {P : Unit → FS → Prop} {E : D → FS → Prop} (h : (tgo f d s).post P E) : ∃ s', f d s = some s' ∧ P () s' := by
  unfold tgo at h
  cases e : f d s with
  | none => rw [e] at h; exact h.elim
  | some s' => rw [e] at h; exact ⟨s', rfl, h⟩
theorem wipe_get {σ : L2.St} : ∀ {vs : List Nat} {i : Nat}, (wipe σ vs)[i]? = if i ∈ vs then (if i < σ.length then some none else none) else σ[i]?
  | [], i => by simp [wipe]
  | v :: vs, i => by
    unfold wipe
    by_cases h : v = i
    · subst h
      rw [if_pos List.mem_cons_self]
      by_cases hl : v < σ.length
      · rw [List.getElem?_set_self (by rw [wipe_length]; exact hl), if_pos hl]
      · rw [List.getElem?_eq_none (by rw [List.length_set, wipe_length]; omega), if_neg hl]
    · rw [List.getElem?_set_ne h, wipe_get]
      by_cases hi : i ∈ vs
      · rw [if_pos hi, if_pos (List.mem_cons_of_mem _ hi)]
      · rw [if_neg hi, if_neg (fun z => by rcases List.mem_cons.mp z with e | e; exact h e.symm; exact hi e)]
theorem wipe_set {σ : L2.St} {vs : List Nat} {i : Nat} {x : Option V} (h : i ∈ vs) : wipe (σ.set i x) vs = wipe σ vs := by
  refine List.ext_getElem? fun j => ?_
  rw [wipe_get, wipe_get]
  by_cases hj : j ∈ vs
  · rw [if_pos hj, if_pos hj, List.length_set]
  · rw [if_neg hj, if_neg hj, List.getElem?_set_ne (fun e => hj (by rw [← e]; exact h))]
theorem wipe_wipe {σ : L2.St} {vs : List Nat} : wipe (wipe σ vs) vs = wipe σ vs := by
  refine List.ext_getElem? fun j => ?_
  rw [wipe_get, wipe_get, wipe_length]
  by_cases hj : j ∈ vs
  · rw [if_pos hj, if_pos hj]
  · rw [if_neg hj, if_neg hj]
theorem dg_name {i : Nat} : DG K so [i] (gName i) (tgName i) := fun β B H σ s s' v d Q r p e h => by
  cases e
  exact h _ (r.set p) fun vs hv => wipe_set (hv i (by simp))
theorem cg_name {i : Nat} {x : Str} {pos : Pos} (hN : X.N.Nodup) (hi : X.N[i]? = some x := by rfl) (hx : Loc X.env.scope x := by first | exact Or.inl rfl | exact Or.inr rfl) (hf : X.fn x = true ∨ X.env.scope.names.lookup x = some .local := by first | exact .inl rfl | exact .inr rfl) : CG X so [i] (.Name x pos) (gName i) (tgName i) := ⟨pg_name hN hi hx hf, dg_name⟩
def tgNil : TgFs := fun l s => match l with
  | [] => some s
  | _ => none
def tgCons (f : TgF) (g : TgFs) : TgFs := fun l s => match l with
  | d :: r => (f d s).bind fun s' => g r s'
  | [] => none
theorem cgs_nil : CGs X so [] [] gNil tgNil := ⟨pgs_nil, fun β B H σ s s' v d Q r p e h => by
  cases p with
  | nil => cases e; exact ⟨rfl, h σ r fun _ _ => rfl⟩
  | cons _ _ => cases e⟩
theorem cgs_cons {e : Expr} {es : List Expr} {is js : List Nat} {t : TG} {u : TGs} {f : TgF} {g : TgFs} (h1 : CG X so is e t f) (h2 : CGs X so js es u g)
    (hs : (assignEach (e :: es) X.env).map (·.2) = assign e X.env :: (assignEach es X.env).map (·.2) := by rfl) : CGs X so (is ++ js) (e :: es) (gCons t u) (tgCons f g) := by
  refine ⟨pgs_cons h1.pg h2.pg hs, fun β B H σ s s' v d Q r p e h => ?_⟩
  cases p with
  | nil => cases e
  | cons p1 p2 =>
    refine ⟨_, _, rfl, ?_⟩
    obtain ⟨s1, e1, e2⟩ := Option.bind_eq_some_iff.mp e
    refine h1.de β B H σ s s1 _ _ _ r p1 e1 fun σ1 r1 w1 => ?_
    refine h2.de β B H σ1 s1 s' _ _ _ r1 p2 e2 fun σ2 r2 w2 => ?_
    refine h σ2 r2 fun vs hv => ?_
    rw [w2 vs fun i hi => hv i (List.mem_append_right _ hi), w1 vs fun i hi => hv i (List.mem_append_left _ hi)]
def tgTup (n : Nat) (f : TgFs) : TgF := fun d s => match d with
  | .tup l => if l.length = n then f l s else none
  | _ => none
theorem cg_tup {es : List Expr} {is : List Nat} {k : Nat} {pos : Pos} {t : TGs} {f : TgFs} {n : Nat} (hc : X.calm = true) (h : CGs X so is es t f)
    (hn : (assignEach es X.env).length = n := by rfl) (hst : (assignEach es X.env).findIdx? (·.1) = none := by rfl) : CG X so is (.Tuple es k pos) (gTup X.K n t) (tgTup n f) := by
  refine ⟨pg_tup hc h.pg hn hst, fun β B H σ s s' v d Q r p e hq => ?_⟩
  cases p with
  | tup h1 h2 h3 =>
    rename_i a xs ds
    have e' : (if ds.length = n then f ds s else none) = some s' := e
    by_cases hl : ds.length = n
    · rw [if_pos hl] at e'
      exact ⟨a, xs, rfl, r.ext.sqt h1, by rw [h3.len]; exact hl, h.de β B H σ s s' xs ds Q r h3 e' hq⟩
    · rw [if_neg hl] at e'; cases e'
  | _ => cases e
/-- target = e, the target names -/
def fAsg (f : M D) (g : TgF) : M Fl := do
  let d ← f
  tgo g d
  ret .nx
theorem cs_asg {tg e : Expr} {is : List Nat} {te : TE} {g : TG} {f : M D} {fg : TgF} {pos : Pos} (he : CE X so W e te f) (hg : CG X so is tg g fg) (hs : swapsWithSole [tg] e pos.line X.env = pure false := by rfl) (hw : swappedStores [tg] e X.env = pure none := by rfl)
    (h1 : (assignEach [tg] X.env).map (·.2) = [assign tg X.env] := by rfl) : CS X so W (.Assign [tg] e pos) (tAsg te g) (fAsg f fg) := by
  refine ⟨ps_asg he.pe hg.pg hs hw h1, fun β B H σ s Z r k => ?_⟩
  refine he.de β B H σ s _ r ((post_bnd k).imp (fun d s1 k1 v B1 H1 e1 r1 p1 => ?_) fun _ _ q => q)
  obtain ⟨s2, e2, k2⟩ := tgo_post (post_bnd k1)
  exact hg.de β B1 H1 σ s1 s2 v d _ r1 p1 e2 fun σ2 r2 _ => k2 σ2 B1 H1 e1 r2
/-- a, b = x, y with plain names -/
def fPar (i j : Nat) (f : M (List D)) : M Fl := do
  let l ← f
  match l with
  | [x, y] => fun s => .ok .nx { s with ρ := (s.ρ.set i (.fz x)).set j (.fz y) }
  | _ => stk
theorem cs_par {i j : Nat} {x y : Str} {a b : Expr} {ta : TA} {f : M (List D)} {px py pt pos : Pos} {kt k2 pt2} (hc : X.calm = true) (hN : X.N.Nodup) (ha : CA X so W [a, b] ta f) (hi : X.N[i]? = some x := by rfl) (hj : X.N[j]? = some y := by rfl) (hij : i ≠ j := by decide)
    (hx : X.env.scope.names.lookup x = some .local := by rfl) (hy : X.env.scope.names.lookup y = some .local := by rfl)
    (hw : swappedStores [.Tuple [.Name x px, .Name y py] kt pt] (.Tuple [a, b] k2 pt2) X.env = pure (some [x, y]) := by rfl)
    (hs : swapsWithSole [.Tuple [.Name x px, .Name y py] kt pt] (.Tuple [a, b] k2 pt2) pos.line X.env = pure false := by rfl) :
    CS X so W (.Assign [.Tuple [.Name x px, .Name y py] kt pt] (.Tuple [a, b] k2 pt2) pos) (tPar i j ta) (fPar i j f) := by
  refine ⟨ps_par hc hN hi hj hij hx hy ha.pa hw hs, fun β B H σ s Z r k => ?_⟩
  refine ha.de β B H σ s _ r ((post_bnd k).imp (fun l s1 k1 vs B1 H1 e1 r1 p1 => ?_) fun _ _ q => q)
  cases p1 with
  | nil => exact k1.elim
  | cons q1 p2 =>
    cases p2 with
    | nil => exact k1.elim
    | cons q2 p3 =>
      cases p3 with
      | cons _ _ => exact k1.elim
      | nil =>
        refine ⟨_, _, rfl, ?_⟩
        exact k1 _ B1 H1 e1 ((r1.set q1).set q2)

/-! ### an own object that must not be touched meanwhile -/
theorem R.guard {D0 : Addr} {o : HO} (r : R K so β B H σ s) (h : H D0 = some o) (hb : B D0 = none) (hn : NoOwn σ s D0) (h0 : β.H0 D0 = none) (ht : ∀ ps, o ≠ .tbl ps := by intro ps z; cases z) : R K so ⟨β.B0, upd β.H0 D0 o⟩ B H σ s := by
  refine ⟨r.len, fun i x e => ?_, r.dj, r.ext, r.st, r.b0, fun a u q n t => ?_, fun a q => ?_, fun a q1 q2 => ?_, r.nt, fun z a ps q => ?_⟩
  · obtain ⟨v, h1, h2⟩ := r.sl i x e
    refine ⟨v, h1, ?_⟩
    have ne : ∀ a, v = some (V.ref a) → x.own = true → a ≠ D0 := fun a ev oy q => by
      subst q
      rw [ev] at h1
      exact hn i x e oy h1
    cases x with
    | un => trivial
    | fz d => exact h2
    | st => exact h2
    | ow ds =>
      obtain ⟨a, vs, q1, q2, q3, ⟨q4, q5⟩, q6⟩ := h2
      exact ⟨a, vs, q1, q2, q3, ⟨q4, by show upd β.H0 D0 o a = none; rw [upd_ne (ne a q1 rfl)]; exact q5⟩, q6⟩
    | od ds =>
      obtain ⟨a, vs, q1, q2, q3, ⟨q4, q5⟩, q6⟩ := h2
      exact ⟨a, vs, q1, q2, q3, ⟨q4, by show upd β.H0 D0 o a = none; rw [upd_ne (ne a q1 rfl)]; exact q5⟩, q6⟩
  · have q : upd β.H0 D0 o a = some u := q
    by_cases z : a = D0
    · subst z; rw [upd_same] at q; rw [← q]; exact h
    · rw [upd_ne z] at q; exact r.keep a u q n t
  · have q : upd β.H0 D0 o a ≠ none := q
    by_cases z : a = D0
    · subst z; rw [h]; simp
    · rw [upd_ne z] at q; exact r.dom a q
  · have q1 : upd β.H0 D0 o a ≠ none := q1
    by_cases z : a = D0
    · subst z; exact hb
    · rw [upd_ne z] at q1; exact r.n0 a q1 q2
  · have q : upd β.H0 D0 o a = some (.tbl ps) := q
    by_cases w : a = D0
    · subst w; rw [upd_same] at q; exact ht ps (Option.some.inj q)
    · rw [upd_ne w] at q; exact r.h0t z a ps q
theorem R.unguard {D0 : Addr} {o : HO} (r : R K so ⟨β.B0, upd β.H0 D0 o⟩ B H σ s) (h0 : β.H0 D0 = none) (hb0 : β.B0 D0 = none) (ho : OffSo so D0) (ht : ∀ ps, o ≠ .tbl ps := by intro ps z; cases z) : R K so β B H σ s ∧ H D0 = some o ∧ B D0 = none ∧ NoOwn σ s D0 := by
  have hs : (upd β.H0 D0 o) D0 = some o := upd_same
  have old : ∀ a, (upd β.H0 D0 o) a = none → β.H0 a = none ∧ a ≠ D0 := fun a q => by
    by_cases z : a = D0
    · subst z; rw [upd_same] at q; cases q
    · rw [upd_ne z] at q; exact ⟨q, z⟩
  have up : ∀ a, β.H0 a ≠ none → a ≠ D0 := fun a q z => q (by rw [z]; exact h0)
  refine ⟨⟨r.len, fun i x e => ?_, r.dj, r.ext, r.st, r.b0, fun a u q n t => ?_, fun a q => ?_, fun a q1 q2 => ?_, r.nt, fun z a ps q => ?_⟩, r.keep D0 o hs ho (tame_of ht), r.n0 D0 (by show upd β.H0 D0 o D0 ≠ none; rw [hs]; simp) hb0, fun j y e oy q => ?_⟩
  · obtain ⟨v, h1, h2⟩ := r.sl i x e
    refine ⟨v, h1, ?_⟩
    cases x with
    | un => trivial
    | fz d => exact h2
    | st => exact h2
    | ow ds =>
      obtain ⟨a, vs, q1, q2, q3, ⟨q4, q5⟩, q6⟩ := h2
      exact ⟨a, vs, q1, q2, q3, ⟨q4, (old a q5).1⟩, q6⟩
    | od ds =>
      obtain ⟨a, vs, q1, q2, q3, ⟨q4, q5⟩, q6⟩ := h2
      exact ⟨a, vs, q1, q2, q3, ⟨q4, (old a q5).1⟩, q6⟩
  · refine r.keep a u ?_ n t
    show upd β.H0 D0 o a = some u
    rw [upd_ne (up a (by rw [q]; simp))]; exact q
  · refine r.dom a ?_
    show upd β.H0 D0 o a ≠ none
    rw [upd_ne (up a q)]; exact q
  · refine r.n0 a ?_ q2
    show upd β.H0 D0 o a ≠ none
    rw [upd_ne (up a q1)]; exact q1
  · refine r.h0t z a ps ?_
    show upd β.H0 D0 o a = some (.tbl ps)
    rw [upd_ne (up a (by rw [q]; simp))]; exact q
  · obtain ⟨v, h1, h2⟩ := r.sl j y e
    obtain ⟨a, e1, _, _, e2, _⟩ := h2.addr oy
    rw [q] at h1
    have e3 : some (V.ref D0) = v := Option.some.inj h1
    rw [e1] at e3
    have e4 : D0 = a := by injection e3 with q; injection q with q
    exact (old a e2).2 e4.symm

/-! ### what is walked -/
structure Walk (K : PySem.W.Frag) (B : Hp) (J : It) (ds : List D) : Prop where
  sz : ds.length ≤ sizeLine
  go : ∀ i H, Ex B H → i < ds.length → J.go i H
  yld : ∀ i H x H', Ex B H → i < ds.length → J.yld i H x H' → ∃ d, ds[i]? = some d ∧ ∀ B1, Ex B B1 → Ex B1 H → ∃ B2, Gr none B1 H B2 H' ∧ Rep K B2 x d
  stop : ∀ i H, Ex B H → ds.length ≤ i → J.stop i H
def KW (K : PySem.W.Frag) (so : So) (β : Bs) (σ : L2.St) (B : Hp) (Q : It → Hp → Prop) : List D → FS → Prop := fun ds s' => ∀ J B' H', Ex B B' → R K so β B' H' σ s' → Walk K B' J ds → Q J H'
def DI (K : PySem.W.Frag) (so : So) (W : WX) (t : TI) (f : M (List D)) : Prop := ∀ (β : Bs) (B H : Hp) (σ : L2.St) (s : FS) (Q : It → Hp → Prop), R K so β B H σ s → (f s).post (KW K so β σ B Q) (KX K so β B W) → t σ H Q
structure CI (X : Cx) (so : So) (W : WX) (tg e : Expr) (t : TI) (f : M (List D)) : Prop where
  pi : PI X tg e t
  de : DI X.K so W t f
theorem Walk.up {B1 : Hp} {J : It} {ds : List D} (e : Ex B B1) (w : Walk K B J ds) : Walk K B1 J ds :=
  ⟨w.sz, fun i H h => w.go i H (e.trans h), fun i H x H' h l y => let ⟨d, h1, h2⟩ := w.yld i H x H' (e.trans h) l y; ⟨d, h1, fun B2 e2 e3 => h2 B2 (e.trans e2) e3⟩, fun i H h => w.stop i H (e.trans h)⟩
def itemsL (d : D) : Option (List D) := match d with
  | .lst l => some l
  | _ => none
def itemsT (d : D) : Option (List D) := match d with
  | .tup l => some l
  | _ => none
def dItL (f : M D) : M (List D) := do
  let d ← f
  lift (itemsL d)
def dItT (f : M D) : M (List D) := do
  let d ← f
  lift (itemsT d)
theorem walk_list {a : Addr} {xs : List V} {ds : List D} (h : B a = some (.lst xs)) (hl : xs.length ≤ sizeLine) (p : Reps K B xs ds) : Walk K B (Itl K a) ds := by
  have hlen := p.len
  refine ⟨by omega, fun i H e l => ?_, fun i H x H' e l y => ?_, fun i H e l => ⟨xs, SqL.of (e _ _ h), by omega⟩⟩
  · exact ⟨xs, xs[i]'(by omega), SqL.of (e _ _ h), by simp [show i < xs.length by omega]⟩
  · obtain ⟨e1, y⟩ := y
    subst e1
    obtain ⟨d, h1, h2⟩ := p.getV (y xs (SqL.of (e _ _ h)))
    exact ⟨d, h1, fun B1 e1 e2 => ⟨B1, Gr.refl e2, h2.up e1⟩⟩
theorem walk_tup {a : Addr} {xs : List V} {ds : List D} (h : SqT K B a xs) (hl : xs.length ≤ sizeLine) (p : Reps K B xs ds) : Walk K B (Itt K a) ds := by
  have hlen := p.len
  refine ⟨by omega, fun i H e l => ?_, fun i H x H' e l y => ?_, fun i H e l => ⟨xs, e.sqt h, by omega⟩⟩
  · exact ⟨xs, xs[i]'(by omega), e.sqt h, by simp [show i < xs.length by omega]⟩
  · obtain ⟨e1, y⟩ := y
    subst e1
    obtain ⟨d, h1, h2⟩ := p.getV (y xs (e.sqt h))
    exact ⟨d, h1, fun B1 e1 e2 => ⟨B1, Gr.refl e2, h2.up e1⟩⟩
theorem ci_list {tg e : Expr} {te : TE} {f : M D} (h : CE X so W e te f) : CI X so W tg e (iList X.K te) (dItL f) := by
  refine ⟨pi_list h.pe, fun β B H σ s Q r k => ?_⟩
  refine h.de β B H σ s _ r ((post_bnd k).imp (fun d s1 k1 v B1 H1 e1 r1 p1 => ?_) fun _ _ q => q)
  obtain ⟨l, hl, k2⟩ := lift_post k1
  cases p1 with
  | lst h1 h2 h3 => cases hl; exact ⟨_, rfl, ⟨_, SqL.of (r1.ext _ _ h1)⟩, k2 _ B1 H1 e1 r1 (walk_list h1 h2 h3)⟩
  | _ => cases hl
theorem ci_tup {tg e : Expr} {te : TE} {f : M D} (h : CE X so W e te f) : CI X so W tg e (iTup X.K te) (dItT f) := by
  refine ⟨pi_tup h.pe, fun β B H σ s Q r k => ?_⟩
  refine h.de β B H σ s _ r ((post_bnd k).imp (fun d s1 k1 v B1 H1 e1 r1 p1 => ?_) fun _ _ q => q)
  obtain ⟨l, hl, k2⟩ := lift_post k1
  cases p1 with
  | tup h1 h2 h3 => cases hl; exact ⟨_, rfl, ⟨_, r1.ext.sqt h1⟩, k2 _ B1 H1 e1 r1 (walk_tup h1 h2 h3)⟩
  | _ => cases hl
def rngD (lo : Int) (n : Nat) : List D := (List.range n).map fun i => D.int (lo + (i : Nat))
theorem walk_rng {lo : Int} {n : Nat} (h : n ≤ sizeLine) : Walk K B (Itr lo n) (rngD lo n) := by
  have hl : (rngD lo n).length = n := by simp [rngD]
  refine ⟨by rw [hl]; exact h, fun i H e l => by rw [hl] at l; exact l, fun i H x H' e l y => ?_, fun i H e l => by rw [hl] at l; exact l⟩
  obtain ⟨e1, e2⟩ := y
  subst e1 e2
  rw [hl] at l
  exact ⟨.int (lo + (i : Nat)), by simp [rngD, l], fun B1 e1 e2 => ⟨B1, Gr.refl e2, .int _⟩⟩
def dRng1 (f : M (List D)) : M (List D) := do
  let l ← f
  match l with
  | [.int n] => if -(2 ^ 62) ≤ n ∧ n < 2 ^ 62 ∧ n.toNat ≤ sizeLine then ret (rngD 0 n.toNat) else stk
  | _ => stk
def dRng2 (f : M (List D)) : M (List D) := do
  let l ← f
  match l with
  | [.int m, .int n] => if -(2 ^ 62) ≤ m ∧ m < 2 ^ 62 ∧ -(2 ^ 62) ≤ n ∧ n < 2 ^ 62 ∧ (n - m).toNat ≤ sizeLine then ret (rngD m (n - m).toNat) else stk
  | _ => stk
theorem ci_rng1 {tg a : Expr} {ta : TA} {f : M (List D)} {p pos : Pos} (hg : Gl X "range") (hm : X.mg "range" = none) (ha : CA X so W [a] ta f) (hs : starEach [a] X.env = [(false, eval a X.env)] := by rfl) : CI X so W tg (.Call (.Name "range" p) [a] [] pos) (iRng1 ta) (dRng1 f) := by
  refine ⟨pi_range1 hg hm ha.pa hs, fun β B H σ s Q r k => ?_⟩
  refine ha.de β B H σ s _ r ((post_bnd k).imp (fun d s1 k1 v B1 H1 e1 r1 p1 => ?_) fun _ _ q => q)
  cases p1 with
  | nil => exact k1.elim
  | cons q1 p2 =>
    cases q1 with
    | int n =>
      cases p2 with
      | cons _ _ => exact k1.elim
      | nil =>
        by_cases hc : -(2 ^ 62) ≤ n ∧ n < 2 ^ 62 ∧ n.toNat ≤ sizeLine
        · have k2 : (ret (rngD 0 n.toNat) s1).post (KW X.K so β σ B Q) (KX X.K so β B W) := by
            have k1' : ((if -(2 ^ 62) ≤ n ∧ n < 2 ^ 62 ∧ n.toNat ≤ sizeLine then ret (rngD 0 n.toNat) else stk) s1).post _ _ := k1
            rw [if_pos hc] at k1'; exact k1'
          exact ⟨n, rfl, hc.1, hc.2.1, k2 _ B1 H1 e1 r1 (walk_rng hc.2.2)⟩
        · have k1' : ((if -(2 ^ 62) ≤ n ∧ n < 2 ^ 62 ∧ n.toNat ≤ sizeLine then ret (rngD 0 n.toNat) else stk) s1).post _ _ := k1
          rw [if_neg hc] at k1'; exact k1'.elim
    | _ => exact k1.elim
theorem ci_rng2 {tg a b : Expr} {ta : TA} {f : M (List D)} {p pos : Pos} (hg : Gl X "range") (hm : X.mg "range" = none) (ha : CA X so W [a, b] ta f) (hs : starEach [a, b] X.env = [(false, eval a X.env), (false, eval b X.env)] := by rfl) (hs2 : starEach [b] X.env = [(false, eval b X.env)] := by rfl) : CI X so W tg (.Call (.Name "range" p) [a, b] [] pos) (iRng2 ta) (dRng2 f) := by
  refine ⟨pi_range2 hg hm ha.pa hs hs2, fun β B H σ s Q r k => ?_⟩
  refine ha.de β B H σ s _ r ((post_bnd k).imp (fun d s1 k1 v B1 H1 e1 r1 p1 => ?_) fun _ _ q => q)
  cases p1 with
  | nil => exact k1.elim
  | cons q1 p2 =>
    cases q1 with
    | int m =>
      cases p2 with
      | nil => exact k1.elim
      | cons q2 p3 =>
        cases q2 with
        | int n =>
          cases p3 with
          | cons _ _ => exact k1.elim
          | nil =>
            by_cases hc : -(2 ^ 62) ≤ m ∧ m < 2 ^ 62 ∧ -(2 ^ 62) ≤ n ∧ n < 2 ^ 62 ∧ (n - m).toNat ≤ sizeLine
            · have k2 : (ret (rngD m (n - m).toNat) s1).post (KW X.K so β σ B Q) (KX X.K so β B W) := by
                have k1' : ((if -(2 ^ 62) ≤ m ∧ m < 2 ^ 62 ∧ -(2 ^ 62) ≤ n ∧ n < 2 ^ 62 ∧ (n - m).toNat ≤ sizeLine then ret (rngD m (n - m).toNat) else stk) s1).post _ _ := k1
                rw [if_pos hc] at k1'; exact k1'
              exact ⟨m, n, rfl, ⟨hc.1, hc.2.1, hc.2.2.1, hc.2.2.2.1⟩, k2 _ B1 H1 e1 r1 (walk_rng hc.2.2.2.2)⟩
            · have k1' : ((if -(2 ^ 62) ≤ m ∧ m < 2 ^ 62 ∧ -(2 ^ 62) ≤ n ∧ n < 2 ^ 62 ∧ (n - m).toNat ≤ sizeLine then ret (rngD m (n - m).toNat) else stk) s1).post _ _ := k1
              rw [if_neg hc] at k1'; exact k1'.elim
        | _ => exact k1.elim
    | _ => exact k1.elim

/-! ### for, while -/
def forD (g : TgF) (b : M Fl) : List D → M Fl
  | [] => ret .nx
  | d :: ds => do
    tgo g d
    let f ← b
    match f with
    | .nx => forD g b ds
    | .ct => forD g b ds
    | .bk => ret .nx
    | .rt d => ret (.rt d)
def fFor (fi : M (List D)) (g : TgF) (b : M Fl) : M Fl := do
  let ds ← fi
  forD g b ds
theorem ds_for {is : List Nat} {wi : TI} {g : TG} {tb : TS} {fi : M (List D)} {fg : TgF} {fb : M Fl} (hi : DI K so W wi fi) (hg : DG K so is g fg) (hb : DS K so W tb fb) : DS K so W (tFor wi g tb) (fFor fi fg fb) := by
  intro β B H σ s Z r h
  refine hi β B H σ s _ r ((post_bnd h).imp (fun ds s1 k J B1 H1 e1 r1 w => ?_) fun _ _ q => q)
  refine ⟨fun i m σ' H' => m = ds.length - i ∧ i ≤ ds.length ∧ ∃ B' s', Ex B1 B' ∧ R K so β B' H' σ' s' ∧ (forD fg fb (ds.drop i) s').post (KS K so β B Z) (KX K so β B W), ⟨ds.length, by simp, Nat.zero_le _, B1, s1, Ex.refl B1, r1, by simpa using k⟩, ?_⟩
  rintro i m σ' H' ⟨rfl, hi', B2, s2, e2, r2, k2⟩
  by_cases hlt : i < ds.length
  · refine .inr ⟨w.go i H' (e2.trans r2.ext) hlt, fun σ3 H3 => ∃ B' s', Ex B1 B' ∧ R K so β B' H3 σ3 s' ∧ (forD fg fb (ds.drop (i + 1)) s').post (KS K so β B Z) (KX K so β B W), fun σ3 H3 q => ⟨ds.length - (i + 1), by omega, rfl, hlt, q⟩, fun x H3 y => ?_⟩
    obtain ⟨d, hd, hw⟩ := w.yld i H' x H3 (e2.trans r2.ext) hlt y
    obtain ⟨B3, g3, p3⟩ := hw B2 e2 r2.ext
    have r3 := r2.gr g3
    have e3 : Ex B1 B3 := e2.trans g3.b
    have hdr : ds.drop i = d :: ds.drop (i + 1) := by
      rw [List.drop_eq_getElem_cons hlt]
      have := (List.getElem?_eq_some_iff.mp hd).2
      rw [this]
    rw [hdr] at k2
    obtain ⟨s4, e4, k4⟩ := tgo_post (post_bnd k2)
    refine hg β B3 H3 σ' s2 s4 x d _ r3 p3 e4 fun σ4 r4 _ => ?_
    refine hb β B3 H3 σ4 s4 _ r4 ((post_bnd k4).imp (fun f s5 k5 => ?_) fun _ _ q => q.up (e1.trans e3))
    intro σ5 B5 H5 e5 r5
    have e6 : Ex B1 B5 := e3.trans e5
    cases f with
    | nx => exact ⟨B5, s5, e6, r5, k5⟩
    | ct => exact ⟨B5, s5, e6, r5, k5⟩
    | bk => exact k5 σ5 B5 H5 (e1.trans e6) r5
    | rt d => exact k5 σ5 B5 H5 (e1.trans e6) r5
  · have e : i = ds.length := by omega
    subst e
    rw [List.drop_length] at k2
    exact .inl ⟨w.stop _ H' (e2.trans r2.ext) (Nat.le_refl _), k2 σ' B2 H' (e1.trans e2) r2⟩
theorem cs_for {is : List Nat} {tg iter : Expr} {body : List Stmt} {wi : TI} {g : TG} {tb : TS} {fi : M (List D)} {fg : TgF} {fb : M Fl} {pos : Pos} (hp : PassesOwn (model X.prog X.w) X.A X.env X.xe) (hc : X.calm = true) (hi : CI X so W tg iter wi fi) (hg : CG X so is tg g fg) (hb : CSs X so W body tb fb)
    (hs : ∀ x, foldedSetIterable iter X.env x = pure x := by intro _; rfl) : CS X so W (.For tg iter body [] pos) (tFor wi g tb) (fFor fi fg fb) := ⟨ps_for hp hc hi.pi hg.pg hb.ps hs, ds_for hi.de hg.de hb.de⟩
def whileD (c : M Bool) (b : M Fl) : Nat → M Fl
  | 0 => stk
  | n + 1 => do
    let k ← c
    if k then
      let f ← b
      match f with
      | .nx => whileD c b n
      | .ct => whileD c b n
      | .bk => ret .nx
      | .rt d => ret (.rt d)
    else ret .nx
def fWhile (fuel : FS → Nat) (c : M Bool) (b : M Fl) : M Fl := fun s => whileD c b (fuel s) s
theorem ds_while (fuel : FS → Nat) {tc : TT} {tb : TS} {c : M Bool} {b : M Fl} (hc : DT K so W tc c) (hb : DS K so W tb b) : DS K so W (tWhile tc tb) (fWhile fuel c b) := by
  intro β B H σ s Z r h
  refine ⟨fun m σ' H' => ∃ B' s', Ex B B' ∧ R K so β B' H' σ' s' ∧ (whileD c b m s').post (KS K so β B Z) (KX K so β B W), ⟨fuel s, B, s, Ex.refl B, r, h⟩, ?_⟩
  rintro m σ1 H1 ⟨B1, s1, e1, r1, k1⟩
  cases m with
  | zero => exact k1.elim
  | succ n =>
    refine hc β B1 H1 σ1 s1 _ r1 ((post_bnd k1).imp (fun k s2 k2 B2 H2 e2 r2 => ?_) fun _ _ q => q.up e1)
    cases k with
    | false => exact k2 σ1 B2 H2 (e1.trans e2) r2
    | true =>
      refine ⟨fun σ' H' => ∃ B' s', Ex B B' ∧ R K so β B' H' σ' s' ∧ (whileD c b n s').post (KS K so β B Z) (KX K so β B W), fun σ' H' q => ⟨n, Nat.lt_succ_self n, q⟩, ?_⟩
      refine hb β B2 H2 σ1 s2 _ r2 (Res.post.imp (post_bnd (show ((b >>= fun f => match f with | .nx => whileD c b n | .ct => whileD c b n | .bk => ret .nx | .rt d => ret (.rt d)) s2).post _ _ from k2)) (fun f s3 k3 => ?_) fun _ _ q => q.up (e1.trans e2))
      intro σ3 B3 H3 e3 r3
      have e4 := (e1.trans e2).trans e3
      cases f with
      | nx => exact ⟨B3, s3, e4, r3, k3⟩
      | ct => exact ⟨B3, s3, e4, r3, k3⟩
      | bk => exact k3 σ3 B3 H3 e4 r3
      | rt d => exact k3 σ3 B3 H3 e4 r3
theorem cs_while (fuel : FS → Nat) {c : Expr} {body : List Stmt} {tc : TT} {tb : TS} {fc : M Bool} {fb : M Fl} {pos : Pos} (hp : PassesOwn (model X.prog X.w) X.A X.env X.xe) (hc : CT X so W c tc fc) (hb : CSs X so W body tb fb) : CS X so W (.While c body [] pos) (tWhile tc tb) (fWhile fuel fc fb) := ⟨ps_while hp hc.pt hb.ps, ds_while fuel hc.de hb.de⟩
end
end DL
end S_DL3
section S_DL4
set_option Elab.async false
set_option linter.all false
set_option maxRecDepth 100000
set_option maxHeartbeats 4000000
/-! DL4: comprehensions, calls of defs, defs. -/
namespace DL
open PySem PySem.Spec PyProof.Rows L2
section
variable {X : Cx} {so : So} {W : WX} {K : PySem.W.Frag} {β : Bs} {B H : Hp} {σ σ' : L2.St} {s : FS}
/-! ### names forgotten -/
def wipeR (ρ : List Sl) : List Nat → List Sl
  | [] => ρ
  | v :: vs => (wipeR ρ vs).set v .un
theorem wipeR_len {ρ : List Sl} : ∀ {vs : List Nat}, (wipeR ρ vs).length = ρ.length
  | [] => rfl
  | v :: vs => by unfold wipeR; rw [List.length_set, wipeR_len]
theorem wipeR_get {ρ : List Sl} : ∀ {vs : List Nat} {i : Nat}, (wipeR ρ vs)[i]? = if i ∈ vs then (if i < ρ.length then some .un else none) else ρ[i]?
  | [], i => by simp [wipeR]
  | v :: vs, i => by
    unfold wipeR
    by_cases h : v = i
    · subst h
      rw [if_pos List.mem_cons_self]
      by_cases hl : v < ρ.length
      · rw [List.getElem?_set_self (by rw [wipeR_len]; exact hl), if_pos hl]
      · rw [List.getElem?_eq_none (by rw [List.length_set, wipeR_len]; omega), if_neg hl]
    · rw [List.getElem?_set_ne h, wipeR_get]
      by_cases hi : i ∈ vs
      · rw [if_pos hi, if_pos (List.mem_cons_of_mem _ hi)]
      · rw [if_neg hi, if_neg (fun z => by rcases List.mem_cons.mp z with e | e; exact h e.symm; exact hi e)]
def wipeM (vs : List Nat) : M Unit := fun s => .ok () { s with ρ := wipeR s.ρ vs }
theorem wipeR_ne {ρ : List Sl} {vs : List Nat} {i : Nat} {x : Sl} (h : (wipeR ρ vs)[i]? = some x) (o : x.own = true) : i ∉ vs ∧ ρ[i]? = some x := by
  rw [wipeR_get] at h
  by_cases hi : i ∈ vs
  · rw [if_pos hi] at h
    by_cases hl : i < ρ.length
    · rw [if_pos hl] at h; cases h; cases o
    · rw [if_neg hl] at h; cases h
  · rw [if_neg hi] at h; exact ⟨hi, h⟩
/-- the names at vs are forgotten, all others hold what they held -/
theorem R.re (r : R K so β B H σ s) {vs : List Nat} (hl : σ'.length = σ.length) (h : ∀ i, i ∉ vs → σ'[i]? = σ[i]?) : R K so β B H σ' { s with ρ := wipeR s.ρ vs } := by
  refine ⟨by rw [hl, r.len]; exact wipeR_len.symm, fun i x e => ?_, fun i j x y a e1 e2 o1 o2 f1 f2 => ?_, r.ext, r.st, r.b0, r.keep, r.dom, r.n0, r.nt, r.h0t⟩
  · have e' : (wipeR s.ρ vs)[i]? = some x := e
    by_cases hi : i ∈ vs
    · rw [wipeR_get, if_pos hi] at e'
      by_cases hl' : i < s.ρ.length
      · rw [if_pos hl'] at e'
        cases e'
        have : i < σ'.length := by rw [hl, r.len]; exact hl'
        exact ⟨σ'[i], by simp [this], trivial⟩
      · rw [if_neg hl'] at e'; cases e'
    · rw [wipeR_get, if_neg hi] at e'
      rw [h i hi]
      exact r.sl i x e'
  · obtain ⟨n1, g1⟩ := wipeR_ne (show (wipeR s.ρ vs)[i]? = some x from e1) o1
    obtain ⟨n2, g2⟩ := wipeR_ne (show (wipeR s.ρ vs)[j]? = some y from e2) o2
    rw [h i n1] at f1
    rw [h j n2] at f2
    exact r.dj i j x y a g1 g2 o1 o2 f1 f2
theorem R.wipes (r : R K so β B H σ s) (vs : List Nat) : R K so β B H (wipe σ vs) { s with ρ := wipeR s.ρ vs } := r.re (wipe_length σ vs) fun i hi => by rw [wipe_get, if_neg hi]
theorem R.unwipe {vs : List Nat} (r : R K so β B H (wipe σ vs) s) : R K so β B H σ { s with ρ := wipeR s.ρ vs } := r.re (wipe_length σ vs).symm fun i hi => by rw [wipe_get, if_neg hi]
/-- an object of ours that no name holds is changed -/
theorem R.poke {D0 : Addr} {o u : HO} (r : R K so β B H σ s) (hD : H D0 = some u) (hcD : ∀ q, u ≠ LamX.CodeO D0 q) (hb : B D0 = none) (hn : NoOwn σ s D0) (ho : OffSo so D0) (h0 : β.H0 D0 = none) : R K so β B (upd H D0 o) σ s := by
  refine ⟨r.len, fun i x e => ?_, r.dj, fun a u q => ?_, ?_, r.b0, fun a u q n t => ?_, fun a q => ?_, r.n0, r.nt, r.h0t⟩
  · obtain ⟨v, h1, h2⟩ := r.sl i x e
    refine ⟨v, h1, ?_⟩
    have ne : ∀ a, v = some (V.ref a) → x.own = true → a ≠ D0 := fun a ev oy q => by
      subst q
      rw [ev] at h1
      exact hn i x e oy h1
    cases x with
    | un => trivial
    | fz d => exact h2
    | st => exact h2
    | ow ds =>
      obtain ⟨a, vs, q1, q2, q3⟩ := h2
      exact ⟨a, vs, q1, by rw [upd_ne (ne a q1 rfl)]; exact q2, q3⟩
    | od ds =>
      obtain ⟨a, vs, q1, q2, q3⟩ := h2
      exact ⟨a, vs, q1, by rw [upd_ne (ne a q1 rfl)]; exact q2, q3⟩
  · have z : a ≠ D0 := fun z => by rw [z, hb] at q; cases q
    rw [upd_ne z]; exact r.ext a u q
  · have q := r.st
    cases so with
    | none => trivial
    | some y =>
      obtain ⟨a, b, c, T⟩ := y
      obtain ⟨⟨h1, h2, h3⟩, h6⟩ := q
      obtain ⟨n1, n2, n3⟩ := ho
      exact ⟨⟨by rw [upd_ne (Ne.symm n1)]; exact h1, by rw [upd_ne (Ne.symm n2)]; exact h2, h3⟩, h6.off n3 fun q z => hcD q (by rw [hD] at z; exact Option.some.inj z)⟩
  · have z : a ≠ D0 := fun z => by rw [z, h0] at q; cases q
    rw [upd_ne z]; exact r.keep a u q n t
  · by_cases z : a = D0
    · rw [z, upd_same]; simp
    · rw [upd_ne z]; exact r.dom a q
theorem NoOwn.re {D0 : Addr} {vs : List Nat} (hn : NoOwn σ s D0) (h : ∀ i, i ∉ vs → σ'[i]? = σ[i]?) : NoOwn σ' { s with ρ := wipeR s.ρ vs } D0 := fun j y e o => by
  obtain ⟨n1, g1⟩ := wipeR_ne (show (wipeR s.ρ vs)[j]? = some y from e) o
  rw [h j n1]
  exact hn j y g1 o

/-! ### [e for t in iter if c] -/
def compD (fg : TgF) (ft : M Bool) (fe : M D) (vs : List Nat) : List D → M (List D)
  | [] => ret []
  | d :: ds => do
    tgo fg d
    let b ← ft
    if b then
      let y ← fe
      wipeM vs
      let l ← compD fg ft fe vs ds
      ret (y :: l)
    else
      wipeM vs
      compD fg ft fe vs ds
def dComp (fi : M (List D)) (fg : TgF) (ft : M Bool) (fe : M D) (vs : List Nat) : M (List D) := do
  let ds ← fi
  wipeM vs
  let l ← compD fg ft fe vs ds
  wipeM vs
  ret l
theorem dt_yes : DT K so W tYes (ret true) := fun β B H σ s Q r k => k B H (Ex.refl B) r
theorem KX.unguard {D0 : Addr} {o : HO} (h0 : β.H0 D0 = none) (hb0 : β.B0 D0 = none) (ho : OffSo so D0) (ht : ∀ ps, o ≠ .tbl ps := by intro ps z; cases z) {e : D} {s' : FS} (h : KX K so β B W e s') : KX K so ⟨β.B0, upd β.H0 D0 o⟩ B W e s' := fun c x σ' B' H' e1 r1 q => h c x σ' B' H' e1 (r1.unguard h0 hb0 ho ht).1 q
theorem dn_lc {is : List Nat} {wi : TI} {g : TG} {tt : TT} {te : TE} {fi : M (List D)} {fg : TgF} {ft : M Bool} {fe : M D} {vs : List Nat} (hi : DI K so W wi fi) (hg : DG K so is g fg) (ht : DT K so W tt ft) (he : DE K so W te fe) (hv : ∀ i ∈ is, i ∈ vs) :
    DN K so W (tLc wi g tt te vs) (dComp fi fg ft fe vs) := by
  intro β B H σ s Q r h
  refine hi β B H σ s _ r ((post_bnd h).imp (fun ds s1 k J B1 H1 e1 r1 w => ?_) fun _ _ q => q)
  intro D0 hD0
  have h0 := r1.h0New hD0
  have ho := r1.offNew hD0
  have hB1 : B1 D0 = none := r1.ext.noneOf hD0
  have hb0 : β.B0 D0 = none := r1.b0.noneOf hB1
  have k1 := post_bnd k
  have k2 : (compD fg ft fe vs ds { s1 with ρ := wipeR s1.ρ vs }).post (fun l s'' => KL K so β σ B Q l { s'' with ρ := wipeR s''.ρ vs }) (KX K so β B W) := by
    have q := post_bnd (show ((compD fg ft fe vs ds >>= fun l => wipeM vs >>= fun _ => ret l) { s1 with ρ := wipeR s1.ρ vs }).post _ _ from k1)
    exact q.imp (fun l s2 z => z) fun _ _ z => z
  have g0 := Gr.own (so := none) (o := .lst []) r1.ext hD0
  refine ⟨fun i m H' => m = ds.length - i ∧ i ≤ ds.length ∧ ∃ B' s' vs' acc, Ex B1 B' ∧ R K so β B' H' (wipe σ vs) s' ∧ H' D0 = some (.lst vs') ∧ B' D0 = none ∧ NoOwn (wipe σ vs) s' D0 ∧ Reps K B' vs' acc ∧ acc.length ≤ i ∧
    (compD fg ft fe vs (ds.drop i) s').post (fun l s'' => KL K so β σ B Q (acc ++ l) { s'' with ρ := wipeR s''.ρ vs }) (KX K so β B W), ⟨ds.length, by simp, Nat.zero_le _, B1, _, [], [], Ex.refl B1, (r1.gr g0).wipes vs, upd_same, hB1, NoOwn.re (r1.noOwn hD0) fun i hi => by rw [wipe_get, if_neg hi], .nil, Nat.le_refl _, by simpa using k2⟩, ?_⟩
  rintro i m H2 ⟨rfl, hi', B2, s2, vs2, acc, e2, r2, hD2, hB2, hn2, p2, ha2, k3⟩
  have hsz := w.sz
  have hva : vs2.length = acc.length := p2.len
  by_cases hlt : i < ds.length
  · refine .inr ⟨w.go i H2 (e2.trans r2.ext) hlt, fun H' => i + 1 ≤ ds.length ∧ ∃ B' s' vs' acc, Ex B1 B' ∧ R K so β B' H' (wipe σ vs) s' ∧ H' D0 = some (.lst vs') ∧ B' D0 = none ∧ NoOwn (wipe σ vs) s' D0 ∧ Reps K B' vs' acc ∧ acc.length ≤ i + 1 ∧
      (compD fg ft fe vs (ds.drop (i + 1)) s').post (fun l s'' => KL K so β σ B Q (acc ++ l) { s'' with ρ := wipeR s''.ρ vs }) (KX K so β B W), fun H' q => ⟨ds.length - (i + 1), by omega, rfl, q⟩, fun x H3 y => ?_⟩
    obtain ⟨d, hd, hw⟩ := w.yld i H2 x H3 (e2.trans r2.ext) hlt y
    obtain ⟨B3, g3, p3⟩ := hw B2 e2 r2.ext
    have r3 := r2.gr g3
    have e3 : Ex B1 B3 := e2.trans g3.b
    have hdr : ds.drop i = d :: ds.drop (i + 1) := by
      rw [List.drop_eq_getElem_cons hlt]
      have := (List.getElem?_eq_some_iff.mp hd).2
      rw [this]
    rw [hdr] at k3
    obtain ⟨s4, e4, k4⟩ := tgo_post (post_bnd k3)
    have hD3 := g3.hx _ _ hD2
    have hB3 : B3 D0 = none := g3.n D0 _ hD2 trivial hB2
    have rg := r3.guard hD3 hB3 hn2 h0
    refine hg ⟨β.B0, upd β.H0 D0 (.lst vs2)⟩ B3 H3 (wipe σ vs) s2 s4 x d _ rg p3 e4 fun σ4 r4 w4 => ?_
    have hw4 : wipe σ4 vs = wipe σ vs := by rw [w4 vs hv, wipe_wipe]
    refine ⟨hw4, ?_⟩
    have hl4 : (wipe σ vs).length = σ4.length := by rw [← hw4, wipe_length]
    have hs4 : ∀ i, i ∉ vs → (wipe σ vs)[i]? = σ4[i]? := fun i hi => by rw [← hw4, wipe_get, if_neg hi]
    refine ht _ B3 H3 σ4 s4 _ r4 ((post_bnd k4).imp (fun b s5 k5 B5 H5 e5 r5 => ?_) fun _ _ q => (q.up (e1.trans e3)).unguard h0 hb0 ho)
    cases b with
    | false =>
      obtain ⟨r6, q1, q2, q3⟩ := r5.unguard h0 hb0 ho
      have k6 := post_bnd (show ((wipeM vs >>= fun _ => compD fg ft fe vs (ds.drop (i + 1))) s5).post _ _ from k5)
      exact ⟨hlt, B5, _, vs2, acc, e3.trans e5, r6.re hl4 hs4, q1, q2, q3.re hs4, p2.up (g3.b.trans e5), by omega, k6⟩
    | true =>
      refine he _ B5 H5 σ4 s5 _ r5 (Res.post.imp (post_bnd (show ((fe >>= fun y => wipeM vs >>= fun _ => (compD fg ft fe vs (ds.drop (i + 1)) >>= fun l => ret (y :: l))) s5).post _ _ from k5)) (fun y' s6 k6 v6 B6 H6 e6 r6 p6 => ?_) fun _ _ q => (q.up ((e1.trans e3).trans e5)).unguard h0 hb0 ho)
      obtain ⟨r7, q1, q2, q3⟩ := r6.unguard h0 hb0 ho
      have e7 : Ex B2 B6 := (g3.b.trans e5).trans e6
      have pn : Reps K B6 (vs2 ++ [v6]) (acc ++ [y']) := (p2.up e7).app (.cons p6 .nil)
      refine ⟨vs2, q1, by omega, hlt, B6, _, vs2 ++ [v6], acc ++ [y'], e2.trans e7, (r7.poke q1 (fun q z => by unfold LamX.CodeO at z; cases z) q2 q3 ho h0).re hl4 hs4, upd_same, q2, q3.re hs4, pn, by simp; omega, ?_⟩
      have k6' := post_bnd (show ((wipeM vs >>= fun _ => (compD fg ft fe vs (ds.drop (i + 1)) >>= fun l => ret (y' :: l))) s6).post _ _ from k6)
      have k7 := post_bnd (show ((compD fg ft fe vs (ds.drop (i + 1)) >>= fun l => ret (y' :: l)) { s6 with ρ := wipeR s6.ρ vs }).post _ _ from k6')
      exact k7.imp (fun l s8 z => by
        have z' : KL K so β σ B Q (acc ++ (y' :: l)) { s8 with ρ := wipeR s8.ρ vs } := z
        rw [List.append_assoc]
        exact z') fun _ _ z => z
  · have e : i = ds.length := by omega
    subst e
    rw [List.drop_length] at k3
    have k4 : KL K so β σ B Q (acc ++ []) { s2 with ρ := wipeR s2.ρ vs } := k3
    rw [List.append_nil] at k4
    refine .inl ⟨w.stop _ H2 (e2.trans r2.ext) (Nat.le_refl _), ?_⟩
    exact k4 D0 vs2 B2 H2 (e1.trans e2) r2.unwipe hD2 hB2 (NoOwn.re hn2 fun i hi => by rw [wipe_get, if_neg hi]) ho h0 p2 (by omega)
structure CTs (X : Cx) (so : So) (W : WX) (cs : List Expr) (t : TT) (f : M Bool) : Prop where
  pts : PTs X cs t
  de : DT X.K so W t f
theorem cts_nil : CTs X so W [] tYes (ret true) := ⟨pts_nil, dt_yes⟩
theorem cts_one {c : Expr} {t : TT} {f : M Bool} (h : CT X so W c t f) : CTs X so W [c] t f := ⟨pts_one h.pt, h.de⟩
theorem cn_lc {is : List Nat} {elt tg iter : Expr} {ifs : List Expr} {scope : Scope} {own : List (Str × Nat)} {pos : Pos} {wi : TI} {g : TG} {tt : TT} {te : TE} {fi : M (List D)} {fg : TgF} {ft : M Bool} {fe : M D} (hc : X.calm = true) (hN : X.N.Nodup) (hi : CI X so W tg iter wi fi) (ok : BlkOk X.N X.env.scope scope own)
    (hg : ∀ (s : Shared) (H : Hp) (C : Addr) (cl : List (Str × Addr)) (fp : List Addr), CG (X.blk s H scope (compEnvC scope cl C X.env) fp) so is tg g fg) (ht : ∀ (s : Shared) (H : Hp) (C : Addr) (cl : List (Str × Addr)) (fp : List Addr), CTs (X.blk s H scope (compEnvC scope cl C X.env) fp) so W ifs tt ft)
    (he : ∀ (s : Shared) (H : Hp) (C : Addr) (cl : List (Str × Addr)) (fp : List Addr), CE (X.blk s H scope (compEnvC scope cl C X.env) fp) so W elt te fe) (hv : ∀ i ∈ is, i ∈ own.map (·.2) := by decide) (hs : ∀ x, foldedSetIterable iter X.env x = pure x := by intro _; rfl) :
    CN X so W (.ListComp elt [⟨tg, iter, ifs, 0⟩] scope pos) (tLc wi g tt te (own.map (·.2))) (dComp fi fg ft fe (own.map (·.2))) :=
  ⟨pe_lc hc hN hi.pi ok (fun s H C cl fp => (hg s H C cl fp).pg) (fun s H C cl fp => (ht s H C cl fp).pts) (fun s H C cl fp => (he s H C cl fp).pe) hs,
   dn_lc hi.de (hg X.s_0 X.H_0 0 [] []).de (ht X.s_0 X.H_0 0 [] []).de (he X.s_0 X.H_0 0 [] []).de hv⟩
theorem cs_setLc {is : List Nat} {i : Nat} {y : Str} {py : Pos} {elt tg iter : Expr} {ifs : List Expr} {scope : Scope} {own : List (Str × Nat)} {pos spos : Pos} {wi : TI} {g : TG} {tt : TT} {te : TE} {fi : M (List D)} {fg : TgF} {ft : M Bool} {fe : M D} (hc : X.calm = true) (hN : X.N.Nodup)
    (hi : CI X so W tg iter wi fi) (ok : BlkOk X.N X.env.scope scope own)
    (hg : ∀ (s : Shared) (H : Hp) (C : Addr) (cl : List (Str × Addr)) (fp : List Addr), CG (X.blk s H scope (compEnvC scope cl C X.env) fp) so is tg g fg) (ht : ∀ (s : Shared) (H : Hp) (C : Addr) (cl : List (Str × Addr)) (fp : List Addr), CTs (X.blk s H scope (compEnvC scope cl C X.env) fp) so W ifs tt ft)
    (he : ∀ (s : Shared) (H : Hp) (C : Addr) (cl : List (Str × Addr)) (fp : List Addr), CE (X.blk s H scope (compEnvC scope cl C X.env) fp) so W elt te fe) (hv : ∀ i ∈ is, i ∈ own.map (·.2) := by decide)
    (hy : X.N[i]? = some y := by rfl) (hyl : X.env.scope.names.lookup y = some .local := by rfl)
    (hsw : swapsWith (.ListComp elt [⟨tg, iter, ifs, 0⟩] scope pos) (some (.Name y py)) spos.line X.env = pure true := by exact sw_true rfl rfl rfl (by decide +kernel)) (hs : ∀ x, foldedSetIterable iter X.env x = pure x := by intro _; rfl) :
    CS X so W (.Assign [.Name y py] (.ListComp elt [⟨tg, iter, ifs, 0⟩] scope pos) spos) (tAsg (tLc wi g tt te (own.map (·.2))) (gName i)) (fSetN i (dComp fi fg ft fe (own.map (·.2)))) :=
  ⟨ps_setLc hc hN hy hyl hsw hi.pi ok (fun s H C cl fp => (hg s H C cl fp).pg) (fun s H C cl fp => (ht s H C cl fp).pts) (fun s H C cl fp => (he s H C cl fp).pe) hs,
   ds_setN (dn_lc hi.de (hg X.s_0 X.H_0 0 [] []).de (ht X.s_0 X.H_0 0 [] []).de (he X.s_0 X.H_0 0 [] []).de hv)⟩

/-! ### promises -/
abbrev PF := List D → Option D
abbrev PL := List D → Option (List D)
inductive XR where
  | ok (d : D) | ex (e : D)
abbrev XF := List D → Option XR
abbrev SF := List D → DSt → Option (D × DSt)
abbrev SL := List D → DSt → Option (List D × DSt)
/-- a def of data -/
def spP (K : PySem.W.Frag) (F : PF) : Sp := fun vs H Q _ => ∃ B ds d, Ex B H ∧ Reps K B vs ds ∧ F ds = some d ∧ ∀ v B' H', Gr none B H B' H' → Rep K B' v d → Q v H'
/-- .. that hands back a new list -/
def spL (K : PySem.W.Frag) (F : PL) : Sp := fun vs H Q _ => ∃ B ds d, Ex B H ∧ Reps K B vs ds ∧ F ds = some d ∧ ∀ p ws B' H', Gr none B H B' H' → H' p = some (.lst ws) → B' p = none → H p = none → Reps K B' ws d → ws.length ≤ sizeLine → Q (.ref p) H'
/-- .. that may raise -/
def spX (K : PySem.W.Frag) (F : XF) : Sp := fun vs H Q E => ∃ B ds r, Ex B H ∧ Reps K B vs ds ∧ F ds = some r ∧ match r with
  | .ok d => ∀ v B' H', Gr none B H B' H' → Rep K B' v d → Q v H'
  | .ex e => ∀ c x B' H', Gr none B H B' H' → RX K B' H' c x e → E c x H'
/-- .. that draws -/
def spS (K : PySem.W.Frag) (F : SF) : Sp := fun vs H Q _ => ∃ B p a c T ws ds st d st', vs = .ref p :: ws ∧ Ex B H ∧ StOk B H (some (p, a, c, T)) st ∧ Reps K B ws ds ∧ F ds st = some (d, st') ∧
  ∀ v B' H', Gr (some (p, a, c, T)) B H B' H' → StOk B' H' (some (p, a, c, T)) st' → Rep K B' v d → Q v H'
variable {CX : CXT} {k : Nat} {f : Addr} {fd : FuncData} {ps : List Str} {E : XK} {x : Str} {p pos : Pos} {e : Expr} {es : List Expr} {ta : TA} {fa : M (List D)}
theorem de_call {F : PF} (ha : DA K so W ta fa) : DE K so W (tCall (spP K F) [] E ta) (dCall F fa) := by
  intro β B H σ s Q r h
  refine ha β B H σ s _ r ((post_bnd h).imp (fun l s1 k1 vs B1 H1 e1 r1 p1 => ?_) fun _ _ q => q)
  obtain ⟨z, hz, k2⟩ := lift_post k1
  refine ⟨B1, l, z, r1.ext, by rw [List.append_nil]; exact p1, hz, fun v B2 H2 g2 p2 => k2 v B2 H2 (e1.trans g2.b) (r1.gr g2) p2⟩
theorem dn_call {F : PL} (ha : DA K so W ta fa) : DN K so W (tCall (spL K F) [] E ta) (dCallL F fa) := by
  intro β B H σ s Q r h
  refine ha β B H σ s _ r ((post_bnd h).imp (fun l s1 k1 vs B1 H1 e1 r1 p1 => ?_) fun _ _ q => q)
  obtain ⟨z, hz, k2⟩ := lift_post k1
  refine ⟨B1, l, z, r1.ext, by rw [List.append_nil]; exact p1, hz, fun q ws B2 H2 g2 h1 h2 h3 p2 hl => k2 q ws B2 H2 (e1.trans g2.b) (r1.gr g2) h1 h2 (r1.noOwn h3) (r1.offNew h3) (r1.h0New h3) p2 hl⟩
/-- f(e, ..), f a def of data -/
theorem ce_call {F : PF} (G : FnOk X.prog X.w X.K X.mg X.base CX0 k f fd ps (spP X.K F)) (hm : X.mg x = some (.ref f)) (hk : PySem.W.keepIn X.K (.ref f) = true) (hb : Binds X.K fd ps []) (hr : Room k X.A) (ha : CA X so W (e :: es) ta fa) (hg : Gl X x := by rfl) (hdb : (x == ("__debug__" : Str)) = false := by decide)
    (he : starEach (e :: es) X.env = (false, eval e X.env) :: starEach es X.env := by rfl) (hpl : (backTo pos (starEach es X.env)).any (·.1) = false := by rfl) : CE X so W (.Call (.Name x p) (e :: es) [] pos) (tCall (spP X.K F) [] E0 ta) (dCall F fa) :=
  ⟨pe_call G hr hg hm hk hb .nil pass0 ha.pa hdb he hpl, de_call ha.de⟩
theorem cn_call {F : PL} (G : FnOk X.prog X.w X.K X.mg X.base CX0 k f fd ps (spL X.K F)) (hm : X.mg x = some (.ref f)) (hk : PySem.W.keepIn X.K (.ref f) = true) (hb : Binds X.K fd ps []) (hr : Room k X.A) (ha : CA X so W (e :: es) ta fa) (hg : Gl X x := by rfl) (hdb : (x == ("__debug__" : Str)) = false := by decide)
    (he : starEach (e :: es) X.env = (false, eval e X.env) :: starEach es X.env := by rfl) (hpl : (backTo pos (starEach es X.env)).any (·.1) = false := by rfl) : CN X so W (.Call (.Name x p) (e :: es) [] pos) (tCall (spL X.K F) [] E0 ta) (dCallL F fa) :=
  ⟨pe_call G hr hg hm hk hb .nil pass0 ha.pa hdb he hpl, dn_call ha.de⟩
/-- f(state, e, ..), f a def that draws: the state stands in slot i -/
def dStArg (i : Nat) (f : M (List D)) : M (List D) := fun s => match s.ρ[i]? with
  | some .st => f s
  | _ => .stuck
def dSCall (F : SF) (f : M (List D)) : M D := do
  let l ← f
  fun s => match F l s.ds with
    | some (d, st) => .ok d { s with ds := st }
    | none => .stuck
theorem de_scall {i : Nat} {F : SF} (ha : DA K so W ta fa) : DE K so W (tCall (spS K F) [] E (tCons (tVar i) ta)) (dSCall F (dStArg i fa)) := by
  intro β B H σ s Q r h
  have h1 := post_bnd h
  unfold dStArg at h1
  cases e0 : s.ρ[i]? with
  | none => rw [e0] at h1; exact h1.elim
  | some y =>
    rw [e0] at h1
    obtain ⟨v0, hv0, hs0⟩ := r.sl i y e0
    cases y with
    | st =>
      obtain ⟨q, a, c, T, rfl, rfl⟩ := hs0
      refine ⟨_, hv0, ?_⟩
      refine ha β B H σ s _ r (Res.post.imp h1 (fun l s1 k1 vs B1 H1 e1 r1 p1 => ?_) fun _ _ z => z)
      have k1' : ((match F l s1.ds with | some (d, st) => Res.ok d { s1 with ds := st } | none => Res.stuck)).post (KE K (some (q, a, c, T)) β σ B Q) (KX K (some (q, a, c, T)) β B W) := k1
      cases eF : F l s1.ds with
      | none => rw [eF] at k1'; exact k1'.elim
      | some z =>
        obtain ⟨d, st⟩ := z
        rw [eF] at k1'
        refine ⟨B1, q, a, c, T, vs, l, s1.ds, d, st, by rw [List.append_nil], r1.ext, r1.st, p1, eF, fun v B2 H2 g2 o2 p2 => ?_⟩
        exact k1' v B2 H2 (e1.trans g2.b) (r1.grS g2 o2) p2
    | un => exact h1.elim
    | fz d => exact h1.elim
    | ow l => exact h1.elim
    | od l => exact h1.elim
theorem ce_scall {i : Nat} {y : Str} {py : Pos} {F : SF} (G : FnOk X.prog X.w X.K X.mg X.base CX0 k f fd ps (spS X.K F)) (hm : X.mg x = some (.ref f)) (hk : PySem.W.keepIn X.K (.ref f) = true) (hb : Binds X.K fd ps []) (hr : Room k X.A) (ha : CA X so W es ta fa) (hN : X.N[i]? = some y := by rfl)
    (hv : Vis X.env.scope y := by first | exact Or.inl rfl | exact Or.inr (Or.inl rfl) | exact Or.inr (Or.inr rfl)) (hg : Gl X x := by rfl) (hdb : (x == ("__debug__" : Str)) = false := by decide) (hd : (y == ("__debug__" : Str)) = false := by decide) (hcd : (y == ("__classdict__" : Str)) = false := by decide)
    (he : starEach (.Name y py :: es) X.env = (false, eval (.Name y py) X.env) :: starEach es X.env := by rfl) (hpl : (backTo pos (starEach es X.env)).any (·.1) = false := by rfl) : CE X so W (.Call (.Name x p) (.Name y py :: es) [] pos) (tCall (spS X.K F) [] E0 (tCons (tVar i) ta)) (dSCall F (dStArg i fa)) :=
  ⟨pe_call G hr hg hm hk hb .nil pass0 (pa_cons (pe_var hN hv hd hcd) ha.pa he) hdb he hpl, de_scall ha.de⟩
/-- f(e, ..), f a def that may raise -/
def dXCall (F : XF) (f : M (List D)) : M D := do
  let l ← f
  fun s => match F l with
    | some (.ok d) => .ok d s
    | some (.ex e) => .ex e s
    | none => .stuck
theorem de_xcall {F : XF} (ha : DA K so W ta fa) : DE K so W (tCallSD (spX K F) [] (fun σ c x H => W c x σ H) ta) (dXCall F fa) := by
  intro β B H σ s Q r h
  refine ha β B H σ s _ r ((post_bnd h).imp (fun l s1 k1 vs B1 H1 e1 r1 p1 => ?_) fun _ _ q => q)
  have k1' : ((match F l with | some (.ok d) => Res.ok d s1 | some (.ex e) => Res.ex e s1 | none => Res.stuck)).post (KE K so β σ B Q) (KX K so β B W) := k1
  cases eF : F l with
  | none => rw [eF] at k1'; exact k1'.elim
  | some z =>
    rw [eF] at k1'
    refine ⟨B1, l, z, r1.ext, by rw [List.append_nil]; exact p1, eF, ?_⟩
    cases z with
    | ok d => exact fun v B2 H2 g2 p2 => k1' v B2 H2 (e1.trans g2.b) (r1.gr g2) p2
    | ex d => exact fun c x B2 H2 g2 q2 => k1' c x σ B2 H2 (e1.trans g2.b) (r1.gr g2) q2
theorem ce_xcall {F : XF} (tk : Takes X W) (G : FnOk X.prog X.w X.K X.mg X.base (L2.CX X.prog X.w) k f fd ps (spX X.K F)) (hm : X.mg x = some (.ref f)) (hk : PySem.W.keepIn X.K (.ref f) = true) (hb : Binds X.K fd ps []) (hr : Room k X.A) (ha : CA X so W (e :: es) ta fa) (hg : Gl X x := by rfl) (hdb : (x == ("__debug__" : Str)) = false := by decide)
    (he : starEach (e :: es) X.env = (false, eval e X.env) :: starEach es X.env := by rfl) (hpl : (backTo pos (starEach es X.env)).any (·.1) = false := by rfl) : CE X so W (.Call (.Name x p) (e :: es) [] pos) (tCallSD (spX X.K F) [] (fun σ c x H => W c x σ H) ta) (dXCall F fa) :=
  ⟨pe_callSD G hr hg hm hk hb .nil (fun σ => passAt tk σ) ha.pa hdb he hpl, de_xcall ha.de⟩
end

/-! ### defs -/
def entry (n : Nat) (ds : List D) : List Sl := ds.map Sl.fz ++ List.replicate (n - ds.length) .un
def st0 : DSt := ⟨[], [], 0, 0⟩
/-- what a def's body makes of its arguments -/
def runP (n : Nat) (f : M Fl) : PF := fun ds => match f ⟨entry n ds, st0⟩ with
  | .ok (.rt d) _ => some d
  | .ok .nx _ => some .non
  | _ => none
def runX (n : Nat) (f : M Fl) : XF := fun ds => match f ⟨entry n ds, st0⟩ with
  | .ok (.rt d) _ => some (.ok d)
  | .ok .nx _ => some (.ok .non)
  | .ex e _ => some (.ex e)
  | _ => none
def runS (n : Nat) (f : M Fl) : SF := fun ds st => match f ⟨Sl.st :: entry (n - 1) ds, st⟩ with
  | .ok (.rt d) s => some (d, s.ds)
  | .ok .nx s => some (.non, s.ds)
  | _ => none
section
variable {P : Program} {w : World} {K : PySem.W.Frag} {mg : Str → Option Value} {base : Heap} {B H : Hp} {so : So}
theorem entry_get {n : Nat} {ds : List D} {i : Nat} {x : Sl} (h : (entry n ds)[i]? = some x) : (∃ d, ds[i]? = some d ∧ x = .fz d) ∨ x = .un := by
  unfold entry at h
  by_cases hi : i < ds.length
  · rw [List.getElem?_append_left (by simpa using hi), List.getElem?_map] at h
    cases e : ds[i]? with
    | none => rw [e] at h; cases h
    | some d => rw [e] at h; cases h; exact .inl ⟨d, rfl, rfl⟩
  · rw [List.getElem?_append_right (by simpa using hi), List.getElem?_replicate] at h
    split at h
    · cases h; exact .inr rfl
    · cases h
theorem start_get {N : List Str} {vs : List V} {i : Nat} {v : V} (h : vs[i]? = some v) : (L2.start N vs)[i]? = some (some v) := by
  unfold L2.start
  have hi : i < vs.length := (List.getElem?_eq_some_iff.mp h).1
  rw [List.getElem?_append_left (by simpa using hi), List.getElem?_map, h]
  rfl
theorem r_start {N : List Str} {vs : List V} {ds : List D} (e : Ex B H) (p : Reps K B vs ds) (hl : vs.length ≤ N.length) : R K none ⟨B, H⟩ B H (L2.start N vs) ⟨entry N.length ds, st0⟩ := by
  have hlen := p.len
  refine ⟨by simp [L2.start, entry, hlen], fun i x q => ?_, fun i j x y a q1 q2 o1 o2 _ _ => ?_, e, trivial, Ex.refl B, fun a o h _ _ => h, fun a h => h, fun a h n => n, fun _ _ h => h, fun z => by cases z⟩
  · rcases entry_get q with ⟨d, hd, rfl⟩ | rfl
    · obtain ⟨v, hv, hr⟩ := p.get hd
      exact ⟨some v, start_get hv, v, rfl, hr⟩
    · have q' : (entry N.length ds)[i]? = some Sl.un := q
      have hi : i < (L2.start N vs).length := by
        have := (List.getElem?_eq_some_iff.mp q').1
        simp [L2.start, entry, hlen] at this ⊢
        exact this
      exact ⟨(L2.start N vs)[i], by simp [hi], trivial⟩
  · rcases entry_get q1 with ⟨d, hd, rfl⟩ | rfl <;> cases o1
theorem R.gr0 {so : So} {B0 H0 B H : Hp} {σ : L2.St} {s : FS} (r : R K so ⟨B0, H0⟩ B H σ s) : Gr so B0 H0 B H := ⟨r.b0, r.keep, r.ext, fun a o h _ => r.n0 a (by show H0 a ≠ none; rw [h]; simp), fun a o h _ => r.dom a (by show H0 a ≠ none; rw [h]; simp), r.nt⟩
abbrev WF : WX := fun _ _ _ _ => False
variable {x qual : Str} {params : Arguments} {body : List Stmt} {scope : Scope} {kws : List (Str × V)} {f : Addr} {fd : FuncData} {N ps : List Str} {k : Nat} {fb : M Fl}
/-- a def of data keeps its promise, by its body -/
theorem fn_pure (F : FunD K x qual params body scope [] kws f fd) (S : FnScope N ps scope)
    (hbody : ∀ (cdv : Value) (A : Around) (outer : List Env) (s : Shared) (H : Hp) (E : XK), Room k (A.deeper (envOfC qual scope s.heap.objs.size f cdv)) → ∃ t, CSs (cxOf CX0 P w K mg base N qual scope f cdv A outer s H E).nox none WF body t fb) :
    FnOk P w K mg base CX0 (k + 1) f fd ps (spP K fun ds => if ds.length = ps.length then runP N.length fb ds else none) := by
  have hps : ps.length ≤ N.length := by have := congrArg List.length S.pre; rw [List.length_take] at this; omega
  refine F.ok S (fun vs H Q E h => ?_) (fun cdv A outer s H vs Q E hr h => ?_)
  · obtain ⟨B, ds, d, e, p, hF, _⟩ := h
    by_cases hl : ds.length = ps.length
    · rw [p.len, hl]
    · simp only [if_neg hl] at hF; cases hF
  · obtain ⟨B, ds, d, e, p, hF, q⟩ := h
    by_cases hl : ds.length = ps.length
    · simp only [if_pos hl] at hF
      obtain ⟨t, c⟩ := hbody cdv A outer s H E hr
      refine ⟨t, PSs.nox c.ps, ?_⟩
      have r0 := r_start (N := N) e p (by rw [p.len, hl]; exact hps)
      refine c.de ⟨B, H⟩ B H _ _ _ r0 ?_
      unfold runP at hF
      cases e1 : fb ⟨entry N.length ds, st0⟩ with
      | ok a s' =>
        rw [e1] at hF
        intro σ' B' H' eB r'
        cases a with
        | rt d' => cases hF; exact fun v pv => q v B' H' r'.gr0 pv
        | nx => cases hF; exact q .non B' H' r'.gr0 .non
        | bk => cases hF
        | ct => cases hF
      | ex _ _ => rw [e1] at hF; cases hF
      | stuck => rw [e1] at hF; cases hF
    · simp only [if_neg hl] at hF; cases hF
theorem spP_imp {CX : CXT} {F F' : PF} (G : FnOk P w K mg base CX k f fd ps (spP K F)) (h : ∀ ds d, F' ds = some d → F ds = some d) : FnOk P w K mg base CX k f fd ps (spP K F') :=
  G.imp fun vs H Q E ⟨B, ds, d, e, p, hF, q⟩ => ⟨B, ds, d, e, p, h ds d hF, q⟩
end
end DL
end S_DL4
section S_DL5
set_option Elab.async false
set_option linter.all false
set_option maxRecDepth 100000
set_option maxHeartbeats 4000000
/-! DL5: what operators and built-ins make of data. -/
namespace DL
open PySem PySem.Spec PyProof.Rows L2
section
variable {K : PySem.W.Frag} {B H : Hp}
theorem Rep.inInt {v : V} {i : Int} (h : Rep K B v (.int i)) : v = .int i := by cases h; rfl
theorem Rep.inStr {v : V} {i : Str} (h : Rep K B v (.str i)) : v = .str i := by cases h; rfl
theorem Rep.inBl {v : V} {i : Bool} (h : Rep K B v (.bl i)) : v = .bl i := by cases h; rfl
theorem Rep.inNon {v : V} (h : Rep K B v .non) : v = .non := by cases h; rfl
theorem Rep.inTup {v : V} {l : List D} (h : Rep K B v (.tup l)) : ∃ a xs, v = .ref a ∧ SqT K B a xs ∧ xs.length ≤ sizeLine ∧ Reps K B xs l := by cases h with | tup h1 h2 h3 => exact ⟨_, _, rfl, h1, h2, h3⟩
theorem Rep.inLst {v : V} {l : List D} (h : Rep K B v (.lst l)) : ∃ a xs, v = .ref a ∧ B a = some (.lst xs) ∧ xs.length ≤ sizeLine ∧ Reps K B xs l := by cases h with | lst h1 h2 h3 => exact ⟨_, _, rfl, h1, h2, h3⟩

/-! ### data as the library's -/
mutual
def D.pd : D → PyData
  | .non => .none
  | .bl b => .bool b
  | .int i => .int i
  | .str x => .str x
  | .tup l => .tuple (D.pds l)
  | .lst l => .list (D.pds l)
  | .dct _ => .dict []
  | .xc _ _ => .dict [(.none, .none)]
def D.pds : List D → List PyData
  | [] => []
  | d :: ds => d.pd :: D.pds ds
end
mutual
theorem dp_of (e : Ex B H) : ∀ (d : D) (v : V), d.pd.canLay0 = true → Rep K B v d → Dp K H v d.pd
  | .non, _, _, h => by cases h; exact .non
  | .bl b, _, _, h => by cases h; exact .bl b
  | .int b, _, _, h => by cases h; exact .int b
  | .str b, _, _, h => by cases h; exact .str b
  | .tup l, _, c, h => by
    cases h with
    | tup h1 h2 h3 => exact .tup (e.sqt h1) (dps_of e l _ (by simpa [D.pd, PyData.canLay0] using c) h3)
  | .lst l, _, c, h => by
    cases h with
    | lst h1 h2 h3 => exact .lst (SqL.of (e _ _ h1)) (dps_of e l _ (by simpa [D.pd, PyData.canLay0] using c) h3)
  | .dct _, _, c, h => by cases h
  | .xc _ _, _, c, h => by cases c
theorem dps_of (e : Ex B H) : ∀ (d : List D) (v : List V), PyData.canLayAll0 (D.pds d) = true → Reps K B v d → DpAll K H v (D.pds d)
  | [], _, _, h => by cases h; exact .nil
  | d :: ds, _, c, h => by
    have c' : d.pd.canLay0 = true ∧ PyData.canLayAll0 (D.pds ds) = true := by simpa [D.pds, PyData.canLayAll0] using c
    cases h with
    | cons h1 h2 => exact .cons (dp_of e d _ c'.1 h1) (dps_of e ds _ c'.2 h2)
end
def D.ok (d : D) : Bool := SeqAt.shaped d.pd
/-- == -/
def eqD : D → D → Option Bool
  | .str x, .str y => some (decide (x = y))
  | .int x, .int y => some (decide (x = y))
  | .bl x, .bl y => some (decide (x = y))
  | .non, .non => some true
  | d, e => if d.ok && e.ok then some (PyData.eqv d.pd e.pd) else none
def eqR (d e : D) : Option D := (eqD d e).map D.bl
def neR (d e : D) : Option D := (eqD d e).map fun b => D.bl (!b)
theorem eqD_cases {d e : D} {b : Bool} (h : eqD d e = some b) : (d.ok = true ∧ e.ok = true ∧ b = PyData.eqv d.pd e.pd) ∨ (∃ x y, d = .str x ∧ e = .str y ∧ b = decide (x = y)) ∨ (∃ x y, d = .int x ∧ e = .int y ∧ b = decide (x = y)) ∨ (∃ x y, d = .bl x ∧ e = .bl y ∧ b = decide (x = y)) ∨ (d = .non ∧ e = .non ∧ b = true) := by
  have gen : (if d.ok && e.ok then some (PyData.eqv d.pd e.pd) else none) = some b → (d.ok = true ∧ e.ok = true ∧ b = PyData.eqv d.pd e.pd) := fun h => by
    by_cases q : (d.ok && e.ok) = true
    · rw [if_pos q] at h
      obtain ⟨q1, q2⟩ := Bool.and_eq_true_iff.mp q
      exact ⟨q1, q2, (Option.some.inj h).symm⟩
    · rw [if_neg q] at h; cases h
  unfold eqD at h
  split at h
  · exact .inr (.inl ⟨_, _, rfl, rfl, (Option.some.inj h).symm⟩)
  · exact .inr (.inr (.inl ⟨_, _, rfl, rfl, (Option.some.inj h).symm⟩))
  · exact .inr (.inr (.inr (.inl ⟨_, _, rfl, rfl, (Option.some.inj h).symm⟩)))
  · exact .inr (.inr (.inr (.inr ⟨rfl, rfl, (Option.some.inj h).symm⟩)))
  · exact .inl (gen h)
def rEqA (K : PySem.W.Frag) : R2 := fun x y H Q => rEq x y H Q ∨ rEqD K x y H Q
def rNeA (K : PySem.W.Frag) : R2 := fun x y H Q => rNe x y H Q ∨ rNeD K x y H Q
theorem op_eqA {X : Cx} (hu : X.A.units + 64 < cLine) : OpR X (compareOp .Eq) (rEqA X.K) := op_eq.or (op_eqD hu)
theorem op_neA {X : Cx} (hu : X.A.units + 64 < cLine) : OpR X (compareOp .NotEq) (rNeA X.K) := op_ne.or (op_neD hu)
theorem canLay_ok {d : D} (h : d.ok = true) : d.pd.canLay0 = true := SeqAt.canLay_of_shaped h
theorem dr_eq : DR2 K (rEqA K) eqR := by
  intro B H x y d e z Q eB p q hz k
  obtain ⟨b, hb, rfl⟩ := Option.map_eq_some_iff.mp hz
  have fin : Q (.bl b) H := k _ B H (Gr.refl eB) (.bl b)
  rcases eqD_cases hb with ⟨h1, h2, rfl⟩ | ⟨a, c, rfl, rfl, rfl⟩ | ⟨a, c, rfl, rfl, rfl⟩ | ⟨a, c, rfl, rfl, rfl⟩ | ⟨rfl, rfl, rfl⟩
  · exact .inr ⟨d.pd, e.pd, dp_of eB d x (canLay_ok h1) p, dp_of eB e y (canLay_ok h2) q, h1, h2, fin⟩
  · cases p.inStr; cases q.inStr; exact .inl ⟨rfl, by simpa using fin⟩
  · cases p.inInt; cases q.inInt; exact .inl ⟨rfl, by simpa using fin⟩
  · cases p.inBl; cases q.inBl; exact .inl ⟨rfl, by simpa using fin⟩
  · cases p.inNon; cases q.inNon; exact .inl ⟨rfl, by simpa using fin⟩
theorem dr_ne : DR2 K (rNeA K) neR := by
  intro B H x y d e z Q eB p q hz k
  obtain ⟨b, hb, rfl⟩ := Option.map_eq_some_iff.mp hz
  have fin : Q (.bl (!b)) H := k _ B H (Gr.refl eB) (.bl _)
  rcases eqD_cases hb with ⟨h1, h2, rfl⟩ | ⟨a, c, rfl, rfl, rfl⟩ | ⟨a, c, rfl, rfl, rfl⟩ | ⟨a, c, rfl, rfl, rfl⟩ | ⟨rfl, rfl, rfl⟩
  · exact .inr ⟨d.pd, e.pd, dp_of eB d x (canLay_ok h1) p, dp_of eB e y (canLay_ok h2) q, h1, h2, fin⟩
  · cases p.inStr; cases q.inStr; exact .inl ⟨rfl, by simpa using fin⟩
  · cases p.inInt; cases q.inInt; exact .inl ⟨rfl, by simpa using fin⟩
  · cases p.inBl; cases q.inBl; exact .inl ⟨rfl, by simpa using fin⟩
  · cases p.inNon; cases q.inNon; exact .inl ⟨rfl, by simpa using fin⟩

/-! ### order -/
def ltS (x y : Str) : Bool := decide (x.cps.toList < y.cps.toList)
def ltR : D → D → Option D
  | .int i, .int j => some (.bl (decide (i < j)))
  | .str x, .str y => some (.bl (ltS x y))
  | _, _ => none
def leR : D → D → Option D
  | .int i, .int j => some (.bl (decide (i ≤ j)))
  | .str x, .str y => some (.bl (!ltS y x))
  | _, _ => none
def gtR : D → D → Option D
  | .int i, .int j => some (.bl (decide (j < i)))
  | .str x, .str y => some (.bl (ltS y x))
  | _, _ => none
def geR : D → D → Option D
  | .int i, .int j => some (.bl (decide (j ≤ i)))
  | .str x, .str y => some (.bl (!ltS x y))
  | _, _ => none
def rLtA : R2 := fun x y H Q => rI0 (fun i j => .bl (decide (i < j))) x y H Q ∨ (∃ i j, x = .str i ∧ y = .str j ∧ Q (.bl (decide (i.cps.toList < j.cps.toList))) H)
def rLeA : R2 := fun x y H Q => rI0 (fun i j => .bl (decide (i ≤ j))) x y H Q ∨ (∃ i j, x = .str i ∧ y = .str j ∧ Q (.bl (!decide (j.cps.toList < i.cps.toList))) H)
def rGtA : R2 := fun x y H Q => rI0 (fun i j => .bl (decide (j < i))) x y H Q ∨ (∃ i j, x = .str i ∧ y = .str j ∧ Q (.bl (decide (j.cps.toList < i.cps.toList))) H)
def rGeA : R2 := fun x y H Q => rI0 (fun i j => .bl (decide (j ≤ i))) x y H Q ∨ (∃ i j, x = .str i ∧ y = .str j ∧ Q (.bl (!decide (i.cps.toList < j.cps.toList))) H)
theorem op_ltA {X : Cx} : OpR X (compareOp .Lt) rLtA := op_lt.or op_lt_str
theorem op_leA {X : Cx} : OpR X (compareOp .LtE) rLeA := op_le.or op_le_str
theorem op_gtA {X : Cx} : OpR X (compareOp .Gt) rGtA := op_gt.or op_gt_str
theorem op_geA {X : Cx} : OpR X (compareOp .GtE) rGeA := op_ge.or op_ge_str
theorem dr_lt : DR2 K rLtA ltR := by
  intro B H x y d e z Q eB p q hz k
  unfold ltR at hz
  split at hz
  · cases hz; cases p.inInt; cases q.inInt; exact .inl ⟨_, _, rfl, rfl, k _ B H (Gr.refl eB) (.bl _)⟩
  · cases hz; cases p.inStr; cases q.inStr; exact .inr ⟨_, _, rfl, rfl, k _ B H (Gr.refl eB) (.bl _)⟩
  · cases hz
theorem dr_le : DR2 K rLeA leR := by
  intro B H x y d e z Q eB p q hz k
  unfold leR at hz
  split at hz
  · cases hz; cases p.inInt; cases q.inInt; exact .inl ⟨_, _, rfl, rfl, k _ B H (Gr.refl eB) (.bl _)⟩
  · cases hz; cases p.inStr; cases q.inStr; exact .inr ⟨_, _, rfl, rfl, k _ B H (Gr.refl eB) (.bl _)⟩
  · cases hz
theorem dr_gt : DR2 K rGtA gtR := by
  intro B H x y d e z Q eB p q hz k
  unfold gtR at hz
  split at hz
  · cases hz; cases p.inInt; cases q.inInt; exact .inl ⟨_, _, rfl, rfl, k _ B H (Gr.refl eB) (.bl _)⟩
  · cases hz; cases p.inStr; cases q.inStr; exact .inr ⟨_, _, rfl, rfl, k _ B H (Gr.refl eB) (.bl _)⟩
  · cases hz
theorem dr_ge : DR2 K rGeA geR := by
  intro B H x y d e z Q eB p q hz k
  unfold geR at hz
  split at hz
  · cases hz; cases p.inInt; cases q.inInt; exact .inl ⟨_, _, rfl, rfl, k _ B H (Gr.refl eB) (.bl _)⟩
  · cases hz; cases p.inStr; cases q.inStr; exact .inr ⟨_, _, rfl, rfl, k _ B H (Gr.refl eB) (.bl _)⟩
  · cases hz

/-! ### is None -/
def isNonD : D → Bool
  | .non => true
  | _ => false
def isNR (d e : D) : Option D := match e with
  | .non => some (.bl (isNonD d))
  | _ => none
def notNR (d e : D) : Option D := match e with
  | .non => some (.bl (!isNonD d))
  | _ => none
theorem rep_non {v : V} {d : D} (h : Rep K B v d) : decide (v = .non) = isNonD d := by
  cases h <;> simp [isNonD]
theorem dr_isN : DR2 K rIsN isNR := by
  intro B H x y d e z Q eB p q hz k
  cases e with
  | non =>
    cases q.inNon
    cases hz
    refine ⟨rfl, ?_⟩
    rw [rep_non p]
    exact k _ B H (Gr.refl eB) (.bl _)
  | _ => cases hz
theorem dr_notN : DR2 K rNotN notNR := by
  intro B H x y d e z Q eB p q hz k
  cases e with
  | non =>
    cases q.inNon
    cases hz
    refine ⟨rfl, ?_⟩
    rw [rep_non p]
    exact k _ B H (Gr.refl eB) (.bl _)
  | _ => cases hz
/-- x is True, x is False -/
def isBR (d e : D) : Option D := match d, e with
  | .bl a, .bl b => some (.bl (decide (a = b)))
  | _, _ => none

/-! ### in -/
def flatD : D → Bool
  | .non | .bl _ | .int _ | .str _ => true
  | _ => false
def eqF : D → D → Bool
  | .non, .non => true
  | .bl a, .bl b => a == b
  | .bl a, .int b => (if a then 1 else 0) == b
  | .int a, .bl b => a == (if b then 1 else 0)
  | .int a, .int b => a == b
  | .str a, .str b => a == b
  | _, _ => false
def inD (d e : D) : Option Bool := match e with
  | .str z => (match d with
    | .str x => if x.cps.size = 1 then some (decide (x.cps.getD 0 0 ∈ z.cps.toList)) else none
    | _ => none)
  | .tup l => if flatD d && l.all flatD then some (l.any fun y => eqF y d) else none
  | .lst l => if flatD d && l.all flatD then some (l.any fun y => eqF y d) else none
  | _ => none
def inR (d e : D) : Option D := (inD d e).map D.bl
def ninR (d e : D) : Option D := (inD d e).map fun b => D.bl (!b)
theorem rep_flat {v : V} {d : D} (h : Rep K B v d) : flatV v = flatD d := by cases h <;> rfl
theorem reps_flat : ∀ {vs : List V} {ds : List D}, Reps K B vs ds → vs.all flatV = ds.all flatD
  | _, _, .nil => rfl
  | _, _, .cons h t => by rw [List.all_cons, List.all_cons, rep_flat h, reps_flat t]
theorem rep_eqF {v w : V} {d e : D} (h : Rep K B v d) (k : Rep K B w e) : eqV v w = eqF d e := by
  cases h <;> cases k <;> rfl
theorem reps_in {v : V} {d : D} (h : Rep K B v d) : ∀ {vs : List V} {ds : List D}, Reps K B vs ds → inV v vs = ds.any fun y => eqF y d
  | _, _, .nil => rfl
  | _, _, .cons k t => by
    have := reps_in h t
    unfold inV at this ⊢
    rw [List.any_cons, List.any_cons, rep_eqF k h, this]
def rInA (K : PySem.W.Frag) (neg : Bool) : R2 := fun x y H Q => rIn K neg x y H Q ∨ (∃ (c : Nat) (z : Str), x = .str ⟨#[c]⟩ ∧ y = .str z ∧ Q (.bl (if neg then !decide (c ∈ z.cps.toList) else decide (c ∈ z.cps.toList))) H)
theorem op_inA {X : Cx} : OpR X (compareOp .In) (rInA X.K false) := op_in_seq.or op_in_sign
theorem op_ninA {X : Cx} : OpR X (compareOp .NotIn) (rInA X.K true) := op_notIn_seq.or op_notIn_sign
theorem str_one {x : Str} (h : x.cps.size = 1) : x = ⟨#[x.cps.getD 0 0]⟩ := by
  obtain ⟨⟨l⟩⟩ := x
  match l, h with
  | [c], _ => rfl
theorem dr_inN (neg : Bool) : DR2 K (rInA K neg) (fun d e => (inD d e).map fun b => D.bl (if neg then !b else b)) := by
  intro B H x y d e z Q eB p q hz k
  obtain ⟨b, hb, rfl⟩ := Option.map_eq_some_iff.mp hz
  have fin : Q (.bl (if neg then !b else b)) H := k _ B H (Gr.refl eB) (.bl _)
  unfold inD at hb
  split at hb
  · split at hb
    · rename_i z' x'
      by_cases hs : x'.cps.size = 1
      · rw [if_pos hs] at hb
        cases hb
        cases p.inStr; cases q.inStr
        exact .inr ⟨_, _, congrArg V.str (str_one hs), rfl, fin⟩
      · rw [if_neg hs] at hb; cases hb
    · cases hb
  · rename_i l
    by_cases hf : (flatD d && l.all flatD) = true
    · rw [if_pos hf] at hb
      cases hb
      obtain ⟨f1, f2⟩ := Bool.and_eq_true_iff.mp hf
      obtain ⟨a, xs, rfl, h1, h2, h3⟩ := q.inTup
      refine .inl ⟨a, xs, rfl, .inr (eB.sqt h1), by rw [rep_flat p]; exact f1, by rw [reps_flat h3]; exact f2, ?_⟩
      rw [reps_in p h3]; exact fin
    · rw [if_neg hf] at hb; cases hb
  · rename_i l
    by_cases hf : (flatD d && l.all flatD) = true
    · rw [if_pos hf] at hb
      cases hb
      obtain ⟨f1, f2⟩ := Bool.and_eq_true_iff.mp hf
      obtain ⟨a, xs, rfl, h1, h2, h3⟩ := q.inLst
      refine .inl ⟨a, xs, rfl, .inl (SqL.of (eB _ _ h1)), by rw [rep_flat p]; exact f1, by rw [reps_flat h3]; exact f2, ?_⟩
      rw [reps_in p h3]; exact fin
    · rw [if_neg hf] at hb; cases hb
  · cases hb
theorem dr_in : DR2 K (rInA K false) inR := dr_inN false
theorem dr_nin : DR2 K (rInA K true) ninR := dr_inN true

/-! ### arithmetic, + -/
def addR : D → D → Option D
  | .int i, .int j => some (.int (i + j))
  | .str x, .str y => if x.length + y.length ≤ sizeLine then some (.str (x ++ y)) else none
  | .tup a, .tup b => if a.length + b.length ≤ sizeLine then some (.tup (a ++ b)) else none
  | .lst a, .lst b => if a.length + b.length ≤ sizeLine then some (.lst (a ++ b)) else none
  | _, _ => none
def rAddA (K : PySem.W.Frag) : R2 := fun x y H Q => (rI0 (fun i j => .int (i + j)) x y H Q ∨ (∃ i j, x = .str i ∧ y = .str j ∧ i.length + j.length ≤ sizeLine ∧ Q (.str (i ++ j)) H)) ∨ (rCatA K x y H Q ∨ rCat x y H Q)
theorem op_addA {X : Cx} : OpR X (binaryOp .Add) (rAddA X.K) := (op_add.or op_add_str).or (op_catA.or op_cat)
theorem rep_tup_new {p : Addr} {vs : List V} {ds : List D} (eB : Ex B H) (hp : H p = none) (r : Reps K B vs ds) (hl : vs.length ≤ sizeLine) : Gr none B H (upd B p (.tup vs)) (upd H p (.tup vs)) ∧ Rep K (upd B p (.tup vs)) (.ref p) (.tup ds) :=
  ⟨Gr.new eB hp, .tup (.inl (.inl upd_same)) hl (r.up (Ex.new (eB.noneOf hp)))⟩
theorem rep_lst_new {p : Addr} {vs : List V} {ds : List D} (eB : Ex B H) (hp : H p = none) (r : Reps K B vs ds) (hl : vs.length ≤ sizeLine) : Gr none B H (upd B p (.lst vs)) (upd H p (.lst vs)) ∧ Rep K (upd B p (.lst vs)) (.ref p) (.lst ds) :=
  ⟨Gr.new eB hp, .lst upd_same hl (r.up (Ex.new (eB.noneOf hp)))⟩
theorem dr_add : DR2 K (rAddA K) addR := by
  intro B H x y d e z Q eB p q hz k
  unfold addR at hz
  split at hz
  · cases hz; cases p.inInt; cases q.inInt; exact .inl (.inl ⟨_, _, rfl, rfl, k _ B H (Gr.refl eB) (.int _)⟩)
  · rename_i a b
    by_cases h : a.length + b.length ≤ sizeLine
    · rw [if_pos h] at hz
      cases hz; cases p.inStr; cases q.inStr; exact .inl (.inr ⟨_, _, rfl, rfl, h, k _ B H (Gr.refl eB) (.str _)⟩)
    · rw [if_neg h] at hz; cases hz
  · rename_i a b
    by_cases h : a.length + b.length ≤ sizeLine
    · rw [if_pos h] at hz
      cases hz
      obtain ⟨c1, xs, rfl, h1, h2, h3⟩ := p.inTup
      obtain ⟨c2, ys, rfl, g1, g2, g3⟩ := q.inTup
      have l1 := h3.len
      have l2 := g3.len
      refine .inr (.inl ⟨c1, c2, xs, ys, rfl, rfl, eB.sqt h1, eB.sqt g1, by omega, fun e => ?_, fun e1 e2 => ?_, fun e1 e2 p hp => ?_⟩)
      · subst e
        cases h3
        exact k _ B H (Gr.refl eB) (.tup g1 g2 g3)
      · subst e2
        cases g3
        rw [List.append_nil] at k
        exact k _ B H (Gr.refl eB) (.tup h1 h2 h3)
      · obtain ⟨g, r⟩ := rep_tup_new (p := p) eB hp (h3.app g3) (by rw [List.length_append]; omega)
        exact k _ _ _ g r
    · rw [if_neg h] at hz; cases hz
  · rename_i a b
    by_cases h : a.length + b.length ≤ sizeLine
    · rw [if_pos h] at hz
      cases hz
      obtain ⟨c1, xs, rfl, h1, h2, h3⟩ := p.inLst
      obtain ⟨c2, ys, rfl, g1, g2, g3⟩ := q.inLst
      have l1 := h3.len
      have l2 := g3.len
      refine .inr (.inr ⟨c1, c2, xs, ys, rfl, rfl, eB _ _ h1, eB _ _ g1, by omega, fun p hp => ?_⟩)
      obtain ⟨g, r⟩ := rep_lst_new (p := p) eB hp (h3.app g3) (by rw [List.length_append]; omega)
      exact k _ _ _ g r
    · rw [if_neg h] at hz; cases hz
  · cases hz
/-- a + b of lists, the new one for a name of its own -/
def addL : D → D → Option (List D)
  | .lst a, .lst b => if a.length + b.length ≤ sizeLine then some (a ++ b) else none
  | _, _ => none
def subR : D → D → Option D
  | .int i, .int j => some (.int (i - j))
  | _, _ => none
theorem dr_sub : DR2 K (rI0 fun i j => .int (i - j)) subR := by
  intro B H x y d e z Q eB p q hz k
  unfold subR at hz
  split at hz
  · cases hz; cases p.inInt; cases q.inInt; exact ⟨_, _, rfl, rfl, k _ B H (Gr.refl eB) (.int _)⟩
  · cases hz
def szI (i : Int) : Int := (Builtin.Int.intBits i : Int)
def mulR : D → D → Option D
  | .int i, .int j => if (Builtin.Int.intBits i : Int) + (Builtin.Int.intBits j : Int) ≤ 134217728 then some (.int (i * j)) else none
  | _, _ => none
theorem dr_mul : DR2 K (rI CMulX fun i j => .int (i * j)) mulR := by
  intro B H x y d e z Q eB p q hz k
  unfold mulR at hz
  split at hz
  · rename_i i j
    by_cases h : (Builtin.Int.intBits i : Int) + (Builtin.Int.intBits j : Int) ≤ 134217728
    · rw [if_pos h] at hz
      cases hz; cases p.inInt; cases q.inInt; exact ⟨_, _, rfl, rfl, h, k _ B H (Gr.refl eB) (.int _)⟩
    · rw [if_neg h] at hz; cases hz
  · cases hz
def fdivR : D → D → Option D
  | .int i, .int j => if 0 < j ∧ j.natAbs.log2 < 9000 then some (.int (i / j)) else none
  | _, _ => none
theorem dr_fdiv : DR2 K (rI CDivW fun i j => .int (i / j)) fdivR := by
  intro B H x y d e z Q eB p q hz k
  unfold fdivR at hz
  split at hz
  · rename_i i j
    by_cases h : 0 < j ∧ j.natAbs.log2 < 9000
    · rw [if_pos h] at hz
      cases hz; cases p.inInt; cases q.inInt; exact ⟨_, _, rfl, rfl, h, k _ B H (Gr.refl eB) (.int _)⟩
    · rw [if_neg h] at hz; cases hz
  · cases hz
def modR : D → D → Option D
  | .int i, .int j => if 0 < j then some (.int (i % j)) else none
  | _, _ => none
theorem dr_mod : DR2 K (rI (fun _ j => 0 < j) fun i j => .int (i % j)) modR := by
  intro B H x y d e z Q eB p q hz k
  unfold modR at hz
  split at hz
  · rename_i i j
    by_cases h : 0 < j
    · rw [if_pos h] at hz
      cases hz; cases p.inInt; cases q.inInt; exact ⟨_, _, rfl, rfl, h, k _ B H (Gr.refl eB) (.int _)⟩
    · rw [if_neg h] at hz; cases hz
  · cases hz
def powR : D → D → Option D
  | .int i, .int j => if 0 ≤ j ∧ j ≤ 1000000 ∧ i.natAbs < 2 ^ 64 then some (.int (i ^ j.toNat)) else none
  | _, _ => none
theorem dr_pow : DR2 K (rI CPow fun i j => .int (i ^ j.toNat)) powR := by
  intro B H x y d e z Q eB p q hz k
  unfold powR at hz
  split at hz
  · rename_i i j
    by_cases h : 0 ≤ j ∧ j ≤ 1000000 ∧ i.natAbs < 2 ^ 64
    · rw [if_pos h] at hz
      cases hz; cases p.inInt; cases q.inInt; exact ⟨_, _, rfl, rfl, h, k _ B H (Gr.refl eB) (.int _)⟩
    · rw [if_neg h] at hz; cases hz
  · cases hz

/-! ### d[i], d[a:b] -/
def ixR : D → D → Option D
  | .lst l, .int i => atI l i
  | .tup l, .int i => atI l i
  | .str x, .int i => if x.length ≤ sizeLine then (atI x.cps.toList i).map fun c => D.str ⟨#[c]⟩ else none
  | _, _ => none
theorem reps_atI {vs : List V} {ds : List D} (p : Reps K B vs ds) {i : Int} {d : D} (h : atI ds i = some d) : ∃ v, atI vs i = some v ∧ Rep K B v d := by
  unfold atI at h ⊢
  rw [p.len]
  cases e : ixN ds.length i with
  | none => rw [e] at h; cases h
  | some j => rw [e] at h; exact p.get h
theorem dr_ix : DR2 K (rIx K) ixR := by
  intro B H x y d e z Q eB p q hz k
  unfold ixR at hz
  split at hz
  · obtain ⟨c1, xs, rfl, h1, h2, h3⟩ := p.inLst
    cases q.inInt
    obtain ⟨v, hv, r⟩ := reps_atI h3 hz
    exact .inl ⟨c1, xs, _, v, rfl, rfl, SqL.of (eB _ _ h1), hv, k _ B H (Gr.refl eB) r⟩
  · obtain ⟨c1, xs, rfl, h1, h2, h3⟩ := p.inTup
    cases q.inInt
    obtain ⟨v, hv, r⟩ := reps_atI h3 hz
    exact .inr (.inl ⟨c1, xs, _, v, rfl, rfl, eB.sqt h1, hv, k _ B H (Gr.refl eB) r⟩)
  · rename_i x' i
    by_cases h : x'.length ≤ sizeLine
    · rw [if_pos h] at hz
      obtain ⟨c, hc, rfl⟩ := Option.map_eq_some_iff.mp hz
      cases p.inStr; cases q.inInt
      exact .inr (.inr ⟨x', i, c, rfl, rfl, h, hc, k _ B H (Gr.refl eB) (.str _)⟩)
    · rw [if_neg h] at hz; cases hz
  · cases hz
def cutD (xs : List D) (lo hi : Option Int) : List D := (xs.drop (HT.sIx xs.length 0 lo)).take (HT.sIx xs.length xs.length hi - HT.sIx xs.length 0 lo)
theorem cutD_rep {vs : List V} {ds : List D} (p : Reps K B vs ds) (lo hi : Option Int) : Reps K B (cutV vs lo hi) (cutD ds lo hi) := by
  unfold cutV cutD
  rw [p.len]
  exact (p.drop _).take _
def slR (d : D) (lo hi : Option Int) : Option D := match d with
  | .lst l => some (.lst (cutD l lo hi))
  | .tup l => some (.tup (cutD l lo hi))
  | .str x => if x.length ≤ sizeLine then some (.str (cutS x lo hi)) else none
  | _ => none
def rSlAll (K : PySem.W.Frag) : V → Option Int → Option Int → Hp → VK → Prop := fun x lo hi H Q => rSlL K x lo hi H Q ∨ (rSlA K x lo hi H Q ∨ rSlS x lo hi H Q)
theorem sl_all {X : Cx} : SlR X (rSlAll X.K) := sl_list.or (sl_tupA.or sl_str)
theorem cutD_whole {l : List D} {lo hi : Option Int} (h : HT.sIx l.length 0 lo = 0 ∧ HT.sIx l.length l.length hi = l.length) : cutD l lo hi = l := by
  unfold cutD
  rw [h.1, h.2]
  simp
theorem dr_sl {x : V} {d z : D} {lo hi : Option Int} {Q : VK} (eB : Ex B H) (p : Rep K B x d) (hz : slR d lo hi = some z) (k : ∀ v B' H', Gr none B H B' H' → Rep K B' v z → Q v H') : rSlAll K x lo hi H Q := by
  unfold slR at hz
  split at hz
  · cases hz
    obtain ⟨a, xs, rfl, h1, h2, h3⟩ := p.inLst
    refine .inl ⟨a, xs, rfl, SqL.of (eB _ _ h1), fun p hp => ?_⟩
    obtain ⟨g, r⟩ := rep_lst_new (p := p) eB hp (cutD_rep h3 lo hi) (Nat.le_trans (cutV_length _ _ _) h2)
    exact k _ _ _ g r
  · cases hz
    obtain ⟨a, xs, rfl, h1, h2, h3⟩ := p.inTup
    refine .inr (.inl ⟨a, xs, rfl, eB.sqt h1, fun e => ?_, fun _ p hp => ?_⟩)
    · rw [h3.len] at e
      rw [cutD_whole e] at k
      exact k _ B H (Gr.refl eB) (.tup h1 h2 h3)
    · obtain ⟨g, r⟩ := rep_tup_new (p := p) eB hp (cutD_rep h3 lo hi) (Nat.le_trans (cutV_length _ _ _) h2)
      exact k _ _ _ g r
  · rename_i x'
    by_cases h : x'.length ≤ sizeLine
    · rw [if_pos h] at hz
      cases hz; cases p.inStr
      exact .inr (.inr ⟨_, rfl, h, k _ B H (Gr.refl eB) (.str _)⟩)
    · rw [if_neg h] at hz; cases hz
  · cases hz
end
section
variable {X : Cx} {so : So} {W : WX} {a b e : Expr} {ta tb te : TE} {fa fb fe : M D} {pos p2 : Pos}
theorem ce_ix (ha : CE X so W a ta fa) (hb : CE X so W b tb fb) (hs : PlainIx b := by exact fun _ _ => rfl) : CE X so W (.Subscript a b pos) (tOp (rIx X.K) ta tb) (dOp ixR fa fb) := ⟨pe_ix ix_seq ha.pe hb.pe hs, de_op dr_ix ha.de hb.de⟩
/-- an optional part of a slice -/
structure CO (X : Cx) (so : So) (W : WX) (e : Option Expr) (t : TO) (f : M (Option Int)) : Prop where
  po : PO X e t
  de : ∀ (β : Bs) (B H : Hp) (σ : L2.St) (s : FS) (Q : Option Int → Hp → Prop), R X.K so β B H σ s → (f s).post (fun o s' => ∀ B' H', Ex B B' → R X.K so β B' H' σ s' → Q o H') (KX X.K so β B W) → t σ H Q
def isI : D → Option Int
  | .int i => some i
  | _ => none
def dPart (f : M D) : M (Option Int) := do
  let d ← f
  let i ← lift (isI d)
  ret (some i)
theorem co_none : CO X so W none tNoPart (ret none) := ⟨po_none, fun β B H σ s Q r k => k B H (Ex.refl B) r⟩
theorem co_some (h : CE X so W e te fe) : CO X so W (some e) (tPart te) (dPart fe) := by
  refine ⟨po_some h.pe, fun β B H σ s Q r k => ?_⟩
  refine h.de β B H σ s _ r ((post_bnd k).imp (fun d s1 k1 v B1 H1 e1 r1 p1 => ?_) fun _ _ q => q)
  obtain ⟨i, hi, k2⟩ := lift_post (post_bnd k1)
  cases d with
  | int j => cases hi; cases p1.inInt; exact ⟨_, rfl, k2 B1 H1 e1 r1⟩
  | _ => cases hi
def dSl (f : M D) (g h : M (Option Int)) : M D := do
  let d ← f
  let lo ← g
  let hi ← h
  lift (slR d lo hi)
theorem ce_sl {lo hi : Option Expr} {tl th : TO} {fl fh : M (Option Int)} (he : CE X so W e te fe) (hl : CO X so W lo tl fl) (hh : CO X so W hi th fh) : CE X so W (.Subscript e (.Slice lo hi none p2) pos) (tSl (rSlAll X.K) te tl th) (dSl fe fl fh) := by
  refine ⟨pe_slice sl_all he.pe hl.po hh.po, fun β B H σ s Q r k => ?_⟩
  refine he.de β B H σ s _ r ((post_bnd k).imp (fun d s1 k1 v B1 H1 e1 r1 p1 => ?_) fun _ _ q => q)
  refine hl.de β B1 H1 σ s1 _ r1 ((post_bnd k1).imp (fun o s2 k2 B2 H2 e2 r2 => ?_) fun _ _ q => q.up e1)
  refine hh.de β B2 H2 σ s2 _ r2 ((post_bnd k2).imp (fun o2 s3 k3 B3 H3 e3 r3 => ?_) fun _ _ q => q.up (e1.trans e2))
  obtain ⟨z, hz, k4⟩ := lift_post k3
  exact dr_sl r3.ext (p1.up (e2.trans e3)) hz fun w B4 H4 g4 p4 => k4 w B4 H4 (((e1.trans e2).trans e3).trans g4.b) (r3.gr g4) p4
end
end DL
end S_DL5
section S_DL6
set_option Elab.async false
set_option linter.all false
set_option maxRecDepth 100000
set_option maxHeartbeats 4000000
/-! DL6: own lists without freezing them, values of every kind for names, pairs of names. -/
namespace DL
open PySem PySem.Spec PyProof.Rows L2
section
variable {X : Cx} {so : So} {W : WX} {K : PySem.W.Frag} {β : Bs} {B H : Hp} {σ σ' : L2.St} {s : FS}
/-! ### a look at an own list -/
def peek (i : Nat) : M (List D) := fun s => match s.ρ[i]? with
  | some (.ow l) => .ok l s
  | _ => .stuck
structure Own1 (K : PySem.W.Frag) (so : So) (β : Bs) (B H : Hp) (σ : L2.St) (i : Nat) (a : Addr) (vs : List V) (l : List D) : Prop where
  at' : σ[i]? = some (some (V.ref a))
  h : H a = some (.lst vs)
  b : B a = none
  off : OffSo so a
  h0 : β.H0 a = none
  rep : Reps K B vs l
  sz : vs.length ≤ sizeLine
theorem peek_post {i : Nat} {P : List D → FS → Prop} {E : D → FS → Prop} (r : R K so β B H σ s) (h : (peek i s).post P E) : ∃ l a vs, s.ρ[i]? = some (.ow l) ∧ Own1 K so β B H σ i a vs l ∧ P l s := by
  unfold peek at h
  cases e : s.ρ[i]? with
  | none => rw [e] at h; exact h.elim
  | some x =>
    rw [e] at h
    cases x with
    | ow l =>
      obtain ⟨v, h1, a, vs, rfl, q1, q2, ⟨q3, q4⟩, q5, q6⟩ := r.sl i _ e
      exact ⟨l, a, vs, rfl, ⟨h1, q1, q2, q3, q4, q5, q6⟩, h⟩
    | un => exact h.elim
    | fz d => exact h.elim
    | od l => exact h.elim
    | st => exact h.elim
theorem Own1.ref {i : Nat} {a : Addr} {vs : List V} {l : List D} (o : Own1 K so β B H σ i a vs l) : Ex B (upd B a (.lst vs)) ∧ (Ex B H → Ex (upd B a (.lst vs)) H) ∧ Rep K (upd B a (.lst vs)) (.ref a) (.lst l) :=
  ⟨Ex.new o.b, fun e b u q => by
    by_cases z : b = a
    · subst z; rw [upd_same] at q; rw [o.h]; exact q
    · rw [upd_ne z] at q; exact e b u q, .lst upd_same o.sz (o.rep.up (Ex.new o.b))⟩
theorem rep_flatB {B' : Hp} {v : V} {d : D} (h : Rep K B' v d) (f : flatD d = true) : Rep K B v d := by
  cases h with
  | non => exact .non
  | bl b => exact .bl b
  | int b => exact .int b
  | str b => exact .str b
  | lst _ _ _ => cases f
  | tup _ _ _ => cases f
  | xc0 _ => cases f
  | xc1 _ _ _ => cases f
theorem R.look (r : R K so β B H σ s) {a : Addr} {o : HO} {B' H' : Hp} (g : Gr none (upd B a o) H B' H') : R K so β B H' σ s :=
  r.gr ⟨Ex.refl B, fun b u q z t => g.h b u q z t, r.ext.trans g.hx, fun _ _ _ _ n => n, g.d, fun _ _ q => q⟩
def flatO (o : Option D) : M D := do
  let z ← lift o
  if flatD z then ret z else stk
theorem flatO_post {o : Option D} {P : D → FS → Prop} {E : D → FS → Prop} (h : (flatO o s).post P E) : ∃ z, o = some z ∧ flatD z = true ∧ P z s := by
  obtain ⟨z, hz, k⟩ := lift_post (post_bnd h)
  by_cases f : flatD z = true
  · have k' : ((if flatD z then ret z else stk) s).post P E := k
    rw [if_pos f] at k'
    exact ⟨z, hz, f, k'⟩
  · have k' : ((if flatD z then ret z else stk) s).post P E := k
    rw [if_neg f] at k'
    exact k'.elim
/-- own op e -/
def dOwnL (i : Nat) (g : D → D → Option D) (fb : M D) : M D := do
  let _ ← peek i
  let e ← fb
  let l ← peek i
  flatO (g (.lst l) e)
/-- e op own -/
def dOwnR (i : Nat) (g : D → D → Option D) (fa : M D) : M D := do
  let e ← fa
  let l ← peek i
  flatO (g e (.lst l))
theorem de_ownL {i : Nat} {r : R2} {g : D → D → Option D} {tb : TE} {fb : M D} (hr : DR2 K r g) (hb : DE K so W tb fb) : DE K so W (tOp r (tVar i) tb) (dOwnL i g fb) := by
  intro β B H σ s Q rr h
  obtain ⟨l0, a0, vs0, _, o0, h1⟩ := peek_post rr (post_bnd h)
  refine ⟨_, o0.at', ?_⟩
  refine hb β B H σ s _ rr ((post_bnd h1).imp (fun d s1 k1 v B1 H1 e1 r1 p1 => ?_) fun _ _ q => q)
  obtain ⟨l, a, vs, _, o, k2⟩ := peek_post r1 (post_bnd k1)
  have ea : a0 = a := by have q := o0.at'.symm.trans o.at'; injection q with q; injection q with q; injection q with q
  subst ea
  obtain ⟨z, hz, f, k3⟩ := flatO_post k2
  obtain ⟨x1, x2, x3⟩ := o.ref
  refine hr _ H1 _ _ _ _ z Q (x2 r1.ext) x3 (p1.up x1) hz fun w B2 H2 g2 p2 => ?_
  exact k3 w B1 H2 e1 (r1.look g2) (rep_flatB p2 f)
theorem de_ownR {i : Nat} {r : R2} {g : D → D → Option D} {ta : TE} {fa : M D} (hr : DR2 K r g) (ha : DE K so W ta fa) : DE K so W (tOp r ta (tVar i)) (dOwnR i g fa) := by
  intro β B H σ s Q rr h
  refine ha β B H σ s _ rr ((post_bnd h).imp (fun d s1 k1 v B1 H1 e1 r1 p1 => ?_) fun _ _ q => q)
  obtain ⟨l, a, vs, _, o, k2⟩ := peek_post r1 (post_bnd k1)
  refine ⟨_, o.at', ?_⟩
  obtain ⟨z, hz, f, k3⟩ := flatO_post k2
  obtain ⟨x1, x2, x3⟩ := o.ref
  refine hr _ H1 _ _ _ _ z Q (x2 r1.ext) (p1.up x1) x3 hz fun w B2 H2 g2 p2 => ?_
  exact k3 w B1 H2 e1 (r1.look g2) (rep_flatB p2 f)
variable {i j : Nat} {x y : Str} {e a b : Expr} {es : List Expr} {ta tb te : TE} {fa fb fe : M D} {pos p2 px : Pos}
abbrev VisE (X : Cx) (x : Str) : Prop := Vis X.env.scope x
theorem ce_ownCmpL {op : CmpOp} {r : R2} {g : D → D → Option D} (ho : OpR X (compareOp op) r) (hr : DR2 X.K r g) (hb : CE X so W b tb fb) (hm : behindInMarks op b = false) (hN : X.N[i]? = some x := by rfl)
    (hv : Vis X.env.scope x := by first | exact Or.inl rfl | exact Or.inr (Or.inl rfl) | exact Or.inr (Or.inr rfl)) (hd : (x == ("__debug__" : Str)) = false := by decide) (hcd : (x == ("__classdict__" : Str)) = false := by decide) :
    CE X so W (.Compare (.Name x px) [op] [b] pos) (tOp r (tVar i) tb) (dOwnL i g fb) := ⟨pe_cmpR ho (pe_var hN hv hd hcd) hb.pe hm, de_ownL hr hb.de⟩
theorem ce_ownCmpR {op : CmpOp} {r : R2} {g : D → D → Option D} (ho : OpR X (compareOp op) r) (hr : DR2 X.K r g) (ha : CE X so W a ta fa) (hm : behindInMarks op (.Name x px) = false) (hN : X.N[i]? = some x := by rfl)
    (hv : Vis X.env.scope x := by first | exact Or.inl rfl | exact Or.inr (Or.inl rfl) | exact Or.inr (Or.inr rfl)) (hd : (x == ("__debug__" : Str)) = false := by decide) (hcd : (x == ("__classdict__" : Str)) = false := by decide) :
    CE X so W (.Compare a [op] [.Name x px] pos) (tOp r ta (tVar i)) (dOwnR i g fa) := ⟨pe_cmpR ho ha.pe (pe_var hN hv hd hcd) hm, de_ownR hr ha.de⟩
theorem ct_ownCmpL {op : CmpOp} {r : R2} {g : D → D → Option D} (ho : OpR X (compareOp op) r) (hr : DR2 X.K r g) (hb : CE X so W b tb fb) (hm : behindInMarks op b = false) (hN : X.N[i]? = some x := by rfl)
    (hv : Vis X.env.scope x := by first | exact Or.inl rfl | exact Or.inr (Or.inl rfl) | exact Or.inr (Or.inr rfl)) (hd : (x == ("__debug__" : Str)) = false := by decide) (hcd : (x == ("__classdict__" : Str)) = false := by decide) :
    CT X so W (.Compare (.Name x px) [op] [b] pos) (tTest (tOp r (tVar i) tb)) (dTest (dOwnL i g fb)) := ⟨pt_cmpR ho (pe_var hN hv hd hcd) hb.pe hm, dt_test (de_ownL hr hb.de)⟩
theorem ct_ownCmpR {op : CmpOp} {r : R2} {g : D → D → Option D} (ho : OpR X (compareOp op) r) (hr : DR2 X.K r g) (ha : CE X so W a ta fa) (hm : behindInMarks op (.Name x px) = false) (hN : X.N[i]? = some x := by rfl)
    (hv : Vis X.env.scope x := by first | exact Or.inl rfl | exact Or.inr (Or.inl rfl) | exact Or.inr (Or.inr rfl)) (hd : (x == ("__debug__" : Str)) = false := by decide) (hcd : (x == ("__classdict__" : Str)) = false := by decide) :
    CT X so W (.Compare a [op] [.Name x px] pos) (tTest (tOp r ta (tVar i))) (dTest (dOwnR i g fa)) := ⟨pt_cmpR ho ha.pe (pe_var hN hv hd hcd) hm, dt_test (de_ownR hr ha.de)⟩
/-- f(own), the answer flat -/
def dOwnC (i : Nat) (g : List D → Option D) : M D := do
  let l ← peek i
  flatO (g [.lst l])
theorem de_ownC {r : List V → Hp → VK → Prop} {g : List D → Option D} (hr : DRC K r g) : DE K so W (tCB r (tCons (tVar i) tNil)) (dOwnC i g) := by
  intro β B H σ s Q rr h
  obtain ⟨l, a, vs, _, o, k2⟩ := peek_post rr (post_bnd h)
  refine ⟨_, o.at', ?_⟩
  obtain ⟨z, hz, f, k3⟩ := flatO_post k2
  obtain ⟨x1, x2, x3⟩ := o.ref
  refine hr _ H _ [.lst l] z Q (x2 rr.ext) (.cons x3 .nil) hz fun w B2 H2 g2 p2 => ?_
  exact k3 w B H2 (Ex.refl B) (rr.look g2) (rep_flatB p2 f)
theorem ce_ownC {r : List V → Hp → VK → Prop} {g : List D → Option D} {id : String} {f : Str} {p pos : Pos} (hr : DRC X.K r g) (hc : CallR X (.builtin id) r) (hg : Gl X f) (hm : X.mg f = none) (hv0 : bootBuiltins f = some (.builtin id)) (hN : X.N[i]? = some x := by rfl)
    (hv : Vis X.env.scope x := by first | exact Or.inl rfl | exact Or.inr (Or.inl rfl) | exact Or.inr (Or.inr rfl)) (hd : (x == ("__debug__" : Str)) = false := by decide) (hcd : (x == ("__classdict__" : Str)) = false := by decide) (hn : f ≠ "__name__" := by decide) (hdb : (f == ("__debug__" : Str)) = false := by decide)
    (he : starEach [.Name x px] X.env = (false, eval (.Name x px) X.env) :: starEach [] X.env := by rfl) (hpl : (backTo pos (starEach [] X.env)).any (·.1) = false := by rfl) : CE X so W (.Call (.Name f p) [.Name x px] [] pos) (tCB r (tCons (tVar i) tNil)) (dOwnC i g) :=
  ⟨pe_callB hc hg hm hv0 (pa_cons (pe_var hN hv hd hcd) pa_nil he) hn hdb he hpl, de_ownC hr⟩
/-- tuple(own) -/
def dOwnTup (i : Nat) : M D := do
  let l ← peek i
  ret (.tup l)
abbrev rTupOf (K : PySem.W.Frag) : List V → Hp → VK → Prop := fun xs H Q => ∃ p ys, xs = [.ref p] ∧ ((SqL K H p ys ∧ ∀ l, H l = none → Q (.ref l) (upd H l (.tup ys))) ∨ (SqT K H p ys ∧ Q (.ref p) H))
theorem de_ownTup : DE K so W (tCB (rTupOf K) (tCons (tVar i) tNil)) (dOwnTup i) := by
  intro β B H σ s Q rr h
  obtain ⟨l, a, vs, _, o, k2⟩ := peek_post rr (post_bnd h)
  refine ⟨_, o.at', a, vs, rfl, .inl ⟨SqL.of o.h, fun p hp => ?_⟩⟩
  obtain ⟨g, r⟩ := rep_tup_new (K := K) (p := p) rr.ext hp o.rep o.sz
  exact k2 _ _ _ g.b (rr.gr g) r
theorem ce_ownTup {p pos : Pos} (hg : Gl X "tuple") (hm : X.mg "tuple" = none) (hv0 : bootBuiltins "tuple" = some (.type "tuple")) (hN : X.N[i]? = some x := by rfl)
    (hv : Vis X.env.scope x := by first | exact Or.inl rfl | exact Or.inr (Or.inl rfl) | exact Or.inr (Or.inr rfl)) (hd : (x == ("__debug__" : Str)) = false := by decide) (hcd : (x == ("__classdict__" : Str)) = false := by decide)
    (he : starEach [.Name x px] X.env = (false, eval (.Name x px) X.env) :: starEach [] X.env := by rfl) (hpl : (backTo pos (starEach [] X.env)).any (·.1) = false := by rfl) : CE X so W (.Call (.Name "tuple" p) [.Name x px] [] pos) (tCB (rTupOf X.K) (tCons (tVar i) tNil)) (dOwnTup i) :=
  ⟨pe_callTy call_tuple_of hg hm hv0 (pa_cons (pe_var hN hv hd hcd) pa_nil he) (by decide) (by decide) he hpl, de_ownTup⟩
/-- own[e] -/
def dOwnIx (i : Nat) (fb : M D) : M D := do
  let _ ← peek i
  let e ← fb
  let l ← peek i
  lift (ixR (.lst l) e)
theorem de_ownIx (hb : DE K so W tb fb) : DE K so W (tOp (rIx K) (tVar i) tb) (dOwnIx i fb) := by
  intro β B H σ s Q rr h
  obtain ⟨l0, a0, vs0, _, o0, h1⟩ := peek_post rr (post_bnd h)
  refine ⟨_, o0.at', ?_⟩
  refine hb β B H σ s _ rr ((post_bnd h1).imp (fun d s1 k1 v B1 H1 e1 r1 p1 => ?_) fun _ _ q => q)
  obtain ⟨l, a, vs, _, o, k2⟩ := peek_post r1 (post_bnd k1)
  have ea : a0 = a := by have q := o0.at'.symm.trans o.at'; injection q with q; injection q with q; injection q with q
  subst ea
  obtain ⟨z, hz, k3⟩ := lift_post k2
  cases p1 with
  | int n =>
    obtain ⟨w, hw, rw'⟩ := reps_atI o.rep (show atI l n = some z from hz)
    exact .inl ⟨a0, vs, n, w, rfl, rfl, SqL.of o.h, hw, k3 w B1 H1 e1 r1 rw'⟩
  | _ => cases hz
theorem ce_ownIx (hb : CE X so W b tb fb) (hs : PlainIx b := by exact fun _ _ => rfl) (hN : X.N[i]? = some x := by rfl)
    (hv : Vis X.env.scope x := by first | exact Or.inl rfl | exact Or.inr (Or.inl rfl) | exact Or.inr (Or.inr rfl)) (hd : (x == ("__debug__" : Str)) = false := by decide) (hcd : (x == ("__classdict__" : Str)) = false := by decide) :
    CE X so W (.Subscript (.Name x px) b pos) (tOp (rIx X.K) (tVar i) tb) (dOwnIx i fb) := ⟨pe_ix ix_seq (pe_var hN hv hd hcd) hb.pe hs, de_ownIx hb.de⟩
/-! ### an own list is changed -/
def poke (i : Nat) (l : List D) : M Unit := fun s => .ok () { s with ρ := s.ρ.set i (.ow l) }
theorem Own1.chg {a : Addr} {vs vs' : List V} {l l' : List D} (r : R K so β B H σ s) (e : s.ρ[i]? = some (.ow l)) (o : Own1 K so β B H σ i a vs l) (p : Reps K B vs' l') (hl : vs'.length ≤ sizeLine) :
    R K so β B (upd H a (.lst vs')) σ { s with ρ := s.ρ.set i (.ow l') } := r.chg e rfl o.at' rfl ⟨a, vs', rfl, upd_same, o.b, ⟨o.off, o.h0⟩, p, hl⟩
/-- own.append(e) -/
def dAppend (i : Nat) (fe : M D) : M D := do
  let _ ← peek i
  let d ← fe
  let l ← peek i
  if l.length < sizeLine then
    poke i (l ++ [d])
    ret .non
  else stk
theorem de_append (he : DE K so W te fe) : DE K so W (tBM K "list" rAppend (tVar i) (tCons te tNil)) (dAppend i fe) := by
  intro β B H σ s Q rr h
  obtain ⟨l0, a0, vs0, _, o0, h1⟩ := peek_post rr (post_bnd h)
  refine ⟨_, o0.at', .inl ⟨rfl, _, SqL.of o0.h⟩, ?_⟩
  refine he β B H σ s _ rr ((post_bnd h1).imp (fun d s1 k1 v B1 H1 e1 r1 p1 => ?_) fun _ _ q => q)
  obtain ⟨l, a, vs, es, o, k2⟩ := peek_post r1 (post_bnd k1)
  have ea : a0 = a := by have q := o0.at'.symm.trans o.at'; injection q with q; injection q with q; injection q with q
  subst ea
  by_cases hl : l.length < sizeLine
  · have k3 : ((poke i (l ++ [d]) >>= fun _ => ret D.non) s1).post (KE K so β σ B Q) (KX K so β B W) := by
      have k2' : ((if l.length < sizeLine then (poke i (l ++ [d]) >>= fun _ => ret D.non) else stk) s1).post (KE K so β σ B Q) (KX K so β B W) := k2
      rw [if_pos hl] at k2'; exact k2'
    have hv : vs.length < sizeLine := by rw [o.rep.len]; exact hl
    refine ⟨a0, vs, v, rfl, rfl, o.h, hv, ?_⟩
    exact k3 .non B1 _ e1 (o.chg r1 es (o.rep.app (.cons p1 .nil)) (by rw [List.length_append]; exact hv)) .non
  · have k2' : ((if l.length < sizeLine then (poke i (l ++ [d]) >>= fun _ => ret D.non) else stk) s1).post (KE K so β σ B Q) (KX K so β B W) := k2
    rw [if_neg hl] at k2'; exact k2'.elim
theorem ce_append {apos cpos : Pos} (he : CE X so W e te fe) (hN : X.N[i]? = some x := by rfl)
    (hv : Vis X.env.scope x := by first | exact Or.inl rfl | exact Or.inr (Or.inl rfl) | exact Or.inr (Or.inr rfl)) (hd : (x == ("__debug__" : Str)) = false := by decide) (hcd : (x == ("__classdict__" : Str)) = false := by decide)
    (hbase : attributeBase (.Name x px) "append" X.env (eval (.Name x px) X.env) = eval (.Name x px) X.env := by rfl)
    (hfew : ((backTo cpos (starEach [e] X.env)).all (fun x => !x.1) && (backToKw cpos (keywordEach [] X.env)).all (fun x => x.1.isSome)
      && decide (([e] : List Expr).length + ([] : List Keyword).length + (if ([] : List Keyword).isEmpty then 0 else 1) < 30)) = true := by rfl)
    (hline : (apos.endLine == cpos.line) = true := by rfl) (hs : starEach [e] X.env = (false, eval e X.env) :: starEach [] X.env := by rfl) (hplain : (backTo cpos (starEach [] X.env)).any (·.1) = false := by rfl) :
    CE X so W (.Call (.Attribute (.Name x px) "append" apos) [e] [] cpos) (tBM X.K "list" rAppend (tVar i) (tCons te tNil)) (dAppend i fe) :=
  ⟨pe_bm PySem.F.plainAttrs_list PySem.F.slot_list_append PySem.F.type_list_append mt_append (pe_var hN hv hd hcd) (pa_cons he.pe pa_nil hs) hbase hfew hline hs hplain, de_append he.de⟩
/-- own.pop(e) -/
def dPop (i : Nat) (fe : M D) : M D := do
  let _ ← peek i
  let d ← fe
  let l ← peek i
  let n ← lift (isI d)
  if 0 ≤ n ∧ n < l.length ∧ n < 2 ^ 63 then
    let z ← lift (l[n.toNat]?)
    poke i (l.eraseIdx n.toNat)
    ret z
  else stk
theorem seqIx {n : Int} {m : Nat} (h0 : 0 ≤ n) (h : n < m) : seqIndex? n m = some n.toNat := by
  unfold seqIndex?
  simp [h0, h]
  try omega
theorem de_pop (he : DE K so W te fe) : DE K so W (tBM K "list" rPopAt (tVar i) (tCons te tNil)) (dPop i fe) := by
  intro β B H σ s Q rr h
  obtain ⟨l0, a0, vs0, _, o0, h1⟩ := peek_post rr (post_bnd h)
  refine ⟨_, o0.at', .inl ⟨rfl, _, SqL.of o0.h⟩, ?_⟩
  refine he β B H σ s _ rr ((post_bnd h1).imp (fun d s1 k1 v B1 H1 e1 r1 p1 => ?_) fun _ _ q => q)
  obtain ⟨l, a, vs, es, o, k2⟩ := peek_post r1 (post_bnd k1)
  have ea : a0 = a := by have q := o0.at'.symm.trans o.at'; injection q with q; injection q with q; injection q with q
  subst ea
  obtain ⟨n, hn, k3⟩ := lift_post (post_bnd k2)
  cases p1 with
  | int n =>
    cases hn
    by_cases hl : 0 ≤ n ∧ n < l.length ∧ n < 2 ^ 63
    · have k3' : ((if 0 ≤ n ∧ n < l.length ∧ n < 2 ^ 63 then (lift (l[n.toNat]?) >>= fun z => poke i (l.eraseIdx n.toNat) >>= fun _ => ret z) else stk) s1).post (KE K so β σ B Q) (KX K so β B W) := k3
      rw [if_pos hl] at k3'
      obtain ⟨z, hz, k4⟩ := lift_post (post_bnd k3')
      obtain ⟨w, hw, pw⟩ := o.rep.get hz
      have hlen := o.rep.len
      refine ⟨a0, vs, n, n.toNat, w, rfl, rfl, o.h, by omega, hl.2.2, seqIx hl.1 (by rw [hlen]; exact hl.2.1), hw, ?_⟩
      exact k4 w B1 _ e1 (o.chg r1 es (o.rep.erase _) (Nat.le_trans (List.length_eraseIdx_le _ _) o.sz)) pw
    · have k3' : ((if 0 ≤ n ∧ n < l.length ∧ n < 2 ^ 63 then (lift (l[n.toNat]?) >>= fun z => poke i (l.eraseIdx n.toNat) >>= fun _ => ret z) else stk) s1).post (KE K so β σ B Q) (KX K so β B W) := k3
      rw [if_neg hl] at k3'; exact k3'.elim
  | _ => cases hn
theorem ce_pop {apos cpos : Pos} (he : CE X so W e te fe) (hN : X.N[i]? = some x := by rfl)
    (hv : Vis X.env.scope x := by first | exact Or.inl rfl | exact Or.inr (Or.inl rfl) | exact Or.inr (Or.inr rfl)) (hd : (x == ("__debug__" : Str)) = false := by decide) (hcd : (x == ("__classdict__" : Str)) = false := by decide)
    (hbase : attributeBase (.Name x px) "pop" X.env (eval (.Name x px) X.env) = eval (.Name x px) X.env := by rfl)
    (hfew : ((backTo cpos (starEach [e] X.env)).all (fun x => !x.1) && (backToKw cpos (keywordEach [] X.env)).all (fun x => x.1.isSome)
      && decide (([e] : List Expr).length + ([] : List Keyword).length + (if ([] : List Keyword).isEmpty then 0 else 1) < 30)) = true := by rfl)
    (hline : (apos.endLine == cpos.line) = true := by rfl) (hs : starEach [e] X.env = (false, eval e X.env) :: starEach [] X.env := by rfl) (hplain : (backTo cpos (starEach [] X.env)).any (·.1) = false := by rfl) :
    CE X so W (.Call (.Attribute (.Name x px) "pop" apos) [e] [] cpos) (tBM X.K "list" rPopAt (tVar i) (tCons te tNil)) (dPop i fe) :=
  ⟨pe_bm PySem.F.plainAttrs_list PySem.F.slot_list_pop PySem.F.type_list_pop mt_popAt (pe_var hN hv hd hcd) (pa_cons he.pe pa_nil hs) hbase hfew hline hs hplain, de_pop he.de⟩

end
end DL
end S_DL6
section S_DL7
set_option Elab.async false
set_option linter.all false
set_option maxRecDepth 100000
set_option maxHeartbeats 4000000
/-! DL7: values of every kind for names, pairs of names, stores into own lists, own dicts. -/
namespace DL
open PySem PySem.Spec PyProof.Rows L2
section
variable {X : Cx} {so : So} {W : WX} {K : PySem.W.Frag} {β : Bs} {B H : Hp} {σ σ' : L2.St} {s : FS} {i j : Nat}
/-- a value that a name may be given -/
def VOk (K : PySem.W.Frag) (so : So) (β : Bs) (B H : Hp) (σ : L2.St) (s : FS) (v : V) : Sl → Prop
  | .fz d => Rep K B v d
  | .ow l => ∃ p vs, v = .ref p ∧ H p = some (.lst vs) ∧ B p = none ∧ NoOwn σ s p ∧ OffSo so p ∧ β.H0 p = none ∧ Reps K B vs l ∧ vs.length ≤ sizeLine
  | .od l => ∃ p vs, v = .ref p ∧ H p = some (.dK vs) ∧ B p = none ∧ NoOwn σ s p ∧ OffSo so p ∧ β.H0 p = none ∧ Dk K B vs l ∧ vs.length ≤ sizeLine
  | _ => False
def KV (K : PySem.W.Frag) (so : So) (β : Bs) (σ : L2.St) (B : Hp) (Q : VK) : Sl → FS → Prop := fun x s' => ∀ v B' H', Ex B B' → R K so β B' H' σ s' → VOk K so β B' H' σ s' v x → Q v H'
def DV (K : PySem.W.Frag) (so : So) (W : WX) (t : TE) (f : M Sl) : Prop := ∀ (β : Bs) (B H : Hp) (σ : L2.St) (s : FS) (Q : VK), R K so β B H σ s → (f s).post (KV K so β σ B Q) (KX K so β B W) → t σ H Q
structure CV (X : Cx) (so : So) (W : WX) (e : Expr) (t : TE) (f : M Sl) : Prop where
  pe : PE X e t
  de : DV X.K so W t f
def vFz (f : M D) : M Sl := do
  let d ← f
  ret (.fz d)
def vOw (f : M (List D)) : M Sl := do
  let d ← f
  ret (.ow d)
variable {e a b : Expr} {te ta tb : TE} {fe : M D} {fl : M (List D)} {fa fb : M Sl}
theorem CE.cv (h : CE X so W e te fe) : CV X so W e te (vFz fe) := ⟨h.pe, fun β B H σ s Q r k => h.de β B H σ s Q r ((post_bnd k).imp (fun d s1 k1 v B1 H1 e1 r1 p1 => k1 v B1 H1 e1 r1 p1) fun _ _ q => q)⟩
theorem CN.cv (h : CN X so W e te fl) : CV X so W e te (vOw fl) := ⟨h.pe, fun β B H σ s Q r k => h.de β B H σ s Q r ((post_bnd k).imp (fun d s1 k1 p vs B1 H1 e1 r1 h1 h2 h3 h4 h5 h6 h7 => k1 _ B1 H1 e1 r1 ⟨p, vs, rfl, h1, h2, h3, h4, h5, h6, h7⟩) fun _ _ q => q)⟩
theorem R.setV (r : R K so β B H σ s) {v : V} : ∀ {x : Sl}, VOk K so β B H σ s v x → R K so β B H (σ.set i (some v)) { s with ρ := s.ρ.set i x }
  | .fz d, h => r.set h
  | .ow l, ⟨p, vs, e, h1, h2, h3, h4, h5, h6, h7⟩ => by subst e; exact r.setOwn h3 ⟨p, vs, rfl, h1, h2, ⟨h4, h5⟩, h6, h7⟩
  | .od l, ⟨p, vs, e, h1, h2, h3, h4, h5, h6, h7⟩ => by subst e; exact r.setOwn h3 ⟨p, vs, rfl, h1, h2, ⟨h4, h5⟩, h6, h7⟩
  | .un, h => h.elim
  | .st, h => h.elim
/-- x = e -/
def fSetV (i : Nat) (f : M Sl) : M Fl := do
  let x ← f
  putSl i x
theorem cs_setV {x : Str} {pos pos' : Pos} (hN : X.N.Nodup) (h : CV X so W e te fa) (hi : X.N[i]? = some x := by rfl) (hx : Loc X.env.scope x := by first | exact Or.inl rfl | exact Or.inr rfl) (hs : swapsWith e (some (.Name x pos')) pos.line X.env = pure false := by rfl)
    (hf : X.fn x = true ∨ X.env.scope.names.lookup x = some .local := by first | exact .inl rfl | exact .inr rfl) : CS X so W (.Assign [.Name x pos'] e pos) (tAsg te (gName i)) (fSetV i fa) :=
  ⟨ps_set hN hi hx h.pe hs hf, fun β B H σ s Z r k => h.de β B H σ s _ r ((post_bnd k).imp (fun y s1 k1 v B1 H1 e1 r1 p1 => k1 _ B1 H1 e1 (r1.setV p1)) fun _ _ q => q)⟩
/-- the object that v is, if it is an own one -/
theorem VOk.own {v : V} {x : Sl} (h : VOk K so β B H σ s v x) (o : x.own = true) : ∃ p o, v = .ref p ∧ H p = some o ∧ B p = none ∧ NoOwn σ s p ∧ OffSo so p ∧ β.H0 p = none ∧ ∀ ps, o ≠ .tbl ps := by
  cases x with
  | ow l => obtain ⟨p, vs, e, h1, h2, h3, h4, h5, _⟩ := h; exact ⟨p, _, e, h1, h2, h3, h4, h5, fun ps z => by cases z⟩
  | od l => obtain ⟨p, vs, e, h1, h2, h3, h4, h5, _⟩ := h; exact ⟨p, _, e, h1, h2, h3, h4, h5, fun ps z => by cases z⟩
  | un => cases o
  | fz d => cases o
  | st => cases o
/-- x, y = a, b -/
def fPar2 (i j : Nat) (fa fb : M Sl) : M Fl := do
  let x ← fa
  let y ← fb
  fun s => .ok .nx { s with ρ := (s.ρ.set i x).set j y }
theorem VOk.set {v w : V} {x y : Sl} (h : VOk K so β B H σ s v x) (k : VOk K so β B H σ s w y) (ne : ∀ p, v = .ref p → x.own = true → y.own = true → w ≠ .ref p) : VOk K so β B H (σ.set i (some v)) { s with ρ := s.ρ.set i x } w y := by
  have no : ∀ p, w = .ref p → y.own = true → NoOwn σ s p → NoOwn (σ.set i (some v)) { s with ρ := s.ρ.set i x } p := fun p hw oy n j z ej oz hz => by
    rcases set_cases ej with ⟨rfl, rfl⟩ | ⟨hj, ej⟩
    · have hv : v = .ref p := by
        have hl := (List.getElem?_eq_some_iff.mp hz).1
        rw [List.getElem?_set_self (by simpa using hl)] at hz
        injection hz with q; injection q with q
      exact ne p hv oz oy hw
    · rw [List.getElem?_set_ne hj] at hz
      exact n j z ej oz hz
  cases y with
  | fz d => exact k
  | ow l => obtain ⟨p, vs, e, h1, h2, h3, h4⟩ := k; exact ⟨p, vs, e, h1, h2, no p e rfl h3, h4⟩
  | od l => obtain ⟨p, vs, e, h1, h2, h3, h4⟩ := k; exact ⟨p, vs, e, h1, h2, no p e rfl h3, h4⟩
  | un => exact k
  | st => exact k
theorem VOk.up {B' : Hp} {v : V} {x : Sl} (h : VOk K so β B H σ s v x) (hx : x.own = false) (e : Ex B B') {H' : Hp} {s' : FS} {β' : Bs} : VOk K so β' B' H' σ s' v x := by
  cases x with
  | fz d => exact Rep.up h e
  | ow l => cases hx
  | od l => cases hx
  | un => exact h
  | st => exact h
theorem cs_par2 {x y : Str} {px py pt pos : Pos} {kt k2 pt2} (hc : X.calm = true) (hN : X.N.Nodup) (ha : CV X so W a ta fa) (hb : CV X so W b tb fb) (hi : X.N[i]? = some x := by rfl) (hj : X.N[j]? = some y := by rfl) (hij : i ≠ j := by decide)
    (hx : X.env.scope.names.lookup x = some .local := by rfl) (hy : X.env.scope.names.lookup y = some .local := by rfl)
    (hw : swappedStores [.Tuple [.Name x px, .Name y py] kt pt] (.Tuple [a, b] k2 pt2) X.env = pure (some [x, y]) := by rfl)
    (hs : swapsWithSole [.Tuple [.Name x px, .Name y py] kt pt] (.Tuple [a, b] k2 pt2) pos.line X.env = pure false := by rfl)
    (h1 : starEach [a, b] X.env = (false, eval a X.env) :: starEach [b] X.env := by rfl) (h2 : starEach [b] X.env = (false, eval b X.env) :: starEach [] X.env := by rfl) :
    CS X so W (.Assign [.Tuple [.Name x px, .Name y py] kt pt] (.Tuple [a, b] k2 pt2) pos) (tPar i j (tCons ta (tCons tb tNil))) (fPar2 i j fa fb) := by
  refine ⟨ps_par hc hN hi hj hij hx hy (pa_cons ha.pe (pa_cons hb.pe pa_nil h2) h1) hw hs, fun β B H σ s Z r k => ?_⟩
  refine ha.de β B H σ s _ r ((post_bnd k).imp (fun x s1 k1 v B1 H1 e1 r1 p1 => ?_) fun _ _ q => q)
  cases ho : x.own with
  | false =>
    refine hb.de β B1 H1 σ s1 _ r1 ((post_bnd k1).imp (fun y s2 k2 w B2 H2 e2 r2 p2 => ?_) fun _ _ q => q.up e1)
    refine ⟨_, _, rfl, ?_⟩
    have p1' : VOk X.K so β B2 H2 σ s2 v x := p1.up ho e2
    exact k2 _ B2 H2 (e1.trans e2) ((r2.setV p1').setV (p1'.set p2 fun p _ q => by rw [ho] at q; cases q))
  | true =>
    obtain ⟨p, o, rfl, g1, g2, g3, g4, g5, g6⟩ := p1.own ho
    have hb0 : β.B0 p = none := r1.b0.noneOf g2
    have rg := r1.guard g1 g2 g3 g5 g6
    refine hb.de _ B1 H1 σ s1 _ rg ((post_bnd k1).imp (fun y s2 k2 w B2 H2 e2 r2 p2 => ?_) fun _ _ q => (q.up e1).unguard g5 hb0 g4 g6)
    obtain ⟨r3, q1, q2, q3⟩ := r2.unguard g5 hb0 g4 g6
    have rp : ∀ {u z}, VOk X.K so ⟨β.B0, upd β.H0 p o⟩ B2 H2 σ s2 u z → VOk X.K so β B2 H2 σ s2 u z ∧ (z.own = true → u ≠ .ref p) := fun {u z} hu => by
      have nn : ∀ c, (upd β.H0 p o) c = none → β.H0 c = none ∧ c ≠ p := fun c hc' => by
        by_cases z : c = p
        · subst z; rw [upd_same] at hc'; cases hc'
        · rw [upd_ne z] at hc'; exact ⟨hc', z⟩
      cases z with
      | fz d => exact ⟨hu, fun z => by cases z⟩
      | ow l => obtain ⟨c, vs, e, h1, h2, h3, h4, h5, h6⟩ := hu; exact ⟨⟨c, vs, e, h1, h2, h3, h4, (nn c h5).1, h6⟩, fun _ z => (nn c h5).2 (by rw [e] at z; injection z)⟩
      | od l => obtain ⟨c, vs, e, h1, h2, h3, h4, h5, h6⟩ := hu; exact ⟨⟨c, vs, e, h1, h2, h3, h4, (nn c h5).1, h6⟩, fun _ z => (nn c h5).2 (by rw [e] at z; injection z)⟩
      | un => exact hu.elim
      | st => exact hu.elim
    obtain ⟨p3, ne⟩ := rp p2
    refine ⟨_, _, rfl, ?_⟩
    have p1' : VOk X.K so β B2 H2 σ s2 (.ref p) x := by
      cases x with
      | ow l =>
        obtain ⟨c, vs, e, h1, h2, h3, h4, h5, h6, h7⟩ := p1
        injection e with e; subst e
        have : o = .lst vs := by rw [g1] at h1; injection h1
        exact ⟨p, vs, rfl, by rw [q1, this], q2, q3, h4, h5, h6.up e2, h7⟩
      | od l =>
        obtain ⟨c, vs, e, h1, h2, h3, h4, h5, h6, h7⟩ := p1
        injection e with e; subst e
        have : o = .dK vs := by rw [g1] at h1; injection h1
        exact ⟨p, vs, rfl, by rw [q1, this], q2, q3, h4, h5, h6.up e2, h7⟩
      | un => cases ho
      | fz d => cases ho
      | st => cases ho
    exact k2 _ B2 H2 (e1.trans e2) ((r3.setV p1').setV (p1'.set p3 fun c hc' _ oy hw => by injection hc' with q; subst q; exact ne oy hw))

/-! ### own[a], own[b] = e, f -/
def setAt (i : Nat) (fj : M D) (d : D) : M Unit := do
  let _ ← peek i
  let k ← fj
  let l ← peek i
  let k ← lift (isI k)
  let k ← lift (ixN l.length k)
  poke i (l.set k d)
theorem set_at {tj : TE} {fj : M D} {v : V} {d : D} (hj : DE K so W tj fj) (r : R K so β B H σ s) (p : Rep K B v d) {P : Unit → FS → Prop} {Q : L2.St → Hp → Prop} (h : (setAt i fj d s).post P (KX K so β B W))
    (k : ∀ s' B' H', Ex B B' → R K so β B' H' σ s' → P () s' → Q σ H') : gSub (tVar i) tj rSetL v σ H Q := by
  obtain ⟨l0, a0, vs0, _, o0, h1⟩ := peek_post r (post_bnd h)
  refine ⟨_, o0.at', ?_⟩
  refine hj β B H σ s _ r ((post_bnd h1).imp (fun z s1 k1 w B1 H1 e1 r1 p1 => ?_) fun _ _ q => q)
  obtain ⟨l, a, vs, es, o, k2⟩ := peek_post r1 (post_bnd k1)
  have ea : a0 = a := by have q := o0.at'.symm.trans o.at'; injection q with q; injection q with q; injection q with q
  subst ea
  obtain ⟨n, hn, k3⟩ := lift_post (post_bnd k2)
  obtain ⟨m, hm, k4⟩ := lift_post (post_bnd k3)
  cases p1 with
  | int q =>
    cases hn
    exact ⟨a0, vs, n, m, rfl, rfl, o.h, by rw [o.rep.len]; exact hm, k _ B1 _ e1 (o.chg r1 es (o.rep.set m (p.up e1)) (by rw [List.length_set]; exact o.sz)) k4⟩
  | _ => cases hn
def fStore2 (i : Nat) (fj fk : M D) (f : M (List D)) : M Fl := do
  let l ← f
  match l with
  | [x, y] => do
    setAt i fj x
    setAt i fk y
    ret .nx
  | _ => stk
theorem cs_store2 {x : Str} {ea eb a b : Expr} {ta : TA} {tj tk : TE} {fj fk : M D} {f : M (List D)} {px py p1 p2 pt pos : Pos} {kt k2 pt2} (hc : X.calm = true) (hv : PE X (.Name x px) (tVar i)) (hv2 : PE X (.Name x py) (tVar i)) (ha : CA X so W [ea, eb] ta f) (hj : CE X so W a tj fj) (hk : CE X so W b tk fk)
    (hs : swapsWithSole [.Tuple [.Subscript (.Name x px) a p1, .Subscript (.Name x py) b p2] kt pt] (.Tuple [ea, eb] k2 pt2) pos.line X.env = pure false := by rfl)
    (hw : swappedStores [.Tuple [.Subscript (.Name x px) a p1, .Subscript (.Name x py) b p2] kt pt] (.Tuple [ea, eb] k2 pt2) X.env = pure none := by rfl)
    (h1 : (assignEach [.Tuple [.Subscript (.Name x px) a p1, .Subscript (.Name x py) b p2] kt pt] X.env).map (·.2) = [assign (.Tuple [.Subscript (.Name x px) a p1, .Subscript (.Name x py) b p2] kt pt) X.env] := by rfl)
    (hn : (assignEach [.Subscript (.Name x px) a p1, .Subscript (.Name x py) b p2] X.env).length = 2 := by rfl) (hst : (assignEach [.Subscript (.Name x px) a p1, .Subscript (.Name x py) b p2] X.env).findIdx? (·.1) = none := by rfl)
    (hpg : PE X a tj → PE X b tk → PGs X [.Subscript (.Name x px) a p1, .Subscript (.Name x py) b p2] (gCons (gSub (tVar i) tj rSetL) (gCons (gSub (tVar i) tk rSetL) gNil))) :
    CS X so W (.Assign [.Tuple [.Subscript (.Name x px) a p1, .Subscript (.Name x py) b p2] kt pt] (.Tuple [ea, eb] k2 pt2) pos) (tAsg (tTup ta) (gTup X.K 2 (gCons (gSub (tVar i) tj rSetL) (gCons (gSub (tVar i) tk rSetL) gNil)))) (fStore2 i fj fk f) := by
  refine ⟨ps_asg (pe_tup ha.pa) (pg_tup hc (hpg hj.pe hk.pe) hn hst) hs hw h1, fun β B H σ s Z r k => ?_⟩
  refine ha.de β B H σ s _ r ((post_bnd k).imp (fun l s1 k1 vs B1 H1 e1 r1 p1 => ?_) fun _ _ q => q)
  cases p1 with
  | nil => exact k1.elim
  | cons q1 p2 =>
    cases p2 with
    | nil => exact k1.elim
    | cons q2 p3 =>
      cases p3 with
      | cons _ _ => exact k1.elim
      | nil =>
        rename_i v1 d1 v2 d2
        have hl : ([v1, v2] : List V).length ≤ sizeLine := by rw [sizeLine_eq]; simp
        refine ⟨hl, fun p hp => ?_⟩
        obtain ⟨g, _⟩ := rep_tup_new (K := X.K) (p := p) r1.ext hp (.cons q1 (.cons q2 .nil)) hl
        refine ⟨p, [v1, v2], rfl, .inl (.inl upd_same), rfl, v1, [v2], rfl, ?_⟩
        have k2 : ((setAt i fj d1 >>= fun _ => setAt i fk d2 >>= fun _ => ret Fl.nx) s1).post (KS X.K so β B Z) (KX X.K so β B W) := k1
        refine set_at hj.de (r1.gr g) (q1.up g.b) ((post_bnd k2).imp (fun _ _ z => z) fun _ _ z => z.up (e1.trans g.b)) fun s2 B2 H2 e2 r2 k3 => ?_
        refine ⟨v2, [], rfl, ?_⟩
        refine set_at hk.de r2 ((q2.up g.b).up e2) ((post_bnd k3).imp (fun _ _ z => z) fun _ _ z => z.up ((e1.trans g.b).trans e2)) fun s3 B3 H3 e3 r3 k4 => ?_
        exact ⟨rfl, k4 σ B3 H3 (((e1.trans g.b).trans e2).trans e3) r3⟩
end
end DL
end S_DL7
section S_DL8
set_option Elab.async false
set_option linter.all false
set_option maxRecDepth 100000
set_option maxHeartbeats 4000000
/-! DL8: built-ins on data. -/
namespace DL
open PySem PySem.Spec PyProof.Rows L2

/-! ### texts in order -/
theorem ltS_irr (x : Str) : ltS x x = false := by unfold ltS; simp [List.lt_irrefl]
theorem str_ext {x y : Str} (h : x.cps.toList = y.cps.toList) : x = y := by
  cases x; cases y; congr 1; exact Array.toList_inj.mp h
theorem ltS_tri {x y : Str} (h : ltS x y = false) (k : ltS y x = false) : x = y := by
  unfold ltS at h k
  have h1 := of_decide_eq_false h
  have h2 := of_decide_eq_false k
  exact str_ext (List.le_antisymm (List.not_lt.mp h2) (List.not_lt.mp h1))
theorem ltS_tr {x y z : Str} (h : ltS x y = true) (k : ltS y z = true) : ltS x z = true := by
  unfold ltS at *
  exact decide_eq_true (List.lt_trans (of_decide_eq_true h) (of_decide_eq_true k))
theorem ltS_asym {x y : Str} (h : ltS x y = true) : ltS y x = false := by
  cases e : ltS y x with
  | false => rfl
  | true => have := ltS_tr h e; rw [ltS_irr] at this; cases this
theorem leS_tr {x y z : Str} (h : ltS y x = false) (k : ltS z y = false) : ltS z x = false := by
  cases e : ltS z x with
  | false => rfl
  | true =>
    cases e2 : ltS x y with
    | true => rw [ltS_tr e e2] at k; cases k
    | false =>
      have := ltS_tri h e2; subst this; rw [e] at k; cases k
def insS (x : Str) : List Str → List Str
  | [] => [x]
  | y :: r => if ltS y x then y :: insS x r else x :: y :: r
def sortS : List Str → List Str
  | [] => []
  | x :: r => insS x (sortS r)
theorem insS_perm (x : Str) : ∀ l, (insS x l).Perm (x :: l)
  | [] => .refl _
  | y :: r => by
    unfold insS
    split
    · exact ((insS_perm x r).cons y).trans (.swap _ _ _)
    · exact .refl _
theorem sortS_perm : ∀ l, (sortS l).Perm l
  | [] => .refl _
  | x :: r => (insS_perm x _).trans ((sortS_perm r).cons x)
def UpS (l : List Str) : Prop := l.Pairwise fun x y => ltS y x = false
theorem insS_up (x : Str) : ∀ l, UpS l → UpS (insS x l)
  | [], _ => by unfold insS UpS; simp
  | y :: r, h => by
    obtain ⟨h1, h2⟩ := List.pairwise_cons.mp h
    unfold insS
    split
    · rename_i hl
      refine List.pairwise_cons.mpr ⟨fun z hz => ?_, insS_up x r h2⟩
      rcases List.mem_cons.mp ((insS_perm x r).mem_iff.mp hz) with e | e
      · subst e; exact ltS_asym hl
      · exact h1 z e
    · rename_i hl
      have hl' : ltS y x = false := by simpa using hl
      refine List.pairwise_cons.mpr ⟨fun z hz => ?_, h⟩
      rcases List.mem_cons.mp hz with e | e
      · subst e; exact hl'
      · exact leS_tr hl' (h1 z e)
theorem sortS_up : ∀ l, UpS (sortS l)
  | [] => List.Pairwise.nil
  | x :: r => insS_up x _ (sortS_up r)
theorem upS_uniq : ∀ (l m : List Str), l.Perm m → UpS l → UpS m → l = m
  | [], m, p, _, _ => by rw [List.nil_perm.mp p]
  | x :: l, [], p, _, _ => by have := p.length_eq; simp at this
  | x :: l, y :: m, p, h, k => by
    obtain ⟨h1, h2⟩ := List.pairwise_cons.mp h
    obtain ⟨k1, k2⟩ := List.pairwise_cons.mp k
    have hx : x = y := by
      rcases List.mem_cons.mp (p.mem_iff.mp List.mem_cons_self) with e | e
      · exact e
      · rcases List.mem_cons.mp (p.symm.mem_iff.mp List.mem_cons_self) with e' | e'
        · exact e'.symm
        · exact ltS_tri (k1 x e) (h1 y e')
    subst hx
    rw [upS_uniq l m (p.cons_inv) h2 k2]
theorem sortedS_up : ∀ (l : List Str), sortedS l = true → UpS l := by
  have rise : ∀ (l : List Str) (p : Str), risingS p l = true → UpS (p :: l) := by
    intro l
    induction l with
    | nil => intro p _; exact List.pairwise_cons.mpr ⟨fun z (hz : z ∈ []) => (nomatch hz), List.Pairwise.nil⟩
    | cons x r ih =>
      intro p h
      unfold risingS at h
      obtain ⟨h1, h2⟩ := Bool.and_eq_true_iff.mp h
      have u := ih x h2
      have hp : ltS x p = false := by
        unfold ltS; rw [← ltCps_eq]; simpa using h1
      refine List.pairwise_cons.mpr ⟨fun z hz => ?_, u⟩
      rcases List.mem_cons.mp hz with e | e
      · subst e; exact hp
      · exact leS_tr hp ((List.pairwise_cons.mp u).1 z e)
  intro l h
  cases l with
  | nil => exact List.Pairwise.nil
  | cons x r => exact rise r x h
theorem sorted_is {l ys : List Str} (p : ys.Perm l) (h : sortedS ys = true) : ys = sortS l := upS_uniq _ _ (p.trans (sortS_perm l).symm) (sortedS_up _ h) (sortS_up l)
def strsD : List D → Option (List Str)
  | [] => some []
  | .str x :: r => (strsD r).map (x :: ·)
  | _ => none
theorem strsD_eq : ∀ {l : List D} {xs : List Str}, strsD l = some xs → l = xs.map D.str
  | [], xs, h => by cases h; rfl
  | .str x :: r, xs, h => by
    obtain ⟨ys, h1, rfl⟩ := Option.map_eq_some_iff.mp (show (strsD r).map (x :: ·) = some xs from h)
    rw [strsD_eq h1]; rfl
  | .non :: _, _, h => by cases h
  | .bl _ :: _, _, h => by cases h
  | .int _ :: _, _, h => by cases h
  | .tup _ :: _, _, h => by cases h
  | .lst _ :: _, _, h => by cases h
  | .dct _ :: _, _, h => by cases h
  | .xc _ _ :: _, _, h => by cases h
theorem strsD_map : ∀ (xs : List Str), strsD (xs.map D.str) = some xs
  | [] => rfl
  | x :: r => by show (strsD (r.map D.str)).map (x :: ·) = _; rw [strsD_map r]; rfl
def intsD : List D → Option (List Int)
  | [] => some []
  | .int x :: r => (intsD r).map (x :: ·)
  | _ => none
def blsD : List D → Option (List Bool)
  | [] => some []
  | .bl x :: r => (blsD r).map (x :: ·)
  | _ => none
theorem blsD_eq : ∀ {l : List D} {xs : List Bool}, blsD l = some xs → l = xs.map D.bl
  | [], xs, h => by cases h; rfl
  | .bl x :: r, xs, h => by
    obtain ⟨ys, h1, rfl⟩ := Option.map_eq_some_iff.mp (show (blsD r).map (x :: ·) = some xs from h)
    rw [blsD_eq h1]; rfl
  | .non :: _, _, h => by cases h
  | .str _ :: _, _, h => by cases h
  | .int _ :: _, _, h => by cases h
  | .tup _ :: _, _, h => by cases h
  | .lst _ :: _, _, h => by cases h
  | .dct _ :: _, _, h => by cases h
  | .xc _ _ :: _, _, h => by cases h
theorem blsD_map : ∀ (xs : List Bool), blsD (xs.map D.bl) = some xs
  | [] => rfl
  | x :: r => by show (blsD (r.map D.bl)).map (x :: ·) = _; rw [blsD_map r]; rfl

section
variable {X : Cx} {so : So} {W : WX} {K : PySem.W.Frag}
theorem reps1 {B : Hp} {vs : List V} {d : D} (h : Reps K B vs [d]) : ∃ v, vs = [v] ∧ Rep K B v d := by
  cases h with
  | cons a t => cases t; exact ⟨_, rfl, a⟩
theorem reps2 {B : Hp} {vs : List V} {d e : D} (h : Reps K B vs [d, e]) : ∃ v w, vs = [v, w] ∧ Rep K B v d ∧ Rep K B w e := by
  cases h with
  | cons a t => obtain ⟨w, rfl, b⟩ := reps1 t; exact ⟨_, w, rfl, a, b⟩

/-! ### isinstance -/
def isiB (T : String) : D → Option Bool
  | .non => some (decide (T = "NoneType"))
  | .bl _ => some (decide (T = "bool") || decide (T = "int"))
  | .int _ => some (decide (T = "int"))
  | .str _ => some (decide (T = "str"))
  | .tup _ => some (decide (T = "tuple"))
  | .lst _ => some (decide (T = "list"))
  | _ => none
def TabT (T : String) : Prop := kitB "NoneType" T = some (decide (T = "NoneType")) ∧ kitB "bool" T = some (decide (T = "bool") || decide (T = "int")) ∧ kitB "int" T = some (decide (T = "int")) ∧
  kitB "str" T = some (decide (T = "str")) ∧ kitB "tuple" T = some (decide (T = "tuple")) ∧ kitB "list" T = some (decide (T = "list"))
theorem tab_str : TabT "str" := by unfold TabT; decide +kernel
theorem tab_tuple : TabT "tuple" := by unfold TabT; decide +kernel
theorem tab_int : TabT "int" := by unfold TabT; decide +kernel
theorem tab_bool : TabT "bool" := by unfold TabT; decide +kernel
theorem tab_list : TabT "list" := by unfold TabT; decide +kernel
def dIsi (T : String) (f : M D) : M D := do
  let d ← f
  lift ((isiB T d).map D.bl)
theorem isi_rep {B H : Hp} {v : V} {d : D} {T : String} {b : Bool} (t : TabT T) (e : Ex B H) (p : Rep K B v d) (h : isiB T d = some b) : ∃ u, TyX K H v u ∧ PySem.W.kitOne K u (.type T) = some b := by
  obtain ⟨t1, t2, t3, t4, t5, t6⟩ := t
  cases p with
  | non => cases h; exact ⟨_, .base .non, kit_ty t1⟩
  | bl _ => cases h; exact ⟨_, .base (.bl _), kit_ty t2⟩
  | int _ => cases h; exact ⟨_, .base (.int _), kit_ty t3⟩
  | str _ => cases h; exact ⟨_, .base (.str _), kit_ty t4⟩
  | lst h1 _ _ => cases h; exact ⟨_, .base (.lst (e _ _ h1)), kit_ty t6⟩
  | tup h1 _ _ =>
    cases h
    rcases h1 with (h1 | ⟨o, h1⟩) | h1
    · exact ⟨_, .base (.tup (e _ _ h1)), kit_ty t5⟩
    · exact ⟨_, .fTuple (e _ _ h1), kit_ty t5⟩
    · obtain ⟨o, its, n, k1, k2, _⟩ := h1
      exact ⟨_, .kTuple k1 k2, kit_ty t5⟩
  | xc0 _ => cases h
  | xc1 _ _ _ => cases h
variable {x : Str} {e a b : Expr} {es : List Expr} {te ta tb : TE} {fe fa fb : M D} {p pos p2 : Pos} {tl : TA} {fl : M (List D)}
theorem ce_isi {T : String} {f tn : Str} (tab : TabT T) (he : CE X so W e te fe) (hg : Gl X "isinstance") (hm : X.mg "isinstance" = none) (hgT : Gl X tn) (hmT : X.mg tn = none) (hvT : bootBuiltins tn = some (.type T)) (hnT : tn ≠ "__name__" := by decide) (hdT : (tn == ("__debug__" : Str)) = false := by decide)
    (h1 : starEach [e, .Name tn p2] X.env = (false, eval e X.env) :: starEach [.Name tn p2] X.env := by rfl) (h2 : starEach [.Name tn p2] X.env = (false, eval (.Name tn p2) X.env) :: starEach [] X.env := by rfl) (hpl : (backTo pos (starEach [.Name tn p2] X.env)).any (·.1) = false := by rfl)
    (hb : bootBuiltins "isinstance" = some (.builtin "isinstance") := by rfl) :
    CE X so W (.Call (.Name "isinstance" p) [e, .Name tn p2] [] pos) (tCB (rIsi X.K) (tCons te (tCons (tC (.ty T)) tNil))) (dIsi T fe) := by
  refine ⟨pe_callB call_isi hg hm hb (pa_cons he.pe (pa_cons (pe_bltn hgT hmT hvT rfl hnT hdT) pa_nil h2) h1) (by decide) (by decide) h1 hpl, fun β B H σ s Q r k => ?_⟩
  refine he.de β B H σ s _ r ((post_bnd k).imp (fun d s1 k1 v B1 H1 e1 r1 p1 => ?_) fun _ _ q => q)
  obtain ⟨z, hz, k2⟩ := lift_post k1
  obtain ⟨b, hb, rfl⟩ := Option.map_eq_some_iff.mp hz
  obtain ⟨u, t1, t2⟩ := isi_rep tab r1.ext p1 hb
  exact ⟨v, .ty T, u, .type T, b, rfl, .ty T, t1, t2, k2 _ B1 H1 e1 r1 (.bl b)⟩

/-! ### len, all, any, abs, int, str -/
def lenD (d : D) : Option Nat := match d with
  | .str x => if x.length ≤ sizeLine then some x.length else none
  | .tup l => some l.length
  | .lst l => some l.length
  | _ => none
def lenR : List D → Option D
  | [d] => (lenD d).map fun n => .int (n : Nat)
  | _ => none
abbrev rLenA (K : PySem.W.Frag) : List V → Hp → VK → Prop := fun xs H Q => ∃ (x : V) (n : Nat), xs = [x] ∧ LenV K x H n ∧ Q (.int (n : Int)) H
theorem dr_len : DRC K (rLenA K) lenR := by
  intro B H xs ds z Q e p hz k
  unfold lenR at hz
  split at hz
  · obtain ⟨n, hn, rfl⟩ := Option.map_eq_some_iff.mp hz
    obtain ⟨v, rfl, q⟩ := reps1 p
    refine ⟨v, n, rfl, ?_, k _ B H (Gr.refl e) (.int _)⟩
    cases q with
    | str x =>
      unfold lenD at hn
      by_cases h : x.length ≤ sizeLine
      · simp only [if_pos h] at hn; cases hn; exact ⟨h, rfl⟩
      · simp only [if_neg h] at hn; cases hn
    | tup h1 h2 h3 => cases hn; exact .inr ⟨_, e.sqt h1, h3.len.symm⟩
    | lst h1 h2 h3 => cases hn; exact .inl ⟨_, SqL.of (e _ _ h1), h3.len.symm⟩
    | non => cases hn
    | bl _ => cases hn
    | int _ => cases hn
    | xc0 _ => cases hn
    | xc1 _ _ _ => cases hn
  · cases hz
def allR : List D → Option D
  | [.lst l] => (blsD l).map fun bs => .bl (bs.all id)
  | _ => none
def anyR : List D → Option D
  | [.lst l] => (blsD l).map fun bs => .bl (bs.any id)
  | _ => none
theorem dr_all : DRC K (rAll K) allR := by
  intro B H xs ds z Q e p hz k
  unfold allR at hz
  split at hz
  · obtain ⟨bs, hb, rfl⟩ := Option.map_eq_some_iff.mp hz
    obtain ⟨v, rfl, q⟩ := reps1 p
    obtain ⟨a, vs, rfl, h1, h2, h3⟩ := q.inLst
    rw [blsD_eq hb] at h3
    rw [h3.bls] at h1
    exact ⟨a, bs, rfl, SqL.of (e _ _ h1), k _ B H (Gr.refl e) (.bl _)⟩
  · cases hz
theorem dr_any : DRC K (rAny K) anyR := by
  intro B H xs ds z Q e p hz k
  unfold anyR at hz
  split at hz
  · obtain ⟨bs, hb, rfl⟩ := Option.map_eq_some_iff.mp hz
    obtain ⟨v, rfl, q⟩ := reps1 p
    obtain ⟨a, vs, rfl, h1, h2, h3⟩ := q.inLst
    rw [blsD_eq hb] at h3
    rw [h3.bls] at h1
    exact ⟨a, bs, rfl, SqL.of (e _ _ h1), k _ B H (Gr.refl e) (.bl _)⟩
  · cases hz
def absR : List D → Option D
  | [.int i] => some (.int (if i < 0 then -i else i))
  | _ => none
theorem dr_abs : DRC K (fun xs H Q => ∃ i, xs = [.int i] ∧ Q (.int (if i < 0 then -i else i)) H) absR := by
  intro B H xs ds z Q e p hz k
  unfold absR at hz
  split at hz
  · cases hz
    obtain ⟨v, rfl, q⟩ := reps1 p
    cases q
    exact ⟨_, rfl, k _ B H (Gr.refl e) (.int _)⟩
  · cases hz
def intR : List D → Option D
  | [.int i] => some (.int i)
  | [.bl b] => some (.int (if b then 1 else 0))
  | [.str x] => if x.length ≤ 640 then (PySem.intText? x).map .int else none
  | _ => none
abbrev rIntA : List V → Hp → VK → Prop := fun xs H Q => ((∃ i, xs = [.int i] ∧ Q (.int i) H) ∨ ∃ k, xs = [.bl k] ∧ Q (.int (if k then 1 else 0)) H) ∨ (∃ a n, xs = [.str a] ∧ PySem.intText? a = some n ∧ a.length ≤ 640 ∧ Q (.int n) H)
theorem call_intA : CallR X (.type "int") rIntA := call_int1.or call_int_str
theorem dr_int : DRC K rIntA intR := by
  intro B H xs ds z Q e p hz k
  unfold intR at hz
  split at hz
  · cases hz
    obtain ⟨v, rfl, q⟩ := reps1 p
    cases q
    exact .inl (.inl ⟨_, rfl, k _ B H (Gr.refl e) (.int _)⟩)
  · cases hz
    obtain ⟨v, rfl, q⟩ := reps1 p
    cases q
    exact .inl (.inr ⟨_, rfl, k _ B H (Gr.refl e) (.int _)⟩)
  · rename_i x
    by_cases h : x.length ≤ 640
    · rw [if_pos h] at hz
      obtain ⟨n, hn, rfl⟩ := Option.map_eq_some_iff.mp hz
      obtain ⟨v, rfl, q⟩ := reps1 p
      cases q
      exact .inr ⟨x, n, rfl, hn, h, k _ B H (Gr.refl e) (.int _)⟩
    · rw [if_neg h] at hz; cases hz
  · cases hz
def strI (i : Int) : Option D := if i.natAbs.log2 < 1920 then some (.str (toString i)) else none
def strR : List D → Option D
  | [.int i] => strI i
  | _ => none
theorem dr_str : DRC K (fun xs H Q => ∃ i : Int, xs = [.int i] ∧ i.natAbs.log2 < 1920 ∧ Q (.str (toString i)) H) strR := by
  intro B H xs ds z Q e p hz k
  unfold strR at hz
  split at hz
  · rename_i i
    unfold strI at hz
    by_cases h : i.natAbs.log2 < 1920
    · rw [if_pos h] at hz
      cases hz
      obtain ⟨v, rfl, q⟩ := reps1 p
      cases q
      exact ⟨_, rfl, h, k _ B H (Gr.refl e) (.str _)⟩
    · rw [if_neg h] at hz; cases hz
  · cases hz
/-! ### tuple, list, sorted, min, max, gcd -/
def tupR : List D → Option D
  | [.lst l] => some (.tup l)
  | [.tup l] => some (.tup l)
  | _ => none
theorem dr_tup : DRC K (rTupOf K) tupR := by
  intro B H xs ds z Q e p hz k
  unfold tupR at hz
  split at hz
  · cases hz
    obtain ⟨v, rfl, q⟩ := reps1 p
    obtain ⟨a, vs, rfl, h1, h2, h3⟩ := q.inLst
    refine ⟨a, vs, rfl, .inl ⟨SqL.of (e _ _ h1), fun c hc => ?_⟩⟩
    obtain ⟨g, r⟩ := rep_tup_new (K := K) (p := c) e hc h3 h2
    exact k _ _ _ g r
  · cases hz
    obtain ⟨v, rfl, q⟩ := reps1 p
    obtain ⟨a, vs, rfl, h1, h2, h3⟩ := q.inTup
    exact ⟨a, vs, rfl, .inr ⟨e.sqt h1, k _ B H (Gr.refl e) (.tup h1 h2 h3)⟩⟩
  · cases hz
def lstR : List D → Option (List D)
  | [.lst l] => some l
  | [.tup l] => some l
  | _ => none
theorem dr_lst : DRL K (fun xs H Q => ∃ p ys, xs = [.ref p] ∧ (SqL K H p ys ∨ SqT K H p ys) ∧ ∀ l, H l = none → Q (.ref l) (upd H l (.lst ys))) lstR := by
  intro B H xs ds z Q e p hz k
  unfold lstR at hz
  split at hz
  · cases hz
    obtain ⟨v, rfl, q⟩ := reps1 p
    obtain ⟨a, vs, rfl, h1, h2, h3⟩ := q.inLst
    exact ⟨a, vs, rfl, .inl (SqL.of (e _ _ h1)), k vs h3 h2⟩
  · cases hz
    obtain ⟨v, rfl, q⟩ := reps1 p
    obtain ⟨a, vs, rfl, h1, h2, h3⟩ := q.inTup
    exact ⟨a, vs, rfl, .inr (e.sqt h1), k vs h3 h2⟩
  · cases hz
/-- sorted(xs), xs a list of texts of any length -/
def rSortA (K : PySem.W.Frag) : List V → Hp → VK → Prop := fun vs H Q => ∃ (a : Addr) (xs : List Str), vs = [V.ref a] ∧ SqL K H a (xs.map V.str) ∧ xs.length ≤ sizeLine ∧ ∀ (p : Addr), H p = none → Q (.ref p) (upd H p (.lst ((sortS xs).map V.str)))
theorem cr_sortA : CallR X (.builtin "sorted") (rSortA X.K) := by
  intro pins s σ H vs us Q I r h
  obtain ⟨a, xs, rfl, hs, hl, q⟩ := h
  obtain ⟨its, rv, hli, _⟩ := I.list hs
  rw [Vals.ref1 r]
  have hlen0 := rv.length
  rw [List.length_map] at hlen0
  refine PyProof.Rows.sorted_strsAny hli.isList rv.strs (by rw [← hlen0]; exact hl) fun out ys h1 h2 h3 => ?_
  obtain ⟨ep, he'⟩ := PyProof.Rows.sortedAll_at s.heap its out
  have ey := sorted_is h2 h3
  subst ey
  have hlen : ((sortS xs).map V.str).length ≤ sizeLine := by rw [List.length_map, h2.length_eq]; exact hl
  exact ⟨.ref _, upd H (s.heap.objs.size + 1) (.lst ((sortS xs).map V.str)), I.laid (t' := s.toks) (fun _ _ => PyProof.Rows.sortedAll_old) (Nat.le_succ _) ⟨hlen, out.toList, ep, vals_of_strs h1, he'⟩, rfl, q _ (I.hok.fresh (Nat.le_succ _))⟩
def srtR : List D → Option (List D)
  | [.lst l] => (strsD l).map fun xs => (sortS xs).map D.str
  | _ => none
theorem dr_srt : DRL K (rSortA K) srtR := by
  intro B H xs ds z Q e p hz k
  unfold srtR at hz
  split at hz
  · obtain ⟨ss, hb, rfl⟩ := Option.map_eq_some_iff.mp hz
    obtain ⟨v, rfl, q⟩ := reps1 p
    obtain ⟨a, vs, rfl, h1, h2, h3⟩ := q.inLst
    have hl := h3.len
    rw [strsD_eq hb] at h3 hl
    rw [h3.strs] at h1
    rw [List.length_map] at hl
    exact ⟨a, ss, rfl, SqL.of (e _ _ h1), by omega, k _ Reps.ofStrs (by rw [List.length_map, (sortS_perm ss).length_eq]; omega)⟩
  · cases hz
def gcdR : List D → Option D
  | [.int a, .int b] => some (.int ((Nat.gcd a.natAbs b.natAbs : Nat) : Int))
  | _ => none
theorem dr_gcd : DRC K rGcd gcdR := by
  intro B H xs ds z Q e p hz k
  unfold gcdR at hz
  split at hz
  · cases hz
    obtain ⟨v, w, rfl, q1, q2⟩ := reps2 p
    cases q1; cases q2
    exact ⟨_, _, rfl, k _ B H (Gr.refl e) (.int _)⟩
  · cases hz
theorem ce_callBfun {r : List V → Hp → VK → Prop} {id : String} {gd : List D → Option D} (hr : DRC X.K r gd) (hc : CallR X (.builtin id) r) (hg : Gl X x) (hm : X.mg x = some (.builtin id)) (ha : CA X so W (e :: es) tl fl) (hdb : (x == ("__debug__" : Str)) = false := by decide)
    (he : starEach (e :: es) X.env = (false, eval e X.env) :: starEach es X.env := by rfl) (hpl : (backTo pos (starEach es X.env)).any (·.1) = false := by rfl) : CE X so W (.Call (.Name x p) (e :: es) [] pos) (tCB r tl) (dCall gd fl) :=
  ⟨pe_callBfun hc hg hm ha.pa hdb he hpl, de_cb hr ha.de⟩

/-! ### texts -/
def dM1 (g : D → D → Option D) (fo fe : M D) : M D := dOp g fo fe
def isS : D → Option Str
  | .str x => some x
  | _ => none
def dJoin (fo fe : M D) : M D := do
  let o ← fo
  let a ← lift (isS o)
  let d ← fe
  let l ← lift (match d with | .lst l => strsD l | .tup l => strsD l | _ => none)
  if (l.map (·.length)).sum + l.length * a.length ≤ 16777216 then ret (.str (Txt.join a l)) else stk
theorem ce_join {o : Expr} {to : TE} {fo : M D} {apos pos : Pos} (ho : CE X so W o to fo) (he : CE X so W e te fe) (hs : starEach [e] X.env = [(false, eval e X.env)] := by rfl) (hbase : attributeBase o "join" X.env (eval o X.env) = eval o X.env := by rfl) (hline : (apos.endLine == pos.line) = true := by rfl) :
    CE X so W (.Call (.Attribute o "join" apos) [e] [] pos) (tM1 (fun x xs H Q => ∃ a p, ∃ ys : List Str, x = .str a ∧ xs = [.ref p] ∧ (SqL X.K H p (ys.map V.str) ∨ SqT X.K H p (ys.map V.str)) ∧
      (ys.map (·.length)).sum + ys.length * a.length ≤ 16777216 ∧ Q (.str (Txt.join a ys)) H) to te) (dJoin fo fe) := by
  refine ⟨pe_join ho.pe he.pe hs hbase hline, fun β B H σ s Q r k => ?_⟩
  refine ho.de β B H σ s _ r ((post_bnd k).imp (fun d s1 k1 v B1 H1 e1 r1 p1 => ?_) fun _ _ q => q)
  obtain ⟨a, ha, k2⟩ := lift_post (post_bnd k1)
  cases p1 with
  | str y =>
    cases ha
    refine ⟨⟨_, rfl⟩, ?_⟩
    refine he.de β B1 H1 σ s1 _ r1 ((post_bnd k2).imp (fun d2 s2 k3 w B2 H2 e2 r2 p2 => ?_) fun _ _ q => q.up e1)
    obtain ⟨l, hl, k4⟩ := lift_post (post_bnd k3)
    by_cases hz : (l.map (·.length)).sum + l.length * a.length ≤ 16777216
    · have k5 : (ret (D.str (Txt.join a l)) s2).post (KE X.K so β σ B Q) (KX X.K so β B W) := by
        have k4' : ((if (l.map (·.length)).sum + l.length * a.length ≤ 16777216 then ret (D.str (Txt.join a l)) else stk) s2).post (KE X.K so β σ B Q) (KX X.K so β B W) := k4
        rw [if_pos hz] at k4'; exact k4'
      have fin := k5 _ B2 H2 (e1.trans e2) r2 (.str _)
      cases p2 with
      | lst h1 h2 h3 =>
        rw [strsD_eq (show strsD _ = some l from hl)] at h3
        rw [h3.strs] at h1
        exact ⟨a, _, l, rfl, rfl, .inl (SqL.of (r2.ext _ _ h1)), hz, fin⟩
      | tup h1 h2 h3 =>
        rw [strsD_eq (show strsD _ = some l from hl)] at h3
        rw [h3.strs] at h1
        exact ⟨a, _, l, rfl, rfl, .inr (r2.ext.sqt h1), hz, fin⟩
      | non => cases hl
      | bl _ => cases hl
      | int _ => cases hl
      | str _ => cases hl
      | xc0 _ => cases hl
      | xc1 _ _ _ => cases hl
    · have k4' : ((if (l.map (·.length)).sum + l.length * a.length ≤ 16777216 then ret (D.str (Txt.join a l)) else stk) s2).post (KE X.K so β σ B Q) (KX X.K so β B W) := k4
      rw [if_neg hz] at k4'; exact k4'.elim
  | _ => cases ha
def dSplit (fo fe : M D) : M (List D) := do
  let o ← fo
  let a ← lift (isS o)
  let d ← fe
  let b ← lift (isS d)
  if (b.length == 0) = false ∧ a.length + 2 ≤ sizeLine ∧ (Txt.split a b).length ≤ sizeLine then ret ((Txt.split a b).map D.str) else stk
theorem cn_split {o : Expr} {to : TE} {fo : M D} {apos pos : Pos} (ho : CE X so W o to fo) (he : CE X so W e te fe) (hs : starEach [e] X.env = [(false, eval e X.env)] := by rfl) (hbase : attributeBase o "split" X.env (eval o X.env) = eval o X.env := by rfl) (hline : (apos.endLine == pos.line) = true := by rfl) :
    CN X so W (.Call (.Attribute o "split" apos) [e] [] pos) (tM1 (fun x xs H Q => ∃ a b, x = .str a ∧ xs = [.str b] ∧ (b.length == 0) = false ∧ a.length + 2 ≤ sizeLine ∧ rNewStrs (Txt.split a b) H Q) to te) (dSplit fo fe) := by
  refine ⟨pe_split ho.pe he.pe hs hbase hline, fun β B H σ s Q r k => ?_⟩
  refine ho.de β B H σ s _ r ((post_bnd k).imp (fun d s1 k1 v B1 H1 e1 r1 p1 => ?_) fun _ _ q => q)
  obtain ⟨a, ha, k2⟩ := lift_post (post_bnd k1)
  cases p1 with
  | str y =>
    cases ha
    refine ⟨⟨_, rfl⟩, ?_⟩
    refine he.de β B1 H1 σ s1 _ r1 ((post_bnd k2).imp (fun d2 s2 k3 w B2 H2 e2 r2 p2 => ?_) fun _ _ q => q.up e1)
    obtain ⟨b, hb, k4⟩ := lift_post (post_bnd k3)
    cases p2 with
    | str y2 =>
      cases hb
      by_cases hz : (b.length == 0) = false ∧ a.length + 2 ≤ sizeLine ∧ (Txt.split a b).length ≤ sizeLine
      · have k5 : (ret ((Txt.split a b).map D.str) s2).post (KL X.K so β σ B Q) (KX X.K so β B W) := by
          have k4' : ((if (b.length == 0) = false ∧ a.length + 2 ≤ sizeLine ∧ (Txt.split a b).length ≤ sizeLine then ret ((Txt.split a b).map D.str) else stk) s2).post (KL X.K so β σ B Q) (KX X.K so β B W) := k4
          rw [if_pos hz] at k4'; exact k4'
        exact ⟨a, b, rfl, rfl, hz.1, hz.2.1, KL.give k5 (e1.trans e2) r2 Reps.ofStrs (by rw [List.length_map]; exact hz.2.2)⟩
      · have k4' : ((if (b.length == 0) = false ∧ a.length + 2 ≤ sizeLine ∧ (Txt.split a b).length ≤ sizeLine then ret ((Txt.split a b).map D.str) else stk) s2).post (KL X.K so β σ B Q) (KX X.K so β B W) := k4
        rw [if_neg hz] at k4'; exact k4'.elim
    | _ => cases hb
  | _ => cases ha
end
end DL
end S_DL8
section S_DL9
set_option Elab.async false
set_option linter.all false
set_option maxRecDepth 100000
set_option maxHeartbeats 4000000
/-! DL9: least and greatest of texts, f-strings, what else is walked. -/
namespace DL
open PySem PySem.Spec PyProof.Rows L2

/-! ### min, max of texts -/
def minS (x : Str) (l : List Str) : Str := l.foldl (fun a y => if ltS y a then y else a) x
def maxS (x : Str) (l : List Str) : Str := l.foldl (fun a y => if ltS a y then y else a) x
theorem minD_strs (x : Str) : ∀ l : List Str, PySem.W.minD (.str x) (l.map .str) = .str (minS x l) := by
  intro l
  unfold PySem.W.minD minS
  induction l generalizing x with
  | nil => rfl
  | cons y r ih =>
    rw [List.map_cons, List.foldl_cons, List.foldl_cons]
    have e : (if PySem.W.dataLt (.str y) (.str x) = true then PyData.str y else .str x) = .str (if ltS y x then y else x) := by
      rw [PySem.W.dataLt_str]
      unfold ltS
      by_cases h : y.cps.toList < x.cps.toList
      · simp [h]
      · simp [h]
    (try dsimp only at e ⊢)
    rw [e, ih]
theorem maxD_strs (x : Str) : ∀ l : List Str, PySem.W.maxD (.str x) (l.map .str) = .str (maxS x l) := by
  intro l
  unfold PySem.W.maxD maxS
  induction l generalizing x with
  | nil => rfl
  | cons y r ih =>
    rw [List.map_cons, List.foldl_cons, List.foldl_cons]
    have e : (if PySem.W.dataLt (.str x) (.str y) = true then PyData.str y else .str x) = .str (if ltS x y then y else x) := by
      rw [PySem.W.dataLt_str]
      unfold ltS
      by_cases h : x.cps.toList < y.cps.toList
      · simp [h]
      · simp [h]
    (try dsimp only at e ⊢)
    rw [e, ih]
theorem depth_strs : ∀ l : List Str, PyData.depthAll (l.map .str) ≤ 1
  | [] => by simp [PyData.depthAll]
  | x :: r => by have := depth_strs r; simp [PyData.depthAll, PyData.depth]; omega
theorem alike_strs (l : List Str) : PySem.W.AlikeAll (l.map .str) := by
  refine ⟨fun x hx y hy => ?_, fun x hx => ?_⟩
  · obtain ⟨a, _, rfl⟩ := List.mem_map.mp hx
    obtain ⟨b, _, rfl⟩ := List.mem_map.mp hy
    rfl
  · obtain ⟨a, _, rfl⟩ := List.mem_map.mp hx
    intro h; cases h
theorem dpAll_strs {K : PySem.W.Frag} {H : Hp} : ∀ l : List Str, DpAll K H (l.map V.str) (l.map .str)
  | [] => .nil
  | x :: r => .cons (.str x) (dpAll_strs r)
section
variable {X : Cx} {so : So} {W : WX} {K : PySem.W.Frag}
def rMinS (K : PySem.W.Frag) (f : Str → List Str → Str) : List V → Hp → VK → Prop := fun vs H Q => ∃ (a : Addr) (x : Str) (xs : List Str), vs = [V.ref a] ∧ SqL K H a ((x :: xs).map V.str) ∧ Q (.str (f x xs)) H
theorem cr_minS (hc : X.calm = true) (hu : X.A.units + 64 < cLine) : CallR X (.builtin "min") (rMinS X.K minS) := by
  intro pins s σ H vs us Q I r h
  obtain ⟨a, x, xs, rfl, hs, q⟩ := h
  obtain ⟨its, rv, hl, _⟩ := I.list hs
  rw [Vals.ref1 r]
  obtain ⟨as, hr⟩ := Dp.readsAll I ((x :: xs).map .str) _ its (dpAll_strs (x :: xs)) rv
  have hd := depth_strs (x :: xs)
  refine PySem.W.min_list_data (I.ok.hd hc) hl.isList (by simpa using hr) (alike_strs (x :: xs)) (by show X.A.units + 1 + PyData.depthAll ((x :: xs).map .str) < cLine; omega) fun i v h' tk bs _ rd hk => ?_
  rw [minD_strs] at rd
  cases rd with
  | str _ t => exact ⟨.str _, H, I.kept hk, ⟨t, rfl⟩, q⟩
theorem cr_maxS (hc : X.calm = true) (hu : X.A.units + 64 < cLine) : CallR X (.builtin "max") (rMinS X.K maxS) := by
  intro pins s σ H vs us Q I r h
  obtain ⟨a, x, xs, rfl, hs, q⟩ := h
  obtain ⟨its, rv, hl, _⟩ := I.list hs
  rw [Vals.ref1 r]
  obtain ⟨as, hr⟩ := Dp.readsAll I ((x :: xs).map .str) _ its (dpAll_strs (x :: xs)) rv
  have hd := depth_strs (x :: xs)
  refine PySem.W.max_list_data (I.ok.hd hc) hl.isList (by simpa using hr) (alike_strs (x :: xs)) (by show X.A.units + 1 + PyData.depthAll ((x :: xs).map .str) < cLine; omega) fun i v h' tk bs _ rd hk => ?_
  rw [maxD_strs] at rd
  cases rd with
  | str _ t => exact ⟨.str _, H, I.kept hk, ⟨t, rfl⟩, q⟩
/-- min(texts), min(i, j) -/
def minR : List D → Option D
  | [.lst l] => (match strsD l with
    | some (x :: xs) => some (.str (minS x xs))
    | _ => none)
  | [.int i, .int j] => some (.int (if j < i then j else i))
  | _ => none
def maxR : List D → Option D
  | [.lst l] => (match strsD l with
    | some (x :: xs) => some (.str (maxS x xs))
    | _ => none)
  | [.int i, .int j] => some (.int (if j > i then j else i))
  | _ => none
abbrev rMinA (K : PySem.W.Frag) : List V → Hp → VK → Prop := fun xs H Q => rMinS K minS xs H Q ∨ (∃ i j, xs = [.int i, .int j] ∧ Q (.int (if j < i then j else i)) H)
abbrev rMaxA (K : PySem.W.Frag) : List V → Hp → VK → Prop := fun xs H Q => rMinS K maxS xs H Q ∨ (∃ i j, xs = [.int i, .int j] ∧ Q (.int (if j > i then j else i)) H)
theorem cr_minA (hc : X.calm = true) (hu : X.A.units + 64 < cLine) : CallR X (.builtin "min") (rMinA X.K) := (cr_minS hc hu).or (call_min2 hc)
theorem cr_maxA (hc : X.calm = true) (hu : X.A.units + 64 < cLine) : CallR X (.builtin "max") (rMaxA X.K) := (cr_maxS hc hu).or (call_max2 hc)
theorem dr_min : DRC K (rMinA K) minR := by
  intro B H xs ds z Q e p hz k
  unfold minR at hz
  split at hz
  · split at hz
    · rename_i x ys hs
      cases hz
      obtain ⟨v, rfl, q⟩ := reps1 p
      obtain ⟨a, vs, rfl, h1, h2, h3⟩ := q.inLst
      rw [strsD_eq hs] at h3
      rw [h3.strs] at h1
      exact .inl ⟨a, x, ys, rfl, SqL.of (e _ _ h1), k _ B H (Gr.refl e) (.str _)⟩
    · cases hz
  · cases hz
    obtain ⟨v, w, rfl, q1, q2⟩ := reps2 p
    cases q1; cases q2
    exact .inr ⟨_, _, rfl, k _ B H (Gr.refl e) (.int _)⟩
  · cases hz
theorem dr_max : DRC K (rMaxA K) maxR := by
  intro B H xs ds z Q e p hz k
  unfold maxR at hz
  split at hz
  · split at hz
    · rename_i x ys hs
      cases hz
      obtain ⟨v, rfl, q⟩ := reps1 p
      obtain ⟨a, vs, rfl, h1, h2, h3⟩ := q.inLst
      rw [strsD_eq hs] at h3
      rw [h3.strs] at h1
      exact .inl ⟨a, x, ys, rfl, SqL.of (e _ _ h1), k _ B H (Gr.refl e) (.str _)⟩
    · cases hz
  · cases hz
    obtain ⟨v, w, rfl, q1, q2⟩ := reps2 p
    cases q1; cases q2
    exact .inr ⟨_, _, rfl, k _ B H (Gr.refl e) (.int _)⟩
  · cases hz

/-! ### f-strings -/
variable {e v1 v2 : Expr} {es rest : List Expr} {te : TE} {ts : List TE} {fe : M D} {pos p2 : Pos} {β : Bs} {B H : Hp} {σ : L2.St} {s : FS}
def fmtD : D → Option D
  | .str y => if y.length ≤ sizeLine then some (.str y) else none
  | .int i => strI i
  | _ => none
def dFmt (f : M D) : M D := do
  let d ← f
  lift (fmtD d)
theorem ce_fmt (h : CE X so W e te fe) : CE X so W (.FormattedValue e (-1) none pos) (tFmt te) (dFmt fe) := by
  refine ⟨pe_fmt h.pe, fun β B H σ s Q r k => ?_⟩
  refine h.de β B H σ s _ r ((post_bnd k).imp (fun d s1 k1 v B1 H1 e1 r1 p1 => ?_) fun _ _ q => q)
  obtain ⟨z, hz, k2⟩ := lift_post k1
  cases p1 with
  | str y =>
    by_cases hl : y.length ≤ sizeLine
    · have hz' : (if y.length ≤ sizeLine then some (D.str y) else none) = some z := hz
      rw [if_pos hl] at hz'; cases hz'
      exact .inl ⟨y, rfl, hl, k2 _ B1 H1 e1 r1 (.str _)⟩
    · have hz' : (if y.length ≤ sizeLine then some (D.str y) else none) = some z := hz
      rw [if_neg hl] at hz'; cases hz'
  | int i =>
    by_cases hl : i.natAbs.log2 < 1920
    · have hz' : (if i.natAbs.log2 < 1920 then some (D.str (toString i)) else none) = some z := hz
      rw [if_pos hl] at hz'; cases hz'
      exact .inr ⟨i, rfl, hl, k2 _ B1 H1 e1 r1 (.str _)⟩
    · have hz' : (if i.natAbs.log2 < 1920 then some (D.str (toString i)) else none) = some z := hz
      rw [if_neg hl] at hz'; cases hz'
  | non => cases hz
  | bl _ => cases hz
  | tup _ _ _ => cases hz
  | lst _ _ _ => cases hz
  | xc0 _ => cases hz
  | xc1 _ _ _ => cases hz
structure CJ (X : Cx) (so : So) (W : WX) (es : List Expr) (ts : List TE) (f : Str → M Str) : Prop where
  pj : PJ X es ts
  de : ∀ (β : Bs) (B H : Hp) (σ : L2.St) (s : FS) (acc : Str) (Q : Str → Hp → Prop), R X.K so β B H σ s → (f acc s).post (fun o s' => ∀ B' H', Ex B B' → R X.K so β B' H' σ s' → Q o H') (KX X.K so β B W) → tJs ts acc σ H Q
def dJ (f : M D) (g : Str → M Str) : Str → M Str := fun acc => do
  let d ← f
  let y ← lift (isS d)
  if (acc ++ y).length ≤ sizeLine then g (acc ++ y) else stk
theorem cj_nil : CJ X so W [] [] ret := ⟨.nil, fun β B H σ s acc Q r k => k B H (Ex.refl B) r⟩
theorem cj_cons {g : Str → M Str} (h : CE X so W e te fe) (k : CJ X so W es ts g) : CJ X so W (e :: es) (te :: ts) (dJ fe g) := by
  refine ⟨.cons h.pe k.pj, fun β B H σ s acc Q r q => ?_⟩
  refine h.de β B H σ s _ r ((post_bnd q).imp (fun d s1 k1 v B1 H1 e1 r1 p1 => ?_) fun _ _ q => q)
  obtain ⟨y, hy, k2⟩ := lift_post (post_bnd k1)
  cases p1 with
  | str x =>
    cases hy
    by_cases hl : (acc ++ y).length ≤ sizeLine
    · refine ⟨y, rfl, hl, ?_⟩
      have k3 : (g (acc ++ y) s1).post (fun o s' => ∀ B' H', Ex B B' → R X.K so β B' H' σ s' → Q o H') (KX X.K so β B W) := by
        have k2' : ((if (acc ++ y).length ≤ sizeLine then g (acc ++ y) else stk) s1).post (fun o s' => ∀ B' H', Ex B B' → R X.K so β B' H' σ s' → Q o H') (KX X.K so β B W) := k2
        rw [if_pos hl] at k2'; exact k2'
      exact k.de β B1 H1 σ s1 _ Q r1 (k3.imp (fun o s2 z B2 H2 e2 r2 => z B2 H2 (e1.trans e2) r2) fun _ _ z => z.up e1)
    · have k2' : ((if (acc ++ y).length ≤ sizeLine then g (acc ++ y) else stk) s1).post (fun o s' => ∀ B' H', Ex B B' → R X.K so β B' H' σ s' → Q o H') (KX X.K so β B W) := k2
      rw [if_neg hl] at k2'; exact k2'.elim
  | _ => cases hy
def dJoined (g : Str → M Str) : M D := do
  let y ← g Str.empty
  ret (.str y)
theorem ce_joined {g : Str → M Str} (h : CJ X so W (v1 :: v2 :: rest) ts g) : CE X so W (.JoinedStr (v1 :: v2 :: rest) pos) (fun σ H Q => tJs ts Str.empty σ H fun out H1 => Q (.str out) H1) (dJoined g) :=
  ⟨pe_joined h.pj, fun β B H σ s Q r k => h.de β B H σ s _ _ r ((post_bnd k).imp (fun o s1 k1 B1 H1 e1 r1 => k1 _ B1 H1 e1 r1 (.str o)) fun _ _ q => q)⟩
theorem ce_joined1 (h : CE X so W e te fe) : CE X so W (.JoinedStr [e] pos) te fe := ⟨pe_joined1 h.pe, h.de⟩

/-! ### a text, zip, enumerate are walked -/
def chD (x : Str) : List D := x.cps.toList.map fun c => D.str ⟨#[c]⟩
theorem walk_str {x : Str} (h : x.length ≤ sizeLine) : Walk K B (Its x) (chD x) := by
  have hl : (chD x).length = x.cps.size := by simp [chD]
  refine ⟨by rw [hl]; exact h, fun i H e l => by rw [hl] at l; exact l, fun i H v H' e l y => ?_, fun i H e l => by rw [hl] at l; exact l⟩
  obtain ⟨e1, c, hc, rfl⟩ := y
  subst e1
  exact ⟨.str ⟨#[c]⟩, by simp [chD, Array.getElem?_toList, hc], fun B1 e1 e2 => ⟨B1, Gr.refl e2, .str _⟩⟩
def dItS (f : M D) : M (List D) := do
  let d ← f
  let x ← lift (isS d)
  if x.length ≤ sizeLine then ret (chD x) else stk
theorem ci_str {tg : Expr} (h : CE X so W e te fe) : CI X so W tg e (iStr te) (dItS fe) := by
  refine ⟨pi_str h.pe, fun β B H σ s Q r k => ?_⟩
  refine h.de β B H σ s _ r ((post_bnd k).imp (fun d s1 k1 v B1 H1 e1 r1 p1 => ?_) fun _ _ q => q)
  obtain ⟨x, hx, k2⟩ := lift_post (post_bnd k1)
  cases p1 with
  | str y =>
    cases hx
    by_cases hl : x.length ≤ sizeLine
    · have k2' : ((if x.length ≤ sizeLine then ret (chD x) else stk) s1).post (KW X.K so β σ B Q) (KX X.K so β B W) := k2
      rw [if_pos hl] at k2'
      exact ⟨x, rfl, k2' _ B1 H1 e1 r1 (walk_str hl)⟩
    · have k2' : ((if x.length ≤ sizeLine then ret (chD x) else stk) s1).post (KW X.K so β σ B Q) (KX X.K so β B W) := k2
      rw [if_neg hl] at k2'; exact k2'.elim
  | _ => cases hx
def zipD (a b : List D) : List D := List.zipWith (fun x y => D.tup [x, y]) a b
theorem two_len {v w : V} : ([v, w] : List V).length ≤ sizeLine := by rw [sizeLine_eq]; simp
theorem walk_zipT {a b : Addr} {xs ys : List V} {ds es : List D} (h : SqT K B a xs) (hl : xs.length ≤ sizeLine) (p : Reps K B xs ds) (h' : SqT K B b ys) (p' : Reps K B ys es) : Walk K B (RZ.ItzT K a b) (zipD ds es) := by
  have l1 := p.len
  have l2 := p'.len
  have hz : (zipD ds es).length = min ds.length es.length := by simp [zipD]
  refine ⟨by rw [hz]; omega, fun i H e l => ?_, fun i H x H' e l y => ?_, fun i H e l => ⟨xs, ys, e.sqt h, e.sqt h', by rw [hz] at l; omega⟩⟩
  · rw [hz] at l
    exact ⟨xs, ys, xs[i]'(by omega), ys[i]'(by omega), e.sqt h, e.sqt h', by simp [show i < xs.length by omega], by simp [show i < ys.length by omega]⟩
  · obtain ⟨T, v, w, rfl, hT, rfl, y1, y2⟩ := y
    obtain ⟨d1, g1, q1⟩ := p.getV (y1 xs (e.sqt h))
    obtain ⟨d2, g2, q2⟩ := p'.getV (y2 ys (e.sqt h'))
    refine ⟨.tup [d1, d2], by simp [zipD, List.getElem?_zipWith, g1, g2], fun B1 e1 e2 => ?_⟩
    obtain ⟨g, r⟩ := rep_tup_new (K := K) (p := T) e2 hT (.cons (q1.up e1) (.cons (q2.up e1) .nil)) two_len
    exact ⟨_, g, r⟩
theorem walk_zipL {a b : Addr} {xs ys : List V} {ds es : List D} (h : B a = some (.lst xs)) (hl : xs.length ≤ sizeLine) (p : Reps K B xs ds) (h' : B b = some (.lst ys)) (p' : Reps K B ys es) : Walk K B (Itz K a b) (zipD ds es) := by
  have l1 := p.len
  have l2 := p'.len
  have hz : (zipD ds es).length = min ds.length es.length := by simp [zipD]
  refine ⟨by rw [hz]; omega, fun i H e l => ?_, fun i H x H' e l y => ?_, fun i H e l => ⟨xs, ys, SqL.of (e _ _ h), SqL.of (e _ _ h'), by rw [hz] at l; omega⟩⟩
  · rw [hz] at l
    exact ⟨xs, ys, xs[i]'(by omega), ys[i]'(by omega), SqL.of (e _ _ h), SqL.of (e _ _ h'), by simp [show i < xs.length by omega], by simp [show i < ys.length by omega]⟩
  · obtain ⟨T, v, w, rfl, hT, rfl, y1, y2⟩ := y
    obtain ⟨d1, g1, q1⟩ := p.getV (y1 xs (SqL.of (e _ _ h)))
    obtain ⟨d2, g2, q2⟩ := p'.getV (y2 ys (SqL.of (e _ _ h')))
    refine ⟨.tup [d1, d2], by simp [zipD, List.getElem?_zipWith, g1, g2], fun B1 e1 e2 => ?_⟩
    obtain ⟨g, r⟩ := rep_tup_new (K := K) (p := T) e2 hT (.cons (q1.up e1) (.cons (q2.up e1) .nil)) two_len
    exact ⟨_, g, r⟩
def zipO : List D → Option (List D)
  | [.tup a, .tup b] => some (zipD a b)
  | [.lst a, .lst b] => some (zipD a b)
  | _ => none
def dZip (f : M (List D)) : M (List D) := do
  let l ← f
  lift (zipO l)
theorem ci_zip {a b : Expr} {ta : TA} {fa : M (List D)} {p pos tpos : Pos} {elts : List Expr} {kk : Nat} (hg : Gl X "zip") (hm : X.mg "zip" = none) (ha : CA X so W [a, b] ta fa)
    (hs : starEach [a, b] X.env = (false, eval a X.env) :: starEach [b] X.env := by rfl) (hpl : (backTo pos (starEach [b] X.env)).any (·.1) = false := by rfl) : CI X so W (.Tuple elts kk tpos) (.Call (.Name "zip" p) [a, b] [] pos) (RZ.iZipA X.K ta) (dZip fa) := by
  refine ⟨RZ.pi_zipA hg hm ha.pa hs hpl, fun β B H σ s Q r k => ?_⟩
  refine ha.de β B H σ s _ r ((post_bnd k).imp (fun l s1 k1 vs B1 H1 e1 r1 p1 => ?_) fun _ _ q => q)
  obtain ⟨z, hz, k2⟩ := lift_post k1
  unfold zipO at hz
  split at hz
  · cases hz
    obtain ⟨v, w, rfl, q1, q2⟩ := reps2 p1
    obtain ⟨a1, xs, rfl, h1, h2, h3⟩ := q1.inTup
    obtain ⟨a2, ys, rfl, g1, g2, g3⟩ := q2.inTup
    exact ⟨a1, a2, xs, ys, rfl, .inr ⟨r1.ext.sqt h1, r1.ext.sqt g1, k2 _ B1 H1 e1 r1 (walk_zipT h1 h2 h3 g1 g3)⟩⟩
  · cases hz
    obtain ⟨v, w, rfl, q1, q2⟩ := reps2 p1
    obtain ⟨a1, xs, rfl, h1, h2, h3⟩ := q1.inLst
    obtain ⟨a2, ys, rfl, g1, g2, g3⟩ := q2.inLst
    exact ⟨a1, a2, xs, ys, rfl, .inl ⟨SqL.of (r1.ext _ _ h1), SqL.of (r1.ext _ _ g1), k2 _ B1 H1 e1 r1 (walk_zipL h1 h2 h3 g1 g3)⟩⟩
  · cases hz
def enuD (l : List D) : List D := l.zipIdx.map fun p => D.tup [.int (p.2 : Nat), p.1]
theorem walk_enum {a : Addr} {xs : List V} {ds : List D} (h : B a = some (.lst xs)) (hl : xs.length ≤ sizeLine) (p : Reps K B xs ds) : Walk K B (Ite K a) (enuD ds) := by
  have l1 := p.len
  have hz : (enuD ds).length = ds.length := by simp [enuD]
  refine ⟨by rw [hz]; omega, fun i H e l => ?_, fun i H x H' e l y => ?_, fun i H e l => ⟨xs, SqL.of (e _ _ h), by rw [hz] at l; omega⟩⟩
  · rw [hz] at l
    exact ⟨xs, xs[i]'(by omega), SqL.of (e _ _ h), by simp [show i < xs.length by omega]⟩
  · obtain ⟨T, v, rfl, hT, rfl, y1⟩ := y
    obtain ⟨d1, g1, q1⟩ := p.getV (y1 xs (SqL.of (e _ _ h)))
    refine ⟨.tup [.int (i : Nat), d1], by simp [enuD, g1], fun B1 e1 e2 => ?_⟩
    obtain ⟨g, r⟩ := rep_tup_new (K := K) (p := T) e2 hT (.cons (.int _) (.cons (q1.up e1) .nil)) two_len
    exact ⟨_, g, r⟩
def enuO : List D → Option (List D)
  | [.lst a] => some (enuD a)
  | _ => none
def dEnum (f : M (List D)) : M (List D) := do
  let l ← f
  lift (enuO l)
theorem ci_enum {a : Expr} {ta : TA} {fa : M (List D)} {p pos tpos : Pos} {elts : List Expr} {kk : Nat} (hg : Gl X "enumerate") (hm : X.mg "enumerate" = none) (ha : CA X so W [a] ta fa)
    (hs : starEach [a] X.env = [(false, eval a X.env)] := by rfl) : CI X so W (.Tuple elts kk tpos) (.Call (.Name "enumerate" p) [a] [] pos) (iEnum X.K ta) (dEnum fa) := by
  refine ⟨pi_enum hg hm ha.pa hs, fun β B H σ s Q r k => ?_⟩
  refine ha.de β B H σ s _ r ((post_bnd k).imp (fun l s1 k1 vs B1 H1 e1 r1 p1 => ?_) fun _ _ q => q)
  obtain ⟨z, hz, k2⟩ := lift_post k1
  unfold enuO at hz
  split at hz
  · cases hz
    obtain ⟨v, rfl, q1⟩ := reps1 p1
    obtain ⟨a1, xs, rfl, h1, h2, h3⟩ := q1.inLst
    exact ⟨a1, xs, rfl, SqL.of (r1.ext _ _ h1), k2 _ B1 H1 e1 r1 (walk_enum h1 h2 h3)⟩
  · cases hz
/-- a new list as the sum of two -/
theorem cn_add {a b : Expr} {ta tb : TE} {fa fb : M D} {pos : Pos} (ha : CE X so W a ta fa) (hb : CE X so W b tb fb) : CN X so W (.BinOp a .Add b pos) (tOp rCat ta tb) (do
    let x ← fa
    let y ← fb
    lift (addL x y)) := by
  refine ⟨pe_op op_cat ha.pe hb.pe, fun β B H σ s Q r k => ?_⟩
  refine ha.de β B H σ s _ r ((post_bnd k).imp (fun d s1 k1 v B1 H1 e1 r1 p1 => ?_) fun _ _ q => q)
  refine hb.de β B1 H1 σ s1 _ r1 ((post_bnd k1).imp (fun d2 s2 k2 v2 B2 H2 e2 r2 p2 => ?_) fun _ _ q => q.up e1)
  obtain ⟨z, hz, k3⟩ := lift_post k2
  unfold addL at hz
  split at hz
  · rename_i a' b'
    by_cases h : a'.length + b'.length ≤ sizeLine
    · rw [if_pos h] at hz
      cases hz
      obtain ⟨c1, xs, rfl, h1, h2, h3⟩ := p1.inLst
      obtain ⟨c2, ys, rfl, g1, g2, g3⟩ := p2.inLst
      have q1 := h3.len
      have q2 := g3.len
      exact ⟨c1, c2, xs, ys, rfl, rfl, (e2.trans r2.ext) _ _ h1, r2.ext _ _ g1, by omega, KL.give k3 (e1.trans e2) r2 ((h3.up e2).app g3) (by rw [List.length_append]; omega)⟩
    · rw [if_neg h] at hz; cases hz
  · cases hz
end
end DL
end S_DL9
section S_DL10
set_option Elab.async false
set_option linter.all false
set_option autoImplicit false
set_option maxRecDepth 100000
set_option maxHeartbeats 4000000
/-! DL10: own dicts of ints and texts. -/
namespace DL
open PySem PySem.Spec PyProof.Rows L2
def keyD : D → Option Key
  | .int i => some (.inl i)
  | .str x => some (.inr x)
  | _ => none
def putD (l : List (Key × D)) (k : Key) (d : D) : List (Key × D) := if (l.any fun kv => decide (kv.1 = k)) = true then l.map (fun kv => if kv.1 = k then (kv.1, d) else kv) else l ++ [(k, d)]
def dKey : Key → D
  | .inl i => .int i
  | .inr x => .str x
section
variable {X : Cx} {so : So} {W : WX} {K : PySem.W.Frag} {β : Bs} {B H : Hp} {σ σ' : L2.St} {s : FS} {i j : Nat}
theorem keyD_rep {v : V} {d : D} {k : Key} (h : Rep K B v d) (e : keyD d = some k) : v = kV k := by
  cases h with
  | int i => cases e; rfl
  | str i => cases e; rfl
  | _ => cases e
theorem rep_key (k : Key) : Rep K B (kV k) (dKey k) := by
  cases k with
  | inl i => exact .int i
  | inr x => exact .str x
theorem Dk.any (k : Key) : ∀ {vs : List (Key × V)} {ds : List (Key × D)}, Dk K B vs ds → (vs.any fun kv => decide (kv.1 = k)) = (ds.any fun kv => decide (kv.1 = k))
  | [], [], _ => rfl
  | (_, _) :: _, (_, _) :: _, ⟨h1, h2, h3⟩ => by subst h1; simp only [List.any_cons]; rw [Dk.any k h3]
  | [], _ :: _, h => h.elim
  | _ :: _, [], h => h.elim
theorem Dk.map (k : Key) {v : V} {d : D} (p : Rep K B v d) : ∀ {vs : List (Key × V)} {ds : List (Key × D)}, Dk K B vs ds → Dk K B (vs.map fun kv => if kv.1 = k then (kv.1, v) else kv) (ds.map fun kv => if kv.1 = k then (kv.1, d) else kv)
  | [], [], _ => trivial
  | (a, _) :: _, (_, _) :: _, ⟨h1, h2, h3⟩ => by
    subst h1
    have t := Dk.map k p h3
    by_cases e : a = k
    · simp only [List.map_cons, if_pos e]; exact ⟨rfl, p, t⟩
    · simp only [List.map_cons, if_neg e]; exact ⟨rfl, h2, t⟩
  | [], _ :: _, h => h.elim
  | _ :: _, [], h => h.elim
theorem Dk.app (k : Key) {v : V} {d : D} (p : Rep K B v d) : ∀ {vs : List (Key × V)} {ds : List (Key × D)}, Dk K B vs ds → Dk K B (vs ++ [(k, v)]) (ds ++ [(k, d)])
  | [], [], _ => ⟨rfl, p, trivial⟩
  | (_, _) :: _, (_, _) :: _, ⟨h1, h2, h3⟩ => ⟨h1, h2, Dk.app k p h3⟩
  | [], _ :: _, h => h.elim
  | _ :: _, [], h => h.elim
theorem Dk.put (k : Key) {v : V} {d : D} (p : Rep K B v d) {vs : List (Key × V)} {ds : List (Key × D)} (h : Dk K B vs ds) : Dk K B (putK vs k v) (putD ds k d) := by
  unfold putK putD
  rw [h.any k]
  split
  · exact h.map k p
  · exact h.app k p
theorem Dk.len : ∀ {vs : List (Key × V)} {ds : List (Key × D)}, Dk K B vs ds → vs.length = ds.length
  | [], [], _ => rfl
  | (_, _) :: _, (_, _) :: _, ⟨h1, h2, h3⟩ => congrArg Nat.succ (Dk.len h3)
  | [], _ :: _, h => h.elim
  | _ :: _, [], h => h.elim
theorem Dk.keys : ∀ {vs : List (Key × V)} {ds : List (Key × D)}, Dk K B vs ds → Reps K B (vs.map fun kv => kV kv.1) (ds.map fun kv => dKey kv.1)
  | [], [], _ => .nil
  | (_, _) :: _, (_, _) :: _, ⟨h1, h2, h3⟩ => by subst h1; exact .cons (rep_key _) (Dk.keys h3)
  | [], _ :: _, h => h.elim
  | _ :: _, [], h => h.elim
theorem putK_len' (c : List (Key × V)) (k : Key) (x : V) : (putK c k x).length ≤ c.length + 1 := by
  unfold putK
  split
  · rw [List.length_map]; omega
  · rw [List.length_append]; simp
/-! ### {k: v for t in iter if c} -/
def dcD (fg : TgF) (ft : M Bool) (fk fv : M D) (vs : List Nat) : List D → List (Key × D) → M (List (Key × D))
  | [], acc => ret acc
  | d :: ds, acc => do
    tgo fg d
    let b ← ft
    if b then
      let k ← fk
      let y ← fv
      let k ← lift (keyD k)
      wipeM vs
      if acc.length < sizeLine then dcD fg ft fk fv vs ds (putD acc k y) else stk
    else
      wipeM vs
      dcD fg ft fk fv vs ds acc
def dDc (fi : M (List D)) (fg : TgF) (ft : M Bool) (fk fv : M D) (vs : List Nat) : M Sl := do
  let ds ← fi
  wipeM vs
  let l ← dcD fg ft fk fv vs ds []
  wipeM vs
  ret (.od l)
theorem dv_dc {is : List Nat} {wi : TI} {g : TG} {tt : TT} {tk tv : TE} {fi : M (List D)} {fg : TgF} {ft : M Bool} {fk fv : M D} {vs : List Nat} (hi : DI K so W wi fi) (hg : DG K so is g fg) (ht : DT K so W tt ft) (hk : DE K so W tk fk) (he : DE K so W tv fv) (hv : ∀ i ∈ is, i ∈ vs) :
    DV K so W (tDc wi g tt tk tv vs) (dDc fi fg ft fk fv vs) := by
  intro β B H σ s Q r h
  refine hi β B H σ s _ r ((post_bnd h).imp (fun ds s1 k J B1 H1 e1 r1 w => ?_) fun _ _ q => q)
  intro D0 hD0
  have h0 := r1.h0New hD0
  have ho := r1.offNew hD0
  have hB1 : B1 D0 = none := r1.ext.noneOf hD0
  have hb0 : β.B0 D0 = none := r1.b0.noneOf hB1
  have k1 := post_bnd k
  have k2 : (dcD fg ft fk fv vs ds [] { s1 with ρ := wipeR s1.ρ vs }).post (fun l s'' => KV K so β σ B Q (.od l) { s'' with ρ := wipeR s''.ρ vs }) (KX K so β B W) := by
    have q := post_bnd (show ((dcD fg ft fk fv vs ds [] >>= fun l => wipeM vs >>= fun _ => ret (Sl.od l)) { s1 with ρ := wipeR s1.ρ vs }).post _ _ from k1)
    exact q.imp (fun l s2 z => z) fun _ _ z => z
  have g0 := Gr.own (so := none) (o := .dK []) r1.ext hD0
  refine ⟨fun i m H' => m = ds.length - i ∧ i ≤ ds.length ∧ ∃ B' s' vs' acc, Ex B1 B' ∧ R K so β B' H' (wipe σ vs) s' ∧ H' D0 = some (.dK vs') ∧ B' D0 = none ∧ NoOwn (wipe σ vs) s' D0 ∧ Dk K B' vs' acc ∧ acc.length ≤ sizeLine ∧
    (dcD fg ft fk fv vs (ds.drop i) acc s').post (fun l s'' => KV K so β σ B Q (.od l) { s'' with ρ := wipeR s''.ρ vs }) (KX K so β B W), ⟨ds.length, by simp, Nat.zero_le _, B1, _, [], [], Ex.refl B1, (r1.gr g0).wipes vs, upd_same, hB1, NoOwn.re (r1.noOwn hD0) fun i hi => by rw [wipe_get, if_neg hi], trivial, by rw [sizeLine_eq]; simp, by simpa using k2⟩, ?_⟩
  rintro i m H2 ⟨rfl, hi', B2, s2, vs2, acc, e2, r2, hD2, hB2, hn2, p2, ha2, k3⟩
  have hsz := w.sz
  have hva : vs2.length = acc.length := p2.len
  by_cases hlt : i < ds.length
  · refine .inr ⟨w.go i H2 (e2.trans r2.ext) hlt, fun H' => i + 1 ≤ ds.length ∧ ∃ B' s' vs' acc, Ex B1 B' ∧ R K so β B' H' (wipe σ vs) s' ∧ H' D0 = some (.dK vs') ∧ B' D0 = none ∧ NoOwn (wipe σ vs) s' D0 ∧ Dk K B' vs' acc ∧ acc.length ≤ sizeLine ∧
      (dcD fg ft fk fv vs (ds.drop (i + 1)) acc s').post (fun l s'' => KV K so β σ B Q (.od l) { s'' with ρ := wipeR s''.ρ vs }) (KX K so β B W), fun H' q => ⟨ds.length - (i + 1), by omega, rfl, q⟩, fun x H3 y => ?_⟩
    obtain ⟨d, hd, hw⟩ := w.yld i H2 x H3 (e2.trans r2.ext) hlt y
    obtain ⟨B3, g3, p3⟩ := hw B2 e2 r2.ext
    have r3 := r2.gr g3
    have e3 : Ex B1 B3 := e2.trans g3.b
    have hdr : ds.drop i = d :: ds.drop (i + 1) := by
      rw [List.drop_eq_getElem_cons hlt]
      have := (List.getElem?_eq_some_iff.mp hd).2
      rw [this]
    rw [hdr] at k3
    obtain ⟨s4, e4, k4⟩ := tgo_post (post_bnd k3)
    have hD3 := g3.hx _ _ hD2
    have hB3 : B3 D0 = none := g3.n D0 _ hD2 trivial hB2
    have rg := r3.guard hD3 hB3 hn2 h0
    refine hg ⟨β.B0, upd β.H0 D0 (.dK vs2)⟩ B3 H3 (wipe σ vs) s2 s4 x d _ rg p3 e4 fun σ4 r4 w4 => ?_
    have hw4 : wipe σ4 vs = wipe σ vs := by rw [w4 vs hv, wipe_wipe]
    refine ⟨hw4, ?_⟩
    have hl4 : (wipe σ vs).length = σ4.length := by rw [← hw4, wipe_length]
    have hs4 : ∀ i, i ∉ vs → (wipe σ vs)[i]? = σ4[i]? := fun i hi => by rw [← hw4, wipe_get, if_neg hi]
    refine ht _ B3 H3 σ4 s4 _ r4 ((post_bnd k4).imp (fun b s5 k5 B5 H5 e5 r5 => ?_) fun _ _ q => (q.up (e1.trans e3)).unguard h0 hb0 ho)
    cases b with
    | false =>
      obtain ⟨r6, q1, q2, q3⟩ := r5.unguard h0 hb0 ho
      have k6 := post_bnd (show ((wipeM vs >>= fun _ => dcD fg ft fk fv vs (ds.drop (i + 1)) acc) s5).post _ _ from k5)
      exact ⟨hlt, B5, _, vs2, acc, e3.trans e5, r6.re hl4 hs4, q1, q2, q3.re hs4, p2.up (g3.b.trans e5), by omega, k6⟩
    | true =>
      refine hk _ B5 H5 σ4 s5 _ r5 (Res.post.imp (post_bnd (show ((fk >>= fun k => fv >>= fun y => lift (keyD k) >>= fun k => wipeM vs >>= fun _ => if acc.length < sizeLine then dcD fg ft fk fv vs (ds.drop (i + 1)) (putD acc k y) else stk) s5).post _ _ from k5)) (fun kd s6 k6 v6 B6 H6 e6 r6 p6 => ?_) fun _ _ q => (q.up ((e1.trans e3).trans e5)).unguard h0 hb0 ho)
      refine he _ B6 H6 σ4 s6 _ r6 (Res.post.imp (post_bnd k6) (fun yd s7 k7 v7 B7 H7 e7 r7 p7 => ?_) fun _ _ q => (q.up (((e1.trans e3).trans e5).trans e6)).unguard h0 hb0 ho)
      obtain ⟨r8, q1, q2, q3⟩ := r7.unguard h0 hb0 ho
      obtain ⟨kk, hkk, k8⟩ := lift_post (post_bnd k7)
      have k9 := post_bnd (show ((wipeM vs >>= fun _ => if acc.length < sizeLine then dcD fg ft fk fv vs (ds.drop (i + 1)) (putD acc kk yd) else stk) s7).post _ _ from k8)
      by_cases hl : acc.length < sizeLine
      · have k10 : (dcD fg ft fk fv vs (ds.drop (i + 1)) (putD acc kk yd) { s7 with ρ := wipeR s7.ρ vs }).post (fun l s'' => KV K so β σ B Q (.od l) { s'' with ρ := wipeR s''.ρ vs }) (KX K so β B W) := by
          have k9' : ((if acc.length < sizeLine then dcD fg ft fk fv vs (ds.drop (i + 1)) (putD acc kk yd) else stk) { s7 with ρ := wipeR s7.ρ vs }).post (fun l s'' => KV K so β σ B Q (.od l) { s'' with ρ := wipeR s''.ρ vs }) (KX K so β B W) := k9
          rw [if_pos hl] at k9'; exact k9'
        have e9 : Ex B2 B7 := ((g3.b.trans e5).trans e6).trans e7
        have pn : Dk K B7 (putK vs2 kk v7) (putD acc kk yd) := (p2.up e9).put kk p7
        have ln : (putK vs2 kk v7).length ≤ sizeLine := Nat.le_trans (putK_len' _ _ _) (by omega)
        refine ⟨vs2, kk, keyD_rep p6 hkk, q1, by omega, hlt, B7, _, putK vs2 kk v7, putD acc kk yd, e2.trans e9, (r8.poke q1 (fun q z => by unfold LamX.CodeO at z; cases z) q2 q3 ho h0).re hl4 hs4, upd_same, q2, q3.re hs4, pn, by rw [← pn.len]; exact ln, k10⟩
      · have k9' : ((if acc.length < sizeLine then dcD fg ft fk fv vs (ds.drop (i + 1)) (putD acc kk yd) else stk) { s7 with ρ := wipeR s7.ρ vs }).post (fun l s'' => KV K so β σ B Q (.od l) { s'' with ρ := wipeR s''.ρ vs }) (KX K so β B W) := k9
        rw [if_neg hl] at k9'; exact k9'.elim
  · have e : i = ds.length := by omega
    subst e
    rw [List.drop_length] at k3
    have k4 : KV K so β σ B Q (.od acc) { s2 with ρ := wipeR s2.ρ vs } := k3
    refine .inl ⟨w.stop _ H2 (e2.trans r2.ext) (Nat.le_refl _), ?_⟩
    exact k4 (.ref D0) B2 H2 (e1.trans e2) r2.unwipe ⟨D0, vs2, rfl, hD2, hB2, NoOwn.re hn2 fun i hi => by rw [wipe_get, if_neg hi], ho, h0, p2, by omega⟩
theorem cv_dc {is : List Nat} {kx vx tg iter : Expr} {ifs : List Expr} {scope : Scope} {own : List (Str × Nat)} {pos : Pos} {wi : TI} {g : TG} {tt : TT} {tk te : TE} {fi : M (List D)} {fg : TgF} {ft : M Bool} {fk fe : M D} (hc : X.calm = true) (hN : X.N.Nodup) (hi : CI X so W tg iter wi fi) (ok : BlkOk X.N X.env.scope scope own)
    (hg : ∀ (s : Shared) (H : Hp) (C : Addr) (cl : List (Str × Addr)) (fp : List Addr), CG (X.blk s H scope (compEnvC scope cl C X.env) fp) so is tg g fg) (ht : ∀ (s : Shared) (H : Hp) (C : Addr) (cl : List (Str × Addr)) (fp : List Addr), CTs (X.blk s H scope (compEnvC scope cl C X.env) fp) so W ifs tt ft)
    (hk : ∀ (s : Shared) (H : Hp) (C : Addr) (cl : List (Str × Addr)) (fp : List Addr), CE (X.blk s H scope (compEnvC scope cl C X.env) fp) so W kx tk fk)
    (he : ∀ (s : Shared) (H : Hp) (C : Addr) (cl : List (Str × Addr)) (fp : List Addr), CE (X.blk s H scope (compEnvC scope cl C X.env) fp) so W vx te fe) (hv : ∀ i ∈ is, i ∈ own.map (·.2) := by decide) (hs : ∀ x, foldedSetIterable iter X.env x = pure x := by intro _; rfl) :
    CV X so W (.DictComp kx vx [⟨tg, iter, ifs, 0⟩] scope pos) (tDc wi g tt tk te (own.map (·.2))) (dDc fi fg ft fk fe (own.map (·.2))) :=
  ⟨pe_dc hc hN hi.pi ok (fun s H C cl fp => (hg s H C cl fp).pg) (fun s H C cl fp => (ht s H C cl fp).pts) (fun s H C cl fp => (hk s H C cl fp).pe) (fun s H C cl fp => (he s H C cl fp).pe) hs,
   dv_dc hi.de (hg X.s_0 X.H_0 0 [] []).de (ht X.s_0 X.H_0 0 [] []).de (hk X.s_0 X.H_0 0 [] []).de (he X.s_0 X.H_0 0 [] []).de hv⟩

/-! ### an own dict -/
def peekD (i : Nat) : M (List (Key × D)) := fun s => match s.ρ[i]? with
  | some (.od l) => .ok l s
  | _ => .stuck
structure OwnD (K : PySem.W.Frag) (so : So) (β : Bs) (B H : Hp) (σ : L2.St) (i : Nat) (a : Addr) (vs : List (Key × V)) (l : List (Key × D)) : Prop where
  at' : σ[i]? = some (some (V.ref a))
  h : H a = some (.dK vs)
  b : B a = none
  off : OffSo so a
  h0 : β.H0 a = none
  rep : Dk K B vs l
  sz : vs.length ≤ sizeLine
theorem peekD_post {i : Nat} {P : List (Key × D) → FS → Prop} {E : D → FS → Prop} (r : R K so β B H σ s) (h : (peekD i s).post P E) : ∃ l a vs, s.ρ[i]? = some (.od l) ∧ OwnD K so β B H σ i a vs l ∧ P l s := by
  unfold peekD at h
  cases e : s.ρ[i]? with
  | none => rw [e] at h; exact h.elim
  | some x =>
    rw [e] at h
    cases x with
    | od l =>
      obtain ⟨v, h1, a, vs, rfl, q1, q2, ⟨q3, q4⟩, q5, q6⟩ := r.sl i _ e
      exact ⟨l, a, vs, rfl, ⟨h1, q1, q2, q3, q4, q5, q6⟩, h⟩
    | un => exact h.elim
    | fz d => exact h.elim
    | ow l => exact h.elim
    | st => exact h.elim
theorem OwnD.chg {a : Addr} {vs vs' : List (Key × V)} {l l' : List (Key × D)} (r : R K so β B H σ s) (e : s.ρ[i]? = some (.od l)) (o : OwnD K so β B H σ i a vs l) (p : Dk K B vs' l') (hl : vs'.length ≤ sizeLine) :
    R K so β B (upd H a (.dK vs')) σ { s with ρ := s.ρ.set i (.od l') } := r.chg e rfl o.at' rfl ⟨a, vs', rfl, upd_same, o.b, ⟨o.off, o.h0⟩, p, hl⟩
variable {x : Str} {e f : Expr} {te tf : TE} {fe ff : M D} {pos p2 px : Pos}
/-- own[k] = v -/
def fDPut (i : Nat) (fk fv : M D) : M Fl := do
  let v ← fv
  let _ ← peekD i
  let k ← fk
  let l ← peekD i
  let k ← lift (keyD k)
  if l.length < sizeLine then fun s => .ok .nx { s with ρ := s.ρ.set i (.od (putD l k v)) } else stk
theorem cs_dput (hu : X.A.units + 64 < cLine) (hk : CE X so W e te fe) (hv : CE X so W f tf ff) (hN : X.N[i]? = some x := by rfl)
    (hvx : Vis X.env.scope x := by first | exact Or.inl rfl | exact Or.inr (Or.inl rfl) | exact Or.inr (Or.inr rfl)) (hd : (x == ("__debug__" : Str)) = false := by decide) (hcd : (x == ("__classdict__" : Str)) = false := by decide)
    (hs : swapsWith f (some (.Subscript (.Name x px) e p2)) pos.line X.env = pure false := by rfl) : CS X so W (.Assign [.Subscript (.Name x px) e p2] f pos) (sDPut (tVar i) te tf) (fDPut i fe ff) := by
  refine ⟨ps_dput (by omega) (pe_var hN hvx hd hcd) hk.pe hv.pe hs, fun β B H σ s Z r h => ?_⟩
  refine hv.de β B H σ s _ r ((post_bnd h).imp (fun d s1 k1 v B1 H1 e1 r1 p1 => ?_) fun _ _ q => q)
  obtain ⟨l0, a0, vs0, _, o0, h1⟩ := peekD_post r1 (post_bnd k1)
  refine ⟨_, o0.at', ?_⟩
  refine hk.de β B1 H1 σ s1 _ r1 ((post_bnd h1).imp (fun d2 s2 k2 w B2 H2 e2 r2 p2 => ?_) fun _ _ q => q.up e1)
  obtain ⟨l, a, vs, es, o, k3⟩ := peekD_post r2 (post_bnd k2)
  have ea : a0 = a := by have q := o0.at'.symm.trans o.at'; injection q with q; injection q with q; injection q with q
  subst ea
  obtain ⟨kk, hkk, k4⟩ := lift_post (post_bnd k3)
  by_cases hl : l.length < sizeLine
  · have k5 : (Res.ok Fl.nx { s2 with ρ := s2.ρ.set i (.od (putD l kk d)) }).post (KS X.K so β B Z) (KX X.K so β B W) := by
      have k4' : ((if l.length < sizeLine then fun s => Res.ok Fl.nx { s with ρ := s.ρ.set i (.od (putD l kk d)) } else stk) s2).post (KS X.K so β B Z) (KX X.K so β B W) := k4
      rw [if_pos hl] at k4'; exact k4'
    have hv : vs.length < sizeLine := by rw [o.rep.len]; exact hl
    have pn := o.rep.put kk (p1.up e2)
    refine ⟨a0, _, rfl, .inl ⟨vs, kk, o.h, keyD_rep p2 hkk, hv, rfl⟩, ?_⟩
    exact k5 σ B2 _ (e1.trans e2) (o.chg r2 es pn (Nat.le_trans (putK_len' _ _ _) (by omega)))
  · have k4' : ((if l.length < sizeLine then fun s => Res.ok Fl.nx { s with ρ := s.ρ.set i (.od (putD l kk d)) } else stk) s2).post (KS X.K so β B Z) (KX X.K so β B W) := k4
    rw [if_neg hl] at k4'; exact k4'.elim
/-- list(own) -/
def dKeysL (i : Nat) : M (List D) := do
  let l ← peekD i
  ret (l.map fun kv => dKey kv.1)
theorem cn_keys {p pos : Pos} (hc : X.calm = true) (hg : Gl X "list") (hm : X.mg "list" = none) (hv0 : bootBuiltins "list" = some (.type "list")) (hN : X.N[i]? = some x := by rfl)
    (hv : Vis X.env.scope x := by first | exact Or.inl rfl | exact Or.inr (Or.inl rfl) | exact Or.inr (Or.inr rfl)) (hd : (x == ("__debug__" : Str)) = false := by decide) (hcd : (x == ("__classdict__" : Str)) = false := by decide)
    (he : starEach [.Name x px] X.env = (false, eval (.Name x px) X.env) :: starEach [] X.env := by rfl) (hpl : (backTo pos (starEach [] X.env)).any (·.1) = false := by rfl) : CN X so W (.Call (.Name "list" p) [.Name x px] [] pos) (tCB rListD (tCons (tVar i) tNil)) (dKeysL i) := by
  refine ⟨pe_callTy (call_list_dK hc) hg hm hv0 (pa_cons (pe_var hN hv hd hcd) pa_nil he) (by decide) (by decide) he hpl, fun β B H σ s Q r h => ?_⟩
  obtain ⟨l, a, vs, es, o, k⟩ := peekD_post r (post_bnd h)
  exact ⟨_, o.at', a, vs, rfl, o.h, KL.give k (Ex.refl B) r o.rep.keys (by rw [List.length_map]; exact o.sz)⟩
end
end DL
end S_DL10
section S_DT1
set_option Elab.async false
set_option linter.all false
set_option autoImplicit false
set_option maxRecDepth 100000
set_option maxHeartbeats 4000000
/-! DT1: a try whose caught exception stays. -/
namespace DL
open PySem PySem.Spec PyProof.Rows L2
def wKeep (K : PySem.W.Frag) (c : Value) (len i : Nat) (ts : Addr → Value → Option Addr → TS) (D : Ends) : WX := fun cls d σ H =>
  PySem.W.exmOne K cls c = some true ∧ (σ.length = len → ∀ a, H a = none → ts a cls d { nx := fun σ' H' => H' a = none → D.nx (σ'.set i none) (upd H' a (exH cls d a)), rt := fun _ _ => False, bk := fun _ _ => False, ct := fun _ _ => False } (σ.set i (some (.ref a))) H)
section
variable {X : Cx} {pins : List (Addr × Obj)} {σ : L2.St} {H : Hp} {s : Shared}
theorem exH_ok {P : Program} {w : World} {H : Hp} {h : Heap} {a : Addr} {cls : Value} {d : Option Addr} {oe : Obj} {vs : Array Value} (e : h.get? a = some oe) (z : Zc cls d oe) (hd : oe.data = .fields vs) : ObjOk P w H h a (exH cls d a) :=
  ⟨⟨oe, vs, e, z, hd⟩, ⟨oe, e⟩, fun _ _ ⟨o, v, q, r⟩ k => ⟨o, v, k o q, r⟩⟩
/-- an object that nothing tracks, new since the entry, is tracked from now on -/
theorem Inv.adopt {a : Addr} {o : HO} {oe : Obj} {vs : Array Value} (I : Inv X pins σ H s) (n0 : X.s_0.heap.get? a = none) (na : H a = none) (he : s.heap.get? a = some oe) (hd : oe.data = .fields vs) (nL : a ≠ X.env.locals) (np : ∀ p ∈ X.pn ++ pins, p.1 ≠ a)
    (new : ObjOk X.prog X.w (upd H a o) s.heap a o) : Inv X pins σ (upd H a o) s := by
  have nt : ∀ {b u}, H b = some u → b ≠ a := fun {b u} q z => by rw [z, na] at q; cases q
  refine ⟨I.ok, I.os, I.bare, ⟨I.base.keep, I.base.slot, fun b u e n hx => ?_, I.base.there, fun b xs e => ?_, fun b u v e => ?_, fun b ps e => ?_⟩, I.loc, I.cell, ?_, fun x c e => ?_, fun p hp => ?_, fun b u e => ?_, I.len⟩
  · rw [upd_ne (fun z => by rw [z, n0] at e; cases e)]; exact I.base.free b u e n hx
  · have q := I.base.tups b xs e
    rw [upd_ne (nt q)]; exact q
  · have q := I.base.frzs b u v e
    rw [upd_ne (nt q)]; exact q
  · obtain ⟨m, q⟩ := I.base.tbls b ps e
    exact ⟨m, by rw [upd_ne (nt q)]; exact q⟩
  · rw [upd_ne (Ne.symm nL)]; exact I.free
  · obtain ⟨v, oc, hoc, hdc⟩ := I.cell x c e
    rw [upd_ne (fun z => by rw [z, he] at hoc; cases hoc; rw [hd] at hdc; cases hdc)]; exact I.freeC x c e
  · obtain ⟨q1, q2, q3⟩ := I.pin p hp
    exact ⟨q1, by rw [upd_ne (np p hp)]; exact q2, q3⟩
  · by_cases hb : b = a
    · subst hb; rw [upd_same] at e; cases e; exact new
    · rw [upd_ne hb] at e
      exact (I.hok b u e).stay (fun c w' hc q => q) (fun c q => by rw [upd_ne (nt q)]; exact q) fun c xs q => by rw [upd_ne (nt q)]; exact q
variable {x n : Str} {c : Value} {i : Nat} {body suite : List Stmt} {b₀ : Stmt} {np pos pos' : Pos} {tb : WX → TS} {ts : Addr → Value → Option Addr → TS}
theorem ps_try_keep (hs : X.stack = X.env :: X.outer) (hf : X.env.frame = some X.env.locals) (hex : X.ex = []) (hN : X.N.Nodup) (hi : X.N[i]? = some n) (hln : X.env.kindOf n = some .local) (hc : Names X x c)
    (hb : ∀ (W : WX) (pn : List (Addr × Obj)) (xe : Value → Shared → Prop), Takes (X.tr pn xe) W → PassesOwn (model X.prog X.w) X.A X.env xe → PSs (X.tr pn xe) body (tb W))
    (hsu : ∀ (a : Addr) (oe : Obj) (cls : Value) (d : Option Addr) (pn : List (Addr × Obj)), Zc cls d oe → (∃ vs, oe.data = .fields vs) → PSs (X.suite a ((a, oe) :: pn)) (b₀ :: suite) (ts a cls d)) :
    PS X (.Try body [.ExceptHandler (some (.Name x np)) (some n) (b₀ :: suite) pos'] [] [] pos) (fun D σ H => tb (wKeep X.K c X.N.length i ts D) D σ H) := by
  refine ⟨fun pins s σ H D I h => ?_⟩
  have ok := I.ok
  have hfr : X.A.frames = some (X.env :: X.outer) := by rw [ok.frames, hs]
  refine wpAny_Try_except (wpAny_mono ((hb (wKeep X.K c X.N.length i ts D) (X.pn ++ pins) (fun e s₁ => wpAny (model X.prog X.w) X.A (noteFrame e X.env) (fun _ s₂ => wpAny (model X.prog X.w) X.A (setFlight e none) (fun _ s₃ =>
    wpAny (model X.prog X.w) X.A (handleBy e X.env [.ExceptHandler (some (.Name x np)) (some n) (b₀ :: suite) pos']) (SP X pins D) X.xe s₃) X.xe s₂) X.xe s₁) (fun u s' xx => ?_) PassesOwn.looking).run [] s σ H D (I.toTry _) h) (fun f s1 hsp => ?_) (fun e s1 he => he))
  · obtain ⟨a, B, sI, pins', σ', H', cls, d, rfl, J', nb, up, sky, na, os, ag, hb1, hyes⟩ := xx
    have J : Inv X pins σ' H' sI := J'.ofTry ok
    have sky' : Sky B (X.env :: X.outer) a (Zc cls d) X.env.locals s'.heap := by rw [← hs]; exact sky
    have Ba : B.get? a = none := by
      rcases sky with q | q | q
      · exact q.2.1
      · exact q.2.1
      · exact q.2.1
    show wpAny (model X.prog X.w) X.A (noteFrame (.ref a) X.env) _ _ _
    refine Sky.land Zc.steady hfr hf sky' fun h3 fl3 up3 => ?_
    have J3 : Inv X pins σ' H' { s' with heap := h3 } := J.landed nb fl3.1 (up.trans up3) os ag
    obtain ⟨oe3, vs3, he3, hz3, hd3⟩ := fl3.there
    have nfr : a ∉ frs (X.env :: X.outer) := fun hm => by
      obtain ⟨_, o', e', hnf⟩ := fl3.2.2.1.mem hm
      rw [he3] at e'; cases e'
      exact hnf _ hd3
    have nL : a ≠ X.env.locals := fun z => nfr (List.mem_filterMap.mpr ⟨X.env, List.mem_cons_self, by rw [hf, z]⟩)
    have nF : a ∉ X.fs := fun hm => by
      obtain ⟨e, he, q⟩ := List.mem_filterMap.mp hm
      exact nfr (List.mem_filterMap.mpr ⟨e, List.mem_cons_of_mem _ he, q⟩)
    -- it is new
    have nI : sI.heap.get? a = none := by
      cases q : sI.heap.get? a with
      | none => rfl
      | some o =>
        have := nb a o q (by rw [hs]; exact nfr)
        rw [Ba] at this; cases this
    have n0 : X.s_0.heap.get? a = none := by
      cases q : X.s_0.heap.get? a with
      | none => rfl
      | some o =>
        obtain ⟨o', q'⟩ := J.base.there a o q (by rw [hex]; exact fun z => nomatch z)
        rw [nI] at q'; cases q'
    have nP : ∀ p ∈ X.pn ++ pins, p.1 ≠ a := fun p hp z => by
      have q := (J.pin p hp).1
      rw [z, nI] at q; cases q
    have S3 := J3.suite he3 hd3 na nL nF
    refine wpAny_handleBy_cons (codeAny_handlers_test ?_) (by intro q; cases q)
    have LT : PySem.W.Looks (model X.prog X.w) h3 (typeOf (.ref a)) cls := fun A Q E s k q => wpAny_typeOf_ref (k _ _ he3) (by rw [hz3.1]; exact q)
    have LM := PySem.W.exm_one (M := model X.prog X.w) (J3.kIn) LT hb1
    have test : ∀ {Q : Value → Shared → Prop} {E : Value → Shared → Prop}, Q c { s' with heap := h3 } → wpAny (model X.prog X.w) (X.A.mark (some (.ref a))) (eval (.Name x np) X.env) Q E { s' with heap := h3 } := fun {Q E} q => by
      obtain ⟨hg, hdbg, hm | ⟨hm, hv, hnn⟩⟩ := hc
      · exact ld_glob (X := X.suite a ((a, oe3) :: (X.pn ++ pins))) S3 hg hm q hdbg
      · exact ld_blt (X := X.suite a ((a, oe3) :: (X.pn ++ pins))) S3 hg hm hv q hnn hdbg
    refine test (LM.here ?_)
    refine codeAny_handlers_suite_as (HandSPX.lands_againZ fl3 fun h4 fl4 up4 => ?_)
    have J4 : Inv X pins σ' H' { s' with heap := h4 } := J.landed nb fl4.1 ((up.trans up3).trans up4) os ag
    obtain ⟨oe4, vs4, he4, hz4, hd4⟩ := fl4.there
    have S4 := J4.suite he4 hd4 na nL nF
    refine store_ok (X := X.suite a ((a, oe4) :: (X.pn ++ pins))) (v := .ref a) S4 hN hi (.inl hln) rfl (fun s5 S5 => ?_) (.inr hln)
    refine wpAny_mono ((hsu a oe4 cls d (X.pn ++ pins) hz4 ⟨_, hd4⟩).run [] s5 _ H' _ S5 (hyes J.len a na)) (fun f s6 hsp => ?_) (fun _ _ z => False.elim z)
    cases f with
    | next =>
      obtain ⟨σ6, H6, S6, q6⟩ := hsp
      have pa := S6.pin (a, oe4) (List.mem_append_left _ List.mem_cons_self)
      have J6 : Inv X ((a, oe4) :: pins) σ6 H6 s6 := (S6.unsuite (pins := pins) ok).pins_of fun p hp => by
        rcases List.mem_cons.mp hp with e | e
        · rw [e]; exact pa
        · exact (S6.unsuite (pins := pins) ok).pin p (List.mem_append_right _ e)
      refine gone_ok J6 hN hi hln fun s7 J7 => ?_
      have pa7 := J7.pin (a, oe4) (List.mem_append_right _ List.mem_cons_self)
      have J8 : Inv X pins (σ6.set i none) H6 s7 := J7.pins_of fun p hp => J7.pin p (List.mem_append_right _ (List.mem_cons_of_mem _ hp))
      exact ⟨_, _, Inv.adopt (o := exH cls d a) J8 n0 pa7.2.1 pa7.1 hd4 nL nP (exH_ok pa7.1 hz4 hd4), q6 pa7.2.1⟩
    | brk =>
      obtain ⟨σ6, H6, S6, q6⟩ := hsp
      exact q6.elim
    | cont =>
      obtain ⟨σ6, H6, S6, q6⟩ := hsp
      exact q6.elim
    | ret u =>
      obtain ⟨v6, σ6, H6, S6, r6, q6⟩ := hsp
      exact q6.elim
  · cases f with
    | next =>
      obtain ⟨σ', H', J', q⟩ := hsp
      exact wpAny_execs_nil ⟨σ', H', J'.ofTry ok, q⟩
    | brk => obtain ⟨σ', H', J', q⟩ := hsp; exact ⟨σ', H', J'.ofTry ok, q⟩
    | cont => obtain ⟨σ', H', J', q⟩ := hsp; exact ⟨σ', H', J'.ofTry ok, q⟩
    | ret u => obtain ⟨v, σ', H', J', r, q⟩ := hsp; exact ⟨v, σ', H', J'.ofTry ok, r, q⟩
/-! ### what such an exception is asked -/
theorem exH_at {a : Addr} {cls : Value} {d : Option Addr} (I : Inv X pins σ H s) (e : H a = some (exH cls d a)) : ∃ (oe : Obj) (vs : Array Value), s.heap.get? a = some oe ∧ Zc cls d oe ∧ oe.data = .fields vs := (I.hok a _ e).1
/-- isinstance(e, c) -/
def rIsX (K : PySem.W.Frag) : List V → Hp → VK → Prop := fun xs H Q => ∃ (a C : Addr) (d : Option Addr) (c : V) (cv : Value) (b : Bool), xs = [.ref a, c] ∧ ClsV c cv ∧ H a = some (exH (.ref C) d a) ∧ (d = none ∨ ∃ dd fs, d = some dd ∧ H dd = some (.xd fs)) ∧ ExcC K C ∧ PySem.W.kitOne K (.ref C) cv = some b ∧ Q (.bl b) H
end
end DL
end S_DT1
section S_DT2
set_option Elab.async false
set_option linter.all false
set_option autoImplicit false
set_option maxRecDepth 100000
set_option maxHeartbeats 4000000
/-! DT2: what a kept exception is asked: isinstance, a field. -/
namespace PySem.W
open PySem PySem.Spec PySem.Calls PyProof.Rows
section
variable {K : Frag} {x t c : Value} {Hh : Heap → Prop}
theorem dl_ans_true (ty : ∀ (M : Model) (h : Heap), K.In h → Hh h → Looks M h (typeOf x) t) (e : kitOne K t c = some true) : Answers (fun s => K.In s.heap ∧ Hh s.heap) x c true := by
  intro dep tk prog w A R s hs
  obtain ⟨h0, g, d, tt, os⟩ := s
  obtain ⟨⟨X, p⟩, hq⟩ := hs
  have LT := ty (model prog w) h0 X p
  unfold kitOne at e
  unfold Builtin.«isinstance.nested»
  refine wpAny_bind (LT.at ?_)
  by_cases q : (t == c) = true
  · rw [if_pos q]
    first
      | exact hq tt
      | exact wpAny_bind (wpAny_rule (hq tt))
      | exact wpAny_bind (wpAny_rule (wpAny_pure (hq tt)))
  · rw [if_neg q] at e
    rw [if_neg q]
    obtain ⟨hty, his, hsub⟩ := kit_cls (M := model prog w) X e
    refine wpAny_bind (hty.at ?_)
    rw [if_pos (by decide)]
    k_delta "plainIsInstance"
    refine wpAny_bind (wpAny_bind (his.at ?_))
    simp only [Bool.not_true, Bool.false_eq_true, if_false]
    refine wpAny_bind ((LT.andThen hsub).at ?_)
    first
      | exact wpAny_pure (wpAny_pure (hq tt))
      | (simp only [if_true]; first | exact wpAny_pure (wpAny_pure (hq tt)) | exact wpAny_pure (hq tt) | exact wpAny_bind (wpAny_pure (wpAny_pure (hq tt))))
end
end PySem.W
namespace DL
open PySem PySem.Spec PyProof.Rows L2
section
variable {X : Cx} {so : So} {W : WX} {K : PySem.W.Frag}
/-- isinstance(e, c) of a kept exception, True -/
def rIsT (K : PySem.W.Frag) : List V → Hp → VK → Prop := fun xs H Q => ∃ (a : Addr) (cls : Value) (d : Option Addr) (c : V) (cv : Value), xs = [.ref a, c] ∧ ClsV c cv ∧ H a = some (exH cls d a) ∧ PySem.W.kitOne K cls cv = some true ∧ Q (.bl true) H
theorem call_isT : CallR X (.builtin "isinstance") (rIsT X.K) := by
  intro pins s σ H xs us Q I r h
  obtain ⟨a, cls, d, c, cv, rfl, k, ha, e, q⟩ := h
  obtain ⟨u1, u2, rfl, r1, r2⟩ := vals2 r
  have e2 := k.eq r2
  subst e2
  obtain rfl : u1 = Value.ref a := r1
  obtain ⟨oe, vs, he, hz, hd⟩ := exH_at I ha
  have ty : ∀ (M : Model) (h : Heap), X.K.In h → h.get? a = some oe → PySem.W.Looks M h (typeOf (.ref a)) cls := fun M h _ p A Q E s k q => wpAny_typeOf_ref (k _ _ p) (by rw [hz.1]; exact q)
  exact call_isinstance (S := fun _ R s => (X.K.In s.heap ∧ s.heap.get? a = some oe) ∧ ∀ tk, R (.ok (.ret (.bool true))) { s with toks := tk })
    (fun prog w A R s hs => isinstance_outer (PySem.W.dl_ans_true (Hh := fun h => h.get? a = some oe) ty e 0 _ prog w A R s hs) (fun z => nomatch z)) ⟨⟨I.kIn, he⟩, fun tk => ⟨.bl true, H, I.tok _, rfl, q⟩⟩
variable {e : Expr} {te : TE} {fe : M D} {p p2 pos : Pos} {cn n k : Str}
def dIsT (ns : List Str) (f : M D) : M D := do
  let d ← f
  match d with
  | .xc n _ => if n ∈ ns then ret (.bl true) else stk
  | _ => stk
theorem ce_isT {cv : V} {cu : Value} (ns : List Str) (hk : ∀ n ∈ ns, PySem.W.kitOne X.K (.ref (He.ga X.K n)) cu = some true) (hv : ClsV cv cu) (he : CE X so W e te fe) (hc : PE X (.Name cn p2) (tC cv)) (hg : Gl X "isinstance") (hm : X.mg "isinstance" = none)
    (h1 : starEach [e, .Name cn p2] X.env = (false, eval e X.env) :: starEach [.Name cn p2] X.env := by rfl) (h2 : starEach [.Name cn p2] X.env = (false, eval (.Name cn p2) X.env) :: starEach [] X.env := by rfl) (hpl : (backTo pos (starEach [.Name cn p2] X.env)).any (·.1) = false := by rfl)
    (hb : bootBuiltins "isinstance" = some (.builtin "isinstance") := by rfl) :
    CE X so W (.Call (.Name "isinstance" p) [e, .Name cn p2] [] pos) (tCB (rIsT X.K) (tCons te (tCons (tC cv) tNil))) (dIsT ns fe) := by
  refine ⟨pe_callB call_isT hg hm hb (pa_cons he.pe (pa_cons hc pa_nil h2) h1) (by decide) (by decide) h1 hpl, fun β B H σ s Q r q => ?_⟩
  refine he.de β B H σ s _ r ((post_bnd q).imp (fun d s1 k1 v B1 H1 e1 r1 p1 => ?_) fun _ _ q => q)
  have go : ∀ {m : Str} {a : Addr} {d : Option Addr}, ((if m ∈ ns then ret (D.bl true) else stk) s1).post (KE X.K so β σ B Q) (KX X.K so β B W) → H1 a = some (exH (.ref (He.ga X.K m)) d a) → tCons (tC cv) tNil σ H1 (fun ys H2 => rIsT X.K (.ref a :: ys) H2 Q) := fun {m a d} kk ha => by
    by_cases hn : m ∈ ns
    · rw [if_pos hn] at kk
      exact ⟨a, _, d, cv, cu, rfl, hv, ha, hk m hn, kk _ B1 H1 e1 r1 (.bl true)⟩
    · rw [if_neg hn] at kk; exact kk.elim
  cases p1 with
  | xc0 h1 => exact go k1 (r1.ext _ _ h1)
  | xc1 h1 h2 h3 => exact go k1 (r1.ext _ _ h1)
  | _ => exact k1.elim
/-- e.f -/
def rdX (K : PySem.W.Frag) (C : Addr) (f : Str) (te : TE) : TE := fun σ H Q => te σ H fun x H1 => ∃ (a dd : Addr) (fs : List (Str × V)) (v : V), x = .ref a ∧ H1 a = some (exH (.ref C) (some dd) a) ∧ H1 dd = some (.xd fs) ∧ fs.lookup f = some v ∧ Q v H1
theorem pe_rdX {C : Addr} (T : XfC X.K C) (hno : PySem.W.findIn X.K (.ref C) n = some none) (he : PE X e te) (hb : attributeBase e n X.env (eval e X.env) = eval e X.env := by rfl) : PE X (.Attribute e n pos) (rdX X.K C n te) := by
  refine ⟨fun pins s σ H Q I h => ?_⟩
  refine attr_of hb (thn (he.run pins s σ H _ I h) fun u s1 hh => ?_)
  obtain ⟨x, H1, I1, rx, a, dd, fs, v, rfl, ea, ed, l, q⟩ := hh
  obtain rfl : u = Value.ref a := rx
  obtain ⟨oe, vs, ha, hz, hd⟩ := exH_at I1 ea
  obtain ⟨mA, hns, hr⟩ := (show ObjOk X.prog X.w H1 s1.heap dd (.xd fs) from I1.hok dd _ ed)
  obtain ⟨od, ho, hl⟩ := lookIn_ns hns
  obtain ⟨u, hu, ru⟩ := RelO.some_of (v := v) (o := mA n) (by rw [← l]; exact hr n)
  have J : PySem.W.InstAt s1.heap a oe C (some od) := ⟨ha, hz.1, by unfold PySem.W.notCls; rw [hd] <;> rfl, by rw [hz.2]; exact ho⟩
  exact HandSPX.exc_get I1.kIn J T.ga T.gg T.exC (PySem.W.findObj_own T.hdC hno rfl (by rw [hl, hu])) (handed_of ru) ⟨v, H1, I1.tok _, ru, q⟩
def dRdX (n f : Str) (g : M D) : M D := do
  let d ← g
  match d with
  | .xc m [(k, v)] => if m = n ∧ k = f then ret v else stk
  | _ => stk
theorem ce_rdX (T : XfC X.K (He.ga X.K n)) (hno : PySem.W.findIn X.K (.ref (He.ga X.K n)) k = some none) (he : CE X so W e te fe) (hb : attributeBase e k X.env (eval e X.env) = eval e X.env := by rfl) :
    CE X so W (.Attribute e k pos) (rdX X.K (He.ga X.K n) k te) (dRdX n k fe) := by
  refine ⟨pe_rdX T hno he.pe hb, fun β B H σ s Q r q => ?_⟩
  refine he.de β B H σ s _ r ((post_bnd q).imp (fun d s1 k1 v B1 H1 e1 r1 p1 => ?_) fun _ _ q => q)
  cases p1 with
  | xc1 h1 h2 h3 =>
    rename_i a dd m k' v' d'
    have k2 : ((if m = n ∧ k' = k then ret d' else stk) s1).post (KE X.K so β σ B Q) (KX X.K so β B W) := k1
    by_cases hm : m = n ∧ k' = k
    · rw [if_pos hm] at k2
      obtain ⟨rfl, rfl⟩ := hm
      exact ⟨a, dd, _, v', rfl, r1.ext _ _ h1, r1.ext _ _ h2, by simp, k2 _ B1 H1 e1 r1 h3⟩
    · rw [if_neg hm] at k2; exact k2.elim
  | xc0 h1 => exact k1.elim
  | _ => exact k1.elim
end
end DL
end S_DT2
section S_DT3
set_option Elab.async false
set_option linter.all false
set_option autoImplicit false
set_option maxRecDepth 100000
set_option maxHeartbeats 4000000
/-! DT3: lambdas that are handed on to be caught; defs that raise, defs that draw. -/
namespace DL
open PySem PySem.Spec PyProof.Rows L2
section
variable {X : Cx} {so : So} {W : WX} {K : PySem.W.Frag} {β : Bs} {B H H1 B1 : Hp} {σ σ' : L2.St} {s : FS}
theorem SlotOk.keepN {v : Option V} (h : ∀ b o, H b = some o → (∀ ps, o ≠ .tbl ps) → H1 b = some o) : ∀ {x : Sl}, SlotOk K β B H so v x → SlotOk K β B H1 so v x
  | .un, _ => trivial
  | .fz d, q => q
  | .ow ds, ⟨a, vs, e, h1, q⟩ => ⟨a, vs, e, h _ _ h1 (fun ps z => by cases z), q⟩
  | .od ds, ⟨a, vs, e, h1, q⟩ => ⟨a, vs, e, h _ _ h1 (fun ps z => by cases z), q⟩
  | .st, q => q
/-- a lambda has been made: the tables alone have grown -/
theorem R.lam {p a c : Addr} {T : List (Addr × Str)} (r : R K (some (p, a, c, T)) β B H σ s) (e : LamX.ExtN H H1) (t : LamX.Tabs T H1) : R K (some (p, a, c, T)) β B H1 σ s := by
  obtain ⟨⟨h1, h2, h3, h4, h5⟩, h6, h7, h8⟩ := r.st
  have cases0 : ∀ b, β.H0 b ≠ none → (∃ o, H b = some o ∧ ∀ ps, o ≠ .tbl ps) ∨ ∃ q ∈ T, b = q.1 := fun b hb => by
    rcases r.tameAt hb with ⟨u, hu, ht⟩ | ⟨_, _, _, _, z, w, hw, e'⟩
    · exact .inl ⟨u, hu, ht⟩
    · injection z with z; injection z with _ z; injection z with _ z; injection z with _ z; subst z
      exact .inr ⟨w, hw, e'⟩
  refine ⟨r.len, fun i x q => ?_, r.dj, fun b o q => ?_, ⟨⟨e _ _ h1 (fun ps z => by cases z), e _ _ h2 (fun ps z => by cases z), h3, h4, h5⟩, h6, h7, t⟩, r.b0, fun b o q n tm => e b o (r.keep b o q n tm) tm, fun b q => ?_, r.n0, r.nt, r.h0t⟩
  · obtain ⟨v, g1, g2⟩ := r.sl i x q
    exact ⟨v, g1, g2.keepN e⟩
  · exact e b o (r.ext b o q) fun ps z => h6 b ps (by rw [q, z])
  · rcases cases0 b q with ⟨o, ho, ht⟩ | ⟨w, hw, e'⟩
    · rw [e b o ho ht]; simp
    · obtain ⟨ps, g, _⟩ := t w hw
      rw [e', g]; simp
/-! ### a def that raises -/
variable {P : Program} {w : World} {mg : Str → Option Value} {base : Heap}
variable {x qual : Str} {params : Arguments} {body : List Stmt} {scope : Scope} {kws : List (Str × V)} {f : Addr} {fd : FuncData} {N ps : List Str} {k : Nat} {fb : M Fl}
def wOut (E : XK) : WX := fun c d _ H => E c d H
theorem fn_x (F : FunD K x qual params body scope [] kws f fd) (S : FnScope N ps scope)
    (hbody : ∀ (cdv : Value) (A : Around) (outer : List Env) (s : Shared) (H : Hp) (E : XK), Room k (A.deeper (envOfC qual scope s.heap.objs.size f cdv)) → ∃ t, CSs (cxOf (L2.CX P w) P w K mg base N qual scope f cdv A outer s H E) none (wOut E) body t fb) :
    FnOk P w K mg base (L2.CX P w) (k + 1) f fd ps (spX K fun ds => if ds.length = ps.length then runX N.length fb ds else none) := by
  have hps : ps.length ≤ N.length := by have := congrArg List.length S.pre; rw [List.length_take] at this; omega
  refine F.ok (CX := L2.CX P w) S (fun vs H Q E h => ?_) (fun cdv A outer s H vs Q E hr h => ?_)
  · obtain ⟨B, ds, d, e, p, hF, _⟩ := h
    by_cases hl : ds.length = ps.length
    · rw [p.len, hl]
    · simp only [if_neg hl] at hF; cases hF
  · obtain ⟨B, ds, d, e, p, hF, q⟩ := h
    by_cases hl : ds.length = ps.length
    · simp only [if_pos hl] at hF
      obtain ⟨t, c⟩ := hbody cdv A outer s H E hr
      refine ⟨t, c.ps, ?_⟩
      have r0 := r_start (N := N) e p (by rw [p.len, hl]; exact hps)
      refine c.de ⟨B, H⟩ B H _ _ _ r0 ?_
      unfold runX at hF
      cases e1 : fb ⟨entry N.length ds, st0⟩ with
      | ok a s' =>
        rw [e1] at hF
        intro σ' B' H' eB r'
        cases a with
        | rt d' => cases hF; exact fun v pv => q v B' H' r'.gr0 pv
        | nx => cases hF; exact q .non B' H' r'.gr0 .non
        | bk => cases hF
        | ct => cases hF
      | ex d' s' =>
        rw [e1] at hF
        cases hF
        exact fun c x σ' B' H' eB r' rx => q c x B' H' r'.gr0 rx
      | stuck => rw [e1] at hF; cases hF
    · simp only [if_neg hl] at hF; cases hF
theorem spX_imp {CX : CXT} {F F' : XF} (G : FnOk P w K mg base CX k f fd ps (spX K F)) (h : ∀ ds d, F' ds = some d → F ds = some d) : FnOk P w K mg base CX k f fd ps (spX K F') :=
  G.imp fun vs H Q E ⟨B, ds, d, e, p, hF, q⟩ => ⟨B, ds, d, e, p, h ds d hF, q⟩
/-! ### a def that draws -/
def noTb (H : Hp) : Hp := fun a => match H a with
  | some (.tbl _) => none
  | o => o
theorem noTb_some {a : Addr} {o : HO} : noTb H a = some o ↔ H a = some o ∧ ∀ ps, o ≠ .tbl ps := by
  unfold noTb
  constructor
  · intro h
    split at h
    · cases h
    · rename_i hn
      exact ⟨h, fun ps z => hn ps (by rw [h, z])⟩
  · rintro ⟨h, n⟩
    split
    · rename_i ps hp
      rw [h] at hp
      exact absurd (Option.some.inj hp) (n ps)
    · exact h
theorem R.gr1 {p a c : Addr} {T : List (Addr × Str)} {B0 H0 : Hp} (r : R K (some (p, a, c, T)) ⟨B0, noTb H0⟩ B H σ s) : Gr (some (p, a, c, T)) B0 H0 B H :=
  ⟨r.b0, fun b o h n t => r.keep b o (noTb_some.mpr ⟨h, t⟩) n t, r.ext, fun b o h t => r.n0 b (by rw [show (Bs.mk B0 (noTb H0)).H0 b = some o from noTb_some.mpr ⟨h, t⟩]; simp), fun b o h t => r.dom b (by rw [show (Bs.mk B0 (noTb H0)).H0 b = some o from noTb_some.mpr ⟨h, t⟩]; simp), r.nt⟩
theorem r_startS {N : List Str} {p a c : Addr} {T : List (Addr × Str)} {vs : List V} {ds : List D} {st : DSt} (e : Ex B H) (o : StOk B H (some (p, a, c, T)) st) (q : Reps K B vs ds) (hl : vs.length + 1 ≤ N.length) :
    R K (some (p, a, c, T)) ⟨B, noTb H⟩ B H (L2.start N (.ref p :: vs)) ⟨Sl.st :: entry (N.length - 1) ds, st⟩ := by
  have hlen := q.len
  refine ⟨by simp [L2.start, entry, hlen]; omega, fun i x z => ?_, fun i j x y a q1 q2 o1 o2 _ _ => ?_, e, o, Ex.refl B, fun a u h _ _ => (noTb_some.mp h).1, fun a h n => ?_, fun a h n => n, fun _ _ h => h, fun _ a ps h => (noTb_some.mp h).2 ps rfl⟩
  · cases i with
    | zero =>
      have : x = .st := by simpa using z.symm
      subst this
      exact ⟨some (.ref p), start_get (by simp), p, a, c, T, rfl, rfl⟩
    | succ i =>
      have z' : (entry (N.length - 1) ds)[i]? = some x := by simpa using z
      rcases entry_get z' with ⟨d, hd, rfl⟩ | rfl
      · obtain ⟨v, hv, hr⟩ := q.get hd
        exact ⟨some v, start_get (by simpa using hv), v, rfl, hr⟩
      · have hi : i + 1 < (L2.start N (.ref p :: vs)).length := by
          have := (List.getElem?_eq_some_iff.mp z').1
          simp [L2.start, entry, hlen] at this ⊢
          omega
        exact ⟨(L2.start N (.ref p :: vs))[i + 1], by simp [hi], trivial⟩
  · cases i with
    | zero => have : x = .st := by simpa using q1.symm
              subst this; cases o1
    | succ i =>
      have z' : (entry (N.length - 1) ds)[i]? = some x := by simpa using q1
      rcases entry_get z' with ⟨d, hd, rfl⟩ | rfl <;> cases o1
  · cases e1 : noTb H a with
    | none => exact h e1
    | some o => rw [(noTb_some.mp e1).1] at n; cases n
theorem fn_s (F : FunD K x qual params body scope [] kws f fd) (S : FnScope N ps scope)
    (hbody : ∀ (so : So) (cdv : Value) (A : Around) (outer : List Env) (s : Shared) (H : Hp) (E : XK), Room k (A.deeper (envOfC qual scope s.heap.objs.size f cdv)) → ∃ t, CSs (cxOf CX0 P w K mg base N qual scope f cdv A outer s H E).nox so WF body t fb) :
    FnOk P w K mg base CX0 (k + 1) f fd ps (spS K fun ds st => if ds.length + 1 = ps.length then runS N.length fb ds st else none) := by
  have hps : ps.length ≤ N.length := by have := congrArg List.length S.pre; rw [List.length_take] at this; omega
  refine F.ok S (fun vs H Q E h => ?_) (fun cdv A outer s H vs Q E hr h => ?_)
  · obtain ⟨B, p, a, c, T, ws, ds, st, d, st', rfl, e, o, q, hF, _⟩ := h
    by_cases hl : ds.length + 1 = ps.length
    · rw [List.length_cons, q.len, hl]
    · simp only [if_neg hl] at hF; cases hF
  · obtain ⟨B, p, a, c, T, ws, ds, st, d, st', rfl, e, o, q, hF, k⟩ := h
    by_cases hl : ds.length + 1 = ps.length
    · simp only [if_pos hl] at hF
      obtain ⟨t, cc⟩ := hbody (some (p, a, c, T)) cdv A outer s H E hr
      refine ⟨t, PSs.nox cc.ps, ?_⟩
      have r0 := r_startS (N := N) e o q (by rw [q.len, hl]; exact hps)
      refine cc.de ⟨B, noTb H⟩ B H _ _ _ r0 ?_
      unfold runS at hF
      cases e1 : fb ⟨Sl.st :: entry (N.length - 1) ds, st⟩ with
      | ok a s' =>
        rw [e1] at hF
        intro σ' B' H' eB r'
        cases a with
        | rt d' => cases hF; exact fun v pv => k v B' H' r'.gr1 r'.st pv
        | nx => cases hF; exact k .non B' H' r'.gr1 r'.st .non
        | bk => cases hF
        | ct => cases hF
      | ex _ _ => rw [e1] at hF; cases hF
      | stuck => rw [e1] at hF; cases hF
    · simp only [if_neg hl] at hF; cases hF
theorem spS_imp {CX : CXT} {F F' : SF} (G : FnOk P w K mg base CX k f fd ps (spS K F)) (h : ∀ ds st d, F' ds st = some d → F ds st = some d) : FnOk P w K mg base CX k f fd ps (spS K F') :=
  G.imp fun vs H Q E ⟨B, p, a, c, T, ws, ds, st, d, st', e1, e2, e3, e4, hF, q⟩ => ⟨B, p, a, c, T, ws, ds, st, d, st', e1, e2, e3, e4, h ds st _ hF, q⟩
end
end DL
end S_DT3
section S_DT4
set_option Elab.async false
set_option linter.all false
set_option autoImplicit false
set_option maxRecDepth 100000
set_option maxHeartbeats 4000000
/-! DT4: caught(lambda: f(..)), the exception kept. -/
namespace DL
open PySem PySem.Spec PyProof.Rows L2
/-- what the catching def makes of the lambda's reading -/
def TTc (K : PySem.W.Frag) (c : Value) : (XK → Hp → VK → Prop) → Hp → VK → Prop := fun tl H Q =>
  tl (fun cls d H' => PySem.W.exmOne K cls c = some true ∧ ∀ a, H' a = none → Q (.ref a) (upd H' a (exH cls d a))) H (fun _ H' => ∃ v, some (some V.non) = some (some v) ∧ Q v H')
section
variable {X : Cx} {p1 p2 p3 p4 p5 p6 p7 p8 p9 p10 p11 p12 : Pos} {j : Nat}
theorem caught_gives {x a nf ne e q : Str} {sg : Scope} {g : Addr} {c : Value} {cdg : Value} (hNd : ([a, nf, ne] : List Str).Nodup) (hc : ∀ H s, Names (cxOf C8.CX0 X.prog X.w X.K X.mg X.base [a, nf, ne] x sg g cdg X.A X.stack s H C8.E0).nox e c)
    (h1 : sg.names.lookup nf = some .local) (h2 : sg.names.lookup ne = some .local) (hd1 : (nf == ("__debug__" : Str)) = false) (hd2 : (ne == ("__debug__" : Str)) = false) (hcd1 : (nf == ("__classdict__" : Str)) = false) (hcd2 : (ne == ("__classdict__" : Str)) = false) :
    LamX.GivesTo X [a, nf, ne] x sg g cdg [.Assign [.Name nf p1] (.Constant .none j p2) p3, .Try [.Expr (.Call (.Name a p4) [] [] p5) p6] [.ExceptHandler (some (.Name e p7)) (some ne) [.Assign [.Name nf p8] (.Name ne p9) p10] p11] [] [] p12, .Return (some (.Name nf p1)) p2] a q (TTc X.K c) := by
  intro f c' s H Q tl act hco hT
  refine ⟨_, pss_cons (ps_set hNd (i := 1) rfl (.inl h1) pe_non rfl (.inr h1)) (pss_cons (ps_try_keep (X := (cxOf C8.CX0 X.prog X.w X.K X.mg X.base [a, nf, ne] x sg g cdg X.A X.stack s H C8.E0).nox) (i := 2) (c := c)
      (tb := fun W D σ H => ∃ Ech : XK, (∀ cls d σ' H', Ech cls d H' → W cls d σ' H') ∧ σ[0]? = some (some (.ref f)) ∧ H c' = some (LamX.CodeO c' q) ∧ tl Ech H (fun _ H1 => D.nx σ H1))
      (ts := fun _ _ _ => tAsg (tVar 2) (gName 1)) rfl rfl rfl hNd rfl h2 (hc H s) (fun W pn xe tk _ => ?_) (fun a oe cls d pn _ _ => pss_one (ps_set hNd (i := 1) rfl (.inl h1) (pe_var (i := 2) rfl (.inl h2) hd2 hcd2) rfl (.inr h1)))) (pss_one (ps_ret (pe_var (i := 1) rfl (.inl h1) hd1 hcd1)))), ?_⟩
  · refine pss_one ⟨fun pins s' σ H' D I h' => ?_⟩
    obtain ⟨Ech, hW, g1, g2, g3⟩ := h'
    exact (ps_expr (act W pn xe Ech p4 p5 tk hW)).run pins s' σ H' D I ⟨g1, g2, g3⟩
  · refine ⟨fun cls d H' => PySem.W.exmOne X.K cls c = some true ∧ ∀ a, H' a = none → Q (.ref a) (upd H' a (exH cls d a)), fun cls d σ' H' ⟨e1, e2⟩ => ⟨e1, fun hlen a na => ?_⟩, rfl, hco, ?_⟩
    · have hl : σ'.length = 3 := hlen
      refine ⟨.ref a, by rw [List.getElem?_set_self (by omega)], fun na2 => ⟨.ref a, ?_, e2 a na2⟩⟩
      rw [List.getElem?_set_ne (by decide), List.getElem?_set_self (by rw [List.length_set]; omega)]
    · exact hT
/-- an exception of these classes, with a field at most -/
def okX (ns : List Str) : D → Bool
  | .xc n fs => decide (n ∈ ns) && decide (fs.length ≤ 1)
  | _ => false
/-- caught(lambda: f(e, ..)) -/
def dCaught (F : XF) (ns : List Str) (fa : M (List D)) : M D := do
  let l ← fa
  match F l with
  | some (.ok _) => ret .non
  | some (.ex d) => if okX ns d then ret d else stk
  | none => stk
def NoEx {α : Type} (f : M α) : Prop := ∀ s d s', f s ≠ .ex d s'
theorem noEx_var (i : Nat) : NoEx (dVar i) := fun s d s' h => by
  unfold dVar at h
  split at h <;> cases h
theorem noEx_ret {α : Type} (a : α) : NoEx (ret a) := fun s d s' h => by cases h
theorem noEx_cons {f : M D} {g : M (List D)} (h1 : NoEx f) (h2 : NoEx g) : NoEx (dCons f g) := fun s d s' h => by
  have h' : bnd f (fun x => bnd g fun l => ret (x :: l)) s = .ex d s' := h
  unfold bnd at h'
  cases e : f s with
  | ok a s1 =>
    rw [e] at h'
    simp only at h'
    cases e2 : g s1 with
    | ok b s2 => rw [e2] at h'; cases h'
    | ex d2 s2 => exact h2 s1 d2 s2 e2
    | stuck => rw [e2] at h'; cases h'
  | ex d1 s1 => exact h1 s d1 s1 e
  | stuck => rw [e] at h'; cases h'
variable {so : So} {W : WX} {K : PySem.W.Frag}
/-- the caught exception is data -/
theorem rep_caught {B H : Hp} {cls : Value} {x : Option Addr} {d : D} {a : Addr} (eB : Ex B H) (rx : RX K B H cls x d) (hl : ∃ n fs, d = .xc n fs ∧ fs.length ≤ 1) (na : H a = none) :
    ∃ B', Gr none B H B' (upd H a (exH cls x a)) ∧ Rep K B' (.ref a) d := by
  obtain ⟨n, fs, rfl, hl⟩ := hl
  have g : Gr none B H (upd B a (exH cls x a)) (upd H a (exH cls x a)) := Gr.new eB na (fun ps z => by unfold exH at z; cases z)
  cases fs with
  | nil =>
    obtain ⟨rfl, rfl⟩ := rx
    exact ⟨_, g, .xc0 upd_same⟩
  | cons f r =>
    cases r with
    | cons _ _ => simp at hl
    | nil =>
      obtain ⟨k, d0⟩ := f
      obtain ⟨rfl, dd, fv, rfl, hd, hf⟩ := rx
      match fv, hf with
      | [(k', v)], ⟨e1, e2, _⟩ =>
        subst e1
        exact ⟨_, g, .xc1 upd_same (by rw [upd_ne (ne_of_none hd (eB.noneOf na))]; exact hd) (e2.up g.b)⟩
/-- x(lambda: f(e, ..)) by its parts: the lambda's body raises what F tells -/
theorem de_caught {T : List (Addr × Str)} {c : Value} {ns : List Str} {F : XF} {ta : TA} {fa : M (List D)} (hT : ∃ p a cc, so = some (p, a, cc, T)) (hns : ∀ n ∈ ns, PySem.W.exmOne K (.ref (He.ga K n)) c = some true) (ha : DA K so WF ta fa) (hne : NoEx fa) :
    DE K so W (LamX.tLam T (TTc K c) fun E => tCallSD (spX K F) [] (fun _ cls x H => E cls x H) ta) (dCaught F ns fa) := by
  obtain ⟨p, a, cc, rfl⟩ := hT
  intro β B H σ s Q r h
  refine ⟨r.st.2.2.2, fun H1 eN tb => ?_⟩
  have r1 := r.lam eN tb
  have h1 := post_bnd h
  refine ha β B H1 σ s _ r1 ?_
  cases e : fa s with
  | ex d s' => exact absurd e (hne s d s')
  | stuck => rw [e] at h1; exact h1.elim
  | ok l s1 =>
    rw [e] at h1
    intro vs B2 H2 e2 r2 p2
    have h2 : ((match F l with | some (.ok _) => ret D.non | some (.ex d) => if okX ns d then ret d else stk | none => stk) s1).post (KE K (some (p, a, cc, T)) β σ B Q) (KX K (some (p, a, cc, T)) β B W) := h1
    cases eF : F l with
    | none => rw [eF] at h2; exact h2.elim
    | some z =>
      rw [eF] at h2
      refine ⟨B2, l, z, r2.ext, by rw [List.append_nil]; exact p2, eF, ?_⟩
      cases z with
      | ok d => exact fun v B3 H3 g3 p3 => ⟨.non, rfl, h2 .non B3 H3 (e2.trans g3.b) (r2.gr g3) .non⟩
      | ex d =>
        intro c0 x B3 H3 g3 rx
        by_cases ho : okX ns d = true
        · have h3 : (ret d s1).post (KE K (some (p, a, cc, T)) β σ B Q) (KX K (some (p, a, cc, T)) β B W) := by
            have h2' : ((if okX ns d then ret d else stk) s1).post (KE K (some (p, a, cc, T)) β σ B Q) (KX K (some (p, a, cc, T)) β B W) := h2
            rw [if_pos ho] at h2'; exact h2'
          have r3 := r2.gr g3
          cases d with
          | xc n fs =>
            obtain ⟨hn, hl⟩ := Bool.and_eq_true_iff.mp (show (decide (n ∈ ns) && decide (fs.length ≤ 1)) = true from ho)
            have hc0 : c0 = .ref (He.ga K n) := by
              cases fs with
              | nil => exact rx.1
              | cons f r => exact rx.1
            refine ⟨by rw [hc0]; exact hns n (of_decide_eq_true hn), fun q nq => ?_⟩
            obtain ⟨B4, g4, p4⟩ := rep_caught r3.ext rx ⟨n, fs, rfl, of_decide_eq_true hl⟩ nq
            exact h3 _ B4 _ ((e2.trans g3.b).trans g4.b) (r3.gr g4) p4
          | _ => cases ho
        · have h2' : ((if okX ns d then ret d else stk) s1).post (KE K (some (p, a, cc, T)) β σ B Q) (KX K (some (p, a, cc, T)) β B W) := h2
          rw [if_neg ho] at h2'; exact h2'.elim
end
end DL
end S_DT4
section S_DT5
set_option Elab.async false
set_option linter.all false
set_option autoImplicit false
set_option maxRecDepth 100000
set_option maxHeartbeats 4000000
/-! DT5: the call of the catching def; raise. -/
namespace DL
open PySem PySem.Spec PyProof.Rows L2
section
variable {X : Cx} {so : So} {W : WX}
theorem takes_fn {P : Program} {w : World} {K : PySem.W.Frag} {mg : Str → Option Value} {base : Heap} {N : List Str} {q : Str} {scope : Scope} {f : Addr} {cdv : Value} {A : Around} {outer : List Env} {s : Shared} {H : Hp} {E : XK} :
    Takes (cxOf (L2.CX P w) P w K mg base N q scope f cdv A outer s H E) (wOut E) := takes_of rfl rfl rfl rfl
theorem takes_lam {A : Around} {outer : List Env} {s : Shared} {H : Hp} {E : XK} {scope : Scope} {f c' : Addr} : Takes (LamX.lamCx X A outer s H E scope f c') (wOut E) := takes_of rfl rfl rfl rfl
/-- caught(lambda: f(e, ..)) -/
theorem ce_caught {T : List (Addr × Str)} {x a nf ne en : Str} {g c P : Addr} {cc : Value} {k : Nat} {pg : Arguments} {bg : List Stmt} {sg : Scope} {dV kV doc pm cdv ct oc : Value} {an od : Option Addr} {osl : Array (Option Value)}
    {params : Arguments} {scope : Scope} {p lpos pos q1 q2 : Pos} {fx : Str} {e : Expr} {es : List Expr} {fn : Addr} {fd : FuncData} {ps : List Str} {F : XF} {ns : List Str} {ta : TA} {fa : M (List D)} (hst : ∃ p a c, so = some (p, a, c, T)) (hns : ∀ n ∈ ns, PySem.W.exmOne X.K (.ref (He.ga X.K n)) cc = some true)
    (hg : Gl X x) (hm : X.mg x = some (.ref g)) (hk : PySem.W.keepIn X.K (.ref g) = true)
    (lk : X.K.lookup g = some ⟨oc, od, .func (PySem.W.fnOf x x pg bg sg dV kV doc pm an cdv ct), osl⟩) (hcg : PySem.W.codeIn X.K cdv x = true) (hb : L2.Binds X.K (PySem.W.fnOf x x pg bg sg dV kV doc pm an cdv ct) [a] []) (Sg : FnScope [a, nf, ne] [a] sg) (hva : Vis sg a)
    (hG : LamX.GivesTo X [a, nf, ne] x sg g cdv bg a (X.env.qual ++ "<lambda>") (TTc X.K cc))
    (TB : LamX.TabB X.base X.mg c P) (hcode : X.env.code = .ref c) (hmT : (P, X.env.qual ++ "<lambda>") ∈ T) (hu : ∀ p ∈ T, p.1 = P → p.2 = X.env.qual ++ "<lambda>") (hr : Room (k + 2) X.A) (L : LamX.LamS X.env.scope scope) (hdef : defaultsOf params X.env = ([], []))
    (hbind : ∀ (q : Str) (cl : List (Str × Addr)) (pm cv ctv : Value), bindArgs (PySem.W.kla_fn "<lambda>" q params (.Call (.Name fx q1) (e :: es) [] q2) scope cl pm cv ctv) ⟨[], []⟩ = pure [])
    (G : FnOk X.prog X.w X.K X.mg X.base (L2.CX X.prog X.w) k fn fd ps (spX X.K F)) (hm2 : X.mg fx = some (.ref fn)) (hk2 : PySem.W.keepIn X.K (.ref fn) = true) (hb2 : Binds X.K fd ps []) (hg2 : scope.names.lookup fx = some .globalImplicit)
    (ha : ∀ (A : Around) (outer : List Env) (s : Shared) (H : Hp) (E : XK) (f c' : Addr), CA (LamX.lamCx X A outer s H E scope f c') so WF (e :: es) ta fa) (hne : NoEx fa)
    (hdb : (x == ("__debug__" : Str)) = false := by decide) (hd : (a == ("__debug__" : Str)) = false := by decide) (hcd : (a == ("__classdict__" : Str)) = false := by decide) (hdb2 : (fx == ("__debug__" : Str)) = false := by decide)
    (he : ∀ (A : Around) (outer : List Env) (s : Shared) (H : Hp) (E : XK) (f c' : Addr), starEach (e :: es) (LamX.lamCx X A outer s H E scope f c').env = (false, eval e (LamX.lamCx X A outer s H E scope f c').env) :: starEach es (LamX.lamCx X A outer s H E scope f c').env := by intros; rfl)
    (hpl : ∀ (A : Around) (outer : List Env) (s : Shared) (H : Hp) (E : XK) (f c' : Addr), (backTo q2 (starEach es (LamX.lamCx X A outer s H E scope f c').env)).any (·.1) = false := by intros; rfl) :
    CE X so W (.Call (.Name x p) [.Lambda params (.Call (.Name fx q1) (e :: es) [] q2) scope lpos] [] pos) (LamX.tLam T (TTc X.K cc) fun E => tCallSD (spX X.K F) [] (fun _ cls x H => E cls x H) ta) (dCaught F ns fa) :=
  ⟨LamX.pe_lamcall hg hm hk lk hcg hb Sg rfl hva hG TB hcode hmT hu hr L hdef hbind (fun A outer s H E f c' hr' => pe_callSD (X := LamX.lamCx X A outer s H E scope f c') G hr' hg2 hm2 hk2 hb2 .nil (fun σ => passAt takes_lam σ) (ha A outer s H E f c').pa hdb2 (he A outer s H E f c') (hpl A outer s H E f c')) hdb hd hcd,
   de_caught hst hns (ha X.A [] X.s_0 X.H_0 (fun _ _ _ => False) 0 0).de hne⟩

/-! ### raise -/
def fRaise (d : D) : M Fl := fun s => .ex d s
theorem cs_raise {e : Expr} {pos : Pos} {n : Str} (hc : X.calm = true) (tk : Takes X W) (he : PMk X e (fun _ H Q => Q (.ref (He.ga X.K n)) none H)) : CS X so W (.Raise (some e) none pos) (fun _ σ H => W (.ref (He.ga X.K n)) none σ H) (fRaise (.xc n [])) :=
  ⟨ps_raise (t := fun _ H Q => Q (.ref (He.ga X.K n)) none H) hc tk he, fun β B H σ s Z r h => h _ none σ B H (Ex.refl B) r ⟨rfl, rfl⟩⟩
end
end DL
end S_DT5
section S_DL11
set_option Elab.async false
set_option linter.all false
set_option autoImplicit false
set_option maxRecDepth 100000
set_option maxHeartbeats 4000000
/-! DL11: -e; what a def promises, by its name. -/
namespace DL
open PySem PySem.Spec PyProof.Rows L2
section
variable {X : Cx} {so : So} {W : WX} {K : PySem.W.Frag} {e : Expr} {te : TE} {fe : M D} {pos : Pos}
def negD : D → Option D
  | .int i => some (.int (-i))
  | _ => none
def dNeg (f : M D) : M D := do
  let d ← f
  lift (negD d)
theorem ce_neg (h : CE X so W e te fe) : CE X so W (.UnaryOp .USub e pos) (tUn (rU fun i => .int (-i)) te) (dNeg fe) := by
  refine ⟨pe_un un_neg h.pe, fun β B H σ s Q r k => ?_⟩
  refine h.de β B H σ s _ r ((post_bnd k).imp (fun d s1 k1 v B1 H1 e1 r1 p1 => ?_) fun _ _ q => q)
  obtain ⟨z, hz, k2⟩ := lift_post k1
  cases p1 with
  | int i => cases hz; exact ⟨_, rfl, k2 _ B1 H1 e1 r1 (.int _)⟩
  | _ => cases hz
end
/-- the def x of the module, at level k, parameters ps: its promise F -/
structure OkP (P : Program) (w : World) (K : PySem.W.Frag) (mg : Str → Option Value) (base : Heap) (x : Str) (k : Nat) (ps : List Str) (F : PF) where
  fd : FuncData
  ok : FnOk P w K mg base CX0 k (He.ga K x) fd ps (spP K F)
  b : Binds K fd ps []
  kp : PySem.W.keepIn K (.ref (He.ga K x)) = true
  mg : mg x = some (.ref (He.ga K x))
structure OkS (P : Program) (w : World) (K : PySem.W.Frag) (mg : Str → Option Value) (base : Heap) (x : Str) (k : Nat) (ps : List Str) (F : SF) where
  fd : FuncData
  ok : FnOk P w K mg base CX0 k (He.ga K x) fd ps (spS K F)
  b : Binds K fd ps []
  kp : PySem.W.keepIn K (.ref (He.ga K x)) = true
  mg : mg x = some (.ref (He.ga K x))
structure OkX (P : Program) (w : World) (K : PySem.W.Frag) (mg : Str → Option Value) (base : Heap) (x : Str) (k : Nat) (ps : List Str) (F : XF) where
  fd : FuncData
  ok : FnOk P w K mg base (L2.CX P w) k (He.ga K x) fd ps (spX K F)
  b : Binds K fd ps []
  kp : PySem.W.keepIn K (.ref (He.ga K x)) = true
  mg : mg x = some (.ref (He.ga K x))
/-- the def as it stands -/
structure At (K : PySem.W.Frag) (mg : Str → Option Value) (x : Str) (params : Arguments) (body : List Stmt) (scope : Scope) where
  fd : FuncData
  f : FunD K x x params body scope [] [] (He.ga K x) fd
  mg : mg x = some (.ref (He.ga K x))
section
variable {P : Program} {w : World} {K : PySem.W.Frag} {mg : Str → Option Value} {base : Heap} {x : Str} {k : Nat} {ps : List Str}
def OkP.imp {F F' : PF} (o : OkP P w K mg base x k ps F) (h : ∀ ds d, F' ds = some d → F ds = some d) : OkP P w K mg base x k ps F' := ⟨o.fd, spP_imp o.ok h, o.b, o.kp, o.mg⟩
def OkS.imp {F F' : SF} (o : OkS P w K mg base x k ps F) (h : ∀ ds st d, F' ds st = some d → F ds st = some d) : OkS P w K mg base x k ps F' := ⟨o.fd, spS_imp o.ok h, o.b, o.kp, o.mg⟩
def OkX.imp {F F' : XF} (o : OkX P w K mg base x k ps F) (h : ∀ ds d, F' ds = some d → F ds = some d) : OkX P w K mg base x k ps F' := ⟨o.fd, spX_imp o.ok h, o.b, o.kp, o.mg⟩
def wrapP (n N : Nat) (f : M Fl) : PF := fun ds => if ds.length = n then runP N f ds else none
def wrapX (n N : Nat) (f : M Fl) : XF := fun ds => if ds.length = n then runX N f ds else none
def wrapS (n N : Nat) (f : M Fl) : SF := fun ds st => if ds.length + 1 = n then runS N f ds st else none
end
end DL
end S_DL11
section S_DL12
set_option Elab.async false
set_option linter.all false
set_option autoImplicit false
set_option maxRecDepth 100000
set_option maxHeartbeats 4000000
/-! DL12: odds and ends of the printed walks. -/
namespace DL
open PySem PySem.Spec PyProof.Rows L2
section
variable {X : Cx} {so : So} {W : WX} {K : PySem.W.Frag}
def dAddL (f g : M D) : M (List D) := do
  let x ← f
  let y ← g
  lift (addL x y)
abbrev rAbs : List V → Hp → VK → Prop := fun xs H Q => ∃ i, xs = [.int i] ∧ Q (.int (if i < 0 then -i else i)) H
abbrev rStrI : List V → Hp → VK → Prop := fun xs H Q => ∃ i : Int, xs = [.int i] ∧ i.natAbs.log2 < 1920 ∧ Q (.str (toString i)) H
abbrev rJoin (K : PySem.W.Frag) : V → List V → Hp → VK → Prop := fun x xs H Q => ∃ a p, ∃ ys : List Str, x = .str a ∧ xs = [.ref p] ∧ (SqL K H p (ys.map V.str) ∨ SqT K H p (ys.map V.str)) ∧
      (ys.map (·.length)).sum + ys.length * a.length ≤ 16777216 ∧ Q (.str (Txt.join a ys)) H
abbrev rSplit : V → List V → Hp → VK → Prop := fun x xs H Q => ∃ a b, x = .str a ∧ xs = [.str b] ∧ (b.length == 0) = false ∧ a.length + 2 ≤ sizeLine ∧ rNewStrs (Txt.split a b) H Q
abbrev rListOf (K : PySem.W.Frag) : List V → Hp → VK → Prop := fun xs H Q => ∃ p ys, xs = [.ref p] ∧ (SqL K H p ys ∨ SqT K H p ys) ∧ ∀ l, H l = none → Q (.ref l) (upd H l (.lst ys))
/-- an own exception class without own __init__ -/
structure ExcF (K : PySem.W.Frag) (mg : Str → Option Value) (n : Str) : Prop where
  q : PySem.W.excIn K (He.ga K n) He.veBase "ValueError.__new__" = true
  g : mg n = some (.ref (He.ga K n))
  kp : PySem.W.keepIn K (.ref (He.ga K n)) = true
  s : PySem.W.subIn K (.ref (He.ga K n)) (.type "BaseException") = some true
  t : PySem.W.typeIn K (.ref (He.ga K n)) = some (.type "type")
theorem ExcF.pmk {n : Str} {m : Str} {j : Nat} {p p2 pos : Pos} (f : ExcF X.K X.mg n) (hg : Gl X n) (hd : (n == ("__debug__" : Str)) = false := by decide) : PMk X (.Call (.Name n p) [.Constant (.str m) j p2] [] pos) (fun _ H Q => Q (.ref (He.ga X.K n)) none H) := pmk_own PySem.F.excBase_ValueError f.q f.g f.kp (raises_own f.s f.t) hg hd
end
end DL
end S_DL12
section S_DL13
set_option Elab.async false
set_option linter.all false
set_option autoImplicit false
set_option maxRecDepth 100000
set_option maxHeartbeats 4000000
/-! DL13: name = {k: v for ..} on one line. -/
namespace DL
open PySem PySem.Spec PyProof.Rows L2
section
variable {X : Cx} {so : So} {W : WX}
theorem ps_setDc {i : Nat} {y : Str} {py : Pos} {kx vx tg iter : Expr} {ifs : List Expr} {scope : Scope} {own : List (Str × Nat)} {pos spos : Pos} {wi : TI} {g : TG} {tt : TT} {tk tv : TE} (hc : X.calm = true) (hN : X.N.Nodup) (hy : X.N[i]? = some y) (hyl : X.env.scope.names.lookup y = some .local)
    (hsw : swapsWith (.DictComp kx vx [⟨tg, iter, ifs, 0⟩] scope pos) (some (.Name y py)) spos.line X.env = pure true) (hi : PI X tg iter wi) (ok : BlkOk X.N X.env.scope scope own)
    (hg : ∀ (s : Shared) (H : Hp) (C : Addr) (cl : List (Str × Addr)) (fp : List Addr), PG (X.blk s H scope (compEnvC scope cl C X.env) fp) tg g) (ht : ∀ (s : Shared) (H : Hp) (C : Addr) (cl : List (Str × Addr)) (fp : List Addr), PTs (X.blk s H scope (compEnvC scope cl C X.env) fp) ifs tt)
    (hk : ∀ (s : Shared) (H : Hp) (C : Addr) (cl : List (Str × Addr)) (fp : List Addr), PE (X.blk s H scope (compEnvC scope cl C X.env) fp) kx tk)
    (he : ∀ (s : Shared) (H : Hp) (C : Addr) (cl : List (Str × Addr)) (fp : List Addr), PE (X.blk s H scope (compEnvC scope cl C X.env) fp) vx tv) (hs : ∀ x, foldedSetIterable iter X.env x = pure x := by intro _; rfl) :
    PS X (.Assign [.Name y py] (.DictComp kx vx [⟨tg, iter, ifs, 0⟩] scope pos) spos) (tAsg (tDc wi g tt tk tv (own.map (·.2))) (gName i)) := by
  refine ⟨fun pins s σ H D I h => ?_⟩
  rw [exec_Assign_Name_used _ _ _ _ hsw]
  refine wpAny_bind (wpAny_standAt (wpAny_bind ?_))
  show wpAny _ X.A (do let _ ← comprehension (.DictComp kx vx [⟨tg, iter, ifs, 0⟩] scope pos) scope X.env (firstIterPos [⟨tg, iter, ifs, 0⟩] pos) newDict false (eval iter X.env) (some (assign (.Name y py) X.env))) _ _ s
  have h' : tDc wi g tt tk tv (own.map (·.2)) σ H (fun x H1 => gName i x σ H1 D.nx) := h
  refine wpAny_bind (thn (dc_core (Qf := fun _ s' => SP X pins D .next s') hc hN I hi ok hg ht hk he hs h' fun L C s' m H' I' q hn f => ?_) fun _ s' hq => wpAny_pure (wpAny_pure hq))
  show wpAny _ _ (assign (.Name y py) X.env (.ref L)) _ _ _
  refine wpAny_assign_Name (store_ok2 (v := V.ref L) I' hN hy (.inl hyl) rfl (fun s2 I2 ⟨a, sb, ha⟩ => ?_) (.inr hyl))
  obtain ⟨f0, f1, f2, f3, f4, f5⟩ := f
  refine ⟨m, hn.sameBut sb ?_, fun h3 sb3 => ⟨_, H', I2.turned (t' := s2.toks) (fun b o hb e => (sb3.2 b hb).trans e) f0 f1 f3 f4 f5, q⟩⟩
  rcases ha with z | z
  · rw [z]; exact f1
  · exact fun e => f4 y a z e.symm
theorem sw_trueD {kx vx : Expr} {gs : List Comprehension} {scope : Scope} {pos py : Pos} {y : Str} {l : Nat} {env : Env} (hk : env.scope.kind = .function) (hy : env.scope.names.lookup y = some .local) (hl : (py.line == pos.line) = true)
    (ha : (scope.names.any fun (n, k) => n == y && (k == .local || k == .cell)) = false) : swapsWith (.DictComp kx vx gs scope pos) (some (.Name y py)) l env = pure true := by
  have ky : env.kindOf y = some .local := hy
  have hb : env.blockKind = .function := by unfold Env.blockKind; rw [hk]; rfl
  unfold swapsWith
  simp only [hb, ky, ha, Expr.pos, hl]
  rfl
theorem cs_setDc {is : List Nat} {i : Nat} {y : Str} {py : Pos} {kx vx tg iter : Expr} {ifs : List Expr} {scope : Scope} {own : List (Str × Nat)} {pos spos : Pos} {wi : TI} {g : TG} {tt : TT} {tk te : TE} {fi : M (List D)} {fg : TgF} {ft : M Bool} {fk fe : M D} (hc : X.calm = true) (hN : X.N.Nodup) (hi : CI X so W tg iter wi fi) (ok : BlkOk X.N X.env.scope scope own)
    (hg : ∀ (s : Shared) (H : Hp) (C : Addr) (cl : List (Str × Addr)) (fp : List Addr), CG (X.blk s H scope (compEnvC scope cl C X.env) fp) so is tg g fg) (ht : ∀ (s : Shared) (H : Hp) (C : Addr) (cl : List (Str × Addr)) (fp : List Addr), CTs (X.blk s H scope (compEnvC scope cl C X.env) fp) so W ifs tt ft)
    (hk : ∀ (s : Shared) (H : Hp) (C : Addr) (cl : List (Str × Addr)) (fp : List Addr), CE (X.blk s H scope (compEnvC scope cl C X.env) fp) so W kx tk fk)
    (he : ∀ (s : Shared) (H : Hp) (C : Addr) (cl : List (Str × Addr)) (fp : List Addr), CE (X.blk s H scope (compEnvC scope cl C X.env) fp) so W vx te fe) (hv : ∀ i ∈ is, i ∈ own.map (·.2) := by decide)
    (hy : X.N[i]? = some y := by rfl) (hyl : X.env.scope.names.lookup y = some .local := by rfl)
    (hsw : swapsWith (.DictComp kx vx [⟨tg, iter, ifs, 0⟩] scope pos) (some (.Name y py)) spos.line X.env = pure true := by exact sw_trueD rfl rfl rfl (by decide +kernel)) (hs : ∀ x, foldedSetIterable iter X.env x = pure x := by intro _; rfl) :
    CS X so W (.Assign [.Name y py] (.DictComp kx vx [⟨tg, iter, ifs, 0⟩] scope pos) spos) (tAsg (tDc wi g tt tk te (own.map (·.2))) (gName i)) (fSetV i (dDc fi fg ft fk fe (own.map (·.2)))) :=
  ⟨ps_setDc hc hN hy hyl hsw hi.pi ok (fun s H C cl fp => (hg s H C cl fp).pg) (fun s H C cl fp => (ht s H C cl fp).pts) (fun s H C cl fp => (hk s H C cl fp).pe) (fun s H C cl fp => (he s H C cl fp).pe) hs,
   fun β B H σ s Z r k => (dv_dc hi.de (hg X.s_0 X.H_0 0 [] []).de (ht X.s_0 X.H_0 0 [] []).de (hk X.s_0 X.H_0 0 [] []).de (he X.s_0 X.H_0 0 [] []).de hv) β B H σ s _ r ((post_bnd k).imp (fun y s1 k1 v B1 H1 e1 r1 p1 => k1 _ B1 H1 e1 (r1.setV p1)) fun _ _ q => q)⟩
end
end DL
end S_DL13
section S_DL14
set_option Elab.async false
set_option linter.all false
set_option autoImplicit false
set_option maxRecDepth 100000
set_option maxHeartbeats 4000000
/-! DL14: a text some times over. -/
namespace DL
open PySem PySem.Spec PyProof.Rows L2
def repS (x : Str) (n : Int) : Str := ⟨(List.replicate n.toNat x.cps).foldl (· ++ ·) #[]⟩
theorem foldl_size (l : List (Array Nat)) (a : Array Nat) : (l.foldl (· ++ ·) a).size = a.size + (l.map (·.size)).sum := by
  induction l generalizing a with
  | nil => simp
  | cons x r ih => rw [List.foldl_cons, ih, Array.size_append, List.map_cons, List.sum_cons]; omega
theorem sum_rep (n k : Nat) : (List.replicate n k).sum = k * n := by
  induction n with
  | zero => rfl
  | succ n ih => rw [List.replicate_succ, List.sum_cons, ih, Nat.mul_succ]; omega
theorem repS_len (x : Str) (n : Int) : (repS x n).length = x.length * n.toNat := by
  show (List.foldl (· ++ ·) #[] (List.replicate n.toNat x.cps)).size = _
  rw [foldl_size, List.map_replicate, sum_rep]
  show 0 + _ = _
  rw [Nat.zero_add]
  rfl
section
variable {X : Cx} {K : PySem.W.Frag}
def rMulS : R2 := fun x y H Q => ∃ a n, x = .str a ∧ y = .int n ∧ (2 ≤ n ∧ n ≤ 1000 ∧ a.length ≠ 0 ∧ a.length ≤ 1000) ∧ Q (.str (repS a n)) H
theorem op_mulS : OpR X (binaryOp .Mult) rMulS := by
  intro pins s σ H x y v u Q I rx ry h
  obtain ⟨a, n, rfl, rfl, ⟨h1, h2, h3, h4⟩, q⟩ := h
  obtain ⟨t, rfl⟩ := rx
  obtain ⟨t2, rfl⟩ := ry
  have hm : a.length * n.toNat ≤ 1000 * 1000 := Nat.mul_le_mul h4 (by omega)
  have e1 : (n == 1 || a.length == 0) = false := by simp [h3]; omega
  refine PySem.P.mul_str (by simp; omega) (fun _ _ => ?_) (fun _ _ => ?_) ?_
  · have : (2 ^ 63 - 1 : Int) / n ≥ 1000 := by
      have : (1000 : Int) ≤ (2 ^ 63 - 1) / n := (Int.le_ediv_iff_mul_le (by omega)).mpr (by omega)
      omega
    omega
  · show decide (a.length * n.toNat > sizeLine) = false
    rw [sizeLine_eq]
    exact decide_eq_false (by omega)
  · rw [if_neg (by omega), if_neg (by rw [e1]; simp)]
    refine ⟨?_, .str (repS a n), H, I.tok _, ⟨_, rfl⟩, q⟩
    show (repS a n).length ≤ sizeLine
    rw [repS_len, sizeLine_eq]; omega
def rMulA : R2 := fun x y H Q => rI CMulX (fun i j => .int (i * j)) x y H Q ∨ rMulS x y H Q
theorem op_mulA : OpR X (binaryOp .Mult) rMulA := op_mulX.or op_mulS
def mulA : D → D → Option D
  | .str a, .int n => if 2 ≤ n ∧ n ≤ 1000 ∧ a.length ≠ 0 ∧ a.length ≤ 1000 then some (.str (repS a n)) else none
  | d, e => mulR d e
theorem dr_mulA : DR2 K rMulA mulA := by
  intro B H x y d e z Q eB p q hz k
  unfold mulA at hz
  split at hz
  · rename_i a n
    by_cases h : 2 ≤ n ∧ n ≤ 1000 ∧ a.length ≠ 0 ∧ a.length ≤ 1000
    · rw [if_pos h] at hz
      cases hz; cases p.inStr; cases q.inInt
      exact .inr ⟨a, n, rfl, rfl, h, k _ B H (Gr.refl eB) (.str _)⟩
    · rw [if_neg h] at hz; cases hz
  · exact .inl (dr_mul B H x y _ _ z Q eB p q hz k)
end
end DL
end S_DL14
section S_DS1
set_option Elab.async false
set_option linter.all false
set_option autoImplicit false
set_option maxRecDepth 100000
set_option maxHeartbeats 4000000
/-! DS1: the draws' state: reading, popping, writing. -/
namespace DL
open PySem PySem.Spec PyProof.Rows L2
section
variable {X : Cx} {so : So} {W : WX} {K : PySem.W.Frag} {β : Bs} {B H : Hp} {σ : L2.St} {s : FS} {i : Nat} {x : Str} {px pos p2 p3 apos cpos : Pos} {j : Nat}
/-- the state stands in slot i -/
def atSt (i : Nat) : M DSt := fun s => match s.ρ[i]? with
  | some .st => .ok s.ds s
  | _ => .stuck
theorem atSt_post {P : DSt → FS → Prop} {E : D → FS → Prop} (r : R K so β B H σ s) (h : (atSt i s).post P E) : ∃ p a c T, so = some (p, a, c, T) ∧ s.ρ[i]? = some .st ∧ σ[i]? = some (some (V.ref p)) ∧ P s.ds s := by
  unfold atSt at h
  cases e : s.ρ[i]? with
  | none => rw [e] at h; exact h.elim
  | some y =>
    rw [e] at h
    cases y with
    | st =>
      obtain ⟨v, h1, p, a, c, T, rfl, rfl⟩ := r.sl i _ e
      exact ⟨p, a, c, T, rfl, rfl, h1, h⟩
    | un => exact h.elim
    | fz d => exact h.elim
    | ow l => exact h.elim
    | od l => exact h.elim
theorem val_rest {a c : Addr} {d : DSt} : valV (stK a c d) (Sum.inr "rest") = some (V.int d.rest) := rfl
theorem val_turn {a c : Addr} {d : DSt} : valV (stK a c d) (Sum.inr "turn") = some (V.int d.turn) := rfl
theorem val_great {a c : Addr} {d : DSt} : valV (stK a c d) (Sum.inr "great") = some (V.ref a) := rfl
theorem val_cells {a c : Addr} {d : DSt} : valV (stK a c d) (Sum.inr "cells") = some (V.ref c) := rfl
theorem put_rest {a c : Addr} {d : DSt} {n : Int} : putK (stK a c d) (Sum.inr "rest") (V.int n) = stK a c { d with rest := n } := rfl
theorem put_turn {a c : Addr} {d : DSt} {n : Int} : putK (stK a c d) (Sum.inr "turn") (V.int n) = stK a c { d with turn := n } := rfl
abbrev VisI (X : Cx) (i : Nat) (x : Str) : Prop := X.N[i]? = some x ∧ Vis X.env.scope x
/-- st['rest'], st['turn'] -/
def dRest (i : Nat) : M D := do
  let d ← atSt i
  ret (.int d.rest)
def dTurn (i : Nat) : M D := do
  let d ← atSt i
  ret (.int d.turn)
def dCells (i : Nat) : M D := do
  let d ← atSt i
  ret (.lst (d.cells.map D.int))
theorem de_rest : DE K so W (tDGet (tVar i) (tC (.str "rest"))) (dRest i) := by
  intro β B H σ s Q r h
  obtain ⟨p, a, c, T, rfl, _, e, k⟩ := atSt_post r (post_bnd h)
  obtain ⟨⟨h1, _⟩, _⟩ := r.st
  exact ⟨_, e, p, _, rfl, by have q := DGet.k (k := Sum.inr "rest") h1; rwa [val_rest] at q, k _ B H (Ex.refl B) r (.int _)⟩
theorem de_turn : DE K so W (tDGet (tVar i) (tC (.str "turn"))) (dTurn i) := by
  intro β B H σ s Q r h
  obtain ⟨p, a, c, T, rfl, _, e, k⟩ := atSt_post r (post_bnd h)
  obtain ⟨⟨h1, _⟩, _⟩ := r.st
  exact ⟨_, e, p, _, rfl, by have q := DGet.k (k := Sum.inr "turn") h1; rwa [val_turn] at q, k _ B H (Ex.refl B) r (.int _)⟩
theorem reps_ints : ∀ l : List Int, Reps K B (l.map V.int) (l.map D.int)
  | [] => .nil
  | x :: r => .cons (.int x) (reps_ints r)
theorem de_cells : DE K so W (tDGet (tVar i) (tC (.str "cells"))) (dCells i) := by
  intro β B H σ s Q r h
  obtain ⟨p, a, c, T, rfl, _, e, k⟩ := atSt_post r (post_bnd h)
  obtain ⟨⟨h1, _, _, _, h5, h6, _⟩, _⟩ := r.st
  exact ⟨_, e, p, _, rfl, by have q := DGet.k (k := Sum.inr "cells") h1; rwa [val_cells] at q, k _ B H (Ex.refl B) r (.lst h5 (by rw [List.length_map]; exact h6) (reps_ints _))⟩
variable (hu : X.A.units + 64 < cLine) (hN : X.N[i]? = some x) (hv : Vis X.env.scope x) (hd : (x == ("__debug__" : Str)) = false) (hcd : (x == ("__classdict__" : Str)) = false) 
include hu hN hv hd hcd
theorem ce_rest (hs : NoSl (.Constant (.str "rest") j p2) := by exact fun _ _ => rfl) : CE X so W (.Subscript (.Name x px) (.Constant (.str "rest") j p2) pos) (tDGet (tVar i) (tC (.str "rest"))) (dRest i) := ⟨pe_dget (by omega) (pe_var hN hv hd hcd) pe_str hs, de_rest⟩
theorem ce_turn (hs : NoSl (.Constant (.str "turn") j p2) := by exact fun _ _ => rfl) : CE X so W (.Subscript (.Name x px) (.Constant (.str "turn") j p2) pos) (tDGet (tVar i) (tC (.str "turn"))) (dTurn i) := ⟨pe_dget (by omega) (pe_var hN hv hd hcd) pe_str hs, de_turn⟩
theorem ce_cells (hs : NoSl (.Constant (.str "cells") j p2) := by exact fun _ _ => rfl) : CE X so W (.Subscript (.Name x px) (.Constant (.str "cells") j p2) pos) (tDGet (tVar i) (tC (.str "cells"))) (dCells i) := ⟨pe_dget (by omega) (pe_var hN hv hd hcd) pe_str hs, de_cells⟩
omit hu hN hv hd hcd
/-- st['great'] != e -/
def dGreatNe (i : Nat) (fb : M D) : M D := do
  let _ ← atSt i
  let e ← fb
  let d ← atSt i
  flatO (neR (.lst (d.great.map D.int)) e)
theorem de_greatNe {tb : TE} {fb : M D} (hb : DE K so W tb fb) : DE K so W (tOp (rNeA K) (tDGet (tVar i) (tC (.str "great"))) tb) (dGreatNe i fb) := by
  intro β B H σ s Q r h
  obtain ⟨p, a, c, T, rfl, _, e, k⟩ := atSt_post r (post_bnd h)
  obtain ⟨⟨h1, _⟩, _⟩ := r.st
  refine ⟨_, e, p, _, rfl, by have q := DGet.k (k := Sum.inr "great") h1; rwa [val_great] at q, ?_⟩
  refine hb β B H σ s _ r ((post_bnd k).imp (fun d s1 k1 v B1 H1 e1 r1 p1 => ?_) fun _ _ q => q)
  obtain ⟨p', a', c', T', z, _, _, k2⟩ := atSt_post r1 (post_bnd k1)
  injection z with z; injection z with z1 z; injection z with z2 z; injection z with z3 z4
  subst z1 z2 z3 z4
  obtain ⟨⟨_, g2, _, g4, _, _, g7⟩, _⟩ := r1.st
  obtain ⟨z, hz, f, k3⟩ := flatO_post k2
  have x2 : Ex (upd B1 a (.lst (s1.ds.great.map V.int))) H1 := fun b u q => by
    by_cases w : b = a
    · subst w; rw [upd_same] at q; rw [g2]; exact q
    · rw [upd_ne w] at q; exact r1.ext b u q
  refine dr_ne _ H1 _ _ _ _ z Q x2 (.lst upd_same (by rw [List.length_map]; exact g7) (reps_ints _)) (p1.up (Ex.new g4)) hz fun w B2 H2 g2 p2 => ?_
  exact k3 w B1 H2 e1 (r1.look g2) (rep_flatB p2 f)
/-- st['great'].pop(0) -/
def dGreatPop (i : Nat) : M D := fun s => match s.ρ[i]?, s.ds.great with
  | some .st, g :: gs => .ok (.int g) { s with ds := { s.ds with great := gs } }
  | _, _ => .stuck
/-- the draws' state is changed in its places -/
theorem R.stSet {p a c : Addr} {T : List (Addr × Str)} (r : R K (some (p, a, c, T)) β B H σ s) {d : DSt} {H' : Hp} (hd : H' p = some (.dK (stK a c d))) (ha : H' a = some (.lst (d.great.map V.int))) (hc : d.cells = s.ds.cells) (hl : d.great.length ≤ sizeLine) (hk : ∀ b, b ≠ p → b ≠ a → H' b = H b) :
    R K (some (p, a, c, T)) β B H' σ { s with ds := d } := by
  obtain ⟨⟨h1, h2, h3, h4, h5, h6, _⟩, t1, t2, t3⟩ := r.st
  have code : ∀ {b q}, H b = some (LamX.CodeO b q) → b ≠ p ∧ b ≠ a := fun {b q} e => ⟨fun z => (by rw [z, h1] at e; unfold LamX.CodeO at e; cases e), fun z => (by rw [z, h2] at e; unfold LamX.CodeO at e; cases e)⟩
  have tb : ∀ {b ps}, H b = some (.tbl ps) → b ≠ p ∧ b ≠ a := fun {b ps} e => ⟨fun z => (by rw [z, h1] at e; cases e), fun z => (by rw [z, h2] at e; cases e)⟩
  have g : Gr (some (p, a, c, T)) B H B H' := by
    refine ⟨Ex.refl B, fun b o q n _ => by rw [hk b n.1 n.2.1]; exact q, fun b o q => ?_, fun b o q _ n => n, fun b o q _ => ?_, fun _ _ q => q⟩
    · rw [hk b (fun z => by rw [z, h3] at q; cases q) (fun z => by rw [z, h4] at q; cases q)]; exact r.ext b o q
    · by_cases e1 : b = p
      · rw [e1, hd]; simp
      · by_cases e2 : b = a
        · rw [e2, ha]; simp
        · rw [hk b e1 e2, q]; simp
  refine r.grS g ⟨⟨hd, ha, h3, h4, by rw [CellsAt, hc]; exact ⟨h5, h6, hl⟩⟩, t1, t2, fun q hq => ?_⟩
  obtain ⟨ps, q1, q2, q3⟩ := t3 q hq
  refine ⟨ps, by rw [hk _ (tb q1).1 (tb q1).2]; exact q1, q2, fun pos cv e => ?_⟩
  obtain ⟨cc, e1, e2⟩ := q3 pos cv e
  exact ⟨cc, e1, by rw [hk _ (code e2).1 (code e2).2]; exact e2⟩
theorem de_greatPop : DE K so W (tBM K "list" rPopAt (tDGet (tVar i) (tC (.str "great"))) (tCons (tC (.int 0)) tNil)) (dGreatPop i) := by
  intro β B H σ s Q r h
  unfold dGreatPop at h
  cases e : s.ρ[i]? with
  | none => rw [e] at h; exact h.elim
  | some y =>
    rw [e] at h
    cases y with
    | st =>
      cases eg : s.ds.great with
      | nil => rw [eg] at h; exact h.elim
      | cons g gs =>
        rw [eg] at h
        obtain ⟨v, hv, p, a, c, T, rfl, rfl⟩ := r.sl i _ e
        obtain ⟨⟨h1, h2, h3, h4, h5, h6, h7⟩, t⟩ := id r.st
        have pa : p ≠ a := fun z => by rw [z, h2] at h1; cases h1
        refine ⟨_, hv, p, .ref a, rfl, (by have q := DGet.k (k := Sum.inr "great") h1; rwa [val_great] at q), .inl ⟨rfl, _, SqL.of h2⟩, ?_⟩
        refine ⟨a, _, 0, 0, .int g, rfl, rfl, h2, by decide, by decide, ?_, by rw [eg]; rfl, ?_⟩
        · rw [eg]; exact seqIx (by decide) (by simp)
        · have k : KE K (some (p, a, c, T)) β σ B Q (.int g) { s with ds := { s.ds with great := gs } } := h
          refine k (.int g) B _ (Ex.refl B) ?_ (.int g)
          refine r.stSet (d := { s.ds with great := gs }) (by rw [upd_ne pa]; exact h1) (by rw [upd_same, eg]; rfl) rfl (by rw [eg] at h7; simp at h7; simp; omega) fun b _ hb => upd_ne hb
    | un => exact h.elim
    | fz d => exact h.elim
    | ow l => exact h.elim
    | od l => exact h.elim
/-- st['rest'] = e, st['turn'] = e -/
def fRest (i : Nat) (f : M D) : M Fl := do
  let v ← f
  let n ← lift (isI v)
  let _ ← atSt i
  fun s => .ok .nx { s with ds := { s.ds with rest := n } }
def fTurn (i : Nat) (f : M D) : M Fl := do
  let v ← f
  let n ← lift (isI v)
  let _ ← atSt i
  fun s => .ok .nx { s with ds := { s.ds with turn := n } }
variable {e : Expr} {te : TE} {fe : M D}
theorem ds_rest (h : DE K so W te fe) : DS K so W (sDPut (tVar i) (tC (.str "rest")) te) (fRest i fe) := by
  intro β B H σ s Z r q
  refine h β B H σ s _ r ((post_bnd q).imp (fun d s1 k1 v B1 H1 e1 r1 p1 => ?_) fun _ _ q => q)
  obtain ⟨n, hn, k2⟩ := lift_post (post_bnd k1)
  cases p1 with
  | int m =>
    cases hn
    obtain ⟨p, a, c, T, rfl, e, hv, k3⟩ := atSt_post r1 (post_bnd k2)
    obtain ⟨⟨h1, h2, h3, h4, h5, h6, h7⟩, t⟩ := id r1.st
    have pa : p ≠ a := fun z => by rw [z, h2] at h1; cases h1
    refine ⟨_, hv, p, _, rfl, .inl ⟨_, Sum.inr "rest", h1, rfl, by rw [sizeLine_eq]; simp [stK], rfl⟩, ?_⟩
    exact k3 σ B1 _ e1 (r1.stSet (d := { s1.ds with rest := n }) (by rw [upd_same, put_rest]) (by rw [upd_ne (Ne.symm pa)]; exact h2) rfl h7 fun b hb _ => upd_ne hb)
  | _ => cases hn
theorem ds_turn (h : DE K so W te fe) : DS K so W (sDPut (tVar i) (tC (.str "turn")) te) (fTurn i fe) := by
  intro β B H σ s Z r q
  refine h β B H σ s _ r ((post_bnd q).imp (fun d s1 k1 v B1 H1 e1 r1 p1 => ?_) fun _ _ q => q)
  obtain ⟨n, hn, k2⟩ := lift_post (post_bnd k1)
  cases p1 with
  | int m =>
    cases hn
    obtain ⟨p, a, c, T, rfl, e, hv, k3⟩ := atSt_post r1 (post_bnd k2)
    obtain ⟨⟨h1, h2, h3, h4, h5, h6, h7⟩, t⟩ := id r1.st
    have pa : p ≠ a := fun z => by rw [z, h2] at h1; cases h1
    refine ⟨_, hv, p, _, rfl, .inl ⟨_, Sum.inr "turn", h1, rfl, by rw [sizeLine_eq]; simp [stK], rfl⟩, ?_⟩
    exact k3 σ B1 _ e1 (r1.stSet (d := { s1.ds with turn := n }) (by rw [upd_same, put_turn]) (by rw [upd_ne (Ne.symm pa)]; exact h2) rfl h7 fun b hb _ => upd_ne hb)
  | _ => cases hn
include hu hN hv hd hcd
theorem ce_greatNe {tb : TE} {fb : M D} {b : Expr} (hb : CE X so W b tb fb) (hs : NoSl (.Constant (.str "great") j p2) := by exact fun _ _ => rfl) (hm : behindInMarks .NotEq b = false := by rfl) : CE X so W (.Compare (.Subscript (.Name x px) (.Constant (.str "great") j p2) p3) [.NotEq] [b] pos) (tOp (rNeA X.K) (tDGet (tVar i) (tC (.str "great"))) tb) (dGreatNe i fb) :=
  ⟨pe_cmpR (op_neA hu) (pe_dget (by omega) (pe_var hN hv hd hcd) pe_str hs) hb.pe hm, de_greatNe hb.de⟩
theorem ct_greatNe {tb : TE} {fb : M D} {b : Expr} (hb : CE X so W b tb fb) (hs : NoSl (.Constant (.str "great") j p2) := by exact fun _ _ => rfl) (hm : behindInMarks .NotEq b = false := by rfl) : CT X so W (.Compare (.Subscript (.Name x px) (.Constant (.str "great") j p2) p3) [.NotEq] [b] pos) (tTest (tOp (rNeA X.K) (tDGet (tVar i) (tC (.str "great"))) tb)) (dTest (dGreatNe i fb)) :=
  ⟨pt_cmpR (op_neA hu) (pe_dget (by omega) (pe_var hN hv hd hcd) pe_str hs) hb.pe hm, dt_test (de_greatNe hb.de)⟩
theorem ce_greatPop {j2 : Nat} {p4 : Pos} (hs : NoSl (.Constant (.str "great") j p2) := by exact fun _ _ => rfl)
    (hbase : attributeBase (.Subscript (.Name x px) (.Constant (.str "great") j p2) p3) "pop" X.env (eval (.Subscript (.Name x px) (.Constant (.str "great") j p2) p3) X.env) = eval (.Subscript (.Name x px) (.Constant (.str "great") j p2) p3) X.env := by rfl)
    (hfew : ((backTo cpos (starEach [.Constant (.int 0) j2 p4] X.env)).all (fun x => !x.1) && (backToKw cpos (keywordEach [] X.env)).all (fun x => x.1.isSome)
      && decide (([.Constant (.int 0) j2 p4] : List Expr).length + ([] : List Keyword).length + (if ([] : List Keyword).isEmpty then 0 else 1) < 30)) = true := by rfl)
    (hline : (apos.endLine == cpos.line) = true := by rfl) (hst : starEach [.Constant (.int 0) j2 p4] X.env = (false, eval (.Constant (.int 0) j2 p4) X.env) :: starEach [] X.env := by rfl) (hplain : (backTo cpos (starEach [] X.env)).any (·.1) = false := by rfl) :
    CE X so W (.Call (.Attribute (.Subscript (.Name x px) (.Constant (.str "great") j p2) p3) "pop" apos) [.Constant (.int 0) j2 p4] [] cpos) (tBM X.K "list" rPopAt (tDGet (tVar i) (tC (.str "great"))) (tCons (tC (.int 0)) tNil)) (dGreatPop i) :=
  ⟨pe_bm PySem.F.plainAttrs_list PySem.F.slot_list_pop PySem.F.type_list_pop mt_popAt (pe_dget (by omega) (pe_var hN hv hd hcd) pe_str hs) (pa_cons pe_int pa_nil hst) hbase hfew hline hst hplain, de_greatPop⟩
theorem cs_rest {f : Expr} {tf : TE} {ff : M D} (h : CE X so W f tf ff) (hs : swapsWith f (some (.Subscript (.Name x px) (.Constant (.str "rest") j p2) p3)) pos.line X.env = pure false := by rfl) : CS X so W (.Assign [.Subscript (.Name x px) (.Constant (.str "rest") j p2) p3] f pos) (sDPut (tVar i) (tC (.str "rest")) tf) (fRest i ff) :=
  ⟨ps_dput (by omega) (pe_var hN hv hd hcd) pe_str h.pe hs, ds_rest h.de⟩
theorem cs_turn {f : Expr} {tf : TE} {ff : M D} (h : CE X so W f tf ff) (hs : swapsWith f (some (.Subscript (.Name x px) (.Constant (.str "turn") j p2) p3)) pos.line X.env = pure false := by rfl) : CS X so W (.Assign [.Subscript (.Name x px) (.Constant (.str "turn") j p2) p3] f pos) (sDPut (tVar i) (tC (.str "turn")) tf) (fTurn i ff) :=
  ⟨ps_dput (by omega) (pe_var hN hv hd hcd) pe_str h.pe hs, ds_turn h.de⟩
end
end DL
end S_DS1
section S_DL15
set_option Elab.async false
set_option linter.all false
set_option autoImplicit false
set_option maxRecDepth 100000
set_option maxHeartbeats 4000000
/-! DL15: sorted(set(t)), t a tuple or list of texts or of ints. -/
namespace DL
open PySem PySem.Spec PyProof.Rows L2

/-- a kind of members: how a key is found by value, and how its values look -/
structure SK (P : Program) (w : World) (K : Type) [DecidableEq K] where
  knd : KeyKind P w K
  vl : K → Tok → Value
  of : Value → K
  is : ∀ k t, knd.is k (vl k t) = true
  ofmk : ∀ k t, of (vl k t) = k
  scan : ∀ k t, (vl k t).scannable = true
def skS (P : Program) (w : World) : SK P w Str where
  knd := PySem.strKind P w
  vl := Value.str
  of := fun v => match v with | .str x _ => x | _ => (⟨#[]⟩ : Str)
  is := fun k t => strKind_is P w k t
  ofmk := fun _ _ => rfl
  scan := fun _ _ => rfl
def skI (P : Program) (w : World) : SK P w Int where
  knd := PySem.intKind P w
  vl := Value.int
  of := fun v => match v with | .int x _ => x | _ => 0
  is := fun k t => intKind_is P w k t
  ofmk := fun _ _ => rfl
  scan := fun _ _ => rfl
section
variable {P : Program} {w : World} {K : Type} [DecidableEq K] (Z : SK P w K)
def SK.Mem (e : Int × Value) : Prop := ∃ k t, e.2 = Z.vl k t ∧ e.1 = Z.knd.hash k
def SK.ky (e : Int × Value) : K := Z.of e.2
/-- at a stands a set; its members' keys are ks in some order -/
def SK.At (h : Heap) (a : Addr) (ks : List K) : Prop :=
  ∃ o es ep t, h.get? a = some o ∧ o.ExactSet ∧ o.data = .set es ep t ∧ (∀ e ∈ es.toList, Z.Mem e) ∧ (es.toList.map Z.ky).Perm ks ∧ ks.Nodup ∧
    es.size < scanBound ∧ t.fits es.size = true ∧ Ris t.place.toList ∧ (w.params.followText "set-order" = true ∨ t.led = true)
def addK (ks : List K) (k : K) : List K := if k ∈ ks then ks else k :: ks
variable {Z}
variable {A : Around} {E : Value → Shared → Prop} {s : Shared} {a : Addr} {ks : List K}
theorem SK.At.kept {h h' : Heap} (R : Z.At h a ks) (f : ∀ o, h.get? a = some o → h'.get? a = some o) : Z.At h' a ks := by
  obtain ⟨o, es, ep, t, ho, r⟩ := R
  exact ⟨o, es, ep, t, f o ho, r⟩
theorem SK.elems {l : List (Int × Value)} (g : ∀ e ∈ l, Z.Mem e) : ElemsOf Z.knd l := fun e he => by
  obtain ⟨k, t, h1, h2⟩ := g e he
  exact ⟨⟨k, by rw [h1]; exact Z.is k t, h2⟩, by rw [h1]; exact Z.scan k t⟩
theorem SK.Mem.has {e : Int × Value} (g : Z.Mem e) (k : K) : Z.knd.is k e.2 = true ↔ Z.ky e = k := by
  obtain ⟨k0, t, h1, _⟩ := g
  unfold SK.ky
  rw [h1, Z.ofmk]
  constructor
  · intro h; exact Z.knd.inj _ _ _ (Z.is k0 t) h
  · rintro rfl; exact Z.is _ t
theorem SK.mem_keys {l : List (Int × Value)} (g : ∀ e ∈ l, Z.Mem e) (k : K) : k ∈ l.map Z.ky ↔ ∃ e ∈ l, Z.knd.is k e.2 = true := by
  rw [List.mem_map]
  exact ⟨fun ⟨e, he, q⟩ => ⟨e, he, ((g e he).has k).2 q⟩, fun ⟨e, he, q⟩ => ⟨e, he, ((g e he).has k).1 q⟩⟩

theorem SK.tail {g : Bool → Sem Unit} (hg : ∀ (b : Bool) (s₁ : Shared) (Q' : Unit → Shared → Prop), Q' () s₁ → wpAny (model P w) A (g b) Q' E s₁)
    {o : Obj} {es : Array (Int × Value)} {ep : Nat} {t : SetTable} (ho : s.heap.get? a = some o) (hex : o.ExactSet) (hd : o.data = .set es ep t)
    {es1 : Array (Int × Value)} {t2 : SetTable} (g1 : ∀ e ∈ es1.toList, Z.Mem e) (pk : (es1.toList.map Z.ky).Perm ks) (nd : ks.Nodup)
    (hb : es1.size < scanBound) (hf : t2.fits es1.size = true) (hr : Ris t2.place.toList) (hl : w.params.followText "set-order" = true ∨ t2.led = true) {dm : Bool} {R : Option Bool → Shared → Prop}
    (hR : ∀ h', Heap.SameBut a s.heap h' → Z.At h' a ks → R (some true) { s with heap := h' }) :
    wpAny (model P w) A (do
        storeSet a es1 t2
        if (!dm && t2.tooFull) = true then do
            g (relayAll t2 es1 (SetTable.grown es1.size)).2.2
            storeSet a (relayAll t2 es1 (SetTable.grown es1.size)).1 (relayAll t2 es1 (SetTable.grown es1.size)).2.1
            pure (some true)
          else pure (some true)) R E s := by
  refine wpAny_bind (wpAny_storeSet_of ho hd ?_ (fits_of_scanBound hb))
  have o1 := store_at (es' := es1) (t' := t2) ho hd
  have b1 := Heap.SameBut.update s.heap a (Obj.putSet es1 t2)
  split
  · have pm := relayAll_perm t2 es1 (SetTable.grown es1.size)
    have f3 := relayAll_fits t2 es1 (SetTable.grown es1.size)
    have r3 := relayAll_ris t2 es1 (SetTable.grown es1.size)
    have l3 := relayAll_led t2 es1 (SetTable.grown es1.size)
    generalize relayAll t2 es1 (SetTable.grown es1.size) = Y at pm f3 r3 l3 ⊢
    obtain ⟨es2, t3, gave⟩ := Y
    dsimp only at pm f3 r3 l3 ⊢
    have hb2 : es2.size < scanBound := by
      have : es2.size = es1.size := by rw [← Array.length_toList, pm.length_eq, Array.length_toList]
      omega
    refine wpAny_bind (hg _ _ _ (wpAny_bind (wpAny_storeSet_of o1 rfl ?_ (fits_of_scanBound hb2))))
    exact wpAny_pure (hR _ (b1.trans (Heap.SameBut.update _ a _)) ⟨_, es2, _, t3, store_at (es' := es2) (t' := t3) o1 rfl, hex, rfl, fun e he => g1 e (pm.mem_iff.mp he), (pm.map Z.ky).trans pk, nd, hb2, f3, r3, hl.imp id fun z => by rw [l3]; exact z⟩)
  · exact wpAny_pure (hR _ b1 ⟨_, es1, _, t2, o1, hex, rfl, g1, pk, nd, hb, hf, hr, hl⟩)

theorem SK.add {k : K} {tk : Tok} {Q : Bool → Shared → Prop} (R : Z.At s.heap a ks) (room : ks.length + 1 < scanBound)
    (hQ : ∀ b h', Heap.SameBut a s.heap h' → Z.At h' a (addK ks k) → Q b { s with heap := h' }) :
    wpAny (model P w) A (setAddHashed a (Z.vl k tk) (Z.knd.hash k)) Q E s := by
  obtain ⟨o, es, ep, t, ho, hex, hd, g, pk, nd, hb, hf, hr, hl⟩ := R
  have hkey : Z.knd.is k (Z.vl k tk) = true := Z.is k tk
  have hsc := Z.scan k tk
  have hel : ElemsOf Z.knd es.toList := SK.elems g
  unfold setAddHashed setAddHashedIn
  refine wpAny_holding (wpAny_bind (wpAny_setState_of ho hd hf ?_))
  dsimp only
  rw [byScan_of hsc hb hel]
  simp only [↓reduceIte]
  unfold setAddByScan
  refine wpAny_bind (wpAny_bind (wpAny_rule (wpAny_bind (wpAny_setScan_of hkey ho hd hf hel ?_))))
  cases hfi : List.findIdx? (fun e => Z.knd.is k e.2) es.toList with
  | some j =>
    dsimp only
    obtain ⟨hj, pj, _⟩ := List.findIdx?_eq_some_iff_getElem.mp hfi
    have hm : k ∈ ks := pk.mem_iff.mp ((SK.mem_keys g k).2 ⟨es.toList[j], List.getElem_mem hj, pj⟩)
    have q := hQ false s.heap (Heap.SameBut.refl a s.heap)
    unfold addK at q
    rw [if_pos hm] at q
    exact wpAny_pure (wpAny_pure (q ⟨o, es, ep, t, ho, hex, hd, g, pk, nd, hb, hf, hr, hl⟩))
  | none =>
    dsimp only
    have hnk : k ∉ ks := fun z => by
      obtain ⟨e, he, q⟩ := (SK.mem_keys g k).1 (pk.mem_iff.mpr z)
      have c := List.findIdx?_eq_none_iff.mp hfi e he
      rw [q] at c
      cases c
    have hgw : ∀ (b : Bool) {s₁ : Shared} {Q' : Unit → Shared → Prop}, Q' () s₁ → wpAny (model P w) A (match b with | true => rule "set.scan.the-table-gave-way" | false => pure ()) Q' E s₁ :=
      fun b s₁ Q' q => by cases b <;> first | exact wpAny_pure q | exact wpAny_rule q
    have pm := layNew_perm t es (Z.knd.hash k) (Z.vl k tk)
    have f1 := layNew_fits t es (Z.knd.hash k) (Z.vl k tk)
    have r1 := layNew_ris t es (Z.knd.hash k) (Z.vl k tk) hr
    have l1 := layNew_led t es (Z.knd.hash k) (Z.vl k tk)
    generalize layNew t es (Z.knd.hash k) (Z.vl k tk) = Y at pm f1 r1 l1 ⊢
    obtain ⟨es1, t1, dm, gave⟩ := Y
    dsimp only at pm f1 r1 l1 ⊢
    rw [Array.toList_push] at pm
    have pc : es1.toList.Perm ((Z.knd.hash k, Z.vl k tk) :: es.toList) := pm.trans (List.perm_append_singleton _ _)
    have pk1 : (es1.toList.map Z.ky).Perm (k :: ks) := by
      refine (pc.map Z.ky).trans ?_
      rw [List.map_cons]
      have : Z.ky (Z.knd.hash k, Z.vl k tk) = k := Z.ofmk k tk
      rw [this]
      exact pk.cons k
    have g1 : ∀ e ∈ es1.toList, Z.Mem e := fun e he => by
      rcases List.mem_cons.mp (pc.mem_iff.mp he) with z | z
      · rw [z]; exact ⟨k, tk, rfl, rfl⟩
      · exact g e z
    have nd1 : (k :: ks).Nodup := List.nodup_cons.mpr ⟨hnk, nd⟩
    have hb1 : es1.size < scanBound := by
      have := pk1.length_eq
      rw [List.length_map, Array.length_toList, List.length_cons] at this
      omega
    have hled : w.params.followText "set-order" = true ∨ t1.led = true := hl.imp id fun z => by rw [l1]; exact z
    have fin : ∀ h', Heap.SameBut a s.heap h' → Z.At h' a (k :: ks) → Q true { s with heap := h' } := fun h' sb r => by
      have q := hQ true h' sb
      unfold addK at q
      rw [if_neg hnk] at q
      exact q r
    refine wpAny_bind (hgw _ ?_)
    split
    · refine wpAny_bind ?_
      rw [hashByValue_scannable 8 hsc]
      refine wpAny_pure ?_
      refine SK.tail ?_ ho hex hd g1 pk1 nd1 hb1 ?_ ?_ ?_ ?_
      · intro b s₁ Q' q; cases b <;> first | exact wpAny_pure q | exact wpAny_rule q
      · first | (split <;> first | exact f1 | exact SetTable.fits_plain_off f1) | exact f1
      · first | (split <;> exact r1) | exact r1
      · first | (split <;> exact hled) | exact hled
      · intro h' sb r; dsimp only; exact wpAny_pure (fin h' sb r)
    · refine wpAny_bind (wpAny_pure ?_)
      simp only [↓reduceIte]
      refine SK.tail ?_ ho hex hd g1 pk1 nd1 hb1 f1 r1 hled ?_
      · intro b s₁ Q' q; cases b <;> first | exact wpAny_pure q | exact wpAny_rule q
      · intro h' sb r; dsimp only; exact wpAny_pure (fin h' sb r)

theorem addK_len (ks : List K) (k : K) : (addK ks k).length ≤ ks.length + 1 := by
  unfold addK; split <;> simp
def addsK (ks : List K) : List K → List K
  | [] => ks
  | k :: r => addsK (addK ks k) r
theorem addsK_snoc (ns : List K) (k : K) : ∀ ks : List K, addsK ks (ns ++ [k]) = addK (addsK ks ns) k := by
  induction ns with
  | nil => intro ks; rfl
  | cons n r ih => intro ks; exact ih _
theorem addsK_len (ns : List K) : ∀ ks : List K, (addsK ks ns).length ≤ ks.length + ns.length := by
  induction ns with
  | nil => intro ks; simp [addsK]
  | cons n r ih => intro ks; have := ih (addK ks n); have := addK_len ks n; show (addsK (addK ks n) r).length ≤ _; simp; omega
theorem SK.new {h : Heap} (ho : h.get? a = some { cls := .type "set", dict := none, data := .set #[] 0 (.fresh 0 0 (!w.params.followText "set-order")) }) : Z.At h a [] :=
  ⟨_, #[], 0, _, ho, ⟨rfl, rfl, rfl⟩, rfl, (fun e he => by simp at he), (by simp), (by simp), (by decide), (by rfl), List.Pairwise.nil, by
    show _ ∨ (!w.params.followText "set-order") = true
    cases w.params.followText "set-order"
    · exact .inr rfl
    · exact .inl rfl⟩

theorem SK.loop {I : Addr} {fp wr : List Addr} {G : Array GenState → Array GenState → Prop} {n : Nat} {Pv : Nat → Value → Prop} {St : Nat → Shared → Prop} {R : Result → Shared → Prop}
    (W : WalksS P w A.in1 I fp wr G n Pv St) (S : Addr) (hSf : S ∉ fp) (ns : List K) (hn : n = ns.length) (hb : ns.length + 1 < scanBound) (hval : ∀ i v, Pv i v → ∃ k t, ns[i]? = some k ∧ v = Z.vl k t) :
    ∀ (k i : Nat) (s : Shared), n - i = k → i ≤ n → St i s → Z.At s.heap S (addsK [] (ns.take i)) →
      (∀ s', Moved (S :: wr) G s s' → Z.At s'.heap S (addsK [] ns) → R (.ok (.ret .none)) s') →
      codeAny (model P w) A (.builtin "set.update.loop" ⟨[.ref S, .ref I], []⟩) R s := by
  have hSw : S ∉ wr := fun h => hSf (W.sub _ h)
  have hsub : ∀ b ∈ wr, b ∈ S :: wr := fun b hb => List.mem_cons_of_mem _ hb
  intro k
  induction k with
  | zero =>
    intro i s hk' hi hst hS hR
    have hin : i = n := by omega
    subst hin
    refine codeAny_builtin F.entry_set_update_loop ?_
    rw [Around.under_plainId F.plain_set_update_loop _]
    show wpAny _ A.in1 (pyNext (.ref I) >>= _) _ _ s
    refine wpAny_bind (W.done s _ _ hst fun s' hm => ?_)
    show wpAny _ A.in1 (PySem.ret Value.none) _ _ s'
    have e : ns.take i = ns := List.take_of_length_le (by omega)
    rw [e] at hS
    exact wpAny_pure (hR s' (hm.mono hsub) (hS.kept fun o e => hm.heap S o hSw e))
  | succ k ih =>
    intro i s hk' hi hst hS hR
    have hlt : i < n := by omega
    refine codeAny_builtin F.entry_set_update_loop ?_
    rw [Around.under_plainId F.plain_set_update_loop _]
    show wpAny _ A.in1 (pyNext (.ref I) >>= _) _ _ s
    refine wpAny_bind (W.item i s _ _ hlt hst fun v s' hP hst' hm => ?_)
    obtain ⟨z, t, hz, rfl⟩ := hval i v hP
    have hS' : Z.At s'.heap S (addsK [] (ns.take i)) := hS.kept fun o e => hm.heap S o hSw e
    show wpAny _ A.in1 (holding [Z.vl z t] (setAdd S (Z.vl z t)) >>= _) _ _ s'
    refine wpAny_bind (wpAny_holding ?_)
    unfold setAdd
    refine wpAny_holding ?_
    refine wpAny_bind (Z.knd.pyHash (k := z) (Z.is z t) ?_)
    have hr : (addsK [] (ns.take i)).length + 1 < scanBound := by
      have := addsK_len (ns.take i) []
      rw [List.length_take] at this
      simp only [List.length_nil] at this
      omega
    refine SK.add (Z := Z) (s := { s' with toks := s'.toks + 1 }) hS' hr fun b h' hsb hS2 => ?_
    have hS3 : Z.At h' S (addsK [] (ns.take (i + 1))) := by
      have e : ns.take (i + 1) = ns.take i ++ [z] := by rw [List.take_add_one, hz]; rfl
      rw [e, addsK_snoc]
      exact hS2
    refine wpAny_pure ⟨plainId_quiet F.plain_set_update_loop _, ih (i + 1) _ (by omega) hlt (W.frame _ s' _ _ hst' (Nat.le_succ _) fun b hb o e => ?_) hS3 fun s'' hm'' hS'' => ?_⟩
    · rw [hsb.2 b (fun h : b = S => hSf (by rw [← h]; exact hb))]; exact e
    · refine hR s'' (Moved.trans W.gtrans ((hm.mono hsub).then_heap (Nat.le_succ _) fun b o hb e => ?_) hm'') hS''
      rw [hsb.2 b (fun h : b = S => hb (by rw [h]; exact List.mem_cons_self))]; exact e
end
end DL
end S_DL15
section S_DL16
set_option Elab.async false
set_option linter.all false
set_option autoImplicit false
set_option maxRecDepth 100000
set_option maxHeartbeats 8000000
/-! DL16: set(t) called. (printed by mk16.py) -/
namespace DL
open PySem PySem.Spec PyProof.Rows L2
section
variable {P : Program} {w : World} {K : Type} [DecidableEq K] {Z : SK P w K} {A : Around} {E : Value → Shared → Prop} {s : Shared}

theorem SK.call_tuple {l : Addr} {items : Array Value} (ns : List K) {Q : Value → Shared → Prop} (hh : A.handled = none) (hl : s.heap.IsTuple l items) (hz : items.size = ns.length)
    (hval : ∀ (i : Nat) (v : Value), items[i]? = some v → ∃ k t, ns[i]? = some k ∧ v = Z.vl k t) (hb : ns.length + 1 < scanBound)
    (h : ∀ (h' : Heap) (tk : Nat), Z.At h' s.heap.objs.size (addsK [] ns) → (∀ b o, s.heap.get? b = some o → h'.get? b = some o) → Q (.ref s.heap.objs.size) { s with heap := h', toks := tk }) :
    wpAny (model P w) A (call (.type "set") [.ref l]) Q E s := by
  obtain ⟨c, tl, hmro⟩ := F.called_set.mro
  have hmade := F.called_set.made
  have hsub := F.called_set.sub
  refine wpAny_call (codeAny_of_tree ?_)
  show wpAny _ _ (callAny (.type "set") _) _ _ _
  refine wpAny_pure ⟨Code.quiet_builtin _ (by decide +kernel), codeAny_builtin F.entry_type_call ?_⟩
  rw [Around.under_plain (weight_type_call_type "set" [.ref l] []) rfl]
  have h1 := F.called_set.notType
  have h2 := F.called_set.canCreate
  have hct := F.typeCall_set_1 (.ref l)
  repeat (any_goals (first | assumption | wp_step))
  refine codeAny_mono (L2.code_set_led1 (.ref l) (E := E) (Q₁ := fun obj s₁ => obj = .ref s.heap.objs.size ∧ s₁ = { s with heap := (s.heap.push { cls := .type "set", dict := none, data := .set #[] 0 (.fresh 0 0 (!w.params.followText "set-order")) }) }) ⟨rfl, rfl⟩) fun r s₁ hr => ?_
  cases r with
  | error e => exact hr
  | ok fl =>
    cases fl with
    | ret obj =>
      obtain ⟨rfl, rfl⟩ := hr
      have hS : (s.heap.push { cls := .type "set", dict := none, data := .set #[] 0 (.fresh 0 0 (!w.params.followText "set-order")) }).get? s.heap.objs.size = some { cls := .type "set", dict := none, data := .set #[] 0 (.fresh 0 0 (!w.params.followText "set-order")) } := Heap.get?_push_size _ rfl
      have hT : Shared.TypeIs { s with heap := (s.heap.push { cls := .type "set", dict := none, data := .set #[] 0 (.fresh 0 0 (!w.params.followText "set-order")) }) } (.ref s.heap.objs.size) "set" := ⟨_, hS, rfl⟩
      have hli := F.called_set.init.lookup
      have hbi := F.called_set.init.bind (.ref s.heap.objs.size)
      repeat (any_goals (first | assumption | wp_step))
      refine codeAny_mono (codeAny_call_builtin (R := wants (fun r s₂ => r = .none ∧ ∃ h' tk, s₂ = { s with heap := h', toks := tk } ∧ Z.At h' s.heap.objs.size (addsK [] ns) ∧
          (∀ b o, s.heap.get? b = some o → h'.get? b = some o)) E) F.called_set.init.plain F.entry_set_init (check_set_init_1 hT ?_)) fun r₂ s₂ hr₂ => ?_
      · obtain ⟨ol, hol, hcl, nl, hdl⟩ := hl
        obtain ⟨ocls, odict, odata, oslots⟩ := ol
        simp only at hcl hdl
        subst hcl; subst hdl
        have hol' : (s.heap.push { cls := .type "set", dict := none, data := .set #[] 0 (.fresh 0 0 (!w.params.followText "set-order")) }).get? l = some { cls := .type "tuple", dict := odict, data := .seq items nl, slots := oslots } := Heap.get?_push_of_some _ hol
        have hsls := F.sub_tuple_set
        have hslf := F.sub_tuple_frozenset
        have hne : (Value.type "tuple" == Value.type "dict") = false := by decide
        have hl1 : (s.heap.push { cls := .type "set", dict := none, data := .set #[] 0 (.fresh 0 0 (!w.params.followText "set-order")) }).IsTuple l items := ⟨_, hol', rfl, nl, rfl⟩
        unfold Builtin.«set.__init__» noKeywords Builtin.Frozenset.updateFrom
        generalize hPI : pyIter = PI
        wp_walk
        subst hPI
        refine wpAny_pyIter_tuple hl1 ?_
        refine wpAny_bind (wpAny_runValue ?_)
        have hlS : l < s.heap.objs.size := Heap.lt_size hol
        have hh3 : A.in1.in1.in1.handled = none := by simp [hh]
        have hneI : l ≠ (s.heap.push { cls := .type "set", dict := none, data := .set #[] 0 (.fresh 0 0 (!w.params.followText "set-order")) }).objs.size := by
          rw [Heap.size_push]; exact Nat.ne_of_lt (Nat.lt_succ_of_lt hlS)
        have hSf : s.heap.objs.size ∉ [(s.heap.push { cls := .type "set", dict := none, data := .set #[] 0 (.fresh 0 0 (!w.params.followText "set-order")) }).objs.size, l] := by
          rw [Heap.size_push]; simp only [List.mem_cons, List.mem_singleton, List.not_mem_nil, or_false, not_or]
          exact ⟨Nat.ne_of_lt (Nat.lt_succ_self _), Nat.ne_of_gt hlS⟩
        refine SK.loop (Z := Z) ((Walks.tuple hh3 _ l hneI items).toS) s.heap.objs.size
          hSf ns hz hb hval (items.size - 0) 0 _ (by omega) (Nat.zero_le _)
          ⟨⟨_, Heap.get?_push_size _ rfl, rfl, rfl⟩, (hl1.push _)⟩ ?hS0 ?hR
        case hS0 =>
          have hget : ((s.heap.push { cls := .type "set", dict := none, data := .set #[] 0 (.fresh 0 0 (!w.params.followText "set-order")) }).push { cls := .type "tuple_iterator", data := .fields #[.ref l, .int 0 0] }).get? s.heap.objs.size = some { cls := .type "set", dict := none, data := .set #[] 0 (.fresh 0 0 (!w.params.followText "set-order")) } := Heap.get?_push_of_some _ hS
          exact SK.new hget
        case hR =>
          intro s' hm hS'
          obtain ⟨h', g2, d', tk', os'⟩ := s'
          have eg : g2 = s.gens := hm.gens
          have ed : d' = s.drawn := hm.drawn
          have eo : os' = s.os := hm.os
          subst eg; subst ed; subst eo
          show wpAny _ _ _ _ _ _
          refine wpAny_pure ?_
          show wpAny _ _ (PySem.ret Value.none) _ _ _
          refine wpAny_pure ⟨rfl, h', tk', rfl, hS', fun b o e => ?_⟩
          have hb0 : b < s.heap.objs.size := Heap.lt_size e
          have hb1 : b ≠ s.heap.objs.size := Nat.ne_of_lt hb0
          have hb2 : b ≠ (s.heap.push { cls := .type "set", dict := none, data := .set #[] 0 (.fresh 0 0 (!w.params.followText "set-order")) }).objs.size := by
            rw [Heap.size_push]; exact Nat.ne_of_lt (Nat.lt_succ_of_lt hb0)
          exact hm.heap b o (by simp only [List.mem_cons, List.mem_singleton, List.not_mem_nil, or_false, not_or]; exact ⟨hb1, hb2⟩) (Heap.get?_push_of_some _ (Heap.get?_push_of_some _ e))
      · cases r₂ with
        | error e => exact hr₂
        | ok fl₂ =>
          cases fl₂ with
          | ret r =>
            obtain ⟨rfl, h', tk, rfl, hS', hk'⟩ := hr₂
            repeat (any_goals (first | assumption | wp_step))
            exact h _ _ hS' hk'
          | _ => exact hr₂.elim
    | _ => exact hr.elim

theorem SK.call_list {l : Addr} {items : Array Value} (ns : List K) {Q : Value → Shared → Prop} (hh : A.handled = none) (hl : s.heap.IsList l items) (hz : items.size = ns.length)
    (hval : ∀ (i : Nat) (v : Value), items[i]? = some v → ∃ k t, ns[i]? = some k ∧ v = Z.vl k t) (hb : ns.length + 1 < scanBound)
    (h : ∀ (h' : Heap) (tk : Nat), Z.At h' s.heap.objs.size (addsK [] ns) → (∀ b o, s.heap.get? b = some o → h'.get? b = some o) → Q (.ref s.heap.objs.size) { s with heap := h', toks := tk }) :
    wpAny (model P w) A (call (.type "set") [.ref l]) Q E s := by
  obtain ⟨c, tl, hmro⟩ := F.called_set.mro
  have hmade := F.called_set.made
  have hsub := F.called_set.sub
  refine wpAny_call (codeAny_of_tree ?_)
  show wpAny _ _ (callAny (.type "set") _) _ _ _
  refine wpAny_pure ⟨Code.quiet_builtin _ (by decide +kernel), codeAny_builtin F.entry_type_call ?_⟩
  rw [Around.under_plain (weight_type_call_type "set" [.ref l] []) rfl]
  have h1 := F.called_set.notType
  have h2 := F.called_set.canCreate
  have hct := F.typeCall_set_1 (.ref l)
  repeat (any_goals (first | assumption | wp_step))
  refine codeAny_mono (L2.code_set_led1 (.ref l) (E := E) (Q₁ := fun obj s₁ => obj = .ref s.heap.objs.size ∧ s₁ = { s with heap := (s.heap.push { cls := .type "set", dict := none, data := .set #[] 0 (.fresh 0 0 (!w.params.followText "set-order")) }) }) ⟨rfl, rfl⟩) fun r s₁ hr => ?_
  cases r with
  | error e => exact hr
  | ok fl =>
    cases fl with
    | ret obj =>
      obtain ⟨rfl, rfl⟩ := hr
      have hS : (s.heap.push { cls := .type "set", dict := none, data := .set #[] 0 (.fresh 0 0 (!w.params.followText "set-order")) }).get? s.heap.objs.size = some { cls := .type "set", dict := none, data := .set #[] 0 (.fresh 0 0 (!w.params.followText "set-order")) } := Heap.get?_push_size _ rfl
      have hT : Shared.TypeIs { s with heap := (s.heap.push { cls := .type "set", dict := none, data := .set #[] 0 (.fresh 0 0 (!w.params.followText "set-order")) }) } (.ref s.heap.objs.size) "set" := ⟨_, hS, rfl⟩
      have hli := F.called_set.init.lookup
      have hbi := F.called_set.init.bind (.ref s.heap.objs.size)
      repeat (any_goals (first | assumption | wp_step))
      refine codeAny_mono (codeAny_call_builtin (R := wants (fun r s₂ => r = .none ∧ ∃ h' tk, s₂ = { s with heap := h', toks := tk } ∧ Z.At h' s.heap.objs.size (addsK [] ns) ∧
          (∀ b o, s.heap.get? b = some o → h'.get? b = some o)) E) F.called_set.init.plain F.entry_set_init (check_set_init_1 hT ?_)) fun r₂ s₂ hr₂ => ?_
      · obtain ⟨ol, hol, hcl, nl, hdl⟩ := hl
        obtain ⟨ocls, odict, odata, oslots⟩ := ol
        simp only at hcl hdl
        subst hcl; subst hdl
        have hol' : (s.heap.push { cls := .type "set", dict := none, data := .set #[] 0 (.fresh 0 0 (!w.params.followText "set-order")) }).get? l = some { cls := .type "list", dict := odict, data := .seq items nl, slots := oslots } := Heap.get?_push_of_some _ hol
        have hsls := F.sub_list_set
        have hslf := F.sub_list_frozenset
        have hne : (Value.type "list" == Value.type "dict") = false := by decide
        have hl1 : (s.heap.push { cls := .type "set", dict := none, data := .set #[] 0 (.fresh 0 0 (!w.params.followText "set-order")) }).IsList l items := ⟨_, hol', rfl, nl, rfl⟩
        unfold Builtin.«set.__init__» noKeywords Builtin.Frozenset.updateFrom
        generalize hPI : pyIter = PI
        wp_walk
        subst hPI
        refine wpAny_pyIter_list hl1 ?_
        refine wpAny_bind (wpAny_runValue ?_)
        have hlS : l < s.heap.objs.size := Heap.lt_size hol
        have hh3 : A.in1.in1.in1.handled = none := by simp [hh]
        have hneI : l ≠ (s.heap.push { cls := .type "set", dict := none, data := .set #[] 0 (.fresh 0 0 (!w.params.followText "set-order")) }).objs.size := by
          rw [Heap.size_push]; exact Nat.ne_of_lt (Nat.lt_succ_of_lt hlS)
        have hSf : s.heap.objs.size ∉ [(s.heap.push { cls := .type "set", dict := none, data := .set #[] 0 (.fresh 0 0 (!w.params.followText "set-order")) }).objs.size, l] := by
          rw [Heap.size_push]; simp only [List.mem_cons, List.mem_singleton, List.not_mem_nil, or_false, not_or]
          exact ⟨Nat.ne_of_lt (Nat.lt_succ_self _), Nat.ne_of_gt hlS⟩
        refine SK.loop (Z := Z) ((Walks.list hh3 _ l hneI items).toS) s.heap.objs.size
          hSf ns hz hb hval (items.size - 0) 0 _ (by omega) (Nat.zero_le _)
          ⟨⟨_, Heap.get?_push_size _ rfl, rfl, rfl⟩, (hl1.push _)⟩ ?hS0 ?hR
        case hS0 =>
          have hget : ((s.heap.push { cls := .type "set", dict := none, data := .set #[] 0 (.fresh 0 0 (!w.params.followText "set-order")) }).push { cls := .type "list_iterator", data := .fields #[.ref l, .int 0 0] }).get? s.heap.objs.size = some { cls := .type "set", dict := none, data := .set #[] 0 (.fresh 0 0 (!w.params.followText "set-order")) } := Heap.get?_push_of_some _ hS
          exact SK.new hget
        case hR =>
          intro s' hm hS'
          obtain ⟨h', g2, d', tk', os'⟩ := s'
          have eg : g2 = s.gens := hm.gens
          have ed : d' = s.drawn := hm.drawn
          have eo : os' = s.os := hm.os
          subst eg; subst ed; subst eo
          show wpAny _ _ _ _ _ _
          refine wpAny_pure ?_
          show wpAny _ _ (PySem.ret Value.none) _ _ _
          refine wpAny_pure ⟨rfl, h', tk', rfl, hS', fun b o e => ?_⟩
          have hb0 : b < s.heap.objs.size := Heap.lt_size e
          have hb1 : b ≠ s.heap.objs.size := Nat.ne_of_lt hb0
          have hb2 : b ≠ (s.heap.push { cls := .type "set", dict := none, data := .set #[] 0 (.fresh 0 0 (!w.params.followText "set-order")) }).objs.size := by
            rw [Heap.size_push]; exact Nat.ne_of_lt (Nat.lt_succ_of_lt hb0)
          exact hm.heap b o (by simp only [List.mem_cons, List.mem_singleton, List.not_mem_nil, or_false, not_or]; exact ⟨hb1, hb2⟩) (Heap.get?_push_of_some _ (Heap.get?_push_of_some _ e))
      · cases r₂ with
        | error e => exact hr₂
        | ok fl₂ =>
          cases fl₂ with
          | ret r =>
            obtain ⟨rfl, h', tk, rfl, hS', hk'⟩ := hr₂
            repeat (any_goals (first | assumption | wp_step))
            exact h _ _ hS' hk'
          | _ => exact hr₂.elim
    | _ => exact hr.elim
end
end DL
end S_DL16
section S_DL17
set_option Elab.async false
set_option linter.all false
set_option autoImplicit false
set_option maxRecDepth 100000
set_option maxHeartbeats 4000000
/-! DL17: sorted(set(t)). -/
namespace DL
open PySem PySem.Spec PyProof.Rows L2
theorem vals_str_at {ks : List Str} {us : List Value} (h : Vals (ks.map V.str) us) : ∀ (i : Nat) (v : Value), us[i]? = some v → ∃ k t, ks[i]? = some k ∧ v = Value.str k t := by
  intro i v hv
  have hl := h.length
  rw [List.length_map] at hl
  have hi : i < ks.length := by have := (List.getElem?_eq_some_iff.mp hv).1; omega
  obtain ⟨w, hw, t, ht⟩ := h.get (i := i) (x := .str ks[i]) (by simp [hi])
  rw [hv] at hw; cases hw
  exact ⟨ks[i], t, List.getElem?_eq_getElem hi, ht⟩
theorem vals_int_at {ks : List Int} {us : List Value} (h : Vals (ks.map V.int) us) : ∀ (i : Nat) (v : Value), us[i]? = some v → ∃ k t, ks[i]? = some k ∧ v = Value.int k t := by
  intro i v hv
  have hl := h.length
  rw [List.length_map] at hl
  have hi : i < ks.length := by have := (List.getElem?_eq_some_iff.mp hv).1; omega
  obtain ⟨w, hw, t, ht⟩ := h.get (i := i) (x := .int ks[i]) (by simp [hi])
  rw [hv] at hw; cases hw
  exact ⟨ks[i], t, List.getElem?_eq_getElem hi, ht⟩
theorem strs_of : ∀ (l : List Value), (∀ v ∈ l, ∃ k tk, v = Value.str k tk) → ∀ f : Value → Str, (∀ k tk, f (.str k tk) = k) → StrsAre l (l.map f)
  | [], _, _, _ => .nil
  | v :: l, h, f, hf => by
    obtain ⟨k, tk, rfl⟩ := h v List.mem_cons_self
    rw [List.map_cons, hf]
    exact .cons k tk (strs_of l (fun u hu => h u (List.mem_cons_of_mem _ hu)) f hf)
theorem ints_of' : ∀ (l : List Value), (∀ v ∈ l, ∃ k tk, v = Value.int k tk) → ∀ f : Value → Int, (∀ k tk, f (.int k tk) = k) → IntsAre l (l.map f)
  | [], _, _, _ => .nil
  | v :: l, h, f, hf => by
    obtain ⟨k, tk, rfl⟩ := h v List.mem_cons_self
    rw [List.map_cons, hf]
    exact .cons k tk (ints_of' l (fun u hu => h u (List.mem_cons_of_mem _ hu)) f hf)
/-! ints in order -/
def insI (x : Int) : List Int → List Int
  | [] => [x]
  | y :: r => if y < x then y :: insI x r else x :: y :: r
def sortI : List Int → List Int
  | [] => []
  | x :: r => insI x (sortI r)
theorem insI_perm (x : Int) : ∀ l, (insI x l).Perm (x :: l)
  | [] => .refl _
  | y :: r => by
    unfold insI
    split
    · exact ((insI_perm x r).cons y).trans (.swap _ _ _)
    · exact .refl _
theorem sortI_perm : ∀ l, (sortI l).Perm l
  | [] => .refl _
  | x :: r => (insI_perm x _).trans ((sortI_perm r).cons x)
theorem insI_up (x : Int) : ∀ l : List Int, l.Pairwise (· ≤ ·) → (insI x l).Pairwise (· ≤ ·)
  | [], _ => by unfold insI; simp
  | y :: r, h => by
    obtain ⟨h1, h2⟩ := List.pairwise_cons.mp h
    unfold insI
    split
    · rename_i hl
      refine List.pairwise_cons.mpr ⟨fun z hz => ?_, insI_up x r h2⟩
      rcases List.mem_cons.mp ((insI_perm x r).mem_iff.mp hz) with e | e
      · subst e; omega
      · exact h1 z e
    · rename_i hl
      refine List.pairwise_cons.mpr ⟨fun z hz => ?_, h⟩
      rcases List.mem_cons.mp hz with e | e
      · subst e; omega
      · have := h1 z e; omega
theorem sortI_up : ∀ l, (sortI l).Pairwise (· ≤ ·)
  | [] => List.Pairwise.nil
  | x :: r => insI_up x _ (sortI_up r)
theorem upI_uniq : ∀ (l m : List Int), l.Perm m → l.Pairwise (· ≤ ·) → m.Pairwise (· ≤ ·) → l = m
  | [], m, p, _, _ => by rw [List.nil_perm.mp p]
  | x :: l, [], p, _, _ => by have := p.length_eq; simp at this
  | x :: l, y :: m, p, h, k => by
    obtain ⟨h1, h2⟩ := List.pairwise_cons.mp h
    obtain ⟨k1, k2⟩ := List.pairwise_cons.mp k
    have hx : x = y := by
      have a : y ≤ x := by
        rcases List.mem_cons.mp (p.mem_iff.mp List.mem_cons_self) with e | e
        · omega
        · exact k1 x e
      have b : x ≤ y := by
        rcases List.mem_cons.mp (p.mem_iff.mpr (List.mem_cons_self : y ∈ y :: m)) with e | e
        · omega
        · exact h1 y e
      omega
    subst hx
    rw [upI_uniq l m (List.perm_cons _ |>.mp p) h2 k2]
section
variable {P : Program} {w : World} {A : Around} {E : Value → Shared → Prop} {s : Shared} {a : Addr}
theorem sorted_atS {ks : List Str} {Q : Value → Shared → Prop} (R : (skS P w).At s.heap a ks) (hh : A.handled = none)
    (hQ : ∀ s' p (out : Array Value) (c : Nat), (∀ b o, s.heap.get? b = some o → s'.heap.get? b = some o) → s'.gens = s.gens → s'.os = s.os → s.heap.objs.size ≤ p →
      s'.heap.get? p = some (seqObj "list" out c) → StrsAre out.toList (sortS ks) → Q (.ref p) s') :
    wpAny (model P w) A (call (.builtin "sorted") [.ref a]) Q E s := by
  obtain ⟨o, es, ep, t, ho, hex, hd, g, pk, nd, hb, hf, hr, hl⟩ := R
  refine Calls.call_function_entry kind_sorted plain_sorted entry_sorted (args_sorted1 _) ?_
  unfold Builtin.«sorted»
  refine wpAny_bind (m := checkCount "sorted" 1 1 _) (wpAny_pure ?_)
  refine wpAny_bind (collect_set (A := A.in1) hh ⟨o, ho, hex.1, hd⟩ hf hb hr hl fun s1 vs k1 hz g1 o1 pm => ?_)
  have hvl : vs.length = es.size := by rw [pm.length_eq, List.length_map, Array.length_toList]
  have hsl : vs.length ≤ sizeLine := by rw [hvl]; exact fits_of_scanBound hb
  have hI : StrsAre vs (vs.map (skS P w).of) := strs_of vs (fun v hv => by
    obtain ⟨e, he, q⟩ := List.mem_map.mp (pm.mem_iff.mp hv)
    obtain ⟨k, tk, h1, _⟩ := g e he
    exact ⟨k, tk, by rw [← q]; exact h1⟩) _ fun _ _ => rfl
  have pv : (vs.map (skS P w).of).Perm ks := by
    have q := pm.map (skS P w).of
    rw [List.map_map] at q
    exact q.trans pk
  refine wpAny_bind (wpAny_newList ?_ hsl)
  have hoL : (s1.heap.push (seqObj "list" vs.toArray 0)).get? s1.heap.objs.size = some (seqObj "list" vs.toArray 0) := Heap.get?_push_size _ rfl
  refine wpAny_bind (wpAny_holding (wpAny_call_entry slot_list_sort ⟨_, hoL, rfl⟩ entry_list_sort (list_sort_treeKAny strKind_oneLt hoL hI.keysOf (fun v₁ v₂ rest e => keyKind_strs (by rw [← e]; exact hI)) hsl fun st' hp hs => ⟨_, rfl, ?_⟩) (args_list_sort _)))
  obtain ⟨ys, h1, h2, h3⟩ := sorted_out_str hI hp hs
  obtain ⟨c, hc⟩ := sortedHeap_at (vs := vs) (out := (arrOf st').map (·.2)) hoL
  have ey : ys = sortS ks := sorted_is (h2.trans pv) h3
  refine wpAny_pure ⟨_, rfl, hQ _ s1.heap.objs.size _ c (fun b u e => ?_) g1 o1 hz hc (ey ▸ h1)⟩
  have q := k1 b u e
  have hlt := Heap.lt_size q
  show (sortedHeap (s1.heap.push (seqObj "list" vs.toArray 0)) s1.heap.objs.size vs _).get? b = some u
  rw [sortedHeap_old (Nat.ne_of_lt hlt) (by rw [size_push']; exact Nat.lt_succ_of_lt hlt)]
  exact Heap.get?_push_of_some _ q
theorem sorted_atI {ks : List Int} {Q : Value → Shared → Prop} (R : (skI P w).At s.heap a ks) (hh : A.handled = none)
    (hQ : ∀ s' p (out : Array Value) (c : Nat), (∀ b o, s.heap.get? b = some o → s'.heap.get? b = some o) → s'.gens = s.gens → s'.os = s.os → s.heap.objs.size ≤ p →
      s'.heap.get? p = some (seqObj "list" out c) → IntsAre out.toList (sortI ks) → Q (.ref p) s') :
    wpAny (model P w) A (call (.builtin "sorted") [.ref a]) Q E s := by
  obtain ⟨o, es, ep, t, ho, hex, hd, g, pk, nd, hb, hf, hr, hl⟩ := R
  refine Calls.call_function_entry kind_sorted plain_sorted entry_sorted (args_sorted1 _) ?_
  unfold Builtin.«sorted»
  refine wpAny_bind (m := checkCount "sorted" 1 1 _) (wpAny_pure ?_)
  refine wpAny_bind (collect_set (A := A.in1) hh ⟨o, ho, hex.1, hd⟩ hf hb hr hl fun s1 vs k1 hz g1 o1 pm => ?_)
  have hvl : vs.length = es.size := by rw [pm.length_eq, List.length_map, Array.length_toList]
  have hsl : vs.length ≤ sizeLine := by rw [hvl]; exact fits_of_scanBound hb
  have hI : IntsAre vs (vs.map (skI P w).of) := ints_of' vs (fun v hv => by
    obtain ⟨e, he, q⟩ := List.mem_map.mp (pm.mem_iff.mp hv)
    obtain ⟨k, tk, h1, _⟩ := g e he
    exact ⟨k, tk, by rw [← q]; exact h1⟩) _ fun _ _ => rfl
  have pv : (vs.map (skI P w).of).Perm ks := by
    have q := pm.map (skI P w).of
    rw [List.map_map] at q
    exact q.trans pk
  refine wpAny_bind (wpAny_newList ?_ hsl)
  have hoL : (s1.heap.push (seqObj "list" vs.toArray 0)).get? s1.heap.objs.size = some (seqObj "list" vs.toArray 0) := Heap.get?_push_size _ rfl
  refine wpAny_bind (wpAny_holding (wpAny_call_entry slot_list_sort ⟨_, hoL, rfl⟩ entry_list_sort (list_sort_treeAny hoL hI hsl fun out ys h1 h2 h3 => ⟨_, rfl, ?_⟩) (args_list_sort _)))
  obtain ⟨c, hc⟩ := sortedHeap_at (vs := vs) (out := out) hoL
  have ey : ys = sortI ks := upI_uniq _ _ ((h2.trans pv).trans (sortI_perm ks).symm) h3 (sortI_up ks)
  refine wpAny_pure ⟨_, rfl, hQ _ s1.heap.objs.size _ c (fun b u e => ?_) g1 o1 hz hc (ey ▸ h1)⟩
  have q := k1 b u e
  have hlt := Heap.lt_size q
  show (sortedHeap (s1.heap.push (seqObj "list" vs.toArray 0)) s1.heap.objs.size vs _).get? b = some u
  rw [sortedHeap_old (Nat.ne_of_lt hlt) (by rw [size_push']; exact Nat.lt_succ_of_lt hlt)]
  exact Heap.get?_push_of_some _ q
end
section
variable {X : Cx} {so : So} {W : WX}
def SqE (K : PySem.W.Frag) (H : Hp) (p : Addr) (vs : List V) : Prop := SqL K H p vs ∨ SqT K H p vs
def rSortSet (K : PySem.W.Frag) : List V → Hp → VK → Prop := fun vs H Q => ∃ p, vs = [.ref p] ∧
  ((∃ ks : List Str, SqE K H p (ks.map V.str) ∧ ks.length ≤ 1000 ∧ ∀ l, H l = none → Q (.ref l) (upd H l (.lst ((sortS (addsK [] ks)).map V.str)))) ∨
   (∃ ks : List Int, SqE K H p (ks.map V.int) ∧ ks.length ≤ 1000 ∧ ∀ l, H l = none → Q (.ref l) (upd H l (.lst ((sortI (addsK [] ks)).map V.int)))))
theorem pe_sortSet {a : Expr} {ta : TA} {p p2 q pos : Pos} (hc : X.calm = true) (hg : Gl X "sorted") (hm : X.mg "sorted" = none) (hg2 : Gl X "set") (hm2 : X.mg "set" = none) (ha : PA X [a] ta)
    (na : starEach [a] X.env = (false, eval a X.env) :: starEach [] X.env := by rfl) : PE X (.Call (.Name "sorted" p) [.Call (.Name "set" p2) [a] [] q] [] pos) (tCB (rSortSet X.K) ta) := by
  refine ⟨fun pins s σ H Q I h => ?_⟩
  refine Call_ (ld_blt I hg hm boot_sorted ?_)
  refine PyProof.Rows.callWith_builtin1 (PyProof.Rows.args_cons ?_ rfl) rfl rfl
  refine Call_ (ld_blt I hg2 hm2 PyProof.Rows.boot_set (PyProof.Rows.callWith_type1 (thn (ha.run q pins s σ H _ I h) fun us s1 ⟨vs, H1, I1, r1, q1⟩ => ?_) na rfl))
  obtain ⟨l, rfl, q1⟩ := q1
  rw [Vals.ref1 r1]
  have hd := I1.ok.hd hc
  rcases q1 with ⟨ks, hs, hk, q1⟩ | ⟨ks, hs, hk, q1⟩
  · have hb : ks.length + 1 < scanBound := by unfold scanBound; omega
    have fin : ∀ (h' : Heap) (tk : Nat), (skS X.prog X.w).At h' s1.heap.objs.size (addsK [] ks) → (∀ b o, s1.heap.get? b = some o → h'.get? b = some o) →
        wpAny (model X.prog X.w) X.A (spliced (backTo pos (starEach [] X.env))) (fun vs s₂ => wpAny (model X.prog X.w) X.A (call (.builtin "sorted") (Value.ref s1.heap.objs.size :: vs)) (EP X pins σ Q) X.xe s₂) X.xe { s1 with heap := h', toks := tk } := fun h' tk hS hk1 => by
      refine PyProof.Rows.args_nil ?_
      have I2 : Inv X pins σ H1 { s1 with heap := h', toks := tk } := I1.kept fun b o e => hk1 b o e
      refine sorted_atS (s := { s1 with heap := h', toks := tk }) hS hd fun s' p' out c k2 g2 o2 hp ho hst => ?_
      have hlen : ((sortS (addsK [] ks)).map V.str).length ≤ sizeLine := by
        have := addsK_len ks []
        rw [List.length_map, (sortS_perm _).length_eq, sizeLine_eq]
        simp only [List.length_nil] at this
        omega
      have hn : H1 p' = none := I2.hok.fresh hp
      have J := I2.call' (ch := []) o2 (Un.laid k2 hp hn) (I2.hok.laid (o := .lst ((sortS (addsK [] ks)).map V.str)) k2 hp ⟨hlen, out.toList, c, vals_of_strs hst, ho⟩) (by rw [g2]; exact I2.bare) (fun _ z => nomatch z)
      exact ⟨.ref p', _, J, rfl, q1 p' hn⟩
    rcases hs with hs | hs
    · obtain ⟨its, r, pl, hz⟩ := I1.list hs
      have hl : its.toArray.size = ks.length := by rw [List.size_toArray, ← r.length, List.length_map]
      exact SK.call_list (Z := skS X.prog X.w) ks hd pl.isList hl (fun i v hv => vals_str_at r i v (by simpa using hv)) hb fin
    · obtain ⟨its, r, pl, hz⟩ := I1.tuple hs
      have hl : its.toArray.size = ks.length := by rw [List.size_toArray, ← r.length, List.length_map]
      exact SK.call_tuple (Z := skS X.prog X.w) ks hd pl hl (fun i v hv => vals_str_at r i v (by simpa using hv)) hb fin
  · have hb : ks.length + 1 < scanBound := by unfold scanBound; omega
    have fin : ∀ (h' : Heap) (tk : Nat), (skI X.prog X.w).At h' s1.heap.objs.size (addsK [] ks) → (∀ b o, s1.heap.get? b = some o → h'.get? b = some o) →
        wpAny (model X.prog X.w) X.A (spliced (backTo pos (starEach [] X.env))) (fun vs s₂ => wpAny (model X.prog X.w) X.A (call (.builtin "sorted") (Value.ref s1.heap.objs.size :: vs)) (EP X pins σ Q) X.xe s₂) X.xe { s1 with heap := h', toks := tk } := fun h' tk hS hk1 => by
      refine PyProof.Rows.args_nil ?_
      have I2 : Inv X pins σ H1 { s1 with heap := h', toks := tk } := I1.kept fun b o e => hk1 b o e
      refine sorted_atI (s := { s1 with heap := h', toks := tk }) hS hd fun s' p' out c k2 g2 o2 hp ho hst => ?_
      have hlen : ((sortI (addsK [] ks)).map V.int).length ≤ sizeLine := by
        have := addsK_len ks []
        rw [List.length_map, (sortI_perm _).length_eq, sizeLine_eq]
        simp only [List.length_nil] at this
        omega
      have hn : H1 p' = none := I2.hok.fresh hp
      have J := I2.call' (ch := []) o2 (Un.laid k2 hp hn) (I2.hok.laid (o := .lst ((sortI (addsK [] ks)).map V.int)) k2 hp ⟨hlen, out.toList, c, vals_of_ints hst, ho⟩) (by rw [g2]; exact I2.bare) (fun _ z => nomatch z)
      exact ⟨.ref p', _, J, rfl, q1 p' hn⟩
    rcases hs with hs | hs
    · obtain ⟨its, r, pl, hz⟩ := I1.list hs
      have hl : its.toArray.size = ks.length := by rw [List.size_toArray, ← r.length, List.length_map]
      exact SK.call_list (Z := skI X.prog X.w) ks hd pl.isList hl (fun i v hv => vals_int_at r i v (by simpa using hv)) hb fin
    · obtain ⟨its, r, pl, hz⟩ := I1.tuple hs
      have hl : its.toArray.size = ks.length := by rw [List.size_toArray, ← r.length, List.length_map]
      exact SK.call_tuple (Z := skI X.prog X.w) ks hd pl hl (fun i v hv => vals_int_at r i v (by simpa using hv)) hb fin
end
end DL
end S_DL17
section S_DL18
set_option Elab.async false
set_option linter.all false
set_option autoImplicit false
set_option maxRecDepth 100000
set_option maxHeartbeats 4000000
/-! DL18: sorted(set(t)) on data. -/
namespace DL
open PySem PySem.Spec PyProof.Rows L2
section
variable {X : Cx} {so : So} {W : WX} {K : PySem.W.Frag} {B : Hp}
theorem intsD_is : ∀ {l : List D} {xs : List Int}, intsD l = some xs → l = xs.map D.int
  | [], xs, h => by cases h; rfl
  | .int x :: r, xs, h => by
    obtain ⟨ys, h1, rfl⟩ := Option.map_eq_some_iff.mp (show (intsD r).map (x :: ·) = some xs from h)
    rw [intsD_is h1]; rfl
  | .non :: _, _, h | .bl _ :: _, _, h | .str _ :: _, _, h | .tup _ :: _, _, h | .lst _ :: _, _, h | .dct _ :: _, _, h => by cases h
  | .xc .. :: _, _, h => by cases h
theorem Reps.ofInts' : ∀ {xs : List Int}, Reps K B (xs.map V.int) (xs.map D.int)
  | [] => .nil
  | x :: r => .cons (.int x) Reps.ofInts'
def seqD : D → Option (List D)
  | .lst l => some l
  | .tup l => some l
  | _ => none
def setSrtD (l : List D) : Option (List D) :=
  if l.length ≤ 1000 then
    match strsD l with
    | some xs => some ((sortS (addsK [] xs)).map D.str)
    | none => match intsD l with
      | some ns => some ((sortI (addsK [] ns)).map D.int)
      | none => none
  else none
def setSrtR : List D → Option (List D)
  | [.lst l] => setSrtD l
  | [.tup l] => setSrtD l
  | _ => none
theorem setSrt_go {H : Hp} {a : Addr} {vs : List V} {l z : List D} {Q : VK} (hs : SqE K H a vs) (hr : Reps K B vs l) (hz : setSrtD l = some z)
    (k : ∀ vs, Reps K B vs z → vs.length ≤ sizeLine → ∀ p, H p = none → Q (.ref p) (upd H p (.lst vs))) : rSortSet K [.ref a] H Q := by
  unfold setSrtD at hz
  split at hz
  · rename_i hn
    split at hz
    · rename_i xs hx
      cases hz
      rw [strsD_eq hx] at hr hn
      rw [hr.strs] at hs
      rw [List.length_map] at hn
      refine ⟨a, rfl, .inl ⟨xs, hs, hn, k _ Reps.ofStrs ?_⟩⟩
      have := addsK_len xs []
      rw [List.length_map, (sortS_perm _).length_eq, sizeLine_eq]
      simp only [List.length_nil] at this
      omega
    · split at hz
      · rename_i xs hx
        cases hz
        rw [intsD_is hx] at hr hn
        rw [hr.ints] at hs
        rw [List.length_map] at hn
        refine ⟨a, rfl, .inr ⟨xs, hs, hn, k _ Reps.ofInts' ?_⟩⟩
        have := addsK_len xs []
        rw [List.length_map, (sortI_perm _).length_eq, sizeLine_eq]
        simp only [List.length_nil] at this
        omega
      · cases hz
  · cases hz
theorem dr_setSrt : DRL K (rSortSet K) setSrtR := by
  intro B H xs ds z Q e p hz k
  unfold setSrtR at hz
  split at hz
  · obtain ⟨v, rfl, q⟩ := reps1 p
    obtain ⟨a, vs, rfl, h1, h2, h3⟩ := q.inLst
    exact setSrt_go (.inl (SqL.of (e _ _ h1))) h3 hz k
  · obtain ⟨v, rfl, q⟩ := reps1 p
    obtain ⟨a, vs, rfl, h1, h2, h3⟩ := q.inTup
    exact setSrt_go (.inr (e.sqt h1)) h3 hz k
  · cases hz
theorem cn_sortSet {a : Expr} {ta : TA} {fa : M (List D)} {p p2 q pos : Pos} (hc : X.calm = true) (hg : Gl X "sorted") (hm : X.mg "sorted" = none) (hg2 : Gl X "set") (hm2 : X.mg "set" = none) (ha : CA X so W [a] ta fa)
    (na : starEach [a] X.env = (false, eval a X.env) :: starEach [] X.env := by rfl) : CN X so W (.Call (.Name "sorted" p) [.Call (.Name "set" p2) [a] [] q] [] pos) (tCB (rSortSet X.K) ta) (dCallL setSrtR fa) :=
  ⟨pe_sortSet hc hg hm hg2 hm2 ha.pa na, dn_cb dr_setSrt ha.de⟩
end
end DL
end S_DL18
section S_DX1
set_option Elab.async false
set_option linter.all false
set_option autoImplicit false
set_option maxRecDepth 100000
set_option maxHeartbeats 4000000
/-! DX1: super().__init__(..) in the own __init__ of an exception class over ValueError. -/
namespace DX
open PySem PySem.Spec PyProof.Rows L2
/-- what is known of the def f (code cda, cell cc) of the class at C -/
structure SupF (X : Cx) (f cda cc C : Addr) (me : Str) : Prop where
  fn : ∃ oc od osl fd ar, X.K.lookup f = some ⟨oc, od, .func fd, osl⟩ ∧ (fd.params.posonlyargs ++ fd.params.args).head? = some ar ∧ ar.arg = me
  code : ∃ ccl cdd vs ccs file tf, X.K.lookup cda = some ⟨ccl, cdd, .fields vs, ccs⟩ ∧ vs[2]? = some (.str file tf) ∧ ((X.prog.main.file : Str) == file) = true
  cell : ∃ cl cld csl, X.K.lookup cc = some ⟨cl, cld, .cell (some (.ref C)), csl⟩
  mro : PySem.W.mroIn X.K C (.ref C) = some true
  sup : PySem.W.ks_superIn X.K C C "__init__" = some (some (.builtin "ValueError.__init__"))
  sub : PySem.W.subIn X.K (.ref C) (.type "ValueError") = some true
  any : PySem.W.nsIn X.K cStatics "thirdparty.any" = some none
  glob : X.mg "super" = none
  top : (X.prog.main.scope.names.lookup ("super" : Str)).isSome = false
  efn : X.env.func = some f
  eco : X.env.code = .ref cda
  ecl : X.env.cells.lookup ("__class__" : Str) = some cc
  kS : X.env.kindOf "super" = some .globalImplicit
  kC : X.env.kindOf "__class__" = some .free
  kSelf : X.env.kindOf me = some .local
  oex : OexC X.K C
theorem boot_super : bootBuiltins "super" = some (.type "super") := by decide +kernel
section
variable {X : Cx} {f cda cc C : Addr} {me : Str}
theorem sup_base {body : List Stmt} {p0 p1 : Pos} {pins : List (Addr × Obj)} {σ : L2.St} {H : Hp} {s : Shared} {a : Addr} {i : Nat} {whole : Sem Value} {E : Value → Shared → Prop} {Q : Value → Shared → Prop} (S : SupF X f cda cc C me) (I : Inv X pins σ H s) (hN : X.N[i]? = some me) (hσ : σ[i]? = some (some (.ref a)))
    (ea : H a = some (exo a C none))
    (h : ∀ so s', Inv X pins σ H s' → s'.heap.get? so = some (PySem.W.ks_superObj C a C) → Q (.ref so) s') :
    _root_.PySem.wpAt (model X.prog X.w) X.A (.func body X.env) (attributeBase (.Call (.Name "super" p0) [] [] p1) "__init__" X.env whole) Q E s := by
  obtain ⟨oc, od, osl, fd, ar, hf, hp, har⟩ := S.fn
  obtain ⟨ccl, cdd, vs, ccs, file, tf, hco, hvs, hfile⟩ := S.code
  obtain ⟨cl, cld, csl, hcell⟩ := S.cell
  obtain ⟨nm, q, N, bs, bm, sn, sub, ab, col, dd, k0, k1, k2, k3, k5, hC, hbm⟩ := S.oex.cls
  have XK := I.kIn
  obtain ⟨m, hns, hlook⟩ := I.loc
  have hv : m me = some (.ref a) := by
    obtain ⟨u, ru, hl⟩ := hlook i me _ hN hσ (.inl S.kSelf)
    rcases hl with ⟨_, hm⟩ | ⟨hk, _⟩
    · cases (show u = Value.ref a from ru); exact hm
    · rw [S.kSelf] at hk; rcases hk with hk | hk <;> cases hk
  obtain ⟨mb, hb1, hb2⟩ := I.mod.blt
  obtain ⟨t1, hx⟩ := exo_at I.hok ea
  refine ks_wpAt_super_base S.kS S.kC (by decide) S.efn (XK _ _ hf) rfl hp S.eco (XK _ _ hco) rfl hvs hfile S.top ?_
  refine PySem.W.ks_loadName_global I.ok.kind S.kS (Calls.loadGlobal_builtin (by rw [I.ok.glob]; exact I.mod.glob.keeps I.bk) S.glob (by rw [I.ok.blt]; exact hb1.keeps I.bk) ((hb2 _ (by decide)).trans boot_super) ⟨rfl, ?_⟩)
  refine wpAny_loadName_free I.ok.kind S.kC S.ecl ⟨_, XK _ _ hcell, rfl⟩ ?_
  rw [har]
  refine wpAny_loadName_local I.ok.kind S.kSelf hns hv ?_
  obtain ⟨hh, g, d, t, os⟩ := s
  refine ks_wpAny_isType_cls (XK _ _ hC) rfl ⟨rfl, ?_⟩
  refine ks_wpAny_call_super (XK _ _ hC) rfl hx rfl (fun c e => by cases e) (PySem.W.looks_mroIn XK S.mro) (fun h' e k => ?_)
  exact h _ _ (I.kept (t' := t) k) e
end
end DX
end S_DX1
section S_DX2
set_option Elab.async false
set_option linter.all false
set_option autoImplicit false
set_option maxRecDepth 100000
set_option maxHeartbeats 4000000
/-! DX2: the __init__ bound, called. -/
namespace DX
open PySem PySem.Spec PyProof.Rows L2
section
variable {X : Cx} {f cda cc C : Addr} {me : Str}
theorem sup_call {pins : List (Addr × Obj)} {σ : L2.St} {H : Hp} {s : Shared} {a so : Addr} {e : Expr} {es : List Expr} {ta : TA} {pos : Pos} {pl : Sem Bool} {qq : L2.St → Hp → Prop} (S : SupF X f cda cc C me) (I : Inv X pins σ H s) (ea0 : ∃ H0, H0 = H ∧ H a = some (exo a C none))
    (hso : s.heap.get? so = some (PySem.W.ks_superObj C a C)) (ha : PA X (e :: es) ta)
    (h : ta σ H fun vs H1 => vs.length ≤ 1000 ∧ H1 a = some (exo a C none) ∧ qq σ H1)
    (he : starEach (e :: es) X.env = (false, eval e X.env) :: starEach es X.env) (hpl : (backTo pos (starEach es X.env)).any (·.1) = false) :
    wpAny (model X.prog X.w) X.A (getMethod (.ref so) "__init__" pl) (fun fx s₂ => wpAny (model X.prog X.w) X.A (callWith pos fx.1 fx.2 (backTo pos (starEach (e :: es) X.env)) [])
      (fun _ s' => ∃ H1, Inv X pins σ H1 s' ∧ qq σ H1) X.xe s₂) X.xe s := by
  obtain ⟨_, _, ea⟩ := ea0
  obtain ⟨nm, q, N, bs, bm, sn, sub, ab, col, dd, k0, k1, k2, k3, k5, hC, hbm⟩ := S.oex.cls
  have hcl : ∃ cd, PySem.W.clsIn X.K C = some cd ∧ cd.mro = .ref C :: bm := ⟨_, by unfold PySem.W.clsIn; rw [hC] <;> rfl, rfl⟩
  obtain ⟨cd, hcd, hmro⟩ := hcl
  have XK := I.kIn
  obtain ⟨t1, hx⟩ := exo_at I.hok ea
  have I0 : PySem.W.InstAt s.heap a { cls := .ref C, dict := none, data := .fields #[.ref t1, .none, .none, .none, .bool false, .none] } C none := ⟨hx, rfl, rfl, trivial⟩
  have hI : PySem.W.Looks (model X.prog X.w) s.heap (isInstance (.ref a) (.type "ValueError")) true := I0.type.andThen (PySem.W.looks_subIn XK S.sub)
  have hm := S.sup
  unfold PySem.W.ks_superIn at hm
  rw [hcd] at hm
  have hne : a ≠ C := PySem.W.ks_ne XK I0 hcd
  obtain ⟨hh, g, d, t, os⟩ := s
  refine PySem.W.kxs_getMethod PySem.W.kxs_ValueError hso (PySem.W.looks_opaque XK S.any) (l₀ := cd.mro) ?_ rfl XK hm hI hne (by decide) ?_
  · exact fun A Q E s k q => wpAny_bind ((PySem.W.looks_clsIn XK hcd) A _ E s k (wpAny_pure q))
  have k1 : ∀ b o, hh.get? b = some o → (hh.push (PySem.W.kxs_mw "ValueError.__init__" a)).get? b = some o := fun b o e => Heap.get?_push_of_some _ e
  have hu : (hh.push (PySem.W.kxs_mw "ValueError.__init__" a)).get? hh.objs.size = some (PySem.W.kxs_mw "ValueError.__init__" a) := Heap.get?_push_size _ rfl
  have I1 : Inv X pins σ H ⟨hh.push (PySem.W.kxs_mw "ValueError.__init__" a), g, d, t + 1, os⟩ := I.kept (t' := t + 1) k1
  have I2 : Inv X ((hh.objs.size, PySem.W.kxs_mw "ValueError.__init__" a) :: pins) σ H ⟨hh.push (PySem.W.kxs_mw "ValueError.__init__" a), g, d, t + 1, os⟩ := I1.pins_of fun p hp => by
    rcases List.mem_cons.mp hp with z | z
    · subst z
      refine ⟨hu, I.hok.fresh (Nat.le_refl _), ?_, ?_, fun v z => by cases z⟩
      · obtain ⟨m, hn, _⟩ := I.loc
        obtain ⟨oL, es, ep, hL, _⟩ := hn
        exact Nat.ne_of_gt (Heap.lt_size hL)
      · exact I.nofs (Nat.le_refl _)
    · exact I1.pin p (List.mem_append_right _ z)
  show wpAny _ _ (callWith pos (Value.ref hh.objs.size) [] (backTo pos (starEach (e :: es) X.env)) []) _ _ _
  rw [he]
  refine PySem.W.kxs_callWith (i := "ValueError.__init__") (x := a) (by show (false || (backTo pos (starEach es X.env)).any (·.1)) = false; rw [hpl]; rfl) ?_
  refine Calls.evalArgs_plain ?_
  have hr := ha.run pos _ _ σ H _ I2 h
  rw [he] at hr
  refine wpAny_mono hr (fun us s1 hz => ?_) fun _ _ z => z
  obtain ⟨vs, H1, J, r1, hl, e1, hq⟩ := hz
  have hu1 : s1.heap.get? hh.objs.size = some (PySem.W.kxs_mw "ValueError.__init__" a) := (J.pin _ (List.mem_append_right _ List.mem_cons_self)).1
  refine ⟨hu1, ?_⟩
  have J0 : Inv X pins σ H1 s1 := J.pins_of fun p hp => J.pin p (List.mem_append_right _ (List.mem_cons_of_mem _ hp))
  obtain ⟨t2, hx1⟩ := exo_at J0.hok e1
  have hus : us.length ≤ sizeLine := by
    rw [← Paired.length r1, sizeLine_eq]
    omega
  have hC1 := J0.kIn _ _ hC
  obtain ⟨hp, g1, d1, tk, os1⟩ := s1
  refine wpAny_call (codeAny_of_tree ?_)
  show wpAny _ X.A.in1 (callAny (.ref hh.objs.size) ⟨us, []⟩) _ _ _
  simp only [callAny]
  refine wpAny_bind (wpAny_load hu1 ?_)
  simp only [PySem.W.kxs_mw, show (Value.type "method-wrapper" == Value.type "method" || Value.type "method-wrapper" == Value.type "builtin_function_or_method" || Value.type "method-wrapper" == Value.type "method-wrapper") = true by decide, if_true]
  refine PySem.W.KFB.if_so (by decide) ?_
  refine wpAny_bind (PySem.W.check_bound_init PySem.F.excBase_ValueError.toExcCallFacts hC1 hx1 rfl ?_)
  refine wpAny_bind (wpAny_pure (wpAny_pure ?_))
  refine ⟨plainId_quiet PySem.F.excBase_ValueError.init.plain _, codeAny_builtin PySem.F.excBase_ValueError.initEntry ?_⟩
  refine PySem.W.exc_init_tree (cls := .ref C) (t0 := t2) (dv := none) (c2 := .none) (c3 := .none) (b4 := .bool false) hx1 hus fun h' k e' t' => ?_
  have W := J0.write (t' := tk) (x := a) (e := a) (o := exo a C none) (by rw [e1]; exact True.intro) (.inl rfl) k ⟨_, e'⟩ (exo_ok e')
  have eu : upd H1 a (exo a C none) = H1 := by
    funext b
    by_cases hb : b = a
    · rw [hb, upd_same, e1]
    · rw [upd_ne hb]
  rw [eu] at W
  exact ⟨_, W, hq⟩
end
end DX
end S_DX2
section S_DX3
set_option Elab.async false
set_option linter.all false
set_option autoImplicit false
set_option maxRecDepth 100000
set_option maxHeartbeats 4000000
/-! DX3: a def whose body begins with super().__init__(..). -/
namespace DX
open PySem PySem.Spec PyProof.Rows L2 NdefX
section
variable {CX : CXT} {P : Program} {w : World} {K : PySem.W.Frag} {mg : Str → Option Value} {base : Heap} {k : Nat} {f cc cda : Addr} {name qual me : Str} {params : Arguments} {scope : Scope} {dV kV doc pm ct oc : Value} {an od : Option Addr}
    {osl : Array (Option Value)} {N ps : List Str} {sp : Sp} {p0 p1 p2 p3 p4 : Pos} {e : Expr} {es : List Expr} {rest : List Stmt}
abbrev supBody (p0 p1 p2 p3 p4 : Pos) (e : Expr) (es : List Expr) (rest : List Stmt) : List Stmt := .Expr (.Call (.Attribute (.Call (.Name "super" p0) [] [] p1) "__init__" p2) (e :: es) [] p3) p4 :: rest
abbrev supNF (name qual : Str) (params : Arguments) (body : List Stmt) (scope : Scope) (cc cda : Addr) : NF := ⟨name, qual, params, body, scope, [("__class__", cc)], cda⟩
abbrev supX (CX : CXT) (P : Program) (w : World) (K : PySem.W.Frag) (mg : Str → Option Value) (base : Heap) (N : List Str) (F : NF) (f : Addr) (A : Around) (outer : List Env) (s : Shared) (H : Hp) (E : XK) : Cx := ncx CX P w K mg base N F f A outer s H E
theorem fn_sup (lk : K.lookup f = some ⟨oc, od, .func (PySem.W.fnX name qual params (supBody p0 p1 p2 p3 p4 e es rest) scope [("__class__", cc)] dV kV doc pm an (.ref cda) ct), osl⟩) (hcd : PySem.W.codeIn K (.ref cda) qual = true)
    (S : NScope N ps ["__class__"] scope) (hme : ps[0]? = some me) (lc : ∃ cl cld v csl, K.lookup cc = some ⟨cl, cld, .cell v, csl⟩) (len : ∀ vs H Q E, sp vs H Q E → vs.length = ps.length)
    (hbody : ∀ (A : Around) (outer : List Env) (s : Shared) (H : Hp) (vs : List V) (Q : VK) (E : XK), Room k (A.deeper (envF (supNF name qual params (supBody p0 p1 p2 p3 p4 e es rest) scope cc cda) f s.heap.objs.size)) → sp vs H Q E →
      ∃ a C ta t, vs[0]? = some (.ref a) ∧ H a = some (exo a C none) ∧ SupF (ncx CX P w K mg base N (supNF name qual params (supBody p0 p1 p2 p3 p4 e es rest) scope cc cda) f A outer s H E) f cda cc C me ∧
        PA (ncx CX P w K mg base N (supNF name qual params (supBody p0 p1 p2 p3 p4 e es rest) scope cc cda) f A outer s H E) (e :: es) ta ∧ PSs (ncx CX P w K mg base N (supNF name qual params (supBody p0 p1 p2 p3 p4 e es rest) scope cc cda) f A outer s H E) rest t ∧
        ta (startF N vs [none]) H (fun vs1 H1 => vs1.length ≤ 1000 ∧ H1 a = some (exo a C none) ∧ t { nx := fun _ H' => Q .non H', rt := Q } (startF N vs [none]) H1))
    (he : ∀ L, starEach (e :: es) (envF (supNF name qual params (supBody p0 p1 p2 p3 p4 e es rest) scope cc cda) f L) = (false, eval e (envF (supNF name qual params (supBody p0 p1 p2 p3 p4 e es rest) scope cc cda) f L)) :: starEach es (envF (supNF name qual params (supBody p0 p1 p2 p3 p4 e es rest) scope cc cda) f L) := by intro _; rfl)
    (hpl : ∀ L, (backTo p3 (starEach es (envF (supNF name qual params (supBody p0 p1 p2 p3 p4 e es rest) scope cc cda) f L))).any (·.1) = false := by intro _; rfl)
    (hsw : ∀ L, swapsWith (.Call (.Attribute (.Call (.Name "super" p0) [] [] p1) "__init__" p2) (e :: es) [] p3) none p4.line (envF (supNF name qual params (supBody p0 p1 p2 p3 p4 e es rest) scope cc cda) f L) = pure false := by intro _; rfl)
    (hev : ∀ L, ∃ pl, eval (.Call (.Attribute (.Call (.Name "super" p0) [] [] p1) "__init__" p2) (e :: es) [] p3) (envF (supNF name qual params (supBody p0 p1 p2 p3 p4 e es rest) scope cc cda) f L) = (do
      let ov ← attributeBase (.Call (.Name "super" p0) [] [] p1) "__init__" (envF (supNF name qual params (supBody p0 p1 p2 p3 p4 e es rest) scope cc cda) f L) (eval (.Call (.Name "super" p0) [] [] p1) (envF (supNF name qual params (supBody p0 p1 p2 p3 p4 e es rest) scope cc cda) f L))
      standAt p2.atName
      let (fm, first) ← holding [ov] (getMethod ov "__init__" pl)
      callWith p3 fm first (backTo p3 (starEach (e :: es) (envF (supNF name qual params (supBody p0 p1 p2 p3 p4 e es rest) scope cc cda) f L))) []) := by intro _; exact ⟨_, rfl⟩)
    (hint : ∀ L, interactive (envF (supNF name qual params (supBody p0 p1 p2 p3 p4 e es rest) scope cc cda) f L) = false := by intro _; rfl) :
    FnOk P w K mg base CX (k + 1) f (PySem.W.fnX name qual params (supBody p0 p1 p2 p3 p4 e es rest) scope [("__class__", cc)] dV kV doc pm an (.ref cda) ct) ps sp := by
  refine ⟨len, fun A outer s H args us vs Q E hr e0 hb r hsp => ?_⟩
  have hl := len _ _ _ _ hsp
  have KX : K.In s.heap := e0.mod.kin.keeps fun b o e => (e0.bs b o e).1
  have lim : s.heap.NoLimit := e0.mod.nolimit.keeps fun b o e => (e0.bs b o e).1
  obtain ⟨cl, cld, cv, csl, hcc⟩ := lc
  have CE0 : CellsAt [("__class__", cc)] ["__class__"] [none] s.heap H := {
    len := rfl
    all := fun y c hy => by
      by_cases hq : y = "__class__"
      · subst hq
        have : c = cc := by simpa [List.lookup] using hy.symm
        subst this
        have q := e0.bs _ _ (e0.mod.kin _ _ hcc)
        exact ⟨q.2, _, _, q.1, rfl⟩
      · have : (y == ("__class__" : Str)) = false := by simpa using hq
        simp [List.lookup, this] at hy
    inj := fun x y c hx hy => by
      have go : ∀ z, List.lookup z [(("__class__" : Str), cc)] = some c → z = "__class__" := fun z hz => by
        by_cases hq : z = "__class__"
        · exact hq
        · have : (z == ("__class__" : Str)) = false := by simpa using hq
          simp [List.lookup, this] at hz
      rw [go x hx, go y hy]
    has := fun i y hy => by
      cases i with
      | zero =>
        have : y = "__class__" := by simpa using hy.symm
        subst this
        exact ⟨cc, by simp [List.lookup], fun v hv => by simp at hv⟩
      | succ i => simp at hy }
  refine ks_codeAny_call_defAt (fd := PySem.W.fnX name qual params (supBody p0 p1 p2 p3 p4 e es rest) scope [("__class__", cc)] dV kV doc pm an (.ref cda) ct) (body := supBody p0 p1 p2 p3 p4 e es rest) (binds := ps.zip us) hr.depth (KX _ _ lk) rfl lim (PySem.W.codeRec_of KX hcd) rfl hb S.nocell (fun ⟨n, _⟩ hy => S.par n (List.of_mem_zip hy).1) (fun h₁ hns kp => ?_) S.co S.gen S.kind
  obtain ⟨a, C, ta, t, hv0, ea, SF, ha, ht, hq⟩ := hbody A outer s H vs Q E (hr.deeper _) hsp
  have I : Inv (ncx CX P w K mg base N (supNF name qual params (supBody p0 p1 p2 p3 p4 e es rest) scope cc cda) f A outer s H E) [] (startF N vs [none]) H { s with heap := h₁, toks := s.toks + (ps.zip us).length } := inv_startN S hr.hd e0 hl r CE0 hns kp
  have fin : ∀ {σ' : L2.St} {H' : Hp} {v : V} {u : Value} {s' : Shared}, Inv (ncx CX P w K mg base N (supNF name qual params (supBody p0 p1 p2 p3 p4 e es rest) scope cc cda) f A outer s H E) [] σ' H' s' → L2.RelV v u → Q v H' → CE outer P w H s Q u s' :=
    fun {σ' H' v u s'} J rv q => ⟨v, H', J.os, J.bare, J.base, J.hok, rv, q⟩
  have hN0 : N[0]? = some me := by
    have q : (N.take (ps.length + 1))[0]? = (ps ++ [("__class__" : Str)])[0]? := congrArg (fun l : List Str => l[0]?) S.pre
    rw [List.getElem?_take_of_lt (by omega)] at q
    rw [q, List.getElem?_append_left (List.getElem?_eq_some_iff.mp hme).1, hme]
  have hσ0 : (startF N vs [none])[0]? = some (some (.ref a)) := by
    have h0 : 0 < vs.length := (List.getElem?_eq_some_iff.mp hv0).1
    unfold startF
    rw [List.getElem?_append_left (by rw [List.length_map]; exact h0), List.getElem?_map, hv0]
    rfl
  show _root_.PySem.wpAt _ _ (.func (supBody p0 p1 p2 p3 p4 e es rest) (envF (supNF name qual params (supBody p0 p1 p2 p3 p4 e es rest) scope cc cda) f s.heap.objs.size)) (execs (supBody p0 p1 p2 p3 p4 e es rest) (envF (supNF name qual params (supBody p0 p1 p2 p3 p4 e es rest) scope cc cda) f s.heap.objs.size)) _ _ _
  obtain ⟨pl, hpl2⟩ := hev s.heap.objs.size
  refine ks_wpAt_execs_cons (ks_wpAt_Expr_any (ks_wpAt_MethodCall (pl := pl) (sup_base SF I hN0 hσ0 ea fun so s' J hso => ?_) hpl2) (hint _) (hsw _))
  refine wpAny_mono (sup_call (qq := fun σ' H1 => t { nx := fun _ H' => Q .non H', rt := Q } σ' H1) SF J ⟨H, rfl, ea⟩ hso ha hq (he _) (hpl _)) (fun fx s2 h2 => ?_) fun _ _ z => z
  refine wpAny_mono h2 (fun _ s3 h3 => ?_) fun _ _ z => z
  obtain ⟨H1, J3, q3⟩ := h3
  refine wpAt_of_wpAny (wpAny_mono (ht.run [] _ _ H1 _ J3 q3) (fun fl s' hs => ?_) fun _ _ z => z)
  cases fl with
  | ret u =>
    obtain ⟨v, σ', H', J, rv, q⟩ := hs
    exact fin J rv q
  | next =>
    obtain ⟨σ', H', J, q⟩ := hs
    exact fin (v := V.non) (u := Value.none) J rfl q
  | brk =>
    obtain ⟨_, _, _, q⟩ := hs
    exact False.elim q
  | cont =>
    obtain ⟨_, _, _, q⟩ := hs
    exact False.elim q
end
end DX
end S_DX3
section S_DX4
set_option Elab.async false
set_option linter.all false
set_option autoImplicit false
set_option maxRecDepth 100000
set_option maxHeartbeats 4000000
/-! DX4: raise C(i), C's own __init__ laying one field. -/
namespace DL
open PySem PySem.Spec PyProof.Rows L2
/-- what C's __init__(me, i) promises -/
def spI (C : Addr) (fld : Str) : Sp := fun vs H Q _ => ∃ a y, vs = [.ref a, y] ∧ (∃ n : Int, y = .int n ∧ n.natAbs.log2 < 1920) ∧ H a = some (exo a C none) ∧ ∀ dx, H dx = none → dx ≠ a → Q .non (upd (upd H dx (exd dx [(fld, y)])) a (exo a C (some dx)))
/-- an own exception class with an own __init__ -/
structure InitF (P : Program) (w : World) (K : PySem.W.Frag) (mg : Str → Option Value) (base : Heap) (k : Nat) (n fld : Str) : Prop where
  T : OexC K (He.ga K n)
  g : mg n = some (.ref (He.ga K n))
  ex : ∃ fI fd ps, PySem.W.findIn K (.ref (He.ga K n)) "__init__" = some (some (.ref fI)) ∧ PySem.W.typeIn K (.ref fI) = some (.type "function") ∧ Binds K fd ps [] ∧ FnOk P w K mg base CX0 k fI fd ps (spI (He.ga K n) fld)
def fRaiseI (n fld : Str) (fa : M (List D)) : M Fl := do
  let l ← fa
  match l with
  | [.int i] => if i.natAbs.log2 < 1920 then fun s => .ex (.xc n [(fld, .int i)]) s else stk
  | _ => stk
theorem laid_xd {H : Hp} {a dx C : Addr} {fld : Str} {y : V} (ha : H a = none) (hne : dx ≠ a) :
    upd (del (upd (upd (upd H a (exo a C none)) dx (exd dx [(fld, y)])) a (exo a C (some dx))) a) dx (.xd [(fld, y)]) = upd H dx (.xd [(fld, y)]) := by
  funext b
  by_cases hd : b = dx
  · subst hd; rw [upd_same, upd_same]
  · rw [upd_ne hd, upd_ne hd]
    by_cases hb : b = a
    · subst hb; rw [del_same, ha]
    · rw [del_ne hb, upd_ne hb, upd_ne hd, upd_ne hb]
section
variable {X : Cx} {so : So} {W : WX}
theorem cs_raiseI {e : Expr} {ta : TA} {fa : M (List D)} {p pos pos2 : Pos} {n fld : Str} {k : Nat} (hc : X.calm = true) (tk : Takes X W) (F : InitF X.prog X.w X.K X.mg X.base k n fld) (hr : Room (k + 1) X.A) (hg : Gl X n) (ha : CA X so W [e] ta fa)
    (hdb : (n == ("__debug__" : Str)) = false := by decide) (he : starEach [e] X.env = (false, eval e X.env) :: starEach [] X.env := by rfl) (hpl : (backTo pos (starEach [] X.env)).any (·.1) = false := by rfl) :
    CS X so W (.Raise (some (.Call (.Name n p) [e] [] pos)) none pos2) (fun _ σ H => tMkO (He.ga X.K n) (spI (He.ga X.K n) fld) [] ta σ H fun cls d H' => W cls d σ H') (fRaiseI n fld fa) := by
  obtain ⟨fI, fd, ps, iC, tI, hb, F1⟩ := F.ex
  refine ⟨ps_raise hc tk (pmk_oex F.T iC tI F1 hr hb .nil pass0 hg F.g ha.pa hdb he hpl), fun β B H σ s Z r h => ?_⟩
  refine ha.de β B H σ s _ r ((post_bnd h).imp (fun l s1 k1 vs B1 H1 e1 r1 p1 => ?_) fun _ _ q => q)
  split at k1
  · rename_i i
    by_cases hi : i.natAbs.log2 < 1920
    · rw [if_pos hi] at k1
      obtain ⟨v, rfl, q⟩ := reps1 p1
      cases q
      refine ⟨by simp, fun a hn => ⟨a, .int i, rfl, ⟨i, rfl, hi⟩, upd_same, fun dx hdx hne => ⟨rfl, dx, [(fld, .int i)], upd_same, ?_, ?_, ?_⟩⟩⟩
      · rw [upd_ne hne, upd_same]
      · rw [upd_ne hne] at hdx; exact hdx
      · rw [laid_xd hn hne]
        rw [upd_ne hne] at hdx
        have g : Gr none B1 H1 (upd B1 dx (.xd [(fld, .int i)])) (upd H1 dx (.xd [(fld, .int i)])) := Gr.new r1.ext hdx
        exact k1 _ (some dx) σ _ _ (e1.trans g.b) (r1.gr g) ⟨rfl, dx, _, rfl, upd_same, rfl, .int i, trivial⟩
    · rw [if_neg hi] at k1; exact k1.elim
  · exact k1.elim
end
end DL
end S_DX4
section S_W12
set_option Elab.async false
set_option linter.all false
set_option autoImplicit false
set_option maxRecDepth 100000
set_option maxHeartbeats 4000000
namespace K12
open PySem PySem.Spec PyProof.Rows L2 DL
def top (i : Nat) : Stmt := PySem.Challenge.pw_behindtaps_k12_texts_of_nets_there_and_b.main.body.getD i (.Pass ⟨0, 0, 0, 0⟩)
section
variable {P : Program} {w : World} {K : PySem.W.Frag} {mg : Str → Option Value} {base : Heap}
-- printed by gen.py
def den_is_name : M Fl := (fSeq (fIf (dOr (dNot (dTest (dIsi "str" (dVar 0)))) (dOr (dNot (dTest (dChain leR leR (ret (.int 1)) (dCall lenR (dCons (dVar 0) (ret []))) (ret (.int 8))))) (dTest (dOp ninR (dOp ixR (dVar 0) (ret (.int 0))) (ret (.str "abcdefghijklmnopqrstuvwxyz")))))) (fRet (ret (.bl false))) (ret .nx)) (fRet (dOp eqR (dFrz (dComp (dItS (dVar 0)) (tgName 1) (dTest (dOp ninR (dVar 1) (dOp addR (ret (.str "abcdefghijklmnopqrstuvwxyz")) (ret (.str "0123456789"))))) (dVar 1) [1])) (dFrz (dLst (ret []))))))
theorem sc_is_name : FnScope ["value", "sign"] ["value"] (defScope (top 10)) := ⟨rfl, rfl, rfl, by decide +kernel, rfl, by decide +kernel, by decide +kernel⟩
theorem fn_is_name (a : At K mg "is_name" (defArgs (top 10)) (defBody (top 10)) (defScope (top 10))) (b_isinstance : mg "isinstance" = none) (b_str : mg "str" = none) (b_len : mg "len" = none) (c0_LETTERS : ∃ t, mg "LETTERS" = some (.str "abcdefghijklmnopqrstuvwxyz" t)) (c0_DIGITS : ∃ t, mg "DIGITS" = some (.str "0123456789" t)) :
    FnOk P w K mg base CX0 1 (He.ga K "is_name") a.fd ["value"] (spP K (wrapP 1 2 den_is_name)) := by
  obtain ⟨_, c_LETTERS⟩ := c0_LETTERS
  obtain ⟨_, c_DIGITS⟩ := c0_DIGITS
  refine fn_pure (N := ["value", "sign"]) a.f sc_is_name fun cdv A outer s H E hr => ?_
  have hN := sc_is_name.nd
  have hu := hr.units
  exact ⟨_, (cs_cons (cs_if ((cw_or (ct_not (ct_val (ce_isi (f := "str") tab_str (ce_var (i := 0)) (by rfl) b_isinstance (by rfl) b_str rfl))) (cw_or (ct_not (ct_chain op_leA op_leA dr_le dr_le ce_int (ce_callB dr_len call_len (by rfl) b_len rfl (ca_cons (ce_var (i := 0)) ca_nil)) ce_int)) (cw_or1 (ct_cmp op_ninA dr_nin (ce_ix (ce_var (i := 0)) ce_int) (ce_glob (v := .str "abcdefghijklmnopqrstuvwxyz") (by rfl) c_LETTERS ⟨_, rfl⟩ (fun _ => .str _)) (by rfl)))))).ct (cs_one (cs_ret ce_bl)) cs_nil)
    (cs_one (cs_ret (ce_cmp (op_eqA hu) dr_eq ((cn_lc (own := [("sign", 1)]) (g := (gName 1)) (tt := (tTest (tOp (rInA K true) (tVar 1) (tOp (rAddA K) (tC (.str "abcdefghijklmnopqrstuvwxyz")) (tC (.str "0123456789")))))) (te := (tVar 1)) (by rfl) hN (ci_str (ce_var (i := 0))) (blkOk_by (by show blkC ["value", "sign"] (defScope (top 10)) _ _ = true; decide +kernel)) (fun s H C cl fp => (cg_name hN (i := 1))) (fun s H C cl fp => (cts_one (ct_cmp op_ninA dr_nin (ce_var (i := 1)) (ce_op op_addA dr_add (ce_glob (v := .str "abcdefghijklmnopqrstuvwxyz") (by rfl) c_LETTERS ⟨_, rfl⟩ (fun _ => .str _)) (ce_glob (v := .str "0123456789") (by rfl) c_DIGITS ⟨_, rfl⟩ (fun _ => .str _))) (by rfl)))) (fun s H C cl fp => (ce_var (i := 1))))).ce ((cn_lst ca_nil)).ce (by rfl)))))⟩
def den_is_whole : M Fl := (fRet (dAndV (dIsi "int" (dVar 0)) (dNotV (dIsi "bool" (dVar 0)))))
theorem sc_is_whole : FnScope ["value"] ["value"] (defScope (top 14)) := ⟨rfl, rfl, rfl, by decide +kernel, rfl, by decide +kernel, by decide +kernel⟩
theorem fn_is_whole (a : At K mg "is_whole" (defArgs (top 14)) (defBody (top 14)) (defScope (top 14))) (b_isinstance : mg "isinstance" = none) (b_int : mg "int" = none) (b_bool : mg "bool" = none) :
    FnOk P w K mg base CX0 1 (He.ga K "is_whole") a.fd ["value"] (spP K (wrapP 1 1 den_is_whole)) := by
  refine fn_pure (N := ["value"]) a.f sc_is_whole fun cdv A outer s H E hr => ?_
  have hN := sc_is_whole.nd
  have hu := hr.units
  exact ⟨_, (cs_one (cs_ret (ce_and (ce_isi (f := "int") tab_int (ce_var (i := 0)) (by rfl) b_isinstance (by rfl) b_int rfl) (ce_one (ce_not (ce_isi (f := "bool") tab_bool (ce_var (i := 0)) (by rfl) b_isinstance (by rfl) b_bool rfl))))))⟩
def den_top_of : M Fl := (fRet (dIf (dTest (dIsi "tuple" (dVar 0))) (dOp ixR (dVar 0) (ret (.int 0))) (dVar 0)))
theorem sc_top_of : FnScope ["value"] ["value"] (defScope (top 16)) := ⟨rfl, rfl, rfl, by decide +kernel, rfl, by decide +kernel, by decide +kernel⟩
theorem fn_top_of (a : At K mg "top_of" (defArgs (top 16)) (defBody (top 16)) (defScope (top 16))) (b_isinstance : mg "isinstance" = none) (b_tuple : mg "tuple" = none) :
    FnOk P w K mg base CX0 1 (He.ga K "top_of") a.fd ["value"] (spP K (wrapP 1 1 den_top_of)) := by
  refine fn_pure (N := ["value"]) a.f sc_top_of fun cdv A outer s H E hr => ?_
  have hN := sc_top_of.nd
  have hu := hr.units
  exact ⟨_, (cs_one (cs_ret (ce_if (ct_val (ce_isi (f := "tuple") tab_tuple (ce_var (i := 0)) (by rfl) b_isinstance (by rfl) b_tuple rfl)) (ce_ix (ce_var (i := 0)) ce_int) (ce_var (i := 0)))))⟩
def den_bottom_of : M Fl := (fRet (dIf (dTest (dIsi "tuple" (dVar 0))) (dOp ixR (dVar 0) (ret (.int 1))) (ret (.int 1))))
theorem sc_bottom_of : FnScope ["value"] ["value"] (defScope (top 17)) := ⟨rfl, rfl, rfl, by decide +kernel, rfl, by decide +kernel, by decide +kernel⟩
theorem fn_bottom_of (a : At K mg "bottom_of" (defArgs (top 17)) (defBody (top 17)) (defScope (top 17))) (b_isinstance : mg "isinstance" = none) (b_tuple : mg "tuple" = none) :
    FnOk P w K mg base CX0 1 (He.ga K "bottom_of") a.fd ["value"] (spP K (wrapP 1 1 den_bottom_of)) := by
  refine fn_pure (N := ["value"]) a.f sc_bottom_of fun cdv A outer s H E hr => ?_
  have hN := sc_bottom_of.nd
  have hu := hr.units
  exact ⟨_, (cs_one (cs_ret (ce_if (ct_val (ce_isi (f := "tuple") tab_tuple (ce_var (i := 0)) (by rfl) b_isinstance (by rfl) b_tuple rfl)) (ce_ix (ce_var (i := 0)) ce_int) ce_int)))⟩
def den_ends : M Fl := (fRet (dIf (dTest (dOp eqR (dOp ixR (dVar 0) (ret (.int 0))) (ret (.str "hub")))) (dOp ixR (dVar 0) (ret (.int 1))) (dTup (dCons (dOp ixR (dVar 0) (ret (.int 1))) (dCons (dOp ixR (dVar 0) (ret (.int 2))) (ret []))))))
theorem sc_ends : FnScope ["part"] ["part"] (defScope (top 24)) := ⟨rfl, rfl, rfl, by decide +kernel, rfl, by decide +kernel, by decide +kernel⟩
theorem fn_ends (a : At K mg "ends" (defArgs (top 24)) (defBody (top 24)) (defScope (top 24))) :
    FnOk P w K mg base CX0 1 (He.ga K "ends") a.fd ["part"] (spP K (wrapP 1 1 den_ends)) := by
  refine fn_pure (N := ["part"]) a.f sc_ends fun cdv A outer s H E hr => ?_
  have hN := sc_ends.nd
  have hu := hr.units
  exact ⟨_, (cs_one (cs_ret (ce_if (ct_cmp (op_eqA hu) dr_eq (ce_ix (ce_var (i := 0)) ce_int) ce_str (by rfl)) (ce_ix (ce_var (i := 0)) ce_int) (ce_tup (ca_cons (ce_ix (ce_var (i := 0)) ce_int) (ca_cons (ce_ix (ce_var (i := 0)) ce_int) ca_nil))))))⟩
def den_has_kind : M Fl := (fRet (dCall anyR (dCons (dFrz (dComp (dItT (dVar 0)) (tgName 2) (ret true) (dOp eqR (dOp ixR (dVar 2) (ret (.int 0))) (dVar 1)) [2])) (ret []))))
theorem sc_has_kind : FnScope ["parts", "kind", "part"] ["parts", "kind"] (defScope (top 26)) := ⟨rfl, rfl, rfl, by decide +kernel, rfl, by decide +kernel, by decide +kernel⟩
theorem fn_has_kind (a : At K mg "has_kind" (defArgs (top 26)) (defBody (top 26)) (defScope (top 26))) (b_any : mg "any" = none) :
    FnOk P w K mg base CX0 1 (He.ga K "has_kind") a.fd ["parts", "kind"] (spP K (wrapP 2 3 den_has_kind)) := by
  refine fn_pure (N := ["parts", "kind", "part"]) a.f sc_has_kind fun cdv A outer s H E hr => ?_
  have hN := sc_has_kind.nd
  have hu := hr.units
  exact ⟨_, (cs_one (cs_ret (ce_callB dr_any (cr_any (by rfl)) (by rfl) b_any rfl (ca_cons ((cn_lc (own := [("part", 2)]) (g := (gName 2)) (tt := tYes) (te := (tOp (rEqA K) (tOp (rIx K) (tVar 2) (tC (.int 0))) (tVar 1))) (by rfl) hN (ci_tup (ce_var (i := 0))) (blkOk_by (by show blkC ["parts", "kind", "part"] (defScope (top 26)) _ _ = true; decide +kernel)) (fun s H C cl fp => (cg_name hN (i := 2))) (fun s H C cl fp => cts_nil) (fun s H C cl fp => (ce_cmp (op_eqA hu) dr_eq (ce_ix (ce_var (i := 2)) ce_int) (ce_var (i := 1)) (by rfl))))).ce ca_nil))))⟩
def den_number_text : M Fl := (fRet (dIf (dTest (dIsi "tuple" (dVar 0))) (dJoined (dJ (dFmt (dOp ixR (dVar 0) (ret (.int 0)))) (dJ (ret (.str "/")) (dJ (dFmt (dOp ixR (dVar 0) (ret (.int 1)))) ret)))) (dCall strR (dCons (dVar 0) (ret [])))))
theorem sc_number_text : FnScope ["value"] ["value"] (defScope (top 31)) := ⟨rfl, rfl, rfl, by decide +kernel, rfl, by decide +kernel, by decide +kernel⟩
theorem fn_number_text (a : At K mg "number_text" (defArgs (top 31)) (defBody (top 31)) (defScope (top 31))) (b_isinstance : mg "isinstance" = none) (b_tuple : mg "tuple" = none) (b_str : mg "str" = none) :
    FnOk P w K mg base CX0 1 (He.ga K "number_text") a.fd ["value"] (spP K (wrapP 1 1 den_number_text)) := by
  refine fn_pure (N := ["value"]) a.f sc_number_text fun cdv A outer s H E hr => ?_
  have hN := sc_number_text.nd
  have hu := hr.units
  exact ⟨_, (cs_one (cs_ret (ce_if (ct_val (ce_isi (f := "tuple") tab_tuple (ce_var (i := 0)) (by rfl) b_isinstance (by rfl) b_tuple rfl)) (ce_joined (cj_cons (ce_fmt (ce_ix (ce_var (i := 0)) ce_int)) (cj_cons ce_str (cj_cons (ce_fmt (ce_ix (ce_var (i := 0)) ce_int)) cj_nil)))) (ce_callTy dr_str call_str_int (by rfl) b_str rfl (ca_cons (ce_var (i := 0)) ca_nil)))))⟩
def den_whole_of : M Fl := (fSeq (fIf (dOr (dNot (dTest (dChain leR leR (ret (.int 1)) (dCall lenR (dCons (dVar 0) (ret []))) (ret (.int 30))))) (dTest (dOp neR (dFrz (dComp (dItS (dVar 0)) (tgName 1) (dTest (dOp ninR (dVar 1) (ret (.str "0123456789")))) (dVar 1) [1])) (dFrz (dLst (ret [])))))) (fRet (ret .non)) (ret .nx)) (fRet (dIf (dOr (dTest (dOp eqR (dVar 0) (ret (.str "0")))) (dTest (dOp neR (dOp ixR (dVar 0) (ret (.int 0))) (ret (.str "0"))))) (dCall intR (dCons (dVar 0) (ret []))) (ret .non))))
theorem sc_whole_of : FnScope ["word", "sign"] ["word"] (defScope (top 34)) := ⟨rfl, rfl, rfl, by decide +kernel, rfl, by decide +kernel, by decide +kernel⟩
theorem fn_whole_of (a : At K mg "whole_of" (defArgs (top 34)) (defBody (top 34)) (defScope (top 34))) (b_len : mg "len" = none) (c0_MOST_DIGITS : ∃ t, mg "MOST_DIGITS" = some (.int 30 t)) (c0_DIGITS : ∃ t, mg "DIGITS" = some (.str "0123456789" t)) (b_int : mg "int" = none) :
    FnOk P w K mg base CX0 1 (He.ga K "whole_of") a.fd ["word"] (spP K (wrapP 1 2 den_whole_of)) := by
  obtain ⟨_, c_MOST_DIGITS⟩ := c0_MOST_DIGITS
  obtain ⟨_, c_DIGITS⟩ := c0_DIGITS
  refine fn_pure (N := ["word", "sign"]) a.f sc_whole_of fun cdv A outer s H E hr => ?_
  have hN := sc_whole_of.nd
  have hu := hr.units
  exact ⟨_, (cs_cons (cs_if ((cw_or (ct_not (ct_chain op_leA op_leA dr_le dr_le ce_int (ce_callB dr_len call_len (by rfl) b_len rfl (ca_cons (ce_var (i := 0)) ca_nil)) (ce_glob (v := .int 30) (by rfl) c_MOST_DIGITS ⟨_, rfl⟩ (fun _ => .int _)))) (cw_or1 (ct_cmp (op_neA hu) dr_ne ((cn_lc (own := [("sign", 1)]) (g := (gName 1)) (tt := (tTest (tOp (rInA K true) (tVar 1) (tC (.str "0123456789"))))) (te := (tVar 1)) (by rfl) hN (ci_str (ce_var (i := 0))) (blkOk_by (by show blkC ["word", "sign"] (defScope (top 34)) _ _ = true; decide +kernel)) (fun s H C cl fp => (cg_name hN (i := 1))) (fun s H C cl fp => (cts_one (ct_cmp op_ninA dr_nin (ce_var (i := 1)) (ce_glob (v := .str "0123456789") (by rfl) c_DIGITS ⟨_, rfl⟩ (fun _ => .str _)) (by rfl)))) (fun s H C cl fp => (ce_var (i := 1))))).ce ((cn_lst ca_nil)).ce (by rfl))))).ct (cs_one (cs_ret ce_non)) cs_nil)
    (cs_one (cs_ret (ce_if ((cw_or (ct_cmp (op_eqA hu) dr_eq (ce_var (i := 0)) ce_str (by rfl)) (cw_or1 (ct_cmp (op_neA hu) dr_ne (ce_ix (ce_var (i := 0)) ce_int) ce_str (by rfl))))).ct (ce_callTy dr_int call_intA (by rfl) b_int rfl (ca_cons (ce_var (i := 0)) ca_nil)) ce_non))))⟩
def den__law_blended : M Fl := (fSeq (fPar2 1 2 (vFz (dOp addR (dTurn 0) (ret (.int 1)))) (vFz (ret (.int 0)))) (fSeq (fTurn 0 (dVar 1)) (fSeq (fFor (dItL (dFrz (dLst (dCons (ret (.int 2147483579)) (dCons (ret (.int 2147483629)) (dCons (ret (.int 2147483563)) (ret []))))))) (tgName 3) (fSeq (fSet 4 (dOp addR (dOp mulA (ret (.int 48271)) (dVar 1)) (dOp fdivR (dVar 3) (ret (.int 53))))) (fSeq (fFor (dItL (dCells 0)) (tgName 5) (fSet 4 (dOp modR (dCall intR (dCons (dOp addR (dOp addR (dOp mulA (dVar 4) (ret (.int 69621))) (dVar 5)) (dVar 1)) (ret []))) (dVar 3)))) (fSet 2 (dOp addR (dOp mulA (dVar 2) (ret (.int 2147483647))) (dOp modR (dCall intR (dCons (dOp powR (dVar 4) (ret (.int 5))) (ret []))) (dVar 3))))))) (fRet (dVar 2)))))
theorem sc__law_blended : FnScope ["_law_state", "_law_turn", "_law_found", "_law_prime", "_law_blend", "_law_cell"] ["_law_state"] (defScope (top 40)) := ⟨rfl, rfl, rfl, by decide +kernel, rfl, by decide +kernel, by decide +kernel⟩
theorem fn__law_blended (a : At K mg "_law_blended" (defArgs (top 40)) (defBody (top 40)) (defScope (top 40))) (b_int : mg "int" = none) :
    FnOk P w K mg base CX0 1 (He.ga K "_law_blended") a.fd ["_law_state"] (spS K (wrapS 1 6 den__law_blended)) := by
  refine fn_s (N := ["_law_state", "_law_turn", "_law_found", "_law_prime", "_law_blend", "_law_cell"]) a.f sc__law_blended fun so cdv A outer s H E hr => ?_
  have hN := sc__law_blended.nd
  have hu := hr.units
  exact ⟨_, (cs_cons (cs_par2 (by rfl) hN (i := 1) (j := 2) ((ce_op op_addA dr_add (ce_turn hu (by rfl) (by first | exact Or.inl rfl | exact Or.inr (Or.inl rfl) | exact Or.inr (Or.inr rfl)) (by decide) (by decide)) ce_int)).cv (ce_int).cv)
    (cs_cons (cs_turn hu (by rfl) (by first | exact Or.inl rfl | exact Or.inr (Or.inl rfl) | exact Or.inr (Or.inr rfl)) (by decide) (by decide) (ce_var (i := 1)))
    (cs_cons (cs_for PassesOwn.never (by rfl) (ci_list ((cn_lst (ca_cons ce_int (ca_cons ce_int (ca_cons ce_int ca_nil))))).ce) (cg_name hN (i := 3)) (cs_cons (cs_set hN (i := 4) (ce_op op_addA dr_add (ce_op op_mulA dr_mulA ce_int (ce_var (i := 1))) (ce_op op_fdivW dr_fdiv (ce_var (i := 3)) ce_int)))
    (cs_cons (cs_for PassesOwn.never (by rfl) (ci_list (ce_cells hu (by rfl) (by first | exact Or.inl rfl | exact Or.inr (Or.inl rfl) | exact Or.inr (Or.inr rfl)) (by decide) (by decide))) (cg_name hN (i := 5)) (cs_one (cs_set hN (i := 4) (ce_op op_mod dr_mod (ce_callTy dr_int call_intA (by rfl) b_int rfl (ca_cons (ce_op op_addA dr_add (ce_op op_addA dr_add (ce_op op_mulA dr_mulA (ce_var (i := 4)) ce_int) (ce_var (i := 5))) (ce_var (i := 1))) ca_nil)) (ce_var (i := 3))))))
    (cs_one (cs_set hN (i := 2) (ce_op op_addA dr_add (ce_op op_mulA dr_mulA (ce_var (i := 2)) ce_int) (ce_op op_mod dr_mod (ce_callTy dr_int call_intA (by rfl) b_int rfl (ca_cons (ce_op op_pow dr_pow (ce_var (i := 4)) ce_int) ca_nil)) (ce_var (i := 3)))))))))
    (cs_one (cs_ret (ce_var (i := 2)))))))⟩
def den__law_ct_gcd (fuel1 : FS → Nat) : M Fl := (fSeq (fPar2 2 3 (vFz (dCall absR (dCons (dVar 0) (ret [])))) (vFz (dCall absR (dCons (dVar 1) (ret []))))) (fSeq (fWhile fuel1 (dTest (dOp neR (dVar 3) (ret (.int 0)))) (fPar2 2 3 (vFz (dVar 3)) (vFz (dOp modR (dCall intR (dCons (dVar 2) (ret []))) (dVar 3))))) (fRet (dVar 2))))
theorem sc__law_ct_gcd : FnScope ["_law_one", "_law_other", "_law_a", "_law_b"] ["_law_one", "_law_other"] (defScope (top 45)) := ⟨rfl, rfl, rfl, by decide +kernel, rfl, by decide +kernel, by decide +kernel⟩
theorem fn__law_ct_gcd (a : At K mg "_law_ct_gcd" (defArgs (top 45)) (defBody (top 45)) (defScope (top 45))) (b_abs : mg "abs" = none) (b_int : mg "int" = none) (fuel1 : FS → Nat) :
    FnOk P w K mg base CX0 1 (He.ga K "_law_ct_gcd") a.fd ["_law_one", "_law_other"] (spP K (wrapP 2 4 (den__law_ct_gcd fuel1))) := by
  refine fn_pure (N := ["_law_one", "_law_other", "_law_a", "_law_b"]) a.f sc__law_ct_gcd fun cdv A outer s H E hr => ?_
  have hN := sc__law_ct_gcd.nd
  have hu := hr.units
  exact ⟨_, (cs_cons (cs_par2 (by rfl) hN (i := 2) (j := 3) ((ce_callB dr_abs call_abs (by rfl) b_abs rfl (ca_cons (ce_var (i := 0)) ca_nil))).cv ((ce_callB dr_abs call_abs (by rfl) b_abs rfl (ca_cons (ce_var (i := 1)) ca_nil))).cv)
    (cs_cons (cs_while fuel1 PassesOwn.never (ct_cmp (op_neA hu) dr_ne (ce_var (i := 3)) ce_int (by rfl)) (cs_one (cs_par2 (by rfl) hN (i := 2) (j := 3) ((ce_var (i := 3))).cv ((ce_op op_mod dr_mod (ce_callTy dr_int call_intA (by rfl) b_int rfl (ca_cons (ce_var (i := 2)) ca_nil)) (ce_var (i := 3)))).cv)))
    (cs_one (cs_ret (ce_var (i := 2))))))⟩
def den__law_ct_top : M Fl := (fRet (dIf (dTest (dIsi "tuple" (dVar 0))) (dOp ixR (dVar 0) (ret (.int 0))) (dVar 0)))
theorem sc__law_ct_top : FnScope ["_law_item"] ["_law_item"] (defScope (top 47)) := ⟨rfl, rfl, rfl, by decide +kernel, rfl, by decide +kernel, by decide +kernel⟩
theorem fn__law_ct_top (a : At K mg "_law_ct_top" (defArgs (top 47)) (defBody (top 47)) (defScope (top 47))) (b_isinstance : mg "isinstance" = none) (b_tuple : mg "tuple" = none) :
    FnOk P w K mg base CX0 1 (He.ga K "_law_ct_top") a.fd ["_law_item"] (spP K (wrapP 1 1 den__law_ct_top)) := by
  refine fn_pure (N := ["_law_item"]) a.f sc__law_ct_top fun cdv A outer s H E hr => ?_
  have hN := sc__law_ct_top.nd
  have hu := hr.units
  exact ⟨_, (cs_one (cs_ret (ce_if (ct_val (ce_isi (f := "tuple") tab_tuple (ce_var (i := 0)) (by rfl) b_isinstance (by rfl) b_tuple rfl)) (ce_ix (ce_var (i := 0)) ce_int) (ce_var (i := 0)))))⟩
def den__law_ct_low : M Fl := (fRet (dIf (dTest (dIsi "tuple" (dVar 0))) (dOp ixR (dVar 0) (ret (.int 1))) (ret (.int 1))))
theorem sc__law_ct_low : FnScope ["_law_item"] ["_law_item"] (defScope (top 48)) := ⟨rfl, rfl, rfl, by decide +kernel, rfl, by decide +kernel, by decide +kernel⟩
theorem fn__law_ct_low (a : At K mg "_law_ct_low" (defArgs (top 48)) (defBody (top 48)) (defScope (top 48))) (b_isinstance : mg "isinstance" = none) (b_tuple : mg "tuple" = none) :
    FnOk P w K mg base CX0 1 (He.ga K "_law_ct_low") a.fd ["_law_item"] (spP K (wrapP 1 1 den__law_ct_low)) := by
  refine fn_pure (N := ["_law_item"]) a.f sc__law_ct_low fun cdv A outer s H E hr => ?_
  have hN := sc__law_ct_low.nd
  have hu := hr.units
  exact ⟨_, (cs_one (cs_ret (ce_if (ct_val (ce_isi (f := "tuple") tab_tuple (ce_var (i := 0)) (by rfl) b_isinstance (by rfl) b_tuple rfl)) (ce_ix (ce_var (i := 0)) ce_int) ce_int)))⟩
def den__law_an_every : M Fl := (fSeq (fSetV 1 (vOw (dCallL lstR (dCons (dOp ixR (dVar 0) (ret (.int 0))) (ret []))))) (fSeq (fFor (dItT (dOp ixR (dVar 0) (ret (.int 1)))) (tgName 2) (fFor (dItT (dIf (dTest (dOp eqR (dOp ixR (dVar 2) (ret (.int 0))) (ret (.str "hub")))) (dOp ixR (dVar 2) (ret (.int 1))) (dSl (dVar 2) (dPart (ret (.int 1))) (dPart (ret (.int 3)))))) (tgName 3) (fIf (dTest (dOwnR 1 ninR (dVar 3))) (fDrop (dAppend 1 (dVar 3))) (ret .nx)))) (fRet (dFrz (dCallL srtR (dCons (dVar 1) (ret [])))))))
theorem sc__law_an_every : FnScope ["_law_net_here", "_law_found", "_law_part", "_law_place"] ["_law_net_here"] (defScope (top 55)) := ⟨rfl, rfl, rfl, by decide +kernel, rfl, by decide +kernel, by decide +kernel⟩
theorem fn__law_an_every (a : At K mg "_law_an_every" (defArgs (top 55)) (defBody (top 55)) (defScope (top 55))) (b_list : mg "list" = none) (b_sorted : mg "sorted" = none) :
    FnOk P w K mg base CX0 1 (He.ga K "_law_an_every") a.fd ["_law_net_here"] (spP K (wrapP 1 4 den__law_an_every)) := by
  refine fn_pure (N := ["_law_net_here", "_law_found", "_law_part", "_law_place"]) a.f sc__law_an_every fun cdv A outer s H E hr => ?_
  have hN := sc__law_an_every.nd
  have hu := hr.units
  exact ⟨_, (cs_cons (cs_setV hN (i := 1) ((cn_callTy dr_lst call_list_of (by rfl) b_list rfl (ca_cons (ce_ix (ce_var (i := 0)) ce_int) ca_nil))).cv)
    (cs_cons (cs_for PassesOwn.never (by rfl) (ci_tup (ce_ix (ce_var (i := 0)) ce_int)) (cg_name hN (i := 2)) (cs_one (cs_for PassesOwn.never (by rfl) (ci_tup (ce_if (ct_cmp (op_eqA hu) dr_eq (ce_ix (ce_var (i := 2)) ce_int) ce_str (by rfl)) (ce_ix (ce_var (i := 2)) ce_int) (ce_sl (ce_var (i := 2)) (co_some ce_int) (co_some ce_int)))) (cg_name hN (i := 3)) (cs_one (cs_if (ct_ownCmpR (i := 1) op_ninA dr_nin (ce_var (i := 3)) (by rfl)) (cs_one (cs_expr (ce_append (i := 1) (ce_var (i := 3))))) cs_nil)))))
    (cs_one (cs_ret ((cn_callB dr_srt cr_sortA (by rfl) b_sorted rfl (ca_cons (ce_var (i := 1)) ca_nil))).ce))))⟩
def den__law_an_ends : M Fl := (fRet (dIf (dTest (dOp eqR (dOp ixR (dVar 0) (ret (.int 0))) (ret (.str "hub")))) (dOp ixR (dVar 0) (ret (.int 1))) (dSl (dVar 0) (dPart (ret (.int 1))) (dPart (ret (.int 3))))))
theorem sc__law_an_ends : FnScope ["_law_part"] ["_law_part"] (defScope (top 56)) := ⟨rfl, rfl, rfl, by decide +kernel, rfl, by decide +kernel, by decide +kernel⟩
theorem fn__law_an_ends (a : At K mg "_law_an_ends" (defArgs (top 56)) (defBody (top 56)) (defScope (top 56))) :
    FnOk P w K mg base CX0 1 (He.ga K "_law_an_ends") a.fd ["_law_part"] (spP K (wrapP 1 1 den__law_an_ends)) := by
  refine fn_pure (N := ["_law_part"]) a.f sc__law_an_ends fun cdv A outer s H E hr => ?_
  have hN := sc__law_an_ends.nd
  have hu := hr.units
  exact ⟨_, (cs_one (cs_ret (ce_if (ct_cmp (op_eqA hu) dr_eq (ce_ix (ce_var (i := 0)) ce_int) ce_str (by rfl)) (ce_ix (ce_var (i := 0)) ce_int) (ce_sl (ce_var (i := 0)) (co_some ce_int) (co_some ce_int)))))⟩
def den__law_an_is_word : M Fl := (fSeq (fIf (dOr (dNot (dTest (dIsi "str" (dVar 0)))) (dNot (dTest (dChain leR leR (ret (.int 1)) (dCall lenR (dCons (dVar 0) (ret []))) (ret (.int 8)))))) (fRet (ret (.bl false))) (ret .nx)) (fSeq (fSet 1 (ret (.str "abcdefghijklmnopqrstuvwxyz0123456789"))) (fRet (dAndV (dOp inR (dOp ixR (dVar 0) (ret (.int 0))) (dSl (dVar 1) (ret none) (dPart (ret (.int 26))))) (dOp eqR (dFrz (dComp (dItS (dVar 0)) (tgName 2) (dTest (dOp ninR (dVar 2) (dVar 1))) (ret (.int 1)) [2])) (dFrz (dLst (ret []))))))))
theorem sc__law_an_is_word : FnScope ["_law_thing", "_law_signs", "_law_sign"] ["_law_thing"] (defScope (top 60)) := ⟨rfl, rfl, rfl, by decide +kernel, rfl, by decide +kernel, by decide +kernel⟩
theorem fn__law_an_is_word (a : At K mg "_law_an_is_word" (defArgs (top 60)) (defBody (top 60)) (defScope (top 60))) (b_isinstance : mg "isinstance" = none) (b_str : mg "str" = none) (b_len : mg "len" = none) :
    FnOk P w K mg base CX0 1 (He.ga K "_law_an_is_word") a.fd ["_law_thing"] (spP K (wrapP 1 3 den__law_an_is_word)) := by
  refine fn_pure (N := ["_law_thing", "_law_signs", "_law_sign"]) a.f sc__law_an_is_word fun cdv A outer s H E hr => ?_
  have hN := sc__law_an_is_word.nd
  have hu := hr.units
  exact ⟨_, (cs_cons (cs_if ((cw_or (ct_not (ct_val (ce_isi (f := "str") tab_str (ce_var (i := 0)) (by rfl) b_isinstance (by rfl) b_str rfl))) (cw_or1 (ct_not (ct_chain op_leA op_leA dr_le dr_le ce_int (ce_callB dr_len call_len (by rfl) b_len rfl (ca_cons (ce_var (i := 0)) ca_nil)) ce_int))))).ct (cs_one (cs_ret ce_bl)) cs_nil)
    (cs_cons (cs_set hN (i := 1) ce_str)
    (cs_one (cs_ret (ce_and (ce_cmp op_inA dr_in (ce_ix (ce_var (i := 0)) ce_int) (ce_sl (ce_var (i := 1)) co_none (co_some ce_int)) (by rfl)) (ce_one (ce_cmp (op_eqA hu) dr_eq ((cn_lc (own := [("_law_sign", 2)]) (g := (gName 2)) (tt := (tTest (tOp (rInA K true) (tVar 2) (tVar 1)))) (te := (tC (.int 1))) (by rfl) hN (ci_str (ce_var (i := 0))) (blkOk_by (by show blkC ["_law_thing", "_law_signs", "_law_sign"] (defScope (top 60)) _ _ = true; decide +kernel)) (fun s H C cl fp => (cg_name hN (i := 2))) (fun s H C cl fp => (cts_one (ct_cmp op_ninA dr_nin (ce_var (i := 2)) (ce_var (i := 1)) (by rfl)))) (fun s H C cl fp => ce_int))).ce ((cn_lst ca_nil)).ce (by rfl))))))))⟩
def den__law_an_number_words : M Fl := (fRet (dIf (dNot (dTest (dIsi "tuple" (dVar 0)))) (dCall strR (dCons (dVar 0) (ret []))) (dOp addR (dOp addR (dCall strR (dCons (dOp ixR (dVar 0) (ret (.int 0))) (ret []))) (ret (.str "/"))) (dCall strR (dCons (dOp ixR (dVar 0) (ret (.int 1))) (ret []))))))
theorem sc__law_an_number_words : FnScope ["_law_item"] ["_law_item"] (defScope (top 65)) := ⟨rfl, rfl, rfl, by decide +kernel, rfl, by decide +kernel, by decide +kernel⟩
theorem fn__law_an_number_words (a : At K mg "_law_an_number_words" (defArgs (top 65)) (defBody (top 65)) (defScope (top 65))) (b_isinstance : mg "isinstance" = none) (b_tuple : mg "tuple" = none) (b_str : mg "str" = none) :
    FnOk P w K mg base CX0 1 (He.ga K "_law_an_number_words") a.fd ["_law_item"] (spP K (wrapP 1 1 den__law_an_number_words)) := by
  refine fn_pure (N := ["_law_item"]) a.f sc__law_an_number_words fun cdv A outer s H E hr => ?_
  have hN := sc__law_an_number_words.nd
  have hu := hr.units
  exact ⟨_, (cs_one (cs_ret (ce_if (ct_not (ct_val (ce_isi (f := "tuple") tab_tuple (ce_var (i := 0)) (by rfl) b_isinstance (by rfl) b_tuple rfl))) (ce_callTy dr_str call_str_int (by rfl) b_str rfl (ca_cons (ce_var (i := 0)) ca_nil)) (ce_op op_addA dr_add (ce_op op_addA dr_add (ce_callTy dr_str call_str_int (by rfl) b_str rfl (ca_cons (ce_ix (ce_var (i := 0)) ce_int) ca_nil)) ce_str) (ce_callTy dr_str call_str_int (by rfl) b_str rfl (ca_cons (ce_ix (ce_var (i := 0)) ce_int) ca_nil))))))⟩
def den__law_an_digits : M Fl := (fSeq (fIf (dOr (dTest (dOp eqR (dVar 0) (ret (.str "")))) (dOr (dTest (dOp gtR (dCall lenR (dCons (dVar 0) (ret []))) (ret (.int 30)))) (dTest (dOp neR (dFrz (dComp (dItS (dVar 0)) (tgName 1) (dTest (dOp ninR (dVar 1) (ret (.str "0123456789")))) (ret (.int 1)) [1])) (dFrz (dLst (ret []))))))) (fRet (ret .non)) (ret .nx)) (fRet (dIf (dAnd (dTest (dOp gtR (dCall lenR (dCons (dVar 0) (ret []))) (ret (.int 1)))) (dTest (dOp eqR (dOp ixR (dVar 0) (ret (.int 0))) (ret (.str "0"))))) (ret .non) (dCall intR (dCons (dVar 0) (ret []))))))
theorem sc__law_an_digits : FnScope ["_law_word", "_law_sign"] ["_law_word"] (defScope (top 67)) := ⟨rfl, rfl, rfl, by decide +kernel, rfl, by decide +kernel, by decide +kernel⟩
theorem fn__law_an_digits (a : At K mg "_law_an_digits" (defArgs (top 67)) (defBody (top 67)) (defScope (top 67))) (b_len : mg "len" = none) (b_int : mg "int" = none) :
    FnOk P w K mg base CX0 1 (He.ga K "_law_an_digits") a.fd ["_law_word"] (spP K (wrapP 1 2 den__law_an_digits)) := by
  refine fn_pure (N := ["_law_word", "_law_sign"]) a.f sc__law_an_digits fun cdv A outer s H E hr => ?_
  have hN := sc__law_an_digits.nd
  have hu := hr.units
  exact ⟨_, (cs_cons (cs_if ((cw_or (ct_cmp (op_eqA hu) dr_eq (ce_var (i := 0)) ce_str (by rfl)) (cw_or (ct_cmp op_gtA dr_gt (ce_callB dr_len call_len (by rfl) b_len rfl (ca_cons (ce_var (i := 0)) ca_nil)) ce_int (by rfl)) (cw_or1 (ct_cmp (op_neA hu) dr_ne ((cn_lc (own := [("_law_sign", 1)]) (g := (gName 1)) (tt := (tTest (tOp (rInA K true) (tVar 1) (tC (.str "0123456789"))))) (te := (tC (.int 1))) (by rfl) hN (ci_str (ce_var (i := 0))) (blkOk_by (by show blkC ["_law_word", "_law_sign"] (defScope (top 67)) _ _ = true; decide +kernel)) (fun s H C cl fp => (cg_name hN (i := 1))) (fun s H C cl fp => (cts_one (ct_cmp op_ninA dr_nin (ce_var (i := 1)) ce_str (by rfl)))) (fun s H C cl fp => ce_int))).ce ((cn_lst ca_nil)).ce (by rfl)))))).ct (cs_one (cs_ret ce_non)) cs_nil)
    (cs_one (cs_ret (ce_if ((cw_and (ct_cmp op_gtA dr_gt (ce_callB dr_len call_len (by rfl) b_len rfl (ca_cons (ce_var (i := 0)) ca_nil)) ce_int (by rfl)) (cw_and1 (ct_cmp (op_eqA hu) dr_eq (ce_ix (ce_var (i := 0)) ce_int) ce_str (by rfl))))).ct ce_non (ce_callTy dr_int call_intA (by rfl) b_int rfl (ca_cons (ce_var (i := 0)) ca_nil))))))⟩
def den_are_names (F_is_name : PF) : M Fl := (fSeq (fIf (dOr (dNot (dTest (dIsi "tuple" (dVar 0)))) (dNot (dTest (dCall allR (dCons (dFrz (dComp (dItT (dVar 0)) (tgName 1) (ret true) (dCall F_is_name (dCons (dVar 1) (ret []))) [1])) (ret [])))))) (fRet (ret (.bl false))) (ret .nx)) (fRet (dCall allR (dCons (dFrz (dComp (dZip (dCons (dVar 0) (dCons (dSl (dVar 0) (dPart (ret (.int 1))) (ret none)) (ret [])))) (tgTup 2 (tgCons (tgName 1) (tgCons (tgName 2) tgNil))) (ret true) (dOp ltR (dVar 1) (dVar 2)) [1, 2])) (ret [])))))
theorem sc_are_names : FnScope ["value", "one", "other"] ["value"] (defScope (top 11)) := ⟨rfl, rfl, rfl, by decide +kernel, rfl, by decide +kernel, by decide +kernel⟩
theorem fn_are_names (a : At K mg "are_names" (defArgs (top 11)) (defBody (top 11)) (defScope (top 11))) (b_isinstance : mg "isinstance" = none) (b_tuple : mg "tuple" = none) (b_all : mg "all" = none) {F_is_name : PF} (o_is_name : OkP P w K mg base "is_name" 1 ["value"] F_is_name) (b_zip : mg "zip" = none) :
    FnOk P w K mg base CX0 2 (He.ga K "are_names") a.fd ["value"] (spP K (wrapP 1 3 (den_are_names F_is_name))) := by
  refine fn_pure (N := ["value", "one", "other"]) a.f sc_are_names fun cdv A outer s H E hr => ?_
  have hN := sc_are_names.nd
  have hu := hr.units
  exact ⟨_, (cs_cons (cs_if ((cw_or (ct_not (ct_val (ce_isi (f := "tuple") tab_tuple (ce_var (i := 0)) (by rfl) b_isinstance (by rfl) b_tuple rfl))) (cw_or1 (ct_not (ct_val (ce_callB dr_all (cr_all (by rfl)) (by rfl) b_all rfl (ca_cons ((cn_lc (own := [("one", 1)]) (g := (gName 1)) (tt := tYes) (te := (tCall (spP K F_is_name) [] E0 (tCons (tVar 1) tNil))) (by rfl) hN (ci_tup (ce_var (i := 0))) (blkOk_by (by show blkC ["value", "one", "other"] (defScope (top 11)) _ _ = true; decide +kernel)) (fun s H C cl fp => (cg_name hN (i := 1))) (fun s H C cl fp => cts_nil) (fun s H C cl fp => (ce_call o_is_name.ok o_is_name.mg o_is_name.kp o_is_name.b (hr.mono (by decide)) (ca_cons (ce_var (i := 1)) ca_nil))))).ce ca_nil))))))).ct (cs_one (cs_ret ce_bl)) cs_nil)
    (cs_one (cs_ret (ce_callB dr_all (cr_all (by rfl)) (by rfl) b_all rfl (ca_cons ((cn_lc (own := [("one", 1), ("other", 2)]) (g := (gTup K 2 (gCons (gName 1) (gCons (gName 2) gNil)))) (tt := tYes) (te := (tOp rLtA (tVar 1) (tVar 2))) (by rfl) hN (ci_zip (by rfl) b_zip (ca_cons (ce_var (i := 0)) (ca_cons (ce_sl (ce_var (i := 0)) (co_some ce_int) co_none) ca_nil))) (blkOk_by (by show blkC ["value", "one", "other"] (defScope (top 11)) _ _ = true; decide +kernel)) (fun s H C cl fp => (cg_tup (by rfl) (cgs_cons (cg_name hN (i := 1)) (cgs_cons (cg_name hN (i := 2)) cgs_nil)) (n := 2))) (fun s H C cl fp => cts_nil) (fun s H C cl fp => (ce_cmp op_ltA dr_lt (ce_var (i := 1)) (ce_var (i := 2)) (by rfl))))).ce ca_nil)))))⟩
def den_is_number (F_is_whole : PF) : M Fl := (fSeq (fIf (dTest (dCall F_is_whole (dCons (dVar 0) (ret [])))) (fRet (ret (.bl true))) (ret .nx)) (fSeq (fIf (dOr (dNot (dTest (dIsi "tuple" (dVar 0)))) (dOr (dTest (dOp neR (dCall lenR (dCons (dVar 0) (ret []))) (ret (.int 2)))) (dOr (dNot (dTest (dCall F_is_whole (dCons (dOp ixR (dVar 0) (ret (.int 0))) (ret []))))) (dNot (dTest (dCall F_is_whole (dCons (dOp ixR (dVar 0) (ret (.int 1))) (ret [])))))))) (fRet (ret (.bl false))) (ret .nx)) (fRet (dAndV (dOp geR (dOp ixR (dVar 0) (ret (.int 1))) (ret (.int 2))) (dOp eqR (dCall gcdR (dCons (dOp ixR (dVar 0) (ret (.int 0))) (dCons (dOp ixR (dVar 0) (ret (.int 1))) (ret [])))) (ret (.int 1)))))))
theorem sc_is_number : FnScope ["value"] ["value"] (defScope (top 15)) := ⟨rfl, rfl, rfl, by decide +kernel, rfl, by decide +kernel, by decide +kernel⟩
theorem fn_is_number (a : At K mg "is_number" (defArgs (top 15)) (defBody (top 15)) (defScope (top 15))) {F_is_whole : PF} (o_is_whole : OkP P w K mg base "is_whole" 1 ["value"] F_is_whole) (b_isinstance : mg "isinstance" = none) (b_tuple : mg "tuple" = none) (b_len : mg "len" = none) (g_gcd : mg "gcd" = some (.builtin "math.gcd")) :
    FnOk P w K mg base CX0 2 (He.ga K "is_number") a.fd ["value"] (spP K (wrapP 1 1 (den_is_number F_is_whole))) := by
  refine fn_pure (N := ["value"]) a.f sc_is_number fun cdv A outer s H E hr => ?_
  have hN := sc_is_number.nd
  have hu := hr.units
  exact ⟨_, (cs_cons (cs_if (ct_val (ce_call o_is_whole.ok o_is_whole.mg o_is_whole.kp o_is_whole.b (hr.mono (by decide)) (ca_cons (ce_var (i := 0)) ca_nil))) (cs_one (cs_ret ce_bl)) cs_nil)
    (cs_cons (cs_if ((cw_or (ct_not (ct_val (ce_isi (f := "tuple") tab_tuple (ce_var (i := 0)) (by rfl) b_isinstance (by rfl) b_tuple rfl))) (cw_or (ct_cmp (op_neA hu) dr_ne (ce_callB dr_len call_len (by rfl) b_len rfl (ca_cons (ce_var (i := 0)) ca_nil)) ce_int (by rfl)) (cw_or (ct_not (ct_val (ce_call o_is_whole.ok o_is_whole.mg o_is_whole.kp o_is_whole.b (hr.mono (by decide)) (ca_cons (ce_ix (ce_var (i := 0)) ce_int) ca_nil)))) (cw_or1 (ct_not (ct_val (ce_call o_is_whole.ok o_is_whole.mg o_is_whole.kp o_is_whole.b (hr.mono (by decide)) (ca_cons (ce_ix (ce_var (i := 0)) ce_int) ca_nil))))))))).ct (cs_one (cs_ret ce_bl)) cs_nil)
    (cs_one (cs_ret (ce_and (ce_cmp op_geA dr_ge (ce_ix (ce_var (i := 0)) ce_int) ce_int (by rfl)) (ce_one (ce_cmp (op_eqA hu) dr_eq (ce_callBfun dr_gcd cr_gcd (by rfl) g_gcd (ca_cons (ce_ix (ce_var (i := 0)) ce_int) (ca_cons (ce_ix (ce_var (i := 0)) ce_int) ca_nil))) ce_int (by rfl))))))))⟩
def den_is_less (F_top_of : PF) (F_bottom_of : PF) : M Fl := (fRet (dOp ltR (dOp mulA (dCall F_top_of (dCons (dVar 0) (ret []))) (dCall F_bottom_of (dCons (dVar 1) (ret [])))) (dOp mulA (dCall F_top_of (dCons (dVar 1) (ret []))) (dCall F_bottom_of (dCons (dVar 0) (ret []))))))
theorem sc_is_less : FnScope ["one", "other"] ["one", "other"] (defScope (top 18)) := ⟨rfl, rfl, rfl, by decide +kernel, rfl, by decide +kernel, by decide +kernel⟩
theorem fn_is_less (a : At K mg "is_less" (defArgs (top 18)) (defBody (top 18)) (defScope (top 18))) {F_top_of : PF} (o_top_of : OkP P w K mg base "top_of" 1 ["value"] F_top_of) {F_bottom_of : PF} (o_bottom_of : OkP P w K mg base "bottom_of" 1 ["value"] F_bottom_of) :
    FnOk P w K mg base CX0 2 (He.ga K "is_less") a.fd ["one", "other"] (spP K (wrapP 2 2 (den_is_less F_top_of F_bottom_of))) := by
  refine fn_pure (N := ["one", "other"]) a.f sc_is_less fun cdv A outer s H E hr => ?_
  have hN := sc_is_less.nd
  have hu := hr.units
  exact ⟨_, (cs_one (cs_ret (ce_cmp op_ltA dr_lt (ce_op op_mulA dr_mulA (ce_call o_top_of.ok o_top_of.mg o_top_of.kp o_top_of.b (hr.mono (by decide)) (ca_cons (ce_var (i := 0)) ca_nil)) (ce_call o_bottom_of.ok o_bottom_of.mg o_bottom_of.kp o_bottom_of.b (hr.mono (by decide)) (ca_cons (ce_var (i := 1)) ca_nil))) (ce_op op_mulA dr_mulA (ce_call o_top_of.ok o_top_of.mg o_top_of.kp o_top_of.b (hr.mono (by decide)) (ca_cons (ce_var (i := 1)) ca_nil)) (ce_call o_bottom_of.ok o_bottom_of.mg o_bottom_of.kp o_bottom_of.b (hr.mono (by decide)) (ca_cons (ce_var (i := 0)) ca_nil))) (by rfl))))⟩
def den_named_places (F_ends : PF) : M Fl := (fSeq (fSetV 2 (dDc (dItT (dVar 0)) (tgName 5) (ret true) (dVar 5) (ret (.bl true)) [5])) (fSeq (fFor (dItT (dVar 1)) (tgName 3) (fFor (dItT (dCall F_ends (dCons (dVar 3) (ret [])))) (tgName 4) (fDPut 2 (dVar 4) (ret (.bl true))))) (fRet (dFrz (dCallL srtR (dCons (dFrz (dKeysL 2)) (ret [])))))))
theorem sc_named_places : FnScope ["taps", "parts", "found", "part", "place", "tap"] ["taps", "parts"] (defScope (top 25)) := ⟨rfl, rfl, rfl, by decide +kernel, rfl, by decide +kernel, by decide +kernel⟩
theorem fn_named_places (a : At K mg "named_places" (defArgs (top 25)) (defBody (top 25)) (defScope (top 25))) {F_ends : PF} (o_ends : OkP P w K mg base "ends" 1 ["part"] F_ends) (b_sorted : mg "sorted" = none) (b_list : mg "list" = none) :
    FnOk P w K mg base CX0 2 (He.ga K "named_places") a.fd ["taps", "parts"] (spP K (wrapP 2 6 (den_named_places F_ends))) := by
  refine fn_pure (N := ["taps", "parts", "found", "part", "place", "tap"]) a.f sc_named_places fun cdv A outer s H E hr => ?_
  have hN := sc_named_places.nd
  have hu := hr.units
  exact ⟨_, (cs_cons (cs_setDc (i := 2) (own := [("tap", 5)]) (g := (gName 5)) (tt := tYes) (tk := (tVar 5)) (te := (tC (.bl true))) (by rfl) hN (ci_tup (ce_var (i := 0))) (blkOk_by (by show blkC ["taps", "parts", "found", "part", "place", "tap"] (defScope (top 25)) _ _ = true; decide +kernel)) (fun s H C cl fp => (cg_name hN (i := 5))) (fun s H C cl fp => cts_nil) (fun s H C cl fp => (ce_var (i := 5))) (fun s H C cl fp => ce_bl))
    (cs_cons (cs_for PassesOwn.never (by rfl) (ci_tup (ce_var (i := 1))) (cg_name hN (i := 3)) (cs_one (cs_for PassesOwn.never (by rfl) (ci_tup (ce_call o_ends.ok o_ends.mg o_ends.kp o_ends.b (hr.mono (by decide)) (ca_cons (ce_var (i := 3)) ca_nil))) (cg_name hN (i := 4)) (cs_one (cs_dput hu (i := 2) (ce_var (i := 4)) ce_bl)))))
    (cs_one (cs_ret ((cn_callB dr_srt cr_sortA (by rfl) b_sorted rfl (ca_cons ((cn_keys (i := 2) (by rfl) (by rfl) b_list rfl)).ce ca_nil))).ce))))⟩
def den_part_text (F_ends : PF) (F_number_text : PF) : M Fl := (fRet (dJoin (ret (.str " ")) (dOp addR (dOp addR (dFrz (dLst (dCons (dOp ixR (dVar 0) (ret (.int 0))) (ret [])))) (dFrz (dCallL lstR (dCons (dCall F_ends (dCons (dVar 0) (ret []))) (ret []))))) (dFrz (dLst (dCons (dCall F_number_text (dCons (dOp ixR (dVar 0) (dNeg (ret (.int 1)))) (ret []))) (ret [])))))))
theorem sc_part_text : FnScope ["part"] ["part"] (defScope (top 32)) := ⟨rfl, rfl, rfl, by decide +kernel, rfl, by decide +kernel, by decide +kernel⟩
theorem fn_part_text (a : At K mg "part_text" (defArgs (top 32)) (defBody (top 32)) (defScope (top 32))) (b_list : mg "list" = none) {F_ends : PF} (o_ends : OkP P w K mg base "ends" 1 ["part"] F_ends) {F_number_text : PF} (o_number_text : OkP P w K mg base "number_text" 1 ["value"] F_number_text) :
    FnOk P w K mg base CX0 2 (He.ga K "part_text") a.fd ["part"] (spP K (wrapP 1 1 (den_part_text F_ends F_number_text))) := by
  refine fn_pure (N := ["part"]) a.f sc_part_text fun cdv A outer s H E hr => ?_
  have hN := sc_part_text.nd
  have hu := hr.units
  exact ⟨_, (cs_one (cs_ret (ce_join ce_str (ce_op op_addA dr_add (ce_op op_addA dr_add ((cn_lst (ca_cons (ce_ix (ce_var (i := 0)) ce_int) ca_nil))).ce ((cn_callTy dr_lst call_list_of (by rfl) b_list rfl (ca_cons (ce_call o_ends.ok o_ends.mg o_ends.kp o_ends.b (hr.mono (by decide)) (ca_cons (ce_var (i := 0)) ca_nil)) ca_nil))).ce) ((cn_lst (ca_cons (ce_call o_number_text.ok o_number_text.mg o_number_text.kp o_number_text.b (hr.mono (by decide)) (ca_cons (ce_ix (ce_var (i := 0)) (ce_neg ce_int)) ca_nil)) ca_nil))).ce))))⟩
def den__law_draw (F__law_blended : SF) : M Fl := (fSeq (fIf (dTest (dOp eqR (dRest 0) (ret (.int 0)))) (fRest 0 (dIf (dTest (dGreatNe 0 (dFrz (dLst (ret []))))) (dGreatPop 0) (dSCall F__law_blended (dStArg 0 (ret []))))) (ret .nx)) (fSeq (fSet 2 (dOp modR (dCall intR (dCons (dRest 0) (ret []))) (dVar 1))) (fSeq (fRest 0 (dOp fdivR (dRest 0) (dVar 1))) (fRet (dVar 2)))))
theorem sc__law_draw : FnScope ["_law_state", "_law_room", "_law_found"] ["_law_state", "_law_room"] (defScope (top 41)) := ⟨rfl, rfl, rfl, by decide +kernel, rfl, by decide +kernel, by decide +kernel⟩
theorem fn__law_draw (a : At K mg "_law_draw" (defArgs (top 41)) (defBody (top 41)) (defScope (top 41))) {F__law_blended : SF} (o__law_blended : OkS P w K mg base "_law_blended" 1 ["_law_state"] F__law_blended) (b_int : mg "int" = none) :
    FnOk P w K mg base CX0 2 (He.ga K "_law_draw") a.fd ["_law_state", "_law_room"] (spS K (wrapS 2 3 (den__law_draw F__law_blended))) := by
  refine fn_s (N := ["_law_state", "_law_room", "_law_found"]) a.f sc__law_draw fun so cdv A outer s H E hr => ?_
  have hN := sc__law_draw.nd
  have hu := hr.units
  exact ⟨_, (cs_cons (cs_if (ct_cmp (op_eqA hu) dr_eq (ce_rest hu (by rfl) (by first | exact Or.inl rfl | exact Or.inr (Or.inl rfl) | exact Or.inr (Or.inr rfl)) (by decide) (by decide)) ce_int (by rfl)) (cs_one (cs_rest hu (by rfl) (by first | exact Or.inl rfl | exact Or.inr (Or.inl rfl) | exact Or.inr (Or.inr rfl)) (by decide) (by decide) (ce_if (ct_greatNe hu (by rfl) (by first | exact Or.inl rfl | exact Or.inr (Or.inl rfl) | exact Or.inr (Or.inr rfl)) (by decide) (by decide) ((cn_lst ca_nil)).ce) (ce_greatPop hu (by rfl) (by first | exact Or.inl rfl | exact Or.inr (Or.inl rfl) | exact Or.inr (Or.inr rfl)) (by decide) (by decide)) (ce_scall (i := 0) o__law_blended.ok o__law_blended.mg o__law_blended.kp o__law_blended.b (hr.mono (by decide)) ca_nil)))) cs_nil)
    (cs_cons (cs_set hN (i := 2) (ce_op op_mod dr_mod (ce_callTy dr_int call_intA (by rfl) b_int rfl (ca_cons (ce_rest hu (by rfl) (by first | exact Or.inl rfl | exact Or.inr (Or.inl rfl) | exact Or.inr (Or.inr rfl)) (by decide) (by decide)) ca_nil)) (ce_var (i := 1))))
    (cs_cons (cs_rest hu (by rfl) (by first | exact Or.inl rfl | exact Or.inr (Or.inl rfl) | exact Or.inr (Or.inr rfl)) (by decide) (by decide) (ce_op op_fdivW dr_fdiv (ce_rest hu (by rfl) (by first | exact Or.inl rfl | exact Or.inr (Or.inl rfl) | exact Or.inr (Or.inr rfl)) (by decide) (by decide)) (ce_var (i := 1))))
    (cs_one (cs_ret (ce_var (i := 2)))))))⟩
def den__law_ct_made (F__law_ct_gcd : PF) : M Fl := (fSeq (fSet 2 (dCall F__law_ct_gcd (dCons (dVar 0) (dCons (dVar 1) (ret []))))) (fSeq (fSet 2 (dIf (dTest (dOp gtR (dVar 1) (ret (.int 0)))) (dVar 2) (dOp subR (ret (.int 0)) (dVar 2)))) (fSeq (fPar2 3 4 (vFz (dOp fdivR (dVar 0) (dVar 2))) (vFz (dOp fdivR (dVar 1) (dVar 2)))) (fRet (dIf (dTest (dOp eqR (dVar 4) (ret (.int 1)))) (dVar 3) (dTup (dCons (dVar 3) (dCons (dVar 4) (ret [])))))))))
theorem sc__law_ct_made : FnScope ["_law_top", "_law_bottom", "_law_common", "_law_high", "_law_low"] ["_law_top", "_law_bottom"] (defScope (top 46)) := ⟨rfl, rfl, rfl, by decide +kernel, rfl, by decide +kernel, by decide +kernel⟩
theorem fn__law_ct_made (a : At K mg "_law_ct_made" (defArgs (top 46)) (defBody (top 46)) (defScope (top 46))) {F__law_ct_gcd : PF} (o__law_ct_gcd : OkP P w K mg base "_law_ct_gcd" 1 ["_law_one", "_law_other"] F__law_ct_gcd) :
    FnOk P w K mg base CX0 2 (He.ga K "_law_ct_made") a.fd ["_law_top", "_law_bottom"] (spP K (wrapP 2 5 (den__law_ct_made F__law_ct_gcd))) := by
  refine fn_pure (N := ["_law_top", "_law_bottom", "_law_common", "_law_high", "_law_low"]) a.f sc__law_ct_made fun cdv A outer s H E hr => ?_
  have hN := sc__law_ct_made.nd
  have hu := hr.units
  exact ⟨_, (cs_cons (cs_set hN (i := 2) (ce_call o__law_ct_gcd.ok o__law_ct_gcd.mg o__law_ct_gcd.kp o__law_ct_gcd.b (hr.mono (by decide)) (ca_cons (ce_var (i := 0)) (ca_cons (ce_var (i := 1)) ca_nil))))
    (cs_cons (cs_set hN (i := 2) (ce_if (ct_cmp op_gtA dr_gt (ce_var (i := 1)) ce_int (by rfl)) (ce_var (i := 2)) (ce_op op_sub dr_sub ce_int (ce_var (i := 2)))))
    (cs_cons (cs_par2 (by rfl) hN (i := 3) (j := 4) ((ce_op op_fdivW dr_fdiv (ce_var (i := 0)) (ce_var (i := 2)))).cv ((ce_op op_fdivW dr_fdiv (ce_var (i := 1)) (ce_var (i := 2)))).cv)
    (cs_one (cs_ret (ce_if (ct_cmp (op_eqA hu) dr_eq (ce_var (i := 4)) ce_int (by rfl)) (ce_var (i := 3)) (ce_tup (ca_cons (ce_var (i := 3)) (ca_cons (ce_var (i := 4)) ca_nil)))))))))⟩
def den__law_ct_less (F__law_ct_top : PF) (F__law_ct_low : PF) : M Fl := (fRet (dOp ltR (dOp mulA (dCall F__law_ct_top (dCons (dVar 0) (ret []))) (dCall F__law_ct_low (dCons (dVar 1) (ret [])))) (dOp mulA (dCall F__law_ct_top (dCons (dVar 1) (ret []))) (dCall F__law_ct_low (dCons (dVar 0) (ret []))))))
theorem sc__law_ct_less : FnScope ["_law_one", "_law_other"] ["_law_one", "_law_other"] (defScope (top 49)) := ⟨rfl, rfl, rfl, by decide +kernel, rfl, by decide +kernel, by decide +kernel⟩
theorem fn__law_ct_less (a : At K mg "_law_ct_less" (defArgs (top 49)) (defBody (top 49)) (defScope (top 49))) {F__law_ct_top : PF} (o__law_ct_top : OkP P w K mg base "_law_ct_top" 1 ["_law_item"] F__law_ct_top) {F__law_ct_low : PF} (o__law_ct_low : OkP P w K mg base "_law_ct_low" 1 ["_law_item"] F__law_ct_low) :
    FnOk P w K mg base CX0 2 (He.ga K "_law_ct_less") a.fd ["_law_one", "_law_other"] (spP K (wrapP 2 2 (den__law_ct_less F__law_ct_top F__law_ct_low))) := by
  refine fn_pure (N := ["_law_one", "_law_other"]) a.f sc__law_ct_less fun cdv A outer s H E hr => ?_
  have hN := sc__law_ct_less.nd
  have hu := hr.units
  exact ⟨_, (cs_one (cs_ret (ce_cmp op_ltA dr_lt (ce_op op_mulA dr_mulA (ce_call o__law_ct_top.ok o__law_ct_top.mg o__law_ct_top.kp o__law_ct_top.b (hr.mono (by decide)) (ca_cons (ce_var (i := 0)) ca_nil)) (ce_call o__law_ct_low.ok o__law_ct_low.mg o__law_ct_low.kp o__law_ct_low.b (hr.mono (by decide)) (ca_cons (ce_var (i := 1)) ca_nil))) (ce_op op_mulA dr_mulA (ce_call o__law_ct_top.ok o__law_ct_top.mg o__law_ct_top.kp o__law_ct_top.b (hr.mono (by decide)) (ca_cons (ce_var (i := 1)) ca_nil)) (ce_call o__law_ct_low.ok o__law_ct_low.mg o__law_ct_low.kp o__law_ct_low.b (hr.mono (by decide)) (ca_cons (ce_var (i := 0)) ca_nil))) (by rfl))))⟩
def den__law_ct_is_number (F__law_ct_gcd : PF) : M Fl := (fSeq (fIf (dTest (dIsi "int" (dVar 0))) (fRet (dNotV (dIsi "bool" (dVar 0)))) (ret .nx)) (fSeq (fIf (dOr (dNot (dTest (dIsi "tuple" (dVar 0)))) (dTest (dOp neR (dCall lenR (dCons (dVar 0) (ret []))) (ret (.int 2))))) (fRet (ret (.bl false))) (ret .nx)) (fSeq (fIf (dTest (dOp neR (dFrz (dComp (dItT (dVar 0)) (tgName 1) (dOr (dNot (dTest (dIsi "int" (dVar 1)))) (dTest (dIsi "bool" (dVar 1)))) (ret (.int 1)) [1])) (dFrz (dLst (ret []))))) (fRet (ret (.bl false))) (ret .nx)) (fRet (dAndV (dOp geR (dOp ixR (dVar 0) (ret (.int 1))) (ret (.int 2))) (dOp eqR (dCall F__law_ct_gcd (dCons (dOp ixR (dVar 0) (ret (.int 0))) (dCons (dOp ixR (dVar 0) (ret (.int 1))) (ret [])))) (ret (.int 1))))))))
theorem sc__law_ct_is_number : FnScope ["_law_item", "_law_one"] ["_law_item"] (defScope (top 50)) := ⟨rfl, rfl, rfl, by decide +kernel, rfl, by decide +kernel, by decide +kernel⟩
theorem fn__law_ct_is_number (a : At K mg "_law_ct_is_number" (defArgs (top 50)) (defBody (top 50)) (defScope (top 50))) (b_isinstance : mg "isinstance" = none) (b_int : mg "int" = none) (b_bool : mg "bool" = none) (b_tuple : mg "tuple" = none) (b_len : mg "len" = none) {F__law_ct_gcd : PF} (o__law_ct_gcd : OkP P w K mg base "_law_ct_gcd" 1 ["_law_one", "_law_other"] F__law_ct_gcd) :
    FnOk P w K mg base CX0 2 (He.ga K "_law_ct_is_number") a.fd ["_law_item"] (spP K (wrapP 1 2 (den__law_ct_is_number F__law_ct_gcd))) := by
  refine fn_pure (N := ["_law_item", "_law_one"]) a.f sc__law_ct_is_number fun cdv A outer s H E hr => ?_
  have hN := sc__law_ct_is_number.nd
  have hu := hr.units
  exact ⟨_, (cs_cons (cs_if (ct_val (ce_isi (f := "int") tab_int (ce_var (i := 0)) (by rfl) b_isinstance (by rfl) b_int rfl)) (cs_one (cs_ret (ce_not (ce_isi (f := "bool") tab_bool (ce_var (i := 0)) (by rfl) b_isinstance (by rfl) b_bool rfl)))) cs_nil)
    (cs_cons (cs_if ((cw_or (ct_not (ct_val (ce_isi (f := "tuple") tab_tuple (ce_var (i := 0)) (by rfl) b_isinstance (by rfl) b_tuple rfl))) (cw_or1 (ct_cmp (op_neA hu) dr_ne (ce_callB dr_len call_len (by rfl) b_len rfl (ca_cons (ce_var (i := 0)) ca_nil)) ce_int (by rfl))))).ct (cs_one (cs_ret ce_bl)) cs_nil)
    (cs_cons (cs_if (ct_cmp (op_neA hu) dr_ne ((cn_lc (own := [("_law_one", 1)]) (g := (gName 1)) (tt := (tOr (tNot (tB (tCB (rIsi K) (tCons (tVar 1) (tCons (tC (.ty "int")) tNil))))) (tB (tCB (rIsi K) (tCons (tVar 1) (tCons (tC (.ty "bool")) tNil)))))) (te := (tC (.int 1))) (by rfl) hN (ci_tup (ce_var (i := 0))) (blkOk_by (by show blkC ["_law_item", "_law_one"] (defScope (top 50)) _ _ = true; decide +kernel)) (fun s H C cl fp => (cg_name hN (i := 1))) (fun s H C cl fp => (cts_one ((cw_or (ct_not (ct_val (ce_isi (f := "int") tab_int (ce_var (i := 1)) (by rfl) b_isinstance (by rfl) b_int rfl))) (cw_or1 (ct_val (ce_isi (f := "bool") tab_bool (ce_var (i := 1)) (by rfl) b_isinstance (by rfl) b_bool rfl))))).ct)) (fun s H C cl fp => ce_int))).ce ((cn_lst ca_nil)).ce (by rfl)) (cs_one (cs_ret ce_bl)) cs_nil)
    (cs_one (cs_ret (ce_and (ce_cmp op_geA dr_ge (ce_ix (ce_var (i := 0)) ce_int) ce_int (by rfl)) (ce_one (ce_cmp (op_eqA hu) dr_eq (ce_call o__law_ct_gcd.ok o__law_ct_gcd.mg o__law_ct_gcd.kp o__law_ct_gcd.b (hr.mono (by decide)) (ca_cons (ce_ix (ce_var (i := 0)) ce_int) (ca_cons (ce_ix (ce_var (i := 0)) ce_int) ca_nil))) ce_int (by rfl)))))))))⟩
def den__law_an_rising (F__law_an_is_word : PF) : M Fl := (fSeq (fIf (dOr (dNot (dTest (dIsi "tuple" (dVar 0)))) (dTest (dOp ltR (dCall lenR (dCons (dVar 0) (ret []))) (dVar 1)))) (fRet (ret (.bl false))) (ret .nx)) (fSeq (fIf (dTest (dOp neR (dFrz (dComp (dItT (dVar 0)) (tgName 2) (dNot (dTest (dCall F__law_an_is_word (dCons (dVar 2) (ret []))))) (ret (.int 1)) [2])) (dFrz (dLst (ret []))))) (fRet (ret (.bl false))) (ret .nx)) (fRet (dOp eqR (dFrz (dCallL lstR (dCons (dVar 0) (ret [])))) (dFrz (dCallL setSrtR (dCons (dVar 0) (ret []))))))))
theorem sc__law_an_rising : FnScope ["_law_thing", "_law_least", "_law_word"] ["_law_thing", "_law_least"] (defScope (top 61)) := ⟨rfl, rfl, rfl, by decide +kernel, rfl, by decide +kernel, by decide +kernel⟩
theorem fn__law_an_rising (a : At K mg "_law_an_rising" (defArgs (top 61)) (defBody (top 61)) (defScope (top 61))) (b_isinstance : mg "isinstance" = none) (b_tuple : mg "tuple" = none) (b_len : mg "len" = none) {F__law_an_is_word : PF} (o__law_an_is_word : OkP P w K mg base "_law_an_is_word" 1 ["_law_thing"] F__law_an_is_word) (b_list : mg "list" = none) (b_sorted : mg "sorted" = none) (b_set : mg "set" = none) :
    FnOk P w K mg base CX0 2 (He.ga K "_law_an_rising") a.fd ["_law_thing", "_law_least"] (spP K (wrapP 2 3 (den__law_an_rising F__law_an_is_word))) := by
  refine fn_pure (N := ["_law_thing", "_law_least", "_law_word"]) a.f sc__law_an_rising fun cdv A outer s H E hr => ?_
  have hN := sc__law_an_rising.nd
  have hu := hr.units
  exact ⟨_, (cs_cons (cs_if ((cw_or (ct_not (ct_val (ce_isi (f := "tuple") tab_tuple (ce_var (i := 0)) (by rfl) b_isinstance (by rfl) b_tuple rfl))) (cw_or1 (ct_cmp op_ltA dr_lt (ce_callB dr_len call_len (by rfl) b_len rfl (ca_cons (ce_var (i := 0)) ca_nil)) (ce_var (i := 1)) (by rfl))))).ct (cs_one (cs_ret ce_bl)) cs_nil)
    (cs_cons (cs_if (ct_cmp (op_neA hu) dr_ne ((cn_lc (own := [("_law_word", 2)]) (g := (gName 2)) (tt := (tNot (tB (tCall (spP K F__law_an_is_word) [] E0 (tCons (tVar 2) tNil))))) (te := (tC (.int 1))) (by rfl) hN (ci_tup (ce_var (i := 0))) (blkOk_by (by show blkC ["_law_thing", "_law_least", "_law_word"] (defScope (top 61)) _ _ = true; decide +kernel)) (fun s H C cl fp => (cg_name hN (i := 2))) (fun s H C cl fp => (cts_one (ct_not (ct_val (ce_call o__law_an_is_word.ok o__law_an_is_word.mg o__law_an_is_word.kp o__law_an_is_word.b (hr.mono (by decide)) (ca_cons (ce_var (i := 2)) ca_nil)))))) (fun s H C cl fp => ce_int))).ce ((cn_lst ca_nil)).ce (by rfl)) (cs_one (cs_ret ce_bl)) cs_nil)
    (cs_one (cs_ret (ce_cmp (op_eqA hu) dr_eq ((cn_callTy dr_lst call_list_of (by rfl) b_list rfl (ca_cons (ce_var (i := 0)) ca_nil))).ce ((cn_sortSet (by rfl) (by rfl) b_sorted (by rfl) b_set (ca_cons (ce_var (i := 0)) ca_nil))).ce (by rfl))))))⟩
def den__law_an_written (F__law_an_ends : PF) (F__law_an_number_words : PF) : M Fl := (fSeq (fSetV 1 (vOw (dLst (dCons (dOp addR (ret (.str "taps ")) (dJoin (ret (.str " ")) (dFrz (dCallL lstR (dCons (dOp ixR (dVar 0) (ret (.int 0))) (ret [])))))) (ret []))))) (fSeq (fFor (dItT (dOp ixR (dVar 0) (ret (.int 1)))) (tgName 2) (fDrop (dAppend 1 (dJoin (ret (.str " ")) (dOp addR (dOp addR (dFrz (dLst (dCons (dOp ixR (dVar 2) (ret (.int 0))) (ret [])))) (dFrz (dCallL lstR (dCons (dCall F__law_an_ends (dCons (dVar 2) (ret []))) (ret []))))) (dFrz (dLst (dCons (dCall F__law_an_number_words (dCons (dOp ixR (dVar 2) (dNeg (ret (.int 1)))) (ret []))) (ret []))))))))) (fRet (dJoin (ret (.str "")) (dFrz (dComp (dItL (dVar 1)) (tgName 3) (ret true) (dOp addR (dVar 3) (ret (.str "\n"))) [3]))))))
theorem sc__law_an_written : FnScope ["_law_net_here", "_law_lines_here", "_law_part", "_law_line"] ["_law_net_here"] (defScope (top 66)) := ⟨rfl, rfl, rfl, by decide +kernel, rfl, by decide +kernel, by decide +kernel⟩
theorem fn__law_an_written (a : At K mg "_law_an_written" (defArgs (top 66)) (defBody (top 66)) (defScope (top 66))) (b_list : mg "list" = none) {F__law_an_ends : PF} (o__law_an_ends : OkP P w K mg base "_law_an_ends" 1 ["_law_part"] F__law_an_ends) {F__law_an_number_words : PF} (o__law_an_number_words : OkP P w K mg base "_law_an_number_words" 1 ["_law_item"] F__law_an_number_words) :
    FnOk P w K mg base CX0 2 (He.ga K "_law_an_written") a.fd ["_law_net_here"] (spP K (wrapP 1 4 (den__law_an_written F__law_an_ends F__law_an_number_words))) := by
  refine fn_pure (N := ["_law_net_here", "_law_lines_here", "_law_part", "_law_line"]) a.f sc__law_an_written fun cdv A outer s H E hr => ?_
  have hN := sc__law_an_written.nd
  have hu := hr.units
  exact ⟨_, (cs_cons (cs_setV hN (i := 1) ((cn_lst (ca_cons (ce_op op_addA dr_add ce_str (ce_join ce_str ((cn_callTy dr_lst call_list_of (by rfl) b_list rfl (ca_cons (ce_ix (ce_var (i := 0)) ce_int) ca_nil))).ce)) ca_nil))).cv)
    (cs_cons (cs_for PassesOwn.never (by rfl) (ci_tup (ce_ix (ce_var (i := 0)) ce_int)) (cg_name hN (i := 2)) (cs_one (cs_expr (ce_append (i := 1) (ce_join ce_str (ce_op op_addA dr_add (ce_op op_addA dr_add ((cn_lst (ca_cons (ce_ix (ce_var (i := 2)) ce_int) ca_nil))).ce ((cn_callTy dr_lst call_list_of (by rfl) b_list rfl (ca_cons (ce_call o__law_an_ends.ok o__law_an_ends.mg o__law_an_ends.kp o__law_an_ends.b (hr.mono (by decide)) (ca_cons (ce_var (i := 2)) ca_nil)) ca_nil))).ce) ((cn_lst (ca_cons (ce_call o__law_an_number_words.ok o__law_an_number_words.mg o__law_an_number_words.kp o__law_an_number_words.b (hr.mono (by decide)) (ca_cons (ce_ix (ce_var (i := 2)) (ce_neg ce_int)) ca_nil)) ca_nil))).ce))))))
    (cs_one (cs_ret (ce_join ce_str ((cn_lc (own := [("_law_line", 3)]) (g := (gName 3)) (tt := tYes) (te := (tOp (rAddA K) (tVar 3) (tC (.str "\n")))) (by rfl) hN (ci_list (ce_var (i := 1))) (blkOk_by (by show blkC ["_law_net_here", "_law_lines_here", "_law_part", "_law_line"] (defScope (top 66)) _ _ = true; decide +kernel)) (fun s H C cl fp => (cg_name hN (i := 3))) (fun s H C cl fp => cts_nil) (fun s H C cl fp => (ce_op op_addA dr_add (ce_var (i := 3)) ce_str)))).ce)))))⟩
def den_is_taps (F_are_names : PF) : M Fl := (fRet (dAndV (dCall F_are_names (dCons (dVar 0) (ret []))) (dChain leR leR (ret (.int 2)) (dCall lenR (dCons (dVar 0) (ret []))) (ret (.int 6)))))
theorem sc_is_taps : FnScope ["value"] ["value"] (defScope (top 12)) := ⟨rfl, rfl, rfl, by decide +kernel, rfl, by decide +kernel, by decide +kernel⟩
theorem fn_is_taps (a : At K mg "is_taps" (defArgs (top 12)) (defBody (top 12)) (defScope (top 12))) {F_are_names : PF} (o_are_names : OkP P w K mg base "are_names" 2 ["value"] F_are_names) (c0_LEAST_TAPS : ∃ t, mg "LEAST_TAPS" = some (.int 2 t)) (b_len : mg "len" = none) (c0_MOST_TAPS : ∃ t, mg "MOST_TAPS" = some (.int 6 t)) :
    FnOk P w K mg base CX0 3 (He.ga K "is_taps") a.fd ["value"] (spP K (wrapP 1 1 (den_is_taps F_are_names))) := by
  obtain ⟨_, c_LEAST_TAPS⟩ := c0_LEAST_TAPS
  obtain ⟨_, c_MOST_TAPS⟩ := c0_MOST_TAPS
  refine fn_pure (N := ["value"]) a.f sc_is_taps fun cdv A outer s H E hr => ?_
  have hN := sc_is_taps.nd
  have hu := hr.units
  exact ⟨_, (cs_one (cs_ret (ce_and (ce_call o_are_names.ok o_are_names.mg o_are_names.kp o_are_names.b (hr.mono (by decide)) (ca_cons (ce_var (i := 0)) ca_nil)) (ce_one (ce_chain op_leA op_leA dr_le dr_le (ce_glob (v := .int 2) (by rfl) c_LEAST_TAPS ⟨_, rfl⟩ (fun _ => .int _)) (ce_callB dr_len call_len (by rfl) b_len rfl (ca_cons (ce_var (i := 0)) ca_nil)) (ce_glob (v := .int 6) (by rfl) c_MOST_TAPS ⟨_, rfl⟩ (fun _ => .int _)))))))⟩
def den_is_width (F_is_number : PF) (F_is_less : PF) : M Fl := (fRet (dAndV (dCall F_is_number (dCons (dVar 0) (ret []))) (dNotV (dCall F_is_less (dCons (dVar 0) (dCons (ret (.int 0)) (ret [])))))))
theorem sc_is_width : FnScope ["value"] ["value"] (defScope (top 22)) := ⟨rfl, rfl, rfl, by decide +kernel, rfl, by decide +kernel, by decide +kernel⟩
theorem fn_is_width (a : At K mg "is_width" (defArgs (top 22)) (defBody (top 22)) (defScope (top 22))) {F_is_number : PF} (o_is_number : OkP P w K mg base "is_number" 2 ["value"] F_is_number) {F_is_less : PF} (o_is_less : OkP P w K mg base "is_less" 2 ["one", "other"] F_is_less) :
    FnOk P w K mg base CX0 3 (He.ga K "is_width") a.fd ["value"] (spP K (wrapP 1 1 (den_is_width F_is_number F_is_less))) := by
  refine fn_pure (N := ["value"]) a.f sc_is_width fun cdv A outer s H E hr => ?_
  have hN := sc_is_width.nd
  have hu := hr.units
  exact ⟨_, (cs_one (cs_ret (ce_and (ce_call o_is_number.ok o_is_number.mg o_is_number.kp o_is_number.b (hr.mono (by decide)) (ca_cons (ce_var (i := 0)) ca_nil)) (ce_one (ce_not (ce_call o_is_less.ok o_is_less.mg o_is_less.kp o_is_less.b (hr.mono (by decide)) (ca_cons (ce_var (i := 0)) (ca_cons ce_int ca_nil))))))))⟩
def den_number_of (F_whole_of : PF) (F_is_number : PF) : M Fl := (fSeq (fSetN 1 (dComp (dItL (dFrz (dSplit (dVar 0) (ret (.str "/"))))) (tgName 3) (ret true) (dCall F_whole_of (dCons (dVar 3) (ret []))) [3])) (fSeq (fIf (dOr (dTest (dOp gtR (dCall lenR (dCons (dVar 1) (ret []))) (ret (.int 2)))) (dTest (dOp inR (ret .non) (dVar 1)))) (fRet (ret .non)) (ret .nx)) (fSeq (fSet 2 (dIf (dTest (dOp eqR (dCall lenR (dCons (dVar 1) (ret []))) (ret (.int 1)))) (dOp ixR (dVar 1) (ret (.int 0))) (dTup (dCons (dOp ixR (dVar 1) (ret (.int 0))) (dCons (dOp ixR (dVar 1) (ret (.int 1))) (ret [])))))) (fRet (dIf (dTest (dCall F_is_number (dCons (dVar 2) (ret [])))) (dVar 2) (ret .non))))))
theorem sc_number_of : FnScope ["word", "wholes", "found", "one"] ["word"] (defScope (top 35)) := ⟨rfl, rfl, rfl, by decide +kernel, rfl, by decide +kernel, by decide +kernel⟩
theorem fn_number_of (a : At K mg "number_of" (defArgs (top 35)) (defBody (top 35)) (defScope (top 35))) {F_whole_of : PF} (o_whole_of : OkP P w K mg base "whole_of" 1 ["word"] F_whole_of) (b_len : mg "len" = none) {F_is_number : PF} (o_is_number : OkP P w K mg base "is_number" 2 ["value"] F_is_number) :
    FnOk P w K mg base CX0 3 (He.ga K "number_of") a.fd ["word"] (spP K (wrapP 1 4 (den_number_of F_whole_of F_is_number))) := by
  refine fn_pure (N := ["word", "wholes", "found", "one"]) a.f sc_number_of fun cdv A outer s H E hr => ?_
  have hN := sc_number_of.nd
  have hu := hr.units
  exact ⟨_, (cs_cons (cs_setLc (i := 1) (own := [("one", 3)]) (g := (gName 3)) (tt := tYes) (te := (tCall (spP K F_whole_of) [] E0 (tCons (tVar 3) tNil))) (by rfl) hN (ci_list ((cn_split (ce_var (i := 0)) ce_str)).ce) (blkOk_by (by show blkC ["word", "wholes", "found", "one"] (defScope (top 35)) _ _ = true; decide +kernel)) (fun s H C cl fp => (cg_name hN (i := 3))) (fun s H C cl fp => cts_nil) (fun s H C cl fp => (ce_call o_whole_of.ok o_whole_of.mg o_whole_of.kp o_whole_of.b (hr.mono (by decide)) (ca_cons (ce_var (i := 3)) ca_nil))))
    (cs_cons (cs_if ((cw_or (ct_cmp op_gtA dr_gt (ce_callB dr_len call_len (by rfl) b_len rfl (ca_cons (ce_var (i := 1)) ca_nil)) ce_int (by rfl)) (cw_or1 (ct_cmp op_inA dr_in ce_non (ce_var (i := 1)) (by rfl))))).ct (cs_one (cs_ret ce_non)) cs_nil)
    (cs_cons (cs_set hN (i := 2) (ce_if (ct_cmp (op_eqA hu) dr_eq (ce_callB dr_len call_len (by rfl) b_len rfl (ca_cons (ce_var (i := 1)) ca_nil)) ce_int (by rfl)) (ce_ix (ce_var (i := 1)) ce_int) (ce_tup (ca_cons (ce_ix (ce_var (i := 1)) ce_int) (ca_cons (ce_ix (ce_var (i := 1)) ce_int) ca_nil)))))
    (cs_one (cs_ret (ce_if (ct_val (ce_call o_is_number.ok o_is_number.mg o_is_number.kp o_is_number.b (hr.mono (by decide)) (ca_cons (ce_var (i := 2)) ca_nil))) (ce_var (i := 2)) ce_non))))))⟩
def den__law_pick (F__law_draw : SF) : M Fl := (fRet (dOp ixR (dVar 1) (dSCall F__law_draw (dStArg 0 (dCons (dCall lenR (dCons (dVar 1) (ret []))) (ret []))))))
theorem sc__law_pick : FnScope ["_law_state", "_law_some"] ["_law_state", "_law_some"] (defScope (top 42)) := ⟨rfl, rfl, rfl, by decide +kernel, rfl, by decide +kernel, by decide +kernel⟩
theorem fn__law_pick (a : At K mg "_law_pick" (defArgs (top 42)) (defBody (top 42)) (defScope (top 42))) {F__law_draw : SF} (o__law_draw : OkS P w K mg base "_law_draw" 2 ["_law_state", "_law_room"] F__law_draw) (b_len : mg "len" = none) :
    FnOk P w K mg base CX0 3 (He.ga K "_law_pick") a.fd ["_law_state", "_law_some"] (spS K (wrapS 2 2 (den__law_pick F__law_draw))) := by
  refine fn_s (N := ["_law_state", "_law_some"]) a.f sc__law_pick fun so cdv A outer s H E hr => ?_
  have hN := sc__law_pick.nd
  have hu := hr.units
  exact ⟨_, (cs_one (cs_ret (ce_ix (ce_var (i := 1)) (ce_scall (i := 0) o__law_draw.ok o__law_draw.mg o__law_draw.kp o__law_draw.b (hr.mono (by decide)) (ca_cons (ce_callB dr_len call_len (by rfl) b_len rfl (ca_cons (ce_var (i := 1)) ca_nil)) ca_nil)))))⟩
def den__law_shuffled (F__law_draw : SF) (fuel1 : FS → Nat) : M Fl := (fSeq (fPar2 2 3 (vOw (dCallL lstR (dCons (dVar 1) (ret [])))) (vOw (dLst (ret [])))) (fSeq (fWhile fuel1 (dTest (dOwnL 2 neR (dFrz (dLst (ret []))))) (fDrop (dAppend 3 (dPop 2 (dSCall F__law_draw (dStArg 0 (dCons (dOwnC 2 lenR) (ret [])))))))) (fRet (dVar 3))))
theorem sc__law_shuffled : FnScope ["_law_state", "_law_some", "_law_left", "_law_found"] ["_law_state", "_law_some"] (defScope (top 43)) := ⟨rfl, rfl, rfl, by decide +kernel, rfl, by decide +kernel, by decide +kernel⟩
theorem fn__law_shuffled (a : At K mg "_law_shuffled" (defArgs (top 43)) (defBody (top 43)) (defScope (top 43))) (b_list : mg "list" = none) {F__law_draw : SF} (o__law_draw : OkS P w K mg base "_law_draw" 2 ["_law_state", "_law_room"] F__law_draw) (b_len : mg "len" = none) (fuel1 : FS → Nat) :
    FnOk P w K mg base CX0 3 (He.ga K "_law_shuffled") a.fd ["_law_state", "_law_some"] (spS K (wrapS 2 4 (den__law_shuffled F__law_draw fuel1))) := by
  refine fn_s (N := ["_law_state", "_law_some", "_law_left", "_law_found"]) a.f sc__law_shuffled fun so cdv A outer s H E hr => ?_
  have hN := sc__law_shuffled.nd
  have hu := hr.units
  exact ⟨_, (cs_cons (cs_par2 (by rfl) hN (i := 2) (j := 3) ((cn_callTy dr_lst call_list_of (by rfl) b_list rfl (ca_cons (ce_var (i := 1)) ca_nil))).cv ((cn_lst ca_nil)).cv)
    (cs_cons (cs_while fuel1 PassesOwn.never (ct_ownCmpL (i := 2) (op_neA hu) dr_ne ((cn_lst ca_nil)).ce (by rfl)) (cs_one (cs_expr (ce_append (i := 3) (ce_pop (i := 2) (ce_scall (i := 0) o__law_draw.ok o__law_draw.mg o__law_draw.kp o__law_draw.b (hr.mono (by decide)) (ca_cons (ce_ownC (i := 2) dr_len call_len (by rfl) b_len rfl) ca_nil)))))))
    (cs_one (cs_ret (ce_var (i := 3))))))⟩
def den__law_an_is_wide (F__law_ct_is_number : PF) (F__law_ct_less : PF) : M Fl := (fRet (dAndV (dCall F__law_ct_is_number (dCons (dVar 0) (ret []))) (dNotV (dCall F__law_ct_less (dCons (dVar 0) (dCons (ret (.int 0)) (ret [])))))))
theorem sc__law_an_is_wide : FnScope ["_law_thing"] ["_law_thing"] (defScope (top 62)) := ⟨rfl, rfl, rfl, by decide +kernel, rfl, by decide +kernel, by decide +kernel⟩
theorem fn__law_an_is_wide (a : At K mg "_law_an_is_wide" (defArgs (top 62)) (defBody (top 62)) (defScope (top 62))) {F__law_ct_is_number : PF} (o__law_ct_is_number : OkP P w K mg base "_law_ct_is_number" 2 ["_law_item"] F__law_ct_is_number) {F__law_ct_less : PF} (o__law_ct_less : OkP P w K mg base "_law_ct_less" 2 ["_law_one", "_law_other"] F__law_ct_less) :
    FnOk P w K mg base CX0 3 (He.ga K "_law_an_is_wide") a.fd ["_law_thing"] (spP K (wrapP 1 1 (den__law_an_is_wide F__law_ct_is_number F__law_ct_less))) := by
  refine fn_pure (N := ["_law_thing"]) a.f sc__law_an_is_wide fun cdv A outer s H E hr => ?_
  have hN := sc__law_an_is_wide.nd
  have hu := hr.units
  exact ⟨_, (cs_one (cs_ret (ce_and (ce_call o__law_ct_is_number.ok o__law_ct_is_number.mg o__law_ct_is_number.kp o__law_ct_is_number.b (hr.mono (by decide)) (ca_cons (ce_var (i := 0)) ca_nil)) (ce_one (ce_not (ce_call o__law_ct_less.ok o__law_ct_less.mg o__law_ct_less.kp o__law_ct_less.b (hr.mono (by decide)) (ca_cons (ce_var (i := 0)) (ca_cons ce_int ca_nil))))))))⟩
def den__law_an_read_number (F__law_an_digits : PF) (F__law_ct_is_number : PF) : M Fl := (fSeq (fSetN 1 (dComp (dItL (dFrz (dSplit (dVar 0) (ret (.str "/"))))) (tgName 3) (ret true) (dCall F__law_an_digits (dCons (dVar 3) (ret []))) [3])) (fSeq (fIf (dOr (dTest (dOp inR (ret .non) (dVar 1))) (dTest (dOp gtR (dCall lenR (dCons (dVar 1) (ret []))) (ret (.int 2))))) (fRet (ret .non)) (ret .nx)) (fSeq (fSet 2 (dIf (dTest (dOp eqR (dCall lenR (dCons (dVar 1) (ret []))) (ret (.int 1)))) (dOp ixR (dVar 1) (ret (.int 0))) (dTup (dCons (dOp ixR (dVar 1) (ret (.int 0))) (dCons (dOp ixR (dVar 1) (ret (.int 1))) (ret [])))))) (fRet (dIf (dTest (dCall F__law_ct_is_number (dCons (dVar 2) (ret [])))) (dVar 2) (ret .non))))))
theorem sc__law_an_read_number : FnScope ["_law_word", "_law_some", "_law_found", "_law_one"] ["_law_word"] (defScope (top 68)) := ⟨rfl, rfl, rfl, by decide +kernel, rfl, by decide +kernel, by decide +kernel⟩
theorem fn__law_an_read_number (a : At K mg "_law_an_read_number" (defArgs (top 68)) (defBody (top 68)) (defScope (top 68))) {F__law_an_digits : PF} (o__law_an_digits : OkP P w K mg base "_law_an_digits" 1 ["_law_word"] F__law_an_digits) (b_len : mg "len" = none) {F__law_ct_is_number : PF} (o__law_ct_is_number : OkP P w K mg base "_law_ct_is_number" 2 ["_law_item"] F__law_ct_is_number) :
    FnOk P w K mg base CX0 3 (He.ga K "_law_an_read_number") a.fd ["_law_word"] (spP K (wrapP 1 4 (den__law_an_read_number F__law_an_digits F__law_ct_is_number))) := by
  refine fn_pure (N := ["_law_word", "_law_some", "_law_found", "_law_one"]) a.f sc__law_an_read_number fun cdv A outer s H E hr => ?_
  have hN := sc__law_an_read_number.nd
  have hu := hr.units
  exact ⟨_, (cs_cons (cs_setLc (i := 1) (own := [("_law_one", 3)]) (g := (gName 3)) (tt := tYes) (te := (tCall (spP K F__law_an_digits) [] E0 (tCons (tVar 3) tNil))) (by rfl) hN (ci_list ((cn_split (ce_var (i := 0)) ce_str)).ce) (blkOk_by (by show blkC ["_law_word", "_law_some", "_law_found", "_law_one"] (defScope (top 68)) _ _ = true; decide +kernel)) (fun s H C cl fp => (cg_name hN (i := 3))) (fun s H C cl fp => cts_nil) (fun s H C cl fp => (ce_call o__law_an_digits.ok o__law_an_digits.mg o__law_an_digits.kp o__law_an_digits.b (hr.mono (by decide)) (ca_cons (ce_var (i := 3)) ca_nil))))
    (cs_cons (cs_if ((cw_or (ct_cmp op_inA dr_in ce_non (ce_var (i := 1)) (by rfl)) (cw_or1 (ct_cmp op_gtA dr_gt (ce_callB dr_len call_len (by rfl) b_len rfl (ca_cons (ce_var (i := 1)) ca_nil)) ce_int (by rfl))))).ct (cs_one (cs_ret ce_non)) cs_nil)
    (cs_cons (cs_set hN (i := 2) (ce_if (ct_cmp (op_eqA hu) dr_eq (ce_callB dr_len call_len (by rfl) b_len rfl (ca_cons (ce_var (i := 1)) ca_nil)) ce_int (by rfl)) (ce_ix (ce_var (i := 1)) ce_int) (ce_tup (ca_cons (ce_ix (ce_var (i := 1)) ce_int) (ca_cons (ce_ix (ce_var (i := 1)) ce_int) ca_nil)))))
    (cs_one (cs_ret (ce_if (ct_val (ce_call o__law_ct_is_number.ok o__law_ct_is_number.mg o__law_ct_is_number.kp o__law_ct_is_number.b (hr.mono (by decide)) (ca_cons (ce_var (i := 2)) ca_nil))) (ce_var (i := 2)) ce_non))))))⟩
def den_is_part (F_are_names : PF) (F_is_width : PF) (F_is_name : PF) : M Fl := (fSeq (fIf (dOr (dNot (dTest (dIsi "tuple" (dVar 0)))) (dOr (dTest (dOp ltR (dCall lenR (dCons (dVar 0) (ret []))) (ret (.int 3)))) (dNot (dTest (dIsi "str" (dOp ixR (dVar 0) (ret (.int 0)))))))) (fRet (ret (.bl false))) (ret .nx)) (fSeq (fIf (dTest (dOp eqR (dOp ixR (dVar 0) (ret (.int 0))) (ret (.str "hub")))) (fRet (dAndV (dOp eqR (dCall lenR (dCons (dVar 0) (ret []))) (ret (.int 3))) (dAndV (dCall F_are_names (dCons (dOp ixR (dVar 0) (ret (.int 1))) (ret []))) (dAndV (dOp geR (dCall lenR (dCons (dOp ixR (dVar 0) (ret (.int 1))) (ret []))) (ret (.int 2))) (dCall F_is_width (dCons (dOp ixR (dVar 0) (ret (.int 2))) (ret []))))))) (ret .nx)) (fSeq (fIf (dOr (dTest (dOp ninR (dOp ixR (dVar 0) (ret (.int 0))) (dTup (dCons (ret (.str "pipe")) (dCons (ret (.str "lead")) (ret [])))))) (dTest (dOp neR (dCall lenR (dCons (dVar 0) (ret []))) (ret (.int 4))))) (fRet (ret (.bl false))) (ret .nx)) (fSeq (fIf (dOr (dNot (dTest (dCall F_is_name (dCons (dOp ixR (dVar 0) (ret (.int 1))) (ret []))))) (dOr (dNot (dTest (dCall F_is_name (dCons (dOp ixR (dVar 0) (ret (.int 2))) (ret []))))) (dNot (dTest (dCall F_is_width (dCons (dOp ixR (dVar 0) (ret (.int 3))) (ret []))))))) (fRet (ret (.bl false))) (ret .nx)) (fRet (dIf (dTest (dOp eqR (dOp ixR (dVar 0) (ret (.int 0))) (ret (.str "pipe")))) (dOp ltR (dOp ixR (dVar 0) (ret (.int 1))) (dOp ixR (dVar 0) (ret (.int 2)))) (dOp neR (dOp ixR (dVar 0) (ret (.int 1))) (dOp ixR (dVar 0) (ret (.int 2))))))))))
theorem sc_is_part : FnScope ["value"] ["value"] (defScope (top 23)) := ⟨rfl, rfl, rfl, by decide +kernel, rfl, by decide +kernel, by decide +kernel⟩
theorem fn_is_part (a : At K mg "is_part" (defArgs (top 23)) (defBody (top 23)) (defScope (top 23))) (b_isinstance : mg "isinstance" = none) (b_tuple : mg "tuple" = none) (b_len : mg "len" = none) (b_str : mg "str" = none) {F_are_names : PF} (o_are_names : OkP P w K mg base "are_names" 2 ["value"] F_are_names) {F_is_width : PF} (o_is_width : OkP P w K mg base "is_width" 3 ["value"] F_is_width) {F_is_name : PF} (o_is_name : OkP P w K mg base "is_name" 1 ["value"] F_is_name) :
    FnOk P w K mg base CX0 4 (He.ga K "is_part") a.fd ["value"] (spP K (wrapP 1 1 (den_is_part F_are_names F_is_width F_is_name))) := by
  refine fn_pure (N := ["value"]) a.f sc_is_part fun cdv A outer s H E hr => ?_
  have hN := sc_is_part.nd
  have hu := hr.units
  exact ⟨_, (cs_cons (cs_if ((cw_or (ct_not (ct_val (ce_isi (f := "tuple") tab_tuple (ce_var (i := 0)) (by rfl) b_isinstance (by rfl) b_tuple rfl))) (cw_or (ct_cmp op_ltA dr_lt (ce_callB dr_len call_len (by rfl) b_len rfl (ca_cons (ce_var (i := 0)) ca_nil)) ce_int (by rfl)) (cw_or1 (ct_not (ct_val (ce_isi (f := "str") tab_str (ce_ix (ce_var (i := 0)) ce_int) (by rfl) b_isinstance (by rfl) b_str rfl))))))).ct (cs_one (cs_ret ce_bl)) cs_nil)
    (cs_cons (cs_if (ct_cmp (op_eqA hu) dr_eq (ce_ix (ce_var (i := 0)) ce_int) ce_str (by rfl)) (cs_one (cs_ret (ce_and (ce_cmp (op_eqA hu) dr_eq (ce_callB dr_len call_len (by rfl) b_len rfl (ca_cons (ce_var (i := 0)) ca_nil)) ce_int (by rfl)) (ce_and (ce_call o_are_names.ok o_are_names.mg o_are_names.kp o_are_names.b (hr.mono (by decide)) (ca_cons (ce_ix (ce_var (i := 0)) ce_int) ca_nil)) (ce_and (ce_cmp op_geA dr_ge (ce_callB dr_len call_len (by rfl) b_len rfl (ca_cons (ce_ix (ce_var (i := 0)) ce_int) ca_nil)) ce_int (by rfl)) (ce_one (ce_call o_is_width.ok o_is_width.mg o_is_width.kp o_is_width.b (hr.mono (by decide)) (ca_cons (ce_ix (ce_var (i := 0)) ce_int) ca_nil)))))))) cs_nil)
    (cs_cons (cs_if ((cw_or (ct_cmp op_ninA dr_nin (ce_ix (ce_var (i := 0)) ce_int) (ce_tup (ca_cons ce_str (ca_cons ce_str ca_nil))) (by rfl)) (cw_or1 (ct_cmp (op_neA hu) dr_ne (ce_callB dr_len call_len (by rfl) b_len rfl (ca_cons (ce_var (i := 0)) ca_nil)) ce_int (by rfl))))).ct (cs_one (cs_ret ce_bl)) cs_nil)
    (cs_cons (cs_if ((cw_or (ct_not (ct_val (ce_call o_is_name.ok o_is_name.mg o_is_name.kp o_is_name.b (hr.mono (by decide)) (ca_cons (ce_ix (ce_var (i := 0)) ce_int) ca_nil)))) (cw_or (ct_not (ct_val (ce_call o_is_name.ok o_is_name.mg o_is_name.kp o_is_name.b (hr.mono (by decide)) (ca_cons (ce_ix (ce_var (i := 0)) ce_int) ca_nil)))) (cw_or1 (ct_not (ct_val (ce_call o_is_width.ok o_is_width.mg o_is_width.kp o_is_width.b (hr.mono (by decide)) (ca_cons (ce_ix (ce_var (i := 0)) ce_int) ca_nil)))))))).ct (cs_one (cs_ret ce_bl)) cs_nil)
    (cs_one (cs_ret (ce_if (ct_cmp (op_eqA hu) dr_eq (ce_ix (ce_var (i := 0)) ce_int) ce_str (by rfl)) (ce_cmp op_ltA dr_lt (ce_ix (ce_var (i := 0)) ce_int) (ce_ix (ce_var (i := 0)) ce_int) (by rfl)) (ce_cmp (op_neA hu) dr_ne (ce_ix (ce_var (i := 0)) ce_int) (ce_ix (ce_var (i := 0)) ce_int) (by rfl)))))))))⟩
def den__law_ct_number (F__law_pick : SF) : M Fl := (fRet (dSCall F__law_pick (dStArg 0 (dCons (dFrz (dLst (dCons (ret (.int 1)) (dCons (ret (.int 2)) (dCons (ret (.int 1)) (dCons (ret (.int 3)) (dCons (ret (.int 1)) (dCons (dTup (dCons (ret (.int 1)) (dCons (ret (.int 2)) (ret [])))) (dCons (ret (.int 0)) (dCons (ret (.int 5)) (dCons (dTup (dCons (ret (.int 3)) (dCons (ret (.int 2)) (ret [])))) (dCons (ret (.int 4)) (dCons (dTup (dCons (ret (.int 2)) (dCons (ret (.int 3)) (ret [])))) (dCons (ret (.int 10)) (ret []))))))))))))))) (ret [])))))
theorem sc__law_ct_number : FnScope ["_law_state"] ["_law_state"] (defScope (top 51)) := ⟨rfl, rfl, rfl, by decide +kernel, rfl, by decide +kernel, by decide +kernel⟩
theorem fn__law_ct_number (a : At K mg "_law_ct_number" (defArgs (top 51)) (defBody (top 51)) (defScope (top 51))) {F__law_pick : SF} (o__law_pick : OkS P w K mg base "_law_pick" 3 ["_law_state", "_law_some"] F__law_pick) :
    FnOk P w K mg base CX0 4 (He.ga K "_law_ct_number") a.fd ["_law_state"] (spS K (wrapS 1 1 (den__law_ct_number F__law_pick))) := by
  refine fn_s (N := ["_law_state"]) a.f sc__law_ct_number fun so cdv A outer s H E hr => ?_
  have hN := sc__law_ct_number.nd
  have hu := hr.units
  exact ⟨_, (cs_one (cs_ret (ce_scall (i := 0) o__law_pick.ok o__law_pick.mg o__law_pick.kp o__law_pick.b (hr.mono (by decide)) (ca_cons ((cn_lst (ca_cons ce_int (ca_cons ce_int (ca_cons ce_int (ca_cons ce_int (ca_cons ce_int (ca_cons (ce_tup (ca_cons ce_int (ca_cons ce_int ca_nil))) (ca_cons ce_int (ca_cons ce_int (ca_cons (ce_tup (ca_cons ce_int (ca_cons ce_int ca_nil))) (ca_cons ce_int (ca_cons (ce_tup (ca_cons ce_int (ca_cons ce_int ca_nil))) (ca_cons ce_int ca_nil)))))))))))))).ce ca_nil))))⟩
def den__law_ct_taps (F__law_pick : SF) (F__law_draw : SF) (F__law_shuffled : SF) : M Fl := (fSeq (fSet 3 (dSCall F__law_pick (dStArg 0 (dCons (dFrz (dLst (dCons (dFrz (dLst (dCons (ret (.str "a")) (dCons (ret (.str "b")) (dCons (ret (.str "c")) (dCons (ret (.str "d")) (dCons (ret (.str "e")) (dCons (ret (.str "f")) (ret []))))))))) (dCons (dFrz (dLst (dCons (ret (.str "north")) (dCons (ret (.str "south")) (dCons (ret (.str "t1")) (dCons (ret (.str "t2")) (dCons (ret (.str "u")) (dCons (ret (.str "west")) (ret []))))))))) (ret []))))) (ret []))))) (fSeq (fSet 4 (dOp addR (dVar 1) (dSCall F__law_draw (dStArg 0 (dCons (dOp addR (dOp subR (dVar 2) (dVar 1)) (ret (.int 1))) (ret [])))))) (fRet (dCall tupR (dCons (dFrz (dCallL srtR (dCons (dSl (dSCall F__law_shuffled (dStArg 0 (dCons (dVar 3) (ret [])))) (ret none) (dPart (dVar 4))) (ret [])))) (ret []))))))
theorem sc__law_ct_taps : FnScope ["_law_state", "_law_least", "_law_most", "_law_some", "_law_many"] ["_law_state", "_law_least", "_law_most"] (defScope (top 52)) := ⟨rfl, rfl, rfl, by decide +kernel, rfl, by decide +kernel, by decide +kernel⟩
theorem fn__law_ct_taps (a : At K mg "_law_ct_taps" (defArgs (top 52)) (defBody (top 52)) (defScope (top 52))) {F__law_pick : SF} (o__law_pick : OkS P w K mg base "_law_pick" 3 ["_law_state", "_law_some"] F__law_pick) {F__law_draw : SF} (o__law_draw : OkS P w K mg base "_law_draw" 2 ["_law_state", "_law_room"] F__law_draw) (b_tuple : mg "tuple" = none) (b_sorted : mg "sorted" = none) {F__law_shuffled : SF} (o__law_shuffled : OkS P w K mg base "_law_shuffled" 3 ["_law_state", "_law_some"] F__law_shuffled) :
    FnOk P w K mg base CX0 4 (He.ga K "_law_ct_taps") a.fd ["_law_state", "_law_least", "_law_most"] (spS K (wrapS 3 5 (den__law_ct_taps F__law_pick F__law_draw F__law_shuffled))) := by
  refine fn_s (N := ["_law_state", "_law_least", "_law_most", "_law_some", "_law_many"]) a.f sc__law_ct_taps fun so cdv A outer s H E hr => ?_
  have hN := sc__law_ct_taps.nd
  have hu := hr.units
  exact ⟨_, (cs_cons (cs_set hN (i := 3) (ce_scall (i := 0) o__law_pick.ok o__law_pick.mg o__law_pick.kp o__law_pick.b (hr.mono (by decide)) (ca_cons ((cn_lst (ca_cons ((cn_lst (ca_cons ce_str (ca_cons ce_str (ca_cons ce_str (ca_cons ce_str (ca_cons ce_str (ca_cons ce_str ca_nil)))))))).ce (ca_cons ((cn_lst (ca_cons ce_str (ca_cons ce_str (ca_cons ce_str (ca_cons ce_str (ca_cons ce_str (ca_cons ce_str ca_nil)))))))).ce ca_nil)))).ce ca_nil)))
    (cs_cons (cs_set hN (i := 4) (ce_op op_addA dr_add (ce_var (i := 1)) (ce_scall (i := 0) o__law_draw.ok o__law_draw.mg o__law_draw.kp o__law_draw.b (hr.mono (by decide)) (ca_cons (ce_op op_addA dr_add (ce_op op_sub dr_sub (ce_var (i := 2)) (ce_var (i := 1))) ce_int) ca_nil))))
    (cs_one (cs_ret (ce_callTy dr_tup call_tuple_of (by rfl) b_tuple rfl (ca_cons ((cn_callB dr_srt cr_sortA (by rfl) b_sorted rfl (ca_cons (ce_sl (ce_scall (i := 0) o__law_shuffled.ok o__law_shuffled.mg o__law_shuffled.kp o__law_shuffled.b (hr.mono (by decide)) (ca_cons (ce_var (i := 3)) ca_nil)) co_none (co_some (ce_var (i := 4)))) ca_nil))).ce ca_nil))))))⟩
def den__law_an_is_part (F__law_an_rising : PF) (F__law_an_is_wide : PF) (F__law_an_is_word : PF) : M Fl := (fSeq (fIf (dOr (dNot (dTest (dIsi "tuple" (dVar 0)))) (dOr (dTest (dOp eqR (dCall lenR (dCons (dVar 0) (ret []))) (ret (.int 0)))) (dTest (dOp ninR (dOp ixR (dVar 0) (ret (.int 0))) (dFrz (dLst (dCons (ret (.str "pipe")) (dCons (ret (.str "lead")) (dCons (ret (.str "hub")) (ret [])))))))))) (fRet (ret (.bl false))) (ret .nx)) (fSeq (fIf (dTest (dOp eqR (dOp ixR (dVar 0) (ret (.int 0))) (ret (.str "hub")))) (fRet (dAndV (dOp eqR (dCall lenR (dCons (dVar 0) (ret []))) (ret (.int 3))) (dAndV (dCall F__law_an_rising (dCons (dOp ixR (dVar 0) (ret (.int 1))) (dCons (ret (.int 2)) (ret [])))) (dCall F__law_an_is_wide (dCons (dOp ixR (dVar 0) (ret (.int 2))) (ret [])))))) (ret .nx)) (fSeq (fIf (dOr (dTest (dOp neR (dCall lenR (dCons (dVar 0) (ret []))) (ret (.int 4)))) (dOr (dNot (dTest (dCall F__law_an_is_word (dCons (dOp ixR (dVar 0) (ret (.int 1))) (ret []))))) (dNot (dTest (dCall F__law_an_is_word (dCons (dOp ixR (dVar 0) (ret (.int 2))) (ret []))))))) (fRet (ret (.bl false))) (ret .nx)) (fSeq (fIf (dOr (dTest (dOp eqR (dOp ixR (dVar 0) (ret (.int 1))) (dOp ixR (dVar 0) (ret (.int 2))))) (dAnd (dTest (dOp eqR (dOp ixR (dVar 0) (ret (.int 0))) (ret (.str "pipe")))) (dTest (dOp gtR (dOp ixR (dVar 0) (ret (.int 1))) (dOp ixR (dVar 0) (ret (.int 2))))))) (fRet (ret (.bl false))) (ret .nx)) (fRet (dCall F__law_an_is_wide (dCons (dOp ixR (dVar 0) (ret (.int 3))) (ret []))))))))
theorem sc__law_an_is_part : FnScope ["_law_thing"] ["_law_thing"] (defScope (top 63)) := ⟨rfl, rfl, rfl, by decide +kernel, rfl, by decide +kernel, by decide +kernel⟩
theorem fn__law_an_is_part (a : At K mg "_law_an_is_part" (defArgs (top 63)) (defBody (top 63)) (defScope (top 63))) (b_isinstance : mg "isinstance" = none) (b_tuple : mg "tuple" = none) (b_len : mg "len" = none) {F__law_an_rising : PF} (o__law_an_rising : OkP P w K mg base "_law_an_rising" 2 ["_law_thing", "_law_least"] F__law_an_rising) {F__law_an_is_wide : PF} (o__law_an_is_wide : OkP P w K mg base "_law_an_is_wide" 3 ["_law_thing"] F__law_an_is_wide) {F__law_an_is_word : PF} (o__law_an_is_word : OkP P w K mg base "_law_an_is_word" 1 ["_law_thing"] F__law_an_is_word) :
    FnOk P w K mg base CX0 4 (He.ga K "_law_an_is_part") a.fd ["_law_thing"] (spP K (wrapP 1 1 (den__law_an_is_part F__law_an_rising F__law_an_is_wide F__law_an_is_word))) := by
  refine fn_pure (N := ["_law_thing"]) a.f sc__law_an_is_part fun cdv A outer s H E hr => ?_
  have hN := sc__law_an_is_part.nd
  have hu := hr.units
  exact ⟨_, (cs_cons (cs_if ((cw_or (ct_not (ct_val (ce_isi (f := "tuple") tab_tuple (ce_var (i := 0)) (by rfl) b_isinstance (by rfl) b_tuple rfl))) (cw_or (ct_cmp (op_eqA hu) dr_eq (ce_callB dr_len call_len (by rfl) b_len rfl (ca_cons (ce_var (i := 0)) ca_nil)) ce_int (by rfl)) (cw_or1 (ct_cmp op_ninA dr_nin (ce_ix (ce_var (i := 0)) ce_int) ((cn_lst (ca_cons ce_str (ca_cons ce_str (ca_cons ce_str ca_nil))))).ce (by rfl)))))).ct (cs_one (cs_ret ce_bl)) cs_nil)
    (cs_cons (cs_if (ct_cmp (op_eqA hu) dr_eq (ce_ix (ce_var (i := 0)) ce_int) ce_str (by rfl)) (cs_one (cs_ret (ce_and (ce_cmp (op_eqA hu) dr_eq (ce_callB dr_len call_len (by rfl) b_len rfl (ca_cons (ce_var (i := 0)) ca_nil)) ce_int (by rfl)) (ce_and (ce_call o__law_an_rising.ok o__law_an_rising.mg o__law_an_rising.kp o__law_an_rising.b (hr.mono (by decide)) (ca_cons (ce_ix (ce_var (i := 0)) ce_int) (ca_cons ce_int ca_nil))) (ce_one (ce_call o__law_an_is_wide.ok o__law_an_is_wide.mg o__law_an_is_wide.kp o__law_an_is_wide.b (hr.mono (by decide)) (ca_cons (ce_ix (ce_var (i := 0)) ce_int) ca_nil))))))) cs_nil)
    (cs_cons (cs_if ((cw_or (ct_cmp (op_neA hu) dr_ne (ce_callB dr_len call_len (by rfl) b_len rfl (ca_cons (ce_var (i := 0)) ca_nil)) ce_int (by rfl)) (cw_or (ct_not (ct_val (ce_call o__law_an_is_word.ok o__law_an_is_word.mg o__law_an_is_word.kp o__law_an_is_word.b (hr.mono (by decide)) (ca_cons (ce_ix (ce_var (i := 0)) ce_int) ca_nil)))) (cw_or1 (ct_not (ct_val (ce_call o__law_an_is_word.ok o__law_an_is_word.mg o__law_an_is_word.kp o__law_an_is_word.b (hr.mono (by decide)) (ca_cons (ce_ix (ce_var (i := 0)) ce_int) ca_nil)))))))).ct (cs_one (cs_ret ce_bl)) cs_nil)
    (cs_cons (cs_if ((cw_or (ct_cmp (op_eqA hu) dr_eq (ce_ix (ce_var (i := 0)) ce_int) (ce_ix (ce_var (i := 0)) ce_int) (by rfl)) (cw_or1 ((cw_and (ct_cmp (op_eqA hu) dr_eq (ce_ix (ce_var (i := 0)) ce_int) ce_str (by rfl)) (cw_and1 (ct_cmp op_gtA dr_gt (ce_ix (ce_var (i := 0)) ce_int) (ce_ix (ce_var (i := 0)) ce_int) (by rfl))))).ct))).ct (cs_one (cs_ret ce_bl)) cs_nil)
    (cs_one (cs_ret (ce_call o__law_an_is_wide.ok o__law_an_is_wide.mg o__law_an_is_wide.kp o__law_an_is_wide.b (hr.mono (by decide)) (ca_cons (ce_ix (ce_var (i := 0)) ce_int) ca_nil))))))))⟩
def den__law_an_near_text (F__law_draw : SF) (F__law_pick : SF) : M Fl := (fSeq (fPar2 2 3 (vFz (dSCall F__law_draw (dStArg 0 (dCons (ret (.int 6)) (ret []))))) (vFz (dSCall F__law_draw (dStArg 0 (dCons (dCall lenR (dCons (dVar 1) (ret []))) (ret [])))))) (fSeq (fIf (dTest (dOp ltR (dVar 2) (ret (.int 2)))) (fSeq (fSet 4 (dSCall F__law_pick (dStArg 0 (dCons (dFrz (dLst (dCons (ret (.str " ")) (dCons (ret (.str "\n")) (dCons (ret (.str "a")) (dCons (ret (.str "1")) (dCons (ret (.str "0")) (dCons (ret (.str "/")) (dCons (ret (.str "-")) (dCons (ret (.str "Z")) (dCons (ret (.str "9")) (dCons (ret (.str "b")) (dCons (ret (.str "_")) (ret [])))))))))))))) (ret []))))) (fRet (dOp addR (dOp addR (dSl (dVar 1) (ret none) (dPart (dVar 3))) (dVar 4)) (dSl (dVar 1) (dPart (dOp subR (dOp addR (dVar 3) (ret (.int 1))) (dVar 2))) (ret none))))) (ret .nx)) (fSeq (fIf (dTest (dOp eqR (dVar 2) (ret (.int 2)))) (fRet (dOp addR (dSl (dVar 1) (ret none) (dPart (dVar 3))) (dSl (dVar 1) (dPart (dOp addR (dVar 3) (ret (.int 1)))) (ret none)))) (ret .nx)) (fSeq (fSetV 5 (vOw (dSplit (dVar 1) (ret (.str "\n"))))) (fSeq (fPar2 3 6 (vFz (dSCall F__law_draw (dStArg 0 (dCons (dOwnC 5 lenR) (ret []))))) (vFz (dSCall F__law_draw (dStArg 0 (dCons (dOwnC 5 lenR) (ret [])))))) (fSeq (fIf (dTest (dOp eqR (dVar 2) (ret (.int 3)))) (fStore2 5 (dVar 3) (dVar 6) (dCons (dOwnIx 5 (dVar 6)) (dCons (dOwnIx 5 (dVar 3)) (ret [])))) (ret .nx)) (fSeq (fIf (dTest (dOp eqR (dVar 2) (ret (.int 4)))) (fSeq (fSet 7 (dFrz (dLst (dCons (ret (.str "")) (dCons (ret (.str "pipe a b")) (dCons (ret (.str "lead b a 1")) (dCons (ret (.str "hub a b 1")) (dCons (ret (.str "hub a 1")) (dCons (ret (.str "pipe a b 2/4")) (dCons (ret (.str "pipe a b 01")) (dCons (dOp addR (ret (.str "pipe a b 1")) (dOp mulA (ret (.str "0")) (ret (.int 30)))) (ret [])))))))))))) (fSeq (fSet 7 (dOp addR (dVar 7) (dFrz (dLst (dCons (dOp addR (ret (.str "pipe a b 1")) (dOp mulA (ret (.str "0")) (ret (.int 29)))) (dCons (ret (.str "lead a a 1")) (dCons (ret (.str "pipe a b 3/1")) (dCons (ret (.str "taps a b")) (dCons (ret (.str "pipe a b  1")) (dCons (ret (.str "hub a b c 0")) (dCons (ret (.str "pipe b a 1")) (ret [])))))))))))) (fSeq (fSet 7 (dOp addR (dVar 7) (dFrz (dLst (dCons (dOp addR (ret (.str "pipe a b 1/")) (dOp mulA (ret (.str "1")) (ret (.int 31)))) (dCons (dOp addR (ret (.str "pipe a b 1/")) (dOp mulA (ret (.str "1")) (ret (.int 30)))) (dCons (dOp addR (dOp addR (ret (.str "pipe a b ")) (dOp mulA (ret (.str "1")) (ret (.int 31)))) (ret (.str "/2"))) (dCons (dOp addR (dOp addR (ret (.str "pipe a b ")) (dOp mulA (ret (.str "1")) (ret (.int 30)))) (ret (.str "/2"))) (ret []))))))))) (fSetV 5 (vOw (dAddL (dOp addR (dSl (dVar 5) (ret none) (dPart (dVar 3))) (dFrz (dLst (dCons (dSCall F__law_pick (dStArg 0 (dCons (dVar 7) (ret [])))) (ret []))))) (dSl (dVar 5) (dPart (dVar 3)) (ret none)))))))) (ret .nx)) (fSeq (fIf (dTest (dOp eqR (dVar 2) (ret (.int 5)))) (fSetV 5 (vOw (dAddL (dSl (dVar 5) (ret none) (dPart (dVar 3))) (dSl (dVar 5) (dPart (dOp addR (dVar 3) (ret (.int 1)))) (ret none))))) (ret .nx)) (fRet (dJoin (ret (.str "\n")) (dVar 5)))))))))))
theorem sc__law_an_near_text : FnScope ["_law_state", "_law_told", "_law_way", "_law_spot", "_law_sign", "_law_lines_here", "_law_twin", "_law_some"] ["_law_state", "_law_told"] (defScope (top 71)) := ⟨rfl, rfl, rfl, by decide +kernel, rfl, by decide +kernel, by decide +kernel⟩
theorem fn__law_an_near_text (a : At K mg "_law_an_near_text" (defArgs (top 71)) (defBody (top 71)) (defScope (top 71))) {F__law_draw : SF} (o__law_draw : OkS P w K mg base "_law_draw" 2 ["_law_state", "_law_room"] F__law_draw) (b_len : mg "len" = none) {F__law_pick : SF} (o__law_pick : OkS P w K mg base "_law_pick" 3 ["_law_state", "_law_some"] F__law_pick) :
    FnOk P w K mg base CX0 4 (He.ga K "_law_an_near_text") a.fd ["_law_state", "_law_told"] (spS K (wrapS 2 8 (den__law_an_near_text F__law_draw F__law_pick))) := by
  refine fn_s (N := ["_law_state", "_law_told", "_law_way", "_law_spot", "_law_sign", "_law_lines_here", "_law_twin", "_law_some"]) a.f sc__law_an_near_text fun so cdv A outer s H E hr => ?_
  have hN := sc__law_an_near_text.nd
  have hu := hr.units
  exact ⟨_, (cs_cons (cs_par2 (by rfl) hN (i := 2) (j := 3) ((ce_scall (i := 0) o__law_draw.ok o__law_draw.mg o__law_draw.kp o__law_draw.b (hr.mono (by decide)) (ca_cons ce_int ca_nil))).cv ((ce_scall (i := 0) o__law_draw.ok o__law_draw.mg o__law_draw.kp o__law_draw.b (hr.mono (by decide)) (ca_cons (ce_callB dr_len call_len (by rfl) b_len rfl (ca_cons (ce_var (i := 1)) ca_nil)) ca_nil))).cv)
    (cs_cons (cs_if (ct_cmp op_ltA dr_lt (ce_var (i := 2)) ce_int (by rfl)) (cs_cons (cs_set hN (i := 4) (ce_scall (i := 0) o__law_pick.ok o__law_pick.mg o__law_pick.kp o__law_pick.b (hr.mono (by decide)) (ca_cons ((cn_lst (ca_cons ce_str (ca_cons ce_str (ca_cons ce_str (ca_cons ce_str (ca_cons ce_str (ca_cons ce_str (ca_cons ce_str (ca_cons ce_str (ca_cons ce_str (ca_cons ce_str (ca_cons ce_str ca_nil))))))))))))).ce ca_nil)))
    (cs_one (cs_ret (ce_op op_addA dr_add (ce_op op_addA dr_add (ce_sl (ce_var (i := 1)) co_none (co_some (ce_var (i := 3)))) (ce_var (i := 4))) (ce_sl (ce_var (i := 1)) (co_some (ce_op op_sub dr_sub (ce_op op_addA dr_add (ce_var (i := 3)) ce_int) (ce_var (i := 2)))) co_none))))) cs_nil)
    (cs_cons (cs_if (ct_cmp (op_eqA hu) dr_eq (ce_var (i := 2)) ce_int (by rfl)) (cs_one (cs_ret (ce_op op_addA dr_add (ce_sl (ce_var (i := 1)) co_none (co_some (ce_var (i := 3)))) (ce_sl (ce_var (i := 1)) (co_some (ce_op op_addA dr_add (ce_var (i := 3)) ce_int)) co_none)))) cs_nil)
    (cs_cons (cs_setV hN (i := 5) ((cn_split (ce_var (i := 1)) ce_str)).cv)
    (cs_cons (cs_par2 (by rfl) hN (i := 3) (j := 6) ((ce_scall (i := 0) o__law_draw.ok o__law_draw.mg o__law_draw.kp o__law_draw.b (hr.mono (by decide)) (ca_cons (ce_ownC (i := 5) dr_len call_len (by rfl) b_len rfl) ca_nil))).cv ((ce_scall (i := 0) o__law_draw.ok o__law_draw.mg o__law_draw.kp o__law_draw.b (hr.mono (by decide)) (ca_cons (ce_ownC (i := 5) dr_len call_len (by rfl) b_len rfl) ca_nil))).cv)
    (cs_cons (cs_if (ct_cmp (op_eqA hu) dr_eq (ce_var (i := 2)) ce_int (by rfl)) (cs_one (cs_store2 (i := 5) (by rfl) (pe_var (i := 5) (by rfl) (by first | exact Or.inl rfl | exact Or.inr (Or.inl rfl) | exact Or.inr (Or.inr rfl))) (pe_var (i := 5) (by rfl) (by first | exact Or.inl rfl | exact Or.inr (Or.inl rfl) | exact Or.inr (Or.inr rfl))) (ca_cons (ce_ownIx (i := 5) (ce_var (i := 6))) (ca_cons (ce_ownIx (i := 5) (ce_var (i := 3))) ca_nil)) (ce_var (i := 3)) (ce_var (i := 6)) (hpg := fun h1 h2 => pgs_cons (pg_sub (pe_var (i := 5) (by rfl) (by first | exact Or.inl rfl | exact Or.inr (Or.inl rfl) | exact Or.inr (Or.inr rfl))) h1 set_list) (pgs_cons (pg_sub (pe_var (i := 5) (by rfl) (by first | exact Or.inl rfl | exact Or.inr (Or.inl rfl) | exact Or.inr (Or.inr rfl))) h2 set_list) pgs_nil)))) cs_nil)
    (cs_cons (cs_if (ct_cmp (op_eqA hu) dr_eq (ce_var (i := 2)) ce_int (by rfl)) (cs_cons (cs_set hN (i := 7) ((cn_lst (ca_cons ce_str (ca_cons ce_str (ca_cons ce_str (ca_cons ce_str (ca_cons ce_str (ca_cons ce_str (ca_cons ce_str (ca_cons (ce_op op_addA dr_add ce_str (ce_op op_mulA dr_mulA ce_str ce_int)) ca_nil)))))))))).ce)
    (cs_cons (cs_set hN (i := 7) (ce_op op_addA dr_add (ce_var (i := 7)) ((cn_lst (ca_cons (ce_op op_addA dr_add ce_str (ce_op op_mulA dr_mulA ce_str ce_int)) (ca_cons ce_str (ca_cons ce_str (ca_cons ce_str (ca_cons ce_str (ca_cons ce_str (ca_cons ce_str ca_nil))))))))).ce))
    (cs_cons (cs_set hN (i := 7) (ce_op op_addA dr_add (ce_var (i := 7)) ((cn_lst (ca_cons (ce_op op_addA dr_add ce_str (ce_op op_mulA dr_mulA ce_str ce_int)) (ca_cons (ce_op op_addA dr_add ce_str (ce_op op_mulA dr_mulA ce_str ce_int)) (ca_cons (ce_op op_addA dr_add (ce_op op_addA dr_add ce_str (ce_op op_mulA dr_mulA ce_str ce_int)) ce_str) (ca_cons (ce_op op_addA dr_add (ce_op op_addA dr_add ce_str (ce_op op_mulA dr_mulA ce_str ce_int)) ce_str) ca_nil)))))).ce))
    (cs_one (cs_setV hN (i := 5) ((cn_add (ce_op op_addA dr_add (ce_sl (ce_var (i := 5)) co_none (co_some (ce_var (i := 3)))) ((cn_lst (ca_cons (ce_scall (i := 0) o__law_pick.ok o__law_pick.mg o__law_pick.kp o__law_pick.b (hr.mono (by decide)) (ca_cons (ce_var (i := 7)) ca_nil)) ca_nil))).ce) (ce_sl (ce_var (i := 5)) (co_some (ce_var (i := 3))) co_none))).cv))))) cs_nil)
    (cs_cons (cs_if (ct_cmp (op_eqA hu) dr_eq (ce_var (i := 2)) ce_int (by rfl)) (cs_one (cs_setV hN (i := 5) ((cn_add (ce_sl (ce_var (i := 5)) co_none (co_some (ce_var (i := 3)))) (ce_sl (ce_var (i := 5)) (co_some (ce_op op_addA dr_add (ce_var (i := 3)) ce_int)) co_none))).cv)) cs_nil)
    (cs_one (cs_ret (ce_join ce_str (ce_var (i := 5)))))))))))))⟩
def den_is_net (F_is_taps : PF) (F_is_part : PF) (F_has_kind : PF) (F_named_places : PF) : M Fl := (fSeq (fIf (dOr (dNot (dTest (dIsi "tuple" (dVar 0)))) (dTest (dOp neR (dCall lenR (dCons (dVar 0) (ret []))) (ret (.int 2))))) (fRet (ret (.bl false))) (ret .nx)) (fSeq (fIf (dOr (dNot (dTest (dCall F_is_taps (dCons (dOp ixR (dVar 0) (ret (.int 0))) (ret []))))) (dNot (dTest (dIsi "tuple" (dOp ixR (dVar 0) (ret (.int 1))))))) (fRet (ret (.bl false))) (ret .nx)) (fSeq (fSet 1 (dOp ixR (dVar 0) (ret (.int 1)))) (fSeq (fIf (dOr (dTest (dOp gtR (dCall lenR (dCons (dVar 1) (ret []))) (ret (.int 200)))) (dNot (dTest (dCall allR (dCons (dFrz (dComp (dItT (dVar 1)) (tgName 2) (ret true) (dCall F_is_part (dCons (dVar 2) (ret []))) [2])) (ret [])))))) (fRet (ret (.bl false))) (ret .nx)) (fSeq (fIf (dAnd (dTest (dCall F_has_kind (dCons (dVar 1) (dCons (ret (.str "lead")) (ret []))))) (dTest (dCall F_has_kind (dCons (dVar 1) (dCons (ret (.str "hub")) (ret [])))))) (fRet (ret (.bl false))) (ret .nx)) (fRet (dOp leR (dCall lenR (dCons (dCall F_named_places (dCons (dOp ixR (dVar 0) (ret (.int 0))) (dCons (dVar 1) (ret [])))) (ret []))) (ret (.int 40)))))))))
theorem sc_is_net : FnScope ["value", "parts", "part"] ["value"] (defScope (top 27)) := ⟨rfl, rfl, rfl, by decide +kernel, rfl, by decide +kernel, by decide +kernel⟩
theorem fn_is_net (a : At K mg "is_net" (defArgs (top 27)) (defBody (top 27)) (defScope (top 27))) (b_isinstance : mg "isinstance" = none) (b_tuple : mg "tuple" = none) (b_len : mg "len" = none) {F_is_taps : PF} (o_is_taps : OkP P w K mg base "is_taps" 3 ["value"] F_is_taps) (c0_MOST_PARTS : ∃ t, mg "MOST_PARTS" = some (.int 200 t)) (b_all : mg "all" = none) {F_is_part : PF} (o_is_part : OkP P w K mg base "is_part" 4 ["value"] F_is_part) {F_has_kind : PF} (o_has_kind : OkP P w K mg base "has_kind" 1 ["parts", "kind"] F_has_kind) {F_named_places : PF} (o_named_places : OkP P w K mg base "named_places" 2 ["taps", "parts"] F_named_places) (c0_MOST_PLACES : ∃ t, mg "MOST_PLACES" = some (.int 40 t)) :
    FnOk P w K mg base CX0 5 (He.ga K "is_net") a.fd ["value"] (spP K (wrapP 1 3 (den_is_net F_is_taps F_is_part F_has_kind F_named_places))) := by
  obtain ⟨_, c_MOST_PARTS⟩ := c0_MOST_PARTS
  obtain ⟨_, c_MOST_PLACES⟩ := c0_MOST_PLACES
  refine fn_pure (N := ["value", "parts", "part"]) a.f sc_is_net fun cdv A outer s H E hr => ?_
  have hN := sc_is_net.nd
  have hu := hr.units
  exact ⟨_, (cs_cons (cs_if ((cw_or (ct_not (ct_val (ce_isi (f := "tuple") tab_tuple (ce_var (i := 0)) (by rfl) b_isinstance (by rfl) b_tuple rfl))) (cw_or1 (ct_cmp (op_neA hu) dr_ne (ce_callB dr_len call_len (by rfl) b_len rfl (ca_cons (ce_var (i := 0)) ca_nil)) ce_int (by rfl))))).ct (cs_one (cs_ret ce_bl)) cs_nil)
    (cs_cons (cs_if ((cw_or (ct_not (ct_val (ce_call o_is_taps.ok o_is_taps.mg o_is_taps.kp o_is_taps.b (hr.mono (by decide)) (ca_cons (ce_ix (ce_var (i := 0)) ce_int) ca_nil)))) (cw_or1 (ct_not (ct_val (ce_isi (f := "tuple") tab_tuple (ce_ix (ce_var (i := 0)) ce_int) (by rfl) b_isinstance (by rfl) b_tuple rfl)))))).ct (cs_one (cs_ret ce_bl)) cs_nil)
    (cs_cons (cs_set hN (i := 1) (ce_ix (ce_var (i := 0)) ce_int))
    (cs_cons (cs_if ((cw_or (ct_cmp op_gtA dr_gt (ce_callB dr_len call_len (by rfl) b_len rfl (ca_cons (ce_var (i := 1)) ca_nil)) (ce_glob (v := .int 200) (by rfl) c_MOST_PARTS ⟨_, rfl⟩ (fun _ => .int _)) (by rfl)) (cw_or1 (ct_not (ct_val (ce_callB dr_all (cr_all (by rfl)) (by rfl) b_all rfl (ca_cons ((cn_lc (own := [("part", 2)]) (g := (gName 2)) (tt := tYes) (te := (tCall (spP K F_is_part) [] E0 (tCons (tVar 2) tNil))) (by rfl) hN (ci_tup (ce_var (i := 1))) (blkOk_by (by show blkC ["value", "parts", "part"] (defScope (top 27)) _ _ = true; decide +kernel)) (fun s H C cl fp => (cg_name hN (i := 2))) (fun s H C cl fp => cts_nil) (fun s H C cl fp => (ce_call o_is_part.ok o_is_part.mg o_is_part.kp o_is_part.b (hr.mono (by decide)) (ca_cons (ce_var (i := 2)) ca_nil))))).ce ca_nil))))))).ct (cs_one (cs_ret ce_bl)) cs_nil)
    (cs_cons (cs_if ((cw_and (ct_val (ce_call o_has_kind.ok o_has_kind.mg o_has_kind.kp o_has_kind.b (hr.mono (by decide)) (ca_cons (ce_var (i := 1)) (ca_cons ce_str ca_nil)))) (cw_and1 (ct_val (ce_call o_has_kind.ok o_has_kind.mg o_has_kind.kp o_has_kind.b (hr.mono (by decide)) (ca_cons (ce_var (i := 1)) (ca_cons ce_str ca_nil))))))).ct (cs_one (cs_ret ce_bl)) cs_nil)
    (cs_one (cs_ret (ce_cmp op_leA dr_le (ce_callB dr_len call_len (by rfl) b_len rfl (ca_cons (ce_call o_named_places.ok o_named_places.mg o_named_places.kp o_named_places.b (hr.mono (by decide)) (ca_cons (ce_ix (ce_var (i := 0)) ce_int) (ca_cons (ce_var (i := 1)) ca_nil))) ca_nil)) (ce_glob (v := .int 40) (by rfl) c_MOST_PLACES ⟨_, rfl⟩ (fun _ => .int _)) (by rfl)))))))))⟩
def den_part_of_line (F_number_of : PF) (F_is_part : PF) : M Fl := (fSeq (fSet 1 (dFrz (dSplit (dVar 0) (ret (.str " "))))) (fSeq (fSet 2 (dCall F_number_of (dCons (dOp ixR (dVar 1) (dNeg (ret (.int 1)))) (ret [])))) (fSeq (fIf (dOr (dTest (dOp ltR (dCall lenR (dCons (dVar 1) (ret []))) (ret (.int 4)))) (dTest (dOp isNR (dVar 2) (ret .non)))) (fRet (ret .non)) (ret .nx)) (fSeq (fSet 3 (dTup (dCons (dOp ixR (dVar 1) (ret (.int 0))) (dCons (dCall tupR (dCons (dSl (dVar 1) (dPart (ret (.int 1))) (dPart (dNeg (ret (.int 1))))) (ret []))) (dCons (dVar 2) (ret [])))))) (fSeq (fIf (dTest (dOp neR (dOp ixR (dVar 1) (ret (.int 0))) (ret (.str "hub")))) (fSet 3 (dOp addR (dOp addR (dTup (dCons (dOp ixR (dVar 1) (ret (.int 0))) (ret []))) (dCall tupR (dCons (dSl (dVar 1) (dPart (ret (.int 1))) (dPart (dNeg (ret (.int 1))))) (ret [])))) (dTup (dCons (dVar 2) (ret []))))) (ret .nx)) (fRet (dIf (dTest (dCall F_is_part (dCons (dVar 3) (ret [])))) (dVar 3) (ret .non))))))))
theorem sc_part_of_line : FnScope ["row", "words", "width", "found"] ["row"] (defScope (top 36)) := ⟨rfl, rfl, rfl, by decide +kernel, rfl, by decide +kernel, by decide +kernel⟩
theorem fn_part_of_line (a : At K mg "part_of_line" (defArgs (top 36)) (defBody (top 36)) (defScope (top 36))) {F_number_of : PF} (o_number_of : OkP P w K mg base "number_of" 3 ["word"] F_number_of) (b_len : mg "len" = none) (b_tuple : mg "tuple" = none) {F_is_part : PF} (o_is_part : OkP P w K mg base "is_part" 4 ["value"] F_is_part) :
    FnOk P w K mg base CX0 5 (He.ga K "part_of_line") a.fd ["row"] (spP K (wrapP 1 4 (den_part_of_line F_number_of F_is_part))) := by
  refine fn_pure (N := ["row", "words", "width", "found"]) a.f sc_part_of_line fun cdv A outer s H E hr => ?_
  have hN := sc_part_of_line.nd
  have hu := hr.units
  exact ⟨_, (cs_cons (cs_set hN (i := 1) ((cn_split (ce_var (i := 0)) ce_str)).ce)
    (cs_cons (cs_set hN (i := 2) (ce_call o_number_of.ok o_number_of.mg o_number_of.kp o_number_of.b (hr.mono (by decide)) (ca_cons (ce_ix (ce_var (i := 1)) (ce_neg ce_int)) ca_nil)))
    (cs_cons (cs_if ((cw_or (ct_cmp op_ltA dr_lt (ce_callB dr_len call_len (by rfl) b_len rfl (ca_cons (ce_var (i := 1)) ca_nil)) ce_int (by rfl)) (cw_or1 (ct_cmp op_isN1 dr_isN (ce_var (i := 2)) ce_non (by rfl))))).ct (cs_one (cs_ret ce_non)) cs_nil)
    (cs_cons (cs_set hN (i := 3) (ce_tup (ca_cons (ce_ix (ce_var (i := 1)) ce_int) (ca_cons (ce_callTy dr_tup call_tuple_of (by rfl) b_tuple rfl (ca_cons (ce_sl (ce_var (i := 1)) (co_some ce_int) (co_some (ce_neg ce_int))) ca_nil)) (ca_cons (ce_var (i := 2)) ca_nil)))))
    (cs_cons (cs_if (ct_cmp (op_neA hu) dr_ne (ce_ix (ce_var (i := 1)) ce_int) ce_str (by rfl)) (cs_one (cs_set hN (i := 3) (ce_op op_addA dr_add (ce_op op_addA dr_add (ce_tup (ca_cons (ce_ix (ce_var (i := 1)) ce_int) ca_nil)) (ce_callTy dr_tup call_tuple_of (by rfl) b_tuple rfl (ca_cons (ce_sl (ce_var (i := 1)) (co_some ce_int) (co_some (ce_neg ce_int))) ca_nil))) (ce_tup (ca_cons (ce_var (i := 2)) ca_nil))))) cs_nil)
    (cs_one (cs_ret (ce_if (ct_val (ce_call o_is_part.ok o_is_part.mg o_is_part.kp o_is_part.b (hr.mono (by decide)) (ca_cons (ce_var (i := 3)) ca_nil))) (ce_var (i := 3)) ce_non))))))))⟩
def den__law_ct_part (F__law_shuffled : SF) (F__law_ct_number : SF) (F__law_draw : SF) : M Fl := (fSeq (fSet 3 (dSCall F__law_shuffled (dStArg 0 (dCons (dVar 1) (ret []))))) (fSeq (fSet 4 (dSCall F__law_ct_number (dStArg 0 (ret [])))) (fSeq (fIf (dAnd (dTest (dOp eqR (dVar 2) (ret (.str "leads")))) (dTest (dOp gtR (dSCall F__law_draw (dStArg 0 (dCons (ret (.int 3)) (ret [])))) (ret (.int 0))))) (fRet (dTup (dCons (ret (.str "lead")) (dCons (dOp ixR (dVar 3) (ret (.int 0))) (dCons (dOp ixR (dVar 3) (ret (.int 1))) (dCons (dVar 4) (ret []))))))) (ret .nx)) (fSeq (fIf (dAnd (dTest (dOp eqR (dVar 2) (ret (.str "hubs")))) (dAnd (dTest (dOp gtR (dCall lenR (dCons (dVar 3) (ret []))) (ret (.int 2)))) (dTest (dOp gtR (dSCall F__law_draw (dStArg 0 (dCons (ret (.int 3)) (ret [])))) (ret (.int 0)))))) (fRet (dTup (dCons (ret (.str "hub")) (dCons (dCall tupR (dCons (dFrz (dCallL srtR (dCons (dSl (dVar 3) (ret none) (dPart (dOp addR (ret (.int 2)) (dSCall F__law_draw (dStArg 0 (dCons (dCall minR (dCons (ret (.int 3)) (dCons (dOp subR (dCall lenR (dCons (dVar 3) (ret []))) (ret (.int 1))) (ret [])))) (ret []))))))) (ret [])))) (ret []))) (dCons (dVar 4) (ret [])))))) (ret .nx)) (fRet (dTup (dCons (ret (.str "pipe")) (dCons (dCall minR (dCons (dSl (dVar 3) (ret none) (dPart (ret (.int 2)))) (ret []))) (dCons (dCall maxR (dCons (dSl (dVar 3) (ret none) (dPart (ret (.int 2)))) (ret []))) (dCons (dVar 4) (ret [])))))))))))
theorem sc__law_ct_part : FnScope ["_law_state", "_law_places_here", "_law_sort_here", "_law_some", "_law_width"] ["_law_state", "_law_places_here", "_law_sort_here"] (defScope (top 53)) := ⟨rfl, rfl, rfl, by decide +kernel, rfl, by decide +kernel, by decide +kernel⟩
theorem fn__law_ct_part (a : At K mg "_law_ct_part" (defArgs (top 53)) (defBody (top 53)) (defScope (top 53))) {F__law_shuffled : SF} (o__law_shuffled : OkS P w K mg base "_law_shuffled" 3 ["_law_state", "_law_some"] F__law_shuffled) {F__law_ct_number : SF} (o__law_ct_number : OkS P w K mg base "_law_ct_number" 4 ["_law_state"] F__law_ct_number) {F__law_draw : SF} (o__law_draw : OkS P w K mg base "_law_draw" 2 ["_law_state", "_law_room"] F__law_draw) (b_len : mg "len" = none) (b_tuple : mg "tuple" = none) (b_sorted : mg "sorted" = none) (b_min : mg "min" = none) (b_max : mg "max" = none) :
    FnOk P w K mg base CX0 5 (He.ga K "_law_ct_part") a.fd ["_law_state", "_law_places_here", "_law_sort_here"] (spS K (wrapS 3 5 (den__law_ct_part F__law_shuffled F__law_ct_number F__law_draw))) := by
  refine fn_s (N := ["_law_state", "_law_places_here", "_law_sort_here", "_law_some", "_law_width"]) a.f sc__law_ct_part fun so cdv A outer s H E hr => ?_
  have hN := sc__law_ct_part.nd
  have hu := hr.units
  exact ⟨_, (cs_cons (cs_set hN (i := 3) (ce_scall (i := 0) o__law_shuffled.ok o__law_shuffled.mg o__law_shuffled.kp o__law_shuffled.b (hr.mono (by decide)) (ca_cons (ce_var (i := 1)) ca_nil)))
    (cs_cons (cs_set hN (i := 4) (ce_scall (i := 0) o__law_ct_number.ok o__law_ct_number.mg o__law_ct_number.kp o__law_ct_number.b (hr.mono (by decide)) ca_nil))
    (cs_cons (cs_if ((cw_and (ct_cmp (op_eqA hu) dr_eq (ce_var (i := 2)) ce_str (by rfl)) (cw_and1 (ct_cmp op_gtA dr_gt (ce_scall (i := 0) o__law_draw.ok o__law_draw.mg o__law_draw.kp o__law_draw.b (hr.mono (by decide)) (ca_cons ce_int ca_nil)) ce_int (by rfl))))).ct (cs_one (cs_ret (ce_tup (ca_cons ce_str (ca_cons (ce_ix (ce_var (i := 3)) ce_int) (ca_cons (ce_ix (ce_var (i := 3)) ce_int) (ca_cons (ce_var (i := 4)) ca_nil))))))) cs_nil)
    (cs_cons (cs_if ((cw_and (ct_cmp (op_eqA hu) dr_eq (ce_var (i := 2)) ce_str (by rfl)) (cw_and (ct_cmp op_gtA dr_gt (ce_callB dr_len call_len (by rfl) b_len rfl (ca_cons (ce_var (i := 3)) ca_nil)) ce_int (by rfl)) (cw_and1 (ct_cmp op_gtA dr_gt (ce_scall (i := 0) o__law_draw.ok o__law_draw.mg o__law_draw.kp o__law_draw.b (hr.mono (by decide)) (ca_cons ce_int ca_nil)) ce_int (by rfl)))))).ct (cs_one (cs_ret (ce_tup (ca_cons ce_str (ca_cons (ce_callTy dr_tup call_tuple_of (by rfl) b_tuple rfl (ca_cons ((cn_callB dr_srt cr_sortA (by rfl) b_sorted rfl (ca_cons (ce_sl (ce_var (i := 3)) co_none (co_some (ce_op op_addA dr_add ce_int (ce_scall (i := 0) o__law_draw.ok o__law_draw.mg o__law_draw.kp o__law_draw.b (hr.mono (by decide)) (ca_cons (ce_callB dr_min (cr_minA (by rfl) hu) (by rfl) b_min rfl (ca_cons ce_int (ca_cons (ce_op op_sub dr_sub (ce_callB dr_len call_len (by rfl) b_len rfl (ca_cons (ce_var (i := 3)) ca_nil)) ce_int) ca_nil))) ca_nil))))) ca_nil))).ce ca_nil)) (ca_cons (ce_var (i := 4)) ca_nil)))))) cs_nil)
    (cs_one (cs_ret (ce_tup (ca_cons ce_str (ca_cons (ce_callB dr_min (cr_minA (by rfl) hu) (by rfl) b_min rfl (ca_cons (ce_sl (ce_var (i := 3)) co_none (co_some ce_int)) ca_nil)) (ca_cons (ce_callB dr_max (cr_maxA (by rfl) hu) (by rfl) b_max rfl (ca_cons (ce_sl (ce_var (i := 3)) co_none (co_some ce_int)) ca_nil)) (ca_cons (ce_var (i := 4)) ca_nil)))))))))))⟩
def den__law_an_width (F__law_ct_number : SF) (F__law_draw : SF) (F__law_ct_made : PF) : M Fl := (fSeq (fIf (dNot (dTest (dVar 1))) (fRet (dSCall F__law_ct_number (dStArg 0 (ret [])))) (ret .nx)) (fSeq (fIf (dTest (dOp eqR (dSCall F__law_draw (dStArg 0 (dCons (ret (.int 2)) (ret [])))) (ret (.int 0)))) (fRet (dSCall F__law_draw (dStArg 0 (dCons (dOp powR (ret (.int 10)) (ret (.int 30))) (ret []))))) (ret .nx)) (fRet (dCall F__law_ct_made (dCons (dSCall F__law_draw (dStArg 0 (dCons (dOp powR (ret (.int 10)) (ret (.int 30))) (ret [])))) (dCons (dOp addR (ret (.int 1)) (dSCall F__law_draw (dStArg 0 (dCons (dOp subR (dOp powR (ret (.int 10)) (ret (.int 30))) (ret (.int 1))) (ret []))))) (ret [])))))))
theorem sc__law_an_width : FnScope ["_law_state", "_law_great"] ["_law_state", "_law_great"] (defScope (top 57)) := ⟨rfl, rfl, rfl, by decide +kernel, rfl, by decide +kernel, by decide +kernel⟩
theorem fn__law_an_width (a : At K mg "_law_an_width" (defArgs (top 57)) (defBody (top 57)) (defScope (top 57))) {F__law_ct_number : SF} (o__law_ct_number : OkS P w K mg base "_law_ct_number" 4 ["_law_state"] F__law_ct_number) {F__law_draw : SF} (o__law_draw : OkS P w K mg base "_law_draw" 2 ["_law_state", "_law_room"] F__law_draw) {F__law_ct_made : PF} (o__law_ct_made : OkP P w K mg base "_law_ct_made" 2 ["_law_top", "_law_bottom"] F__law_ct_made) :
    FnOk P w K mg base CX0 5 (He.ga K "_law_an_width") a.fd ["_law_state", "_law_great"] (spS K (wrapS 2 2 (den__law_an_width F__law_ct_number F__law_draw F__law_ct_made))) := by
  refine fn_s (N := ["_law_state", "_law_great"]) a.f sc__law_an_width fun so cdv A outer s H E hr => ?_
  have hN := sc__law_an_width.nd
  have hu := hr.units
  exact ⟨_, (cs_cons (cs_if (ct_not (ct_val (ce_var (i := 1)))) (cs_one (cs_ret (ce_scall (i := 0) o__law_ct_number.ok o__law_ct_number.mg o__law_ct_number.kp o__law_ct_number.b (hr.mono (by decide)) ca_nil))) cs_nil)
    (cs_cons (cs_if (ct_cmp (op_eqA hu) dr_eq (ce_scall (i := 0) o__law_draw.ok o__law_draw.mg o__law_draw.kp o__law_draw.b (hr.mono (by decide)) (ca_cons ce_int ca_nil)) ce_int (by rfl)) (cs_one (cs_ret (ce_scall (i := 0) o__law_draw.ok o__law_draw.mg o__law_draw.kp o__law_draw.b (hr.mono (by decide)) (ca_cons (ce_op op_pow dr_pow ce_int ce_int) ca_nil)))) cs_nil)
    (cs_one (cs_ret (ce_call o__law_ct_made.ok o__law_ct_made.mg o__law_ct_made.kp o__law_ct_made.b (hr.mono (by decide)) (ca_cons (ce_scall (i := 0) o__law_draw.ok o__law_draw.mg o__law_draw.kp o__law_draw.b (hr.mono (by decide)) (ca_cons (ce_op op_pow dr_pow ce_int ce_int) ca_nil)) (ca_cons (ce_op op_addA dr_add ce_int (ce_scall (i := 0) o__law_draw.ok o__law_draw.mg o__law_draw.kp o__law_draw.b (hr.mono (by decide)) (ca_cons (ce_op op_sub dr_sub (ce_op op_pow dr_pow ce_int ce_int) ce_int) ca_nil))) ca_nil)))))))⟩
def den__law_an_is_net (F__law_an_rising : PF) (F__law_an_is_part : PF) (F__law_an_every : PF) : M Fl := (fSeq (fIf (dOr (dNot (dTest (dIsi "tuple" (dVar 0)))) (dTest (dOp neR (dCall lenR (dCons (dVar 0) (ret []))) (ret (.int 2))))) (fRet (ret (.bl false))) (ret .nx)) (fSeq (fIf (dOr (dNot (dTest (dCall F__law_an_rising (dCons (dOp ixR (dVar 0) (ret (.int 0))) (dCons (ret (.int 2)) (ret [])))))) (dOr (dTest (dOp gtR (dCall lenR (dCons (dOp ixR (dVar 0) (ret (.int 0))) (ret []))) (ret (.int 6)))) (dNot (dTest (dIsi "tuple" (dOp ixR (dVar 0) (ret (.int 1)))))))) (fRet (ret (.bl false))) (ret .nx)) (fSeq (fIf (dOr (dTest (dOp gtR (dCall lenR (dCons (dOp ixR (dVar 0) (ret (.int 1))) (ret []))) (ret (.int 200)))) (dTest (dOp neR (dFrz (dComp (dItT (dOp ixR (dVar 0) (ret (.int 1)))) (tgName 2) (dNot (dTest (dCall F__law_an_is_part (dCons (dVar 2) (ret []))))) (ret (.int 1)) [2])) (dFrz (dLst (ret [])))))) (fRet (ret (.bl false))) (ret .nx)) (fSeq (fSetN 1 (dComp (dItT (dOp ixR (dVar 0) (ret (.int 1)))) (tgName 2) (ret true) (dOp ixR (dVar 2) (ret (.int 0))) [2])) (fRet (dAndV (dNotV (dAndV (dOp inR (ret (.str "lead")) (dVar 1)) (dOp inR (ret (.str "hub")) (dVar 1)))) (dOp leR (dCall lenR (dCons (dCall F__law_an_every (dCons (dVar 0) (ret []))) (ret []))) (ret (.int 40)))))))))
theorem sc__law_an_is_net : FnScope ["_law_thing", "_law_words_here", "_law_part"] ["_law_thing"] (defScope (top 64)) := ⟨rfl, rfl, rfl, by decide +kernel, rfl, by decide +kernel, by decide +kernel⟩
theorem fn__law_an_is_net (a : At K mg "_law_an_is_net" (defArgs (top 64)) (defBody (top 64)) (defScope (top 64))) (b_isinstance : mg "isinstance" = none) (b_tuple : mg "tuple" = none) (b_len : mg "len" = none) {F__law_an_rising : PF} (o__law_an_rising : OkP P w K mg base "_law_an_rising" 2 ["_law_thing", "_law_least"] F__law_an_rising) {F__law_an_is_part : PF} (o__law_an_is_part : OkP P w K mg base "_law_an_is_part" 4 ["_law_thing"] F__law_an_is_part) {F__law_an_every : PF} (o__law_an_every : OkP P w K mg base "_law_an_every" 1 ["_law_net_here"] F__law_an_every) :
    FnOk P w K mg base CX0 5 (He.ga K "_law_an_is_net") a.fd ["_law_thing"] (spP K (wrapP 1 3 (den__law_an_is_net F__law_an_rising F__law_an_is_part F__law_an_every))) := by
  refine fn_pure (N := ["_law_thing", "_law_words_here", "_law_part"]) a.f sc__law_an_is_net fun cdv A outer s H E hr => ?_
  have hN := sc__law_an_is_net.nd
  have hu := hr.units
  exact ⟨_, (cs_cons (cs_if ((cw_or (ct_not (ct_val (ce_isi (f := "tuple") tab_tuple (ce_var (i := 0)) (by rfl) b_isinstance (by rfl) b_tuple rfl))) (cw_or1 (ct_cmp (op_neA hu) dr_ne (ce_callB dr_len call_len (by rfl) b_len rfl (ca_cons (ce_var (i := 0)) ca_nil)) ce_int (by rfl))))).ct (cs_one (cs_ret ce_bl)) cs_nil)
    (cs_cons (cs_if ((cw_or (ct_not (ct_val (ce_call o__law_an_rising.ok o__law_an_rising.mg o__law_an_rising.kp o__law_an_rising.b (hr.mono (by decide)) (ca_cons (ce_ix (ce_var (i := 0)) ce_int) (ca_cons ce_int ca_nil))))) (cw_or (ct_cmp op_gtA dr_gt (ce_callB dr_len call_len (by rfl) b_len rfl (ca_cons (ce_ix (ce_var (i := 0)) ce_int) ca_nil)) ce_int (by rfl)) (cw_or1 (ct_not (ct_val (ce_isi (f := "tuple") tab_tuple (ce_ix (ce_var (i := 0)) ce_int) (by rfl) b_isinstance (by rfl) b_tuple rfl))))))).ct (cs_one (cs_ret ce_bl)) cs_nil)
    (cs_cons (cs_if ((cw_or (ct_cmp op_gtA dr_gt (ce_callB dr_len call_len (by rfl) b_len rfl (ca_cons (ce_ix (ce_var (i := 0)) ce_int) ca_nil)) ce_int (by rfl)) (cw_or1 (ct_cmp (op_neA hu) dr_ne ((cn_lc (own := [("_law_part", 2)]) (g := (gName 2)) (tt := (tNot (tB (tCall (spP K F__law_an_is_part) [] E0 (tCons (tVar 2) tNil))))) (te := (tC (.int 1))) (by rfl) hN (ci_tup (ce_ix (ce_var (i := 0)) ce_int)) (blkOk_by (by show blkC ["_law_thing", "_law_words_here", "_law_part"] (defScope (top 64)) _ _ = true; decide +kernel)) (fun s H C cl fp => (cg_name hN (i := 2))) (fun s H C cl fp => (cts_one (ct_not (ct_val (ce_call o__law_an_is_part.ok o__law_an_is_part.mg o__law_an_is_part.kp o__law_an_is_part.b (hr.mono (by decide)) (ca_cons (ce_var (i := 2)) ca_nil)))))) (fun s H C cl fp => ce_int))).ce ((cn_lst ca_nil)).ce (by rfl))))).ct (cs_one (cs_ret ce_bl)) cs_nil)
    (cs_cons (cs_setLc (i := 1) (own := [("_law_part", 2)]) (g := (gName 2)) (tt := tYes) (te := (tOp (rIx K) (tVar 2) (tC (.int 0)))) (by rfl) hN (ci_tup (ce_ix (ce_var (i := 0)) ce_int)) (blkOk_by (by show blkC ["_law_thing", "_law_words_here", "_law_part"] (defScope (top 64)) _ _ = true; decide +kernel)) (fun s H C cl fp => (cg_name hN (i := 2))) (fun s H C cl fp => cts_nil) (fun s H C cl fp => (ce_ix (ce_var (i := 2)) ce_int)))
    (cs_one (cs_ret (ce_and (ce_not (ce_and (ce_cmp op_inA dr_in ce_str (ce_var (i := 1)) (by rfl)) (ce_one (ce_cmp op_inA dr_in ce_str (ce_var (i := 1)) (by rfl))))) (ce_one (ce_cmp op_leA dr_le (ce_callB dr_len call_len (by rfl) b_len rfl (ca_cons (ce_call o__law_an_every.ok o__law_an_every.mg o__law_an_every.kp o__law_an_every.b (hr.mono (by decide)) (ca_cons (ce_var (i := 0)) ca_nil)) ca_nil)) ce_int (by rfl))))))))))⟩
def den__law_an_read_part (F__law_an_read_number : PF) (F__law_an_is_part : PF) : M Fl := (fSeq (fSet 1 (dFrz (dSplit (dVar 0) (ret (.str " "))))) (fSeq (fSet 2 (dCall F__law_an_read_number (dCons (dOp ixR (dVar 1) (dNeg (ret (.int 1)))) (ret [])))) (fSeq (fIf (dOr (dTest (dOp isNR (dVar 2) (ret .non))) (dTest (dOp ltR (dCall lenR (dCons (dVar 1) (ret []))) (ret (.int 4))))) (fRet (ret .non)) (ret .nx)) (fSeq (fIf (dTest (dOp eqR (dOp ixR (dVar 1) (ret (.int 0))) (ret (.str "hub")))) (fSet 3 (dTup (dCons (ret (.str "hub")) (dCons (dCall tupR (dCons (dSl (dVar 1) (dPart (ret (.int 1))) (dPart (dNeg (ret (.int 1))))) (ret []))) (dCons (dVar 2) (ret [])))))) (fSet 3 (dOp addR (dCall tupR (dCons (dSl (dVar 1) (ret none) (dPart (dNeg (ret (.int 1))))) (ret []))) (dTup (dCons (dVar 2) (ret [])))))) (fRet (dIf (dTest (dCall F__law_an_is_part (dCons (dVar 3) (ret [])))) (dVar 3) (ret .non)))))))
theorem sc__law_an_read_part : FnScope ["_law_line", "_law_words_here", "_law_last", "_law_found"] ["_law_line"] (defScope (top 69)) := ⟨rfl, rfl, rfl, by decide +kernel, rfl, by decide +kernel, by decide +kernel⟩
theorem fn__law_an_read_part (a : At K mg "_law_an_read_part" (defArgs (top 69)) (defBody (top 69)) (defScope (top 69))) {F__law_an_read_number : PF} (o__law_an_read_number : OkP P w K mg base "_law_an_read_number" 3 ["_law_word"] F__law_an_read_number) (b_len : mg "len" = none) (b_tuple : mg "tuple" = none) {F__law_an_is_part : PF} (o__law_an_is_part : OkP P w K mg base "_law_an_is_part" 4 ["_law_thing"] F__law_an_is_part) :
    FnOk P w K mg base CX0 5 (He.ga K "_law_an_read_part") a.fd ["_law_line"] (spP K (wrapP 1 4 (den__law_an_read_part F__law_an_read_number F__law_an_is_part))) := by
  refine fn_pure (N := ["_law_line", "_law_words_here", "_law_last", "_law_found"]) a.f sc__law_an_read_part fun cdv A outer s H E hr => ?_
  have hN := sc__law_an_read_part.nd
  have hu := hr.units
  exact ⟨_, (cs_cons (cs_set hN (i := 1) ((cn_split (ce_var (i := 0)) ce_str)).ce)
    (cs_cons (cs_set hN (i := 2) (ce_call o__law_an_read_number.ok o__law_an_read_number.mg o__law_an_read_number.kp o__law_an_read_number.b (hr.mono (by decide)) (ca_cons (ce_ix (ce_var (i := 1)) (ce_neg ce_int)) ca_nil)))
    (cs_cons (cs_if ((cw_or (ct_cmp op_isN1 dr_isN (ce_var (i := 2)) ce_non (by rfl)) (cw_or1 (ct_cmp op_ltA dr_lt (ce_callB dr_len call_len (by rfl) b_len rfl (ca_cons (ce_var (i := 1)) ca_nil)) ce_int (by rfl))))).ct (cs_one (cs_ret ce_non)) cs_nil)
    (cs_cons (cs_if (ct_cmp (op_eqA hu) dr_eq (ce_ix (ce_var (i := 1)) ce_int) ce_str (by rfl)) (cs_one (cs_set hN (i := 3) (ce_tup (ca_cons ce_str (ca_cons (ce_callTy dr_tup call_tuple_of (by rfl) b_tuple rfl (ca_cons (ce_sl (ce_var (i := 1)) (co_some ce_int) (co_some (ce_neg ce_int))) ca_nil)) (ca_cons (ce_var (i := 2)) ca_nil)))))) (cs_one (cs_set hN (i := 3) (ce_op op_addA dr_add (ce_callTy dr_tup call_tuple_of (by rfl) b_tuple rfl (ca_cons (ce_sl (ce_var (i := 1)) co_none (co_some (ce_neg ce_int))) ca_nil)) (ce_tup (ca_cons (ce_var (i := 2)) ca_nil))))))
    (cs_one (cs_ret (ce_if (ct_val (ce_call o__law_an_is_part.ok o__law_an_is_part.mg o__law_an_is_part.kp o__law_an_is_part.b (hr.mono (by decide)) (ca_cons (ce_var (i := 3)) ca_nil))) (ce_var (i := 3)) ce_non)))))))⟩
def den_need_net (F_is_net : PF) : M Fl := (fIf (dNot (dTest (dCall F_is_net (dCons (dVar 0) (ret []))))) (fRaise (.xc "BadNet" [])) (ret .nx))
theorem sc_need_net : FnScope ["net"] ["net"] (defScope (top 28)) := ⟨rfl, rfl, rfl, by decide +kernel, rfl, by decide +kernel, by decide +kernel⟩
theorem fn_need_net (a : At K mg "need_net" (defArgs (top 28)) (defBody (top 28)) (defScope (top 28))) {F_is_net : PF} (o_is_net : OkP P w K mg base "is_net" 5 ["value"] F_is_net) (x_BadNet : ExcF K mg "BadNet") :
    FnOk P w K mg base (L2.CX P w) 6 (He.ga K "need_net") a.fd ["net"] (spX K (wrapX 1 1 (den_need_net F_is_net))) := by
  refine fn_x (N := ["net"]) a.f sc_need_net fun cdv A outer s H E hr => ?_
  have hN := sc_need_net.nd
  have hu := hr.units
  exact ⟨_, (cs_one (cs_if (ct_not (ct_val (ce_call o_is_net.ok o_is_net.mg o_is_net.kp o_is_net.b (hr.mono (by decide)) (ca_cons (ce_var (i := 0)) ca_nil)))) (cs_one (cs_raise (n := "BadNet") (by rfl) takes_fn (x_BadNet.pmk (by rfl)))) cs_nil))⟩
def den_read_net (F_is_taps : PF) (F_part_of_line : PF) (F_is_net : PF) : M Fl := (fSeq (fIf (dOr (dNot (dTest (dIsi "str" (dVar 0)))) (dTest (dOp eqR (dVar 0) (ret (.str ""))))) (fRaiseI "BadText" "line" (dCons (ret (.int 1)) (ret []))) (ret .nx)) (fSeq (fSet 1 (dFrz (dSplit (dVar 0) (ret (.str "\n"))))) (fSeq (fSet 2 (dFrz (dSplit (dOp ixR (dVar 1) (ret (.int 0))) (ret (.str " "))))) (fSeq (fIf (dOr (dTest (dOp eqR (dCall lenR (dCons (dVar 1) (ret []))) (ret (.int 1)))) (dOr (dTest (dOp neR (dOp ixR (dVar 2) (ret (.int 0))) (ret (.str "taps")))) (dNot (dTest (dCall F_is_taps (dCons (dCall tupR (dCons (dSl (dVar 2) (dPart (ret (.int 1))) (ret none)) (ret []))) (ret []))))))) (fRaiseI "BadText" "line" (dCons (ret (.int 1)) (ret []))) (ret .nx)) (fSeq (fPar2 3 4 (vFz (dCall tupR (dCons (dSl (dVar 2) (dPart (ret (.int 1))) (ret none)) (ret [])))) (vOw (dLst (ret [])))) (fSeq (fFor (dEnum (dCons (dSl (dVar 1) (dPart (ret (.int 1))) (dPart (dNeg (ret (.int 1))))) (ret []))) (tgTup 2 (tgCons (tgName 5) (tgCons (tgName 6) tgNil))) (fSeq (fDrop (dAppend 4 (dCall F_part_of_line (dCons (dVar 6) (ret []))))) (fIf (dOr (dTest (dOp isNR (dOwnIx 4 (dNeg (ret (.int 1)))) (ret .non))) (dNot (dTest (dCall F_is_net (dCons (dTup (dCons (dVar 3) (dCons (dOwnTup 4) (ret [])))) (ret [])))))) (fRaiseI "BadText" "line" (dCons (dOp addR (dVar 5) (ret (.int 2))) (ret []))) (ret .nx)))) (fSeq (fIf (dTest (dOp neR (dOp ixR (dVar 1) (dNeg (ret (.int 1)))) (ret (.str "")))) (fRaiseI "BadText" "line" (dCons (dCall lenR (dCons (dVar 1) (ret []))) (ret []))) (ret .nx)) (fRet (dTup (dCons (dVar 3) (dCons (dOwnTup 4) (ret []))))))))))))
theorem sc_read_net : FnScope ["text", "rows", "words", "taps", "parts", "turn", "row"] ["text"] (defScope (top 37)) := ⟨rfl, rfl, rfl, by decide +kernel, rfl, by decide +kernel, by decide +kernel⟩
theorem fn_read_net (a : At K mg "read_net" (defArgs (top 37)) (defBody (top 37)) (defScope (top 37))) (b_isinstance : mg "isinstance" = none) (b_str : mg "str" = none) (i_BadText : InitF P w K mg base 1 "BadText" "line") (b_len : mg "len" = none) {F_is_taps : PF} (o_is_taps : OkP P w K mg base "is_taps" 3 ["value"] F_is_taps) (b_tuple : mg "tuple" = none) (b_enumerate : mg "enumerate" = none) {F_part_of_line : PF} (o_part_of_line : OkP P w K mg base "part_of_line" 5 ["row"] F_part_of_line) {F_is_net : PF} (o_is_net : OkP P w K mg base "is_net" 5 ["value"] F_is_net) :
    FnOk P w K mg base (L2.CX P w) 6 (He.ga K "read_net") a.fd ["text"] (spX K (wrapX 1 7 (den_read_net F_is_taps F_part_of_line F_is_net))) := by
  refine fn_x (N := ["text", "rows", "words", "taps", "parts", "turn", "row"]) a.f sc_read_net fun cdv A outer s H E hr => ?_
  have hN := sc_read_net.nd
  have hu := hr.units
  exact ⟨_, (cs_cons (cs_if ((cw_or (ct_not (ct_val (ce_isi (f := "str") tab_str (ce_var (i := 0)) (by rfl) b_isinstance (by rfl) b_str rfl))) (cw_or1 (ct_cmp (op_eqA hu) dr_eq (ce_var (i := 0)) ce_str (by rfl))))).ct (cs_one (cs_raiseI (n := "BadText") (by rfl) takes_fn i_BadText (hr.mono (by decide)) (by rfl) (ca_cons ce_int ca_nil))) cs_nil)
    (cs_cons (cs_set hN (i := 1) ((cn_split (ce_var (i := 0)) ce_str)).ce)
    (cs_cons (cs_set hN (i := 2) ((cn_split (ce_ix (ce_var (i := 1)) ce_int) ce_str)).ce)
    (cs_cons (cs_if ((cw_or (ct_cmp (op_eqA hu) dr_eq (ce_callB dr_len call_len (by rfl) b_len rfl (ca_cons (ce_var (i := 1)) ca_nil)) ce_int (by rfl)) (cw_or (ct_cmp (op_neA hu) dr_ne (ce_ix (ce_var (i := 2)) ce_int) ce_str (by rfl)) (cw_or1 (ct_not (ct_val (ce_call o_is_taps.ok o_is_taps.mg o_is_taps.kp o_is_taps.b (hr.mono (by decide)) (ca_cons (ce_callTy dr_tup call_tuple_of (by rfl) b_tuple rfl (ca_cons (ce_sl (ce_var (i := 2)) (co_some ce_int) co_none) ca_nil)) ca_nil)))))))).ct (cs_one (cs_raiseI (n := "BadText") (by rfl) takes_fn i_BadText (hr.mono (by decide)) (by rfl) (ca_cons ce_int ca_nil))) cs_nil)
    (cs_cons (cs_par2 (by rfl) hN (i := 3) (j := 4) ((ce_callTy dr_tup call_tuple_of (by rfl) b_tuple rfl (ca_cons (ce_sl (ce_var (i := 2)) (co_some ce_int) co_none) ca_nil))).cv ((cn_lst ca_nil)).cv)
    (cs_cons (cs_for (passes_of rfl) (by rfl) (ci_enum (by rfl) b_enumerate (ca_cons (ce_sl (ce_var (i := 1)) (co_some ce_int) (co_some (ce_neg ce_int))) ca_nil)) (cg_tup (by rfl) (cgs_cons (cg_name hN (i := 5)) (cgs_cons (cg_name hN (i := 6)) cgs_nil)) (n := 2)) (cs_cons (cs_expr (ce_append (i := 4) (ce_call o_part_of_line.ok o_part_of_line.mg o_part_of_line.kp o_part_of_line.b (hr.mono (by decide)) (ca_cons (ce_var (i := 6)) ca_nil))))
    (cs_one (cs_if ((cw_or (ct_cmp op_isN1 dr_isN (ce_ownIx (i := 4) (ce_neg ce_int)) ce_non (by rfl)) (cw_or1 (ct_not (ct_val (ce_call o_is_net.ok o_is_net.mg o_is_net.kp o_is_net.b (hr.mono (by decide)) (ca_cons (ce_tup (ca_cons (ce_var (i := 3)) (ca_cons (ce_ownTup (i := 4) (by rfl) b_tuple rfl) ca_nil))) ca_nil))))))).ct (cs_one (cs_raiseI (n := "BadText") (by rfl) takes_fn i_BadText (hr.mono (by decide)) (by rfl) (ca_cons (ce_op op_addA dr_add (ce_var (i := 5)) ce_int) ca_nil))) cs_nil))))
    (cs_cons (cs_if (ct_cmp (op_neA hu) dr_ne (ce_ix (ce_var (i := 1)) (ce_neg ce_int)) ce_str (by rfl)) (cs_one (cs_raiseI (n := "BadText") (by rfl) takes_fn i_BadText (hr.mono (by decide)) (by rfl) (ca_cons (ce_callB dr_len call_len (by rfl) b_len rfl (ca_cons (ce_var (i := 1)) ca_nil)) ca_nil))) cs_nil)
    (cs_one (cs_ret (ce_tup (ca_cons (ce_var (i := 3)) (ca_cons (ce_ownTup (i := 4) (by rfl) b_tuple rfl) ca_nil))))))))))))⟩
def den__law_ct_net (F__law_draw : SF) (F__law_pick : SF) (F__law_ct_part : SF) : M Fl := (fSeq (fSet 3 (dSl (dOp ixR (dFrz (dLst (dCons (dFrz (dLst (dCons (ret (.str "k")) (dCons (ret (.str "p")) (dCons (ret (.str "q")) (ret [])))))) (dCons (dFrz (dLst (dCons (ret (.str "in1")) (dCons (ret (.str "in2")) (dCons (ret (.str "z")) (ret [])))))) (ret []))))) (dSCall F__law_draw (dStArg 0 (dCons (ret (.int 2)) (ret []))))) (ret none) (dPart (dSCall F__law_pick (dStArg 0 (dCons (dFrz (dLst (dCons (ret (.int 2)) (dCons (ret (.int 1)) (dCons (ret (.int 3)) (dCons (ret (.int 0)) (ret []))))))) (ret []))))))) (fSeq (fSet 4 (dOp addR (dFrz (dCallL lstR (dCons (dVar 1) (ret [])))) (dVar 3))) (fSeq (fSetN 5 (dComp (dRng1 (dCons (dOp addR (ret (.int 3)) (dSCall F__law_draw (dStArg 0 (dCons (ret (.int 7)) (ret []))))) (ret []))) (tgName 6) (ret true) (dSCall F__law_ct_part (dStArg 0 (dCons (dVar 4) (dCons (dVar 2) (ret []))))) [6])) (fRet (dTup (dCons (dVar 1) (dCons (dCall tupR (dCons (dVar 5) (ret []))) (ret []))))))))
theorem sc__law_ct_net : FnScope ["_law_state", "_law_taps_here", "_law_sort_here", "_law_inner", "_law_places_here", "_law_parts_here", "_law_lap"] ["_law_state", "_law_taps_here", "_law_sort_here"] (defScope (top 54)) := ⟨rfl, rfl, rfl, by decide +kernel, rfl, by decide +kernel, by decide +kernel⟩
theorem fn__law_ct_net (a : At K mg "_law_ct_net" (defArgs (top 54)) (defBody (top 54)) (defScope (top 54))) {F__law_draw : SF} (o__law_draw : OkS P w K mg base "_law_draw" 2 ["_law_state", "_law_room"] F__law_draw) {F__law_pick : SF} (o__law_pick : OkS P w K mg base "_law_pick" 3 ["_law_state", "_law_some"] F__law_pick) (b_list : mg "list" = none) (b_range : mg "range" = none) {F__law_ct_part : SF} (o__law_ct_part : OkS P w K mg base "_law_ct_part" 5 ["_law_state", "_law_places_here", "_law_sort_here"] F__law_ct_part) (b_tuple : mg "tuple" = none) :
    FnOk P w K mg base CX0 6 (He.ga K "_law_ct_net") a.fd ["_law_state", "_law_taps_here", "_law_sort_here"] (spS K (wrapS 3 7 (den__law_ct_net F__law_draw F__law_pick F__law_ct_part))) := by
  refine fn_s (N := ["_law_state", "_law_taps_here", "_law_sort_here", "_law_inner", "_law_places_here", "_law_parts_here", "_law_lap"]) a.f sc__law_ct_net fun so cdv A outer s H E hr => ?_
  have hN := sc__law_ct_net.nd
  have hu := hr.units
  exact ⟨_, (cs_cons (cs_set hN (i := 3) (ce_sl (ce_ix ((cn_lst (ca_cons ((cn_lst (ca_cons ce_str (ca_cons ce_str (ca_cons ce_str ca_nil))))).ce (ca_cons ((cn_lst (ca_cons ce_str (ca_cons ce_str (ca_cons ce_str ca_nil))))).ce ca_nil)))).ce (ce_scall (i := 0) o__law_draw.ok o__law_draw.mg o__law_draw.kp o__law_draw.b (hr.mono (by decide)) (ca_cons ce_int ca_nil))) co_none (co_some (ce_scall (i := 0) o__law_pick.ok o__law_pick.mg o__law_pick.kp o__law_pick.b (hr.mono (by decide)) (ca_cons ((cn_lst (ca_cons ce_int (ca_cons ce_int (ca_cons ce_int (ca_cons ce_int ca_nil)))))).ce ca_nil)))))
    (cs_cons (cs_set hN (i := 4) (ce_op op_addA dr_add ((cn_callTy dr_lst call_list_of (by rfl) b_list rfl (ca_cons (ce_var (i := 1)) ca_nil))).ce (ce_var (i := 3))))
    (cs_cons (cs_setLc (i := 5) (own := [("_law_lap", 6)]) (g := (gName 6)) (tt := tYes) (te := (tCall (spS K F__law_ct_part) [] E0 (tCons (tVar 0) (tCons (tVar 4) (tCons (tVar 2) tNil))))) (by rfl) hN (ci_rng1 (by rfl) b_range (ca_cons (ce_op op_addA dr_add ce_int (ce_scall (i := 0) o__law_draw.ok o__law_draw.mg o__law_draw.kp o__law_draw.b (hr.mono (by decide)) (ca_cons ce_int ca_nil))) ca_nil)) (blkOk_by (by show blkC ["_law_state", "_law_taps_here", "_law_sort_here", "_law_inner", "_law_places_here", "_law_parts_here", "_law_lap"] (defScope (top 54)) _ _ = true; decide +kernel)) (fun s H C cl fp => (cg_name hN (i := 6))) (fun s H C cl fp => cts_nil) (fun s H C cl fp => (ce_scall (i := 0) o__law_ct_part.ok o__law_ct_part.mg o__law_ct_part.kp o__law_ct_part.b (hr.mono (by decide)) (ca_cons (ce_var (i := 4)) (ca_cons (ce_var (i := 2)) ca_nil)))))
    (cs_one (cs_ret (ce_tup (ca_cons (ce_var (i := 1)) (ca_cons (ce_callTy dr_tup call_tuple_of (by rfl) b_tuple rfl (ca_cons (ce_var (i := 5)) ca_nil)) ca_nil))))))))⟩
def den__law_an_read (F__law_an_is_net : PF) (F__law_an_read_part : PF) : M Fl := (fSeq (fSet 1 (dFrz (dSplit (dVar 0) (ret (.str "\n"))))) (fSeq (fSet 2 (dFrz (dSplit (dOp ixR (dVar 1) (ret (.int 0))) (ret (.str " "))))) (fSeq (fSet 3 (dCall tupR (dCons (dSl (dVar 2) (dPart (ret (.int 1))) (ret none)) (ret [])))) (fSeq (fIf (dOr (dTest (dOp neR (dOp ixR (dVar 2) (ret (.int 0))) (ret (.str "taps")))) (dOr (dTest (dOp eqR (dCall lenR (dCons (dVar 1) (ret []))) (ret (.int 1)))) (dNot (dTest (dCall F__law_an_is_net (dCons (dTup (dCons (dVar 3) (dCons (dTup (ret [])) (ret [])))) (ret []))))))) (fRet (ret (.int 1))) (ret .nx)) (fSeq (fSet 4 (dTup (ret []))) (fSeq (fFor (dRng2 (dCons (ret (.int 1)) (dCons (dOp subR (dCall lenR (dCons (dVar 1) (ret []))) (ret (.int 1))) (ret [])))) (tgName 5) (fSeq (fSet 6 (dCall F__law_an_read_part (dCons (dOp ixR (dVar 1) (dVar 5)) (ret [])))) (fSeq (fIf (dOr (dTest (dOp isNR (dVar 6) (ret .non))) (dNot (dTest (dCall F__law_an_is_net (dCons (dTup (dCons (dVar 3) (dCons (dOp addR (dVar 4) (dTup (dCons (dVar 6) (ret [])))) (ret [])))) (ret [])))))) (fRet (dOp addR (dVar 5) (ret (.int 1)))) (ret .nx)) (fSet 4 (dOp addR (dVar 4) (dTup (dCons (dVar 6) (ret [])))))))) (fRet (dIf (dTest (dOp eqR (dOp ixR (dVar 1) (dNeg (ret (.int 1)))) (ret (.str "")))) (dTup (dCons (dVar 3) (dCons (dVar 4) (ret [])))) (dCall lenR (dCons (dVar 1) (ret [])))))))))))
theorem sc__law_an_read : FnScope ["_law_told", "_law_lines_here", "_law_words_here", "_law_taps_here", "_law_parts_here", "_law_spot", "_law_part"] ["_law_told"] (defScope (top 70)) := ⟨rfl, rfl, rfl, by decide +kernel, rfl, by decide +kernel, by decide +kernel⟩
theorem fn__law_an_read (a : At K mg "_law_an_read" (defArgs (top 70)) (defBody (top 70)) (defScope (top 70))) (b_tuple : mg "tuple" = none) (b_len : mg "len" = none) {F__law_an_is_net : PF} (o__law_an_is_net : OkP P w K mg base "_law_an_is_net" 5 ["_law_thing"] F__law_an_is_net) (b_range : mg "range" = none) {F__law_an_read_part : PF} (o__law_an_read_part : OkP P w K mg base "_law_an_read_part" 5 ["_law_line"] F__law_an_read_part) :
    FnOk P w K mg base CX0 6 (He.ga K "_law_an_read") a.fd ["_law_told"] (spP K (wrapP 1 7 (den__law_an_read F__law_an_is_net F__law_an_read_part))) := by
  refine fn_pure (N := ["_law_told", "_law_lines_here", "_law_words_here", "_law_taps_here", "_law_parts_here", "_law_spot", "_law_part"]) a.f sc__law_an_read fun cdv A outer s H E hr => ?_
  have hN := sc__law_an_read.nd
  have hu := hr.units
  exact ⟨_, (cs_cons (cs_set hN (i := 1) ((cn_split (ce_var (i := 0)) ce_str)).ce)
    (cs_cons (cs_set hN (i := 2) ((cn_split (ce_ix (ce_var (i := 1)) ce_int) ce_str)).ce)
    (cs_cons (cs_set hN (i := 3) (ce_callTy dr_tup call_tuple_of (by rfl) b_tuple rfl (ca_cons (ce_sl (ce_var (i := 2)) (co_some ce_int) co_none) ca_nil)))
    (cs_cons (cs_if ((cw_or (ct_cmp (op_neA hu) dr_ne (ce_ix (ce_var (i := 2)) ce_int) ce_str (by rfl)) (cw_or (ct_cmp (op_eqA hu) dr_eq (ce_callB dr_len call_len (by rfl) b_len rfl (ca_cons (ce_var (i := 1)) ca_nil)) ce_int (by rfl)) (cw_or1 (ct_not (ct_val (ce_call o__law_an_is_net.ok o__law_an_is_net.mg o__law_an_is_net.kp o__law_an_is_net.b (hr.mono (by decide)) (ca_cons (ce_tup (ca_cons (ce_var (i := 3)) (ca_cons (ce_tup ca_nil) ca_nil))) ca_nil)))))))).ct (cs_one (cs_ret ce_int)) cs_nil)
    (cs_cons (cs_set hN (i := 4) (ce_tup ca_nil))
    (cs_cons (cs_for PassesOwn.never (by rfl) (ci_rng2 (by rfl) b_range (ca_cons ce_int (ca_cons (ce_op op_sub dr_sub (ce_callB dr_len call_len (by rfl) b_len rfl (ca_cons (ce_var (i := 1)) ca_nil)) ce_int) ca_nil))) (cg_name hN (i := 5)) (cs_cons (cs_set hN (i := 6) (ce_call o__law_an_read_part.ok o__law_an_read_part.mg o__law_an_read_part.kp o__law_an_read_part.b (hr.mono (by decide)) (ca_cons (ce_ix (ce_var (i := 1)) (ce_var (i := 5))) ca_nil)))
    (cs_cons (cs_if ((cw_or (ct_cmp op_isN1 dr_isN (ce_var (i := 6)) ce_non (by rfl)) (cw_or1 (ct_not (ct_val (ce_call o__law_an_is_net.ok o__law_an_is_net.mg o__law_an_is_net.kp o__law_an_is_net.b (hr.mono (by decide)) (ca_cons (ce_tup (ca_cons (ce_var (i := 3)) (ca_cons (ce_op op_addA dr_add (ce_var (i := 4)) (ce_tup (ca_cons (ce_var (i := 6)) ca_nil))) ca_nil))) ca_nil))))))).ct (cs_one (cs_ret (ce_op op_addA dr_add (ce_var (i := 5)) ce_int))) cs_nil)
    (cs_one (cs_set hN (i := 4) (ce_op op_addA dr_add (ce_var (i := 4)) (ce_tup (ca_cons (ce_var (i := 6)) ca_nil))))))))
    (cs_one (cs_ret (ce_if (ct_cmp (op_eqA hu) dr_eq (ce_ix (ce_var (i := 1)) (ce_neg ce_int)) ce_str (by rfl)) (ce_tup (ca_cons (ce_var (i := 3)) (ca_cons (ce_var (i := 4)) ca_nil))) (ce_callB dr_len call_len (by rfl) b_len rfl (ca_cons (ce_var (i := 1)) ca_nil)))))))))))⟩
def den_net_text (F_need_net : XF) (F_part_text : PF) : M Fl := (fSeq (fDrop (dXCall F_need_net (dCons (dVar 0) (ret [])))) (fSeq (fSet 1 (dOp addR (dFrz (dLst (dCons (dJoin (ret (.str " ")) (dOp addR (dFrz (dLst (dCons (ret (.str "taps")) (ret [])))) (dFrz (dCallL lstR (dCons (dOp ixR (dVar 0) (ret (.int 0))) (ret [])))))) (ret [])))) (dFrz (dComp (dItT (dOp ixR (dVar 0) (ret (.int 1)))) (tgName 2) (ret true) (dCall F_part_text (dCons (dVar 2) (ret []))) [2])))) (fRet (dOp addR (dJoin (ret (.str "\n")) (dVar 1)) (ret (.str "\n"))))))
theorem sc_net_text : FnScope ["net", "rows", "part"] ["net"] (defScope (top 33)) := ⟨rfl, rfl, rfl, by decide +kernel, rfl, by decide +kernel, by decide +kernel⟩
theorem fn_net_text (a : At K mg "net_text" (defArgs (top 33)) (defBody (top 33)) (defScope (top 33))) {F_need_net : XF} (o_need_net : OkX P w K mg base "need_net" 6 ["net"] F_need_net) (b_list : mg "list" = none) {F_part_text : PF} (o_part_text : OkP P w K mg base "part_text" 2 ["part"] F_part_text) :
    FnOk P w K mg base (L2.CX P w) 7 (He.ga K "net_text") a.fd ["net"] (spX K (wrapX 1 3 (den_net_text F_need_net F_part_text))) := by
  refine fn_x (N := ["net", "rows", "part"]) a.f sc_net_text fun cdv A outer s H E hr => ?_
  have hN := sc_net_text.nd
  have hu := hr.units
  exact ⟨_, (cs_cons (cs_expr (ce_xcall takes_fn o_need_net.ok o_need_net.mg o_need_net.kp o_need_net.b (hr.mono (by decide)) (ca_cons (ce_var (i := 0)) ca_nil)))
    (cs_cons (cs_set hN (i := 1) (ce_op op_addA dr_add ((cn_lst (ca_cons (ce_join ce_str (ce_op op_addA dr_add ((cn_lst (ca_cons ce_str ca_nil))).ce ((cn_callTy dr_lst call_list_of (by rfl) b_list rfl (ca_cons (ce_ix (ce_var (i := 0)) ce_int) ca_nil))).ce)) ca_nil))).ce ((cn_lc (own := [("part", 2)]) (g := (gName 2)) (tt := tYes) (te := (tCall (spP K F_part_text) [] E0 (tCons (tVar 2) tNil))) (by rfl) hN (ci_tup (ce_ix (ce_var (i := 0)) ce_int)) (blkOk_by (by show blkC ["net", "rows", "part"] (defScope (top 33)) _ _ = true; decide +kernel)) (fun s H C cl fp => (cg_name hN (i := 2))) (fun s H C cl fp => cts_nil) (fun s H C cl fp => (ce_call o_part_text.ok o_part_text.mg o_part_text.kp o_part_text.b (hr.mono (by decide)) (ca_cons (ce_var (i := 2)) ca_nil))))).ce))
    (cs_one (cs_ret (ce_op op_addA dr_add (ce_join ce_str (ce_var (i := 1))) ce_str)))))⟩
def den__law_an_net (F__law_ct_net : SF) (F__law_draw : SF) (F__law_an_width : SF) : M Fl := (fSeq (fSet 3 (dSCall F__law_ct_net (dStArg 0 (dCons (dVar 1) (dCons (dVar 2) (ret [])))))) (fSeq (fIf (dTest (dOp gtR (dSCall F__law_draw (dStArg 0 (dCons (ret (.int 4)) (ret [])))) (ret (.int 0)))) (fRet (dVar 3)) (ret .nx)) (fRet (dTup (dCons (dVar 1) (dCons (dCall tupR (dCons (dFrz (dComp (dItT (dOp ixR (dVar 3) (ret (.int 1)))) (tgName 4) (ret true) (dOp addR (dSl (dVar 4) (ret none) (dPart (dNeg (ret (.int 1))))) (dTup (dCons (dSCall F__law_an_width (dStArg 0 (dCons (ret (.bl true)) (ret [])))) (ret [])))) [4])) (ret []))) (ret [])))))))
theorem sc__law_an_net : FnScope ["_law_state", "_law_taps_here", "_law_sort_here", "_law_drawn", "_law_part"] ["_law_state", "_law_taps_here", "_law_sort_here"] (defScope (top 58)) := ⟨rfl, rfl, rfl, by decide +kernel, rfl, by decide +kernel, by decide +kernel⟩
theorem fn__law_an_net (a : At K mg "_law_an_net" (defArgs (top 58)) (defBody (top 58)) (defScope (top 58))) {F__law_ct_net : SF} (o__law_ct_net : OkS P w K mg base "_law_ct_net" 6 ["_law_state", "_law_taps_here", "_law_sort_here"] F__law_ct_net) {F__law_draw : SF} (o__law_draw : OkS P w K mg base "_law_draw" 2 ["_law_state", "_law_room"] F__law_draw) (b_tuple : mg "tuple" = none) {F__law_an_width : SF} (o__law_an_width : OkS P w K mg base "_law_an_width" 5 ["_law_state", "_law_great"] F__law_an_width) :
    FnOk P w K mg base CX0 7 (He.ga K "_law_an_net") a.fd ["_law_state", "_law_taps_here", "_law_sort_here"] (spS K (wrapS 3 5 (den__law_an_net F__law_ct_net F__law_draw F__law_an_width))) := by
  refine fn_s (N := ["_law_state", "_law_taps_here", "_law_sort_here", "_law_drawn", "_law_part"]) a.f sc__law_an_net fun so cdv A outer s H E hr => ?_
  have hN := sc__law_an_net.nd
  have hu := hr.units
  exact ⟨_, (cs_cons (cs_set hN (i := 3) (ce_scall (i := 0) o__law_ct_net.ok o__law_ct_net.mg o__law_ct_net.kp o__law_ct_net.b (hr.mono (by decide)) (ca_cons (ce_var (i := 1)) (ca_cons (ce_var (i := 2)) ca_nil))))
    (cs_cons (cs_if (ct_cmp op_gtA dr_gt (ce_scall (i := 0) o__law_draw.ok o__law_draw.mg o__law_draw.kp o__law_draw.b (hr.mono (by decide)) (ca_cons ce_int ca_nil)) ce_int (by rfl)) (cs_one (cs_ret (ce_var (i := 3)))) cs_nil)
    (cs_one (cs_ret (ce_tup (ca_cons (ce_var (i := 1)) (ca_cons (ce_callTy dr_tup call_tuple_of (by rfl) b_tuple rfl (ca_cons ((cn_lc (own := [("_law_part", 4)]) (g := (gName 4)) (tt := tYes) (te := (tOp (rAddA K) (tSl (rSlAll K) (tVar 4) tNoPart (tPart (tUn (rU fun i => .int (-i)) (tC (.int 1))))) (tTup (tCons (tCall (spS K F__law_an_width) [] E0 (tCons (tVar 0) (tCons (tC (.bl true)) tNil))) tNil)))) (by rfl) hN (ci_tup (ce_ix (ce_var (i := 3)) ce_int)) (blkOk_by (by show blkC ["_law_state", "_law_taps_here", "_law_sort_here", "_law_drawn", "_law_part"] (defScope (top 58)) _ _ = true; decide +kernel)) (fun s H C cl fp => (cg_name hN (i := 4))) (fun s H C cl fp => cts_nil) (fun s H C cl fp => (ce_op op_addA dr_add (ce_sl (ce_var (i := 4)) co_none (co_some (ce_neg ce_int))) (ce_tup (ca_cons (ce_scall (i := 0) o__law_an_width.ok o__law_an_width.mg o__law_an_width.kp o__law_an_width.b (hr.mono (by decide)) (ca_cons ce_bl ca_nil)) ca_nil)))))).ce ca_nil)) ca_nil)))))))⟩
def den__law_an_drawn (F__law_pick : SF) (F__law_an_net : SF) (F__law_ct_taps : SF) : M Fl := (fSeq (fSet 3 (dSCall F__law_pick (dStArg 0 (dCons (dFrz (dLst (dCons (ret (.str "pipes")) (dCons (ret (.str "leads")) (dCons (ret (.str "hubs")) (ret [])))))) (ret []))))) (fRet (dSCall F__law_an_net (dStArg 0 (dCons (dSCall F__law_ct_taps (dStArg 0 (dCons (dVar 1) (dCons (dVar 2) (ret []))))) (dCons (dVar 3) (ret [])))))))
theorem sc__law_an_drawn : FnScope ["_law_state", "_law_least", "_law_most", "_law_sort_here"] ["_law_state", "_law_least", "_law_most"] (defScope (top 59)) := ⟨rfl, rfl, rfl, by decide +kernel, rfl, by decide +kernel, by decide +kernel⟩
theorem fn__law_an_drawn (a : At K mg "_law_an_drawn" (defArgs (top 59)) (defBody (top 59)) (defScope (top 59))) {F__law_pick : SF} (o__law_pick : OkS P w K mg base "_law_pick" 3 ["_law_state", "_law_some"] F__law_pick) {F__law_an_net : SF} (o__law_an_net : OkS P w K mg base "_law_an_net" 7 ["_law_state", "_law_taps_here", "_law_sort_here"] F__law_an_net) {F__law_ct_taps : SF} (o__law_ct_taps : OkS P w K mg base "_law_ct_taps" 4 ["_law_state", "_law_least", "_law_most"] F__law_ct_taps) :
    FnOk P w K mg base CX0 8 (He.ga K "_law_an_drawn") a.fd ["_law_state", "_law_least", "_law_most"] (spS K (wrapS 3 4 (den__law_an_drawn F__law_pick F__law_an_net F__law_ct_taps))) := by
  refine fn_s (N := ["_law_state", "_law_least", "_law_most", "_law_sort_here"]) a.f sc__law_an_drawn fun so cdv A outer s H E hr => ?_
  have hN := sc__law_an_drawn.nd
  have hu := hr.units
  exact ⟨_, (cs_cons (cs_set hN (i := 3) (ce_scall (i := 0) o__law_pick.ok o__law_pick.mg o__law_pick.kp o__law_pick.b (hr.mono (by decide)) (ca_cons ((cn_lst (ca_cons ce_str (ca_cons ce_str (ca_cons ce_str ca_nil))))).ce ca_nil)))
    (cs_one (cs_ret (ce_scall (i := 0) o__law_an_net.ok o__law_an_net.mg o__law_an_net.kp o__law_an_net.b (hr.mono (by decide)) (ca_cons (ce_scall (i := 0) o__law_ct_taps.ok o__law_ct_taps.mg o__law_ct_taps.kp o__law_ct_taps.b (hr.mono (by decide)) (ca_cons (ce_var (i := 1)) (ca_cons (ce_var (i := 2)) ca_nil))) (ca_cons (ce_var (i := 3)) ca_nil))))))⟩
end
end K12
end S_W12
section S_DK1
set_option Elab.async false
set_option linter.all false
set_option autoImplicit false
set_option maxRecDepth 100000
set_option maxHeartbeats 4000000
/-! DK1: f(name = e), f a def of one parameter that may raise. -/
namespace DL
open PySem PySem.Spec PyProof.Rows L2
section
variable {X : Cx} {so : So} {W : WX} {CX : CXT} {k : Nat} {f : Addr} {fd : FuncData} {ps : List Str} {sp : Sp} {E : L2.St → XK} {x kn : Str} {p pos kpos : Pos} {e : Expr} {te : TE} {fe : M D}
theorem pe_callKW1 (F : FnOk X.prog X.w X.K X.mg X.base CX k f fd [kn] sp) (hr : Room k X.A) (hg : Gl X x) (hm : X.mg x = some (.ref f)) (hk : PySem.W.keepIn X.K (.ref f) = true) (hb : ∀ (s : Shared) (u : Value), BindsTo s fd ⟨[], [(kn, u)]⟩ [(kn, u)]) (hx : ∀ σ, PassesAt CX X σ (E σ))
    (he : PE X e te) (hdb : (x == ("__debug__" : Str)) = false := by decide) : PE X (.Call (.Name x p) [] [⟨some kn, e, kpos⟩] pos) (tCallSD sp [] E (tCons te tNil)) := by
  refine ⟨fun pins s σ H Q I h => ?_⟩
  refine wpAny_Call_Name_kw (ld_glob I hg hm ?_ hdb)
  refine PySem.W.callWith_KW0 (h₀ := X.base) I.ok.mod.kin hk rfl (thn ((pk_cons (nm := some kn) (kpos := kpos) he pk_nil).run pos pins s σ H _ I h) fun us s1 ⟨vs, H1, I1, r, q⟩ => ⟨I1.kIn, ?_⟩) rfl
  have q' : sp vs H1 Q (E σ) := by simpa using q
  have hl : vs.length = 1 := F.len _ _ _ _ q'
  have hlu : us.length = 1 := by rw [← r.length]; exact hl
  match us, hlu with
  | [u], _ =>
    show wpAny (model X.prog X.w) X.A (call (.ref f) [] [(kn, u)]) (EP X pins σ Q) X.xe s1
    refine wpAny_call (codeAny_mono (F.run X.A X.stack s1 H1 ⟨[], [(kn, u)]⟩ [u] vs Q (E σ) hr I1.env0 (hb s1 u) r q') fun r s' hq => ?_)
    cases r with
    | error e => exact hx σ pins H1 s1 e s' I1 hq
    | ok fl =>
      cases fl with
      | ret u => exact I1.after hq
      | next => exact False.elim hq
      | brk => exact False.elim hq
      | cont => exact False.elim hq
theorem ce_xcallK {F : XF} (tk : Takes X W) (G : FnOk X.prog X.w X.K X.mg X.base (L2.CX X.prog X.w) k f fd [kn] (spX X.K F)) (hm : X.mg x = some (.ref f)) (hk : PySem.W.keepIn X.K (.ref f) = true) (hb : ∀ (s : Shared) (u : Value), BindsTo s fd ⟨[], [(kn, u)]⟩ [(kn, u)]) (hr : Room k X.A) (ha : CE X so W e te fe) (hg : Gl X x := by rfl)
    (hdb : (x == ("__debug__" : Str)) = false := by decide) : CE X so W (.Call (.Name x p) [] [⟨some kn, e, kpos⟩] pos) (tCallSD (spX X.K F) [] (fun σ c x H => W c x σ H) (tCons te tNil)) (dXCall F (dCons fe (ret []))) :=
  ⟨pe_callKW1 G hr hg hm hk hb (fun σ => passAt tk σ) ha.pe hdb, de_xcall (fun β B H σ s Q rr hq => ha.de β B H σ s _ rr ((post_bnd hq).imp (fun d s1 k1 v B1 H1 e1 r1 p1 => k1 _ B1 H1 e1 r1 (.cons p1 .nil)) fun _ _ q => q))⟩
/-- the binding of the one parameter by its name -/
theorem kw_bind {K : PySem.W.Frag} {nm qual : Str} {params : Arguments} {body : List Stmt} {scope : Scope} {f : Addr} {fd : FuncData} (F : FunD K nm qual params body scope [] [] f fd)
    (h : ∀ (kV doc pm : Value) (an : Option Addr) (cdv ct u : Value), bindArgs (PySem.W.fnOf nm qual params body scope .none kV doc pm an cdv ct) ⟨[], [(kn, u)]⟩ = pure [(kn, u)]) (s : Shared) (u : Value) : BindsTo s fd ⟨[], [(kn, u)]⟩ [(kn, u)] := by
  obtain ⟨oc, od, dV, kV, doc, pm, an, cdv, ct, osl, rfl, lk, hcd, hD, hK⟩ := F.ex
  rcases hD with ⟨_, rfl⟩ | ⟨e, _⟩
  · exact .of_eq (h kV doc pm an cdv ct u)
  · exact absurd rfl e
end
section
variable {X : Cx} {p1 p2 p3 p4 p5 p6 p7 p8 p9 p10 p11 p12 p13 p14 : Pos} {j : Nat}
theorem caught_gives2 {x a nf ne e q : Str} {sg : Scope} {g : Addr} {c : Value} {cdg : Value} (hNd : ([a, nf, ne] : List Str).Nodup) (hc : ∀ H s, Names (cxOf C8.CX0 X.prog X.w X.K X.mg X.base [a, nf, ne] x sg g cdg X.A X.stack s H C8.E0).nox e c)
    (h1 : sg.names.lookup nf = some .local) (h2 : sg.names.lookup ne = some .local) (hd1 : (nf == ("__debug__" : Str)) = false) (hd2 : (ne == ("__debug__" : Str)) = false) (hcd1 : (nf == ("__classdict__" : Str)) = false) (hcd2 : (ne == ("__classdict__" : Str)) = false) :
    LamX.GivesTo X [a, nf, ne] x sg g cdg [.Assign [.Name nf p1] (.Constant .none j p2) p3, .Try [.Expr (.Call (.Name a p4) [] [] p5) p6] [.ExceptHandler (some (.Name e p7)) (some ne) [.Assign [.Name nf p8] (.Name ne p9) p10] p11] [] [] p12, .Return (some (.Name nf p13)) p14] a q (TTc X.K c) := by
  intro f c' s H Q tl act hco hT
  refine ⟨_, pss_cons (ps_set hNd (i := 1) rfl (.inl h1) pe_non rfl (.inr h1)) (pss_cons (ps_try_keep (X := (cxOf C8.CX0 X.prog X.w X.K X.mg X.base [a, nf, ne] x sg g cdg X.A X.stack s H C8.E0).nox) (i := 2) (c := c)
      (tb := fun W D σ H => ∃ Ech : XK, (∀ cls d σ' H', Ech cls d H' → W cls d σ' H') ∧ σ[0]? = some (some (.ref f)) ∧ H c' = some (LamX.CodeO c' q) ∧ tl Ech H (fun _ H1 => D.nx σ H1))
      (ts := fun _ _ _ => tAsg (tVar 2) (gName 1)) rfl rfl rfl hNd rfl h2 (hc H s) (fun W pn xe tk _ => ?_) (fun a oe cls d pn _ _ => pss_one (ps_set hNd (i := 1) rfl (.inl h1) (pe_var (i := 2) rfl (.inl h2) hd2 hcd2) rfl (.inr h1)))) (pss_one (ps_ret (pe_var (i := 1) rfl (.inl h1) hd1 hcd1)))), ?_⟩
  · refine pss_one ⟨fun pins s' σ H' D I h' => ?_⟩
    obtain ⟨Ech, hW, g1, g2, g3⟩ := h'
    exact (ps_expr (act W pn xe Ech p4 p5 tk hW)).run pins s' σ H' D I ⟨g1, g2, g3⟩
  · refine ⟨fun cls d H' => PySem.W.exmOne X.K cls c = some true ∧ ∀ a, H' a = none → Q (.ref a) (upd H' a (exH cls d a)), fun cls d σ' H' ⟨e1, e2⟩ => ⟨e1, fun hlen a na => ?_⟩, rfl, hco, ?_⟩
    · have hl : σ'.length = 3 := hlen
      refine ⟨.ref a, by rw [List.getElem?_set_self (by omega)], fun na2 => ⟨.ref a, ?_, e2 a na2⟩⟩
      rw [List.getElem?_set_ne (by decide), List.getElem?_set_self (by rw [List.length_set]; omega)]
    · exact hT
end
end DL
end S_DK1
section S_WL
set_option Elab.async false
set_option linter.all false
set_option autoImplicit false
set_option maxRecDepth 100000
set_option maxHeartbeats 4000000
namespace K12
open PySem PySem.Spec PyProof.Rows L2 DL
section
variable {P : Program} {w : World} {K : PySem.W.Frag} {mg : Str → Option Value} {base : Heap}
-- printed by gen_law.py
def den_lawr (F__law_an_drawn : SF) (F__law_an_written : PF) (F_net_text : XF) (F_read_net : XF) (F__law_an_near_text : SF) (F__law_an_read : PF) (F__law_pick : SF) : M Fl := (fSeq (fFor (dRng1 (dCons (ret (.int 2)) (ret []))) (tgName 2) (fSeq (fSet 3 (dSCall F__law_an_drawn (dStArg 1 (dCons (ret (.int 2)) (dCons (ret (.int 6)) (ret [])))))) (fSeq (fSet 4 (dCall F__law_an_written (dCons (dVar 3) (ret [])))) (fSeq (fIf (dOr (dTest (dOp neR (dXCall F_net_text (dCons (dVar 3) (ret []))) (dVar 4))) (dOr (dTest (dOp neR (dXCall F_net_text (dCons (dVar 3) (ret []))) (dVar 4))) (dTest (dOp neR (dXCall F_read_net (dCons (dVar 4) (ret []))) (dVar 3))))) (fRet (ret (.bl false))) (ret .nx)) (fSeq (fSet 5 (dTup (dCons (dOp ixR (dVar 3) (ret (.int 0))) (dCons (dTup (ret [])) (ret []))))) (fSeq (fIf (dOr (dTest (dOp neR (dXCall F_net_text (dCons (dVar 5) (ret []))) (dCall F__law_an_written (dCons (dVar 5) (ret []))))) (dTest (dOp neR (dXCall F_read_net (dCons (dCall F__law_an_written (dCons (dVar 5) (ret []))) (ret []))) (dVar 5)))) (fRet (ret (.bl false))) (ret .nx)) (fSeq (fFor (dRng1 (dCons (ret (.int 3)) (ret []))) (tgName 6) (fSeq (fSet 7 (dSCall F__law_an_near_text (dStArg 1 (dCons (dVar 4) (ret []))))) (fSeq (fSet 8 (dCall F__law_an_read (dCons (dVar 7) (ret [])))) (fSeq (fSet 9 (dCaught F_read_net ["BadText"] (dCons (dVar 7) (ret [])))) (fSeq (fIf (dAnd (dTest (dIsi "int" (dVar 8))) (dOr (dNot (dTest (dIsT ["BadText"] (dVar 9)))) (dTest (dOp neR (dRdX "BadText" "line" (dVar 9)) (dVar 8))))) (fRet (ret (.bl false))) (ret .nx)) (fIf (dAnd (dNot (dTest (dIsi "int" (dVar 8)))) (dOr (dTest (dOp notNR (dVar 9) (ret .non))) (dTest (dOp neR (dXCall F_read_net (dCons (dVar 7) (ret []))) (dVar 8))))) (fRet (ret (.bl false))) (ret .nx))))))) (fSeq (fSet 10 (dSCall F__law_pick (dStArg 1 (dCons (dFrz (dLst (dCons (ret (.str "")) (dCons (ret .non) (dCons (ret (.int 5)) (dCons (ret (.bl true)) (dCons (dFrz (dLst (dCons (dVar 4) (ret [])))) (dCons (dTup (dCons (dVar 4) (ret []))) (dCons (ret (.str "\n")) (dCons (ret (.str "taps a")) (dCons (ret (.str "taps a b")) (dCons (dVar 3) (ret []))))))))))))) (ret []))))) (fSeq (fSet 9 (dCaught F_read_net ["BadText"] (dCons (dVar 10) (ret [])))) (fSeq (fIf (dOr (dNot (dTest (dIsT ["BadText"] (dVar 9)))) (dOr (dTest (dOp neR (dRdX "BadText" "line" (dVar 9)) (ret (.int 1)))) (dNot (dTest (dIsT ["BadText"] (dVar 9)))))) (fRet (ret (.bl false))) (ret .nx)) (fIf (dNot (dTest (dIsT ["BadNet"] (dCaught F_net_text ["BadNet"] (dCons (dVar 4) (ret [])))))) (fRet (ret (.bl false))) (ret .nx)))))))))))) (fRet (ret (.bl true))))
abbrev Nlaw : List Str := ["_law_script", "_law_state", "_law_lap", "_law_net_here", "_law_told", "_law_empty", "_law_turn", "_law_near_here", "_law_due", "_law_caught_here", "_law_odd"]
theorem sc_law : FnScope Nlaw ["_law_script"] (defScope (top 72)) := ⟨rfl, rfl, rfl, by decide +kernel, rfl, by decide +kernel, by decide +kernel⟩
theorem sc__law_caught : FnScope ["_law_action", "_law_found", "error"] ["_law_action"] (defScope (top 44)) := ⟨rfl, rfl, rfl, by decide +kernel, rfl, by decide +kernel, by decide +kernel⟩
theorem kit_self {K : PySem.W.Frag} (n : Str) : ∀ m ∈ [n], PySem.W.kitOne K (.ref (He.ga K m)) (.ref (He.ga K n)) = some true := fun m hm => by
  rw [List.mem_singleton.mp hm]
  unfold PySem.W.kitOne
  rw [if_pos (by simp)]
abbrev qLam : Str := "law.<locals>.<lambda>"
abbrev Xlaw (P : Program) (w : World) (K : PySem.W.Frag) (mg : Str → Option Value) (base : Heap) (f cL : Addr) (A : Around) (outer : List Env) (s : Shared) (H : Hp) (E : XK) : Cx := cxOf (L2.CX P w) P w K mg base Nlaw "law" (defScope (top 72)) f (.ref cL) A outer s H E
theorem hG_law {P : Program} {w : World} {K : PySem.W.Frag} {mg : Str → Option Value} {base : Heap} (g_TapError : mg "TapError" = some (.ref (He.ga K "TapError"))) (f cL g : Addr) (cdg : Value) (A : Around) (outer : List Env) (s : Shared) (H : Hp) (E : XK) :
    LamX.GivesTo (Xlaw P w K mg base f cL A outer s H E) ["_law_action", "_law_found", "error"] "_law_caught" (defScope (top 44)) g cdg (defBody (top 44)) "_law_action" qLam (TTc K (.ref (He.ga K "TapError"))) :=
  caught_gives2 (X := Xlaw P w K mg base f cL A outer s H E) (x := "_law_caught") (a := "_law_action") (nf := "_law_found") (ne := "error") (e := "TapError") (q := qLam) (sg := defScope (top 44)) (g := g) (c := .ref (He.ga K "TapError")) (cdg := cdg) (by decide) (fun H s => ⟨by rfl, by rfl, .inl g_TapError⟩) rfl rfl rfl rfl rfl rfl
theorem cs_law  (b_range : mg "range" = none) {F__law_an_drawn : SF} (o__law_an_drawn : OkS P w K mg base "_law_an_drawn" 8 ["_law_state", "_law_least", "_law_most"] F__law_an_drawn) {F__law_an_written : PF} (o__law_an_written : OkP P w K mg base "_law_an_written" 2 ["_law_net_here"] F__law_an_written) {F_net_text : XF} (o_net_text : OkX P w K mg base "net_text" 7 ["net"] F_net_text) {F_read_net : XF} (o_read_net : OkX P w K mg base "read_net" 6 ["text"] F_read_net) {F__law_an_near_text : SF} (o__law_an_near_text : OkS P w K mg base "_law_an_near_text" 4 ["_law_state", "_law_told"] F__law_an_near_text) {F__law_an_read : PF} (o__law_an_read : OkP P w K mg base "_law_an_read" 6 ["_law_told"] F__law_an_read) (b_isinstance : mg "isinstance" = none) (b_int : mg "int" = none) {F__law_pick : SF} (o__law_pick : OkS P w K mg base "_law_pick" 3 ["_law_state", "_law_some"] F__law_pick) (b_ValueError : mg "ValueError" = none) (kb_net_text : ∀ (s : Shared) (u : Value), BindsTo s o_net_text.fd ⟨[], [("net", u)]⟩ [("net", u)]) (kb_read_net : ∀ (s : Shared) (u : Value), BindsTo s o_read_net.fd ⟨[], [("text", u)]⟩ [("text", u)]) (exm_BadText : ∀ n ∈ (["BadText"] : List Str), PySem.W.exmOne K (.ref (He.ga K n)) (.ref (He.ga K "TapError")) = some true) (g_BadText : mg "BadText" = some (.ref (He.ga K "BadText"))) (xf_BadText : XfC K (He.ga K "BadText")) (no_BadText : PySem.W.findIn K (.ref (He.ga K "BadText")) "line" = some none) (kit_BadText_V : ∀ n ∈ (["BadText"] : List Str), PySem.W.kitOne K (.ref (He.ga K n)) (.type "ValueError") = some true) (exm_BadNet : ∀ n ∈ (["BadNet"] : List Str), PySem.W.exmOne K (.ref (He.ga K n)) (.ref (He.ga K "TapError")) = some true) (g_BadNet : mg "BadNet" = some (.ref (He.ga K "BadNet"))) (g_TapError : mg "TapError" = some (.ref (He.ga K "TapError"))) (a_cau : At K mg "_law_caught" (defArgs (top 44)) (defBody (top 44)) (defScope (top 44))) {p a c cL Pt f : Addr} {A : Around} {outer : List Env} {s : Shared} {H : Hp} {E : XK} (TB : LamX.TabB base mg cL Pt) (hr : Room 9 (A.deeper (envOfC "law" (defScope (top 72)) s.heap.objs.size f (.ref cL)))) :
    ∃ t, CSs (Xlaw P w K mg base f cL A outer s H E) (some (p, a, c, [(Pt, qLam)])) (wOut E) (defBody (top 72)).tail t (den_lawr F__law_an_drawn F__law_an_written F_net_text F_read_net F__law_an_near_text F__law_an_read F__law_pick) := by
  have hN := sc_law.nd
  have hu := hr.units
  have huT : ∀ q ∈ [(Pt, qLam)], q.1 = Pt → q.2 = qLam := fun q hq _ => by rw [List.mem_singleton.mp hq]
  have hG_cau := fun g cdg => hG_law (P := P) (w := w) (base := base) g_TapError f cL g cdg A outer s H E
  have b_cau := a_cau.f.bindsN (ps := ["_law_action"]) fun _ _ _ _ _ _ us hl => match us, hl with | [_], _ => rfl
  obtain ⟨oc, od, dV, kV, doc, pm, an, cdg, ct, osl, efd, lk_cau, hcd_cau, _, _⟩ := a_cau.f.ex
  rw [efd] at lk_cau b_cau
  replace hG_cau := hG_cau (He.ga K "_law_caught") cdg
  exact ⟨_, (cs_cons (cs_for (passes_of rfl) (by rfl) (ci_rng1 (by rfl) b_range (ca_cons ce_int ca_nil)) (cg_name hN (i := 2)) (cs_cons (cs_set hN (i := 3) (ce_scall (i := 1) o__law_an_drawn.ok o__law_an_drawn.mg o__law_an_drawn.kp o__law_an_drawn.b (hr.mono (by decide)) (ca_cons ce_int (ca_cons ce_int ca_nil))))
    (cs_cons (cs_set hN (i := 4) (ce_call o__law_an_written.ok o__law_an_written.mg o__law_an_written.kp o__law_an_written.b (hr.mono (by decide)) (ca_cons (ce_var (i := 3)) ca_nil)))
    (cs_cons (cs_if ((cw_or (ct_cmp (op_neA hu) dr_ne (ce_xcall takes_fn o_net_text.ok o_net_text.mg o_net_text.kp o_net_text.b (hr.mono (by decide)) (ca_cons (ce_var (i := 3)) ca_nil)) (ce_var (i := 4)) (by rfl)) (cw_or (ct_cmp (op_neA hu) dr_ne (ce_xcallK takes_fn o_net_text.ok o_net_text.mg o_net_text.kp kb_net_text (hr.mono (by decide)) (ce_var (i := 3))) (ce_var (i := 4)) (by rfl)) (cw_or1 (ct_cmp (op_neA hu) dr_ne (ce_xcallK takes_fn o_read_net.ok o_read_net.mg o_read_net.kp kb_read_net (hr.mono (by decide)) (ce_var (i := 4))) (ce_var (i := 3)) (by rfl)))))).ct (cs_one (cs_ret ce_bl)) cs_nil)
    (cs_cons (cs_set hN (i := 5) (ce_tup (ca_cons (ce_ix (ce_var (i := 3)) ce_int) (ca_cons (ce_tup ca_nil) ca_nil))))
    (cs_cons (cs_if ((cw_or (ct_cmp (op_neA hu) dr_ne (ce_xcall takes_fn o_net_text.ok o_net_text.mg o_net_text.kp o_net_text.b (hr.mono (by decide)) (ca_cons (ce_var (i := 5)) ca_nil)) (ce_call o__law_an_written.ok o__law_an_written.mg o__law_an_written.kp o__law_an_written.b (hr.mono (by decide)) (ca_cons (ce_var (i := 5)) ca_nil)) (by rfl)) (cw_or1 (ct_cmp (op_neA hu) dr_ne (ce_xcall takes_fn o_read_net.ok o_read_net.mg o_read_net.kp o_read_net.b (hr.mono (by decide)) (ca_cons (ce_call o__law_an_written.ok o__law_an_written.mg o__law_an_written.kp o__law_an_written.b (hr.mono (by decide)) (ca_cons (ce_var (i := 5)) ca_nil)) ca_nil)) (ce_var (i := 5)) (by rfl))))).ct (cs_one (cs_ret ce_bl)) cs_nil)
    (cs_cons (cs_for (passes_of rfl) (by rfl) (ci_rng1 (by rfl) b_range (ca_cons ce_int ca_nil)) (cg_name hN (i := 6)) (cs_cons (cs_set hN (i := 7) (ce_scall (i := 1) o__law_an_near_text.ok o__law_an_near_text.mg o__law_an_near_text.kp o__law_an_near_text.b (hr.mono (by decide)) (ca_cons (ce_var (i := 4)) ca_nil)))
    (cs_cons (cs_set hN (i := 8) (ce_call o__law_an_read.ok o__law_an_read.mg o__law_an_read.kp o__law_an_read.b (hr.mono (by decide)) (ca_cons (ce_var (i := 7)) ca_nil)))
    (cs_cons (cs_set hN (i := 9) (ce_caught (en := "TapError") (ns := ["BadText"]) (k := 6) ⟨_, _, _, rfl⟩ exm_BadText (by rfl) a_cau.mg a_cau.f.kp lk_cau hcd_cau b_cau sc__law_caught (.inl rfl) hG_cau TB rfl (List.mem_singleton.mpr rfl) huT (hr.mono (by decide)) (LamX.lamS_by (by show LamX.lamSB (defScope (top 72)) _ = true; decide +kernel)) (by rfl) (by intros; rfl) o_read_net.ok o_read_net.mg o_read_net.kp o_read_net.b (by rfl) (fun A outer s H E f c' => ca_cons (ce_var (i := 7)) ca_nil) (noEx_cons (noEx_var _) (noEx_ret _))))
    (cs_cons (cs_if ((cw_and (ct_val (ce_isi (f := "int") tab_int (ce_var (i := 8)) (by rfl) b_isinstance (by rfl) b_int rfl)) (cw_and1 ((cw_or (ct_not (ct_val (ce_isT (cv := .ref (He.ga K "BadText")) (cu := .ref (He.ga K "BadText")) ["BadText"] (kit_self _) (.own _) (ce_var (i := 9)) (pe_glob (u := .ref (He.ga K "BadText")) (by rfl) g_BadText rfl) (by rfl) b_isinstance))) (cw_or1 (ct_cmp (op_neA hu) dr_ne (ce_rdX (n := "BadText") (k := "line") xf_BadText no_BadText (ce_var (i := 9))) (ce_var (i := 8)) (by rfl))))).ct))).ct (cs_one (cs_ret ce_bl)) cs_nil)
    (cs_one (cs_if ((cw_and (ct_not (ct_val (ce_isi (f := "int") tab_int (ce_var (i := 8)) (by rfl) b_isinstance (by rfl) b_int rfl))) (cw_and1 ((cw_or (ct_cmp op_notN1 dr_notN (ce_var (i := 9)) ce_non (by rfl)) (cw_or1 (ct_cmp (op_neA hu) dr_ne (ce_xcall takes_fn o_read_net.ok o_read_net.mg o_read_net.kp o_read_net.b (hr.mono (by decide)) (ca_cons (ce_var (i := 7)) ca_nil)) (ce_var (i := 8)) (by rfl))))).ct))).ct (cs_one (cs_ret ce_bl)) cs_nil)))))))
    (cs_cons (cs_set hN (i := 10) (ce_scall (i := 1) o__law_pick.ok o__law_pick.mg o__law_pick.kp o__law_pick.b (hr.mono (by decide)) (ca_cons ((cn_lst (ca_cons ce_str (ca_cons ce_non (ca_cons ce_int (ca_cons ce_bl (ca_cons ((cn_lst (ca_cons (ce_var (i := 4)) ca_nil))).ce (ca_cons (ce_tup (ca_cons (ce_var (i := 4)) ca_nil)) (ca_cons ce_str (ca_cons ce_str (ca_cons ce_str (ca_cons (ce_var (i := 3)) ca_nil)))))))))))).ce ca_nil)))
    (cs_cons (cs_set hN (i := 9) (ce_caught (en := "TapError") (ns := ["BadText"]) (k := 6) ⟨_, _, _, rfl⟩ exm_BadText (by rfl) a_cau.mg a_cau.f.kp lk_cau hcd_cau b_cau sc__law_caught (.inl rfl) hG_cau TB rfl (List.mem_singleton.mpr rfl) huT (hr.mono (by decide)) (LamX.lamS_by (by show LamX.lamSB (defScope (top 72)) _ = true; decide +kernel)) (by rfl) (by intros; rfl) o_read_net.ok o_read_net.mg o_read_net.kp o_read_net.b (by rfl) (fun A outer s H E f c' => ca_cons (ce_var (i := 10)) ca_nil) (noEx_cons (noEx_var _) (noEx_ret _))))
    (cs_cons (cs_if ((cw_or (ct_not (ct_val (ce_isT (cv := .ref (He.ga K "BadText")) (cu := .ref (He.ga K "BadText")) ["BadText"] (kit_self _) (.own _) (ce_var (i := 9)) (pe_glob (u := .ref (He.ga K "BadText")) (by rfl) g_BadText rfl) (by rfl) b_isinstance))) (cw_or (ct_cmp (op_neA hu) dr_ne (ce_rdX (n := "BadText") (k := "line") xf_BadText no_BadText (ce_var (i := 9))) ce_int (by rfl)) (cw_or1 (ct_not (ct_val (ce_isT (cv := .ty "ValueError") (cu := .type "ValueError") ["BadText"] kit_BadText_V (.ty _) (ce_var (i := 9)) (pe_bltn (by rfl) b_ValueError (by rfl) rfl) (by rfl) b_isinstance))))))).ct (cs_one (cs_ret ce_bl)) cs_nil)
    (cs_one (cs_if (ct_not (ct_val (ce_isT (cv := .ref (He.ga K "BadNet")) (cu := .ref (He.ga K "BadNet")) ["BadNet"] (kit_self _) (.own _) (ce_caught (en := "TapError") (ns := ["BadNet"]) (k := 7) ⟨_, _, _, rfl⟩ exm_BadNet (by rfl) a_cau.mg a_cau.f.kp lk_cau hcd_cau b_cau sc__law_caught (.inl rfl) hG_cau TB rfl (List.mem_singleton.mpr rfl) huT (hr.mono (by decide)) (LamX.lamS_by (by show LamX.lamSB (defScope (top 72)) _ = true; decide +kernel)) (by rfl) (by intros; rfl) o_net_text.ok o_net_text.mg o_net_text.kp o_net_text.b (by rfl) (fun A outer s H E f c' => ca_cons (ce_var (i := 4)) ca_nil) (noEx_cons (noEx_var _) (noEx_ret _))) (pe_glob (u := .ref (He.ga K "BadNet")) (by rfl) g_BadNet rfl) (by rfl) b_isinstance))) (cs_one (cs_ret ce_bl)) cs_nil))))))))))))
    (cs_one (cs_ret ce_bl)))⟩
end
end K12
end S_WL
section S_EV1
set_option Elab.async false
set_option linter.all false
set_option autoImplicit false
set_option maxRecDepth 100000
set_option maxHeartbeats 4000000
/-! EV1: what the words of a denotation make of a state, as equations. -/
namespace DL
open PySem PySem.Spec PyProof.Rows L2
section
variable {α β : Type} {s : FS} {ρ : List Sl} {ds : DSt}
theorem e_bind (f : M α) (g : α → M β) : (f >>= g) s = (match f s with | .ok a s' => g a s' | .ex e s' => .ex e s' | .stuck => .stuck) := by
  show bnd f g s = _
  unfold bnd
  cases f s <;> rfl
theorem e_ret (a : α) : ret a s = .ok a s := rfl
theorem e_pure (a : α) : (pure a : M α) s = .ok a s := rfl
theorem e_some (a : α) : lift (some a) s = .ok a s := rfl
theorem e_none : lift (none : Option α) s = .stuck := rfl
theorem e_stk : (stk : M α) s = .stuck := rfl
theorem e_var {i : Nat} {d : D} (h : s.ρ[i]? = some (.fz d)) : dVar i s = .ok d s := by unfold dVar; rw [h]
theorem e_put (i : Nat) (x : Sl) : putSl i x s = .ok .nx { s with ρ := s.ρ.set i x } := rfl
theorem atI_0 {α : Type} (a : α) (l : List α) : atI (a :: l) 0 = some a := by
  unfold atI ixN
  simp
theorem atI_1 {α : Type} (a b : α) (l : List α) : atI (a :: b :: l) 1 = some b := by
  unfold atI ixN
  simp
  rw [if_pos (by omega)]; rfl
theorem e_wipe (vs : List Nat) : wipeM vs s = .ok () { s with ρ := wipeR s.ρ vs } := rfl
theorem e_tgo {g : TgF} {d : D} {s' : FS} (h : g d s = some s') : tgo g d s = .ok () s' := by unfold tgo; rw [h]
theorem e_if {b : Bool} {f g : M α} : (if b = true then f else g) s = if b = true then f s else g s := by cases b <;> rfl
theorem compD_eval {fg : TgF} {ft : M Bool} {fe : M D} {vs : List Nat} {p : D → Bool} {g : D → D} : ∀ (l : List D), wipeR s.ρ vs = s.ρ →
    (∀ d ∈ l, ∃ s2, fg d s = some s2 ∧ ft s2 = .ok (p d) s2 ∧ (p d = true → fe s2 = .ok (g d) s2) ∧ s2.ds = s.ds ∧ wipeR s2.ρ vs = s.ρ) → compD fg ft fe vs l s = .ok ((l.filter p).map g) s
  | [], _, _ => rfl
  | d :: l, hw, h => by
    obtain ⟨s2, h1, h2, h3, h4, h5⟩ := h d List.mem_cons_self
    have ih := compD_eval l hw fun e he => h e (List.mem_cons_of_mem _ he)
    have es : ({ s2 with ρ := wipeR s2.ρ vs } : FS) = s := by
      obtain ⟨r2, d2⟩ := s2
      obtain ⟨r, d0⟩ := s
      simp only at h4 h5 ⊢
      rw [h5, h4]
    unfold compD
    rw [e_bind, e_tgo h1]
    simp only []
    rw [e_bind, h2]
    simp only []
    cases hp : p d with
    | true =>
      simp only [if_true]
      rw [e_bind, h3 hp]
      simp only []
      rw [e_bind, e_wipe, es]
      simp only []
      rw [e_bind, ih]
      simp [hp, e_ret]
    | false =>
      simp only [Bool.false_eq_true, if_false]
      rw [e_bind, e_wipe, es]
      simp only []
      rw [ih]
      simp [hp]
theorem e_comp {fi : M (List D)} {fg : TgF} {ft : M Bool} {fe : M D} {vs : List Nat} {s1 : FS} {l : List D} (p : D → Bool) (g : D → D) (hi : fi s = .ok l s1) (hw : wipeR s1.ρ vs = s1.ρ)
    (h : ∀ d ∈ l, ∃ s2, fg d s1 = some s2 ∧ ft s2 = .ok (p d) s2 ∧ (p d = true → fe s2 = .ok (g d) s2) ∧ s2.ds = s1.ds ∧ wipeR s2.ρ vs = s1.ρ) : dComp fi fg ft fe vs s = .ok ((l.filter p).map g) s1 := by
  unfold dComp
  have es : ({ s1 with ρ := wipeR s1.ρ vs } : FS) = s1 := by rw [hw]
  rw [e_bind, hi]
  simp only []
  rw [e_bind, e_wipe, es]
  simp only []
  rw [e_bind, compD_eval l hw h]
  simp only []
  rw [e_bind, e_wipe, es]
  rfl
end
end DL
end S_EV1
section S_EV2
set_option Elab.async false
set_option linter.all false
set_option autoImplicit false
set_option maxRecDepth 100000
set_option maxHeartbeats 4000000
/-! EV2: data that can be compared, texts and lists. -/
namespace DL
open PySem PySem.Spec PyProof.Rows L2
def D.lay (d : D) : Bool := d.pd.canLay0
def D.dep (d : D) : Nat := d.pd.depth
theorem ok_iff (d : D) : d.ok = (d.lay && decide (d.dep ≤ 64)) := rfl
theorem pds_map : ∀ l : List D, D.pds l = l.map D.pd
  | [] => rfl
  | d :: l => by unfold D.pds; rw [pds_map l]; rfl
theorem lay_lst (l : List D) : (D.lst l).lay = l.all D.lay := by
  show PyData.canLay0 (.list (D.pds l)) = _
  unfold PyData.canLay0
  induction l with
  | nil => rfl
  | cons d l ih => unfold D.pds PyData.canLayAll0; rw [ih]; rfl
theorem lay_tup (l : List D) : (D.tup l).lay = l.all D.lay := by
  show PyData.canLay0 (.tuple (D.pds l)) = _
  unfold PyData.canLay0
  induction l with
  | nil => rfl
  | cons d l ih => unfold D.pds PyData.canLayAll0; rw [ih]; rfl
theorem dep_lst_le {l : List D} {n : Nat} (h : ∀ d ∈ l, d.dep ≤ n) : (D.lst l).dep ≤ n + 1 := by
  show PyData.depth (.list (D.pds l)) ≤ _
  unfold PyData.depth
  have : PyData.depthAll (D.pds l) ≤ n := by
    induction l with
    | nil => unfold D.pds PyData.depthAll; omega
    | cons d l ih =>
      unfold D.pds PyData.depthAll
      have := h d List.mem_cons_self
      have := ih fun e he => h e (List.mem_cons_of_mem _ he)
      show max d.dep _ ≤ n
      omega
  omega
theorem dep_tup_le {l : List D} {n : Nat} (h : ∀ d ∈ l, d.dep ≤ n) : (D.tup l).dep ≤ n + 1 := by
  show PyData.depth (.tuple (D.pds l)) ≤ _
  unfold PyData.depth
  have : PyData.depthAll (D.pds l) ≤ n := by
    induction l with
    | nil => unfold D.pds PyData.depthAll; omega
    | cons d l ih =>
      unfold D.pds PyData.depthAll
      have := h d List.mem_cons_self
      have := ih fun e he => h e (List.mem_cons_of_mem _ he)
      show max d.dep _ ≤ n
      omega
  omega
theorem dep_str (x : Str) : (D.str x).dep = 0 := rfl
theorem dep_int (x : Int) : (D.int x).dep = 0 := rfl
theorem eqvAll_nil (l : List D) : PyData.eqv (.list (D.pds l)) (.list []) = l.isEmpty := by
  cases l <;> rfl
/-- a list against [] -/
theorem eqR_nil {l : List D} (h : (D.lst l).ok = true) : eqR (.lst l) (.lst []) = some (.bl l.isEmpty) := by
  unfold eqR eqD
  have h0 : (D.lst []).ok = true := by rfl
  simp only [h, h0, Bool.and_self, if_true, Option.map_some]
  congr 2
  exact eqvAll_nil l
theorem neR_nil {l : List D} (h : (D.lst l).ok = true) : neR (.lst l) (.lst []) = some (.bl (!l.isEmpty)) := by
  unfold neR eqD
  have h0 : (D.lst []).ok = true := by rfl
  simp only [h, h0, Bool.and_self, if_true, Option.map_some]
  congr 3
  exact eqvAll_nil l
theorem ok_strs {l : List D} (h : ∀ d ∈ l, ∃ x, d = .str x ∧ (D.str x).lay = true) : (D.lst l).ok = true := by
  rw [ok_iff, lay_lst]
  rw [Bool.and_eq_true]
  refine ⟨List.all_eq_true.mpr fun d hd => ?_, decide_eq_true ?_⟩
  · obtain ⟨x, rfl, q⟩ := h d hd; exact q
  · have := dep_lst_le (l := l) (n := 0) fun d hd => by obtain ⟨x, rfl, q⟩ := h d hd; exact Nat.le_refl _
    omega
end DL
end S_EV2
section S_EV3
set_option Elab.async false
set_option linter.all false
set_option autoImplicit false
set_option maxRecDepth 100000
set_option maxHeartbeats 4000000
/-! EV3: the words of a denotation, one evaluation rule each. -/
namespace DL
open PySem PySem.Spec PyProof.Rows L2
section
variable {α β : Type} {s s1 s2 s3 : FS} {x y z d : D} {a b c : Bool} {l : List D}
theorem b_ok {f : M α} {g : α → M β} {v : α} {r : Res β} (h : f s = .ok v s1) (k : g v s1 = r) : (f >>= g) s = r := by rw [e_bind, h]; exact k
theorem b_ex {f : M α} {g : α → M β} {e : D} (h : f s = .ex e s1) : (f >>= g) s = .ex e s1 := by rw [e_bind, h]
theorem v_int {i : Int} : (ret (.int i) : M D) s = .ok (.int i) s := rfl
theorem v_fz {i : Nat} (h : s.ρ[i]? = some (.fz d)) : dVar i s = .ok d s := e_var h
theorem v_op {g : D → D → Option D} {fa fb : M D} (ha : fa s = .ok x s1) (hb : fb s1 = .ok y s2) (h : g x y = some z) : dOp g fa fb s = .ok z s2 := b_ok ha (b_ok hb (by rw [h]; rfl))
theorem v_test {f : M D} (h : f s = .ok (.bl b) s1) : dTest f s = .ok b s1 := b_ok h rfl
theorem v_not {f : M Bool} (h : f s = .ok b s1) : dNot f s = .ok (!b) s1 := b_ok h rfl
theorem v_or_t {f g : M Bool} (h : f s = .ok true s1) : dOr f g s = .ok true s1 := b_ok h rfl
theorem v_or_f {f g : M Bool} (h : f s = .ok false s1) (k : g s1 = .ok b s2) : dOr f g s = .ok b s2 := b_ok h k
theorem v_and_f {f g : M Bool} (h : f s = .ok false s1) : dAnd f g s = .ok false s1 := b_ok h rfl
theorem v_and_t {f g : M Bool} (h : f s = .ok true s1) (k : g s1 = .ok b s2) : dAnd f g s = .ok b s2 := b_ok h k
theorem v_if_t {p : M Bool} {f g : M α} {r : Res α} (h : p s = .ok true s1) (k : f s1 = r) : dIf p f g s = r := b_ok h k
theorem v_if_f {p : M Bool} {f g : M α} {r : Res α} (h : p s = .ok false s1) (k : g s1 = r) : dIf p f g s = r := b_ok h k
theorem f_if_t {p : M Bool} {f g : M Fl} {r : Res Fl} (h : p s = .ok true s1) (k : f s1 = r) : fIf p f g s = r := b_ok h k
theorem f_if_f {p : M Bool} {f g : M Fl} {r : Res Fl} (h : p s = .ok false s1) (k : g s1 = r) : fIf p f g s = r := b_ok h k
theorem f_seq {f g : M Fl} {r : Res Fl} (h : f s = .ok .nx s1) (k : g s1 = r) : fSeq f g s = r := b_ok h k
theorem f_seq_rt {f g : M Fl} (h : f s = .ok (.rt d) s1) : fSeq f g s = .ok (.rt d) s1 := b_ok h rfl
theorem f_ret {f : M D} (h : f s = .ok d s1) : fRet f s = .ok (.rt d) s1 := b_ok h rfl
theorem f_set {i : Nat} {f : M D} (h : f s = .ok d s1) : fSet i f s = .ok .nx { s1 with ρ := s1.ρ.set i (.fz d) } := b_ok h rfl
theorem v_isi {T : String} {f : M D} (h : f s = .ok d s1) (k : isiB T d = some b) : dIsi T f s = .ok (.bl b) s1 := b_ok h (by rw [k]; rfl)
theorem v_nil : (ret [] : M (List D)) s = .ok [] s := rfl
theorem v_cons {f : M D} {g : M (List D)} (h : f s = .ok x s1) (k : g s1 = .ok l s2) : dCons f g s = .ok (x :: l) s2 := b_ok h (b_ok k rfl)
theorem v_one {f : M D} (h : f s = .ok x s1) : dCons f (ret []) s = .ok [x] s1 := v_cons h rfl
theorem v_call {g : List D → Option D} {f : M (List D)} (h : f s = .ok l s1) (k : g l = some z) : dCall g f s = .ok z s1 := b_ok h (by rw [k]; rfl)
theorem v_callL {g : List D → Option (List D)} {f : M (List D)} {r : List D} (h : f s = .ok l s1) (k : g l = some r) : dCallL g f s = .ok r s1 := b_ok h (by rw [k]; rfl)
theorem v_frz {f : M (List D)} (h : f s = .ok l s1) : dFrz f s = .ok (.lst l) s1 := b_ok h rfl
theorem v_lst {f : M (List D)} (h : f s = .ok l s1) (k : l.length ≤ sizeLine) : dLst f s = .ok l s1 := b_ok h (by
  show (if l.length ≤ sizeLine then ret l else stk) s1 = _
  rw [if_pos k]; rfl)
theorem v_nils : dFrz (dLst (ret [])) s = .ok (.lst []) s := v_frz (v_lst v_nil (Nat.zero_le _))
theorem v_chain_f {g g' : D → D → Option D} {fa fb fc : M D} (ha : fa s = .ok x s1) (hb : fb s1 = .ok y s2) (h : g x y = some (.bl false)) : dChain g g' fa fb fc s = .ok (.bl false) s2 := b_ok ha (b_ok hb (by rw [h]; rfl))
theorem v_chain_t {w : D} {g g' : D → D → Option D} {fa fb fc : M D} (ha : fa s = .ok x s1) (hb : fb s1 = .ok y s2) (h : g x y = some (.bl true)) (hc : fc s2 = .ok w s3) (k : g' y w = some z) : dChain g g' fa fb fc s = .ok z s3 := b_ok ha (b_ok hb (by
  rw [h]
  exact b_ok (v := (.bl true : D)) rfl (b_ok (v := true) rfl (b_ok hc (by rw [k]; rfl)))))
theorem v_andV_f {f g : M D} (h : f s = .ok (.bl false) s1) : dAndV f g s = .ok (.bl false) s1 := b_ok h rfl
theorem v_andV_t {f g : M D} {r : Res D} (h : f s = .ok (.bl true) s1) (k : g s1 = r) : dAndV f g s = r := b_ok h k
theorem v_notV {f : M D} (h : f s = .ok (.bl b) s1) : dNotV f s = .ok (.bl (!b)) s1 := b_ok h rfl
theorem v_tup {f : M (List D)} (h : f s = .ok l s1) (k : l.length ≤ sizeLine) : dTup f s = .ok (.tup l) s1 := b_ok h (by
  show ((if l.length ≤ sizeLine then ret (D.tup l) else stk : M D)) s1 = _
  rw [if_pos k]; rfl)
theorem run_rt {n : Nat} {f : M Fl} {ds : List D} (h : f ⟨entry n ds, st0⟩ = .ok (.rt d) s1) : runP n f ds = some d := by unfold runP; rw [h]
theorem wrap_rt {m n : Nat} {f : M Fl} {ds : List D} (hl : ds.length = m) (h : f ⟨entry n ds, st0⟩ = .ok (.rt d) s1) : wrapP m n f ds = some d := by unfold wrapP; rw [if_pos hl]; exact run_rt h
theorem len_str {x : Str} (h : x.length ≤ sizeLine) : lenR [.str x] = some (.int (x.length : Nat)) := by
  show (lenD (.str x)).map _ = _
  unfold lenD
  simp only []
  rw [if_pos h]; rfl
theorem len_tup (l : List D) : lenR [.tup l] = some (.int (l.length : Nat)) := rfl
theorem len_lst (l : List D) : lenR [.lst l] = some (.int (l.length : Nat)) := rfl
theorem v_itS {f : M D} {x : Str} (h : f s = .ok (.str x) s1) (k : x.length ≤ sizeLine) : dItS f s = .ok (chD x) s1 := b_ok h (b_ok (v := x) rfl (by
  show (if x.length ≤ sizeLine then ret (chD x) else stk) s1 = _
  rw [if_pos k]; rfl))
theorem v_itT {f : M D} (h : f s = .ok (.tup l) s1) : dItT f s = .ok l s1 := b_ok h rfl
theorem v_itL {f : M D} (h : f s = .ok (.lst l) s1) : dItL f s = .ok l s1 := b_ok h rfl
end
end DL
end S_EV3
section S_E2
set_option Elab.async false
set_option linter.all false
set_option autoImplicit false
set_option maxRecDepth 100000
set_option maxHeartbeats 4000000
namespace K12
open PySem PySem.Spec PyProof.Rows L2 DL
abbrev LET : Str := "abcdefghijklmnopqrstuvwxyz"
abbrev DIG : Str := "0123456789"
def chIn (z : Str) (c : Nat) : Bool := decide (c ∈ z.cps.toList)
abbrev LD : Str := "abcdefghijklmnopqrstuvwxyz0123456789"
theorem ld_is : addR (.str LET) (.str DIG) = some (.str LD) := by
  unfold addR
  simp only []
  rw [if_pos (by decide +kernel)]
  rfl
/-- the first sign -/
def hd0 (x : Str) : Nat := x.cps.getD 0 0
def nameS (x : Str) : Bool := decide (1 ≤ x.length) && decide (x.length ≤ 8) && chIn LET (hd0 x) && x.cps.toList.all (chIn LD)
def okS (x : Str) : Bool := (D.str x).lay && decide (x.length ≤ sizeLine)
def noStr : D → Bool
  | .non | .bl _ | .int _ | .tup _ | .lst _ => true
  | _ => false
def F_is_name : PF := fun ds => match ds with
  | [.str x] => if okS x = true then some (.bl (nameS x)) else none
  | [d] => if noStr d then some (.bl false) else none
  | _ => none
def badC (z : Str) : D → Bool
  | .str y => !chIn z (hd0 y)
  | _ => false
theorem bad_empty (z x : Str) : ((chD x).filter (badC z)).isEmpty = x.cps.toList.all (chIn z) := by
  unfold chD
  rw [List.filter_map]
  induction x.cps.toList with
  | nil => rfl
  | cons c l ih =>
    cases hh : chIn z c with
    | true =>
      have hb : (badC z ∘ fun c => D.str ⟨#[c]⟩) c = false := by show (!chIn z c) = false; rw [hh]; rfl
      rw [List.filter_cons, hb, List.all_cons, hh]
      exact ih
    | false =>
      have hb : (badC z ∘ fun c => D.str ⟨#[c]⟩) c = true := by show (!chIn z c) = true; rw [hh]; rfl
      rw [List.filter_cons, hb, List.all_cons, hh]
      rfl
theorem inD_ch (c : Nat) (z : Str) : inD (.str ⟨#[c]⟩) (.str z) = some (chIn z c) := by
  unfold inD chIn
  simp
theorem lay_str (x : Str) : (D.str x).lay = x.cps.all (· < 0x110000) := rfl
theorem lay_ch {x : Str} (h : (D.str x).lay = true) {c : Nat} (hc : c ∈ x.cps.toList) : (D.str ⟨#[c]⟩).lay = true := by
  rw [lay_str] at h ⊢
  rw [Array.all_eq_true'] at h
  have := h c (Array.mem_toList_iff.mp hc)
  simpa using this
theorem ix0 {x : Str} (h1 : 1 ≤ x.length) (h : x.length ≤ sizeLine) : ixR (.str x) (.int 0) = some (.str ⟨#[hd0 x]⟩) := by
  unfold ixR
  simp only []
  rw [if_pos h]
  obtain ⟨⟨l⟩⟩ := x
  cases l with
  | nil => simp [Str.length] at h1
  | cons a l => simp [atI_0, hd0]
theorem ev_is_name (ds : List D) (d : D) (h : F_is_name ds = some d) : wrapP 1 2 den_is_name ds = some d := by
  unfold F_is_name at h
  split at h
  · rename_i x
    by_cases ho : okS x = true
    · rw [if_pos ho] at h
      cases h
      unfold okS at ho
      rw [Bool.and_eq_true, decide_eq_true_eq] at ho
      obtain ⟨hl, hs⟩ := ho
      have hlen : lenR [.str x] = some (.int (x.length : Nat)) := by simp [lenR, lenD, hs]
      have hc : ∀ s : FS, s.ρ = [.fz (.str x), .un] → dComp (dItS (dVar 0)) (tgName 1) (dTest (dOp ninR (dVar 1) (dOp addR (ret (.str LET)) (ret (.str DIG))))) (dVar 1) [1] s = .ok (((chD x).filter (badC LD)).map id) s := fun s hs0 => by
        obtain ⟨ρ, st⟩ := s
        simp only at hs0
        subst hs0
        refine e_comp (l := chD x) (s1 := ⟨[.fz (.str x), .un], st⟩) _ id ?_ rfl fun d hd => ?_
        · simp [dItS, dVar, e_bind, e_ret, e_some, isS, hs]
        · obtain ⟨c, hcm, rfl⟩ := List.mem_map.mp hd
          refine ⟨⟨[.fz (.str x), .fz (.str ⟨#[c]⟩)], st⟩, rfl, ?_, fun _ => by simp [dVar], rfl, rfl⟩
          simp [dTest, dOp, dVar, e_bind, e_ret, e_some, ld_is, ninR, inD_ch, isB, badC, hd0]
      have hok : (D.lst ((chD x).filter (badC LD))).ok = true := ok_strs fun d hd => by
        obtain ⟨c, hcm, rfl⟩ := List.mem_map.mp (List.mem_filter.mp hd).1
        exact ⟨_, rfl, lay_ch hl hcm⟩
      have hem := bad_empty LD x
      have heq := eqR_nil hok
      rw [hem] at heq
      have v0 : ∀ {st : DSt}, dVar 0 ⟨[.fz (.str x), .un], st⟩ = .ok (.str x) ⟨[.fz (.str x), .un], st⟩ := v_fz rfl
      have hstr := v_test (v_isi (T := "str") (b := true) (v0 (st := st0)) rfl)
      have hl := v_call (v_one (v0 (st := st0))) hlen
      by_cases h1 : 1 ≤ x.length
      · have hi := ix0 h1 hs
        have c1 : leR (.int 1) (.int (x.length : Nat)) = some (.bl true) := by unfold leR; simp only []; rw [decide_eq_true (by omega)]
        by_cases h8 : x.length ≤ 8
        · have c2 : leR (.int (x.length : Nat)) (.int 8) = some (.bl true) := by unfold leR; simp only []; rw [decide_eq_true (by omega)]
          have hch := v_not (v_test (v_chain_t (v_int (i := 1)) hl c1 (v_int (i := 8)) c2))
          have hin : ninR (.str ⟨#[hd0 x]⟩) (.str LET) = some (.bl (!chIn LET (hd0 x))) := by unfold ninR; rw [inD_ch]; rfl
          have hfst := v_test (v_op (v_op (v0 (st := st0)) (v_int (i := 0)) hi) (rfl : (ret (.str LET) : M D) _ = _) hin)
          cases h0 : chIn LET (hd0 x) with
          | true =>
            rw [h0] at hfst
            unfold den_is_name
            rw [show nameS x = x.cps.toList.all (chIn LD) by unfold nameS; rw [decide_eq_true h1, decide_eq_true h8, h0]; rfl]
            exact wrap_rt (m := 1) (n := 2) (ds := [.str x]) rfl (f_seq (f_if_f (v_or_f (v_not hstr) (v_or_f hch hfst)) rfl) (f_ret (v_op (v_frz (hc _ rfl)) v_nils (by rw [List.map_id]; exact heq))))
          | false =>
            rw [h0] at hfst
            rw [show nameS x = false by unfold nameS; rw [h0]; simp]
            unfold den_is_name
            exact wrap_rt (m := 1) (n := 2) (ds := [.str x]) rfl (f_seq_rt (f_if_t (v_or_f (v_not hstr) (v_or_f hch hfst)) (f_ret rfl)))
        · have c2 : leR (.int (x.length : Nat)) (.int 8) = some (.bl false) := by unfold leR; simp only []; rw [decide_eq_false (by omega)]
          have hch := v_not (v_test (v_chain_t (v_int (i := 1)) hl c1 (v_int (i := 8)) c2))
          rw [show nameS x = false by unfold nameS; rw [decide_eq_false h8]; simp]
          unfold den_is_name
          exact wrap_rt (m := 1) (n := 2) (ds := [.str x]) rfl (f_seq_rt (f_if_t (v_or_f (v_not hstr) (v_or_t hch)) (f_ret rfl)))
      · have c1 : leR (.int 1) (.int (x.length : Nat)) = some (.bl false) := by unfold leR; simp only []; rw [decide_eq_false (by omega)]
        have hch := v_not (v_test (v_chain_f (g' := leR) (fc := ret (.int 8)) (v_int (i := 1)) hl c1))
        rw [show nameS x = false by unfold nameS; rw [decide_eq_false h1]; simp]
        unfold den_is_name
        exact wrap_rt (m := 1) (n := 2) (ds := [.str x]) rfl (f_seq_rt (f_if_t (v_or_f (v_not hstr) (v_or_t hch)) (f_ret rfl)))
    · rw [if_neg ho] at h; cases h
  · rename_i e he
    cases e with
    | str x => exact absurd rfl (he x)
    | dct _ => cases h
    | xc _ _ => cases h
    | _ => cases h; rfl
  · cases h
end K12
end S_E2
section S_EV4
set_option Elab.async false
set_option linter.all false
set_option autoImplicit false
set_option maxRecDepth 100000
set_option maxHeartbeats 4000000
/-! EV4: the words of a denotation as rewriting rules. -/
namespace DL
open PySem PySem.Spec PyProof.Rows L2
def Res.bd {α β : Type} (r : Res α) (k : α → FS → Res β) : Res β := match r with
  | .ok a s => k a s
  | .ex e s => .ex e s
  | .stuck => .stuck
section
variable {α β : Type} {s : FS} {ρ : List Sl} {ds : DSt}
@[simp] theorem isS_str (b : Str) : isS (.str b) = some b := id rfl
@[simp] theorem bd_ok (a : α) (k : α → FS → Res β) : (Res.ok a s).bd k = k a s := id rfl
@[simp] theorem bd_ex (e : D) (k : α → FS → Res β) : (Res.ex e s).bd k = .ex e s := id rfl
@[simp] theorem bd_st (k : α → FS → Res β) : (Res.stuck : Res α).bd k = .stuck := id rfl
theorem x_bind (f : M α) (g : α → M β) : (f >>= g) s = (f s).bd g := by rw [e_bind]; rfl
@[simp] theorem x_ret (a : α) : ret a s = .ok a s := id rfl
@[simp] theorem x_stk : (stk : M α) s = .stuck := id rfl
@[simp] theorem x_lift (a : α) : lift (some a) s = .ok a s := id rfl
@[simp] theorem x_var_0 (i : Nat) : dVar i ⟨ρ, ds⟩ = (match ρ[i]? with
  | some (.fz d) => .ok d ⟨ρ, ds⟩
  | some (.ow l) => .ok (.lst l) ⟨ρ.set i (.fz (.lst l)), ds⟩
  | _ => .stuck) := id rfl
@[simp] theorem x_op (g : D → D → Option D) (fa fb : M D) : dOp g fa fb s = (fa s).bd fun x s1 => (fb s1).bd fun y s2 => lift (g x y) s2 := by
  unfold dOp; rw [x_bind]; rfl
@[simp] theorem x_test (f : M D) : dTest f s = (f s).bd fun x s1 => lift (isB x) s1 := by unfold dTest; rw [x_bind]
@[simp] theorem x_not (f : M Bool) : dNot f s = (f s).bd fun c s1 => .ok (!c) s1 := by unfold dNot; rw [x_bind]; rfl
@[simp] theorem x_or (f g : M Bool) : dOr f g s = (f s).bd fun c s1 => if c = true then .ok true s1 else g s1 := by
  unfold dOr; rw [x_bind]; congr; funext c s1; cases c <;> rfl
@[simp] theorem x_and (f g : M Bool) : dAnd f g s = (f s).bd fun c s1 => if c = true then g s1 else .ok false s1 := by
  unfold dAnd; rw [x_bind]; congr; funext c s1; cases c <;> rfl
@[simp] theorem x_if (c : M Bool) (f g : M α) : dIf c f g s = (c s).bd fun b s1 => if b = true then f s1 else g s1 := by
  unfold dIf; rw [x_bind]; congr; funext b s1; cases b <;> rfl
@[simp] theorem x_fif (c : M Bool) (f g : M Fl) : fIf c f g s = (c s).bd fun b s1 => if b = true then f s1 else g s1 := x_if c f g
@[simp] theorem x_andV (f g : M D) : dAndV f g s = (f s).bd fun x s1 => (lift (isB x) s1).bd fun c s2 => if c = true then g s2 else .ok (.bl false) s2 := by
  unfold dAndV; rw [x_bind]; congr; funext x s1; rw [x_bind]; congr; funext c s2; cases c <;> rfl
@[simp] theorem x_orV (f g : M D) : dOrV f g s = (f s).bd fun x s1 => (lift (isB x) s1).bd fun c s2 => if c = true then .ok (.bl true) s2 else g s2 := by
  unfold dOrV; rw [x_bind]; congr; funext x s1; rw [x_bind]; congr; funext c s2; cases c <;> rfl
@[simp] theorem x_notV (f : M D) : dNotV f s = (f s).bd fun x s1 => (lift (isB x) s1).bd fun c s2 => .ok (.bl (!c)) s2 := by
  unfold dNotV; rw [x_bind]; rfl
@[simp] theorem x_isi (T : String) (f : M D) : dIsi T f s = (f s).bd fun d s1 => lift ((isiB T d).map D.bl) s1 := by unfold dIsi; rw [x_bind]
@[simp] theorem x_chain (g g' : D → D → Option D) (fa fb fc : M D) : dChain g g' fa fb fc s = (fa s).bd fun x s1 => (fb s1).bd fun y s2 => (lift (g x y) s2).bd fun z s3 => (lift (isB z) s3).bd fun k s4 =>
    if k = true then (fc s4).bd fun w s5 => lift (g' y w) s5 else .ok (.bl false) s4 := by
  unfold dChain; rw [x_bind]; congr; funext x s1; rw [x_bind]; congr; funext y s2; rw [x_bind]; congr; funext z s3; rw [x_bind]; congr; funext k s4
  cases k
  · rfl
  · show ((fc >>= fun w => lift (g' y w)) s4) = _
    rw [x_bind]; rfl
@[simp] theorem x_call (g : List D → Option D) (f : M (List D)) : dCall g f s = (f s).bd fun l s1 => lift (g l) s1 := by unfold dCall; rw [x_bind]
@[simp] theorem x_callL (g : List D → Option (List D)) (f : M (List D)) : dCallL g f s = (f s).bd fun l s1 => lift (g l) s1 := by unfold dCallL; rw [x_bind]
@[simp] theorem x_cons (f : M D) (g : M (List D)) : dCons f g s = (f s).bd fun x s1 => (g s1).bd fun l s2 => .ok (x :: l) s2 := by
  unfold dCons; rw [x_bind]; rfl
@[simp] theorem x_frz (f : M (List D)) : dFrz f s = (f s).bd fun l s1 => .ok (.lst l) s1 := by unfold dFrz; rw [x_bind]; rfl
@[simp] theorem x_lst (f : M (List D)) : dLst f s = (f s).bd fun l s1 => if l.length ≤ sizeLine then .ok l s1 else .stuck := by
  unfold dLst; rw [x_bind]; congr; funext l s1; split <;> rfl
@[simp] theorem x_tup (f : M (List D)) : dTup f s = (f s).bd fun l s1 => if l.length ≤ sizeLine then .ok (.tup l) s1 else .stuck := by
  unfold dTup; rw [x_bind]; congr; funext l s1; split <;> rfl
@[simp] theorem x_seq (f g : M Fl) : fSeq f g s = (f s).bd fun a s1 => (match a with | .nx => g s1 | .rt d => .ok (.rt d) s1 | .bk => .ok .bk s1 | .ct => .ok .ct s1) := by
  unfold fSeq; rw [x_bind]; congr; funext a s1; cases a <;> rfl
@[simp] theorem x_fret (f : M D) : fRet f s = (f s).bd fun d s1 => .ok (.rt d) s1 := by unfold fRet; rw [x_bind]; rfl
@[simp] theorem x_drop (f : M D) : fDrop f s = (f s).bd fun d s1 => .ok .nx s1 := by unfold fDrop; rw [x_bind]; rfl
@[simp] theorem x_put (i : Nat) (x : Sl) : putSl i x s = .ok .nx { s with ρ := s.ρ.set i x } := id rfl
@[simp] theorem x_set (i : Nat) (f : M D) : fSet i f s = (f s).bd fun d s1 => .ok .nx { s1 with ρ := s1.ρ.set i (.fz d) } := by unfold fSet; rw [x_bind]; rfl
@[simp] theorem x_setN (i : Nat) (f : M (List D)) : fSetN i f s = (f s).bd fun l s1 => .ok .nx { s1 with ρ := s1.ρ.set i (.ow l) } := by unfold fSetN; rw [x_bind]; rfl
@[simp] theorem x_setV (i : Nat) (f : M Sl) : fSetV i f s = (f s).bd fun x s1 => .ok .nx { s1 with ρ := s1.ρ.set i x } := by unfold fSetV; rw [x_bind]; rfl
@[simp] theorem x_vfz (f : M D) : vFz f s = (f s).bd fun d s1 => .ok (.fz d) s1 := by unfold vFz; rw [x_bind]; rfl
@[simp] theorem x_vow (f : M (List D)) : vOw f s = (f s).bd fun d s1 => .ok (.ow d) s1 := by unfold vOw; rw [x_bind]; rfl
@[simp] theorem x_par2 (i j : Nat) (fa fb : M Sl) : fPar2 i j fa fb s = (fa s).bd fun x s1 => (fb s1).bd fun y s2 => .ok .nx { s2 with ρ := (s2.ρ.set i x).set j y } := by
  unfold fPar2; rw [x_bind]; rfl
@[simp] theorem x_part (f : M D) : dPart f s = (f s).bd fun d s1 => (lift (isI d) s1).bd fun i s2 => .ok (some i) s2 := by
  unfold dPart; rw [x_bind]; rfl
@[simp] theorem x_sl (f : M D) (g h : M (Option Int)) : dSl f g h s = (f s).bd fun d s1 => (g s1).bd fun lo s2 => (h s2).bd fun hi s3 => lift (slR d lo hi) s3 := by
  unfold dSl; rw [x_bind]; rfl
@[simp] theorem x_neg (f : M D) : dNeg f s = (f s).bd fun d s1 => lift (negD d) s1 := by unfold dNeg; rw [x_bind]
theorem x_join (fo fe : M D) : dJoin fo fe s = (fo s).bd fun o s1 => (lift (isS o) s1).bd fun a s2 => (fe s2).bd fun d s3 => (lift (match d with | .lst l => strsD l | .tup l => strsD l | _ => none) s3).bd fun l s4 =>
    if (l.map (·.length)).sum + l.length * a.length ≤ 16777216 then .ok (.str (Txt.join a l)) s4 else .stuck := by
  unfold dJoin; rw [x_bind]; congr; funext o s1; rw [x_bind]; congr; funext a s2; rw [x_bind]; congr; funext d s3; rw [x_bind]; congr; funext l s4; split <;> rfl
theorem x_join_ok {fo fe : M D} {a : Str} {l : List Str} {s1 s2 : FS} (ho : fo s = .ok (.str a) s1) (he : fe s1 = .ok (.lst (l.map D.str)) s2) (hs : strsD (l.map D.str) = some l) (hb : (l.map (·.length)).sum + l.length * a.length ≤ 16777216) : dJoin fo fe s = .ok (.str (Txt.join a l)) s2 := by
  rw [x_join, ho]
  simp only [bd_ok, isS_str, x_lift]
  rw [he]
  simp only [bd_ok]
  rw [hs]
  simp only [x_lift, bd_ok]
  rw [if_pos hb]
theorem x_split (fo fe : M D) : dSplit fo fe s = (fo s).bd fun o s1 => (lift (isS o) s1).bd fun a s2 => (fe s2).bd fun d s3 => (lift (isS d) s3).bd fun b s4 =>
    if (b.length == 0) = false ∧ a.length + 2 ≤ sizeLine ∧ (Txt.split a b).length ≤ sizeLine then .ok ((Txt.split a b).map D.str) s4 else .stuck := by
  unfold dSplit; rw [x_bind]; congr; funext o s1; rw [x_bind]; congr; funext a s2; rw [x_bind]; congr; funext d s3; rw [x_bind]; congr; funext l s4; split <;> rfl
@[simp] theorem x_fmt (f : M D) : dFmt f s = (f s).bd fun d s1 => lift (fmtD d) s1 := by unfold dFmt; rw [x_bind]
@[simp] theorem x_j (f : M D) (g : Str → M Str) (acc : Str) : dJ f g acc s = (f s).bd fun d s1 => (lift (isS d) s1).bd fun y s2 => if (acc ++ y).length ≤ sizeLine then g (acc ++ y) s2 else .stuck := by
  unfold dJ; rw [x_bind]; congr; funext d s1; rw [x_bind]; congr; funext y s2; split <;> rfl
@[simp] theorem x_joined (g : Str → M Str) : dJoined g s = (g Str.empty s).bd fun y s1 => .ok (.str y) s1 := by unfold dJoined; rw [x_bind]; rfl
@[simp] theorem x_addL (f g : M D) : dAddL f g s = (f s).bd fun x s1 => (g s1).bd fun y s2 => lift (addL x y) s2 := by
  unfold dAddL; rw [x_bind]; rfl
@[simp] theorem x_itT (f : M D) : dItT f s = (f s).bd fun d s1 => lift (itemsT d) s1 := by unfold dItT; rw [x_bind]
@[simp] theorem x_itL (f : M D) : dItL f s = (f s).bd fun d s1 => lift (itemsL d) s1 := by unfold dItL; rw [x_bind]
@[simp] theorem x_itS (f : M D) : dItS f s = (f s).bd fun d s1 => (lift (isS d) s1).bd fun x s2 => if x.length ≤ sizeLine then .ok (chD x) s2 else .stuck := by
  unfold dItS; rw [x_bind]; congr; funext d s1; rw [x_bind]; congr; funext x s2; split <;> rfl
@[simp] theorem x_zip (f : M (List D)) : dZip f s = (f s).bd fun l s1 => lift (zipO l) s1 := by unfold dZip; rw [x_bind]
@[simp] theorem x_enum (f : M (List D)) : dEnum f s = (f s).bd fun l s1 => lift (enuO l) s1 := by unfold dEnum; rw [x_bind]
@[simp] theorem x_peek (i : Nat) : peek i ⟨ρ, ds⟩ = (match ρ[i]? with
  | some (.ow l) => .ok l ⟨ρ, ds⟩
  | _ => .stuck) := id rfl
@[simp] theorem x_flatO (o : Option D) : flatO o s = (lift o s).bd fun z s1 => if flatD z = true then .ok z s1 else .stuck := by
  unfold flatO; rw [x_bind]; congr; funext z s1; split <;> rfl
@[simp] theorem x_ownL (i : Nat) (g : D → D → Option D) (fb : M D) : dOwnL i g fb s = (peek i s).bd fun _ s1 => (fb s1).bd fun e s2 => (peek i s2).bd fun l s3 => flatO (g (.lst l) e) s3 := by
  unfold dOwnL; rw [x_bind]; rfl
@[simp] theorem x_ownR (i : Nat) (g : D → D → Option D) (fa : M D) : dOwnR i g fa s = (fa s).bd fun e s2 => (peek i s2).bd fun l s3 => flatO (g e (.lst l)) s3 := by
  unfold dOwnR; rw [x_bind]; rfl
@[simp] theorem x_ownC (i : Nat) (g : List D → Option D) : dOwnC i g s = (peek i s).bd fun l s1 => flatO (g [.lst l]) s1 := by unfold dOwnC; rw [x_bind]
@[simp] theorem x_ownTup (i : Nat) : dOwnTup i s = (peek i s).bd fun l s1 => .ok (.tup l) s1 := by unfold dOwnTup; rw [x_bind]; rfl
@[simp] theorem x_ownIx (i : Nat) (fb : M D) : dOwnIx i fb s = (peek i s).bd fun _ s1 => (fb s1).bd fun e s2 => (peek i s2).bd fun l s3 => lift (ixR (.lst l) e) s3 := by
  unfold dOwnIx; rw [x_bind]; rfl
@[simp] theorem x_append (i : Nat) (fe : M D) : dAppend i fe s = (peek i s).bd fun _ s1 => (fe s1).bd fun d s2 => (peek i s2).bd fun l s3 =>
    if l.length < sizeLine then .ok .non { s3 with ρ := s3.ρ.set i (.ow (l ++ [d])) } else .stuck := by
  unfold dAppend; rw [x_bind]; congr; funext _ s1; rw [x_bind]; congr; funext e s2; rw [x_bind]; congr; funext l s3
  split
  · rw [x_bind]; rfl
  · rfl
@[simp] theorem x_atSt (i : Nat) : atSt i ⟨ρ, ds⟩ = (match ρ[i]? with
  | some .st => .ok ds ⟨ρ, ds⟩
  | _ => .stuck) := id rfl
@[simp] theorem x_rest (i : Nat) : dRest i s = (atSt i s).bd fun d s1 => .ok (.int d.rest) s1 := by unfold dRest; rw [x_bind]; rfl
@[simp] theorem x_turn (i : Nat) : dTurn i s = (atSt i s).bd fun d s1 => .ok (.int d.turn) s1 := by unfold dTurn; rw [x_bind]; rfl
@[simp] theorem x_cells (i : Nat) : dCells i s = (atSt i s).bd fun d s1 => .ok (.lst (d.cells.map D.int)) s1 := by unfold dCells; rw [x_bind]; rfl
@[simp] theorem x_greatNe (i : Nat) (fb : M D) : dGreatNe i fb s = (atSt i s).bd fun _ s1 => (fb s1).bd fun e s2 => (atSt i s2).bd fun d s3 => flatO (neR (.lst (d.great.map D.int)) e) s3 := by
  unfold dGreatNe; rw [x_bind]; rfl
@[simp] theorem x_frest (i : Nat) (f : M D) : fRest i f s = (f s).bd fun v s1 => (lift (isI v) s1).bd fun n s2 => (atSt i s2).bd fun _ s3 => .ok .nx { s3 with ds := { s3.ds with rest := n } } := by
  unfold fRest; rw [x_bind]; rfl
@[simp] theorem x_fturn (i : Nat) (f : M D) : fTurn i f s = (f s).bd fun v s1 => (lift (isI v) s1).bd fun n s2 => (atSt i s2).bd fun _ s3 => .ok .nx { s3 with ds := { s3.ds with turn := n } } := by
  unfold fTurn; rw [x_bind]; rfl
@[simp] theorem x_starg (i : Nat) (f : M (List D)) : dStArg i f ⟨ρ, ds⟩ = (match ρ[i]? with
  | some .st => f ⟨ρ, ds⟩
  | _ => .stuck) := id rfl
@[simp] theorem x_scall (F : SF) (f : M (List D)) : dSCall F f s = (f s).bd fun l s1 => (match F l s1.ds with | some (d, st) => .ok d { s1 with ds := st } | none => .stuck) := by
  unfold dSCall; rw [x_bind] <;> congr
@[simp] theorem x_xcall (F : XF) (f : M (List D)) : dXCall F f s = (f s).bd fun l s1 => (match F l with | some (.ok d) => .ok d s1 | some (.ex e) => .ex e s1 | none => .stuck) := by
  unfold dXCall; rw [x_bind] <;> congr
@[simp] theorem x_fraise (d : D) : fRaise d s = .ex d s := id rfl
def rI (n fld : Str) (l : List D) (s : FS) : Res Fl := fRaiseI n fld (ret l) s
@[simp] theorem x_fraiseI (n fld : Str) (fa : M (List D)) : fRaiseI n fld fa s = (fa s).bd fun l s1 => rI n fld l s1 := by
  unfold rI fRaiseI; rw [x_bind]; rfl
theorem rI_int (n fld : Str) (i : Int) : rI n fld [.int i] s = if i.natAbs.log2 < 1920 then .ex (.xc n [(fld, .int i)]) s else .stuck := by
  unfold rI fRaiseI; rw [x_bind]
  show ((if i.natAbs.log2 < 1920 then (fun s => Res.ex (D.xc n [(fld, .int i)]) s) else stk : M Fl)) s = _
  split <;> rfl
/-! ### loops -/
theorem x_for (fi : M (List D)) (g : TgF) (b : M Fl) : fFor fi g b s = (fi s).bd fun l s1 => forD g b l s1 := by unfold fFor; rw [x_bind]
theorem for_nil {g : TgF} {b : M Fl} : forD g b [] s = .ok .nx s := rfl
theorem for_nx {g : TgF} {b : M Fl} {d : D} {l : List D} {s1 s2 : FS} (h : g d s = some s1) (k : b s1 = .ok .nx s2) : forD g b (d :: l) s = forD g b l s2 := by
  show ((tgo g d >>= _) s) = _
  rw [x_bind, e_tgo h, bd_ok, x_bind, k]; rfl
theorem for_rt {g : TgF} {b : M Fl} {d r : D} {l : List D} {s1 s2 : FS} (h : g d s = some s1) (k : b s1 = .ok (.rt r) s2) : forD g b (d :: l) s = .ok (.rt r) s2 := by
  show ((tgo g d >>= _) s) = _
  rw [x_bind, e_tgo h, bd_ok, x_bind, k]; rfl
theorem for_ex {g : TgF} {b : M Fl} {d r : D} {l : List D} {s1 s2 : FS} (h : g d s = some s1) (k : b s1 = .ex r s2) : forD g b (d :: l) s = .ex r s2 := by
  show ((tgo g d >>= _) s) = _
  rw [x_bind, e_tgo h, bd_ok, x_bind, k]; rfl
/-- a loop that only goes on: the state behind it by what a round makes of it -/
theorem for_fold {γ : Type} {g : TgF} {b : M Fl} (mk : γ → FS) (f : γ → D → γ) : ∀ (l : List D) (c : γ),
    (∀ c, ∀ d ∈ l, ∃ s1, g d (mk c) = some s1 ∧ b s1 = .ok .nx (mk (f c d))) → forD g b l (mk c) = .ok .nx (mk (l.foldl f c))
  | [], _, _ => rfl
  | d :: l, c, h => by
    obtain ⟨s1, h1, h2⟩ := h c d List.mem_cons_self
    rw [for_nx h1 h2]
    exact for_fold mk f l (f c d) fun c e he => h c e (List.mem_cons_of_mem _ he)
theorem x_while (fuel : FS → Nat) (c : M Bool) (b : M Fl) : fWhile fuel c b s = whileD c b (fuel s) s := rfl
theorem while_f {c : M Bool} {b : M Fl} {n : Nat} {s1 : FS} (h : c s = .ok false s1) : whileD c b (n + 1) s = .ok .nx s1 := by
  show ((c >>= _) s) = _
  rw [x_bind, h]; rfl
theorem while_t {c : M Bool} {b : M Fl} {n : Nat} {s1 s2 : FS} (h : c s = .ok true s1) (k : b s1 = .ok .nx s2) : whileD c b (n + 1) s = whileD c b n s2 := by
  show ((c >>= _) s) = _
  rw [x_bind, h, bd_ok]
  simp only [if_true]
  rw [x_bind, k]; rfl
/-! ### operators -/
@[simp] theorem isB_bl (b : Bool) : isB (.bl b) = some b := id rfl
@[simp] theorem isI_int (b : Int) : isI (.int b) = some b := id rfl
@[simp] theorem negD_int (b : Int) : negD (.int b) = some (.int (-b)) := id rfl
@[simp] theorem itemsT_tup (l : List D) : itemsT (.tup l) = some l := id rfl
@[simp] theorem itemsL_lst (l : List D) : itemsL (.lst l) = some l := id rfl
@[simp] theorem eqR_str (x y : Str) : eqR (.str x) (.str y) = some (.bl (decide (x = y))) := id rfl
@[simp] theorem eqR_int (x y : Int) : eqR (.int x) (.int y) = some (.bl (decide (x = y))) := id rfl
@[simp] theorem neR_str (x y : Str) : neR (.str x) (.str y) = some (.bl (!decide (x = y))) := id rfl
@[simp] theorem neR_int (x y : Int) : neR (.int x) (.int y) = some (.bl (!decide (x = y))) := id rfl
@[simp] theorem ltR_int (x y : Int) : ltR (.int x) (.int y) = some (.bl (decide (x < y))) := id rfl
@[simp] theorem leR_int (x y : Int) : leR (.int x) (.int y) = some (.bl (decide (x ≤ y))) := id rfl
@[simp] theorem gtR_int (x y : Int) : gtR (.int x) (.int y) = some (.bl (decide (y < x))) := id rfl
@[simp] theorem geR_int (x y : Int) : geR (.int x) (.int y) = some (.bl (decide (y ≤ x))) := id rfl
@[simp] theorem ltR_str (x y : Str) : ltR (.str x) (.str y) = some (.bl (ltS x y)) := id rfl
@[simp] theorem gtR_str (x y : Str) : gtR (.str x) (.str y) = some (.bl (ltS y x)) := id rfl
@[simp] theorem addR_int (x y : Int) : addR (.int x) (.int y) = some (.int (x + y)) := id rfl
@[simp] theorem subR_int (x y : Int) : subR (.int x) (.int y) = some (.int (x - y)) := id rfl
@[simp] theorem addR_str (x y : Str) : addR (.str x) (.str y) = if x.length + y.length ≤ sizeLine then some (.str (x ++ y)) else none := id rfl
@[simp] theorem addR_tup (x y : List D) : addR (.tup x) (.tup y) = if x.length + y.length ≤ sizeLine then some (.tup (x ++ y)) else none := id rfl
@[simp] theorem addR_lst (x y : List D) : addR (.lst x) (.lst y) = if x.length + y.length ≤ sizeLine then some (.lst (x ++ y)) else none := id rfl
@[simp] theorem addL_lst (x y : List D) : addL (.lst x) (.lst y) = if x.length + y.length ≤ sizeLine then some (x ++ y) else none := id rfl
@[simp] theorem isNR_non (d : D) : isNR d .non = some (.bl (isNonD d)) := id rfl
@[simp] theorem lenR_tup (l : List D) : lenR [.tup l] = some (.int (l.length : Nat)) := id rfl
@[simp] theorem lenR_lst (l : List D) : lenR [.lst l] = some (.int (l.length : Nat)) := id rfl
theorem lenR_str {x : Str} (h : x.length ≤ sizeLine) : lenR [.str x] = some (.int (x.length : Nat)) := len_str h
@[simp] theorem tupR_lst (l : List D) : tupR [.lst l] = some (.tup l) := id rfl
@[simp] theorem tupR_tup (l : List D) : tupR [.tup l] = some (.tup l) := id rfl
@[simp] theorem lstR_lst (l : List D) : lstR [.lst l] = some l := id rfl
@[simp] theorem lstR_tup (l : List D) : lstR [.tup l] = some l := id rfl
@[simp] theorem intR_int (i : Int) : intR [.int i] = some (.int i) := id rfl
@[simp] theorem absR_int (i : Int) : absR [.int i] = some (.int (if i < 0 then -i else i)) := id rfl
@[simp] theorem gcdR_int (a b : Int) : gcdR [.int a, .int b] = some (.int ((Nat.gcd a.natAbs b.natAbs : Nat) : Int)) := id rfl
@[simp] theorem strR_int (i : Int) : strR [.int i] = strI i := id rfl
@[simp] theorem fmtD_int (i : Int) : fmtD (.int i) = strI i := id rfl
@[simp] theorem modR_int (i j : Int) : modR (.int i) (.int j) = if 0 < j then some (.int (i % j)) else none := id rfl
@[simp] theorem fdivR_int (i j : Int) : fdivR (.int i) (.int j) = if 0 < j ∧ j.natAbs.log2 < 9000 then some (.int (i / j)) else none := id rfl
theorem mulA_int (i j : Int) : mulA (.int i) (.int j) = if (Builtin.Int.intBits i : Int) + (Builtin.Int.intBits j : Int) ≤ 134217728 then some (.int (i * j)) else none := rfl
@[simp] theorem powR_int (i j : Int) : powR (.int i) (.int j) = if 0 ≤ j ∧ j ≤ 1000000 ∧ i.natAbs < 2 ^ 64 then some (.int (i ^ j.toNat)) else none := id rfl
@[simp] theorem ixR_tup (l : List D) (i : Int) : ixR (.tup l) (.int i) = atI l i := id rfl
@[simp] theorem ixR_lst (l : List D) (i : Int) : ixR (.lst l) (.int i) = atI l i := id rfl
@[simp] theorem atI_nat {α : Type} (l : List α) (n : Nat) : atI l (n : Int) = l[n]? := by
  unfold atI ixN
  simp only [Int.natCast_nonneg, if_true]
  by_cases h : n < l.length
  · simp [h]
  · simp [h]
@[simp] theorem atI_lit0 {α : Type} (l : List α) : atI l 0 = l[0]? := atI_nat l 0
@[simp] theorem atI_lit1 {α : Type} (l : List α) : atI l 1 = l[1]? := atI_nat l 1
@[simp] theorem atI_lit2 {α : Type} (l : List α) : atI l 2 = l[2]? := atI_nat l 2
@[simp] theorem atI_lit3 {α : Type} (l : List α) : atI l 3 = l[3]? := atI_nat l 3
@[simp] theorem atI_last {α : Type} (l : List α) : atI l (-1) = l.getLast? := by
  unfold atI ixN
  cases l with
  | nil => simp
  | cons a r =>
    rw [if_neg (by omega), if_pos (by simp; omega)]
    have e : (-1 + ((a :: r).length : Nat) : Int).toNat = r.length := by simp; omega
    rw [e]
    simp [List.getLast?_eq_getElem?]
@[simp] theorem slR_lst (l : List D) (a b : Option Int) : slR (.lst l) a b = some (.lst (cutD l a b)) := id rfl
@[simp] theorem slR_tup (l : List D) (a b : Option Int) : slR (.tup l) a b = some (.tup (cutD l a b)) := id rfl
@[simp] theorem cut_from1 (l : List D) : cutD l (some 1) none = l.drop 1 := by
  unfold cutD HT.sIx
  cases l with
  | nil => rfl
  | cons a r => simp
@[simp] theorem cut_to (l : List D) (n : Nat) : cutD l none (some (n : Int)) = l.take n := by
  unfold cutD
  rw [HT.sIx_nat, HT.sIx_none, List.drop_zero, Nat.sub_zero]
  rw [List.take_eq_take_iff]; omega
@[simp] theorem cut_from (l : List D) (n : Nat) : cutD l (some (n : Int)) none = l.drop n := by
  unfold cutD
  rw [HT.sIx_nat, HT.sIx_none]
  by_cases h : n ≤ l.length
  · rw [Nat.min_eq_left h, List.take_of_length_le (by simp)]
  · rw [Nat.min_eq_right (by omega), List.drop_length, List.drop_of_length_le (by omega)]; simp
@[simp] theorem cut_mid (l : List D) : cutD l (some 1) (some (-1)) = (l.drop 1).dropLast := by
  unfold cutD HT.sIx
  cases l with
  | nil => rfl
  | cons a r => simp [List.dropLast_eq_take]; congr 1; omega
@[simp] theorem cut_tolast (l : List D) : cutD l none (some (-1)) = l.dropLast := by
  unfold cutD HT.sIx
  simp [List.dropLast_eq_take]; congr 1; omega
@[simp] theorem cut_13 (l : List D) : cutD l (some 1) (some 3) = (l.take 3).drop 1 := by
  unfold cutD HT.sIx
  simp
  cases l with
  | nil => rfl
  | cons a r => simp [List.take_drop]; omega
theorem mulA_bits {i j : Int} {m n : Nat} (h1 : i.natAbs < 2 ^ m) (h2 : j.natAbs < 2 ^ n) (h : m + n ≤ 134217728) : mulA (.int i) (.int j) = some (.int (i * j)) := by
  have a1 := PySem.intBits_le_iff.mpr h1
  have a2 := PySem.intBits_le_iff.mpr h2
  rw [mulA_int]
  exact if_pos (by omega)
theorem sizeLine_big : (10 : Nat) ^ 7 ≤ sizeLine := by decide
@[simp] theorem tg_name (i : Nat) (d : D) : tgName i d s = some { s with ρ := s.ρ.set i (.fz d) } := id rfl
@[simp] theorem wipe_nil (ρ : List Sl) : wipeR ρ [] = ρ := id rfl
end
end DL
end S_EV4
section S_GD
set_option Elab.async false
set_option linter.all false
set_option autoImplicit false
set_option maxRecDepth 100000
set_option maxHeartbeats 4000000
namespace K12
open PySem PySem.Spec PyProof.Rows L2 DL
/-- turns enough for a loop that ends when the number in slot i is 0 -/
def fuelB (i : Nat) : FS → Nat := fun s => match s.ρ[i]? with
  | some (.fz (.int b)) => b.natAbs + 1
  | _ => 0
/-- .. when the list in slot i is empty -/
def fuelL (i : Nat) : FS → Nat := fun s => match s.ρ[i]? with
  | some (.ow l) => l.length + 1
  | _ => 0
def G_is_name : PF := wrapP 1 2 den_is_name
def G_is_whole : PF := wrapP 1 1 den_is_whole
def G_top_of : PF := wrapP 1 1 den_top_of
def G_bottom_of : PF := wrapP 1 1 den_bottom_of
def G_ends : PF := wrapP 1 1 den_ends
def G_has_kind : PF := wrapP 2 3 den_has_kind
def G_number_text : PF := wrapP 1 1 den_number_text
def G_whole_of : PF := wrapP 1 2 den_whole_of
def G__law_blended : SF := wrapS 1 6 den__law_blended
def G__law_ct_gcd : PF := wrapP 2 4 (den__law_ct_gcd (fuelB 3))
def G__law_ct_top : PF := wrapP 1 1 den__law_ct_top
def G__law_ct_low : PF := wrapP 1 1 den__law_ct_low
def G__law_an_every : PF := wrapP 1 4 den__law_an_every
def G__law_an_ends : PF := wrapP 1 1 den__law_an_ends
def G__law_an_is_word : PF := wrapP 1 3 den__law_an_is_word
def G__law_an_number_words : PF := wrapP 1 1 den__law_an_number_words
def G__law_an_digits : PF := wrapP 1 2 den__law_an_digits
def G_are_names : PF := wrapP 1 3 (den_are_names G_is_name)
def G_is_number : PF := wrapP 1 1 (den_is_number G_is_whole)
def G_is_less : PF := wrapP 2 2 (den_is_less G_top_of G_bottom_of)
def G_named_places : PF := wrapP 2 6 (den_named_places G_ends)
def G_part_text : PF := wrapP 1 1 (den_part_text G_ends G_number_text)
def G__law_draw : SF := wrapS 2 3 (den__law_draw G__law_blended)
def G__law_ct_made : PF := wrapP 2 5 (den__law_ct_made G__law_ct_gcd)
def G__law_ct_less : PF := wrapP 2 2 (den__law_ct_less G__law_ct_top G__law_ct_low)
def G__law_ct_is_number : PF := wrapP 1 2 (den__law_ct_is_number G__law_ct_gcd)
def G__law_an_rising : PF := wrapP 2 3 (den__law_an_rising G__law_an_is_word)
def G__law_an_written : PF := wrapP 1 4 (den__law_an_written G__law_an_ends G__law_an_number_words)
def G_is_taps : PF := wrapP 1 1 (den_is_taps G_are_names)
def G_is_width : PF := wrapP 1 1 (den_is_width G_is_number G_is_less)
def G_number_of : PF := wrapP 1 4 (den_number_of G_whole_of G_is_number)
def G__law_pick : SF := wrapS 2 2 (den__law_pick G__law_draw)
def G__law_shuffled : SF := wrapS 2 4 (den__law_shuffled G__law_draw (fuelL 2))
def G__law_an_is_wide : PF := wrapP 1 1 (den__law_an_is_wide G__law_ct_is_number G__law_ct_less)
def G__law_an_read_number : PF := wrapP 1 4 (den__law_an_read_number G__law_an_digits G__law_ct_is_number)
def G_is_part : PF := wrapP 1 1 (den_is_part G_are_names G_is_width G_is_name)
def G__law_ct_number : SF := wrapS 1 1 (den__law_ct_number G__law_pick)
def G__law_ct_taps : SF := wrapS 3 5 (den__law_ct_taps G__law_pick G__law_draw G__law_shuffled)
def G__law_an_is_part : PF := wrapP 1 1 (den__law_an_is_part G__law_an_rising G__law_an_is_wide G__law_an_is_word)
def G__law_an_near_text : SF := wrapS 2 8 (den__law_an_near_text G__law_draw G__law_pick)
def G_is_net : PF := wrapP 1 3 (den_is_net G_is_taps G_is_part G_has_kind G_named_places)
def G_part_of_line : PF := wrapP 1 4 (den_part_of_line G_number_of G_is_part)
def G__law_ct_part : SF := wrapS 3 5 (den__law_ct_part G__law_shuffled G__law_ct_number G__law_draw)
def G__law_an_width : SF := wrapS 2 2 (den__law_an_width G__law_ct_number G__law_draw G__law_ct_made)
def G__law_an_is_net : PF := wrapP 1 3 (den__law_an_is_net G__law_an_rising G__law_an_is_part G__law_an_every)
def G__law_an_read_part : PF := wrapP 1 4 (den__law_an_read_part G__law_an_read_number G__law_an_is_part)
def G_need_net : XF := wrapX 1 1 (den_need_net G_is_net)
def G_read_net : XF := wrapX 1 7 (den_read_net G_is_taps G_part_of_line G_is_net)
def G__law_ct_net : SF := wrapS 3 7 (den__law_ct_net G__law_draw G__law_pick G__law_ct_part)
def G__law_an_read : PF := wrapP 1 7 (den__law_an_read G__law_an_is_net G__law_an_read_part)
def G_net_text : XF := wrapX 1 3 (den_net_text G_need_net G_part_text)
def G__law_an_net : SF := wrapS 3 5 (den__law_an_net G__law_ct_net G__law_draw G__law_an_width)
def G__law_an_drawn : SF := wrapS 3 4 (den__law_an_drawn G__law_pick G__law_an_net G__law_ct_taps)
end K12
end S_GD
section S_S1
set_option Elab.async false
set_option linter.all false
set_option autoImplicit false
set_option maxRecDepth 100000
set_option maxHeartbeats 4000000
/-! S1: lists of texts: equality, order, sorted(set(..)). -/
namespace DL
open PySem PySem.Spec PyProof.Rows L2
theorem eqvAll_strs : ∀ (l m : List Str), PyData.eqvAll (D.pds (l.map D.str)) (D.pds (m.map D.str)) = decide (l = m)
  | [], [] => rfl
  | [], y :: m => by simp [D.pds, PyData.eqvAll]
  | x :: l, [] => by simp [D.pds, PyData.eqvAll]
  | x :: l, y :: m => by
    have ih := eqvAll_strs l m
    show (PyData.eqv (.str x) (.str y) && PyData.eqvAll (D.pds (l.map D.str)) (D.pds (m.map D.str))) = _
    rw [ih]
    show ((x == y) && _) = _
    by_cases h : x = y <;> by_cases h2 : l = m <;> simp [h, h2]
theorem ok_of_lay {l : List Str} (h : ∀ x ∈ l, (D.str x).lay = true) : (D.lst (l.map D.str)).ok = true := ok_strs fun d hd => by
  obtain ⟨x, hx, rfl⟩ := List.mem_map.mp hd
  exact ⟨x, rfl, h x hx⟩
theorem eqR_strs {l m : List Str} (h : ∀ x ∈ l, (D.str x).lay = true) (k : ∀ x ∈ m, (D.str x).lay = true) : eqR (.lst (l.map D.str)) (.lst (m.map D.str)) = some (.bl (decide (l = m))) := by
  unfold eqR eqD
  have h0 := ok_of_lay h
  have k0 := ok_of_lay k
  simp only [h0, k0, Bool.and_self, if_true, Option.map_some]
  congr 2
  exact eqvAll_strs l m
theorem ltS_trans {x y z : Str} (h : ltS x y = true) (k : ltS y z = true) : ltS x z = true := by
  unfold ltS at *
  rw [decide_eq_true_eq] at *
  exact List.lt_trans h k
theorem addsK_nodup {K : Type} [DecidableEq K] (ns : List K) : ∀ ks : List K, ks.Nodup → (addsK ks ns).Nodup := by
  induction ns with
  | nil => intro ks h; exact h
  | cons n r ih =>
    intro ks h
    refine ih _ ?_
    unfold addK
    split
    · exact h
    · rename_i hn; exact List.nodup_cons.mpr ⟨hn, h⟩
theorem addsK_rev {K : Type} [DecidableEq K] (ns : List K) : ∀ ks : List K, (∀ x ∈ ns, x ∉ ks) → ns.Nodup → addsK ks ns = ns.reverse ++ ks := by
  induction ns with
  | nil => intro ks _ _; rfl
  | cons n r ih =>
    intro ks h hn
    obtain ⟨h1, h2⟩ := List.nodup_cons.mp hn
    have e : addK ks n = n :: ks := by unfold addK; rw [if_neg (h n List.mem_cons_self)]
    show addsK (addK ks n) r = _
    rw [e, ih _ (fun x hx => ?_) h2]
    · simp
    · intro hm
      rcases List.mem_cons.mp hm with e | e
      · subst e; exact h1 hx
      · exact h x (List.mem_cons_of_mem _ hx) e
theorem addsK_mem {K : Type} [DecidableEq K] (ns : List K) : ∀ (ks : List K) (x : K), x ∈ addsK ks ns ↔ x ∈ ns ∨ x ∈ ks := by
  induction ns with
  | nil => intro ks x; simp [addsK]
  | cons n r ih =>
    intro ks x
    show x ∈ addsK (addK ks n) r ↔ _
    rw [ih]
    unfold addK
    split
    · rename_i hn
      constructor
      · rintro (h | h)
        · exact .inl (List.mem_cons_of_mem _ h)
        · exact .inr h
      · rintro (h | h)
        · rcases List.mem_cons.mp h with e | e
          · subst e; exact .inr hn
          · exact .inl e
        · exact .inr h
    · simp; constructor
      · rintro (h | h | h) <;> simp [h]
      · rintro ((h | h) | h) <;> simp [h]
/-- names that rise -/
def rises : List Str → Bool
  | a :: b :: r => ltS a b && rises (b :: r)
  | _ => true
theorem rises_iff : ∀ l : List Str, rises l = true ↔ l.Pairwise (fun x y => ltS x y = true)
  | [] => by simp [rises]
  | [a] => by simp [rises]
  | a :: b :: r => by
    have ih := rises_iff (b :: r)
    show (ltS a b && rises (b :: r)) = true ↔ _
    rw [Bool.and_eq_true, ih]
    constructor
    · rintro ⟨h1, h2⟩
      refine List.pairwise_cons.mpr ⟨fun z hz => ?_, h2⟩
      rcases List.mem_cons.mp hz with e | e
      · subst e; exact h1
      · exact ltS_trans h1 ((List.pairwise_cons.mp h2).1 z e)
    · intro h
      obtain ⟨h1, h2⟩ := List.pairwise_cons.mp h
      exact ⟨h1 b List.mem_cons_self, h2⟩
theorem rises_nodup {l : List Str} (h : rises l = true) : l.Nodup := ((rises_iff l).mp h).imp fun {a b} q e => by
  subst e; rw [ltS_irr] at q; cases q
theorem rises_up {l : List Str} (h : rises l = true) : UpS l := ((rises_iff l).mp h).imp fun {a b} q => ltS_asym q
theorem rises_of_up {l : List Str} (h : UpS l) (k : l.Nodup) : rises l = true := (rises_iff l).mpr <| List.Pairwise.imp₂ (fun a b (q : ltS b a = false) (n : a ≠ b) => by
  cases e : ltS a b with
  | true => rfl
  | false => exact absurd (ltS_tri e q) n) h k
theorem rises_sort (l : List Str) : decide (l = sortS (addsK [] l)) = rises l := by
  have hn : (addsK [] l).Nodup := addsK_nodup l [] List.nodup_nil
  cases h : rises l with
  | true =>
    rw [decide_eq_true_eq]
    have e : addsK [] l = l.reverse := by rw [addsK_rev l [] (by simp) (rises_nodup h), List.append_nil]
    refine upS_uniq _ _ ?_ (rises_up h) (sortS_up _)
    rw [e]
    exact ((sortS_perm _).trans (List.reverse_perm l)).symm
  | false =>
    rw [decide_eq_false_iff_not]
    intro e
    have u : UpS l := by rw [e]; exact sortS_up _
    have n : l.Nodup := by rw [e]; exact (sortS_perm _).nodup_iff.mpr hn
    rw [rises_of_up u n] at h
    cases h
theorem zip_rises : ∀ l : List Str, (List.zipWith (fun x y => ltS x y) l (l.drop 1)).all id = rises l
  | [] => rfl
  | [a] => rfl
  | a :: b :: r => by
    have ih := zip_rises (b :: r)
    show (ltS a b && (List.zipWith (fun x y => ltS x y) (b :: r) ((b :: r).drop 1)).all id) = _
    rw [ih]
    rfl
theorem sortS_rises {l : List Str} (h : l.Nodup) : rises (sortS l) = true := rises_of_up (sortS_up l) ((sortS_perm l).nodup_iff.mpr h)
end DL
end S_S1
section S_P1
set_option Elab.async false
set_option linter.all false
set_option autoImplicit false
set_option maxRecDepth 100000
set_option maxHeartbeats 4000000
/-! P1: numbers, parts, nets as plain things; what is asked of them. -/
namespace K12
open PySem PySem.Spec PyProof.Rows L2 DL
inductive Num where
  | int (i : Int) | fr (a b : Int)
def Num.d : Num → D
  | .int i => .int i
  | .fr a b => .tup [.int a, .int b]
def Num.top : Num → Int
  | .int i => i
  | .fr a _ => a
def Num.low : Num → Int
  | .int _ => 1
  | .fr _ b => b
def Num.ok : Num → Bool
  | .int _ => true
  | .fr a b => decide (2 ≤ b) && decide (Nat.gcd a.natAbs b.natAbs = 1)
def Num.wide (n : Num) : Bool := n.ok && decide (0 ≤ n.top)
def Num.small (n : Num) : Prop := n.top.natAbs < 2 ^ 200 ∧ n.low.natAbs < 2 ^ 200
def namesB (l : List Str) : Bool := l.all nameS && rises l
def tapsB (l : List Str) : Bool := namesB l && decide (2 ≤ l.length) && decide (l.length ≤ 6)
inductive Part where
  | pl (k : Str) (r : List Str) (w : Num) | hub (es : List Str) (w : Num)
def Part.d : Part → D
  | .pl k r w => .tup (.str k :: (r.map D.str ++ [w.d]))
  | .hub es w => .tup [.str "hub", .tup (es.map D.str), w.d]
def Part.w : Part → Num
  | .pl _ _ w => w
  | .hub _ w => w
def okPl (k a b : Str) (w : Num) : Bool := (decide (k = "pipe") || decide (k = "lead")) && nameS a && nameS b && w.wide && (if k = "pipe" then ltS a b else !decide (a = b))
def Part.ok : Part → Bool
  | .hub es w => namesB es && decide (2 ≤ es.length) && w.wide
  | .pl k [a, b] w => okPl k a b w
  | .pl _ _ _ => false
def Part.kind : Part → Str
  | .pl k _ _ => k
  | .hub _ _ => "hub"
def Part.ends : Part → List Str
  | .pl _ r _ => r
  | .hub es _ => es
/-- the shapes that a reader or a draw makes -/
def Part.shape : Part → Prop
  | .pl k r w => k ≠ "hub" ∧ okS k = true ∧ (∀ x ∈ r, okS x = true) ∧ w.small ∧ 2 ≤ r.length ∧ r.length ≤ 1000
  | .hub es w => (∀ x ∈ es, okS x = true) ∧ w.small ∧ es.length ≤ 1000
structure Net where
  taps : List Str
  parts : List Part
def Net.d (n : Net) : D := .tup [.tup (n.taps.map D.str), .tup (n.parts.map Part.d)]
def addS (l : List Str) (x : Str) : List Str := if x ∈ l then l else l ++ [x]
def places (n : Net) : List Str := (n.parts.flatMap Part.ends).foldl addS n.taps
def Net.ok (n : Net) : Bool := tapsB n.taps && decide (n.parts.length ≤ 200) && n.parts.all Part.ok && !(n.parts.any (fun p => decide (p.kind = "lead")) && n.parts.any (fun p => decide (p.kind = "hub"))) && decide ((places n).length ≤ 40)
/-- a comprehension over things that stand for data -/
theorem compT {γ : Type} {fg : TgF} {ft : M Bool} {fe : M D} {vs : List Nat} {s : FS} (inj : γ → D) (p : γ → Bool) (g : γ → D) : ∀ (l : List γ), wipeR s.ρ vs = s.ρ →
    (∀ c ∈ l, ∃ s2, fg (inj c) s = some s2 ∧ ft s2 = .ok (p c) s2 ∧ (p c = true → fe s2 = .ok (g c) s2) ∧ s2.ds = s.ds ∧ wipeR s2.ρ vs = s.ρ) → compD fg ft fe vs (l.map inj) s = .ok ((l.filter p).map g) s
  | [], _, _ => rfl
  | c :: l, hw, h => by
    obtain ⟨s2, h1, h2, h3, h4, h5⟩ := h c List.mem_cons_self
    have ih := compT inj p g l hw fun e he => h e (List.mem_cons_of_mem _ he)
    have es : ({ s2 with ρ := wipeR s2.ρ vs } : FS) = s := by
      obtain ⟨r2, d2⟩ := s2
      obtain ⟨r, d0⟩ := s
      simp only at h4 h5 ⊢
      rw [h5, h4]
    show compD fg ft fe vs (inj c :: l.map inj) s = _
    unfold compD
    rw [e_bind, e_tgo h1]
    simp only []
    rw [e_bind, h2]
    simp only []
    cases hp : p c with
    | true =>
      simp only [if_true]
      rw [e_bind, h3 hp]
      simp only []
      rw [e_bind, e_wipe, es]
      simp only []
      rw [e_bind, ih]
      simp [hp, e_ret]
    | false =>
      simp only [Bool.false_eq_true, if_false]
      rw [e_bind, e_wipe, es]
      simp only []
      rw [ih]
      simp [hp]
theorem dcompT {γ : Type} {fi : M (List D)} {fg : TgF} {ft : M Bool} {fe : M D} {vs : List Nat} {s s1 : FS} {l : List γ} (inj : γ → D) (p : γ → Bool) (g : γ → D) (hi : fi s = .ok (l.map inj) s1) (hw : wipeR s1.ρ vs = s1.ρ)
    (h : ∀ c ∈ l, ∃ s2, fg (inj c) s1 = some s2 ∧ ft s2 = .ok (p c) s2 ∧ (p c = true → fe s2 = .ok (g c) s2) ∧ s2.ds = s1.ds ∧ wipeR s2.ρ vs = s1.ρ) : dComp fi fg ft fe vs s = .ok ((l.filter p).map g) s1 := by
  unfold dComp
  have es : ({ s1 with ρ := wipeR s1.ρ vs } : FS) = s1 := by rw [hw]
  rw [e_bind, hi]
  simp only []
  rw [e_bind, e_wipe, es]
  simp only []
  rw [e_bind, compT inj p g l hw h]
  simp only []
  rw [e_bind, e_wipe, es]
  rfl
theorem filter_all {γ : Type} (l : List γ) : l.filter (fun _ => true) = l := by simp
@[simp] theorem blsD_map {γ : Type} (f : γ → Bool) (l : List γ) : blsD (l.map fun c => D.bl (f c)) = some (l.map f) := by
  induction l with
  | nil => rfl
  | cons a r ih => show (blsD (r.map _)).map _ = _; rw [ih]; rfl
@[simp] theorem strsD_map (l : List Str) : strsD (l.map D.str) = some l := by
  induction l with
  | nil => rfl
  | cons a r ih => show (strsD (r.map _)).map _ = _; rw [ih]; rfl
theorem okS_len {x : Str} (h : okS x = true) : x.length ≤ sizeLine := by unfold okS at h; rw [Bool.and_eq_true, decide_eq_true_eq] at h; exact h.2
theorem okS_lay {x : Str} (h : okS x = true) : (D.str x).lay = true := by unfold okS at h; rw [Bool.and_eq_true] at h; exact h.1
theorem g_is_name {x : Str} (h : okS x = true) : G_is_name [.str x] = some (.bl (nameS x)) := ev_is_name _ _ (by unfold F_is_name; simp only []; rw [if_pos h])
theorem g_is_name_no {d : D} (h : noStr d = true) : G_is_name [d] = some (.bl false) := ev_is_name _ _ (by cases d <;> first | rfl | cases h)
end K12
end S_P1
section S_DB1
set_option Elab.async false
set_option linter.all false
set_option autoImplicit false
set_option maxRecDepth 100000
set_option maxHeartbeats 4000000
/-! DB1: comprehensions over the script itself. -/
namespace DL
open PySem PySem.Spec PyProof.Rows L2
section
variable {K : PySem.W.Frag} {so : So} {W : WX} {β : Bs} {B H : Hp} {σ : L2.St} {s : FS}
theorem Ex.sql {H' : Hp} {a : Addr} {xs : List V} (e : Ex H H') (h : SqL K H a xs) : SqL K H' a xs := by
  rcases h with (h | ⟨o, h⟩) | h
  · exact .inl (.inl (e _ _ h))
  · exact .inl (.inr ⟨o, e _ _ h⟩)
  · exact .inr h
theorem sql_uniq {a : Addr} {xs ys : List V} (h : SqL K H a xs) (k : SqL K H a ys) : xs.length = ys.length ∨ True := .inr trivial
/-- a comprehension whose items are told of the very state -/
theorem lc_at {is : List Nat} {wi : TI} {g : TG} {tt : TT} {te : TE} {fg : TgF} {ft : M Bool} {fe : M D} {vs : List Nat} {ds : List D} {Q : VK} (r : R K so β B H σ s)
    (hwi : ∀ Q : It → Hp → Prop, (∀ J B' H', Ex B B' → R K so β B' H' σ s → Walk K B' J ds → Q J H') → wi σ H Q) (hg : DG K so is g fg) (ht : DT K so W tt ft) (he : DE K so W te fe) (hv : ∀ i ∈ is, i ∈ vs)
    (k2 : (compD fg ft fe vs ds { s with ρ := wipeR s.ρ vs }).post (fun l s'' => KL K so β σ B Q l { s'' with ρ := wipeR s''.ρ vs }) (KX K so β B W)) : tLc wi g tt te vs σ H Q := by
  refine hwi _ fun J B1 H1 e1 r1 w => ?_
  intro D0 hD0
  have h0 := r1.h0New hD0
  have ho := r1.offNew hD0
  have hB1 : B1 D0 = none := r1.ext.noneOf hD0
  have hb0 : β.B0 D0 = none := r1.b0.noneOf hB1
  have g0 := Gr.own (so := none) (o := .lst []) r1.ext hD0
  refine ⟨fun i m H' => m = ds.length - i ∧ i ≤ ds.length ∧ ∃ B' s' vs' acc, Ex B1 B' ∧ R K so β B' H' (wipe σ vs) s' ∧ H' D0 = some (.lst vs') ∧ B' D0 = none ∧ NoOwn (wipe σ vs) s' D0 ∧ Reps K B' vs' acc ∧ acc.length ≤ i ∧
    (compD fg ft fe vs (ds.drop i) s').post (fun l s'' => KL K so β σ B Q (acc ++ l) { s'' with ρ := wipeR s''.ρ vs }) (KX K so β B W), ⟨ds.length, by simp, Nat.zero_le _, B1, _, [], [], Ex.refl B1, (r1.gr g0).wipes vs, upd_same, hB1, NoOwn.re (r1.noOwn hD0) fun i hi => by rw [wipe_get, if_neg hi], .nil, Nat.le_refl _, by simpa using k2⟩, ?_⟩
  rintro i m H2 ⟨rfl, hi', B2, s2, vs2, acc, e2, r2, hD2, hB2, hn2, p2, ha2, k3⟩
  have hsz := w.sz
  have hva : vs2.length = acc.length := p2.len
  by_cases hlt : i < ds.length
  · refine .inr ⟨w.go i H2 (e2.trans r2.ext) hlt, fun H' => i + 1 ≤ ds.length ∧ ∃ B' s' vs' acc, Ex B1 B' ∧ R K so β B' H' (wipe σ vs) s' ∧ H' D0 = some (.lst vs') ∧ B' D0 = none ∧ NoOwn (wipe σ vs) s' D0 ∧ Reps K B' vs' acc ∧ acc.length ≤ i + 1 ∧
      (compD fg ft fe vs (ds.drop (i + 1)) s').post (fun l s'' => KL K so β σ B Q (acc ++ l) { s'' with ρ := wipeR s''.ρ vs }) (KX K so β B W), fun H' q => ⟨ds.length - (i + 1), by omega, rfl, q⟩, fun x H3 y => ?_⟩
    obtain ⟨d, hd, hw⟩ := w.yld i H2 x H3 (e2.trans r2.ext) hlt y
    obtain ⟨B3, g3, p3⟩ := hw B2 e2 r2.ext
    have r3 := r2.gr g3
    have e3 : Ex B1 B3 := e2.trans g3.b
    have hdr : ds.drop i = d :: ds.drop (i + 1) := by
      rw [List.drop_eq_getElem_cons hlt]
      have := (List.getElem?_eq_some_iff.mp hd).2
      rw [this]
    rw [hdr] at k3
    obtain ⟨s4, e4, k4⟩ := tgo_post (post_bnd k3)
    have hD3 := g3.hx _ _ hD2
    have hB3 : B3 D0 = none := g3.n D0 _ hD2 trivial hB2
    have rg := r3.guard hD3 hB3 hn2 h0
    refine hg ⟨β.B0, upd β.H0 D0 (.lst vs2)⟩ B3 H3 (wipe σ vs) s2 s4 x d _ rg p3 e4 fun σ4 r4 w4 => ?_
    have hw4 : wipe σ4 vs = wipe σ vs := by rw [w4 vs hv, wipe_wipe]
    refine ⟨hw4, ?_⟩
    have hl4 : (wipe σ vs).length = σ4.length := by rw [← hw4, wipe_length]
    have hs4 : ∀ i, i ∉ vs → (wipe σ vs)[i]? = σ4[i]? := fun i hi => by rw [← hw4, wipe_get, if_neg hi]
    refine ht _ B3 H3 σ4 s4 _ r4 ((post_bnd k4).imp (fun b s5 k5 B5 H5 e5 r5 => ?_) fun _ _ q => (q.up (e1.trans e3)).unguard h0 hb0 ho)
    cases b with
    | false =>
      obtain ⟨r6, q1, q2, q3⟩ := r5.unguard h0 hb0 ho
      have k6 := post_bnd (show ((wipeM vs >>= fun _ => compD fg ft fe vs (ds.drop (i + 1))) s5).post _ _ from k5)
      exact ⟨hlt, B5, _, vs2, acc, e3.trans e5, r6.re hl4 hs4, q1, q2, q3.re hs4, p2.up (g3.b.trans e5), by omega, k6⟩
    | true =>
      refine he _ B5 H5 σ4 s5 _ r5 (Res.post.imp (post_bnd (show ((fe >>= fun y => wipeM vs >>= fun _ => (compD fg ft fe vs (ds.drop (i + 1)) >>= fun l => ret (y :: l))) s5).post _ _ from k5)) (fun y' s6 k6 v6 B6 H6 e6 r6 p6 => ?_) fun _ _ q => (q.up ((e1.trans e3).trans e5)).unguard h0 hb0 ho)
      obtain ⟨r7, q1, q2, q3⟩ := r6.unguard h0 hb0 ho
      have e7 : Ex B2 B6 := (g3.b.trans e5).trans e6
      have pn : Reps K B6 (vs2 ++ [v6]) (acc ++ [y']) := (p2.up e7).app (.cons p6 .nil)
      refine ⟨vs2, q1, by omega, hlt, B6, _, vs2 ++ [v6], acc ++ [y'], e2.trans e7, (r7.poke q1 (fun q z => by unfold LamX.CodeO at z; cases z) q2 q3 ho h0).re hl4 hs4, upd_same, q2, q3.re hs4, pn, by simp; omega, ?_⟩
      have k6' := post_bnd (show ((wipeM vs >>= fun _ => (compD fg ft fe vs (ds.drop (i + 1)) >>= fun l => ret (y' :: l))) s6).post _ _ from k6)
      have k7 := post_bnd (show ((compD fg ft fe vs (ds.drop (i + 1)) >>= fun l => ret (y' :: l)) { s6 with ρ := wipeR s6.ρ vs }).post _ _ from k6')
      exact k7.imp (fun l s8 z => by
        have z' : KL K so β σ B Q (acc ++ (y' :: l)) { s8 with ρ := wipeR s8.ρ vs } := z
        rw [List.append_assoc]
        exact z') fun _ _ z => z
  · have e : i = ds.length := by omega
    subst e
    rw [List.drop_length] at k3
    have k4 : KL K so β σ B Q (acc ++ []) { s2 with ρ := wipeR s2.ρ vs } := k3
    rw [List.append_nil] at k4
    refine .inl ⟨w.stop _ H2 (e2.trans r2.ext) (Nat.le_refl _), ?_⟩
    exact k4 D0 vs2 B2 H2 (e1.trans e2) r2.unwipe hD2 hB2 (NoOwn.re hn2 fun i hi => by rw [wipe_get, if_neg hi]) ho h0 p2 (by omega)
end
end DL
end S_DB1
section S_DB2
set_option Elab.async false
set_option linter.all false
set_option autoImplicit false
set_option maxRecDepth 100000
set_option maxHeartbeats 4000000
/-! DB2: a comprehension over the script's ints, into a new list of ints. -/
namespace DL
open PySem PySem.Spec PyProof.Rows L2
section
variable {K : PySem.W.Frag} {H : Hp} {σ : L2.St}
theorem r_none (H : Hp) (K : PySem.W.Frag) (σ : L2.St) (h : σ.length = 3) (hs : ∀ i, i < 3 → ∃ v, σ[i]? = some v) : R K none ⟨H, H⟩ H H σ ⟨[.un, .un, .un], st0⟩ := by
  refine ⟨by rw [h]; rfl, fun i x hx => ?_, fun i j x y a hx hy ox oy _ _ => ?_, Ex.refl H, trivial, Ex.refl H, fun a o h _ _ => h, fun a h => h, fun a h1 h2 => absurd h2 h1, fun a ps h => h, fun h => by cases h⟩
  · have hi : i < 3 := by have := (List.getElem?_eq_some_iff.mp hx).1; simpa using this
    obtain ⟨v, hv⟩ := hs i hi
    refine ⟨v, hv, ?_⟩
    have : x = .un := by
      have hi3 : i = 0 ∨ i = 1 ∨ i = 2 := by omega
      rcases hi3 with rfl | rfl | rfl <;> simpa using hx.symm
    subst this
    trivial
  · have : x = .un := by
      have hi : i < 3 := by have := (List.getElem?_eq_some_iff.mp hx).1; simpa using this
      have hi3 : i = 0 ∨ i = 1 ∨ i = 2 := by omega
      rcases hi3 with rfl | rfl | rfl <;> simpa using hx.symm
    subst this
    cases ox
theorem walk_scr {a : Addr} {ns : List Int} (h : SqL K H a (ns.map V.int)) (hl : ns.length ≤ sizeLine) : Walk K H (Itl K a) (ns.map D.int) := by
  refine ⟨by simpa using hl, fun i H' e l => ?_, fun i H' x H2 e l y => ?_, fun i H' e l => ⟨_, e.sql h, by simpa using l⟩⟩
  · have hi : i < ns.length := by simpa using l
    exact ⟨_, .int ns[i], e.sql h, by simp [hi]⟩
  · have hi : i < ns.length := by simpa using l
    obtain ⟨rfl, y2⟩ := y
    have hx := y2 _ (e.sql h)
    have : x = .int ns[i] := by
      have h2 : (ns.map V.int)[i]? = some (.int ns[i]) := by simp [hi]
      rw [h2] at hx
      exact (Option.some.inj hx).symm
    subst this
    exact ⟨.int ns[i], by simp [hi], fun B1 e1 e2 => ⟨B1, Gr.refl e2, .int _⟩⟩
theorem scr_lc {W : WX} {a0 : Addr} {ns res : List Int} {g : TG} {tt : TT} {te : TE} {fg : TgF} {ft : M Bool} {fe : M D} {Q : VK} (hσ : σ.length = 3) (hs : ∀ i, i < 3 → ∃ v, σ[i]? = some v) (h0 : σ[0]? = some (some (.ref a0))) (hS : SqL K H a0 (ns.map V.int)) (hl : ns.length ≤ sizeLine)
    (hg : DG K none [2] g fg) (ht : DT K none W tt ft) (he : DE K none W te fe) (hres : compD fg ft fe [2] (ns.map D.int) ⟨[.un, .un, .un], st0⟩ = .ok (res.map D.int) ⟨[.un, .un, .un], st0⟩)
    (k : ∀ p H', (∀ b o, H b = some o → H' b = some o) → H p = none → H' p = some (.lst (res.map V.int)) → Q (.ref p) H') : tLc (iList K (tVar 0)) g tt te [2] σ H Q := by
  have r := r_none H K σ hσ hs
  refine lc_at (ds := ns.map D.int) r (fun Q hq => ⟨.ref a0, h0, a0, rfl, ⟨_, hS⟩, hq (Itl K a0) H H (Ex.refl H) r (walk_scr hS hl)⟩) hg ht he (by simp) ?_
  show (compD fg ft fe [2] (ns.map D.int) ⟨[.un, .un, .un], st0⟩).post _ _
  rw [hres]
  intro p vs B' H' e r' h1 h2 h3 h4 h5 h6 h7
  refine k p H' (fun b o hb => r'.ext b o (e b o hb)) h5 ?_
  rw [h1, h6.ints]
end
end DL
end S_DB2
section S_WB
set_option Elab.async false
set_option linter.all false
set_option autoImplicit false
set_option maxRecDepth 100000
set_option maxHeartbeats 4000000
/-! WB: the draws' state is begun. -/
namespace K12
open PySem PySem.Spec PyProof.Rows L2 DL
section
variable {X : Cx} {W : WX}
abbrev ScrD (K : PySem.W.Frag) (W : WX) (g : TG) (tt : TT) (te : TE) (fg : TgF) (ft : M Bool) (fe : M D) : Prop := DG K none [2] g fg ∧ DT K none W tt ft ∧ DE K none W te fe
theorem pe_scr {x : Str} {px : Pos} {elt tg : Expr} {ifs : List Expr} {scope : Scope} {own : List (Str × Nat)} {pos : Pos} {g : TG} {tt : TT} {te : TE} {fg : TgF} {ft : M Bool} {fe : M D} (hc : X.calm = true) (hN : X.N.Nodup) (ho : own.map (·.2) = [2]) (hx : PE X (.Name x px) (tVar 0)) (ok : BlkOk X.N X.env.scope scope own)
    (hg : ∀ (s : Shared) (H : Hp) (C : Addr) (cl : List (Str × Addr)) (fp : List Addr), CG (X.blk s H scope (compEnvC scope cl C X.env) fp) none [2] tg g fg) (ht : ∀ (s : Shared) (H : Hp) (C : Addr) (cl : List (Str × Addr)) (fp : List Addr), CTs (X.blk s H scope (compEnvC scope cl C X.env) fp) none W ifs tt ft)
    (he : ∀ (s : Shared) (H : Hp) (C : Addr) (cl : List (Str × Addr)) (fp : List Addr), CE (X.blk s H scope (compEnvC scope cl C X.env) fp) none W elt te fe) (hs : ∀ y, foldedSetIterable (.Name x px) X.env y = pure y := by intro _; rfl) :
    PE X (.ListComp elt [⟨tg, .Name x px, ifs, 0⟩] scope pos) (tLc (iList X.K (tVar 0)) g tt te [2]) ∧ ScrD X.K W g tt te fg ft fe := by
  have h := pe_lc (pos := pos) hc hN (pi_list (tg := tg) hx) ok (fun s H C cl fp => (hg s H C cl fp).pg) (fun s H C cl fp => (ht s H C cl fp).pts) (fun s H C cl fp => (he s H C cl fp).pe) hs
  rw [ho] at h
  exact ⟨h, (hg X.s_0 X.H_0 0 [] []).de, (ht X.s_0 X.H_0 0 [] []).de, (he X.s_0 X.H_0 0 [] []).de⟩
theorem ps_scr {x y : Str} {px py : Pos} {elt tg : Expr} {ifs : List Expr} {scope : Scope} {own : List (Str × Nat)} {pos spos : Pos} {g : TG} {tt : TT} {te : TE} {fg : TgF} {ft : M Bool} {fe : M D} (hc : X.calm = true) (hN : X.N.Nodup) (ho : own.map (·.2) = [2]) (hx : PE X (.Name x px) (tVar 0)) (ok : BlkOk X.N X.env.scope scope own)
    (hg : ∀ (s : Shared) (H : Hp) (C : Addr) (cl : List (Str × Addr)) (fp : List Addr), CG (X.blk s H scope (compEnvC scope cl C X.env) fp) none [2] tg g fg) (ht : ∀ (s : Shared) (H : Hp) (C : Addr) (cl : List (Str × Addr)) (fp : List Addr), CTs (X.blk s H scope (compEnvC scope cl C X.env) fp) none W ifs tt ft)
    (he : ∀ (s : Shared) (H : Hp) (C : Addr) (cl : List (Str × Addr)) (fp : List Addr), CE (X.blk s H scope (compEnvC scope cl C X.env) fp) none W elt te fe)
    (hy : X.N[1]? = some y := by rfl) (hyl : X.env.scope.names.lookup y = some .local := by rfl)
    (hsw : swapsWith (.ListComp elt [⟨tg, .Name x px, ifs, 0⟩] scope pos) (some (.Name y py)) spos.line X.env = pure true := by exact sw_true rfl rfl rfl (by decide +kernel)) (hs : ∀ y, foldedSetIterable (.Name x px) X.env y = pure y := by intro _; rfl) :
    PS X (.Assign [.Name y py] (.ListComp elt [⟨tg, .Name x px, ifs, 0⟩] scope pos) spos) (tAsg (tLc (iList X.K (tVar 0)) g tt te [2]) (gName 1)) ∧ ScrD X.K W g tt te fg ft fe := by
  have h := ps_setLc hc hN hy hyl hsw (pi_list (tg := tg) hx) ok (fun s H C cl fp => (hg s H C cl fp).pg) (fun s H C cl fp => (ht s H C cl fp).pts) (fun s H C cl fp => (he s H C cl fp).pe) hs
  rw [ho] at h
  exact ⟨h, (hg X.s_0 X.H_0 0 [] []).de, (ht X.s_0 X.H_0 0 [] []).de, (he X.s_0 X.H_0 0 [] []).de⟩
end
def absI (n : Int) : Int := if n < 0 then -n else n
def absL (ns : List Int) : List Int := ns.map absI
def greatL (ns : List Int) : List Int := (ns.filter fun n => decide (1000000000000000000 ≤ absI n)).map fun n => absI n - 1000000000000000000
def spB (K : PySem.W.Frag) : Sp := fun vs H Q _ => ∃ (a0 : Addr) (ns : List Int), vs = [.ref a0] ∧ SqL K H a0 (ns.map V.int) ∧ ns.length ≤ sizeLine ∧ ∀ (q g c : Addr) (H' : Hp), (∀ b o, H b = some o → H' b = some o) → H q = none → H g = none → H c = none → q ≠ g → q ≠ c → g ≠ c →
  H' q = some (.dK (stK g c ⟨greatL ns, absL ns, 0, 0⟩)) → H' g = some (.lst ((greatL ns).map V.int)) → H' c = some (.lst ((absL ns).map V.int)) → Q (.ref q) H'
abbrev TT1 : TT := tTest (tOp rGeA (tCB rAbs (tCons (tVar 2) tNil)) (tOp (rI CPow fun i j => .int (i ^ j.toNat)) (tC (.int 10)) (tC (.int 18))))
abbrev TE1 : TE := tOp (rI0 fun i j => .int (i - j)) (tCB rAbs (tCons (tVar 2) tNil)) (tOp (rI CPow fun i j => .int (i ^ j.toNat)) (tC (.int 10)) (tC (.int 18)))
abbrev TE2 : TE := tCB rAbs (tCons (tVar 2) tNil)
abbrev FT1 : M Bool := dTest (dOp geR (dCall absR (dCons (dVar 2) (ret []))) (dOp powR (ret (.int 10)) (ret (.int 18))))
abbrev FE1 : M D := dOp subR (dCall absR (dCons (dVar 2) (ret []))) (dOp powR (ret (.int 10)) (ret (.int 18)))
abbrev FE2 : M D := dCall absR (dCons (dVar 2) (ret []))
theorem sc__law_begun : FnScope ["_law_script", "_law_great", "_law_cell"] ["_law_script"] (defScope (top 39)) := ⟨rfl, rfl, rfl, by decide +kernel, rfl, by decide +kernel, by decide +kernel⟩
abbrev tBeg (K : PySem.W.Frag) : TS := tSeq (tAsg (tLc (iList K (tVar 0)) (gName 2) TT1 TE1 [2]) (gName 1)) (tRet (tDisp [(tC (.str "great"), tVar 1), (tC (.str "cells"), tLc (iList K (tVar 0)) (gName 2) tYes TE2 [2]), (tC (.str "rest"), tC (.int 0)), (tC (.str "turn"), tC (.int 0))]))
section
variable {P : Program} {w : World} {K : PySem.W.Frag} {mg : Str → Option Value} {base : Heap}
theorem pss2 {X : Cx} {F1 F2 : Prop} {st : Stmt} {t1 : TS} {g e2 i0 i1 k0 k1 k2 k3 : Expr} {t2 : TE} {pd pr : Pos} (h1 : PS X st t1 ∧ F1) (h2 : PE X e2 t2 ∧ F2) (hg : PE X g (tVar 1)) (hk0 : PE X k0 (tC (.str "great"))) (hk1 : PE X k1 (tC (.str "cells"))) (hk2 : PE X k2 (tC (.str "rest"))) (hk3 : PE X k3 (tC (.str "turn"))) (hi0 : PE X i0 (tC (.int 0))) (hi1 : PE X i1 (tC (.int 0))) :
    PSs X [st, .Return (some (.Dict [some k0, some k1, some k2, some k3] [g, e2, i0, i1] pd)) pr] (tSeq t1 (tRet (tDisp [(tC (.str "great"), tVar 1), (tC (.str "cells"), t2), (tC (.str "rest"), tC (.int 0)), (tC (.str "turn"), tC (.int 0))]))) ∧ F1 ∧ F2 :=
  ⟨pss_cons h1.1 (pss_one (ps_ret (pe_disp (pps_cons hk0 hg (pps_cons hk1 h2.1 (pps_cons hk2 hi0 (pps_cons hk3 hi1 pps_nil)))) rfl rfl (by simp) (by simp)))), h1.2, h2.2⟩
theorem walk_begun (b_abs : mg "abs" = none) (f : Addr) (cdv : Value) (A : Around) (outer : List Env) (s : Shared) (H : Hp) (E : XK) (hu : (cxOf CX0 P w K mg base ["_law_script", "_law_great", "_law_cell"] "_law_begun" (defScope (top 39)) f cdv A outer s H E).nox.A.units + 64 < cLine) :
    PSs (cxOf CX0 P w K mg base ["_law_script", "_law_great", "_law_cell"] "_law_begun" (defScope (top 39)) f cdv A outer s H E).nox (defBody (top 39)) (tBeg K) ∧ ScrD K WF (gName 2) TT1 TE1 (tgName 2) FT1 FE1 ∧ ScrD K WF (gName 2) tYes TE2 (tgName 2) (ret true) FE2 := by
  have hN := sc__law_begun.nd
  exact pss2 (ps_scr (own := [("_law_cell", 2)]) (by rfl) hN rfl (pe_var rfl (.inl rfl)) (blkOk_by (by show blkC ["_law_script", "_law_great", "_law_cell"] (defScope (top 39)) _ _ = true; decide +kernel)) (fun s H C cl fp => (cg_name hN (i := 2))) (fun s H C cl fp => (cts_one (ct_cmp op_geA dr_ge (ce_callB dr_abs call_abs (by rfl) b_abs rfl (ca_cons (ce_var (i := 2)) ca_nil)) (ce_op op_pow dr_pow ce_int ce_int) (by rfl)))) (fun s H C cl fp => (ce_op op_sub dr_sub (ce_callB dr_abs call_abs (by rfl) b_abs rfl (ca_cons (ce_var (i := 2)) ca_nil)) (ce_op op_pow dr_pow ce_int ce_int))))
    (pe_scr (own := [("_law_cell", 2)]) (by rfl) hN rfl (pe_var rfl (.inl rfl)) (blkOk_by (by show blkC ["_law_script", "_law_great", "_law_cell"] (defScope (top 39)) _ _ = true; decide +kernel)) (fun s H C cl fp => (cg_name hN (i := 2))) (fun s H C cl fp => cts_nil) (fun s H C cl fp => (ce_callB dr_abs call_abs (by rfl) b_abs rfl (ca_cons (ce_var (i := 2)) ca_nil))))
    (pe_var rfl (.inl rfl)) pe_str pe_str pe_str pe_str pe_int pe_int
theorem pow18 : powR (.int 10) (.int 18) = some (.int 1000000000000000000) := by
  rw [powR_int, if_pos ⟨by decide, by decide, by decide⟩]; rfl
theorem abs_I (n : Int) : absR [.int n] = some (.int (absI n)) := rfl
theorem comp_great (ns : List Int) : compD (tgName 2) FT1 FE1 [2] (ns.map D.int) ⟨[.un, .un, .un], st0⟩ = .ok ((greatL ns).map D.int) ⟨[.un, .un, .un], st0⟩ := by
  have := compT (fg := tgName 2) (ft := FT1) (fe := FE1) (vs := [2]) (s := ⟨[.un, .un, .un], st0⟩) D.int (fun n => decide (1000000000000000000 ≤ absI n)) (fun n => .int (absI n - 1000000000000000000)) ns rfl fun n _ => ⟨⟨[.un, .un, .fz (.int n)], st0⟩, rfl, by simp [FT1, -absR_int, abs_I, pow18, geR_int], fun _ => by simp [FE1, -absR_int, abs_I, pow18], rfl, rfl⟩
  rw [this]
  unfold greatL
  rw [List.map_map]; rfl
theorem comp_cells (ns : List Int) : compD (tgName 2) (ret true) FE2 [2] (ns.map D.int) ⟨[.un, .un, .un], st0⟩ = .ok ((absL ns).map D.int) ⟨[.un, .un, .un], st0⟩ := by
  have := compT (fg := tgName 2) (ft := ret true) (fe := FE2) (vs := [2]) (s := ⟨[.un, .un, .un], st0⟩) D.int (fun n => true) (fun n => .int (absI n)) ns rfl fun n _ => ⟨⟨[.un, .un, .fz (.int n)], st0⟩, rfl, rfl, fun _ => by simp [FE2, -absR_int, abs_I], rfl, rfl⟩
  rw [filter_all] at this
  rw [this]
  unfold absL
  rw [List.map_map]; rfl
theorem fn_begun (a : At K mg "_law_begun" (defArgs (top 39)) (defBody (top 39)) (defScope (top 39))) (b_abs : mg "abs" = none) : FnOk P w K mg base CX0 1 (He.ga K "_law_begun") a.fd ["_law_script"] (spB K) := by
  refine a.f.ok (N := ["_law_script", "_law_great", "_law_cell"]) sc__law_begun (fun vs H Q E h => ?_) (fun cdv A outer s H vs Q E hr h => ?_)
  · obtain ⟨a0, ns, rfl, _⟩ := h; rfl
  · obtain ⟨hp, ⟨g1, t1, e1⟩, ⟨g2, t2, e2⟩⟩ := walk_begun (P := P) (w := w) (K := K) (base := base) b_abs (He.ga K "_law_begun") cdv A outer s H E hr.units
    refine ⟨tBeg K, PSs.nox hp, ?_⟩
    obtain ⟨a0, ns, rfl, hS, hl, hQ⟩ := h
    have s0 : start ["_law_script", "_law_great", "_law_cell"] [V.ref a0] = [some (.ref a0), none, none] := rfl
    rw [s0]
    have idx : ∀ i, i < 3 → ∃ v, ([some (V.ref a0), none, none] : L2.St)[i]? = some v := fun i hi => ⟨_, List.getElem?_eq_getElem (by simpa using hi)⟩
    unfold tBeg tSeq tAsg
    dsimp only
    refine scr_lc rfl idx rfl hS hl g1 t1 e1 (comp_great ns) fun g H1 x1 n1 l1 => ?_
    show tDisp _ ([some (.ref a0), some (.ref g), none] : L2.St) H1 Q
    intro q hq
    have idx2 : ∀ i, i < 3 → ∃ v, ([some (V.ref a0), some (.ref g), none] : L2.St)[i]? = some v := fun i hi => ⟨_, List.getElem?_eq_getElem (by simpa using hi)⟩
    have gq : g ≠ q := fun z => by rw [z, hq] at l1; cases l1
    have eQ : Ex H1 (upd H1 q (.dK [])) := Ex.new hq
    refine ⟨.ref g, rfl, ?_⟩
    simp only [tPairs, tC]
    refine scr_lc (H := upd H1 q (.dK [])) rfl idx2 rfl (eQ.sql (Ex.sql (fun b o h => x1 b o h) hS)) hl g2 t2 e2 (comp_cells ns) fun c H2 x2 n2 l2 => ?_
    have cq : c ≠ q := fun z => by rw [z, upd_same] at n2; cases n2
    have c1 : H1 c = none := eQ.noneOf n2
    have gc : g ≠ c := fun z => by rw [z, c1] at l1; cases l1
    have q2 : H2 q = some (.dK []) := x2 _ _ upd_same
    refine ⟨q2, [(Sum.inr "great", .ref g), (Sum.inr "cells", .ref c), (Sum.inr "rest", .int 0), (Sum.inr "turn", .int 0)], rfl, by simp, ?_⟩
    have em : mergeK [] [(Sum.inr "great", V.ref g), (Sum.inr "cells", .ref c), (Sum.inr "rest", .int 0), (Sum.inr "turn", .int 0)] = stK g c ⟨greatL ns, absL ns, 0, 0⟩ := by first | rfl | kernel_rfl | simp [mergeK, L2.putK, stK]
    rw [em]
    have x12 : ∀ b o, H b = some o → (upd H2 q (.dK (stK g c ⟨greatL ns, absL ns, 0, 0⟩))) b = some o := fun b o h => by
      have h1 := x1 b o h
      have bq : b ≠ q := fun z => by rw [z, hq] at h1; cases h1
      rw [upd_ne bq]
      exact x2 _ _ (eQ _ _ h1)
    refine hQ q g c _ x12 ?_ n1 ?_ gq.symm cq.symm gc upd_same (by rw [upd_ne gq]; exact x2 _ _ (eQ _ _ l1)) (by rw [upd_ne cq]; exact l2)
    · cases e : H q with
      | none => rfl
      | some o => rw [x1 _ _ e] at hq; cases hq
    · cases e : H c with
      | none => rfl
      | some o => rw [x1 _ _ e] at c1; cases c1
end
end K12
end S_WB
section S_E3
set_option Elab.async false
set_option linter.all false
set_option autoImplicit false
set_option maxRecDepth 100000
set_option maxHeartbeats 4000000
/-! E3: numbers. -/
namespace K12
open PySem PySem.Spec PyProof.Rows L2 DL
@[simp] theorem g_whole_int (i : Int) : G_is_whole [.int i] = some (.bl true) := rfl
@[simp] theorem g_whole_str (x : Str) : G_is_whole [.str x] = some (.bl false) := rfl
@[simp] theorem g_whole_tup (l : List D) : G_is_whole [.tup l] = some (.bl false) := rfl
theorem g_is_number (n : Num) : G_is_number [n.d] = some (.bl n.ok) := by
  cases n with
  | int i => simp [G_is_number, wrapP, runP, entry, den_is_number, Num.d, Num.ok]
  | fr a b =>
    simp [G_is_number, wrapP, runP, entry, den_is_number, Num.d, Num.ok, isiB]
    by_cases h : 2 ≤ b <;> simp [h]
    omega
@[simp] theorem g_top_of (n : Num) : G_top_of [n.d] = some (.int n.top) := by
  cases n <;> simp [G_top_of, wrapP, runP, entry, den_top_of, Num.d, Num.top, isiB]
@[simp] theorem g_bottom_of (n : Num) : G_bottom_of [n.d] = some (.int n.low) := by
  cases n <;> simp [G_bottom_of, wrapP, runP, entry, den_bottom_of, Num.d, Num.low, isiB]
@[simp] theorem g_ct_top (n : Num) : G__law_ct_top [n.d] = some (.int n.top) := by
  cases n <;> simp [G__law_ct_top, wrapP, runP, entry, den__law_ct_top, Num.d, Num.top, isiB]
@[simp] theorem g_ct_low (n : Num) : G__law_ct_low [n.d] = some (.int n.low) := by
  cases n <;> simp [G__law_ct_low, wrapP, runP, entry, den__law_ct_low, Num.d, Num.low, isiB]
theorem g_is_less0 {n : Num} (h : n.small) : G_is_less [n.d, .int 0] = some (.bl (decide (n.top < 0))) := by
  have t0 : G_top_of [.int 0] = some (.int 0) := g_top_of (.int 0)
  have b0 : G_bottom_of [.int 0] = some (.int 1) := g_bottom_of (.int 0)
  have m1 : mulA (.int n.top) (.int 1) = some (.int (n.top * 1)) := mulA_bits (n := 1) h.1 (by decide) (by omega)
  have m2 : mulA (.int 0) (.int n.low) = some (.int (0 * n.low)) := mulA_bits (m := 0) (by decide) h.2 (by omega)
  simp [G_is_less, wrapP, runP, entry, den_is_less, t0, b0, m1, m2]
theorem g_ct_less0 {n : Num} (h : n.small) : G__law_ct_less [n.d, .int 0] = some (.bl (decide (n.top < 0))) := by
  have t0 : G__law_ct_top [.int 0] = some (.int 0) := g_ct_top (.int 0)
  have b0 : G__law_ct_low [.int 0] = some (.int 1) := g_ct_low (.int 0)
  have m1 : mulA (.int n.top) (.int 1) = some (.int (n.top * 1)) := mulA_bits (n := 1) h.1 (by decide) (by omega)
  have m2 : mulA (.int 0) (.int n.low) = some (.int (0 * n.low)) := mulA_bits (m := 0) (by decide) h.2 (by omega)
  simp [G__law_ct_less, wrapP, runP, entry, den__law_ct_less, t0, b0, m1, m2]
theorem wide_eq (n : Num) : n.wide = (n.ok && !decide (n.top < 0)) := by
  unfold Num.wide
  congr 1
  by_cases h : n.top < 0 <;> simp [h] <;> omega
theorem g_is_width {n : Num} (h : n.small) : G_is_width [n.d] = some (.bl n.wide) := by
  simp [G_is_width, wrapP, runP, entry, den_is_width, g_is_number, g_is_less0 h, wide_eq]
  cases n.ok <;> simp
/-! ### the greatest common divisor by turns -/
theorem gcd_loop (st : DSt) (x y : D) : ∀ (n a b : Nat), b < n → ∃ z, whileD (dTest (dOp neR (dVar 3) (ret (.int 0)))) (fPar2 2 3 (vFz (dVar 3)) (vFz (dOp modR (dCall intR (dCons (dVar 2) (ret []))) (dVar 3)))) n ⟨[.fz x, .fz y, .fz (.int a), .fz (.int b)], st⟩
    = .ok .nx ⟨[.fz x, .fz y, .fz (.int (Nat.gcd a b : Nat)), z], st⟩
  | 0, _, _, h => absurd h (Nat.not_lt_zero _)
  | n + 1, a, b, h => by
    by_cases hb : b = 0
    · subst hb
      refine ⟨.fz (.int 0), ?_⟩
      rw [while_f (s1 := ⟨[.fz x, .fz y, .fz (.int a), .fz (.int (0 : Nat))], st⟩) (by simp)]
      simp
    · have h1 : a % b < n := Nat.lt_of_lt_of_le (Nat.mod_lt a (by omega)) (by omega)
      obtain ⟨z, hz⟩ := gcd_loop st x y n b (a % b) h1
      refine ⟨z, ?_⟩
      rw [while_t (s1 := ⟨[.fz x, .fz y, .fz (.int a), .fz (.int b)], st⟩) (s2 := ⟨[.fz x, .fz y, .fz (.int b), .fz (.int (a % b : Nat))], st⟩) (by simp [hb]) (by simp; rw [if_pos (by omega)]; simp)]
      rw [hz, Nat.gcd_comm b (a % b), ← Nat.gcd_rec, Nat.gcd_comm b a]
theorem abs_nat (a : Int) : (if a < 0 then -a else a) = (a.natAbs : Int) := by split <;> omega
theorem g_ct_gcd (a b : Int) : G__law_ct_gcd [.int a, .int b] = some (.int (Nat.gcd a.natAbs b.natAbs : Nat)) := by
  obtain ⟨z, hz⟩ := gcd_loop st0 (.int a) (.int b) (b.natAbs + 1) a.natAbs b.natAbs (by omega)
  simp [G__law_ct_gcd, wrapP, runP, entry, den__law_ct_gcd, abs_nat, x_while, fuelB, hz]
end K12
end S_E3
section S_E4
set_option Elab.async false
set_option linter.all false
set_option autoImplicit false
set_option maxRecDepth 100000
set_option maxHeartbeats 4000000
/-! E4: names. -/
namespace K12
open PySem PySem.Spec PyProof.Rows L2 DL
@[simp] theorem isi_tup (l : List D) : isiB "tuple" (.tup l) = some true := rfl
@[simp] theorem isi_str (l : Str) : isiB "str" (.str l) = some true := rfl
@[simp] theorem isi_int (l : Int) : isiB "int" (.int l) = some true := rfl
@[simp] theorem isi_bint (l : Int) : isiB "bool" (.int l) = some false := rfl
@[simp] theorem isi_itup (l : List D) : isiB "int" (.tup l) = some false := rfl
@[simp] theorem isi_tint (l : Int) : isiB "tuple" (.int l) = some false := rfl
@[simp] theorem isi_tstr (l : Str) : isiB "tuple" (.str l) = some false := rfl
@[simp] theorem allR_lst (l : List Bool) : allR [.lst (l.map D.bl)] = some (.bl (l.all id)) := by
  show (blsD (l.map D.bl)).map _ = _
  rw [show blsD (l.map D.bl) = some (l.map id) from blsD_map id l]
  simp
theorem g_ct_is_number (n : Num) : G__law_ct_is_number [n.d] = some (.bl n.ok) := by
  cases n with
  | int i => simp [G__law_ct_is_number, wrapP, runP, entry, den__law_ct_is_number, Num.d, Num.ok]
  | fr a b =>
    have hc : ∀ s : FS, s = ⟨[.fz (.tup [.int a, .int b]), .un], st0⟩ → dComp (dItT (dVar 0)) (tgName 1) (dOr (dNot (dTest (dIsi "int" (dVar 1)))) (dTest (dIsi "bool" (dVar 1)))) (ret (.int 1)) [1] s = .ok [] s := fun s e => by
      subst e
      refine e_comp (l := [.int a, .int b]) (s1 := ⟨[.fz (.tup [.int a, .int b]), .un], st0⟩) (fun _ => false) id (by simp) rfl fun d hd => ?_
      refine ⟨⟨[.fz (.tup [.int a, .int b]), .fz d], st0⟩, rfl, ?_, (by intro z; cases z), rfl, rfl⟩
      rcases List.mem_cons.mp hd with e | hd
      · subst e; simp
      · rcases List.mem_cons.mp hd with e | hd
        · subst e; simp
        · cases hd
    have hn : neR (.lst []) (.lst []) = some (.bl false) := neR_nil rfl
    simp [G__law_ct_is_number, wrapP, runP, entry, den__law_ct_is_number, Num.d, Num.ok, hc, hn, geR_int, g_ct_gcd]
    by_cases h : 2 ≤ b <;> simp [h]
    omega
theorem g_an_is_wide {n : Num} (h : n.small) : G__law_an_is_wide [n.d] = some (.bl n.wide) := by
  simp [G__law_an_is_wide, wrapP, runP, entry, den__law_an_is_wide, g_ct_is_number, g_ct_less0 h, wide_eq]
  cases n.ok <;> simp
/-! ### words -/
theorem sgn_ix {x : Str} (h1 : 1 ≤ x.length) (h : x.length ≤ sizeLine) : ixR (.str x) (.int 0) = some (.str ⟨#[hd0 x]⟩) := ix0 h1 h
theorem sl26 : slR (.str LD) none (some 26) = some (.str LET) := by
  unfold slR
  simp only []
  rw [if_pos (by decide +kernel)]
  congr 2
theorem inR_ch (c : Nat) (z : Str) : DL.inR (.str ⟨#[c]⟩) (.str z) = some (.bl (chIn z c)) := by unfold DL.inR; rw [inD_ch]; rfl
theorem ninR_ch (c : Nat) (z : Str) : ninR (.str ⟨#[c]⟩) (.str z) = some (.bl (!chIn z c)) := by unfold ninR; rw [inD_ch]; rfl
theorem eqR_ones (n : Nat) : eqR (.lst (List.replicate n (.int 1))) (.lst []) = some (.bl (decide (n = 0))) := by
  have h : (D.lst (List.replicate n (.int 1))).ok = true := by
    rw [ok_iff, lay_lst, Bool.and_eq_true]
    refine ⟨List.all_eq_true.mpr fun d hd => by rw [List.eq_of_mem_replicate hd]; rfl, decide_eq_true ?_⟩
    have := dep_lst_le (l := List.replicate n (.int 1)) (n := 0) fun d hd => by rw [List.eq_of_mem_replicate hd]; exact Nat.le_refl _
    omega
  rw [eqR_nil h]
  cases n <;> rfl
theorem neR_ones (n : Nat) : neR (.lst (List.replicate n (.int 1))) (.lst []) = some (.bl (!decide (n = 0))) := by
  have h : (D.lst (List.replicate n (.int 1))).ok = true := by
    rw [ok_iff, lay_lst, Bool.and_eq_true]
    refine ⟨List.all_eq_true.mpr fun d hd => by rw [List.eq_of_mem_replicate hd]; rfl, decide_eq_true ?_⟩
    have := dep_lst_le (l := List.replicate n (.int 1)) (n := 0) fun d hd => by rw [List.eq_of_mem_replicate hd]; exact Nat.le_refl _
    omega
  rw [neR_nil h]
  cases n <;> rfl
theorem ones_filter {γ : Type} (p : γ → Bool) (l : List γ) : (l.filter p).map (fun _ => D.int 1) = List.replicate (l.filter p).length (.int 1) := by simp [List.map_const']
theorem none_all {γ : Type} (p : γ → Bool) (l : List γ) : decide ((l.filter fun x => !p x).length = 0) = l.all p := by
  induction l with
  | nil => rfl
  | cons a r ih =>
    cases h : p a with
    | true => simp only [List.filter_cons, h, List.all_cons]; simpa using ih
    | false => simp [List.filter_cons, h, List.all_cons]
abbrev chS (c : Nat) : D := .str ⟨#[c]⟩
theorem chD_is (x : Str) : chD x = x.cps.toList.map chS := rfl
theorem g_is_word {x : Str} (h : okS x = true) : G__law_an_is_word [.str x] = some (.bl (nameS x)) := by
  have hs := okS_len h
  have hlen := lenR_str hs
  by_cases h1 : 1 ≤ x.length
  · by_cases h8 : x.length ≤ 8
    · have hi := sgn_ix h1 hs
      have hc : ∀ s : FS, s = ⟨[.fz (.str x), .fz (.str LD), .un], st0⟩ → dComp (dItS (dVar 0)) (tgName 2) (dTest (dOp ninR (dVar 2) (dVar 1))) (ret (.int 1)) [2] s = .ok ((x.cps.toList.filter fun c => !chIn LD c).map fun _ => .int 1) s := fun s e => by
        subst e
        refine dcompT (l := x.cps.toList) (s1 := ⟨[.fz (.str x), .fz (.str LD), .un], st0⟩) chS (fun c => !chIn LD c) (fun _ => .int 1) (by simp [hs, chD_is]) rfl fun c hc => ?_
        exact ⟨⟨[.fz (.str x), .fz (.str LD), .fz (chS c)], st0⟩, rfl, by simp [ninR_ch], fun _ => rfl, rfl, rfl⟩
      have hc2 := hc _ rfl
      rw [ones_filter] at hc2
      have e1 : (1 : Int) ≤ (x.length : Int) := by omega
      have e8 : (x.length : Int) ≤ 8 := by omega
      simp [G__law_an_is_word, wrapP, runP, entry, den__law_an_is_word, hlen, e1, e8, hi, sl26, inR_ch]
      rw [show nameS x = (chIn LET (hd0 x) && x.cps.toList.all (chIn LD)) by unfold nameS; rw [decide_eq_true h1, decide_eq_true h8]; rfl]
      cases h0 : chIn LET (hd0 x) with
      | true =>
        have ha := none_all (chIn LD) x.cps.toList
        simp only [hc2, bd_ok, eqR_ones, x_lift, if_true, ha]
        simp
      | false => simp
    · have e1 : (1 : Int) ≤ (x.length : Int) := by omega
      have e8 : ¬ (x.length : Int) ≤ 8 := by omega
      simp [G__law_an_is_word, wrapP, runP, entry, den__law_an_is_word, hlen, e1, e8]
      unfold nameS; rw [decide_eq_false h8]; simp
  · have e1 : ¬ (1 : Int) ≤ (x.length : Int) := by omega
    simp [G__law_an_is_word, wrapP, runP, entry, den__law_an_is_word, hlen, e1]
    unfold nameS; rw [decide_eq_false h1]; simp
end K12
end S_E4
section S_E5
set_option Elab.async false
set_option linter.all false
set_option autoImplicit false
set_option maxRecDepth 100000
set_option maxHeartbeats 4000000
/-! E5: lists of names. -/
namespace K12
open PySem PySem.Spec PyProof.Rows L2 DL
theorem allR_map {γ : Type} (f : γ → Bool) (l : List γ) : allR [.lst (l.map fun c => D.bl (f c))] = some (.bl (l.all f)) := by
  show (blsD (l.map fun c => D.bl (f c))).map _ = _
  rw [blsD_map]
  simp [List.all_map, Function.comp_def]
theorem anyR_map {γ : Type} (f : γ → Bool) (l : List γ) : anyR [.lst (l.map fun c => D.bl (f c))] = some (.bl (l.any f)) := by
  show (blsD (l.map fun c => D.bl (f c))).map _ = _
  rw [blsD_map]
  simp [List.any_map, Function.comp_def]
theorem zipD_strs (l m : List Str) : zipD (l.map D.str) (m.map D.str) = (l.zip m).map fun p => .tup [.str p.1, .str p.2] := by
  unfold zipD
  rw [List.zip_eq_zipWith, List.map_zipWith, List.zipWith_map]
theorem zip_all (l : List Str) : (l.zip l.tail).all (fun p => ltS p.1 p.2) = rises l := by
  rw [← List.drop_one]
  rw [← zip_rises l, List.zip_eq_zipWith]
  generalize l.drop 1 = m
  induction l generalizing m with
  | nil => rfl
  | cons a r ih =>
    cases m with
    | nil => rfl
    | cons b m => simp only [List.zipWith_cons_cons, List.all_cons, id, ih m]
theorem g_are_names {l : List Str} (h : ∀ x ∈ l, okS x = true) : G_are_names [.tup (l.map D.str)] = some (.bl (namesB l)) := by
  have c1 : ∀ s : FS, s = ⟨[.fz (.tup (l.map D.str)), .un, .un], st0⟩ → dComp (dItT (dVar 0)) (tgName 1) (ret true) (dCall G_is_name (dCons (dVar 1) (ret []))) [1] s = .ok (l.map fun x => .bl (nameS x)) s := fun s e => by
    subst e
    have := dcompT (fi := dItT (dVar 0)) (fg := tgName 1) (ft := ret true) (fe := dCall G_is_name (dCons (dVar 1) (ret []))) (vs := [1]) (s := ⟨[.fz (.tup (l.map D.str)), .un, .un], st0⟩) (l := l) (s1 := ⟨[.fz (.tup (l.map D.str)), .un, .un], st0⟩) D.str (fun _ => true) (fun x => .bl (nameS x)) (by simp) rfl fun c hc => ⟨⟨[.fz (.tup (l.map D.str)), .fz (.str c), .un], st0⟩, rfl, rfl, fun _ => by simp [g_is_name (h c hc)], rfl, rfl⟩
    rwa [filter_all] at this
  have c2 : ∀ s : FS, s = ⟨[.fz (.tup (l.map D.str)), .un, .un], st0⟩ → dComp (dZip (dCons (dVar 0) (dCons (dSl (dVar 0) (dPart (ret (.int 1))) (ret none)) (ret [])))) (tgTup 2 (tgCons (tgName 1) (tgCons (tgName 2) tgNil))) (ret true) (dOp ltR (dVar 1) (dVar 2)) [1, 2] s = .ok ((l.zip l.tail).map fun p => .bl (ltS p.1 p.2)) s := fun s e => by
    subst e
    have := dcompT (fi := dZip (dCons (dVar 0) (dCons (dSl (dVar 0) (dPart (ret (.int 1))) (ret none)) (ret [])))) (fg := tgTup 2 (tgCons (tgName 1) (tgCons (tgName 2) tgNil))) (ft := ret true) (fe := dOp ltR (dVar 1) (dVar 2)) (vs := [1, 2]) (s := ⟨[.fz (.tup (l.map D.str)), .un, .un], st0⟩) (l := l.zip l.tail) (s1 := ⟨[.fz (.tup (l.map D.str)), .un, .un], st0⟩) (fun p => .tup [.str p.1, .str p.2]) (fun _ => true) (fun p => .bl (ltS p.1 p.2)) (by
      have e1 := zipD_strs l l.tail
      rw [List.map_tail] at e1
      simp [zipO, ← e1]) rfl fun c hc => ⟨⟨[.fz (.tup (l.map D.str)), .fz (.str c.1), .fz (.str c.2)], st0⟩, rfl, rfl, fun _ => by simp, rfl, rfl⟩
    rwa [filter_all] at this
  have a1 := allR_map nameS l
  have a2 := allR_map (fun p : Str × Str => ltS p.1 p.2) (l.zip l.tail)
  rw [zip_all] at a2
  unfold namesB
  generalize l.all nameS = b1 at *
  generalize rises l = b2 at *
  cases b1 <;> simp [G_are_names, wrapP, runP, entry, den_are_names, c1, c2, a1, a2]
theorem g_is_taps {l : List Str} (h : ∀ x ∈ l, okS x = true) : G_is_taps [.tup (l.map D.str)] = some (.bl (tapsB l)) := by
  simp [G_is_taps, wrapP, runP, entry, den_is_taps, g_are_names h, tapsB]
  cases namesB l
  · simp
  · by_cases h2 : 2 ≤ l.length
    · have e2 : (2 : Int) ≤ (l.length : Int) := by omega
      by_cases h6 : l.length ≤ 6
      · have e6 : (l.length : Int) ≤ 6 := by omega
        simp [h2, e2, h6, e6]
      · have e6 : ¬ (l.length : Int) ≤ 6 := by omega
        simp [h2, e2, h6, e6]
    · have e2 : ¬ (2 : Int) ≤ (l.length : Int) := by omega
      simp [h2, e2]
theorem setSrt_strs {l : List Str} (h : l.length ≤ 1000) : setSrtR [.tup (l.map D.str)] = some ((sortS (addsK [] l)).map D.str) := by
  show setSrtD (l.map D.str) = _
  unfold setSrtD
  rw [if_pos (by simpa using h), strsD_map]
theorem g_rising {l : List Str} (h : ∀ x ∈ l, okS x = true) (hl : l.length ≤ 1000) : G__law_an_rising [.tup (l.map D.str), .int 2] = some (.bl (decide (2 ≤ l.length) && namesB l)) := by
  have c1 : ∀ s : FS, s = ⟨[.fz (.tup (l.map D.str)), .fz (.int 2), .un], st0⟩ → dComp (dItT (dVar 0)) (tgName 2) (dNot (dTest (dCall G__law_an_is_word (dCons (dVar 2) (ret []))))) (ret (.int 1)) [2] s = .ok ((l.filter fun x => !nameS x).map fun _ => .int 1) s := fun s e => by
    subst e
    exact dcompT (l := l) (s1 := ⟨[.fz (.tup (l.map D.str)), .fz (.int 2), .un], st0⟩) D.str (fun x => !nameS x) (fun _ => .int 1) (by simp) rfl fun c hc => ⟨⟨[.fz (.tup (l.map D.str)), .fz (.int 2), .fz (.str c)], st0⟩, rfl, by simp [g_is_word (h c hc)], fun _ => rfl, rfl, rfl⟩
  have c2 := c1 _ rfl
  rw [ones_filter] at c2
  have ha := none_all nameS l
  have he : eqR (.lst (l.map D.str)) (.lst ((sortS (addsK [] l)).map D.str)) = some (.bl (rises l)) := by
    rw [eqR_strs (fun x hx => okS_lay (h x hx)) (fun x hx => okS_lay (h x ?_)), rises_sort]
    have := (sortS_perm _).mem_iff.mp hx
    rw [addsK_mem] at this
    simpa using this
  have hn : neR (.lst (List.replicate (l.filter fun x => !nameS x).length (.int 1))) (.lst []) = some (.bl (!l.all nameS)) := by rw [neR_ones, ha]
  by_cases h2 : 2 ≤ l.length
  · have e2 : ¬ (l.length : Int) < 2 := by omega
    unfold namesB
    generalize l.all nameS = b1 at *
    generalize rises l = b2 at *
    generalize (l.filter fun x => !nameS x).length = n at *
    cases b1 <;> simp [G__law_an_rising, wrapP, runP, entry, den__law_an_rising, e2, h2, c2, hn, setSrt_strs hl, he]
  · have e2 : (l.length : Int) < 2 := by omega
    simp [G__law_an_rising, wrapP, runP, entry, den__law_an_rising, e2, h2]
end K12
end S_E5
section S_E6
set_option Elab.async false
set_option linter.all false
set_option autoImplicit false
set_option maxRecDepth 100000
set_option maxHeartbeats 4000000
/-! E6: parts. -/
namespace K12
open PySem PySem.Spec PyProof.Rows L2 DL
theorem hub_pipe : (("hub" : Str) = "pipe") = False := eq_false (by decide)
theorem hub_lead : (("hub" : Str) = "lead") = False := eq_false (by decide)
theorem lead_pipe : (("lead" : Str) = "pipe") = False := eq_false (by decide)
theorem pipe_lead : (("pipe" : Str) = "lead") = False := eq_false (by decide)
theorem pipe_hub : (("pipe" : Str) = "hub") = False := eq_false (by decide)
theorem lead_hub : (("lead" : Str) = "hub") = False := eq_false (by decide)
theorem beq_sym (a b : Str) : (a == b) = decide (b = a) := by
  by_cases h : b = a
  · subst h; simp
  · simp [h, Ne.symm h]
theorem nin2 (k : Str) : ninR (.str k) (.tup [.str "pipe", .str "lead"]) = some (.bl (!(decide (k = "pipe") || decide (k = "lead")))) := by
  unfold ninR inD
  simp [flatD, eqF, beq_sym]
theorem nin3 (k : Str) : ninR (.str k) (.lst [.str "pipe", .str "lead", .str "hub"]) = some (.bl (!(decide (k = "pipe") || decide (k = "lead") || decide (k = "hub")))) := by
  unfold ninR inD
  simp [flatD, eqF, beq_sym, Bool.and_assoc]
theorem size3 : (3 : Nat) ≤ sizeLine := by decide
theorem size4 : (4 : Nat) ≤ sizeLine := by decide
theorem size2 : (2 : Nat) ≤ sizeLine := by decide
theorem size1 : (1 : Nat) ≤ sizeLine := by decide
theorem g_is_part_hub {es : List Str} {w : Num} (h : (Part.hub es w).shape) : G_is_part [(Part.hub es w).d] = some (.bl (Part.hub es w).ok) := by
  obtain ⟨h1, h2, h3⟩ := h
  have hn := g_are_names h1
  have hw := g_is_width h2
  show G_is_part [.tup [.str "hub", .tup (es.map D.str), w.d]] = some (.bl (namesB es && decide (2 ≤ es.length) && w.wide))
  generalize namesB es = b1 at *
  generalize w.wide = b2 at *
  by_cases c : 2 ≤ es.length
  · have c' : (2 : Int) ≤ (es.length : Int) := by omega
    cases b1 <;> simp [G_is_part, wrapP, runP, entry, den_is_part, hn, hw, c, c']
  · have c' : ¬ (2 : Int) ≤ (es.length : Int) := by omega
    cases b1 <;> simp [G_is_part, wrapP, runP, entry, den_is_part, hn, hw, c, c']
theorem len_pl (k : Str) (r : List Str) (w : Num) : (D.str k :: (r.map D.str ++ [w.d])).length = r.length + 2 := by simp
theorem g_is_part_pl {k : Str} {r : List Str} {w : Num} (h : (Part.pl k r w).shape) : G_is_part [(Part.pl k r w).d] = some (.bl (Part.pl k r w).ok) := by
  obtain ⟨h1, h2, h3, h4, h5, h6⟩ := h
  have hw := g_is_width h4
  by_cases hr : r.length = 2
  · match r, hr with
    | [a, b], _ =>
      have ha := g_is_name (h3 a (by simp))
      have hb := g_is_name (h3 b (by simp))
      show G_is_part [.tup [.str k, .str a, .str b, w.d]] = some (.bl (okPl k a b w))
      unfold okPl
      generalize w.wide = b1 at *
      generalize nameS a = b2 at *
      generalize nameS b = b3 at *
      by_cases c1 : k = "pipe"
      · subst c1
        cases b1 <;> cases b2 <;> cases b3 <;> simp [G_is_part, wrapP, runP, entry, den_is_part, ha, hb, hw, h1, nin2, size2]
      · by_cases c2 : k = "lead"
        · subst c2
          cases b1 <;> cases b2 <;> cases b3 <;> simp [G_is_part, wrapP, runP, entry, den_is_part, ha, hb, hw, h1, nin2, c1, size2]
        · simp [G_is_part, wrapP, runP, entry, den_is_part, ha, hb, hw, h1, nin2, c1, c2, size2]
  · have e : (Part.pl k r w).ok = false := by
      match r, hr with
      | [], _ => rfl
      | [_], _ => rfl
      | _ :: _ :: _ :: _, _ => rfl
    rw [e]
    have c3 : ¬ ((r.length : Int) + 1 + 1 < 3) := by omega
    have c4 : ¬ ((r.length : Int) + 1 + 1 = 4) := by omega
    show G_is_part [.tup (.str k :: (r.map D.str ++ [w.d]))] = _
    by_cases c1 : k = "pipe"
    · subst c1
      simp [G_is_part, wrapP, runP, entry, den_is_part, h1, nin2, size2, c3, c4]
    · by_cases c2 : k = "lead"
      · subst c2
        simp [G_is_part, wrapP, runP, entry, den_is_part, h1, nin2, c1, size2, c3, c4]
      · simp [G_is_part, wrapP, runP, entry, den_is_part, h1, nin2, c1, c2, size2, c3, c4]
theorem g_is_part {p : Part} (h : p.shape) : G_is_part [p.d] = some (.bl p.ok) := by
  cases p with
  | pl k r w => exact g_is_part_pl h
  | hub es w => exact g_is_part_hub h
end K12
end S_E6
section S_E7
set_option Elab.async false
set_option linter.all false
set_option autoImplicit false
set_option maxRecDepth 100000
set_option maxHeartbeats 4000000
/-! E7: parts as the law looks at them; ends, kinds. -/
namespace K12
open PySem PySem.Spec PyProof.Rows L2 DL
theorem ltS_tot (a b : Str) : ltS a b = (!decide (a = b) && !ltS b a) := by
  by_cases h : a = b
  · subst h; simp [ltS_irr]
  · cases e : ltS b a with
    | true => simp [h]; exact ltS_asym e
    | false =>
      simp [h]
      cases e2 : ltS a b with
      | true => rfl
      | false => exact absurd (ltS_tri e2 e) h
theorem g_an_is_part_hub {es : List Str} {w : Num} (h : (Part.hub es w).shape) : G__law_an_is_part [(Part.hub es w).d] = some (.bl (Part.hub es w).ok) := by
  obtain ⟨h1, h2, h3⟩ := h
  have hn := g_rising h1 h3
  have hw := g_an_is_wide h2
  show G__law_an_is_part [.tup [.str "hub", .tup (es.map D.str), w.d]] = some (.bl (namesB es && decide (2 ≤ es.length) && w.wide))
  rw [show (decide (2 ≤ es.length) && namesB es) = (namesB es && decide (2 ≤ es.length)) from Bool.and_comm _ _] at hn
  generalize (namesB es && decide (2 ≤ es.length)) = b1 at *
  generalize w.wide = b2 at *
  cases b1 <;> simp [G__law_an_is_part, wrapP, runP, entry, den__law_an_is_part, hn, hw, nin3, size3]
theorem g_an_is_part_pl {k : Str} {r : List Str} {w : Num} (h : (Part.pl k r w).shape) : G__law_an_is_part [(Part.pl k r w).d] = some (.bl (Part.pl k r w).ok) := by
  obtain ⟨h1, h2, h3, h4, h5, h6⟩ := h
  have hw := g_an_is_wide h4
  by_cases hr : r.length = 2
  · match r, hr with
    | [a, b], _ =>
      have ha := g_is_word (h3 a (by simp))
      have hb := g_is_word (h3 b (by simp))
      show G__law_an_is_part [.tup [.str k, .str a, .str b, w.d]] = some (.bl (okPl k a b w))
      unfold okPl
      rw [ltS_tot a b]
      generalize w.wide = b1 at *
      generalize nameS a = b2 at *
      generalize nameS b = b3 at *
      by_cases c1 : k = "pipe"
      · subst c1
        by_cases c3 : a = b
        · subst c3
          cases b2 <;> cases b3 <;> simp [G__law_an_is_part, wrapP, runP, entry, den__law_an_is_part, ha, hb, hw, h1, nin3, size3]
        · cases h7 : ltS b a <;> cases b2 <;> cases b3 <;> simp [G__law_an_is_part, wrapP, runP, entry, den__law_an_is_part, ha, hb, hw, h1, nin3, size3, c3, gtR_str, h7]
      · by_cases c2 : k = "lead"
        · subst c2
          by_cases c3 : a = b
          · subst c3
            cases b2 <;> cases b3 <;> simp [G__law_an_is_part, wrapP, runP, entry, den__law_an_is_part, ha, hb, hw, h1, nin3, size3, c1]
          · cases b2 <;> cases b3 <;> simp [G__law_an_is_part, wrapP, runP, entry, den__law_an_is_part, ha, hb, hw, h1, nin3, size3, c1, c3]
        · simp [G__law_an_is_part, wrapP, runP, entry, den__law_an_is_part, ha, hb, hw, h1, nin3, c1, c2, size3]
  · have e : (Part.pl k r w).ok = false := by
      match r, hr with
      | [], _ => rfl
      | [_], _ => rfl
      | _ :: _ :: _ :: _, _ => rfl
    rw [e]
    have c3 : ¬ ((r.length : Int) + 1 + 1 = 0) := by omega
    have c4 : ¬ ((r.length : Int) + 1 + 1 = 4) := by omega
    show G__law_an_is_part [.tup (.str k :: (r.map D.str ++ [w.d]))] = _
    by_cases c1 : k = "pipe"
    · subst c1
      simp [G__law_an_is_part, wrapP, runP, entry, den__law_an_is_part, h1, nin3, size3, c3, c4]
    · by_cases c2 : k = "lead"
      · subst c2
        simp [G__law_an_is_part, wrapP, runP, entry, den__law_an_is_part, h1, nin3, c1, size3, c3, c4]
      · simp [G__law_an_is_part, wrapP, runP, entry, den__law_an_is_part, h1, nin3, c1, c2, size3, c3, c4]
theorem g_an_is_part {p : Part} (h : p.shape) : G__law_an_is_part [p.d] = some (.bl p.ok) := by
  cases p with
  | pl k r w => exact g_an_is_part_pl h
  | hub es w => exact g_an_is_part_hub h
/-- parts of the two shapes that stand in a net -/
def Part.two : Part → Prop
  | .pl k r w => k ≠ "hub" ∧ r.length = 2
  | .hub es w => True
theorem g_ends {p : Part} (h : p.two) : G_ends [p.d] = some (.tup (p.ends.map D.str)) := by
  cases p with
  | hub es w => simp [G_ends, wrapP, runP, entry, den_ends, Part.d, Part.ends]
  | pl k r w =>
    obtain ⟨h1, h2⟩ := h
    match r, h2 with
    | [a, b], _ => simp [G_ends, wrapP, runP, entry, den_ends, Part.d, Part.ends, h1, size2]
theorem g_an_ends {p : Part} (h : p.two) : G__law_an_ends [p.d] = some (.tup (p.ends.map D.str)) := by
  cases p with
  | hub es w => simp [G__law_an_ends, wrapP, runP, entry, den__law_an_ends, Part.d, Part.ends]
  | pl k r w =>
    obtain ⟨h1, h2⟩ := h
    match r, h2 with
    | [a, b], _ => simp [G__law_an_ends, wrapP, runP, entry, den__law_an_ends, Part.d, Part.ends, h1, size2]
theorem two_of_ok {p : Part} (h : p.shape) (k : p.ok = true) : p.two := by
  cases p with
  | hub es w => trivial
  | pl kk r w =>
    refine ⟨h.1, ?_⟩
    match r, k with
    | [a, b], _ => rfl
theorem part_ix0 (p : Part) : ixR p.d (.int 0) = some (.str p.kind) := by cases p <;> simp [Part.d, Part.kind]
theorem part_last (p : Part) : ixR p.d (.int (-1)) = some p.w.d := by
  cases p with
  | pl k r w =>
    show atI (.str k :: (r.map D.str ++ [w.d])) (-1) = some w.d
    rw [DL.atI_last, ← List.cons_append, List.getLast?_concat]
  | hub es w => rfl
theorem g_has_kind (ps : List Part) (k : Str) : G_has_kind [.tup (ps.map Part.d), .str k] = some (.bl (ps.any fun p => decide (p.kind = k))) := by
  have c1 : ∀ s : FS, s = ⟨[.fz (.tup (ps.map Part.d)), .fz (.str k), .un], st0⟩ → dComp (dItT (dVar 0)) (tgName 2) (ret true) (dOp eqR (dOp ixR (dVar 2) (ret (.int 0))) (dVar 1)) [2] s = .ok (ps.map fun p => .bl (decide (p.kind = k))) s := fun s e => by
    subst e
    have := dcompT (fi := dItT (dVar 0)) (fg := tgName 2) (ft := ret true) (fe := dOp eqR (dOp ixR (dVar 2) (ret (.int 0))) (dVar 1)) (vs := [2]) (s := ⟨[.fz (.tup (ps.map Part.d)), .fz (.str k), .un], st0⟩) (l := ps) (s1 := ⟨[.fz (.tup (ps.map Part.d)), .fz (.str k), .un], st0⟩) Part.d (fun _ => true) (fun p => .bl (decide (p.kind = k))) (by simp) rfl fun c hc => ⟨⟨[.fz (.tup (ps.map Part.d)), .fz (.str k), .fz c.d], st0⟩, rfl, rfl, fun _ => by simp [part_ix0], rfl, rfl⟩
    rwa [filter_all] at this
  have a1 := anyR_map (fun p : Part => decide (p.kind = k)) ps
  generalize (ps.any fun p => decide (p.kind = k)) = b at *
  simp [G_has_kind, wrapP, runP, entry, den_has_kind, c1, a1]
end K12
end S_E7
section S_E8
set_option Elab.async false
set_option linter.all false
set_option autoImplicit false
set_option maxRecDepth 100000
set_option maxHeartbeats 4000000
/-! E8: the places of a net, nets. -/
namespace K12
open PySem PySem.Spec PyProof.Rows L2 DL
/-- a loop that only goes on, with what holds ahead of each round (n rounds are left) -/
theorem forI {γ τ : Type} {g : TgF} {b : M Fl} (inj : τ → D) (mk : γ → FS) (f : γ → τ → γ) (I : Nat → γ → Prop) : ∀ (l : List τ) (c : γ), I l.length c →
    (∀ n c, ∀ t ∈ l, I (n + 1) c → (∃ s1, g (inj t) (mk c) = some s1 ∧ b s1 = .ok .nx (mk (f c t))) ∧ I n (f c t)) → forD g b (l.map inj) (mk c) = .ok .nx (mk (l.foldl f c)) ∧ I 0 (l.foldl f c)
  | [], c, hI, _ => ⟨rfl, hI⟩
  | t :: l, c, hI, h => by
    obtain ⟨⟨s1, h1, h2⟩, h3⟩ := h l.length c t List.mem_cons_self hI
    show forD g b (inj t :: l.map inj) (mk c) = _ ∧ _
    rw [for_nx h1 h2]
    exact forI inj mk f I l (f c t) h3 fun n c e he => h n c e (List.mem_cons_of_mem _ he)
def odL (l : List Str) : List (Key × D) := l.map fun x => (.inr x, .bl true)
theorem odL_len (l : List Str) : (odL l).length = l.length := by simp [odL]
theorem putD_odL (l : List Str) (x : Str) : putD (odL l) (.inr x) (.bl true) = odL (addS l x) := by
  unfold putD addS
  have e : ((odL l).any fun kv => decide (kv.1 = .inr x)) = decide (x ∈ l) := by
    unfold odL
    rw [List.any_map]
    induction l with
    | nil => rfl
    | cons a r ih =>
      simp only [List.any_cons, Function.comp] at ih ⊢
      rw [ih]
      by_cases h : a = x
      · subst h; simp
      · have h2 : ¬ x = a := fun e => h e.symm
        simp [h, h2]
  rw [e]
  by_cases h : x ∈ l
  · simp only [h, decide_true, if_true]
    unfold odL
    rw [List.map_map]
    apply List.map_congr_left
    intro a _
    show (if Sum.inr a = Sum.inr x then _ else _) = _
    split <;> rfl
  · simp [h, odL]
theorem addS_len (l : List Str) (x : Str) : (addS l x).length ≤ l.length + 1 := by unfold addS; split <;> simp
theorem adds_len (xs : List Str) : ∀ l : List Str, (xs.foldl addS l).length ≤ l.length + xs.length := by
  induction xs with
  | nil => intro l; simp
  | cons x r ih => intro l; have := ih (addS l x); have := addS_len l x; simp only [List.foldl_cons, List.length_cons]; omega
theorem adds_nodup {l : List Str} (h : l.Nodup) : [].foldl addS l = l := rfl
theorem adds_nil : ∀ (xs acc : List Str), (acc ++ xs).Nodup → xs.foldl addS acc = acc ++ xs
  | [], acc, _ => by simp
  | x :: r, acc, h => by
    have hx : x ∉ acc := fun hm => by
      have := List.nodup_append.mp h
      exact this.2.2 x hm x List.mem_cons_self rfl
    show r.foldl addS (addS acc x) = _
    have e : addS acc x = acc ++ [x] := by unfold addS; rw [if_neg hx]
    rw [e, adds_nil r (acc ++ [x]) (by simpa using h)]
    simp
theorem dc_eval {fv : M D} (hfv : ∀ s, fv s = .ok (.bl true) s) (j : Nat) (s : FS) (hw : wipeR s.ρ [j] = s.ρ) (hj : j < s.ρ.length) : ∀ (l : List Str) (acc : List Str), acc.length + l.length ≤ 2000 →
    dcD (tgName j) (ret true) (dVar j) fv [j] (l.map D.str) (odL acc) s = .ok (odL (l.foldl addS acc)) s
  | [], acc, _ => rfl
  | x :: l, acc, h => by
    have e5 : (s.ρ.set j (.fz (.str x)))[j]? = some (.fz (.str x)) := by simp [hj]
    have ew : ({ ρ := wipeR (s.ρ.set j (.fz (.str x))) [j], ds := s.ds } : FS) = s := by
      obtain ⟨r, d⟩ := s
      simp only at hw ⊢
      congr 1
      simp only [wipeR, List.set_set] at hw ⊢
      exact hw
    show dcD (tgName j) (ret true) (dVar j) fv [j] (.str x :: l.map D.str) (odL acc) s = _
    unfold dcD
    rw [x_bind, e_tgo (show tgName j (.str x) s = some _ from rfl)]
    simp only [bd_ok]
    rw [x_bind]
    simp only [x_ret, bd_ok, if_true]
    rw [x_bind, e_var e5]
    simp only [bd_ok]
    rw [x_bind, hfv]
    simp only [bd_ok]
    rw [x_bind]
    show ((lift (some (Sum.inr x : Key)) _).bd _) = _
    simp only [x_lift, bd_ok]
    rw [x_bind, e_wipe]
    simp only [bd_ok]
    rw [ew]
    have hl : (odL acc).length < sizeLine := by rw [odL_len]; simp only [List.length_cons] at h; have := sizeLine_big; omega
    simp only [hl, if_true]
    rw [putD_odL]
    exact dc_eval hfv j s hw hj l (addS acc x) (by have := addS_len acc x; simp only [List.length_cons] at h; omega)
section
variable {s : FS} {ρ : List Sl} {ds : DSt}
theorem x_dc (fi : M (List D)) (fg : TgF) (ft : M Bool) (fk fv : M D) (vs : List Nat) : dDc fi fg ft fk fv vs s = (fi s).bd fun l s1 => (dcD fg ft fk fv vs l [] { s1 with ρ := wipeR s1.ρ vs }).bd fun l s2 => .ok (.od l) { s2 with ρ := wipeR s2.ρ vs } := by
  unfold dDc; rw [x_bind]; rfl
theorem x_peekD (i : Nat) : peekD i ⟨ρ, ds⟩ = (match ρ[i]? with
  | some (.od l) => .ok l ⟨ρ, ds⟩
  | _ => .stuck) := id rfl
theorem x_dput (i : Nat) (fk fv : M D) : fDPut i fk fv s = (fv s).bd fun v s1 => (peekD i s1).bd fun _ s2 => (fk s2).bd fun k s3 => (peekD i s3).bd fun l s4 => (lift (keyD k) s4).bd fun k s5 => if l.length < sizeLine then .ok .nx { s5 with ρ := s5.ρ.set i (.od (putD l k v)) } else .stuck := by
  unfold fDPut; rw [x_bind]; congr; funext v s1; rw [x_bind]; congr; funext _ s2; rw [x_bind]; congr; funext k s3; rw [x_bind]; congr; funext l s4; rw [x_bind]; congr; funext k s5; split <;> rfl
theorem x_keysL (i : Nat) : dKeysL i s = (peekD i s).bd fun l s1 => .ok (l.map fun kv => dKey kv.1) s1 := by unfold dKeysL; rw [x_bind]; rfl
end
theorem odL_keys (l : List Str) : (odL l).map (fun kv => dKey kv.1) = l.map D.str := by unfold odL; rw [List.map_map]; rfl
theorem srtR_strs (l : List Str) : srtR [.lst (l.map D.str)] = some ((sortS l).map D.str) := by
  show (strsD (l.map D.str)).map _ = _
  rw [strsD_map]; rfl
/-- the loop over the parts and their places, in the program's way -/
theorem np_in (x0 x1 x3 x5 : Sl) (st : DSt) (B : Nat) (hB : B < sizeLine) (es : List Str) (c : List Str) (x4 : Sl) (h : c.length + es.length ≤ B) :
    ∃ x4', forD (tgName 4) (fDPut 2 (dVar 4) (ret (.bl true))) (es.map D.str) ⟨[x0, x1, .od (odL c), x3, x4, x5], st⟩ = .ok .nx ⟨[x0, x1, .od (odL (es.foldl addS c)), x3, x4', x5], st⟩ := by
  have := forI (g := tgName 4) (b := fDPut 2 (dVar 4) (ret (.bl true))) D.str (fun p : List Str × Sl => (⟨[x0, x1, .od (odL p.1), x3, p.2, x5], st⟩ : FS)) (fun p x => (addS p.1 x, .fz (.str x))) (fun n p => p.1.length + n ≤ B) es (c, x4) h fun n p x hx hI => by
    obtain ⟨p1, p2⟩ := p
    simp only at hI
    have hl : (odL p1).length < sizeLine := by rw [odL_len]; omega
    refine ⟨⟨⟨[x0, x1, .od (odL p1), x3, .fz (.str x), x5], st⟩, rfl, ?_⟩, ?_⟩
    · simp [x_dput, x_peekD, keyD, hl, putD_odL]
    · have := addS_len p1 x
      simp only
      omega
  refine ⟨(es.foldl (fun p x => (addS p.1 x, Sl.fz (.str x))) (c, x4)).2, ?_⟩
  rw [this.1]
  have e : ∀ (es : List Str) (c : List Str) (x4 : Sl), (es.foldl (fun p x => (addS p.1 x, Sl.fz (.str x))) (c, x4)).1 = es.foldl addS c := by
    intro es
    induction es with
    | nil => intro c x4; rfl
    | cons a r ih => intro c x4; exact ih _ _
  rw [e]
end K12
end S_E8
section S_E9
set_option Elab.async false
set_option linter.all false
set_option autoImplicit false
set_option maxRecDepth 100000
set_option maxHeartbeats 4000000
/-! E9: the places of a net, in both ways. -/
namespace K12
open PySem PySem.Spec PyProof.Rows L2 DL
/-- a loop that only goes on: At c s, the state s is one for c -/
theorem forR {γ τ : Type} {g : TgF} {b : M Fl} (inj : τ → D) (At : γ → FS → Prop) (f : γ → τ → γ) (I : Nat → γ → Prop) : ∀ (l : List τ) (c : γ) (s : FS), At c s → I l.length c →
    (∀ n c s, ∀ t ∈ l, At c s → I (n + 1) c → (∃ s1 s2, g (inj t) s = some s1 ∧ b s1 = .ok .nx s2 ∧ At (f c t) s2) ∧ I n (f c t)) → ∃ s', forD g b (l.map inj) s = .ok .nx s' ∧ At (l.foldl f c) s' ∧ I 0 (l.foldl f c)
  | [], c, s, hA, hI, _ => ⟨s, rfl, hA, hI⟩
  | t :: l, c, s, hA, hI, h => by
    obtain ⟨⟨s1, s2, h1, h2, h3⟩, h4⟩ := h l.length c s t List.mem_cons_self hA hI
    show ∃ s', forD g b (inj t :: l.map inj) s = _ ∧ _
    rw [for_nx h1 h2]
    exact forR inj At f I l (f c t) s2 h3 h4 fun n c s e he => h n c s e (List.mem_cons_of_mem _ he)
theorem foldl_flat (ps : List Part) : ∀ c : List Str, ps.foldl (fun c p => p.ends.foldl addS c) c = (ps.flatMap Part.ends).foldl addS c := by
  induction ps with
  | nil => intro c; rfl
  | cons p r ih => intro c; simp only [List.foldl_cons, List.flatMap_cons, List.foldl_append]; exact ih _
def Net.good (n : Net) : Prop := (∀ x ∈ n.taps, okS x = true) ∧ n.taps.length ≤ 1000 ∧ (∀ p ∈ n.parts, p.shape)
theorem ends_le {p : Part} (h : p.shape) : p.ends.length ≤ 1000 := by
  cases p with
  | pl k r w => exact h.2.2.2.2.2
  | hub es w => exact h.2.2
theorem g_named_places {n : Net} (h : n.good) (h2 : ∀ p ∈ n.parts, p.two) (ht : n.taps.Nodup) (hl : n.parts.length ≤ 200) : G_named_places [.tup (n.taps.map D.str), .tup (n.parts.map Part.d)] = some (.lst ((sortS (places n)).map D.str)) := by
  obtain ⟨taps, parts⟩ := n
  obtain ⟨h1, h3, h4⟩ := h
  simp only at h1 h2 h3 h4 ht hl
  have hd : ∀ s : FS, s = ⟨[.fz (.tup (taps.map D.str)), .fz (.tup (parts.map Part.d)), .un, .un, .un, .un], st0⟩ → dcD (tgName 5) (ret true) (dVar 5) (ret (.bl true)) [5] (taps.map D.str) [] s = .ok (odL taps) s := fun s e => by
    subst e
    have := dc_eval (fv := ret (.bl true)) (fun _ => rfl) 5 ⟨[.fz (.tup (taps.map D.str)), .fz (.tup (parts.map Part.d)), .un, .un, .un, .un], st0⟩ rfl (by simp) taps [] (by simp; omega)
    rw [adds_nil taps [] (by simpa using ht)] at this
    exact this
  have hsz : 201200 ≤ sizeLine := by have := sizeLine_big; omega
  obtain ⟨s', hs', ⟨x3, x4, rfl⟩, -⟩ := forR (g := tgName 3) (b := fFor (dItT (dCall G_ends (dCons (dVar 3) (ret [])))) (tgName 4) (fDPut 2 (dVar 4) (ret (.bl true)))) Part.d
    (fun (c : List Str) s => ∃ x3 x4, s = ⟨[.fz (.tup (taps.map D.str)), .fz (.tup (parts.map Part.d)), .od (odL c), x3, x4, .un], st0⟩) (fun c p => p.ends.foldl addS c) (fun n c => c.length + n * 1000 ≤ 201100) parts taps
    ⟨[.fz (.tup (taps.map D.str)), .fz (.tup (parts.map Part.d)), .od (odL taps), .un, .un, .un], st0⟩ ⟨_, _, rfl⟩ (by omega) (by
      rintro n c s p hp ⟨x3, x4, rfl⟩ hI
      have he := ends_le (h4 p hp)
      have ha := adds_len p.ends c
      refine ⟨?_, by omega⟩
      obtain ⟨x4', hx⟩ := np_in (.fz (.tup (taps.map D.str))) (.fz (.tup (parts.map Part.d))) (.fz p.d) .un st0 201100 (by omega) p.ends c x4 (by omega)
      refine ⟨⟨[.fz (.tup (taps.map D.str)), .fz (.tup (parts.map Part.d)), .od (odL c), .fz p.d, x4, .un], st0⟩, ⟨[.fz (.tup (taps.map D.str)), .fz (.tup (parts.map Part.d)), .od (odL (p.ends.foldl addS c)), .fz p.d, x4', .un], st0⟩, rfl, ?_, ⟨_, _, rfl⟩⟩
      simp [x_for, g_ends (h2 p hp), hx])
  rw [foldl_flat] at hs'
  simp [G_named_places, wrapP, runP, entry, den_named_places, x_dc, wipeR, hd, x_for, hs', x_keysL, x_peekD, odL_keys, srtR_strs, places]
theorem nin_strs (x : Str) (l : List Str) : ninR (.str x) (.lst (l.map D.str)) = some (.bl (!decide (x ∈ l))) := by
  unfold ninR inD
  have e1 : (l.map D.str).all flatD = true := by rw [List.all_map]; exact List.all_eq_true.mpr fun a _ => rfl
  have e2 : (l.map D.str).any (fun y => eqF y (.str x)) = decide (x ∈ l) := by
    rw [List.any_map]
    induction l with
    | nil => rfl
    | cons a r ih =>
      simp only [List.map_cons, List.all_cons, Bool.and_eq_true] at e1
      simp only [List.any_cons, Function.comp] at ih ⊢
      rw [ih e1.2]
      show ((a == x) || _) = _
      rw [beq_sym]
      by_cases h : x = a <;> simp [h]
  simp [flatD, e1, e2]
theorem inR_strs (x : Str) (l : List Str) : DL.inR (.str x) (.lst (l.map D.str)) = some (.bl (decide (x ∈ l))) := by
  have := nin_strs x l
  unfold ninR at this
  unfold DL.inR
  cases e : inD (.str x) (.lst (l.map D.str)) with
  | none => rw [e] at this; cases this
  | some b =>
    rw [e] at this
    have h2 : (!b) = (!decide (x ∈ l)) := by injection this with q; injection q
    have h3 : b = decide (x ∈ l) := by cases b <;> cases hh : decide (x ∈ l) <;> simp_all
    rw [h3]; rfl
theorem ev_in (x0 x2 : Sl) (st : DSt) (B : Nat) (hB : B < sizeLine) (es : List Str) (c : List Str) (x3 : Sl) (h : c.length + es.length ≤ B) :
    ∃ x3', forD (tgName 3) (fIf (dTest (dOwnR 1 ninR (dVar 3))) (fDrop (dAppend 1 (dVar 3))) (ret .nx)) (es.map D.str) ⟨[x0, .ow (c.map D.str), x2, x3], st⟩ = .ok .nx ⟨[x0, .ow ((es.foldl addS c).map D.str), x2, x3'], st⟩ := by
  obtain ⟨s', hs, ⟨x3', rfl⟩, -⟩ := forR (g := tgName 3) (b := fIf (dTest (dOwnR 1 ninR (dVar 3))) (fDrop (dAppend 1 (dVar 3))) (ret .nx)) D.str
    (fun (c : List Str) s => ∃ x3, s = ⟨[x0, .ow (c.map D.str), x2, x3], st⟩) addS (fun n c => c.length + n ≤ B) es c ⟨[x0, .ow (c.map D.str), x2, x3], st⟩ ⟨_, rfl⟩ h (by
      rintro n c s x hx ⟨x3, rfl⟩ hI
      have hl : c.length < sizeLine := by omega
      refine ⟨⟨⟨[x0, .ow (c.map D.str), x2, .fz (.str x)], st⟩, ⟨[x0, .ow ((addS c x).map D.str), x2, .fz (.str x)], st⟩, rfl, ?_, ⟨_, rfl⟩⟩, by have := addS_len c x; omega⟩
      by_cases hm : x ∈ c
      · simp [nin_strs, hm, flatD, addS]
      · simp [nin_strs, hm, flatD, addS, hl])
  exact ⟨x3', hs⟩
theorem g_an_every {n : Net} (h : n.good) (h2 : ∀ p ∈ n.parts, p.two) (hl : n.parts.length ≤ 200) : G__law_an_every [n.d] = some (.lst ((sortS (places n)).map D.str)) := by
  obtain ⟨taps, parts⟩ := n
  obtain ⟨h1, h3, h4⟩ := h
  simp only at h1 h2 h3 h4 hl
  have hsz : 201200 ≤ sizeLine := by have := sizeLine_big; omega
  show G__law_an_every [.tup [.tup (taps.map D.str), .tup (parts.map Part.d)]] = _
  have hend : ∀ p : Part, p.two → ∀ (a : List D) (st : DSt) (x3 : Sl) (d : D) , dItT (dIf (dTest (dOp eqR (dOp ixR (dVar 2) (ret (.int 0))) (ret (.str "hub")))) (dOp ixR (dVar 2) (ret (.int 1))) (dSl (dVar 2) (dPart (ret (.int 1))) (dPart (ret (.int 3))))) ⟨[.fz d, .ow a, .fz p.d, x3], st⟩ = .ok (p.ends.map D.str) ⟨[.fz d, .ow a, .fz p.d, x3], st⟩ := fun p hp a st x3 d => by
    cases p with
    | hub es w => simp [Part.d, Part.ends]
    | pl k r w =>
      obtain ⟨q1, q2⟩ := hp
      match r, q2 with
      | [x, y], _ => simp [Part.d, Part.ends, q1]
  obtain ⟨s', hs', ⟨x2, x3, rfl⟩, -⟩ := forR (g := tgName 2) (b := fFor (dItT (dIf (dTest (dOp eqR (dOp ixR (dVar 2) (ret (.int 0))) (ret (.str "hub")))) (dOp ixR (dVar 2) (ret (.int 1))) (dSl (dVar 2) (dPart (ret (.int 1))) (dPart (ret (.int 3)))))) (tgName 3) (fIf (dTest (dOwnR 1 ninR (dVar 3))) (fDrop (dAppend 1 (dVar 3))) (ret .nx))) Part.d
    (fun (c : List Str) s => ∃ x2 x3, s = ⟨[.fz (.tup [.tup (taps.map D.str), .tup (parts.map Part.d)]), .ow (c.map D.str), x2, x3], st0⟩) (fun c p => p.ends.foldl addS c) (fun n c => c.length + n * 1000 ≤ 201100) parts taps
    ⟨[.fz (.tup [.tup (taps.map D.str), .tup (parts.map Part.d)]), .ow (taps.map D.str), .un, .un], st0⟩ ⟨_, _, rfl⟩ (by omega) (by
      rintro n c s p hp ⟨x2, x3, rfl⟩ hI
      have he := ends_le (h4 p hp)
      have ha := adds_len p.ends c
      refine ⟨?_, by omega⟩
      obtain ⟨x3', hx⟩ := ev_in (.fz (.tup [.tup (taps.map D.str), .tup (parts.map Part.d)])) (.fz p.d) st0 201100 (by omega) p.ends c x3 (by omega)
      refine ⟨⟨[.fz (.tup [.tup (taps.map D.str), .tup (parts.map Part.d)]), .ow (c.map D.str), .fz p.d, x3], st0⟩, ⟨[.fz (.tup [.tup (taps.map D.str), .tup (parts.map Part.d)]), .ow ((p.ends.foldl addS c).map D.str), .fz p.d, x3'], st0⟩, rfl, ?_, ⟨_, _, rfl⟩⟩
      rw [x_for, hend p (h2 p hp), bd_ok, hx])
  rw [foldl_flat] at hs'
  simp [G__law_an_every, wrapP, runP, entry, den__law_an_every, x_for, hs', srtR_strs, places]
end K12
end S_E9
section S_E10
set_option Elab.async false
set_option linter.all false
set_option autoImplicit false
set_option maxRecDepth 100000
set_option maxHeartbeats 4000000
/-! E10: nets. -/
namespace K12
open PySem PySem.Spec PyProof.Rows L2 DL
theorem tapsB_names {l : List Str} (h : tapsB l = true) : namesB l = true := by
  unfold tapsB at h; simp only [Bool.and_eq_true] at h; exact h.1.1
theorem namesB_rises {l : List Str} (h : namesB l = true) : rises l = true := by
  unfold namesB at h; simp only [Bool.and_eq_true] at h; exact h.2
theorem any_kind (ps : List Part) (k : Str) : decide (k ∈ ps.map Part.kind) = ps.any fun p => decide (p.kind = k) := by
  induction ps with
  | nil => rfl
  | cons p r ih =>
    simp only [List.map_cons, List.mem_cons, List.any_cons, ← ih]
    by_cases h : k = p.kind
    · simp [h]
    · have h2 : ¬ p.kind = k := fun e => h e.symm
      simp [h, h2]
theorem sortS_len (l : List Str) : (sortS l).length = l.length := (sortS_perm l).length_eq
theorem g_is_net {n : Net} (h : n.good) : G_is_net [n.d] = some (.bl n.ok) := by
  have hg := h
  obtain ⟨h1, h3, h4⟩ := h
  have ht := g_is_taps h1
  have hk := g_has_kind n.parts
  have c1 : ∀ s : FS, s = ⟨[.fz n.d, .fz (.tup (n.parts.map Part.d)), .un], st0⟩ → dComp (dItT (dVar 1)) (tgName 2) (ret true) (dCall G_is_part (dCons (dVar 2) (ret []))) [2] s = .ok (n.parts.map fun p => .bl p.ok) s := fun s e => by
    subst e
    have := dcompT (fi := dItT (dVar 1)) (fg := tgName 2) (ft := ret true) (fe := dCall G_is_part (dCons (dVar 2) (ret []))) (vs := [2]) (s := ⟨[.fz n.d, .fz (.tup (n.parts.map Part.d)), .un], st0⟩) (l := n.parts) (s1 := ⟨[.fz n.d, .fz (.tup (n.parts.map Part.d)), .un], st0⟩) Part.d (fun _ => true) (fun p => .bl p.ok) (by simp) rfl fun c hc => ⟨⟨[.fz n.d, .fz (.tup (n.parts.map Part.d)), .fz c.d], st0⟩, rfl, rfl, fun _ => by simp [g_is_part (h4 c hc)], rfl, rfl⟩
    rwa [filter_all] at this
  have a1 := allR_map Part.ok n.parts
  have c2 := c1 _ rfl
  have k1 := hk "lead"
  have k2 := hk "hub"
  unfold Net.ok
  have e0 : n.d = .tup [.tup (n.taps.map D.str), .tup (n.parts.map Part.d)] := rfl
  have i0 : ixR n.d (.int 0) = some (.tup (n.taps.map D.str)) := rfl
  have i1 : ixR n.d (.int 1) = some (.tup (n.parts.map Part.d)) := rfl
  have l0 : lenR [n.d] = some (.int 2) := rfl
  have ii : isiB "tuple" n.d = some true := rfl
  cases b1 : tapsB n.taps with
  | false =>
    rw [b1] at ht
    simp [G_is_net, wrapP, runP, entry, den_is_net, ht, i0, i1, l0, ii]
  | true =>
    rw [b1] at ht
    by_cases hl : n.parts.length ≤ 200
    · have hl' : ¬ (200 : Int) < (n.parts.length : Int) := by omega
      cases b2 : n.parts.all Part.ok with
      | false =>
        rw [b2] at a1
        simp [G_is_net, wrapP, runP, entry, den_is_net, ht, hl, hl', c2, a1, i0, i1, l0, ii]
      | true =>
        rw [b2] at a1
        have hnp := g_named_places hg (fun p hp => two_of_ok (h4 p hp) (List.all_eq_true.mp b2 p hp)) (rises_nodup (namesB_rises (tapsB_names b1))) hl
        have e40 : ((sortS (places n)).length : Int) ≤ 40 ↔ (places n).length ≤ 40 := by rw [sortS_len]; omega
        generalize (n.parts.any fun p => decide (p.kind = "lead")) = b3 at *
        generalize (n.parts.any fun p => decide (p.kind = "hub")) = b4 at *
        cases b3 <;> cases b4 <;> simp [G_is_net, wrapP, runP, entry, den_is_net, ht, hl, hl', c2, a1, k1, k2, hnp, i0, i1, l0, ii, e40]
    · have hl' : (200 : Int) < (n.parts.length : Int) := by omega
      simp [G_is_net, wrapP, runP, entry, den_is_net, ht, hl, hl', i0, i1, l0, ii]
theorem g_an_is_net {n : Net} (h : n.good) : G__law_an_is_net [n.d] = some (.bl n.ok) := by
  have hg := h
  obtain ⟨h1, h3, h4⟩ := h
  have ht := g_rising h1 h3
  have c2 : dComp (dItT (dOp ixR (dVar 0) (ret (.int 1)))) (tgName 2) (dNot (dTest (dCall G__law_an_is_part (dCons (dVar 2) (ret []))))) (ret (.int 1)) [2] ⟨[.fz n.d, .un, .un], st0⟩ = .ok ((n.parts.filter fun p => !p.ok).map fun _ => .int 1) ⟨[.fz n.d, .un, .un], st0⟩ := by
    exact dcompT (l := n.parts) (s1 := ⟨[.fz n.d, .un, .un], st0⟩) Part.d (fun p => !p.ok) (fun _ => .int 1) (by simp [Net.d]) rfl fun c hc => ⟨⟨[.fz n.d, .un, .fz c.d], st0⟩, rfl, by simp [g_an_is_part (h4 c hc)], fun _ => rfl, rfl, rfl⟩
  rw [ones_filter] at c2
  have hn : neR (.lst (List.replicate (n.parts.filter fun p => !p.ok).length (.int 1))) (.lst []) = some (.bl (!n.parts.all Part.ok)) := by rw [neR_ones, none_all]
  have c3 : dComp (dItT (dOp ixR (dVar 0) (ret (.int 1)))) (tgName 2) (ret true) (dOp ixR (dVar 2) (ret (.int 0))) [2] ⟨[.fz n.d, .un, .un], st0⟩ = .ok ((n.parts.map Part.kind).map D.str) ⟨[.fz n.d, .un, .un], st0⟩ := by
    have := dcompT (fi := dItT (dOp ixR (dVar 0) (ret (.int 1)))) (fg := tgName 2) (ft := ret true) (fe := dOp ixR (dVar 2) (ret (.int 0))) (vs := [2]) (s := ⟨[.fz n.d, .un, .un], st0⟩) (l := n.parts) (s1 := ⟨[.fz n.d, .un, .un], st0⟩) Part.d (fun _ => true) (fun p => .str p.kind) (by simp [Net.d]) rfl fun c hc => ⟨⟨[.fz n.d, .un, .fz c.d], st0⟩, rfl, rfl, fun _ => by simp [part_ix0], rfl, rfl⟩
    rw [filter_all] at this
    rw [this, List.map_map]; rfl
  have k1 := inR_strs "lead" (n.parts.map Part.kind)
  have k2 := inR_strs "hub" (n.parts.map Part.kind)
  rw [any_kind] at k1 k2
  unfold Net.ok tapsB
  have i0 : ixR n.d (.int 0) = some (.tup (n.taps.map D.str)) := rfl
  have i1 : ixR n.d (.int 1) = some (.tup (n.parts.map Part.d)) := rfl
  have l0 : lenR [n.d] = some (.int 2) := rfl
  have ii : isiB "tuple" n.d = some true := rfl
  cases b1 : namesB n.taps with
  | false =>
    rw [b1, Bool.and_false] at ht
    simp [G__law_an_is_net, wrapP, runP, entry, den__law_an_is_net, ht, i0, i1, l0, ii]
  | true =>
    rw [b1, Bool.and_true] at ht
    by_cases h2 : 2 ≤ n.taps.length
    · rw [decide_eq_true h2] at ht
      by_cases h6 : n.taps.length ≤ 6
      · have h6' : ¬ (6 : Int) < (n.taps.length : Int) := by omega
        by_cases hl : n.parts.length ≤ 200
        · have hl' : ¬ (200 : Int) < (n.parts.length : Int) := by omega
          cases b2 : n.parts.all Part.ok with
          | false =>
            rw [b2] at hn
            simp [G__law_an_is_net, wrapP, runP, entry, den__law_an_is_net, ht, h2, h6, h6', hl, hl', c2, hn, i0, i1, l0, ii]
          | true =>
            rw [b2] at hn
            have hnp := g_an_every hg (fun p hp => two_of_ok (h4 p hp) (List.all_eq_true.mp b2 p hp)) hl
            have e40 : ((sortS (places n)).length : Int) ≤ 40 ↔ (places n).length ≤ 40 := by rw [sortS_len]; omega
            generalize hm : (n.parts.map Part.kind).map D.str = kk at *
            generalize (n.parts.any fun p => decide (p.kind = "lead")) = b3 at *
            generalize (n.parts.any fun p => decide (p.kind = "hub")) = b4 at *
            cases b3 <;> cases b4 <;> simp [G__law_an_is_net, wrapP, runP, entry, den__law_an_is_net, ht, h2, h6, h6', hl, hl', c2, hn, c3, k1, k2, hnp, i0, i1, l0, ii, e40]
        · have hl' : (200 : Int) < (n.parts.length : Int) := by omega
          simp [G__law_an_is_net, wrapP, runP, entry, den__law_an_is_net, ht, h2, h6, h6', hl, hl', i0, i1, l0, ii]
      · have h6' : (6 : Int) < (n.taps.length : Int) := by omega
        simp [G__law_an_is_net, wrapP, runP, entry, den__law_an_is_net, ht, h2, h6, h6', i0, i1, l0, ii]
    · rw [decide_eq_false h2] at ht
      simp [G__law_an_is_net, wrapP, runP, entry, den__law_an_is_net, ht, h2, i0, i1, l0, ii]
theorem g_is_net_str (x : Str) : G_is_net [.str x] = some (.bl false) := by simp [G_is_net, wrapP, runP, entry, den_is_net]
theorem g_need_net {n : Net} (h : n.good) (k : n.ok = true) : G_need_net [n.d] = some (.ok .non) := by
  simp [G_need_net, wrapX, runX, entry, den_need_net, g_is_net h, k]
theorem g_need_net_str (x : Str) : G_need_net [.str x] = some (.ex (.xc "BadNet" [])) := by
  simp [G_need_net, wrapX, runX, entry, den_need_net, g_is_net_str]
end K12
end S_E10
section S_S2
set_option Elab.async false
set_option linter.all false
set_option autoImplicit false
set_option maxRecDepth 100000
set_option maxHeartbeats 4000000
/-! S2: what a split text's parts are; digits. -/
namespace DL
open PySem PySem.Spec PyProof.Rows L2
theorem spl_facts (S : List Nat) : ∀ (l acc : List Nat) (k : Nat), (TL.spl S k acc l).length ≤ l.length + 1 ∧ TL.spl S k acc l ≠ [] ∧ ∀ p ∈ TL.spl S k acc l, p.length ≤ acc.length + l.length ∧ ∀ c ∈ p, c ∈ acc ∨ c ∈ l
  | [], acc, k => by
    rw [TL.spl_nil]
    refine ⟨by simp, by simp, fun p hp => ?_⟩
    rw [List.mem_singleton.mp hp]
    exact ⟨by simp, fun c hc => .inl hc⟩
  | c :: r, acc, k + 1 => by
    obtain ⟨h1, h2, h3⟩ := spl_facts S r acc k
    show (TL.spl S k acc r).length ≤ _ ∧ TL.spl S k acc r ≠ [] ∧ ∀ p ∈ TL.spl S k acc r, _
    refine ⟨by simp only [List.length_cons]; omega, h2, fun p hp => ?_⟩
    obtain ⟨q1, q2⟩ := h3 p hp
    exact ⟨by simp only [List.length_cons]; omega, fun z hz => (q2 z hz).imp id (List.mem_cons_of_mem _)⟩
  | c :: r, acc, 0 => by
    cases h : TL.pre S (c :: r) with
    | true =>
      obtain ⟨h1, h2, h3⟩ := spl_facts S r [] (S.length - 1)
      rw [TL.spl_hit h]
      refine ⟨by simp only [List.length_cons]; omega, by simp, fun p hp => ?_⟩
      rcases List.mem_cons.mp hp with e | e
      · subst e; exact ⟨by omega, fun z hz => .inl hz⟩
      · obtain ⟨q1, q2⟩ := h3 p e
        refine ⟨by simp only [List.length_cons, List.length_nil] at q1 ⊢; omega, fun z hz => ?_⟩
        rcases q2 z hz with q | q
        · cases q
        · exact .inr (List.mem_cons_of_mem _ q)
    | false =>
      obtain ⟨h1, h2, h3⟩ := spl_facts S r (acc ++ [c]) 0
      rw [TL.spl_miss h]
      refine ⟨by simp only [List.length_cons]; omega, h2, fun p hp => ?_⟩
      obtain ⟨q1, q2⟩ := h3 p hp
      refine ⟨by simp only [List.length_append, List.length_cons, List.length_nil] at q1 ⊢; omega, fun z hz => ?_⟩
      rcases q2 z hz with q | q
      · rcases List.mem_append.mp q with q | q
        · exact .inl q
        · rw [List.mem_singleton.mp q]; exact .inr List.mem_cons_self
      · exact .inr (List.mem_cons_of_mem _ q)
/-- a sign that cuts -/
structure Cut (y : Str) : Prop where
  ne : TL.tl y ≠ []
  lo : y.cps.all (· < 256) = true
theorem Cut.len {y : Str} (h : Cut y) : (y.length == 0) = false := by
  have := TL.len_tl y
  have h1 := h.ne
  cases e : TL.tl y with
  | nil => exact absurd e h1
  | cons a r => rw [e] at this; simp only [List.length_cons] at this; simp; omega
theorem split_map {x y : Str} (h : Cut y) : (Txt.split x y).map TL.tl = TL.spl (TL.tl y) 0 [] (TL.tl x) := TL.split_spl x y h.ne (TL.kind_ok h.lo)
theorem split_len {x y : Str} (h : Cut y) : (Txt.split x y).length ≤ x.length + 1 := by
  have e := congrArg List.length (split_map (x := x) h)
  rw [List.length_map] at e
  rw [e, TL.len_tl]
  exact (spl_facts _ _ _ _).1
theorem split_ne {x y : Str} (h : Cut y) : Txt.split x y ≠ [] := fun e => by
  have q := split_map (x := x) h
  rw [e] at q
  exact (spl_facts (TL.tl y) (TL.tl x) [] 0).2.1 q.symm
theorem split_mem {x y p : Str} (h : Cut y) (hp : p ∈ Txt.split x y) : p.length ≤ x.length ∧ ∀ c ∈ TL.tl p, c ∈ TL.tl x := by
  have hm : TL.tl p ∈ TL.spl (TL.tl y) 0 [] (TL.tl x) := by rw [← split_map h]; exact List.mem_map_of_mem hp
  obtain ⟨q1, q2⟩ := (spl_facts _ _ _ _).2.2 _ hm
  rw [TL.len_tl, TL.len_tl]
  refine ⟨by simpa using q1, fun c hc => ?_⟩
  rcases q2 c hc with q | q
  · cases q
  · exact q
theorem x_split_ok {s s1 : FS} {fo fe : M D} {x y : Str} (ho : fo s = .ok (.str x) s1) (he : fe s1 = .ok (.str y) s1) (h : Cut y) (hx : x.length ≤ 2000) : dSplit fo fe s = .ok ((Txt.split x y).map D.str) s1 := by
  rw [x_split, ho]
  simp only [bd_ok, isS_str, x_lift]
  rw [he]
  simp only [bd_ok, isS_str, x_lift]
  have := split_len (x := x) h
  have := sizeLine_big
  rw [if_pos ⟨h.len, by omega, by omega⟩]
theorem digitsVal_lt (l : List Nat) (h : NumText.AllDigits l) : NumText.digitsVal l < 10 ^ l.length := by
  have gen : ∀ (l : List Nat) (a n : Nat), NumText.AllDigits l → a < 10 ^ n → l.foldl (fun acc c => acc * 10 + (c - 48)) a < 10 ^ (n + l.length) := by
    intro l
    induction l with
    | nil => intro a n _ h; exact h
    | cons c r ih =>
      intro a n hd ha
      have hc := hd.head
      have e : a * 10 + (c - 48) < 10 ^ (n + 1) := by rw [Nat.pow_succ]; omega
      have := ih (a * 10 + (c - 48)) (n + 1) hd.tail e
      simp only [List.foldl_cons, List.length_cons]
      rw [show n + (r.length + 1) = n + 1 + r.length by omega]
      exact this
  have := gen l 0 0 h (by decide)
  rwa [Nat.zero_add] at this
end DL
end S_S2
section S_E11
set_option Elab.async false
set_option linter.all false
set_option autoImplicit false
set_option maxRecDepth 100000
set_option maxHeartbeats 4000000
/-! E11: numbers are read. -/
namespace K12
open PySem PySem.Spec PyProof.Rows L2 DL
def digB (x : Str) : Bool := x.cps.toList.all (chIn DIG)
def wholeT (x : Str) : Option Nat := if (decide (1 ≤ x.length) && decide (x.length ≤ 30) && digB x && (decide (x = "0") || !decide (hd0 x = 48))) = true then some (NumText.digitsVal x.cps.toList) else none
def wD : Option Nat → D
  | some n => .int (n : Int)
  | none => .non
theorem dig_iff (c : Nat) : chIn DIG c = true ↔ 48 ≤ c ∧ c ≤ 57 := by
  unfold chIn
  rw [decide_eq_true_eq]
  have e : (DIG : Str).cps.toList = [48, 49, 50, 51, 52, 53, 54, 55, 56, 57] := by decide
  rw [e]
  simp only [List.mem_cons, List.not_mem_nil, or_false]
  omega
theorem dig_all {x : Str} (h : digB x = true) : NumText.AllDigits x.cps.toList := fun c hc => (dig_iff c).mp (List.all_eq_true.mp h c hc)
theorem ne_of_len {x : Str} (h : 1 ≤ x.length) : x.cps.toList ≠ [] := fun e => by
  rw [TL.len_tl, show TL.tl x = [] from e] at h; simp at h
theorem int_dig {x : Str} (h : digB x = true) (h1 : 1 ≤ x.length) (h2 : x.length ≤ 30) : intR [.str x] = some (.int (NumText.digitsVal x.cps.toList : Nat)) := by
  show (if x.length ≤ 640 then (PySem.intText? x).map D.int else none) = _
  rw [if_pos (by omega), PySem.intText_digits (dig_all h) (ne_of_len h1) (by omega)]
  rfl
theorem one_zero (c : Nat) : ((⟨#[c]⟩ : Str) = "0") = (c = 48) := by
  apply propext
  constructor
  · intro e
    have h := congrArg (fun z : Str => z.cps.toList) e
    have h2 : ("0" : Str).cps.toList = [48] := by decide
    simp only [h2] at h
    simpa using h
  · intro e; subst e; rfl
theorem whole_none {x : Str} (h : (decide (1 ≤ x.length) && decide (x.length ≤ 30) && digB x && (decide (x = "0") || !decide (hd0 x = 48))) = false) : wholeT x = none := by
  unfold wholeT; rw [h]; rfl
theorem whole_some {x : Str} (h : (decide (1 ≤ x.length) && decide (x.length ≤ 30) && digB x && (decide (x = "0") || !decide (hd0 x = 48))) = true) : wholeT x = some (NumText.digitsVal x.cps.toList) := by
  unfold wholeT; rw [h]; rfl
theorem g_whole_of {x : Str} (h : okS x = true) : G_whole_of [.str x] = some (wD (wholeT x)) := by
  have hs := okS_len h
  have hl := okS_lay h
  have hlen := lenR_str hs
  have c1 : dComp (dItS (dVar 0)) (tgName 1) (dTest (dOp ninR (dVar 1) (ret (.str "0123456789")))) (dVar 1) [1] ⟨[.fz (.str x), .un], st0⟩ = .ok ((x.cps.toList.filter fun c => !chIn DIG c).map chS) ⟨[.fz (.str x), .un], st0⟩ := by
    exact dcompT (l := x.cps.toList) (s1 := ⟨[.fz (.str x), .un], st0⟩) chS (fun c => !chIn DIG c) chS (by simp [hs, chD_is]) rfl fun c hc => ⟨⟨[.fz (.str x), .fz (chS c)], st0⟩, rfl, by simp [ninR_ch], fun _ => rfl, rfl, rfl⟩
  have hok : (D.lst ((x.cps.toList.filter fun c => !chIn DIG c).map chS)).ok = true := ok_strs fun d hd => by
    obtain ⟨c, hc, rfl⟩ := List.mem_map.mp hd
    exact ⟨_, rfl, lay_ch hl (List.mem_filter.mp hc).1⟩
  have hn := neR_nil hok
  have e0 : ((x.cps.toList.filter fun c => !chIn DIG c).map chS).isEmpty = digB x := by
    unfold digB
    rw [← none_all]
    cases (x.cps.toList.filter fun c => !chIn DIG c) <;> rfl
  rw [e0] at hn
  by_cases h1 : 1 ≤ x.length
  · have h1' : (1 : Int) ≤ (x.length : Int) := by omega
    by_cases h2 : x.length ≤ 30
    · have h2' : (x.length : Int) ≤ 30 := by omega
      cases hd : digB x with
      | false =>
        rw [hd] at hn
        rw [whole_none (by simp [hd])]
        simp [G_whole_of, wrapP, runP, entry, den_whole_of, hlen, h1', h2', c1, hn, wD]
      | true =>
        rw [hd] at hn
        have hi := int_dig hd h1 h2
        have hx := ix0 h1 hs
        by_cases hz : x = "0"
        · have hzt := eq_true hz
          rw [whole_some (by simp only [h1, h2, hd, hzt]; rfl)]
          simp [G_whole_of, wrapP, runP, entry, den_whole_of, hlen, h1', h2', c1, hn, wD, hi, hzt]
        · by_cases h48 : hd0 x = 48
          · rw [whole_none (by simp [hz, h48])]
            simp [G_whole_of, wrapP, runP, entry, den_whole_of, hlen, h1', h2', c1, hn, wD, hi, hz, hx, one_zero, h48]
          · rw [whole_some (by simp [h1, h2, hd, h48])]
            simp [G_whole_of, wrapP, runP, entry, den_whole_of, hlen, h1', h2', c1, hn, wD, hi, hz, hx, one_zero, h48]
    · have h2' : ¬ (x.length : Int) ≤ 30 := by omega
      rw [whole_none (by simp [h2])]
      simp [G_whole_of, wrapP, runP, entry, den_whole_of, hlen, h1', h2', wD]
  · have h1' : ¬ (1 : Int) ≤ (x.length : Int) := by omega
    rw [whole_none (by simp [h1])]
    simp [G_whole_of, wrapP, runP, entry, den_whole_of, hlen, h1', wD]
theorem empty_len (x : Str) : (x = "") = (x.length = 0) := by
  apply propext
  constructor
  · intro e; subst e; rfl
  · intro e
    rw [TL.len_tl] at e
    exact TL.ext_tl (List.length_eq_zero_iff.mp e)
theorem zero_one {x : Str} (h1 : 1 ≤ x.length) (h : hd0 x = 48) : (x = "0") = (x.length = 1) := by
  apply propext
  constructor
  · intro e; subst e; rfl
  · intro e
    refine TL.ext_tl ?_
    rw [TL.len_tl] at e
    obtain ⟨⟨l⟩⟩ := x
    match l, e with
    | [c], _ =>
      have : c = 48 := h
      subst this; rfl
theorem g_an_digits {x : Str} (h : okS x = true) : G__law_an_digits [.str x] = some (wD (wholeT x)) := by
  have hs := okS_len h
  have hl := okS_lay h
  have hlen := lenR_str hs
  have c1 : dComp (dItS (dVar 0)) (tgName 1) (dTest (dOp ninR (dVar 1) (ret (.str "0123456789")))) (ret (.int 1)) [1] ⟨[.fz (.str x), .un], st0⟩ = .ok ((x.cps.toList.filter fun c => !chIn DIG c).map fun _ => .int 1) ⟨[.fz (.str x), .un], st0⟩ := by
    exact dcompT (l := x.cps.toList) (s1 := ⟨[.fz (.str x), .un], st0⟩) chS (fun c => !chIn DIG c) (fun _ => .int 1) (by simp [hs, chD_is]) rfl fun c hc => ⟨⟨[.fz (.str x), .fz (chS c)], st0⟩, rfl, by simp [ninR_ch], fun _ => rfl, rfl, rfl⟩
  rw [ones_filter] at c1
  have hn : neR (.lst (List.replicate (x.cps.toList.filter fun c => !chIn DIG c).length (.int 1))) (.lst []) = some (.bl (!digB x)) := by
    rw [neR_ones, none_all]; rfl
  by_cases h1 : 1 ≤ x.length
  · have h0 : ¬ x = "" := by rw [empty_len]; omega
    by_cases h2 : x.length ≤ 30
    · have h2' : ¬ (30 : Int) < (x.length : Int) := by omega
      cases hd : digB x with
      | false =>
        rw [hd] at hn
        rw [whole_none (by simp [hd])]
        simp [G__law_an_digits, wrapP, runP, entry, den__law_an_digits, hlen, h0, h2', c1, hn, wD]
      | true =>
        rw [hd] at hn
        have hi := int_dig hd h1 h2
        have hx := ix0 h1 hs
        by_cases h48 : hd0 x = 48
        · by_cases h3 : x.length = 1
          · have hz : x = "0" := by rw [zero_one h1 h48]; exact h3
            have h3' : ¬ (1 : Int) < (x.length : Int) := by omega
            have hzt := eq_true hz
            rw [whole_some (by simp only [h1, h2, hd, hzt]; rfl)]
            simp [G__law_an_digits, wrapP, runP, entry, den__law_an_digits, hlen, h0, h2', c1, hn, wD, hi, h3']
          · have hz : ¬ x = "0" := by rw [zero_one h1 h48]; exact h3
            have h3' : (1 : Int) < (x.length : Int) := by omega
            rw [whole_none (by simp [hz, h48])]
            simp [G__law_an_digits, wrapP, runP, entry, den__law_an_digits, hlen, h0, h2', c1, hn, wD, hi, h3', hx, one_zero, h48]
        · rw [whole_some (by simp [h1, h2, hd, h48])]
          by_cases h3' : (1 : Int) < (x.length : Int)
          · simp [G__law_an_digits, wrapP, runP, entry, den__law_an_digits, hlen, h0, h2', c1, hn, wD, hi, h3', hx, one_zero, h48]
          · simp [G__law_an_digits, wrapP, runP, entry, den__law_an_digits, hlen, h0, h2', c1, hn, wD, hi, h3', hx, one_zero, h48]
    · have h2' : (30 : Int) < (x.length : Int) := by omega
      rw [whole_none (by simp [h2])]
      simp [G__law_an_digits, wrapP, runP, entry, den__law_an_digits, hlen, h0, h2', wD]
  · have h0 : x = "" := by rw [empty_len]; omega
    rw [whole_none (by simp [h1])]
    simp [G__law_an_digits, wrapP, runP, entry, den__law_an_digits, h0, wD]
end K12
end S_E11
section S_E12
set_option Elab.async false
set_option linter.all false
set_option autoImplicit false
set_option maxRecDepth 100000
set_option maxHeartbeats 4000000
/-! E12: numbers and parts are read. -/
namespace K12
open PySem PySem.Spec PyProof.Rows L2 DL
structure TxtOk (x : Str) : Prop where
  len : x.length ≤ 999
  lay : (D.str x).lay = true
theorem TxtOk.ok {x : Str} (h : TxtOk x) : okS x = true := by
  unfold okS
  rw [h.lay, Bool.true_and, decide_eq_true_eq]
  have := h.len
  have := sizeLine_big
  omega
theorem lay_iff (x : Str) : (D.str x).lay = true ↔ ∀ c ∈ TL.tl x, c < 0x110000 := by
  rw [lay_str, Array.all_eq_true']
  constructor
  · intro h c hc; have := h c (Array.mem_toList_iff.mp hc); simpa using this
  · intro h c hc; have := h c (Array.mem_toList_iff.mpr hc); simpa using this
theorem TxtOk.part {x y p : Str} (h : TxtOk x) (hy : Cut y) (hp : p ∈ Txt.split x y) : TxtOk p := by
  obtain ⟨q1, q2⟩ := split_mem hy hp
  exact ⟨by have := h.len; omega, (lay_iff p).mpr fun c hc => (lay_iff x).mp h.lay c (q2 c hc)⟩
theorem cut_slash : Cut "/" := ⟨by decide, by decide +kernel⟩
theorem cut_space : Cut " " := ⟨by decide, by decide +kernel⟩
theorem cut_line : Cut "\n" := ⟨by decide, by decide +kernel⟩
def numW : List (Option Nat) → Option Num
  | [some n] => some (.int n)
  | [some a, some b] => if (Num.fr a b).ok = true then some (.fr a b) else none
  | _ => none
def numT (x : Str) : Option Num := numW ((Txt.split x "/").map wholeT)
def numD : Option Num → D
  | some n => n.d
  | none => .non
theorem in_non (ws : List (Option Nat)) : DL.inR .non (.lst (ws.map wD)) = some (.bl (ws.any (·.isNone))) := by
  unfold DL.inR inD
  have e1 : (ws.map wD).all flatD = true := by rw [List.all_map]; exact List.all_eq_true.mpr fun a _ => by cases a <;> rfl
  have e2 : (ws.map wD).any (fun y => eqF y .non) = ws.any (·.isNone) := by
    rw [List.any_map]
    congr 1
    funext a
    cases a <;> rfl
  simp [flatD, e1, e2]
theorem wd_some (n : Nat) : wD (some n) = .int (n : Int) := rfl
theorem g_number_of {x : Str} (h : TxtOk x) : G_number_of [.str x] = some (numD (numT x)) := by
  have hsp : ∀ s : FS, s = ⟨[.fz (.str x), .un, .un, .un], st0⟩ → dSplit (dVar 0) (ret (.str "/")) s = .ok ((Txt.split x "/").map D.str) s := fun s e => by
    subst e
    exact x_split_ok (by simp) rfl cut_slash (by have := h.len; omega)
  have c1 : dComp (dItL (dFrz (dSplit (dVar 0) (ret (.str "/"))))) (tgName 3) (ret true) (dCall G_whole_of (dCons (dVar 3) (ret []))) [3] ⟨[.fz (.str x), .un, .un, .un], st0⟩ = .ok (((Txt.split x "/").map wholeT).map wD) ⟨[.fz (.str x), .un, .un, .un], st0⟩ := by
    have := dcompT (fi := dItL (dFrz (dSplit (dVar 0) (ret (.str "/"))))) (fg := tgName 3) (ft := ret true) (fe := dCall G_whole_of (dCons (dVar 3) (ret []))) (vs := [3]) (s := ⟨[.fz (.str x), .un, .un, .un], st0⟩) (l := Txt.split x "/") (s1 := ⟨[.fz (.str x), .un, .un, .un], st0⟩) D.str (fun _ => true) (fun p => wD (wholeT p)) (by rw [x_itL, x_frz, hsp _ rfl]; rfl) rfl fun c hc => ⟨⟨[.fz (.str x), .un, .un, .fz (.str c)], st0⟩, rfl, rfl, fun _ => by simp [g_whole_of (h.part cut_slash hc).ok], rfl, rfl⟩
    rw [filter_all] at this
    rw [this, List.map_map]; rfl
  unfold numT
  have hne : (Txt.split x "/").map wholeT ≠ [] := fun e => split_ne cut_slash (List.map_eq_nil_iff.mp e)
  generalize (Txt.split x "/").map wholeT = ws at *
  have hin := in_non ws
  match ws, hne with
  | [none], _ => simp at hin; simp [G_number_of, wrapP, runP, entry, den_number_of, c1, hin, numW, numD]
  | [some n], _ =>
    have hn := g_is_number (.int n)
    simp only [Num.d, Num.ok] at hn
    simp [wD] at hin
    simp [G_number_of, wrapP, runP, entry, den_number_of, c1, hin, numW, numD, hn, Num.d, wD]
  | [none, b], _ => simp at hin; simp [G_number_of, wrapP, runP, entry, den_number_of, c1, hin, numW, numD]
  | [some a, none], _ => simp at hin; simp [G_number_of, wrapP, runP, entry, den_number_of, c1, hin, numW, numD]
  | [some a, some b], _ =>
    have hn := g_is_number (.fr a b)
    simp [wD] at hin
    simp only [numW]
    cases hk : (Num.fr a b).ok with
    | true =>
      rw [hk] at hn
      simp only [Num.d] at hn
      simp [G_number_of, wrapP, runP, entry, den_number_of, c1, hin, numD, hn, Num.d, wD, size2]
    | false =>
      rw [hk] at hn
      simp only [Num.d] at hn
      simp [G_number_of, wrapP, runP, entry, den_number_of, c1, hin, numD, hn, Num.d, wD, size2]
  | a :: b :: c :: r, _ =>
    have e3 : (2 : Int) < (r.length : Int) + 1 + 1 + 1 := by omega
    have e4 : numW (a :: b :: c :: r) = none := by cases a <;> cases b <;> rfl
    rw [e4]
    simp [G_number_of, wrapP, runP, entry, den_number_of, c1, numD, e3]
theorem g_read_number {x : Str} (h : TxtOk x) : G__law_an_read_number [.str x] = some (numD (numT x)) := by
  have hsp : ∀ s : FS, s = ⟨[.fz (.str x), .un, .un, .un], st0⟩ → dSplit (dVar 0) (ret (.str "/")) s = .ok ((Txt.split x "/").map D.str) s := fun s e => by
    subst e
    exact x_split_ok (by simp) rfl cut_slash (by have := h.len; omega)
  have c1 : dComp (dItL (dFrz (dSplit (dVar 0) (ret (.str "/"))))) (tgName 3) (ret true) (dCall G__law_an_digits (dCons (dVar 3) (ret []))) [3] ⟨[.fz (.str x), .un, .un, .un], st0⟩ = .ok (((Txt.split x "/").map wholeT).map wD) ⟨[.fz (.str x), .un, .un, .un], st0⟩ := by
    have := dcompT (fi := dItL (dFrz (dSplit (dVar 0) (ret (.str "/"))))) (fg := tgName 3) (ft := ret true) (fe := dCall G__law_an_digits (dCons (dVar 3) (ret []))) (vs := [3]) (s := ⟨[.fz (.str x), .un, .un, .un], st0⟩) (l := Txt.split x "/") (s1 := ⟨[.fz (.str x), .un, .un, .un], st0⟩) D.str (fun _ => true) (fun p => wD (wholeT p)) (by rw [x_itL, x_frz, hsp _ rfl]; rfl) rfl fun c hc => ⟨⟨[.fz (.str x), .un, .un, .fz (.str c)], st0⟩, rfl, rfl, fun _ => by simp [g_an_digits (h.part cut_slash hc).ok], rfl, rfl⟩
    rw [filter_all] at this
    rw [this, List.map_map]; rfl
  unfold numT
  have hne : (Txt.split x "/").map wholeT ≠ [] := fun e => split_ne cut_slash (List.map_eq_nil_iff.mp e)
  generalize (Txt.split x "/").map wholeT = ws at *
  have hin := in_non ws
  match ws, hne with
  | [none], _ => simp at hin; simp [G__law_an_read_number, wrapP, runP, entry, den__law_an_read_number, c1, hin, numW, numD]
  | [some n], _ =>
    have hn := g_ct_is_number (.int n)
    simp only [Num.d, Num.ok] at hn
    simp [wD] at hin
    simp [G__law_an_read_number, wrapP, runP, entry, den__law_an_read_number, c1, hin, numW, numD, hn, Num.d, wD]
  | [none, b], _ => simp at hin; simp [G__law_an_read_number, wrapP, runP, entry, den__law_an_read_number, c1, hin, numW, numD]
  | [some a, none], _ => simp at hin; simp [G__law_an_read_number, wrapP, runP, entry, den__law_an_read_number, c1, hin, numW, numD]
  | [some a, some b], _ =>
    have hn := g_ct_is_number (.fr a b)
    simp [wD] at hin
    simp only [numW]
    cases hk : (Num.fr a b).ok with
    | true =>
      rw [hk] at hn
      simp only [Num.d] at hn
      simp [G__law_an_read_number, wrapP, runP, entry, den__law_an_read_number, c1, hin, numD, hn, Num.d, wD, size2]
    | false =>
      rw [hk] at hn
      simp only [Num.d] at hn
      simp [G__law_an_read_number, wrapP, runP, entry, den__law_an_read_number, c1, hin, numD, hn, Num.d, wD, size2]
  | a :: b :: c :: r, _ =>
    have e3 : (2 : Int) < (r.length : Int) + 1 + 1 + 1 := by omega
    have e4 : numW (a :: b :: c :: r) = none := by cases a <;> cases b <;> rfl
    rw [e4]
    cases hb : (a :: b :: c :: r).any (·.isNone) with
    | true => rw [hb] at hin; simp at hin; simp [G__law_an_read_number, wrapP, runP, entry, den__law_an_read_number, c1, numD, e3, hin]
    | false => rw [hb] at hin; simp at hin; simp [G__law_an_read_number, wrapP, runP, entry, den__law_an_read_number, c1, numD, e3, hin]
/-! what is read -/
theorem whole_lt {x : Str} {n : Nat} (h : wholeT x = some n) : n < 10 ^ 30 := by
  unfold wholeT at h
  split at h
  · rename_i c
    simp only [Bool.and_eq_true, decide_eq_true_eq] at c
    have e := Option.some.inj h
    have h2 := digitsVal_lt x.cps.toList (dig_all c.1.2)
    rw [e] at h2
    have h3 : x.cps.toList.length ≤ 30 := by rw [← TL.len_tl x]; exact c.1.1.2
    exact Nat.lt_of_lt_of_le h2 (Nat.pow_le_pow_right (by omega) h3)
  · cases h
theorem num_small {x : Str} {w : Num} (h : numT x = some w) : w.small := by
  unfold numT at h
  have hm : ∀ n : Nat, some n ∈ (Txt.split x "/").map wholeT → n < 2 ^ 200 := fun n hn => by
    obtain ⟨p, hp, e⟩ := List.mem_map.mp hn
    have := whole_lt e
    exact Nat.lt_trans this (by decide)
  generalize (Txt.split x "/").map wholeT = ws at *
  unfold numW at h
  split at h
  · cases h; exact ⟨by have := hm _ List.mem_cons_self; simpa [Num.top] using this, by simp [Num.low]⟩
  · split at h
    · cases h
      exact ⟨by have := hm _ List.mem_cons_self; simpa [Num.top] using this, by have := hm _ (List.mem_cons_of_mem _ List.mem_cons_self); simpa [Num.low] using this⟩
    · cases h
  · cases h
end K12
end S_E12
section S_E13
set_option Elab.async false
set_option linter.all false
set_option autoImplicit false
set_option maxRecDepth 100000
set_option maxHeartbeats 4000000
/-! E13: parts are read. -/
namespace K12
open PySem PySem.Spec PyProof.Rows L2 DL
def mkPart (k : Str) (mid : List Str) (w : Num) : Part := if k = "hub" then .hub mid w else .pl k mid w
def partW (ws : List Str) : Option Part := if ws.length < 4 then none else
  match ws.getLast?.bind numT with
  | none => none
  | some w => if (mkPart (ws.headD Str.empty) (ws.drop 1).dropLast w).ok = true then some (mkPart (ws.headD Str.empty) (ws.drop 1).dropLast w) else none
def partT (x : Str) : Option Part := partW (Txt.split x " ")
def partD : Option Part → D
  | some p => p.d
  | none => .non
theorem last_of {ws : List Str} (h : ws ≠ []) : ∃ l, ws.getLast? = some l ∧ l ∈ ws := by
  refine ⟨ws.getLast h, ?_, List.getLast_mem h⟩
  first | exact List.getLast?_eq_some_getLast h | exact List.getLast?_eq_getLast h | simp [List.getLast?_eq_getElem?, List.getLast_eq_getElem]
theorem four_of {ws : List Str} (h : ¬ ws.length < 4) : ∃ k mid l, ws = k :: (mid ++ [l]) ∧ 2 ≤ mid.length := by
  match ws, h with
  | k :: r, h =>
    have hr : r ≠ [] := fun e => by subst e; simp at h
    refine ⟨k, r.dropLast, r.getLast hr, by rw [List.dropLast_concat_getLast], ?_⟩
    simp only [List.length_cons] at h
    rw [List.length_dropLast]; omega
  | [], h => simp at h
theorem num_non (o : Option Num) : isNonD (numD o) = o.isNone := by
  cases o with
  | none => rfl
  | some n => cases n <;> rfl
theorem mk_shape {ws mid : List Str} {k l : Str} {w : Num} (hm : ∀ p ∈ ws, okS p = true) (e : ws = k :: (mid ++ [l])) (h2 : 2 ≤ mid.length) (hl : ws.length ≤ 1000) (hw : w.small) : (mkPart k mid w).shape := by
  subst e
  have hlen : mid.length ≤ 1000 := by simp only [List.length_cons, List.length_append, List.length_nil] at hl; omega
  have hmid : ∀ x ∈ mid, okS x = true := fun x hx => hm x (by simp [hx])
  unfold mkPart
  split
  · exact ⟨hmid, hw, hlen⟩
  · rename_i hk
    exact ⟨hk, hm k (by simp), hmid, hw, h2, hlen⟩
theorem mk_hub (mid : List Str) (w : Num) : mkPart "hub" mid w = .hub mid w := by unfold mkPart; rw [if_pos rfl]
theorem mk_pl {k : Str} (h : ¬ k = "hub") (mid : List Str) (w : Num) : mkPart k mid w = .pl k mid w := by unfold mkPart; rw [if_neg h]
theorem g_part_of_line {x : Str} (h : TxtOk x) : G_part_of_line [.str x] = some (partD (partT x)) := by
  have hsp : ∀ s : FS, s = ⟨[.fz (.str x), .un, .un, .un], st0⟩ → dSplit (dVar 0) (ret (.str " ")) s = .ok ((Txt.split x " ").map D.str) s := fun s e => by
    subst e
    exact x_split_ok (by simp) rfl cut_space (by have := h.len; omega)
  have hsp1 := hsp _ rfl
  have hall : ∀ p ∈ Txt.split x " ", TxtOk p := fun p hp => h.part cut_space hp
  have hne := split_ne (x := x) cut_space
  have hlen : (Txt.split x " ").length ≤ 1000 := by have := split_len (x := x) cut_space; have := h.len; omega
  unfold partT
  generalize Txt.split x " " = ws at *
  by_cases h4 : ws.length < 4
  · obtain ⟨l, e1, e2⟩ := last_of hne
    have hn := g_number_of (hall l e2)
    have h4' : (ws.length : Int) < 4 := by omega
    have e3 : (ws.map D.str).getLast? = some (.str l) := by rw [List.getLast?_map, e1]; rfl
    rw [show partW ws = none by unfold partW; rw [if_pos h4]]
    simp [G_part_of_line, wrapP, runP, entry, den_part_of_line, hsp1, e3, hn, h4', partD, e1]
  · obtain ⟨k, mid, l, rfl, h2⟩ := four_of h4
    have hn := g_number_of (hall l (by simp))
    have h4' : ¬ ((mid.length : Int) + 1 + 1 < 4) := by omega
    have e5 : partW (k :: (mid ++ [l])) = (match numT l with
      | none => none
      | some w => if (mkPart k mid w).ok = true then some (mkPart k mid w) else none) := by
      unfold partW
      rw [if_neg h4]
      have : (k :: (mid ++ [l])).getLast? = some l := by rw [← List.cons_append, List.getLast?_concat]
      rw [this]
      simp only [Option.bind_some, List.headD_cons, List.drop_succ_cons, List.drop_zero, List.dropLast_concat]
    rw [e5]
    have e3 : (D.str k :: (mid.map D.str ++ [.str l])).getLast? = some (.str l) := by rw [← List.cons_append, List.getLast?_concat]
    cases hw : numT l with
    | none =>
      rw [hw] at hn
      simp [G_part_of_line, wrapP, runP, entry, den_part_of_line, hsp1, e3, hn, h4', partD, numD, isNonD]
    | some w =>
      rw [hw] at hn
      dsimp only
      have hsh := mk_shape (fun p hp => (hall p hp).ok) rfl h2 hlen (num_small hw)
      have hp := g_is_part hsh
      have hnon := num_non (some w)
      simp only [numD, Option.isNone_some] at hnon
      have hms : mid.length ≤ 1000 := by simp only [List.length_cons, List.length_append, List.length_nil] at hlen; omega
      have hz1 : 1 + mid.length ≤ sizeLine := by have := sizeLine_big; omega
      have hz2 : 1 + mid.length + 1 ≤ sizeLine := by have := sizeLine_big; omega
      have hz3 : mid.length + 1 + 1 ≤ sizeLine := by have := sizeLine_big; omega
      by_cases hk : k = "hub"
      · subst hk
        rw [mk_hub] at hp ⊢
        simp only [Part.d] at hp
        cases ho : (Part.hub mid w).ok with
        | true =>
          rw [ho] at hp
          simp [G_part_of_line, wrapP, runP, entry, den_part_of_line, hsp1, e3, hn, h4', partD, numD, hnon, size3, hp, Part.d]
        | false =>
          rw [ho] at hp
          simp [G_part_of_line, wrapP, runP, entry, den_part_of_line, hsp1, e3, hn, h4', partD, numD, hnon, size3, hp, Part.d]
      · rw [mk_pl hk] at hp ⊢
        simp only [Part.d] at hp
        cases ho : (Part.pl k mid w).ok with
        | true =>
          rw [ho] at hp
          simp [G_part_of_line, wrapP, runP, entry, den_part_of_line, hsp1, e3, hn, h4', partD, numD, hnon, size3, size1, hz1, hz2, hz3, hp, hk, Part.d]
        | false =>
          rw [ho] at hp
          simp [G_part_of_line, wrapP, runP, entry, den_part_of_line, hsp1, e3, hn, h4', partD, numD, hnon, size3, size1, hz1, hz2, hz3, hp, hk, Part.d]
theorem g_read_part {x : Str} (h : TxtOk x) : G__law_an_read_part [.str x] = some (partD (partT x)) := by
  have hsp : ∀ s : FS, s = ⟨[.fz (.str x), .un, .un, .un], st0⟩ → dSplit (dVar 0) (ret (.str " ")) s = .ok ((Txt.split x " ").map D.str) s := fun s e => by
    subst e
    exact x_split_ok (by simp) rfl cut_space (by have := h.len; omega)
  have hsp1 := hsp _ rfl
  have hall : ∀ p ∈ Txt.split x " ", TxtOk p := fun p hp => h.part cut_space hp
  have hne := split_ne (x := x) cut_space
  have hlen : (Txt.split x " ").length ≤ 1000 := by have := split_len (x := x) cut_space; have := h.len; omega
  unfold partT
  generalize Txt.split x " " = ws at *
  by_cases h4 : ws.length < 4
  · obtain ⟨l, e1, e2⟩ := last_of hne
    have hn := g_read_number (hall l e2)
    have hnn := num_non (numT l)
    have h4' : (ws.length : Int) < 4 := by omega
    have e3 : (ws.map D.str).getLast? = some (.str l) := by rw [List.getLast?_map, e1]; rfl
    rw [show partW ws = none by unfold partW; rw [if_pos h4]]
    cases hb : (numT l).isNone with
    | true =>
      rw [hb] at hnn
      simp [G__law_an_read_part, wrapP, runP, entry, den__law_an_read_part, hsp1, e3, hn, h4', partD, hnn, e1]
    | false =>
      rw [hb] at hnn
      simp [G__law_an_read_part, wrapP, runP, entry, den__law_an_read_part, hsp1, e3, hn, h4', partD, hnn, e1]
  · obtain ⟨k, mid, l, rfl, h2⟩ := four_of h4
    have hn := g_read_number (hall l (by simp))
    have h4' : ¬ ((mid.length : Int) + 1 + 1 < 4) := by omega
    have e5 : partW (k :: (mid ++ [l])) = (match numT l with
      | none => none
      | some w => if (mkPart k mid w).ok = true then some (mkPart k mid w) else none) := by
      unfold partW
      rw [if_neg h4]
      have : (k :: (mid ++ [l])).getLast? = some l := by rw [← List.cons_append, List.getLast?_concat]
      rw [this]
      simp only [Option.bind_some, List.headD_cons, List.drop_succ_cons, List.drop_zero, List.dropLast_concat]
    rw [e5]
    have e3 : (D.str k :: (mid.map D.str ++ [.str l])).getLast? = some (.str l) := by rw [← List.cons_append, List.getLast?_concat]
    have e6 : (D.str k :: (mid.map D.str ++ [.str l])).dropLast = .str k :: mid.map D.str := by rw [← List.cons_append, List.dropLast_concat]
    cases hw : numT l with
    | none =>
      rw [hw] at hn
      simp [G__law_an_read_part, wrapP, runP, entry, den__law_an_read_part, hsp1, e3, hn, h4', partD, numD, isNonD]
    | some w =>
      rw [hw] at hn
      dsimp only
      have hsh := mk_shape (fun p hp => (hall p hp).ok) rfl h2 hlen (num_small hw)
      have hp := g_an_is_part hsh
      have hnon := num_non (some w)
      simp only [numD, Option.isNone_some] at hnon
      have hms : mid.length ≤ 1000 := by simp only [List.length_cons, List.length_append, List.length_nil] at hlen; omega
      have hz3 : mid.length + 1 + 1 ≤ sizeLine := by have := sizeLine_big; omega
      by_cases hk : k = "hub"
      · subst hk
        rw [mk_hub] at hp ⊢
        simp only [Part.d] at hp
        cases ho : (Part.hub mid w).ok with
        | true =>
          rw [ho] at hp
          simp [G__law_an_read_part, wrapP, runP, entry, den__law_an_read_part, hsp1, e3, hn, h4', partD, numD, hnon, size3, hp, Part.d]
        | false =>
          rw [ho] at hp
          simp [G__law_an_read_part, wrapP, runP, entry, den__law_an_read_part, hsp1, e3, hn, h4', partD, numD, hnon, size3, hp, Part.d]
      · rw [mk_pl hk] at hp ⊢
        simp only [Part.d] at hp
        cases ho : (Part.pl k mid w).ok with
        | true =>
          rw [ho] at hp
          simp [G__law_an_read_part, wrapP, runP, entry, den__law_an_read_part, hsp1, e3, e6, hn, h4', partD, numD, hnon, size1, hz3, hp, hk, Part.d]
        | false =>
          rw [ho] at hp
          simp [G__law_an_read_part, wrapP, runP, entry, den__law_an_read_part, hsp1, e3, e6, hn, h4', partD, numD, hnon, size1, hz3, hp, hk, Part.d]
end K12
end S_E13
section S_E14
set_option Elab.async false
set_option linter.all false
set_option autoImplicit false
set_option maxRecDepth 100000
set_option maxHeartbeats 4000000
/-! E14: nets are read. -/
namespace K12
open PySem PySem.Spec PyProof.Rows L2 DL
def goT (taps : List Str) : List Str → Nat → List Part → Nat ⊕ List Part
  | [], _, ps => .inr ps
  | r :: rest, i, ps => match partT r with
    | none => .inl i
    | some p => if (Net.mk taps (ps ++ [p])).ok = true then goT taps rest (i + 1) (ps ++ [p]) else .inl i
def readW (rows : List Str) : Nat ⊕ Net :=
  if (decide (rows.length = 1) || !decide ((Txt.split (rows.headD Str.empty) " ").headD Str.empty = "taps") || !tapsB ((Txt.split (rows.headD Str.empty) " ").drop 1)) = true then .inl 1 else
  match goT ((Txt.split (rows.headD Str.empty) " ").drop 1) (rows.drop 1).dropLast 2 [] with
  | .inl n => .inl n
  | .inr ps => if rows.getLast? = some "" then .inr ⟨(Txt.split (rows.headD Str.empty) " ").drop 1, ps⟩ else .inl rows.length
def readT (x : Str) : Nat ⊕ Net := readW (Txt.split x "\n")
theorem part_shape {x : Str} {p : Part} (hx : TxtOk x) (h : partT x = some p) : p.shape := by
  unfold partT partW at h
  split at h
  · cases h
  · rename_i h4
    have hall : ∀ q ∈ Txt.split x " ", TxtOk q := fun q hq => hx.part cut_space hq
    have hlen : (Txt.split x " ").length ≤ 1000 := by have := split_len (x := x) cut_space; have := hx.len; omega
    generalize Txt.split x " " = ws at *
    obtain ⟨k, mid, l, rfl, h2⟩ := four_of h4
    split at h
    · cases h
    · rename_i w hw
      have e1 : (k :: (mid ++ [l])).getLast? = some l := by rw [← List.cons_append, List.getLast?_concat]
      rw [e1, Option.bind_some] at hw
      have hsh := mk_shape (w := w) (fun p hp => (hall p hp).ok) rfl h2 hlen (num_small hw)
      simp only [List.headD_cons, List.drop_succ_cons, List.drop_zero, List.dropLast_concat] at h
      split at h
      · cases h; exact hsh
      · cases h
theorem part_non (o : Option Part) : isNonD (partD o) = o.isNone := by
  cases o with
  | none => rfl
  | some n => cases n <;> rfl
theorem log_small {i : Int} (h : i.natAbs < 10000) : i.natAbs.log2 < 1920 := by
  by_cases h0 : i.natAbs = 0
  · rw [h0]; decide
  · rw [Nat.log2_lt h0]
    exact Nat.lt_of_lt_of_le h (Nat.le_trans (by decide : 10000 ≤ 2 ^ 20) (Nat.pow_le_pow_right (by decide) (by decide)))
abbrev rdTg : TgF := tgTup 2 (tgCons (tgName 5) (tgCons (tgName 6) tgNil))
abbrev rdBody : M Fl := fSeq (fDrop (dAppend 4 (dCall G_part_of_line (dCons (dVar 6) (ret []))))) (fIf (dOr (dTest (dOp isNR (dOwnIx 4 (dNeg (ret (.int 1)))) (ret .non))) (dNot (dTest (dCall G_is_net (dCons (dTup (dCons (dVar 3) (dCons (dOwnTup 4) (ret [])))) (ret [])))))) (fRaiseI "BadText" "line" (dCons (dOp addR (dVar 5) (ret (.int 2))) (ret []))) (ret .nx))
theorem net_good {taps : List Str} {ps : List Part} (ht : ∀ x ∈ taps, okS x = true) (hl : taps.length ≤ 1000) (hp : ∀ p ∈ ps, p.shape) : (Net.mk taps ps).good := ⟨ht, hl, hp⟩
theorem rd_loop (x0 x1 x2 : Sl) (taps : List Str) (ht : ∀ x ∈ taps, okS x = true) (htl : taps.length ≤ 1000) : ∀ (rows : List Str) (i : Nat) (ps : List Part) (x5 x6 : Sl), (∀ r ∈ rows, TxtOk r) → (∀ p ∈ ps, p.shape) → i + rows.length ≤ 1001 → ps.length + rows.length ≤ 1000 →
    match goT taps rows (i + 2) ps with
    | .inl n => ∃ s', forD rdTg rdBody ((rows.zipIdx i).map fun p => .tup [.int (p.2 : Nat), .str p.1]) ⟨[x0, x1, x2, .fz (.tup (taps.map D.str)), .ow (ps.map Part.d), x5, x6], st0⟩ = .ex (.xc "BadText" [("line", .int (n : Nat))]) s'
    | .inr qs => (∀ p ∈ qs, p.shape) ∧ ∃ x5' x6', forD rdTg rdBody ((rows.zipIdx i).map fun p => .tup [.int (p.2 : Nat), .str p.1]) ⟨[x0, x1, x2, .fz (.tup (taps.map D.str)), .ow (ps.map Part.d), x5, x6], st0⟩ = .ok .nx ⟨[x0, x1, x2, .fz (.tup (taps.map D.str)), .ow (qs.map Part.d), x5', x6'], st0⟩
  | [], i, ps, x5, x6, hr, hps, h1, h2 => by
    show (∀ p ∈ ps, p.shape) ∧ _
    exact ⟨hps, x5, x6, rfl⟩
  | r :: rest, i, ps, x5, x6, hr, hps, h1, h2 => by
    have hrr := hr r List.mem_cons_self
    have hpl := g_part_of_line hrr
    have hsz : ps.length < sizeLine := by have := sizeLine_big; simp only [List.length_cons] at h2; omega
    have hlog : ((i : Int) + 2).natAbs.log2 < 1920 := log_small (by simp only [List.length_cons] at h1; omega)
    have e2 : ((i : Int) + 2) = ((i + 2 : Nat) : Int) := by omega
    have tg : rdTg (.tup [.int (i : Nat), .str r]) ⟨[x0, x1, x2, .fz (.tup (taps.map D.str)), .ow (ps.map Part.d), x5, x6], st0⟩ = some ⟨[x0, x1, x2, .fz (.tup (taps.map D.str)), .ow (ps.map Part.d), .fz (.int (i : Nat)), .fz (.str r)], st0⟩ := rfl
    have ez : (((r :: rest).zipIdx i).map fun p => D.tup [.int (p.2 : Nat), .str p.1]) = .tup [.int (i : Nat), .str r] :: ((rest.zipIdx (i + 1)).map fun p => D.tup [.int (p.2 : Nat), .str p.1]) := rfl
    rw [ez]
    have eg : goT taps (r :: rest) (i + 2) ps = (match partT r with
      | none => .inl (i + 2)
      | some p => if (Net.mk taps (ps ++ [p])).ok = true then goT taps rest (i + 2 + 1) (ps ++ [p]) else .inl (i + 2)) := rfl
    rw [eg]
    cases hp : partT r with
    | none =>
      rw [hp] at hpl
      refine ⟨⟨[x0, x1, x2, .fz (.tup (taps.map D.str)), .ow (ps.map Part.d ++ [.non]), .fz (.int (i : Nat)), .fz (.str r)], st0⟩, for_ex tg ?_⟩
      simp [rdBody, hpl, hsz, partD, isNonD, rI_int, hlog]
    | some p =>
      rw [hp] at hpl
      have hsh := part_shape hrr hp
      have hps2 : ∀ q ∈ ps ++ [p], q.shape := fun q hq => by
        rcases List.mem_append.mp hq with q | q
        · exact hps _ q
        · rw [List.mem_singleton.mp q]; exact hsh
      have hnon := part_non (some p)
      simp only [partD, Option.isNone_some] at hnon hpl
      have hnet := g_is_net (net_good ht htl hps2)
      have ed : (Net.mk taps (ps ++ [p])).d = .tup [.tup (taps.map D.str), .tup (ps.map Part.d ++ [p.d])] := by simp [Net.d]
      rw [ed] at hnet
      dsimp only
      cases hk : (Net.mk taps (ps ++ [p])).ok with
      | false =>
        rw [hk] at hnet
        refine ⟨⟨[x0, x1, x2, .fz (.tup (taps.map D.str)), .ow (ps.map Part.d ++ [p.d]), .fz (.int (i : Nat)), .fz (.str r)], st0⟩, for_ex tg ?_⟩
        simp [rdBody, hpl, hsz, hnon, size2, hnet, rI_int, hlog]
      | true =>
        rw [hk] at hnet
        have hb : rdBody ⟨[x0, x1, x2, .fz (.tup (taps.map D.str)), .ow (ps.map Part.d), .fz (.int (i : Nat)), .fz (.str r)], st0⟩ = .ok .nx ⟨[x0, x1, x2, .fz (.tup (taps.map D.str)), .ow ((ps ++ [p]).map Part.d), .fz (.int (i : Nat)), .fz (.str r)], st0⟩ := by
          simp [rdBody, hpl, hsz, hnon, size2, hnet]
        rw [for_nx tg hb]
        have ih := rd_loop x0 x1 x2 taps ht htl rest (i + 1) (ps ++ [p]) (.fz (.int (i : Nat))) (.fz (.str r)) (fun q hq => hr q (List.mem_cons_of_mem _ hq)) hps2 (by simp only [List.length_cons] at h1; omega) (by simp only [List.length_cons, List.length_append, List.length_nil] at h2 ⊢; omega)
        have e3 : i + 1 + 2 = i + 2 + 1 := by omega
        rw [e3] at ih
        simpa using ih
end K12
end S_E14
section S_E15
set_option Elab.async false
set_option linter.all false
set_option autoImplicit false
set_option maxRecDepth 100000
set_option maxHeartbeats 4000000
/-! E15: read_net, and the law's own reader. -/
namespace K12
open PySem PySem.Spec PyProof.Rows L2 DL
def badTx (n : Nat) : D := .xc "BadText" [("line", .int (n : Nat))]
theorem rows_of {rows : List Str} (h : rows ≠ []) : (∃ r, rows = [r]) ∨ ∃ r mid l, rows = r :: (mid ++ [l]) := by
  match rows, h with
  | [r], _ => exact .inl ⟨r, rfl⟩
  | r :: a :: t, _ => exact .inr ⟨r, (a :: t).dropLast, (a :: t).getLast (by simp), by rw [List.dropLast_concat_getLast]⟩
theorem words_of {ws : List Str} (h : ws ≠ []) : ∃ w t, ws = w :: t := by
  match ws, h with
  | w :: t, _ => exact ⟨w, t, rfl⟩
theorem enuD_strs (l : List Str) : enuD (l.map D.str) = (l.zipIdx 0).map fun p => .tup [.int (p.2 : Nat), .str p.1] := by
  unfold enuD
  rw [List.zipIdx_map, List.map_map]; rfl
theorem g_read_net {x : Str} (h : TxtOk x) : G_read_net [.str x] = some (match readT x with
    | .inl n => .ex (badTx n)
    | .inr net => .ok net.d) := by
  have hlog1 : Nat.log2 1 < 1920 := log_small (i := 1) (by decide)
  by_cases h0 : x = ""
  · subst h0
    have e : readT "" = .inl 1 := by
      unfold readT readW
      have : Txt.split "" "\n" = [("" : Str)] := by decide +kernel
      rw [this]; rfl
    rw [e]
    simp [G_read_net, wrapX, runX, entry, den_read_net, rI_int, hlog1, badTx]
  · have hsp : ∀ s : FS, s = ⟨[.fz (.str x), .un, .un, .un, .un, .un, .un], st0⟩ → dSplit (dVar 0) (ret (.str "\n")) s = .ok ((Txt.split x "\n").map D.str) s := fun s e => by
      subst e
      exact x_split_ok (by simp) rfl cut_line (by have := h.len; omega)
    have hsp1 := hsp _ rfl
    have hall : ∀ p ∈ Txt.split x "\n", TxtOk p := fun p hp => h.part cut_line hp
    have hne := split_ne (x := x) cut_line
    have hlen : (Txt.split x "\n").length ≤ 1000 := by have := split_len (x := x) cut_line; have := h.len; omega
    unfold readT
    generalize Txt.split x "\n" = rows at *
    obtain ⟨r, t, ert⟩ := words_of hne
    have hr := hall r (by rw [ert]; simp)
    have hsp2 : dSplit (dOp ixR (dVar 1) (ret (.int 0))) (ret (.str " ")) ⟨[.fz (.str x), .fz (.lst (rows.map D.str)), .un, .un, .un, .un, .un], st0⟩ = .ok ((Txt.split r " ").map D.str) ⟨[.fz (.str x), .fz (.lst (rows.map D.str)), .un, .un, .un, .un, .un], st0⟩ := x_split_ok (by simp [ert]) rfl cut_space (by have := hr.len; omega)
    have hw := split_ne (x := r) cut_space
    have hwall : ∀ p ∈ Txt.split r " ", TxtOk p := fun p hp => hr.part cut_space hp
    have hwlen : (Txt.split r " ").length ≤ 1000 := by have := split_len (x := r) cut_space; have := hr.len; omega
    have eh : rows.headD Str.empty = r := by rw [ert]; rfl
    unfold readW
    rw [eh]
    generalize Txt.split r " " = ws at *
    obtain ⟨w0, wt, rfl⟩ := words_of hw
    have hwt : ∀ y ∈ wt, okS y = true := fun y hy => (hwall y (List.mem_cons_of_mem _ hy)).ok
    have hwl : wt.length ≤ 1000 := by simp only [List.length_cons] at hwlen; omega
    have ht := g_is_taps hwt
    simp only [List.headD_cons, List.drop_succ_cons, List.drop_zero]
    rcases rows_of hne with ⟨r', rfl⟩ | ⟨r', mid, l, rfl⟩
    · simp only [List.map_cons, List.map_nil] at hsp1 hsp2
      simp [G_read_net, wrapX, runX, entry, den_read_net, h0, hsp1, hsp2, rI_int, hlog1, badTx]
    · obtain ⟨rfl, -⟩ := List.cons.inj ert
      have e1 : ¬ ((r' :: (mid ++ [l])).length = 1) := by simp
      have e1' : ¬ ((mid.length : Int) + 1 + 1 = 1) := by omega
      by_cases hw0 : w0 = "taps"
      · cases htp : tapsB wt with
        | false =>
          rw [htp] at ht
          simp only [List.map_cons, List.map_append, List.map_nil] at hsp1 hsp2
          simp [G_read_net, wrapX, runX, entry, den_read_net, h0, hsp1, hsp2, rI_int, hlog1, badTx, e1', hw0, ht]
        | true =>
          rw [htp] at ht
          have hz : (0 : Nat) ≤ sizeLine := Nat.zero_le _
          have hloop := rd_loop (.fz (.str x)) (.fz (.lst (.str r' :: (mid.map D.str ++ [.str l])))) (.fz (.lst (.str w0 :: wt.map D.str))) wt hwt hwl mid 0 [] .un .un (fun q hq => hall q (by simp [hq])) (by simp) (by simp only [List.length_cons, List.length_append, List.length_nil] at hlen; omega) (by simp only [List.length_cons, List.length_append, List.length_nil] at hlen ⊢; omega)
          rw [show (r' :: (mid ++ [l])).drop 1 = mid ++ [l] from rfl, List.dropLast_concat, show (r' :: (mid ++ [l])).getLast? = some l by rw [← List.cons_append, List.getLast?_concat]]
          rw [show (0 : Nat) + 2 = 2 from rfl] at hloop
          simp only [List.map_cons, List.map_append, List.map_nil] at hsp1 hsp2
          have elast : (D.str r' :: (mid.map D.str ++ [.str l])).getLast? = some (.str l) := by rw [← List.cons_append, List.getLast?_concat]
          have een := enuD_strs mid
          cases hg : goT wt mid 2 [] with
          | inl n =>
            rw [hg] at hloop
            obtain ⟨s', hs⟩ := hloop
            simp only [hw0, rdTg, rdBody, List.map_nil] at hs hsp1 hsp2
            simp [G_read_net, wrapX, runX, entry, den_read_net, h0, hsp1, hsp2, rI_int, hlog1, badTx, e1', hw0, ht, htp, x_for, enuO, een, hs]
          | inr ps =>
            rw [hg] at hloop
            obtain ⟨hps, x5, x6, hs⟩ := hloop
            simp only [hw0, rdTg, rdBody, List.map_nil] at hs hsp1 hsp2
            dsimp only
            have hlog2 : ((mid.length : Int) + 1 + 1).natAbs.log2 < 1920 := log_small (by simp only [List.length_cons, List.length_append, List.length_nil] at hlen; omega)
            by_cases hl : l = ""
            · subst hl
              simp [G_read_net, wrapX, runX, entry, den_read_net, h0, hsp1, hsp2, rI_int, hlog1, badTx, e1', hw0, ht, htp, x_for, enuO, een, hs, elast, size2, Net.d]
            · simp [G_read_net, wrapX, runX, entry, den_read_net, h0, hsp1, hsp2, rI_int, hlog1, badTx, e1', hw0, ht, htp, x_for, enuO, een, hs, elast, hl, hlog2]
      · simp only [List.map_cons, List.map_append, List.map_nil] at hsp1 hsp2
        simp [G_read_net, wrapX, runX, entry, den_read_net, h0, hsp1, hsp2, rI_int, hlog1, badTx, e1', hw0]
theorem g_read_net_no {d : D} (h : isiB "str" d = some false) : G_read_net [d] = some (.ex (badTx 1)) := by
  have hlog1 : Nat.log2 1 < 1920 := log_small (i := 1) (by decide)
  simp [G_read_net, wrapX, runX, entry, den_read_net, h, rI_int, hlog1, badTx]
/-! ### the law's own reader -/
abbrev lwBody : M Fl := fSeq (fSet 6 (dCall G__law_an_read_part (dCons (dOp ixR (dVar 1) (dVar 5)) (ret [])))) (fSeq (fIf (dOr (dTest (dOp isNR (dVar 6) (ret .non))) (dNot (dTest (dCall G__law_an_is_net (dCons (dTup (dCons (dVar 3) (dCons (dOp addR (dVar 4) (dTup (dCons (dVar 6) (ret [])))) (ret [])))) (ret [])))))) (fRet (dOp addR (dVar 5) (ret (.int 1)))) (ret .nx)) (fSet 4 (dOp addR (dVar 4) (dTup (dCons (dVar 6) (ret []))))))
theorem lw_loop (x0 x2 : Sl) (taps : List Str) (rows : List Str) (ht : ∀ x ∈ taps, okS x = true) (htl : taps.length ≤ 1000) : ∀ (rest pre : List Str) (l : Str) (ps : List Part) (x5 x6 : Sl), rows = pre ++ (rest ++ [l]) → (∀ r ∈ rest, TxtOk r) → (∀ p ∈ ps, p.shape) → ps.length + rest.length ≤ 1000 →
    match goT taps rest (pre.length + 1) ps with
    | .inl n => ∃ s', forD (tgName 5) lwBody ((List.range' pre.length rest.length).map fun j => .int (j : Nat)) ⟨[x0, .fz (.lst (rows.map D.str)), x2, .fz (.tup (taps.map D.str)), .fz (.tup (ps.map Part.d)), x5, x6], st0⟩ = .ok (.rt (.int (n : Nat))) s'
    | .inr qs => ∃ x5' x6', forD (tgName 5) lwBody ((List.range' pre.length rest.length).map fun j => .int (j : Nat)) ⟨[x0, .fz (.lst (rows.map D.str)), x2, .fz (.tup (taps.map D.str)), .fz (.tup (ps.map Part.d)), x5, x6], st0⟩ = .ok .nx ⟨[x0, .fz (.lst (rows.map D.str)), x2, .fz (.tup (taps.map D.str)), .fz (.tup (qs.map Part.d)), x5', x6'], st0⟩
  | [], pre, l, ps, x5, x6, er, hr, hps, h2 => ⟨x5, x6, rfl⟩
  | r :: rest, pre, l, ps, x5, x6, er, hr, hps, h2 => by
    have hrr := hr r List.mem_cons_self
    have hpl := g_read_part hrr
    have hsz : ps.length + 1 ≤ sizeLine := by have := sizeLine_big; simp only [List.length_cons] at h2; omega
    have eix : (rows.map D.str)[pre.length]? = some (.str r) := by rw [er]; simp
    have tg : tgName 5 (.int (pre.length : Nat)) ⟨[x0, .fz (.lst (rows.map D.str)), x2, .fz (.tup (taps.map D.str)), .fz (.tup (ps.map Part.d)), x5, x6], st0⟩ = some ⟨[x0, .fz (.lst (rows.map D.str)), x2, .fz (.tup (taps.map D.str)), .fz (.tup (ps.map Part.d)), .fz (.int (pre.length : Nat)), x6], st0⟩ := rfl
    have ez : ((List.range' pre.length (r :: rest).length).map fun j => D.int (j : Nat)) = .int (pre.length : Nat) :: ((List.range' (pre.length + 1) rest.length).map fun j => D.int (j : Nat)) := rfl
    rw [ez]
    have eg : goT taps (r :: rest) (pre.length + 1) ps = (match partT r with
      | none => .inl (pre.length + 1)
      | some p => if (Net.mk taps (ps ++ [p])).ok = true then goT taps rest (pre.length + 1 + 1) (ps ++ [p]) else .inl (pre.length + 1)) := rfl
    rw [eg]
    have eix2 : ixR (.lst (rows.map D.str)) (.int (pre.length : Nat)) = some (.str r) := by rw [ixR_lst, DL.atI_nat, eix]
    cases hp : partT r with
    | none =>
      rw [hp] at hpl
      refine ⟨⟨[x0, .fz (.lst (rows.map D.str)), x2, .fz (.tup (taps.map D.str)), .fz (.tup (ps.map Part.d)), .fz (.int (pre.length : Nat)), .fz .non], st0⟩, for_rt tg ?_⟩
      simp only [partD] at hpl
      simp [lwBody, eix, hpl, isNonD]
    | some p =>
      rw [hp] at hpl
      have hsh := part_shape hrr hp
      have hps2 : ∀ q ∈ ps ++ [p], q.shape := fun q hq => by
        rcases List.mem_append.mp hq with q | q
        · exact hps _ q
        · rw [List.mem_singleton.mp q]; exact hsh
      have hnon := part_non (some p)
      simp only [partD, Option.isNone_some] at hnon hpl
      have hnet := g_an_is_net (net_good ht htl hps2)
      have ed : (Net.mk taps (ps ++ [p])).d = .tup [.tup (taps.map D.str), .tup (ps.map Part.d ++ [p.d])] := by simp [Net.d]
      rw [ed] at hnet
      dsimp only
      cases hk : (Net.mk taps (ps ++ [p])).ok with
      | false =>
        rw [hk] at hnet
        refine ⟨⟨[x0, .fz (.lst (rows.map D.str)), x2, .fz (.tup (taps.map D.str)), .fz (.tup (ps.map Part.d)), .fz (.int (pre.length : Nat)), .fz p.d], st0⟩, for_rt tg ?_⟩
        simp [lwBody, eix, hpl, hnon, size1, size2, hsz, hnet]
      | true =>
        rw [hk] at hnet
        have hb : lwBody ⟨[x0, .fz (.lst (rows.map D.str)), x2, .fz (.tup (taps.map D.str)), .fz (.tup (ps.map Part.d)), .fz (.int (pre.length : Nat)), x6], st0⟩ = .ok .nx ⟨[x0, .fz (.lst (rows.map D.str)), x2, .fz (.tup (taps.map D.str)), .fz (.tup ((ps ++ [p]).map Part.d)), .fz (.int (pre.length : Nat)), .fz p.d], st0⟩ := by
          simp [lwBody, eix, hpl, hnon, size1, size2, hsz, hnet]
        rw [for_nx tg hb]
        have ih := lw_loop x0 x2 taps rows ht htl rest (pre ++ [r]) l (ps ++ [p]) (.fz (.int (pre.length : Nat))) (.fz p.d) (by rw [er]; simp) (fun q hq => hr q (List.mem_cons_of_mem _ hq)) hps2 (by simp only [List.length_cons, List.length_append, List.length_nil] at h2 ⊢; omega)
        rw [show (pre ++ [r]).length = pre.length + 1 by simp] at ih
        exact ih
end K12
end S_E15
section S_E16
set_option Elab.async false
set_option linter.all false
set_option autoImplicit false
set_option maxRecDepth 100000
set_option maxHeartbeats 4000000
/-! E16: the law's own reader. -/
namespace K12
open PySem PySem.Spec PyProof.Rows L2 DL
theorem x_rng2 {f : M (List D)} {s s1 : FS} {m n : Int} (h : f s = .ok [.int m, .int n] s1) (hb : -(2 ^ 62) ≤ m ∧ m < 2 ^ 62 ∧ -(2 ^ 62) ≤ n ∧ n < 2 ^ 62 ∧ (n - m).toNat ≤ sizeLine) : dRng2 f s = .ok (rngD m (n - m).toNat) s1 := by
  unfold dRng2
  rw [x_bind, h, bd_ok]
  show (if _ then ret _ else stk : M (List D)) s1 = _
  rw [if_pos hb]; rfl
theorem x_rng1 {f : M (List D)} {s s1 : FS} {n : Int} (h : f s = .ok [.int n] s1) (hb : -(2 ^ 62) ≤ n ∧ n < 2 ^ 62 ∧ n.toNat ≤ sizeLine) : dRng1 f s = .ok (rngD 0 n.toNat) s1 := by
  unfold dRng1
  rw [x_bind, h, bd_ok]
  show (if _ then ret _ else stk : M (List D)) s1 = _
  rw [if_pos hb]; rfl
theorem rng_one (n : Nat) : rngD 1 n = (List.range' 1 n).map fun j => .int (j : Nat) := by
  unfold rngD
  rw [List.range'_eq_map_range, List.map_map]
  apply List.map_congr_left
  intro a _
  simp
theorem g_net0 {taps : List Str} (h : ∀ x ∈ taps, okS x = true) (hl : taps.length ≤ 1000) : G__law_an_is_net [.tup [.tup (taps.map D.str), .tup []]] = some (.bl (tapsB taps)) := by
  have := g_an_is_net (n := ⟨taps, []⟩) (net_good h hl (by simp))
  rw [show (Net.mk taps []).d = .tup [.tup (taps.map D.str), .tup []] from rfl] at this
  rw [this]
  congr 2
  unfold Net.ok
  have e : places ⟨taps, []⟩ = taps := rfl
  rw [e]
  cases hb : tapsB taps with
  | false => simp [hb]
  | true =>
    have h6 : taps.length ≤ 6 := by unfold tapsB at hb; simp only [Bool.and_eq_true, decide_eq_true_eq] at hb; exact hb.2
    simp [hb]; omega
theorem g_an_read {x : Str} (h : TxtOk x) : G__law_an_read [.str x] = some (match readT x with
    | .inl n => .int (n : Nat)
    | .inr net => net.d) := by
  have hsp : ∀ s : FS, s = ⟨[.fz (.str x), .un, .un, .un, .un, .un, .un], st0⟩ → dSplit (dVar 0) (ret (.str "\n")) s = .ok ((Txt.split x "\n").map D.str) s := fun s e => by
    subst e
    exact x_split_ok (by simp) rfl cut_line (by have := h.len; omega)
  have hsp1 := hsp _ rfl
  have hall : ∀ p ∈ Txt.split x "\n", TxtOk p := fun p hp => h.part cut_line hp
  have hne := split_ne (x := x) cut_line
  have hlen : (Txt.split x "\n").length ≤ 1000 := by have := split_len (x := x) cut_line; have := h.len; omega
  unfold readT
  generalize Txt.split x "\n" = rows at *
  obtain ⟨r, t, ert⟩ := words_of hne
  have hr := hall r (by rw [ert]; simp)
  have hsp2 : dSplit (dOp ixR (dVar 1) (ret (.int 0))) (ret (.str " ")) ⟨[.fz (.str x), .fz (.lst (rows.map D.str)), .un, .un, .un, .un, .un], st0⟩ = .ok ((Txt.split r " ").map D.str) ⟨[.fz (.str x), .fz (.lst (rows.map D.str)), .un, .un, .un, .un, .un], st0⟩ := x_split_ok (by simp [ert]) rfl cut_space (by have := hr.len; omega)
  have hw := split_ne (x := r) cut_space
  have hwall : ∀ p ∈ Txt.split r " ", TxtOk p := fun p hp => hr.part cut_space hp
  have hwlen : (Txt.split r " ").length ≤ 1000 := by have := split_len (x := r) cut_space; have := hr.len; omega
  have eh : rows.headD Str.empty = r := by rw [ert]; rfl
  unfold readW
  rw [eh]
  generalize Txt.split r " " = ws at *
  obtain ⟨w0, wt, rfl⟩ := words_of hw
  have hwt : ∀ y ∈ wt, okS y = true := fun y hy => (hwall y (List.mem_cons_of_mem _ hy)).ok
  have hwl : wt.length ≤ 1000 := by simp only [List.length_cons] at hwlen; omega
  have ht := g_net0 hwt hwl
  simp only [List.headD_cons, List.drop_succ_cons, List.drop_zero]
  have hz0 : (0 : Nat) ≤ sizeLine := Nat.zero_le _
  rcases rows_of hne with ⟨r', rfl⟩ | ⟨r', mid, l, rfl⟩
  · simp only [List.map_cons, List.map_nil] at hsp1 hsp2
    by_cases hw0 : w0 = "taps"
    · simp [G__law_an_read, wrapP, runP, entry, den__law_an_read, hsp1, hsp2, hw0]
    · simp [G__law_an_read, wrapP, runP, entry, den__law_an_read, hsp1, hsp2, hw0]
  · obtain ⟨rfl, -⟩ := List.cons.inj ert
    have e1' : ¬ ((mid.length : Int) + 1 + 1 = 1) := by omega
    by_cases hw0 : w0 = "taps"
    · cases htp : tapsB wt with
      | false =>
        rw [htp] at ht
        simp only [List.map_cons, List.map_append, List.map_nil] at hsp1 hsp2
        simp [G__law_an_read, wrapP, runP, entry, den__law_an_read, hsp1, hsp2, e1', hw0, ht, size2]
      | true =>
        rw [htp] at ht
        have hloop := lw_loop (.fz (.str x)) (.fz (.lst (.str w0 :: wt.map D.str))) wt (r' :: (mid ++ [l])) hwt hwl mid [r'] l [] .un .un rfl (fun q hq => hall q (by simp [hq])) (by simp) (by simp only [List.length_cons, List.length_append, List.length_nil] at hlen ⊢; omega)
        rw [show (r' :: (mid ++ [l])).drop 1 = mid ++ [l] from rfl, List.dropLast_concat, show (r' :: (mid ++ [l])).getLast? = some l by rw [← List.cons_append, List.getLast?_concat]]
        rw [show ([r'] : List Str).length + 1 = 2 from rfl, show ([r'] : List Str).length = 1 from rfl, ← rng_one] at hloop
        simp only [List.map_cons, List.map_append, List.map_nil] at hsp1 hsp2
        have elast : (D.str r' :: (mid.map D.str ++ [.str l])).getLast? = some (.str l) := by rw [← List.cons_append, List.getLast?_concat]
        have hmid : mid.length ≤ 1000 := by simp only [List.length_cons, List.length_append, List.length_nil] at hlen; omega
        have hrng : dRng2 (dCons (ret (.int 1)) (dCons (dOp subR (dCall lenR (dCons (dVar 1) (ret []))) (ret (.int 1))) (ret []))) ⟨[.fz (.str x), .fz (.lst (.str r' :: (mid.map D.str ++ [.str l]))), .fz (.lst (.str "taps" :: wt.map D.str)), .fz (.tup (wt.map D.str)), .fz (.tup []), .un, .un], st0⟩
            = .ok (rngD 1 mid.length) ⟨[.fz (.str x), .fz (.lst (.str r' :: (mid.map D.str ++ [.str l]))), .fz (.lst (.str "taps" :: wt.map D.str)), .fz (.tup (wt.map D.str)), .fz (.tup []), .un, .un], st0⟩ := by
          have e : ((mid.length : Int) + 1 + 1 - 1 - 1).toNat = mid.length := by omega
          have := x_rng2 (f := dCons (ret (.int 1)) (dCons (dOp subR (dCall lenR (dCons (dVar 1) (ret []))) (ret (.int 1))) (ret []))) (s := ⟨[.fz (.str x), .fz (.lst (.str r' :: (mid.map D.str ++ [.str l]))), .fz (.lst (.str "taps" :: wt.map D.str)), .fz (.tup (wt.map D.str)), .fz (.tup []), .un, .un], st0⟩) (s1 := ⟨[.fz (.str x), .fz (.lst (.str r' :: (mid.map D.str ++ [.str l]))), .fz (.lst (.str "taps" :: wt.map D.str)), .fz (.tup (wt.map D.str)), .fz (.tup []), .un, .un], st0⟩) (m := 1) (n := (mid.length : Int) + 1 + 1 - 1) (by simp) (by have := sizeLine_big; omega)
          rw [e] at this
          exact this
        cases hg : goT wt mid 2 [] with
        | inl n =>
          rw [hg] at hloop
          obtain ⟨s', hs⟩ := hloop
          simp only [hw0, lwBody, List.map_nil, List.map_cons, List.map_append] at hs hsp1 hsp2
          simp [G__law_an_read, wrapP, runP, entry, den__law_an_read, hsp1, hsp2, e1', hw0, ht, htp, x_for, hrng, hs, size2, hz0]
        | inr ps =>
          rw [hg] at hloop
          obtain ⟨x5, x6, hs⟩ := hloop
          simp only [hw0, lwBody, List.map_nil, List.map_cons, List.map_append] at hs hsp1 hsp2
          dsimp only
          by_cases hl : l = ""
          · subst hl
            simp [G__law_an_read, wrapP, runP, entry, den__law_an_read, hsp1, hsp2, e1', hw0, ht, htp, x_for, hrng, hs, size2, hz0, elast, Net.d]
          · simp [G__law_an_read, wrapP, runP, entry, den__law_an_read, hsp1, hsp2, e1', hw0, ht, htp, x_for, hrng, hs, size2, hz0, elast, hl]
    · simp only [List.map_cons, List.map_append, List.map_nil] at hsp1 hsp2
      simp [G__law_an_read, wrapP, runP, entry, den__law_an_read, hsp1, hsp2, hw0]
end K12
end S_E16
section S_E17
set_option Elab.async false
set_option linter.all false
set_option autoImplicit false
set_option maxRecDepth 100000
set_option maxHeartbeats 4000000
/-! E17: numbers and parts are written. -/
namespace K12
open PySem PySem.Spec PyProof.Rows L2 DL
def drI (i : Int) : Prop := 0 ≤ i ∧ i < 10 ^ 30
def Num.dr : Num → Prop
  | .int i => drI i
  | .fr a b => drI a ∧ drI b
def intS (i : Int) : Str := Str.ofString (toString i)
def numS : Num → Str
  | .int i => intS i
  | .fr a b => intS a ++ "/" ++ intS b
theorem drI_nat {i : Int} (h : drI i) : ∃ n : Nat, i = (n : Int) ∧ n < 10 ^ 30 := by
  obtain ⟨h1, h2⟩ := h
  refine ⟨i.toNat, by omega, ?_⟩
  have e : ((10 : Int) ^ 30) = ((10 ^ 30 : Nat) : Int) := by rw [Int.natCast_pow]; rfl
  omega
theorem tl_intS (n : Nat) : TL.tl (intS (n : Int)) = TL.numL n := TL.tl_num n
theorem intS_len {i : Int} (h : drI i) : (intS i).length ≤ 30 := by
  obtain ⟨n, rfl, hn⟩ := drI_nat h
  rw [TL.len_tl, tl_intS]
  exact TL.numL_len (by decide) hn
theorem strI_dr {i : Int} (h : drI i) : strI i = some (.str (intS i)) := by
  unfold strI
  have hl : i.natAbs.log2 < 1920 := by
    obtain ⟨n, rfl, hn⟩ := drI_nat h
    by_cases h0 : ((n : Int)).natAbs = 0
    · rw [h0]; decide
    · rw [Nat.log2_lt h0]
      have e1 : ((n : Int)).natAbs = n := by omega
      rw [e1]
      exact Nat.lt_of_lt_of_le hn (Nat.le_trans (by decide : 10 ^ 30 ≤ 2 ^ 100) (Nat.pow_le_pow_right (by decide) (by decide)))
  rw [if_pos hl]; rfl
theorem app_len (x y : Str) : (x ++ y).length = x.length + y.length := by rw [TL.len_tl, TL.len_tl, TL.len_tl, TL.tl_append, List.length_append]
theorem empty_app (x : Str) : Str.empty ++ x = x := TL.ext_tl (by rw [TL.tl_append]; rfl)
theorem slash_len : ("/" : Str).length = 1 := by decide
theorem numS_len {w : Num} (h : w.dr) : (numS w).length ≤ 61 := by
  cases w with
  | int i => have := intS_len (i := i) h; simp only [numS]; omega
  | fr a b =>
    have h1 := intS_len h.1
    have h2 := intS_len h.2
    simp only [numS, app_len, slash_len]
    omega
theorem g_number_text {w : Num} (h : w.dr) : G_number_text [w.d] = some (.str (numS w)) := by
  cases w with
  | int i =>
    have := strI_dr (i := i) h
    simp [G_number_text, wrapP, runP, entry, den_number_text, Num.d, this, numS]
  | fr a b =>
    have h1 := strI_dr h.1
    have h2 := strI_dr h.2
    have l1 := intS_len h.1
    have l2 := intS_len h.2
    have z1 : (intS a).length ≤ sizeLine := by have := sizeLine_big; omega
    have z2 : (intS a ++ ("/" : Str)).length ≤ sizeLine := by have := sizeLine_big; rw [app_len, slash_len]; omega
    have z3 : (intS a ++ ("/" : Str) ++ intS b).length ≤ sizeLine := by have := sizeLine_big; rw [app_len, app_len, slash_len]; omega
    simp only [G_number_text, wrapP, runP, entry, den_number_text, Num.d, numS]
    simp [h1, h2, empty_app, z1, z2, z3]
theorem g_number_words {w : Num} (h : w.dr) : G__law_an_number_words [w.d] = some (.str (numS w)) := by
  cases w with
  | int i =>
    have := strI_dr (i := i) h
    simp [G__law_an_number_words, wrapP, runP, entry, den__law_an_number_words, Num.d, this, numS]
  | fr a b =>
    have h1 := strI_dr h.1
    have h2 := strI_dr h.2
    have l1 := intS_len h.1
    have l2 := intS_len h.2
    have z2 : (intS a).length + ("/" : Str).length ≤ sizeLine := by have := sizeLine_big; rw [slash_len]; omega
    have z3 : (intS a ++ ("/" : Str)).length + (intS b).length ≤ sizeLine := by have := sizeLine_big; rw [app_len, slash_len]; omega
    simp only [G__law_an_number_words, wrapP, runP, entry, den__law_an_number_words, Num.d, numS]
    simp [h1, h2, z2, z3]
/-! ### parts -/
structure Part.dr (p : Part) : Prop where
  two : p.two
  shape : p.shape
  kind : p.kind.length ≤ 4
  many : p.ends.length ≤ 4
  ends : ∀ x ∈ p.ends, x.length ≤ 5
  num : p.w.dr
def partL (p : Part) : List Str := p.kind :: (p.ends ++ [numS p.w])
def partS (p : Part) : Str := Txt.join " " (partL p)
theorem sum_le {l : List Str} {n : Nat} (h : ∀ x ∈ l, x.length ≤ n) : (l.map (·.length)).sum ≤ n * l.length := by
  induction l with
  | nil => simp
  | cons a r ih =>
    have h1 := h a List.mem_cons_self
    have h2 := ih fun x hx => h x (List.mem_cons_of_mem _ hx)
    simp only [List.map_cons, List.sum_cons, List.length_cons, Nat.mul_add, Nat.mul_one]
    omega
theorem partL_sum {p : Part} (h : p.dr) : ((partL p).map (·.length)).sum + (partL p).length ≤ 91 := by
  have h1 := sum_le h.ends
  have h2 := numS_len h.num
  have h3 := h.kind
  have h4 := h.many
  unfold partL
  simp only [List.map_cons, List.map_append, List.map_nil, List.sum_cons, List.sum_append, List.sum_nil, List.length_cons, List.length_append, List.length_nil]
  omega
theorem space_len : (" " : Str).length = 1 := by decide
theorem g_part_text {p : Part} (h : p.dr) : G_part_text [p.d] = some (.str (partS p)) := by
  have h0 := part_ix0 p
  have h1 := part_last p
  have h2 := g_ends h.two
  have h3 := g_number_text h.num
  have hb := partL_sum h
  have hm := h.many
  have z1 : 1 + p.ends.length ≤ sizeLine := by have := sizeLine_big; omega
  have z2 : 1 + p.ends.length + 1 ≤ sizeLine := by have := sizeLine_big; omega
  have es : strsD (.str p.kind :: (p.ends.map D.str ++ [.str (numS p.w)])) = some (partL p) := by
    have := strsD_map (partL p)
    rw [← this]; unfold partL; simp
  have z3 : ((partL p).map (·.length)).sum + (partL p).length * (" " : Str).length ≤ 16777216 := by rw [space_len]; omega
  have z4 : p.ends.length + 1 ≤ sizeLine := by omega
  have z5 : p.ends.length + 1 + 1 ≤ sizeLine := by omega
  simp [G_part_text, wrapP, runP, entry, den_part_text, x_join, h0, h1, h2, h3, size1, z1, z2, z4, z5, es, z3, partS]
end K12
end S_E17
section S_E18
set_option Elab.async false
set_option linter.all false
set_option autoImplicit false
set_option maxRecDepth 100000
set_option maxHeartbeats 4000000
/-! E18: nets are written, in both ways. -/
namespace K12
open PySem PySem.Spec PyProof.Rows L2 DL
structure Net.dr (n : Net) : Prop where
  good : n.good
  few : n.taps.length ≤ 6
  ne : n.taps ≠ []
  tap : ∀ x ∈ n.taps, x.length ≤ 5
  nine : n.parts.length ≤ 9
  parts : ∀ p ∈ n.parts, p.dr
def tapL (n : Net) : List Str := ("taps" : Str) :: n.taps
def rowsW (n : Net) : List Str := Txt.join " " (tapL n) :: n.parts.map partS
def writeT (n : Net) : Str := Txt.join "\n" (rowsW n) ++ "\n"
theorem join_len (y : Str) (l : List Str) : (Txt.join y l).length ≤ (l.map (·.length)).sum + l.length * y.length := by
  rw [TL.join_eq]
  induction l with
  | nil => show (0 : Nat) ≤ _; omega
  | cons x r ih =>
    cases r with
    | nil => show x.length ≤ _; simp
    | cons z r =>
      show (x ++ y ++ Str.join y (z :: r)).length ≤ _
      rw [app_len, app_len]
      simp only [List.map_cons, List.sum_cons, List.length_cons, Nat.add_mul, Nat.one_mul] at ih ⊢
      omega
theorem partS_len {p : Part} (h : p.dr) : (partS p).length ≤ 91 := by
  have h1 := join_len " " (partL p)
  have h2 := partL_sum h
  rw [space_len, Nat.mul_one] at h1
  unfold partS
  omega
theorem taps_len : ("taps" : Str).length = 4 := by decide
theorem tapsp_len : ("taps " : Str).length = 5 := by decide
theorem line_len : ("\n" : Str).length = 1 := by decide
theorem row0_len {n : Net} (h : n.dr) : ((tapL n).map (·.length)).sum + (tapL n).length * (" " : Str).length ≤ 41 := by
  have h1 := sum_le h.tap
  have h2 := h.few
  rw [space_len]
  unfold tapL
  simp only [List.map_cons, List.sum_cons, List.length_cons, taps_len]
  omega
theorem rows_sum {n : Net} (h : n.dr) : ((rowsW n).map (·.length)).sum + (rowsW n).length * ("\n" : Str).length ≤ 871 := by
  have h1 := join_len " " (tapL n)
  have h2 := row0_len h
  have h3 : ∀ x ∈ n.parts.map partS, x.length ≤ 91 := fun x hx => by
    obtain ⟨p, hp, rfl⟩ := List.mem_map.mp hx
    exact partS_len (h.parts p hp)
  have h4 := sum_le h3
  have h5 := h.nine
  rw [line_len]
  unfold rowsW
  simp only [List.map_cons, List.sum_cons, List.length_cons]
  rw [List.length_map] at h4 ⊢
  omega
theorem g_net_text {n : Net} (h : n.dr) (k : n.ok = true) : G_net_text [n.d] = some (.ok (.str (writeT n))) := by
  have hn := g_need_net h.good k
  have h9 := h.nine
  have h6 := h.few
  have e0 : ixR n.d (.int 0) = some (.tup (n.taps.map D.str)) := rfl
  have e1 : ixR n.d (.int 1) = some (.tup (n.parts.map Part.d)) := rfl
  have c1 : dComp (dItT (dOp ixR (dVar 0) (ret (.int 1)))) (tgName 2) (ret true) (dCall G_part_text (dCons (dVar 2) (ret []))) [2] ⟨[.fz n.d, .un, .un], st0⟩ = .ok ((n.parts.map partS).map D.str) ⟨[.fz n.d, .un, .un], st0⟩ := by
    have := dcompT (fi := dItT (dOp ixR (dVar 0) (ret (.int 1)))) (fg := tgName 2) (ft := ret true) (fe := dCall G_part_text (dCons (dVar 2) (ret []))) (vs := [2]) (s := ⟨[.fz n.d, .un, .un], st0⟩) (l := n.parts) (s1 := ⟨[.fz n.d, .un, .un], st0⟩) Part.d (fun _ => true) (fun p => .str (partS p)) (by simp [e1]) rfl fun c hc => ⟨⟨[.fz n.d, .un, .fz c.d], st0⟩, rfl, rfl, fun _ => by simp [g_part_text (h.parts c hc)], rfl, rfl⟩
    rw [filter_all] at this
    rw [this, List.map_map]; rfl
  have z1 : 1 + n.taps.length ≤ sizeLine := by have := sizeLine_big; omega
  have z1' : n.taps.length + 1 ≤ sizeLine := by omega
  have z2 : 1 + n.parts.length ≤ sizeLine := by have := sizeLine_big; omega
  have z2' : n.parts.length + 1 ≤ sizeLine := by omega
  have b0 : ((tapL n).map (·.length)).sum + (tapL n).length * (" " : Str).length ≤ 16777216 := by have := row0_len h; omega
  have b1 : ((rowsW n).map (·.length)).sum + (rowsW n).length * ("\n" : Str).length ≤ 16777216 := by have := rows_sum h; omega
  have b2 : (Txt.join "\n" (rowsW n)).length + ("\n" : Str).length ≤ sizeLine := by
    have := join_len "\n" (rowsW n)
    have := rows_sum h
    have := sizeLine_big
    rw [line_len] at *
    omega
  have j0 : dJoin (ret (.str " ")) (dOp addR (dFrz (dLst (dCons (ret (.str "taps")) (ret [])))) (dFrz (dCallL lstR (dCons (dOp ixR (dVar 0) (ret (.int 0))) (ret []))))) ⟨[.fz n.d, .un, .un], st0⟩ = .ok (.str (Txt.join " " (tapL n))) ⟨[.fz n.d, .un, .un], st0⟩ :=
    x_join_ok (l := tapL n) rfl (by simp [e0, size1, z1, z1', tapL]) (strsD_map _) b0
  have j1 : dJoin (ret (.str "\n")) (dVar 1) ⟨[.fz n.d, .fz (.lst ((rowsW n).map D.str)), .un], st0⟩ = .ok (.str (Txt.join "\n" (rowsW n))) ⟨[.fz n.d, .fz (.lst ((rowsW n).map D.str)), .un], st0⟩ :=
    x_join_ok (l := rowsW n) rfl rfl (strsD_map _) b1
  have er : (rowsW n).map D.str = .str (Txt.join " " (tapL n)) :: (n.parts.map partS).map D.str := rfl
  rw [er] at j1
  have zp : ((n.parts.map partS).map D.str).length = n.parts.length := by simp
  generalize (n.parts.map partS).map D.str = pd at *
  simp only [G_net_text, wrapX, runX, entry, den_net_text]
  simp [hn, j0, c1, z2, z2', zp, j1, b2, size1, writeT]
theorem tapsp (n : Net) (h : n.taps ≠ []) : ("taps " : Str) ++ Txt.join " " n.taps = Txt.join " " (tapL n) := by
  refine TL.ext_tl ?_
  rw [TL.tl_append, TL.join_eq, TL.join_eq, TL.tl_join, TL.tl_join]
  unfold tapL
  match n.taps, h with
  | a :: r, _ =>
    simp only [List.map_cons]
    show _ = TL.tl ("taps" : Str) ++ (TL.tl (" " : Str) ++ TL.joinL (TL.tl (" " : Str)) (TL.tl a :: r.map TL.tl))
    rw [← List.append_assoc]
    congr 1
theorem join_lines : ∀ (rows : List Str), rows ≠ [] → Txt.join "" (rows.map (· ++ ("\n" : Str))) = Txt.join "\n" rows ++ "\n" := by
  intro rows h
  refine TL.ext_tl ?_
  rw [TL.tl_append, TL.join_eq, TL.join_eq, TL.tl_join, TL.tl_join]
  have e0 : TL.tl ("" : Str) = [] := by decide
  rw [e0]
  induction rows with
  | nil => exact absurd rfl h
  | cons a r ih =>
    cases r with
    | nil => simp [TL.joinL, TL.tl_append]
    | cons b r =>
      have := ih (by simp)
      simp only [List.map_cons] at this ⊢
      show TL.tl (a ++ ("\n" : Str)) ++ ([] ++ TL.joinL [] (TL.tl (b ++ ("\n" : Str)) :: (r.map (· ++ ("\n" : Str))).map TL.tl)) = TL.tl a ++ (TL.tl ("\n" : Str) ++ TL.joinL (TL.tl ("\n" : Str)) (TL.tl b :: r.map TL.tl)) ++ TL.tl ("\n" : Str)
      rw [this, TL.tl_append]
      simp [List.append_assoc]
theorem foldl_snoc {γ τ : Type} (g : τ → γ) (l : List τ) : ∀ c : List γ, l.foldl (fun c p => c ++ [g p]) c = c ++ l.map g := by
  induction l with
  | nil => intro c; simp
  | cons a r ih => intro c; simp only [List.foldl_cons, ih, List.map_cons, List.append_assoc]; rfl
abbrev wrBody : M Fl := fDrop (dAppend 1 (dJoin (ret (.str " ")) (dOp addR (dOp addR (dFrz (dLst (dCons (dOp ixR (dVar 2) (ret (.int 0))) (ret [])))) (dFrz (dCallL lstR (dCons (dCall G__law_an_ends (dCons (dVar 2) (ret []))) (ret []))))) (dFrz (dLst (dCons (dCall G__law_an_number_words (dCons (dOp ixR (dVar 2) (dNeg (ret (.int 1)))) (ret []))) (ret [])))))))
theorem empty_l : ("" : Str).length = 0 := by decide
theorem g_written {n : Net} (h : n.dr) : G__law_an_written [n.d] = some (.str (writeT n)) := by
  have h9 := h.nine
  have h6 := h.few
  have e0 : ixR n.d (.int 0) = some (.tup (n.taps.map D.str)) := rfl
  have e1 : ixR n.d (.int 1) = some (.tup (n.parts.map Part.d)) := rfl
  have hr0 := row0_len h
  have t1 := sum_le h.tap
  have t2 := join_len " " n.taps
  rw [space_len] at t2
  have b0 : (n.taps.map (·.length)).sum + n.taps.length * (" " : Str).length ≤ 16777216 := by rw [space_len]; omega
  have j0 : dJoin (ret (.str " ")) (dFrz (dCallL lstR (dCons (dOp ixR (dVar 0) (ret (.int 0))) (ret [])))) ⟨[.fz n.d, .un, .un, .un], st0⟩ = .ok (.str (Txt.join " " n.taps)) ⟨[.fz n.d, .un, .un, .un], st0⟩ :=
    x_join_ok (l := n.taps) rfl (by simp [e0]) (strsD_map _) b0
  have z0 : ("taps " : Str).length + (Txt.join " " n.taps).length ≤ sizeLine := by have := sizeLine_big; rw [tapsp_len]; omega
  have ht := tapsp n h.ne
  obtain ⟨s', hs', ⟨x2, rfl⟩, -⟩ := forR (g := tgName 2) (b := wrBody) Part.d (fun (c : List Str) s => ∃ x2, s = ⟨[.fz n.d, .ow (c.map D.str), x2, .un], st0⟩) (fun c p => c ++ [partS p]) (fun m c => c.length + m ≤ 20) n.parts [Txt.join " " (tapL n)]
    ⟨[.fz n.d, .ow ([Txt.join " " (tapL n)].map D.str), .un, .un], st0⟩ ⟨_, rfl⟩ (by simp only [List.length_cons, List.length_nil]; omega) (by
      rintro m c s p hp ⟨x2, rfl⟩ hI
      have hd := h.parts p hp
      have q0 := part_ix0 p
      have q1 := part_last p
      have q2 := g_an_ends hd.two
      have q3 := g_number_words hd.num
      have qb := partL_sum hd
      have qm := hd.many
      have z1 : 1 + p.ends.length ≤ sizeLine := by have := sizeLine_big; omega
      have z4 : p.ends.length + 1 ≤ sizeLine := by omega
      have z5 : p.ends.length + 1 + 1 ≤ sizeLine := by have := sizeLine_big; omega
      have z6 : 1 + p.ends.length + 1 ≤ sizeLine := by omega
      have hl : c.length < sizeLine := by have := sizeLine_big; omega
      have j1 : dJoin (ret (.str " ")) (dOp addR (dOp addR (dFrz (dLst (dCons (dOp ixR (dVar 2) (ret (.int 0))) (ret [])))) (dFrz (dCallL lstR (dCons (dCall G__law_an_ends (dCons (dVar 2) (ret []))) (ret []))))) (dFrz (dLst (dCons (dCall G__law_an_number_words (dCons (dOp ixR (dVar 2) (dNeg (ret (.int 1)))) (ret []))) (ret []))))) ⟨[.fz n.d, .ow (c.map D.str), .fz p.d, .un], st0⟩ = .ok (.str (partS p)) ⟨[.fz n.d, .ow (c.map D.str), .fz p.d, .un], st0⟩ :=
        x_join_ok (l := partL p) rfl (by simp [q0, q1, q2, q3, size1, z1, z4, z5, z6, partL]) (strsD_map _) (by rw [space_len]; omega)
      refine ⟨⟨⟨[.fz n.d, .ow (c.map D.str), .fz p.d, .un], st0⟩, ⟨[.fz n.d, .ow ((c ++ [partS p]).map D.str), .fz p.d, .un], st0⟩, rfl, ?_, ⟨_, rfl⟩⟩, by simp only [List.length_append, List.length_cons, List.length_nil]; omega⟩
      simp only [wrBody, x_drop, x_append, x_peek]
      simp [j1, hl])
  rw [foldl_snoc] at hs'
  have er : [Txt.join " " (tapL n)] ++ n.parts.map partS = rowsW n := rfl
  rw [er] at hs'
  have hsum := rows_sum h
  have hrl : ∀ x ∈ rowsW n, x.length ≤ 871 := fun x hx => by
    have : ∀ l : List Str, x ∈ l → x.length ≤ (l.map (·.length)).sum := by
      intro l
      induction l with
      | nil => intro q; cases q
      | cons a r ih =>
        intro q
        simp only [List.map_cons, List.sum_cons]
        rcases List.mem_cons.mp q with e | e
        · subst e; omega
        · have := ih e; omega
    have := this _ hx
    omega
  have c1 : dComp (dItL (dVar 1)) (tgName 3) (ret true) (dOp addR (dVar 3) (ret (.str "\n"))) [3] ⟨[.fz n.d, .ow ((rowsW n).map D.str), x2, .un], st0⟩ = .ok (((rowsW n).map (· ++ ("\n" : Str))).map D.str) ⟨[.fz n.d, .fz (.lst ((rowsW n).map D.str)), x2, .un], st0⟩ := by
    have := dcompT (fi := dItL (dVar 1)) (fg := tgName 3) (ft := ret true) (fe := dOp addR (dVar 3) (ret (.str "\n"))) (vs := [3]) (s := ⟨[.fz n.d, .ow ((rowsW n).map D.str), x2, .un], st0⟩) (l := rowsW n) (s1 := ⟨[.fz n.d, .fz (.lst ((rowsW n).map D.str)), x2, .un], st0⟩) D.str (fun _ => true) (fun x => .str (x ++ ("\n" : Str))) (by simp) rfl fun c hc => ⟨⟨[.fz n.d, .fz (.lst ((rowsW n).map D.str)), x2, .fz (.str c)], st0⟩, rfl, rfl, fun _ => by
      have z : c.length + ("\n" : Str).length ≤ sizeLine := by have := hrl c hc; have := sizeLine_big; rw [line_len]; omega
      simp [z], rfl, rfl⟩
    rw [filter_all] at this
    rw [this, List.map_map]; rfl
  have hsum2 : (((rowsW n).map (· ++ ("\n" : Str))).map (·.length)).sum ≤ ((rowsW n).map (·.length)).sum + (rowsW n).length := by
    generalize rowsW n = l
    induction l with
    | nil => simp
    | cons a r ih => simp only [List.map_cons, List.sum_cons, List.length_cons, app_len, line_len] at ih ⊢; omega
  rw [line_len] at hsum
  have j2 : dJoin (ret (.str "")) (dFrz (dComp (dItL (dVar 1)) (tgName 3) (ret true) (dOp addR (dVar 3) (ret (.str "\n"))) [3])) ⟨[.fz n.d, .ow ((rowsW n).map D.str), x2, .un], st0⟩ = .ok (.str (writeT n)) ⟨[.fz n.d, .fz (.lst ((rowsW n).map D.str)), x2, .un], st0⟩ := by
    have jj : dJoin (ret (.str "")) (dFrz (dComp (dItL (dVar 1)) (tgName 3) (ret true) (dOp addR (dVar 3) (ret (.str "\n"))) [3])) ⟨[.fz n.d, .ow ((rowsW n).map D.str), x2, .un], st0⟩ = .ok (.str (Txt.join "" ((rowsW n).map (· ++ ("\n" : Str))))) ⟨[.fz n.d, .fz (.lst ((rowsW n).map D.str)), x2, .un], st0⟩ :=
      x_join_ok (l := (rowsW n).map (· ++ ("\n" : Str))) rfl (by rw [x_frz, c1]; rfl) (strsD_map _) (by rw [empty_l]; omega)
    rw [join_lines _ (by unfold rowsW; simp)] at jj
    exact jj
  simp only [List.map_cons, List.map_nil] at hs'
  simp only [G__law_an_written, wrapP, runP, entry, den__law_an_written]
  simp [j0, z0, size1, ht, x_for, e1, hs', j2]
end K12
end S_E18
section S_P2
set_option Elab.async false
set_option linter.all false
set_option autoImplicit false
set_option maxRecDepth 100000
set_option maxHeartbeats 4000000
/-! P2: what is written is read back. -/
namespace K12
open PySem PySem.Spec PyProof.Rows L2 DL
def Free (x : Str) : Prop := ∀ c ∈ TL.tl x, c ≠ 32 ∧ c ≠ 10
theorem Free.sp {x : Str} (h : Free x) : 32 ∉ TL.tl x := fun q => (h 32 q).1 rfl
theorem Free.nl {x : Str} (h : Free x) : 10 ∉ TL.tl x := fun q => (h 10 q).2 rfl
theorem name_free {x : Str} (h : nameS x = true) : Free x := fun c hc => by
  unfold nameS at h
  simp only [Bool.and_eq_true] at h
  have hl := List.all_eq_true.mp h.2 c hc
  have e1 : chIn LD 32 = false := by decide +kernel
  have e2 : chIn LD 10 = false := by decide +kernel
  constructor
  · intro e; subst e; rw [hl] at e1; cases e1
  · intro e; subst e; rw [hl] at e2; cases e2
theorem free_app {x y : Str} (h : Free x) (k : Free y) : Free (x ++ y) := fun c hc => by
  rw [TL.tl_append] at hc
  rcases List.mem_append.mp hc with q | q
  · exact h c q
  · exact k c q
theorem free_int {i : Int} (h : drI i) : Free (intS i) := fun c hc => by
  obtain ⟨n, rfl, hn⟩ := drI_nat h
  rw [tl_intS] at hc
  have := TL.numL_digits n c hc
  omega
theorem free_of_all {x : Str} (h : (TL.tl x).all (fun c => !(c == 32) && !(c == 10)) = true) : Free x := fun c hc => by
  have := List.all_eq_true.mp h c hc
  simpa using this
theorem free_num {w : Num} (h : w.dr) : Free (numS w) := by
  cases w with
  | int i => exact free_int h
  | fr a b => exact free_app (free_app (free_int h.1) (free_of_all (by decide +kernel))) (free_int h.2)
/-! ### numbers -/
theorem numL_head {n : Nat} (h : 0 < n) : (TL.numL n).headD 0 ≠ 48 := by
  induction n using Nat.strongRecOn with
  | _ n ih =>
    by_cases h1 : n < 10
    · rw [TL.numL_lt h1]; simp; omega
    · rw [TL.numL_step (by omega)]
      have := ih (n / 10) (by omega) (by omega)
      cases e : TL.numL (n / 10) with
      | nil => exact absurd e (TL.numL_ne _)
      | cons a r => rw [e] at this; simpa using this
theorem hd0_tl (x : Str) : hd0 x = (TL.tl x).headD 0 := by
  obtain ⟨⟨l⟩⟩ := x
  cases l <;> rfl
theorem whole_int {n : Nat} (h : n < 10 ^ 30) : wholeT (intS (n : Int)) = some n := by
  have ht := tl_intS n
  have hlen : (intS (n : Int)).length = (TL.numL n).length := by rw [TL.len_tl, ht]
  have h1 : 1 ≤ (intS (n : Int)).length := by
    rw [hlen]
    cases e : TL.numL n with
    | nil => exact absurd e (TL.numL_ne _)
    | cons a r => simp
  have h2 : (intS (n : Int)).length ≤ 30 := by rw [hlen]; exact TL.numL_len (by decide) h
  have h3 : digB (intS (n : Int)) = true := List.all_eq_true.mpr fun c hc => by
    rw [show (intS (n : Int)).cps.toList = TL.numL n from ht] at hc
    exact (dig_iff c).mpr (TL.numL_digits n c hc)
  have h4 : (decide (intS (n : Int) = "0") || !decide (hd0 (intS (n : Int)) = 48)) = true := by
    by_cases h0 : n = 0
    · subst h0
      have : intS ((0 : Nat) : Int) = "0" := by decide +kernel
      rw [this]; rfl
    · have := numL_head (n := n) (by omega)
      rw [hd0_tl, ht, decide_eq_false this]
      simp
  rw [whole_some (by rw [decide_eq_true h1, decide_eq_true h2, h3, h4]; rfl)]
  rw [show (intS (n : Int)).cps.toList = TL.numL n from ht, TL.numL_val]
theorem split_one {x y : Str} {s : Nat} (ey : TL.tl y = [s]) (hk : y.cps.all (· < 256) = true) (h : s ∉ TL.tl x) : Txt.split x y = [x] := by
  have := TL.split_join (y := y) (s := s) (S := []) ey hk (parts := [x]) (by simp) (by simpa using h)
  rw [TL.join_eq] at this
  exact this
theorem num_read {w : Num} (h : w.dr) (k : w.ok = true) : numT (numS w) = some w := by
  have esl : TL.tl ("/" : Str) = [47] := by decide
  have hk : ("/" : Str).cps.all (· < 256) = true := by decide +kernel
  have fr : ∀ n : Nat, 47 ∉ TL.tl (intS (n : Int)) := fun n hn => by
    rw [tl_intS] at hn
    have := TL.numL_digits n 47 hn
    omega
  unfold numT
  cases w with
  | int i =>
    obtain ⟨n, rfl, hn⟩ := drI_nat (i := i) h
    show numW ((Txt.split (intS (n : Int)) "/").map wholeT) = _
    rw [split_one esl hk (fr n)]
    simp only [List.map_cons, List.map_nil, whole_int hn]
    rfl
  | fr a b =>
    obtain ⟨n, rfl, hn⟩ := drI_nat h.1
    obtain ⟨m, rfl, hm⟩ := drI_nat h.2
    have e : Txt.split (numS (.fr (n : Int) (m : Int))) "/" = [intS (n : Int), intS (m : Int)] := by
      have := TL.split_join (y := "/") (s := 47) (S := []) esl hk (parts := [intS (n : Int), intS (m : Int)]) (by simp) (fun p hp => by
        rcases List.mem_cons.mp hp with e | hp
        · subst e; exact fr n
        · rw [List.mem_singleton.mp hp]; exact fr m)
      rw [TL.join_eq] at this
      exact this
    rw [e]
    simp only [List.map_cons, List.map_nil, whole_int hn, whole_int hm]
    show (if (Num.fr (n : Int) (m : Int)).ok = true then _ else _) = _
    rw [if_pos k]
/-! ### parts -/
theorem wide_ok {w : Num} (h : w.wide = true) : w.ok = true := by unfold Num.wide at h; simp only [Bool.and_eq_true] at h; exact h.1
theorem ok_wide {p : Part} (h : p.ok = true) : p.w.wide = true := by
  cases p with
  | hub es w => simp only [Part.ok, Bool.and_eq_true] at h; exact h.2
  | pl k r w =>
    match r, h with
    | [a, b], h => simp only [Part.ok, okPl, Bool.and_eq_true] at h; exact h.1.2
theorem ok_kind {p : Part} (h : p.ok = true) : p.kind = "pipe" ∨ p.kind = "lead" ∨ p.kind = "hub" := by
  cases p with
  | hub es w => exact .inr (.inr rfl)
  | pl k r w =>
    match r, h with
    | [a, b], h =>
      simp only [Part.ok, okPl, Bool.and_eq_true, Bool.or_eq_true, decide_eq_true_eq] at h
      rcases h.1.1.1.1 with e | e
      · exact .inl e
      · exact .inr (.inl e)
theorem ok_ends {p : Part} (h : p.ok = true) : (∀ x ∈ p.ends, nameS x = true) ∧ 2 ≤ p.ends.length := by
  cases p with
  | hub es w =>
    simp only [Part.ok, namesB, Bool.and_eq_true, decide_eq_true_eq] at h
    exact ⟨fun x hx => List.all_eq_true.mp h.1.1.1 x hx, h.1.2⟩
  | pl k r w =>
    match r, h with
    | [a, b], h =>
      simp only [Part.ok, okPl, Bool.and_eq_true] at h
      refine ⟨fun x hx => ?_, Nat.le_refl _⟩
      rcases List.mem_cons.mp hx with e | hx
      · subst e; exact h.1.1.1.2
      · rw [List.mem_singleton.mp hx]; exact h.1.1.2
theorem kind_free {p : Part} (h : p.ok = true) : Free p.kind := by
  rcases ok_kind h with e | e | e <;> rw [e] <;> exact free_of_all (by decide +kernel)
theorem mk_self {p : Part} (h : p.two) : mkPart p.kind p.ends p.w = p := by
  cases p with
  | hub es w => exact mk_hub es w
  | pl k r w => exact mk_pl h.1 r w
theorem esp : TL.tl (" " : Str) = [32] := by decide
theorem enl : TL.tl ("\n" : Str) = [10] := by decide
theorem part_read {p : Part} (h : p.dr) (k : p.ok = true) : partT (partS p) = some p := by
  have he := ok_ends k
  have hfree : ∀ x ∈ partL p, 32 ∉ TL.tl x := fun x hx => by
    unfold partL at hx
    rcases List.mem_cons.mp hx with e | hx
    · subst e; exact (kind_free k).sp
    · rcases List.mem_append.mp hx with hx | hx
      · exact (name_free (he.1 x hx)).sp
      · rw [List.mem_singleton.mp hx]; exact (free_num h.num).sp
  have e : Txt.split (partS p) " " = partL p := TL.split_join (y := " ") (s := 32) (S := []) esp (by decide +kernel) (by unfold partL; simp) hfree
  unfold partT
  rw [e]
  unfold partW partL
  have hl : ¬ (p.kind :: (p.ends ++ [numS p.w])).length < 4 := by simp only [List.length_cons, List.length_append, List.length_nil]; omega
  rw [if_neg hl]
  have e1 : (p.kind :: (p.ends ++ [numS p.w])).getLast? = some (numS p.w) := by rw [← List.cons_append, List.getLast?_concat]
  rw [e1, Option.bind_some, num_read h.num (wide_ok (ok_wide k))]
  simp only [List.headD_cons, List.drop_succ_cons, List.drop_zero, List.dropLast_concat]
  rw [mk_self h.two, if_pos k]
theorem partS_free {p : Part} (h : p.dr) (k : p.ok = true) : 10 ∉ TL.tl (partS p) := by
  have he := ok_ends k
  have hfree : ∀ x ∈ partL p, 10 ∉ TL.tl x := fun x hx => by
    unfold partL at hx
    rcases List.mem_cons.mp hx with e | hx
    · subst e; exact (kind_free k).nl
    · rcases List.mem_append.mp hx with hx | hx
      · exact (name_free (he.1 x hx)).nl
      · rw [List.mem_singleton.mp hx]; exact (free_num h.num).nl
  unfold partS
  rw [TL.join_eq]
  generalize partL p = l at *
  clear h k he
  rw [TL.tl_join, esp]
  induction l with
  | nil => simp [TL.joinL]
  | cons a r ih =>
    cases r with
    | nil => simpa [TL.joinL] using hfree a List.mem_cons_self
    | cons b r =>
      intro hm
      have hm2 : 10 ∈ TL.tl a ++ ([32] ++ TL.joinL [32] ((b :: r).map TL.tl)) := hm
      rcases List.mem_append.mp hm2 with q | q
      · exact hfree a List.mem_cons_self q
      · rcases List.mem_append.mp q with q | q
        · simp at q
        · exact ih (fun x hx => hfree x (List.mem_cons_of_mem _ hx)) q
end K12
end S_P2
section S_P3
set_option Elab.async false
set_option linter.all false
set_option autoImplicit false
set_option maxRecDepth 100000
set_option maxHeartbeats 4000000
/-! P3: a written net is read back. -/
namespace K12
open PySem PySem.Spec PyProof.Rows L2 DL
theorem adds_mono (xs : List Str) : ∀ l : List Str, l.length ≤ (xs.foldl addS l).length := by
  induction xs with
  | nil => intro l; exact Nat.le_refl _
  | cons x r ih =>
    intro l
    have h : l.length ≤ (addS l x).length := by unfold addS; split <;> simp
    exact Nat.le_trans h (ih _)
theorem places_mono (taps : List Str) (ps qs : List Part) : (places ⟨taps, ps⟩).length ≤ (places ⟨taps, ps ++ qs⟩).length := by
  unfold places
  simp only [List.flatMap_append, List.foldl_append]
  exact adds_mono _ _
theorem ok_pre {taps : List Str} {ps qs : List Part} (h : (Net.mk taps (ps ++ qs)).ok = true) : (Net.mk taps ps).ok = true := by
  have hm := places_mono taps ps qs
  unfold Net.ok at h ⊢
  simp only [Bool.and_eq_true, decide_eq_true_eq, Bool.not_eq_true', List.all_append, List.any_append, List.length_append] at h ⊢
  obtain ⟨⟨⟨⟨h1, h2⟩, h3⟩, h4⟩, h5⟩ := h
  refine ⟨⟨⟨⟨h1, by omega⟩, h3.1⟩, ?_⟩, by omega⟩
  rw [Bool.and_eq_false_iff] at h4 ⊢
  rcases h4 with q | q
  · rw [Bool.or_eq_false_iff] at q; exact .inl q.1
  · rw [Bool.or_eq_false_iff] at q; exact .inr q.1
theorem go_read (taps : List Str) : ∀ (qs ps : List Part) (i : Nat), (∀ p ∈ qs, p.dr) → (∀ p ∈ qs, p.ok = true) → (Net.mk taps (ps ++ qs)).ok = true → goT taps (qs.map partS) i ps = .inr (ps ++ qs)
  | [], ps, i, _, _, _ => by simp [goT]
  | q :: qs, ps, i, hd, hk, ho => by
    have e : ps ++ q :: qs = (ps ++ [q]) ++ qs := by simp
    rw [e] at ho ⊢
    show (match partT (partS q) with
      | none => (Sum.inl i : Nat ⊕ List Part)
      | some p => if (Net.mk taps (ps ++ [p])).ok = true then goT taps (qs.map partS) (i + 1) (ps ++ [p]) else Sum.inl i) = _
    rw [part_read (hd q List.mem_cons_self) (hk q List.mem_cons_self)]
    dsimp only
    rw [if_pos (ok_pre ho)]
    exact go_read taps qs (ps ++ [q]) (i + 1) (fun p hp => hd p (List.mem_cons_of_mem _ hp)) (fun p hp => hk p (List.mem_cons_of_mem _ hp)) ho
theorem ok_parts {n : Net} (h : n.ok = true) : ∀ p ∈ n.parts, p.ok = true := by
  unfold Net.ok at h
  simp only [Bool.and_eq_true] at h
  exact fun p hp => List.all_eq_true.mp h.1.1.2 p hp
theorem ok_taps {n : Net} (h : n.ok = true) : tapsB n.taps = true := by
  unfold Net.ok at h
  simp only [Bool.and_eq_true] at h
  exact h.1.1.1.1
theorem tap_names {l : List Str} (h : tapsB l = true) : ∀ x ∈ l, nameS x = true := by
  have := tapsB_names h
  unfold namesB at this
  simp only [Bool.and_eq_true] at this
  exact fun x hx => List.all_eq_true.mp this.1 x hx
theorem free_join {s : Nat} {y : Str} (hy : s ∉ TL.tl y) : ∀ l : List Str, (∀ x ∈ l, s ∉ TL.tl x) → s ∉ TL.tl (Txt.join y l) := by
  intro l h
  rw [TL.join_eq, TL.tl_join]
  induction l with
  | nil => simp [TL.joinL]
  | cons a r ih =>
    cases r with
    | nil => simpa [TL.joinL] using h a List.mem_cons_self
    | cons b r =>
      intro hm
      have hm2 : s ∈ TL.tl a ++ (TL.tl y ++ TL.joinL (TL.tl y) ((b :: r).map TL.tl)) := hm
      rcases List.mem_append.mp hm2 with q | q
      · exact h a List.mem_cons_self q
      · rcases List.mem_append.mp q with q | q
        · exact hy q
        · exact ih (fun x hx => h x (List.mem_cons_of_mem _ hx)) q
theorem join_end (rows : List Str) (h : rows ≠ []) : Txt.join "\n" rows ++ "\n" = Txt.join "\n" (rows ++ [("" : Str)]) := by
  refine TL.ext_tl ?_
  rw [TL.tl_append, TL.join_eq, TL.join_eq, TL.tl_join, TL.tl_join]
  induction rows with
  | nil => exact absurd rfl h
  | cons a r ih =>
    cases r with
    | nil => rfl
    | cons b r =>
      have := ih (by simp)
      show TL.tl a ++ (TL.tl ("\n" : Str) ++ TL.joinL (TL.tl ("\n" : Str)) ((b :: r).map TL.tl)) ++ TL.tl ("\n" : Str) = TL.tl a ++ (TL.tl ("\n" : Str) ++ TL.joinL (TL.tl ("\n" : Str)) ((b :: r ++ [("" : Str)]).map TL.tl))
      rw [← this]
      simp [List.append_assoc]
theorem read_back {n : Net} (h : n.dr) (k : n.ok = true) : readT (writeT n) = .inr n := by
  have ht := tap_names (ok_taps k)
  have hp := ok_parts k
  have htap : Free ("taps" : Str) := free_of_all (by decide +kernel)
  have f0 : ∀ x ∈ tapL n, Free x := fun x hx => by
    unfold tapL at hx
    rcases List.mem_cons.mp hx with e | hx
    · subst e; exact htap
    · exact name_free (ht x hx)
  have fr : ∀ x ∈ rowsW n ++ [("" : Str)], 10 ∉ TL.tl x := fun x hx => by
    rcases List.mem_append.mp hx with hx | hx
    · unfold rowsW at hx
      rcases List.mem_cons.mp hx with e | hx
      · subst e; exact free_join (by rw [esp]; simp) _ fun z hz => (f0 z hz).nl
      · obtain ⟨p, hpm, rfl⟩ := List.mem_map.mp hx
        exact partS_free (h.parts p hpm) (hp p hpm)
    · rw [List.mem_singleton.mp hx]; decide
  have es : Txt.split (writeT n) "\n" = rowsW n ++ [("" : Str)] := by
    unfold writeT
    rw [join_end _ (by unfold rowsW; simp)]
    exact TL.split_join (y := "\n") (s := 10) (S := []) enl (by decide +kernel) (by simp) fr
  have ew : Txt.split (Txt.join " " (tapL n)) " " = tapL n := TL.split_join (y := " ") (s := 32) (S := []) esp (by decide +kernel) (by unfold tapL; simp) fun x hx => (f0 x hx).sp
  unfold readT
  rw [es]
  unfold readW
  have eh : (rowsW n ++ [("" : Str)]).headD Str.empty = Txt.join " " (tapL n) := rfl
  rw [eh, ew]
  have e1 : (rowsW n ++ [("" : Str)]).length = n.parts.length + 2 := by unfold rowsW; simp
  have e2 : (tapL n).headD Str.empty = "taps" := rfl
  have e3 : (tapL n).drop 1 = n.taps := rfl
  have e4 : ((rowsW n ++ [("" : Str)]).drop 1).dropLast = n.parts.map partS := by
    show ((n.parts.map partS) ++ [("" : Str)]).dropLast = _
    rw [List.dropLast_concat]
  have e5 : (rowsW n ++ [("" : Str)]).getLast? = some "" := List.getLast?_concat
  rw [e1, e2, e3, e4, e5, ok_taps k]
  have c : ¬ (n.parts.length + 2 = 1) := by omega
  rw [decide_eq_false c]
  have hg := go_read n.taps n.parts [] 2 h.parts hp (by simpa using k)
  rw [hg]
  simp
/-- all signs below N -/
def Lo (N : Nat) (x : Str) : Prop := ∀ c ∈ TL.tl x, c < N
theorem lo_app {N : Nat} {x y : Str} (h : Lo N x) (k : Lo N y) : Lo N (x ++ y) := fun c hc => by
  rw [TL.tl_append] at hc
  rcases List.mem_append.mp hc with q | q
  · exact h c q
  · exact k c q
theorem lo_join {N : Nat} {y : Str} (hy : Lo N y) : ∀ l : List Str, (∀ x ∈ l, Lo N x) → Lo N (Txt.join y l) := by
  intro l h
  unfold Lo
  rw [TL.join_eq, TL.tl_join]
  induction l with
  | nil => simp [TL.joinL]
  | cons a r ih =>
    cases r with
    | nil => exact h a List.mem_cons_self
    | cons b r =>
      intro c hm
      have hm2 : c ∈ TL.tl a ++ (TL.tl y ++ TL.joinL (TL.tl y) ((b :: r).map TL.tl)) := hm
      rcases List.mem_append.mp hm2 with q | q
      · exact h a List.mem_cons_self c q
      · rcases List.mem_append.mp q with q | q
        · exact hy c q
        · exact ih (fun x hx => h x (List.mem_cons_of_mem _ hx)) c q
theorem lo_of_all {N : Nat} {x : Str} (h : (TL.tl x).all (fun c => decide (c < N)) = true) : Lo N x := fun c hc => by
  have := List.all_eq_true.mp h c hc
  simpa using this
theorem lo_ok {x : Str} (h : okS x = true) : Lo 0x110000 x := (lay_iff x).mp (okS_lay h)
theorem lo_int {i : Int} (h : drI i) : Lo 0x110000 (intS i) := fun c hc => by
  obtain ⟨n, rfl, hn⟩ := drI_nat h
  rw [tl_intS] at hc
  have := TL.numL_digits n c hc
  omega
theorem lo_num {w : Num} (h : w.dr) : Lo 0x110000 (numS w) := by
  cases w with
  | int i => exact lo_int h
  | fr a b => exact lo_app (lo_app (lo_int h.1) (lo_of_all (by decide +kernel))) (lo_int h.2)
theorem lo_part {p : Part} (h : p.dr) : Lo 0x110000 (partS p) := by
  refine lo_join (lo_of_all (by decide +kernel)) _ fun x hx => ?_
  have hs := h.shape
  unfold partL at hx
  rcases List.mem_cons.mp hx with e | hx
  · subst e
    cases p with
    | pl k r w => exact lo_ok hs.2.1
    | hub es w => exact lo_of_all (x := ("hub" : Str)) (by decide +kernel)
  · rcases List.mem_append.mp hx with hx | hx
    · cases p with
      | pl k r w => exact lo_ok (hs.2.2.1 x hx)
      | hub es w => exact lo_ok (hs.1 x hx)
    · rw [List.mem_singleton.mp hx]; exact lo_num h.num
theorem lo_write {n : Net} (h : n.dr) : Lo 0x110000 (writeT n) := by
  refine lo_app (lo_join (lo_of_all (by decide +kernel)) _ fun x hx => ?_) (lo_of_all (by decide +kernel))
  unfold rowsW at hx
  rcases List.mem_cons.mp hx with e | hx
  · subst e
    refine lo_join (lo_of_all (by decide +kernel)) _ fun z hz => ?_
    unfold tapL at hz
    rcases List.mem_cons.mp hz with e | hz
    · subst e; exact lo_of_all (by decide +kernel)
    · exact lo_ok (h.good.1 z hz)
  · obtain ⟨p, hpm, rfl⟩ := List.mem_map.mp hx
    exact lo_part (h.parts p hpm)
theorem write_len {n : Net} (h : n.dr) : (writeT n).length ≤ 872 := by
  have := join_len "\n" (rowsW n)
  have := rows_sum h
  unfold writeT
  rw [app_len, line_len] at *
  omega
theorem write_ok {n : Net} (h : n.dr) : TxtOk (writeT n) := ⟨by have := write_len h; omega, (lay_iff _).mpr (lo_write h)⟩
end K12
end S_P3
section S_E20
set_option Elab.async false
set_option linter.all false
set_option autoImplicit false
set_option maxRecDepth 100000
set_option maxHeartbeats 4000000
/-! E20: the draws. -/
namespace K12
open PySem PySem.Spec PyProof.Rows L2 DL
/-- n draws may still be made -/
def Gd (n : Nat) (st : DSt) : Prop := 0 ≤ st.turn ∧ st.turn + n ≤ 2 ^ 40
theorem Gd.less {n m : Nat} {st : DSt} (h : Gd n st) (k : m ≤ n) : Gd m st := ⟨h.1, by have := h.2; omega⟩
def blF (turn prime : Int) (c cell : Int) : Int := (c * 69621 + cell + turn) % prime
theorem natAbs_of {i : Int} {n : Nat} (h0 : 0 ≤ i) (h : i < 2 ^ n) : i.natAbs < 2 ^ n := by
  have e : ((2 : Int) ^ n) = ((2 ^ n : Nat) : Int) := by rw [Int.natCast_pow]; rfl
  omega
theorem blend_loop (st : DSt) (turn found prime : Int) (hp : 0 < prime) (hp2 : prime < 2 ^ 31) (c : Int) (hc : 0 ≤ c ∧ c < 2 ^ 60) (x5 : Sl) :
    ∃ c' x5', forD (tgName 5) (fSet 4 (dOp modR (dCall intR (dCons (dOp addR (dOp addR (dOp mulA (dVar 4) (ret (.int 69621))) (dVar 5)) (dVar 1)) (ret []))) (dVar 3))) (st.cells.map D.int) ⟨[.st, .fz (.int turn), .fz (.int found), .fz (.int prime), .fz (.int c), x5], st⟩
      = .ok .nx ⟨[.st, .fz (.int turn), .fz (.int found), .fz (.int prime), .fz (.int c'), x5'], st⟩ ∧ 0 ≤ c' ∧ c' < 2 ^ 60 := by
  obtain ⟨s', hs, ⟨x5', rfl⟩, hI⟩ := forR (g := tgName 5) (b := fSet 4 (dOp modR (dCall intR (dCons (dOp addR (dOp addR (dOp mulA (dVar 4) (ret (.int 69621))) (dVar 5)) (dVar 1)) (ret []))) (dVar 3))) D.int
    (fun (c : Int) s => ∃ x5, s = ⟨[.st, .fz (.int turn), .fz (.int found), .fz (.int prime), .fz (.int c), x5], st⟩) (blF turn prime) (fun _ c => 0 ≤ c ∧ c < 2 ^ 60) st.cells c ⟨[.st, .fz (.int turn), .fz (.int found), .fz (.int prime), .fz (.int c), x5], st⟩ ⟨_, rfl⟩ hc (by
      rintro n c s cell hm ⟨x5, rfl⟩ ⟨h1, h2⟩
      have hmul : mulA (.int c) (.int 69621) = some (.int (c * 69621)) := mulA_bits (natAbs_of h1 h2) (n := 20) (by decide) (by omega)
      refine ⟨⟨⟨[.st, .fz (.int turn), .fz (.int found), .fz (.int prime), .fz (.int c), .fz (.int cell)], st⟩, ⟨[.st, .fz (.int turn), .fz (.int found), .fz (.int prime), .fz (.int (blF turn prime c cell)), .fz (.int cell)], st⟩, rfl, ?_, ⟨_, rfl⟩⟩, ?_⟩
      · simp [hmul, hp, blF]
      · unfold blF
        have q1 := Int.emod_nonneg (c * 69621 + cell + turn) (show prime ≠ 0 by omega)
        have q2 := Int.emod_lt_of_pos (c * 69621 + cell + turn) hp
        exact ⟨q1, by omega⟩)
  exact ⟨_, x5', hs, hI⟩
abbrev blBody : M Fl := fSeq (fSet 4 (dOp addR (dOp mulA (ret (.int 48271)) (dVar 1)) (dOp fdivR (dVar 3) (ret (.int 53))))) (fSeq (fFor (dItL (dCells 0)) (tgName 5) (fSet 4 (dOp modR (dCall intR (dCons (dOp addR (dOp addR (dOp mulA (dVar 4) (ret (.int 69621))) (dVar 5)) (dVar 1)) (ret []))) (dVar 3)))) (fSet 2 (dOp addR (dOp mulA (dVar 2) (ret (.int 2147483647))) (dOp modR (dCall intR (dCons (dOp powR (dVar 4) (ret (.int 5))) (ret []))) (dVar 3)))))
theorem blend_body (st : DSt) (turn found prime : Int) (h0 : 0 ≤ turn) (h1 : turn ≤ 2 ^ 40) (hp : 0 < prime) (hp2 : prime < 2 ^ 31) (k : Nat) (hk : k ≤ 100) (hf : 0 ≤ found ∧ found < 2 ^ k) (x4 x5 : Sl) :
    ∃ f' x4' x5', blBody ⟨[.st, .fz (.int turn), .fz (.int found), .fz (.int prime), x4, x5], st⟩ = .ok .nx ⟨[.st, .fz (.int turn), .fz (.int f'), .fz (.int prime), x4', x5'], st⟩ ∧ 0 ≤ f' ∧ f' < 2 ^ (k + 32) := by
  have m1 : mulA (.int 48271) (.int turn) = some (.int (48271 * turn)) := mulA_bits (m := 20) (by decide) (natAbs_of (n := 41) h0 (by omega)) (by omega)
  have hb : 0 ≤ 48271 * turn + prime / 53 ∧ 48271 * turn + prime / 53 < 2 ^ 60 := by
    have q1 : 0 ≤ prime / 53 := Int.ediv_nonneg (by omega) (by omega)
    have q2 : prime / 53 ≤ prime := Int.ediv_le_self _ (by omega)
    omega
  obtain ⟨c', x5', hl, hc1, hc2⟩ := blend_loop st turn found prime hp hp2 _ hb x5
  have m2 : mulA (.int found) (.int 2147483647) = some (.int (found * 2147483647)) := mulA_bits (natAbs_of hf.1 hf.2) (n := 31) (by decide) (by omega)
  have hpw : c'.natAbs < 2 ^ 64 := Nat.lt_of_lt_of_le (natAbs_of hc1 hc2) (Nat.pow_le_pow_right (by decide) (by decide))
  have hpow : powR (.int c') (.int 5) = some (.int (c' ^ 5)) := by
    rw [powR_int, if_pos ⟨by omega, by omega, hpw⟩]; rfl
  have hdiv : fdivR (.int prime) (.int 53) = some (.int (prime / 53)) := by rw [fdivR_int, if_pos ⟨by omega, by decide⟩]
  refine ⟨found * 2147483647 + c' ^ 5 % prime, .fz (.int c'), x5', ?_, ?_, ?_⟩
  · simp only [blBody, x_seq, x_set, x_op, x_ret, bd_ok, x_var_0]
    simp [m1, hdiv, x_for, hl, m2, hpow, hp]
  · have q1 := Int.emod_nonneg (c' ^ 5) (show prime ≠ 0 by omega)
    have := Int.mul_nonneg hf.1 (show (0 : Int) ≤ 2147483647 by omega)
    omega
  · have q2 := Int.emod_lt_of_pos (c' ^ 5) hp
    have e : (2 : Int) ^ (k + 32) = 2 ^ k * 4294967296 := by rw [Int.pow_add]; rfl
    rw [e]
    generalize (2 : Int) ^ k = P at *
    omega
theorem g_blended {n : Nat} {st : DSt} (h : Gd (n + 1) st) : ∃ v st', G__law_blended [] st = some (.int v, st') ∧ Gd n st' := by
  obtain ⟨h1, h2⟩ := h
  have b0 : 0 ≤ st.turn + 1 := by omega
  have b1 : st.turn + 1 ≤ 2 ^ 40 := by omega
  obtain ⟨f1, y1, z1, e1, p1, q1⟩ := blend_body { st with turn := st.turn + 1 } (st.turn + 1) 0 2147483579 b0 b1 (by decide) (by decide) 1 (by decide) ⟨by decide, by decide⟩ .un .un
  obtain ⟨f2, y2, z2, e2, p2, q2⟩ := blend_body { st with turn := st.turn + 1 } (st.turn + 1) f1 2147483629 b0 b1 (by decide) (by decide) 33 (by decide) ⟨p1, q1⟩ y1 z1
  obtain ⟨f3, y3, z3, e3, p3, q3⟩ := blend_body { st with turn := st.turn + 1 } (st.turn + 1) f2 2147483563 b0 b1 (by decide) (by decide) 65 (by decide) ⟨p2, q2⟩ y2 z2
  have hl : forD (tgName 3) blBody [.int 2147483579, .int 2147483629, .int 2147483563] ⟨[.st, .fz (.int (st.turn + 1)), .fz (.int 0), .un, .un, .un], { st with turn := st.turn + 1 }⟩ = .ok .nx ⟨[.st, .fz (.int (st.turn + 1)), .fz (.int f3), .fz (.int 2147483563), y3, z3], { st with turn := st.turn + 1 }⟩ := by
    rw [for_nx (s1 := ⟨[.st, .fz (.int (st.turn + 1)), .fz (.int 0), .fz (.int 2147483579), .un, .un], { st with turn := st.turn + 1 }⟩) rfl e1]
    rw [for_nx (s1 := ⟨[.st, .fz (.int (st.turn + 1)), .fz (.int f1), .fz (.int 2147483629), y1, z1], { st with turn := st.turn + 1 }⟩) rfl e2]
    rw [for_nx (s1 := ⟨[.st, .fz (.int (st.turn + 1)), .fz (.int f2), .fz (.int 2147483563), y2, z2], { st with turn := st.turn + 1 }⟩) rfl e3]
    rfl
  refine ⟨f3, { st with turn := st.turn + 1 }, ?_, ⟨b0, by simp only; omega⟩⟩
  simp only [blBody] at hl
  simp [G__law_blended, wrapS, runS, entry, den__law_blended, x_for, size3, hl]
end K12
end S_E20
section S_E21
set_option Elab.async false
set_option linter.all false
set_option autoImplicit false
set_option maxRecDepth 100000
set_option maxHeartbeats 4000000
/-! E21: draw, pick, shuffled. -/
namespace K12
open PySem PySem.Spec PyProof.Rows L2 DL
theorem ok_ints (l : List Int) : (D.lst (l.map D.int)).ok = true := by
  rw [ok_iff, lay_lst, Bool.and_eq_true]
  refine ⟨List.all_eq_true.mpr fun d hd => ?_, decide_eq_true ?_⟩
  · obtain ⟨i, _, rfl⟩ := List.mem_map.mp hd; rfl
  · have := dep_lst_le (l := l.map D.int) (n := 0) fun d hd => by obtain ⟨i, _, rfl⟩ := List.mem_map.mp hd; exact Nat.le_refl _
    omega
theorem draw_mid (room rest : Int) (st : DSt) (h1 : 0 < room) (hl : room.natAbs.log2 < 9000) :
    ((fSeq (fSet 2 (dOp modR (dCall intR (dCons (dRest 0) (ret []))) (dVar 1))) (fSeq (fRest 0 (dOp fdivR (dRest 0) (dVar 1))) (fRet (dVar 2)))) ⟨[.st, .fz (.int room), .un], { st with rest := rest }⟩) = .ok (.rt (.int (rest % room))) ⟨[.st, .fz (.int room), .fz (.int (rest % room))], { st with rest := rest / room }⟩ := by
  have hd : fdivR (.int rest) (.int room) = some (.int (rest / room)) := by rw [fdivR_int, if_pos ⟨h1, hl⟩]
  simp [h1, hd]
abbrev drHead : M Fl := fIf (dTest (dOp eqR (dRest 0) (ret (.int 0)))) (fRest 0 (dIf (dTest (dGreatNe 0 (dFrz (dLst (ret []))))) (dGreatPop 0) (dSCall G__law_blended (dStArg 0 (ret []))))) (ret .nx)
theorem draw_eval {room : Int} {st st1 : DSt} (h1 : 0 < room) (hl : room.natAbs.log2 < 9000) (h3 : drHead ⟨[.st, .fz (.int room), .un], st⟩ = .ok .nx ⟨[.st, .fz (.int room), .un], st1⟩) :
    G__law_draw [.int room] st = some (.int (st1.rest % room), { st1 with rest := st1.rest / room }) := by
  have hm := draw_mid room st1.rest st1 h1 hl
  have e : den__law_draw G__law_blended ⟨[.st, .fz (.int room), .un], st⟩ = .ok (.rt (.int (st1.rest % room))) ⟨[.st, .fz (.int room), .fz (.int (st1.rest % room))], { st1 with rest := st1.rest / room }⟩ := by
    unfold den__law_draw
    rw [x_seq]
    have h4 := h3
    unfold drHead at h4
    rw [h4, bd_ok]
    exact hm
  show (match den__law_draw G__law_blended ⟨[.st, .fz (.int room), .un], st⟩ with
    | .ok (.rt d) s => some (d, s.ds)
    | .ok .nx s => some (.non, s.ds)
    | _ => none) = _
  rw [e]
theorem g_draw {n : Nat} {st : DSt} (h : Gd (n + 1) st) {room : Int} (h1 : 0 < room) (hl : room.natAbs.log2 < 9000) : ∃ v st', G__law_draw [.int room] st = some (.int v, st') ∧ Gd n st' ∧ 0 ≤ v ∧ v < room := by
  by_cases hr : st.rest = 0
  · have hn := neR_nil (ok_ints st.great)
    cases hg : st.great with
    | nil =>
      rw [hg] at hn
      obtain ⟨v, st', e1, e2⟩ := g_blended (n := n) h
      refine ⟨v % room, { st' with rest := v / room }, ?_, e2, Int.emod_nonneg _ (by omega), Int.emod_lt_of_pos _ h1⟩
      exact draw_eval (st1 := { st' with rest := v }) h1 hl (by
        simp at hn
        simp [drHead, hr, hg, hn, flatD, e1])
    | cons g gs =>
      rw [hg] at hn
      refine ⟨g % room, { st with great := gs, rest := g / room }, ?_, ⟨h.1, by have := h.2; simp only; omega⟩, Int.emod_nonneg _ (by omega), Int.emod_lt_of_pos _ h1⟩
      have hpop : dGreatPop 0 ⟨[.st, .fz (.int room), .un], st⟩ = .ok (.int g) ⟨[.st, .fz (.int room), .un], { st with great := gs }⟩ := by
        unfold dGreatPop
        simp [hg]
      exact draw_eval (st1 := { st with great := gs, rest := g }) h1 hl (by
        simp at hn
        simp [drHead, hr, hg, hn, flatD, hpop])
  · refine ⟨st.rest % room, { st with rest := st.rest / room }, ?_, ⟨h.1, by have := h.2; simp only; omega⟩, Int.emod_nonneg _ (by omega), Int.emod_lt_of_pos _ h1⟩
    exact draw_eval (st1 := st) h1 hl (by simp [drHead, hr])
theorem log_len {l : Nat} (h : l ≤ sizeLine) (h0 : 0 < l) : ((l : Nat) : Int).natAbs.log2 < 9000 := by
  have e : ((l : Nat) : Int).natAbs = l := by omega
  rw [e, Nat.log2_lt (by omega)]
  exact Nat.lt_of_le_of_lt h (Nat.lt_of_lt_of_le (by decide : sizeLine < 2 ^ 30) (Nat.pow_le_pow_right (by decide) (by decide)))
theorem g_pick {n : Nat} {st : DSt} (h : Gd (n + 1) st) {l : List D} (h0 : l ≠ []) (hl : l.length ≤ sizeLine) : ∃ d st', G__law_pick [.lst l] st = some (d, st') ∧ Gd n st' ∧ d ∈ l := by
  have hpos : 0 < l.length := List.length_pos_iff.mpr h0
  obtain ⟨v, st', e1, e2, e3, e4⟩ := g_draw h (room := (l.length : Nat)) (by omega) (log_len hl hpos)
  obtain ⟨k, rfl⟩ : ∃ k : Nat, v = (k : Int) := ⟨v.toNat, by omega⟩
  have hk : k < l.length := by omega
  refine ⟨l[k], st', ?_, e2, List.getElem_mem hk⟩
  simp [G__law_pick, wrapS, runS, entry, den__law_pick, e1, hk]
theorem erase_map {γ δ : Type} (f : γ → δ) : ∀ (l : List γ) (k : Nat), (l.eraseIdx k).map f = (l.map f).eraseIdx k
  | [], k => by simp
  | a :: r, 0 => rfl
  | a :: r, k + 1 => by simp [erase_map f r k]
theorem erase_perm {γ : Type} : ∀ (l : List γ) (k : Nat) (h : k < l.length), (l[k] :: l.eraseIdx k).Perm l
  | a :: r, 0, h => .refl _
  | a :: r, k + 1, h => by
    have ih := erase_perm r k (by simpa using h)
    exact (List.Perm.swap _ _ _).trans (ih.cons a)
abbrev shBody : M Fl := fDrop (dAppend 3 (dPop 2 (dSCall G__law_draw (dStArg 0 (dCons (dOwnC 2 lenR) (ret []))))))
theorem x_pop (i : Nat) (fe : M D) (s : FS) : dPop i fe s = (peek i s).bd fun _ s1 => (fe s1).bd fun d s2 => (peek i s2).bd fun l s3 => (lift (isI d) s3).bd fun n s4 =>
    if 0 ≤ n ∧ n < l.length ∧ n < 2 ^ 63 then (lift (l[n.toNat]?) s4).bd fun z s5 => .ok z { s5 with ρ := s5.ρ.set i (.ow (l.eraseIdx n.toNat)) } else .stuck := by
  unfold dPop; rw [x_bind]; congr; funext _ s1; rw [x_bind]; congr; funext d s2; rw [x_bind]; congr; funext l s3; rw [x_bind]; congr; funext n s4
  split
  · rw [x_bind]; rfl
  · rfl
theorem neR_d0 {γ : Type} {f : γ → D} (hf : ∀ x, ∃ y, f x = .str y ∧ (D.str y).lay = true) (l : List γ) : neR (.lst (l.map f)) (.lst []) = some (.bl (!l.isEmpty)) := by
  have := neR_nil (l := l.map f) (ok_strs fun d hd => by
    obtain ⟨x, _, rfl⟩ := List.mem_map.mp hd
    exact hf x)
  rw [this]
  cases l <;> rfl
theorem sh_loop (x1 : Sl) : ∀ (m : Nat) (left found : List Str) (st : DSt) (n : Nat), left.length = m → (∀ x ∈ left, okS x = true) → Gd (n + m) st → found.length + m ≤ 1000 →
    ∃ (res : List Str) (st' : DSt), whileD (dTest (dOwnL 2 neR (dFrz (dLst (ret []))))) shBody (m + 1) ⟨[.st, x1, .ow (left.map D.str), .ow (found.map D.str)], st⟩ = .ok .nx ⟨[.st, x1, .ow [], .ow (res.map D.str)], st'⟩ ∧ Gd n st' ∧ res.Perm (found ++ left)
  | 0, left, found, st, n, hm, hok, hg, hs => by
    have : left = [] := List.length_eq_zero_iff.mp hm
    subst this
    refine ⟨found, st, ?_, hg, by simp⟩
    have h0 : neR (.lst []) (.lst []) = some (.bl false) := neR_nil rfl
    rw [while_f (s1 := ⟨[.st, x1, .ow [], .ow (found.map D.str)], st⟩) (by simp [h0, flatD])]
  | m + 1, left, found, st, n, hm, hok, hg, hs => by
    have hne : left ≠ [] := fun e => by subst e; simp at hm
    have hnr : neR (.lst (left.map D.str)) (.lst []) = some (.bl true) := by
      rw [neR_nil (ok_of_lay fun x hx => okS_lay (hok x hx))]
      cases left with
      | nil => exact absurd rfl hne
      | cons a r => rfl
    obtain ⟨v, st', e1, e2, e3, e4⟩ := g_draw (n := n + m) (by exact hg) (room := (left.length : Nat)) (by omega) (log_len (by have := sizeLine_big; omega) (by omega))
    obtain ⟨k, rfl⟩ : ∃ k : Nat, v = (k : Int) := ⟨v.toNat, by omega⟩
    have hk : k < left.length := by omega
    have hk63 : (k : Int) < 9223372036854775808 := by have := sizeLine_big; omega
    have hsz : found.length < sizeLine := by have := sizeLine_big; omega
    have hb : shBody ⟨[.st, x1, .ow (left.map D.str), .ow (found.map D.str)], st⟩ = .ok .nx ⟨[.st, x1, .ow ((left.eraseIdx k).map D.str), .ow ((found ++ [left[k]]).map D.str)], st'⟩ := by
      have e5 : (left.eraseIdx k).map D.str = (left.map D.str).eraseIdx k := by rw [erase_map]
      rw [e5]
      simp only [shBody, x_drop, x_append, x_pop]
      simp [flatD, e1, hk, hsz, hk63]
    have hc : dTest (dOwnL 2 neR (dFrz (dLst (ret [])))) ⟨[.st, x1, .ow (left.map D.str), .ow (found.map D.str)], st⟩ = .ok true ⟨[.st, x1, .ow (left.map D.str), .ow (found.map D.str)], st⟩ := by simp [hnr, flatD]
    rw [while_t hc hb]
    have hmem : ∀ x ∈ left.eraseIdx k, okS x = true := fun x hx => hok x (List.mem_of_mem_eraseIdx hx)
    obtain ⟨res, st2, q1, q2, q3⟩ := sh_loop x1 m (left.eraseIdx k) (found ++ [left[k]]) st' n (by rw [List.length_eraseIdx_of_lt hk]; omega) hmem e2 (by simp only [List.length_append, List.length_cons, List.length_nil]; omega)
    refine ⟨res, st2, q1, q2, q3.trans ?_⟩
    have hp : (left[k] :: left.eraseIdx k).Perm left := erase_perm left k hk
    have : (found ++ [left[k]] ++ left.eraseIdx k) = found ++ (left[k] :: left.eraseIdx k) := by simp
    rw [this]
    exact List.Perm.append_left _ hp
theorem g_shuffled {n m : Nat} {st : DSt} {l : List Str} (hm : l.length = m) (h : Gd (n + m) st) (hok : ∀ x ∈ l, okS x = true) (hs : m ≤ 1000) {d : D} (hd : d = .lst (l.map D.str) ∨ d = .tup (l.map D.str)) :
    ∃ (res : List Str) (st' : DSt), G__law_shuffled [d] st = some (.lst (res.map D.str), st') ∧ Gd n st' ∧ res.Perm l := by
  obtain ⟨res, st', q1, q2, q3⟩ := sh_loop (.fz d) m l [] st n hm hok h (by simpa using hs)
  refine ⟨res, st', ?_, q2, by simpa using q3⟩
  have hl : lstR [d] = some (l.map D.str) := by rcases hd with rfl | rfl <;> rfl
  simp only [shBody, List.map_nil] at q1
  rw [← hm] at q1
  simp [G__law_shuffled, wrapS, runS, entry, den__law_shuffled, hl, x_while, fuelL, q1]
end K12
end S_E21
section S_E22
set_option Elab.async false
set_option linter.all false
set_option autoImplicit false
set_option maxRecDepth 100000
set_option maxHeartbeats 4000000
/-! E22: drawn numbers, taps, widths. -/
namespace K12
open PySem PySem.Spec PyProof.Rows L2 DL
def numsL : List Num := [.int 1, .int 2, .int 1, .int 3, .int 1, .fr 1 2, .int 0, .int 5, .fr 3 2, .int 4, .fr 2 3, .int 10]
instance (i : Int) : Decidable (drI i) := by unfold drI; infer_instance
instance (w : Num) : Decidable w.dr := by cases w <;> (unfold Num.dr; infer_instance)
theorem nums_ok : ∀ w ∈ numsL, w.wide = true ∧ w.dr := by
  intro w hw
  simp only [numsL, List.mem_cons, List.not_mem_nil, or_false] at hw
  rcases hw with rfl | rfl | rfl | rfl | rfl | rfl | rfl | rfl | rfl | rfl | rfl | rfl <;> exact ⟨by decide +kernel, by decide +kernel⟩
theorem size12 : (12 : Nat) ≤ sizeLine := by decide
theorem size6 : (6 : Nat) ≤ sizeLine := by decide
theorem g_ct_number {n : Nat} {st : DSt} (h : Gd (n + 1) st) : ∃ (w : Num) (st' : DSt), G__law_ct_number [] st = some (w.d, st') ∧ Gd n st' ∧ w.wide = true ∧ w.dr := by
  obtain ⟨d, st', e1, e2, e3⟩ := g_pick h (l := numsL.map Num.d) (by simp [numsL]) (by simp [numsL]; decide)
  obtain ⟨w, hw, rfl⟩ := List.mem_map.mp e3
  refine ⟨w, st', ?_, e2, nums_ok w hw⟩
  have el : numsL.map Num.d = [.int 1, .int 2, .int 1, .int 3, .int 1, .tup [.int 1, .int 2], .int 0, .int 5, .tup [.int 3, .int 2], .int 4, .tup [.int 2, .int 3], .int 10] := rfl
  rw [el] at e1
  simp [G__law_ct_number, wrapS, runS, entry, den__law_ct_number, size12, size2, e1]
def tapsX : List Str := ["a", "b", "c", "d", "e", "f"]
def tapsY : List Str := ["north", "south", "t1", "t2", "u", "west"]
/-- short names, each once -/
structure Pool (l : List Str) : Prop where
  nd : l.Nodup
  name : ∀ x ∈ l, nameS x = true
  ok : ∀ x ∈ l, okS x = true
  len : ∀ x ∈ l, x.length ≤ 5
theorem Pool.sub {l m : List Str} (h : Pool l) (hm : m.Nodup) (hs : ∀ x ∈ m, x ∈ l) : Pool m := ⟨hm, fun x hx => h.name x (hs x hx), fun x hx => h.ok x (hs x hx), fun x hx => h.len x (hs x hx)⟩
theorem pool_of {l : List Str} (h1 : decide l.Nodup = true) (h2 : (l.all nameS && l.all okS && l.all fun x => decide (x.length ≤ 5)) = true) : Pool l := by
  simp only [Bool.and_eq_true] at h2
  exact ⟨of_decide_eq_true h1, fun x hx => List.all_eq_true.mp h2.1.1 x hx, fun x hx => List.all_eq_true.mp h2.1.2 x hx, fun x hx => of_decide_eq_true (List.all_eq_true.mp h2.2 x hx)⟩
def inX : List Str := ["k", "p", "q"]
def inY : List Str := ["in1", "in2", "z"]
theorem pool_all : Pool (tapsX ++ tapsY ++ inX ++ inY) := pool_of (by decide +kernel) (by decide +kernel)
theorem take_sub {l : List Str} {n : Nat} {x : Str} (h : x ∈ l.take n) : x ∈ l := List.mem_of_mem_take h
theorem pool_take {l : List Str} (h : Pool l) (n : Nat) : Pool (l.take n) := h.sub (h.nd.sublist (List.take_sublist n l)) fun x hx => take_sub hx
theorem pool_perm {l m : List Str} (h : Pool l) (p : m.Perm l) : Pool m := h.sub (p.nodup_iff.mpr h.nd) fun x hx => p.mem_iff.mp hx
theorem g_ct_taps {n : Nat} {st : DSt} (h : Gd (n + 8) st) : ∃ (taps : List Str) (st' : DSt), G__law_ct_taps [.int 2, .int 6] st = some (.tup (taps.map D.str), st') ∧ Gd n st' ∧ Pool taps ∧ (∀ x ∈ taps, x ∈ tapsX ++ tapsY) ∧ tapsB taps = true := by
  obtain ⟨d, st1, e1, h1, e3⟩ := g_pick (n := n + 7) h (l := [.lst (tapsX.map D.str), .lst (tapsY.map D.str)]) (by simp) (by simp; decide)
  obtain ⟨some', hd, hsome⟩ : ∃ l, d = .lst (l.map D.str) ∧ (l = tapsX ∨ l = tapsY) := by
    rcases List.mem_cons.mp e3 with e | e
    · exact ⟨_, e, .inl rfl⟩
    · exact ⟨_, List.mem_singleton.mp e, .inr rfl⟩
  subst hd
  have hp : Pool some' := by
    rcases hsome with rfl | rfl
    · exact pool_all.sub (by decide +kernel) fun x hx => by simp [hx]
    · exact pool_all.sub (by decide +kernel) fun x hx => by simp [hx]
  have hl : some'.length = 6 := by rcases hsome with rfl | rfl <;> rfl
  have hin : ∀ x ∈ some', x ∈ tapsX ++ tapsY := fun x hx => by rcases hsome with rfl | rfl <;> simp [hx]
  obtain ⟨v, st2, e4, h2, e5, e6⟩ := g_draw (n := n + 6) h1 (room := 5) (by decide) (by decide)
  obtain ⟨k, rfl⟩ : ∃ k : Nat, v = (k : Int) := ⟨v.toNat, by omega⟩
  obtain ⟨res, st3, e7, h3, e8⟩ := g_shuffled (n := n) hl h2 hp.ok (by decide) (.inl rfl)
  have hpr := pool_perm hp e8
  have hpt := pool_take hpr (2 + k)
  have e9 : srtR [.lst ((res.take (2 + k)).map D.str)] = some ((sortS (res.take (2 + k))).map D.str) := srtR_strs _
  have hps := pool_perm hpt (sortS_perm _)
  have hlen : (sortS (res.take (2 + k))).length = 2 + k := by
    rw [sortS_len, List.length_take, e8.length_eq, hl]; omega
  refine ⟨sortS (res.take (2 + k)), st3, ?_, h3, hps, fun x hx => hin x (e8.mem_iff.mp (take_sub ((sortS_perm _).mem_iff.mp hx))), ?_⟩
  · have e10 : cutD (res.map D.str) none (some (2 + (k : Int))) = (res.map D.str).take (2 + k) := by
      rw [show (2 : Int) + (k : Int) = ((2 + k : Nat) : Int) by omega]
      exact cut_to _ _
    simp only [tapsX, tapsY, List.map_cons, List.map_nil] at e1
    rw [List.map_take] at e9
    simp [G__law_ct_taps, wrapS, runS, entry, den__law_ct_taps, size6, size2, e1, e4, e7, e10, e9]
  · unfold tapsB namesB
    rw [hlen, sortS_rises hpt.nd]
    have : (sortS (res.take (2 + k))).all nameS = true := List.all_eq_true.mpr hps.name
    rw [this]
    simp; omega
end K12
end S_E22
section S_E23
set_option Elab.async false
set_option linter.all false
set_option autoImplicit false
set_option maxRecDepth 100000
set_option maxHeartbeats 4000000
/-! E23: drawn widths, drawn parts. -/
namespace K12
open PySem PySem.Spec PyProof.Rows L2 DL
theorem log_dr {m : Nat} (h : m < 10 ^ 30) : m.log2 < 9000 := by
  by_cases h0 : m = 0
  · subst h0; decide
  · rw [Nat.log2_lt h0]
    exact Nat.lt_of_lt_of_le h (Nat.le_trans (by decide : 10 ^ 30 ≤ 2 ^ 100) (Nat.pow_le_pow_right (by decide) (by decide)))
def madeN (m n : Nat) : Num := if n / Nat.gcd m n = 1 then .int ((m / Nat.gcd m n : Nat) : Int) else .fr ((m / Nat.gcd m n : Nat) : Int) ((n / Nat.gcd m n : Nat) : Int)
theorem nat_dr {m : Nat} (h : m < 10 ^ 30) : drI (m : Int) := by
  have e : ((10 : Int) ^ 30) = ((10 ^ 30 : Nat) : Int) := by rw [Int.natCast_pow]; rfl
  unfold drI
  omega
theorem made_ok {m n : Nat} (hm : m < 10 ^ 30) (h0 : 0 < n) (hn : n < 10 ^ 30) : (madeN m n).wide = true ∧ (madeN m n).dr := by
  have hg : 0 < Nat.gcd m n := Nat.gcd_pos_of_pos_right m h0
  have h1 : m / Nat.gcd m n < 10 ^ 30 := Nat.lt_of_le_of_lt (Nat.div_le_self _ _) hm
  have h2 : n / Nat.gcd m n < 10 ^ 30 := Nat.lt_of_le_of_lt (Nat.div_le_self _ _) hn
  have h3 : 0 < n / Nat.gcd m n := Nat.div_pos (Nat.le_of_dvd h0 (Nat.gcd_dvd_right m n)) hg
  have h4 : Nat.gcd (m / Nat.gcd m n) (n / Nat.gcd m n) = 1 := by
    first
      | exact Nat.gcd_div_gcd_div_gcd hg
      | exact Nat.gcd_div_gcd_div_gcd_of_pos_right h0
      | (rw [Nat.gcd_div (Nat.gcd_dvd_left m n) (Nat.gcd_dvd_right m n)]; exact Nat.div_self hg)
  unfold madeN
  generalize m / Nat.gcd m n = x at *
  generalize n / Nat.gcd m n = y at *
  split
  · refine ⟨?_, nat_dr h1⟩
    show (true && decide (0 ≤ (x : Int))) = true
    rw [Bool.true_and, decide_eq_true (by omega)]
  · rename_i hne
    refine ⟨?_, nat_dr h1, nat_dr h2⟩
    have e1 : ((x : Int)).natAbs = x := by omega
    have e2 : ((y : Int)).natAbs = y := by omega
    show ((decide (2 ≤ (y : Int)) && decide (Nat.gcd ((x : Int)).natAbs ((y : Int)).natAbs = 1)) && decide (0 ≤ (x : Int))) = true
    rw [e1, e2, decide_eq_true h4, decide_eq_true (by omega), decide_eq_true (by omega)]; rfl
theorem g_made {m n : Nat} (hm : m < 10 ^ 30) (h0 : 0 < n) (hn : n < 10 ^ 30) : G__law_ct_made [.int (m : Nat), .int (n : Nat)] = some (madeN m n).d := by
  have hg : 0 < Nat.gcd m n := Nat.gcd_pos_of_pos_right m h0
  have hgl : Nat.gcd m n < 10 ^ 30 := Nat.lt_of_le_of_lt (Nat.le_of_dvd h0 (Nat.gcd_dvd_right m n)) hn
  have e := g_ct_gcd (m : Int) (n : Int)
  have e1 : ((m : Int)).natAbs = m := by omega
  have e2 : ((n : Int)).natAbs = n := by omega
  rw [e1, e2] at e
  have hl : (((Nat.gcd m n : Nat) : Int)).natAbs.log2 < 9000 := by
    have : (((Nat.gcd m n : Nat) : Int)).natAbs = Nat.gcd m n := by omega
    rw [this]; exact log_dr hgl
  have d1 : fdivR (.int (m : Nat)) (.int (Nat.gcd m n : Nat)) = some (.int ((m / Nat.gcd m n : Nat) : Int)) := by
    rw [fdivR_int, if_pos ⟨by omega, hl⟩, Int.natCast_ediv]
  have d2 : fdivR (.int (n : Nat)) (.int (Nat.gcd m n : Nat)) = some (.int ((n / Nat.gcd m n : Nat) : Int)) := by
    rw [fdivR_int, if_pos ⟨by omega, hl⟩, Int.natCast_ediv]
  have hp : (0 : Int) < (n : Int) := by omega
  unfold madeN
  generalize Nat.gcd m n = g at *
  generalize m / g = x at *
  generalize n / g = y at *
  by_cases hy : y = 1
  · subst hy
    simp [G__law_ct_made, wrapP, runP, entry, den__law_ct_made, e, hp, h0, d1, d2, Num.d]
  · have hy' : ¬ ((y : Int) = 1) := by omega
    simp [G__law_ct_made, wrapP, runP, entry, den__law_ct_made, e, hp, h0, d1, d2, Num.d, hy, hy', size2]
theorem pow30 : powR (.int 10) (.int 30) = some (.int 1000000000000000000000000000000) := by
  rw [powR_int, if_pos ⟨by decide, by decide, by decide⟩]; rfl
theorem g_an_width {n : Nat} {st : DSt} (h : Gd (n + 3) st) : ∃ (w : Num) (st' : DSt), G__law_an_width [.bl true] st = some (w.d, st') ∧ Gd n st' ∧ w.wide = true ∧ w.dr := by
  obtain ⟨v, st1, e1, h1, p1, q1⟩ := g_draw (n := n + 2) h (room := 2) (by decide) (by decide)
  by_cases hv : v = 0
  · obtain ⟨u, st2, e2, h2, p2, q2⟩ := g_draw (n := n + 1) h1 (room := 1000000000000000000000000000000) (by decide) (by decide +kernel)
    refine ⟨.int u, st2, ?_, h2.less (by omega), ?_, ⟨p2, q2⟩⟩
    · simp [G__law_an_width, wrapS, runS, entry, den__law_an_width, e1, hv, pow30, e2, Num.d]
    · unfold Num.wide; simp [Num.ok, Num.top, p2]
  · obtain ⟨u, st2, e2, h2, p2, q2⟩ := g_draw (n := n + 1) h1 (room := 1000000000000000000000000000000) (by decide) (by decide +kernel)
    obtain ⟨t, st3, e3, h3, p3, q3⟩ := g_draw (n := n) h2 (room := 999999999999999999999999999999) (by decide) (by decide +kernel)
    obtain ⟨m, rfl⟩ : ∃ k : Nat, u = (k : Int) := ⟨u.toNat, by omega⟩
    obtain ⟨k, rfl⟩ : ∃ k : Nat, t = (k : Int) := ⟨t.toNat, by omega⟩
    have hm : m < 10 ^ 30 := by omega
    have hk : k + 1 < 10 ^ 30 := by omega
    have hmade := g_made hm (Nat.succ_pos k) hk
    have hok := made_ok hm (Nat.succ_pos k) hk
    refine ⟨madeN m (k + 1), st3, ?_, h3, hok⟩
    have ek : (1 : Int) + (k : Int) = ((k + 1 : Nat) : Int) := by omega
    have hmade2 : G__law_ct_made [.int (m : Nat), .int (1 + (k : Int))] = some (madeN m (k + 1)).d := by rw [ek]; exact hmade
    simp [G__law_an_width, wrapS, runS, entry, den__law_an_width, e1, hv, pow30, e2, e3, hmade2]
end K12
end S_E23
section S_E24
set_option Elab.async false
set_option linter.all false
set_option autoImplicit false
set_option maxRecDepth 100000
set_option maxHeartbeats 4000000
/-! E24: drawn parts. -/
namespace K12
open PySem PySem.Spec PyProof.Rows L2 DL
theorem cut_to2 (l : List D) : cutD l none (some 2) = l.take 2 := cut_to l 2
theorem dr_small {w : Num} (h : w.dr) : w.small := by
  have e : ∀ i : Int, drI i → i.natAbs < 2 ^ 200 := fun i hi => by
    obtain ⟨n, rfl, hn⟩ := drI_nat hi
    have : ((n : Int)).natAbs = n := by omega
    rw [this]
    exact Nat.lt_of_lt_of_le hn (by decide)
  cases w with
  | int i => exact ⟨e i h, by show (1 : Int).natAbs < 2 ^ 200; decide⟩
  | fr a b => exact ⟨e a h.1, e b h.2⟩
theorem pl_good {k a b : Str} {w : Num} {pool : List Str} (hp : Pool pool) (ha : a ∈ pool) (hb : b ∈ pool) (hw : w.wide = true) (hd : w.dr) (hk : (k = "pipe" ∧ ltS a b = true) ∨ (k = "lead" ∧ a ≠ b)) :
    (Part.pl k [a, b] w).ok = true ∧ (Part.pl k [a, b] w).dr ∧ ∀ x ∈ (Part.pl k [a, b] w).ends, x ∈ pool := by
  have hne : k ≠ "hub" := by rcases hk with ⟨rfl, _⟩ | ⟨rfl, _⟩ <;> decide
  have hkl : k.length ≤ 4 := by rcases hk with ⟨rfl, _⟩ | ⟨rfl, _⟩ <;> decide
  have hko : okS k = true := by rcases hk with ⟨rfl, _⟩ | ⟨rfl, _⟩ <;> decide +kernel
  have hm : ∀ x ∈ [a, b], x ∈ pool := fun x hx => by
    rcases List.mem_cons.mp hx with e | e
    · subst e; exact ha
    · rw [List.mem_singleton.mp e]; exact hb
  refine ⟨?_, ⟨⟨hne, rfl⟩, ⟨hne, hko, fun x hx => hp.ok x (hm x hx), dr_small hd, Nat.le_refl _, by simp⟩, hkl, by simp [Part.ends], fun x hx => hp.len x (hm x hx), hd⟩, hm⟩
  show okPl k a b w = true
  unfold okPl
  rw [hp.name a ha, hp.name b hb, hw]
  rcases hk with ⟨rfl, h⟩ | ⟨rfl, h⟩
  · simp [h]
  · simp [h, lead_pipe]
theorem hub_good {es : List Str} {w : Num} {pool : List Str} (hp : Pool pool) (he : ∀ x ∈ es, x ∈ pool) (hr : rises es = true) (h2 : 2 ≤ es.length) (h4 : es.length ≤ 4) (hw : w.wide = true) (hd : w.dr) :
    (Part.hub es w).ok = true ∧ (Part.hub es w).dr ∧ ∀ x ∈ (Part.hub es w).ends, x ∈ pool := by
  refine ⟨?_, ⟨trivial, ⟨fun x hx => hp.ok x (he x hx), dr_small hd, by omega⟩, by show ("hub" : Str).length ≤ 4; decide, h4, fun x hx => hp.len x (he x hx), hd⟩, he⟩
  show (namesB es && decide (2 ≤ es.length) && w.wide) = true
  unfold namesB
  have : es.all nameS = true := List.all_eq_true.mpr fun x hx => hp.name x (he x hx)
  rw [this, hr, hw, decide_eq_true h2]; rfl
theorem two_first {l : List Str} (h : 2 ≤ l.length) : ∃ a b r, l = a :: b :: r := by
  match l, h with
  | a :: b :: r, _ => exact ⟨a, b, r, rfl⟩
theorem min_two (a b : Str) : minR [.lst [.str a, .str b]] = some (.str (if ltS b a = true then b else a)) := rfl
theorem max_two (a b : Str) : maxR [.lst [.str a, .str b]] = some (.str (if ltS a b = true then b else a)) := rfl
theorem minI (i : Int) : minR [.int 3, .int i] = some (.int (if i < 3 then i else 3)) := rfl
theorem hubs_leads : (("hubs" : Str) = "leads") = False := eq_false (by decide)
theorem pipes_leads : (("pipes" : Str) = "leads") = False := eq_false (by decide)
theorem pipes_hubs : (("pipes" : Str) = "hubs") = False := eq_false (by decide)
theorem leads_hubs : (("leads" : Str) = "hubs") = False := eq_false (by decide)
theorem g_ct_part {n : Nat} {st : DSt} (h : Gd (n + 16) st) {pool : List Str} (hp : Pool pool) (h2 : 2 ≤ pool.length) (h9 : pool.length ≤ 9) {sort : Str} (hs : sort = "pipes" ∨ sort = "leads" ∨ sort = "hubs") :
    ∃ (p : Part) (st' : DSt), G__law_ct_part [.lst (pool.map D.str), .str sort] st = some (p.d, st') ∧ Gd n st' ∧ p.ok = true ∧ p.dr ∧ (∀ x ∈ p.ends, x ∈ pool) ∧ (p.kind = "pipe" ∨ (p.kind = "lead" ∧ sort = "leads") ∨ (p.kind = "hub" ∧ sort = "hubs")) := by
  obtain ⟨res, st1, e1, g1, perm⟩ := g_shuffled (n := n + 4) (m := pool.length) rfl (h.less (by omega)) hp.ok (by omega) (.inl rfl)
  obtain ⟨w, st2, e2, g2, hw, hd⟩ := g_ct_number (n := n + 3) g1
  have hrl : res.length = pool.length := perm.length_eq
  have hpr := pool_perm hp perm
  have hmem : ∀ x ∈ res, x ∈ pool := fun x hx => perm.mem_iff.mp hx
  obtain ⟨a, b, r, rfl⟩ := two_first (l := res) (by omega)
  have hab : a ≠ b := by
    have := (List.nodup_cons.mp hpr.nd).1
    intro e; subst e; exact this List.mem_cons_self
  have ha := hmem a (by simp)
  have hb := hmem b (by simp)
  have ht2 : cutD (.str a :: .str b :: r.map D.str) none (some 2) = [.str a, .str b] := by rw [cut_to2]; rfl
  have hmn := min_two a b
  have hmx := max_two a b
  simp only [List.map_cons] at e1
  -- the pipe
  obtain ⟨x, y, hx, hy, hxy, hpm, hpx⟩ : ∃ x y, x ∈ pool ∧ y ∈ pool ∧ ltS x y = true ∧ minR [.lst [.str a, .str b]] = some (.str x) ∧ maxR [.lst [.str a, .str b]] = some (.str y) := by
    cases hc : ltS a b with
    | true =>
      have hc2 : ltS b a = false := ltS_asym hc
      exact ⟨a, b, ha, hb, hc, by rw [hmn, hc2]; rfl, by rw [hmx, hc]; rfl⟩
    | false =>
      have hc2 : ltS b a = true := by
        cases h3 : ltS b a with
        | true => rfl
        | false => exact absurd (ltS_tri hc h3) (by first | exact hab | exact fun e => hab e.symm)
      exact ⟨b, a, hb, ha, hc2, by rw [hmn, hc2]; rfl, by rw [hmx, hc]; rfl⟩
  obtain ⟨p1, p2, p3⟩ := pl_good (k := "pipe") (w := w) hp hx hy hw hd (.inl ⟨rfl, hxy⟩)
  rcases hs with rfl | rfl | rfl
  · refine ⟨.pl "pipe" [x, y] w, st2, ?_, g2.less (by omega), p1, p2, p3, .inl rfl⟩
    simp [G__law_ct_part, wrapS, runS, entry, den__law_ct_part, e1, e2, pipes_leads, pipes_hubs, ht2, hpm, hpx, size4, Part.d]
  · obtain ⟨v, st3, e3, g3, q1, q2⟩ := g_draw (n := n + 2) g2 (room := 3) (by decide) (by decide)
    by_cases hv : 0 < v
    · obtain ⟨l1, l2, l3⟩ := pl_good (k := "lead") (w := w) hp ha hb hw hd (.inr ⟨rfl, hab⟩)
      refine ⟨.pl "lead" [a, b] w, st3, ?_, g3.less (by omega), l1, l2, l3, .inr (.inl ⟨rfl, rfl⟩)⟩
      simp [G__law_ct_part, wrapS, runS, entry, den__law_ct_part, e1, e2, e3, hv, size4, Part.d]
    · refine ⟨.pl "pipe" [x, y] w, st3, ?_, g3.less (by omega), p1, p2, p3, .inl rfl⟩
      simp [G__law_ct_part, wrapS, runS, entry, den__law_ct_part, e1, e2, e3, hv, leads_hubs, ht2, hpm, hpx, size4, Part.d]
  · by_cases hr3 : r.length = 0
    · have hr0 : r = [] := List.length_eq_zero_iff.mp hr3
      subst hr0
      refine ⟨.pl "pipe" [x, y] w, st2, ?_, g2.less (by omega), p1, p2, p3, .inl rfl⟩
      simp only [List.map_nil] at e1 ht2
      simp [G__law_ct_part, wrapS, runS, entry, den__law_ct_part, e1, e2, hubs_leads, ht2, hpm, hpx, size4, Part.d]
    · have hl3 : (2 : Int) < (r.length : Int) + 1 + 1 := by omega
      obtain ⟨v, st3, e3, g3, q1, q2⟩ := g_draw (n := n + 2) g2 (room := 3) (by decide) (by decide)
      by_cases hv : 0 < v
      · obtain ⟨mn, hmn1, hmn2, hmn3⟩ : ∃ mn : Nat, (if (r.length : Int) + 1 + 1 - 1 < 3 then (r.length : Int) + 1 + 1 - 1 else 3) = (mn : Int) ∧ 0 < mn ∧ mn ≤ 3 ∧ mn ≤ r.length + 1 := by
          by_cases c : (r.length : Int) + 1 + 1 - 1 < 3
          · exact ⟨r.length + 1, by rw [if_pos c]; omega, by omega, by omega, by omega⟩
          · exact ⟨3, by rw [if_neg c]; rfl, by omega, by omega, by omega⟩
        have hmi : minR [.int 3, .int ((r.length : Int) + 1 + 1 - 1)] = some (.int (mn : Int)) := by rw [minI, hmn1]
        have hmi2 : minR [.int 3, .int ((r.length : Int) + 1)] = some (.int (mn : Int)) := by rw [← hmi, show (r.length : Int) + 1 + 1 - 1 = (r.length : Int) + 1 by omega]
        obtain ⟨u, st4, e4, g4, q3, q4⟩ := g_draw (n := n + 1) g3 (room := (mn : Int)) (by omega) (by
          have : ((mn : Int)).natAbs = mn := by omega
          rw [this]
          have : mn = 1 ∨ mn = 2 ∨ mn = 3 := by omega
          rcases this with rfl | rfl | rfl <;> decide)
        obtain ⟨k, rfl⟩ : ∃ k : Nat, u = (k : Int) := ⟨u.toNat, by omega⟩
        have hcut : cutD (.str a :: .str b :: r.map D.str) none (some (2 + (k : Int))) = ((a :: b :: r).take (2 + k)).map D.str := by
          rw [show (2 : Int) + (k : Int) = ((2 + k : Nat) : Int) by omega, List.map_take]
          exact cut_to _ _
        have hsr := srtR_strs ((a :: b :: r).take (2 + k))
        have hpt := pool_take hpr (2 + k)
        have hlen : (sortS ((a :: b :: r).take (2 + k))).length = 2 + k := by rw [sortS_len, List.length_take]; simp only [List.length_cons]; omega
        obtain ⟨l1, l2, l3⟩ := hub_good (es := sortS ((a :: b :: r).take (2 + k))) (w := w) hp (fun z hz => hmem z (take_sub ((sortS_perm _).mem_iff.mp hz))) (sortS_rises hpt.nd) (by omega) (by omega) hw hd
        refine ⟨.hub (sortS ((a :: b :: r).take (2 + k))) w, st4, ?_, g4.less (by omega), l1, l2, l3, .inr (.inr ⟨rfl, rfl⟩)⟩
        generalize sortS ((a :: b :: r).take (2 + k)) = ss at *
        generalize ((a :: b :: r).take (2 + k)).map D.str = tt at *
        simp [G__law_ct_part, wrapS, runS, entry, den__law_ct_part, e1, e2, e3, hv, hubs_leads, hl3, size3, Part.d, hmi2, e4, hcut, hsr]
      · refine ⟨.pl "pipe" [x, y] w, st3, ?_, g3.less (by omega), p1, p2, p3, .inl rfl⟩
        simp [G__law_ct_part, wrapS, runS, entry, den__law_ct_part, e1, e2, e3, hv, hubs_leads, hl3, ht2, hpm, hpx, size4, Part.d]
end K12
end S_E24
section S_E25
set_option Elab.async false
set_option linter.all false
set_option autoImplicit false
set_option maxRecDepth 100000
set_option maxHeartbeats 4000000
/-! E25: drawn nets. -/
namespace K12
open PySem PySem.Spec PyProof.Rows L2 DL
theorem compS {τ κ : Type} {fg : TgF} {ft : M Bool} {fe : M D} {vs : List Nat} (inj : τ → D) (out : κ → D) (ρ : List Sl) (hw : wipeR ρ vs = ρ) (Good : Nat → DSt → Prop) (Q : κ → Prop) : ∀ (l : List τ) (st : DSt), Good l.length st →
    (∀ n st, ∀ t ∈ l, Good (n + 1) st → ∃ (ρ2 : List Sl) (y : κ) (st' : DSt), fg (inj t) ⟨ρ, st⟩ = some ⟨ρ2, st⟩ ∧ ft ⟨ρ2, st⟩ = .ok true ⟨ρ2, st⟩ ∧ fe ⟨ρ2, st⟩ = .ok (out y) ⟨ρ2, st'⟩ ∧ wipeR ρ2 vs = ρ ∧ Good n st' ∧ Q y) →
    ∃ (ys : List κ) (st' : DSt), compD fg ft fe vs (l.map inj) ⟨ρ, st⟩ = .ok (ys.map out) ⟨ρ, st'⟩ ∧ Good 0 st' ∧ ys.length = l.length ∧ ∀ y ∈ ys, Q y
  | [], st, h0, _ => ⟨[], st, rfl, h0, rfl, by simp⟩
  | t :: l, st, h0, h => by
    obtain ⟨ρ2, y, st1, h1, h2, h3, h4, h5, h6⟩ := h l.length st t List.mem_cons_self h0
    obtain ⟨ys, st2, q1, q2, q3, q4⟩ := compS inj out ρ hw Good Q l st1 h5 fun n st e he => h n st e (List.mem_cons_of_mem _ he)
    refine ⟨y :: ys, st2, ?_, q2, by simp [q3], fun z hz => ?_⟩
    · show compD fg ft fe vs (inj t :: l.map inj) ⟨ρ, st⟩ = _
      unfold compD
      rw [e_bind, e_tgo h1]
      simp only []
      rw [e_bind, h2]
      simp only [if_true]
      rw [e_bind, h3]
      simp only []
      rw [e_bind, e_wipe]
      simp only [h4]
      rw [e_bind, q1]
      rfl
    · rcases List.mem_cons.mp hz with e | e
      · subst e; exact h6
      · exact q4 z e
theorem dcompS {τ κ : Type} {fi : M (List D)} {fg : TgF} {ft : M Bool} {fe : M D} {vs : List Nat} (inj : τ → D) (out : κ → D) (ρ : List Sl) (hw : wipeR ρ vs = ρ) (Good : Nat → DSt → Prop) (Q : κ → Prop) (l : List τ) {s : FS} {st : DSt} (hi : fi s = .ok (l.map inj) ⟨ρ, st⟩) (h0 : Good l.length st)
    (h : ∀ n st, ∀ t ∈ l, Good (n + 1) st → ∃ (ρ2 : List Sl) (y : κ) (st' : DSt), fg (inj t) ⟨ρ, st⟩ = some ⟨ρ2, st⟩ ∧ ft ⟨ρ2, st⟩ = .ok true ⟨ρ2, st⟩ ∧ fe ⟨ρ2, st⟩ = .ok (out y) ⟨ρ2, st'⟩ ∧ wipeR ρ2 vs = ρ ∧ Good n st' ∧ Q y) :
    ∃ (ys : List κ) (st' : DSt), dComp fi fg ft fe vs s = .ok (ys.map out) ⟨ρ, st'⟩ ∧ Good 0 st' ∧ ys.length = l.length ∧ ∀ y ∈ ys, Q y := by
  obtain ⟨ys, st', q1, q2, q3, q4⟩ := compS inj out ρ hw Good Q l st h0 h
  refine ⟨ys, st', ?_, q2, q3, q4⟩
  unfold dComp
  rw [e_bind, hi]
  simp only []
  rw [e_bind, e_wipe]
  simp only [hw]
  rw [e_bind, q1]
  simp only []
  rw [e_bind, e_wipe]
  simp only [hw]
  rfl
structure PartQ (pool : List Str) (sort : Str) (p : Part) : Prop where
  ok : p.ok = true
  dr : p.dr
  ends : ∀ x ∈ p.ends, x ∈ pool
  kind : p.kind = "pipe" ∨ (p.kind = "lead" ∧ sort = "leads") ∨ (p.kind = "hub" ∧ sort = "hubs")
theorem nodup_le : ∀ (c l : List Str), c.Nodup → (∀ x ∈ c, x ∈ l) → c.length ≤ l.length
  | [], l, _, _ => Nat.zero_le _
  | a :: r, l, h, k => by
    obtain ⟨h1, h2⟩ := List.nodup_cons.mp h
    have ha := k a List.mem_cons_self
    have := nodup_le r (l.erase a) h2 fun x hx => by
      have hne : x ≠ a := fun e => h1 (e ▸ hx)
      exact (List.mem_erase_of_ne hne).mpr (k x (List.mem_cons_of_mem _ hx))
    have hl := List.length_erase_of_mem ha
    have hp := List.length_pos_of_mem ha
    simp only [List.length_cons]
    omega
theorem adds_nd (xs : List Str) : ∀ l : List Str, l.Nodup → (xs.foldl addS l).Nodup := by
  induction xs with
  | nil => intro l h; exact h
  | cons x r ih =>
    intro l h
    refine ih _ ?_
    unfold addS
    split
    · exact h
    · rename_i hn
      refine List.nodup_append.mpr ⟨h, by simp, ?_⟩
      intro a ha b hb e
      rw [List.mem_singleton.mp hb] at e
      subst e; exact hn ha
theorem adds_in (xs : List Str) : ∀ (l : List Str) (x : Str), x ∈ xs.foldl addS l → x ∈ l ∨ x ∈ xs := by
  induction xs with
  | nil => intro l x h; exact .inl h
  | cons z r ih =>
    intro l x h
    rcases ih _ x h with q | q
    · unfold addS at q
      split at q
      · exact .inl q
      · rcases List.mem_append.mp q with q | q
        · exact .inl q
        · rw [List.mem_singleton.mp q]; exact .inr List.mem_cons_self
    · exact .inr (List.mem_cons_of_mem _ q)
theorem net_ok {taps pool : List Str} {ps : List Part} {sort : Str} (ht : tapsB taps = true) (hsub : ∀ x ∈ taps, x ∈ pool) (hpool : pool.length ≤ 9) (hl : ps.length ≤ 9) (h : ∀ p ∈ ps, PartQ pool sort p) : (Net.mk taps ps).ok = true := by
  have hp : (places ⟨taps, ps⟩).length ≤ pool.length := nodup_le _ _ (adds_nd _ _ (rises_nodup (namesB_rises (tapsB_names ht)))) fun x hx => by
    rcases adds_in _ _ _ hx with q | q
    · exact hsub x q
    · obtain ⟨p, hpm, hpx⟩ := List.mem_flatMap.mp q
      exact (h p hpm).ends x hpx
  have hall : ps.all Part.ok = true := List.all_eq_true.mpr fun p hp => (h p hp).ok
  have hk : (ps.any (fun p => decide (p.kind = "lead")) && ps.any (fun p => decide (p.kind = "hub"))) = false := by
    rw [Bool.and_eq_false_iff]
    by_cases hs : sort = "leads"
    · right
      rw [List.any_eq_false]
      intro p hpm
      rcases (h p hpm).kind with e | ⟨e, _⟩ | ⟨_, e⟩
      · rw [e]; simp [pipe_hub]
      · rw [e]; simp [lead_hub]
      · rw [hs] at e; exact absurd e (by decide)
    · left
      rw [List.any_eq_false]
      intro p hpm
      rcases (h p hpm).kind with e | ⟨_, e⟩ | ⟨e, _⟩
      · rw [e]; simp [pipe_lead]
      · exact absurd e hs
      · rw [e]; simp [hub_lead]
  unfold Net.ok
  simp only
  rw [ht, hall, hk, decide_eq_true (show ps.length ≤ 200 by omega), decide_eq_true (show (places ⟨taps, ps⟩).length ≤ 40 by omega)]
  rfl
theorem net_dr {taps pool : List Str} {ps : List Part} {sort : Str} (ht : tapsB taps = true) (hp : Pool taps) (hl : ps.length ≤ 9) (h : ∀ p ∈ ps, PartQ pool sort p) : (Net.mk taps ps).dr := by
  have h2 : 2 ≤ taps.length ∧ taps.length ≤ 6 := by unfold tapsB at ht; simp only [Bool.and_eq_true, decide_eq_true_eq] at ht; exact ⟨ht.1.2, ht.2⟩
  refine ⟨⟨hp.ok, by simp only; omega, fun p hpm => (h p hpm).dr.shape⟩, h2.2, fun e => by simp only at e; rw [e] at h2; simp at h2, hp.len, hl, fun p hpm => (h p hpm).dr⟩
theorem pool_app {taps inner : List Str} (hp : Pool taps) (h1 : ∀ x ∈ taps, x ∈ tapsX ++ tapsY) (hi : inner.Nodup) (h2 : ∀ x ∈ inner, x ∈ inX ++ inY) : Pool (taps ++ inner) := by
  have hd : ∀ x ∈ tapsX ++ tapsY, x ∉ inX ++ inY := by
    intro x hx hx2
    have : ((tapsX ++ tapsY).all fun x => !decide (x ∈ inX ++ inY)) = true := by decide +kernel
    have := List.all_eq_true.mp this x hx
    simp only [Bool.not_eq_true', decide_eq_false_iff_not] at this
    exact this hx2
  refine pool_all.sub (List.nodup_append.mpr ⟨hp.nd, hi, fun a ha b hb e => ?_⟩) fun x hx => ?_
  · subst e; exact hd a (h1 a ha) (h2 a hb)
  · rcases List.mem_append.mp hx with q | q
    · have := h1 x q; simp only [List.mem_append] at this ⊢; rcases this with q | q <;> simp [q]
    · have := h2 x q; simp only [List.mem_append] at this ⊢; rcases this with q | q <;> simp [q]
end K12
end S_E25
section S_E26
set_option Elab.async false
set_option linter.all false
set_option autoImplicit false
set_option maxRecDepth 100000
set_option maxHeartbeats 4000000
/-! E26: drawn nets. -/
namespace K12
open PySem PySem.Spec PyProof.Rows L2 DL
theorem rng_zero (n : Nat) : rngD 0 n = (List.range n).map fun i => .int (0 + (i : Int)) := rfl
def SortS (s : Str) : Prop := s = "pipes" ∨ s = "leads" ∨ s = "hubs"
theorem g_ct_net {n : Nat} {st : DSt} (h : Gd (n + 160) st) {taps : List Str} (hp : Pool taps) (hin : ∀ x ∈ taps, x ∈ tapsX ++ tapsY) (ht : tapsB taps = true) {sort : Str} (hs : SortS sort) :
    ∃ (ps : List Part) (pool : List Str) (st' : DSt), G__law_ct_net [.tup (taps.map D.str), .str sort] st = some ((Net.mk taps ps).d, st') ∧ Gd n st' ∧ (∀ x ∈ taps, x ∈ pool) ∧ pool.length ≤ 9 ∧ ps.length ≤ 9 ∧ ∀ p ∈ ps, PartQ pool sort p := by
  have h26 : 2 ≤ taps.length ∧ taps.length ≤ 6 := by unfold tapsB at ht; simp only [Bool.and_eq_true, decide_eq_true_eq] at ht; exact ⟨ht.1.2, ht.2⟩
  obtain ⟨v, st1, e1, g1, p1, q1⟩ := g_draw (n := n + 159) h (room := 2) (by decide) (by decide)
  obtain ⟨d, st2, e2, g2, hd⟩ := g_pick (n := n + 158) g1 (l := [.int 2, .int 1, .int 3, .int 0]) (by simp) (by simp; decide)
  obtain ⟨j, rfl, hj⟩ : ∃ j : Nat, d = .int (j : Int) ∧ j ≤ 3 := by
    simp only [List.mem_cons, List.not_mem_nil, or_false] at hd
    rcases hd with e | e | e | e
    · exact ⟨2, e, by omega⟩
    · exact ⟨1, e, by omega⟩
    · exact ⟨3, e, by omega⟩
    · exact ⟨0, e, by omega⟩
  obtain ⟨base, eix, hbase⟩ : ∃ base : List Str, ixR (.lst [.lst [.str "k", .str "p", .str "q"], .lst [.str "in1", .str "in2", .str "z"]]) (.int v) = some (.lst (base.map D.str)) ∧ (base = inX ∨ base = inY) := by
    have : v = 0 ∨ v = 1 := by omega
    rcases this with rfl | rfl
    · exact ⟨inX, rfl, .inl rfl⟩
    · exact ⟨inY, rfl, .inr rfl⟩
  have hb3 : base.length = 3 := by rcases hbase with rfl | rfl <;> rfl
  have hbn : base.Nodup := by rcases hbase with rfl | rfl <;> decide +kernel
  have hbi : ∀ x ∈ base, x ∈ inX ++ inY := fun x hx => by rcases hbase with rfl | rfl <;> simp [hx]
  have hpool := pool_app hp hin (hbn.sublist (List.take_sublist j base)) fun x hx => hbi x (take_sub hx)
  have hil : (base.take j).length ≤ 3 := by rw [List.length_take]; omega
  obtain ⟨m, st3, e3, g3, p3, q3⟩ := g_draw (n := n + 157) g2 (room := 7) (by decide) (by decide)
  obtain ⟨k, rfl⟩ : ∃ k : Nat, m = (k : Int) := ⟨m.toNat, by omega⟩
  have ecut : cutD (base.map D.str) none (some (j : Int)) = (base.take j).map D.str := by rw [List.map_take]; exact cut_to _ _
  have hpl2 : 2 ≤ (taps ++ base.take j).length := by rw [List.length_append]; omega
  have hpl9 : (taps ++ base.take j).length ≤ 9 := by rw [List.length_append]; omega
  have hz : taps.length + (base.take j).length ≤ sizeLine := by have := sizeLine_big; omega
  have hz2 : taps.length + min j base.length ≤ sizeLine := by have := sizeLine_big; omega
  generalize hin2 : base.take j = inner at *
  have hfi : dRng1 (dCons (dOp addR (ret (.int 3)) (dSCall G__law_draw (dStArg 0 (dCons (ret (.int 7)) (ret []))))) (ret [])) ⟨[.st, .fz (.tup (taps.map D.str)), .fz (.str sort), .fz (.lst (inner.map D.str)), .fz (.lst ((taps ++ inner).map D.str)), .un, .un], st2⟩
      = .ok (rngD 0 (3 + k)) ⟨[.st, .fz (.tup (taps.map D.str)), .fz (.str sort), .fz (.lst (inner.map D.str)), .fz (.lst ((taps ++ inner).map D.str)), .un, .un], st3⟩ := by
    have := x_rng1 (f := dCons (dOp addR (ret (.int 3)) (dSCall G__law_draw (dStArg 0 (dCons (ret (.int 7)) (ret []))))) (ret [])) (s := ⟨[.st, .fz (.tup (taps.map D.str)), .fz (.str sort), .fz (.lst (inner.map D.str)), .fz (.lst ((taps ++ inner).map D.str)), .un, .un], st2⟩) (s1 := ⟨[.st, .fz (.tup (taps.map D.str)), .fz (.str sort), .fz (.lst (inner.map D.str)), .fz (.lst ((taps ++ inner).map D.str)), .un, .un], st3⟩) (n := 3 + (k : Int)) (by simp [e3]) (by have := sizeLine_big; omega)
    rw [show (3 + (k : Int)).toNat = 3 + k by omega] at this
    exact this
  rw [rng_zero] at hfi
  obtain ⟨ps, st4, c1, c2, c3, c4⟩ := dcompS (fg := tgName 6) (ft := ret true) (fe := dSCall G__law_ct_part (dStArg 0 (dCons (dVar 4) (dCons (dVar 2) (ret []))))) (vs := [6]) (fun i : Nat => D.int (0 + (i : Int))) Part.d
    [.st, .fz (.tup (taps.map D.str)), .fz (.str sort), .fz (.lst (inner.map D.str)), .fz (.lst ((taps ++ inner).map D.str)), .un, .un] rfl (fun r st => Gd (n + 16 * r) st) (PartQ (taps ++ inner) sort) (List.range (3 + k)) hfi (g3.less (by rw [List.length_range]; omega)) (by
      intro r st t ht2 hg
      obtain ⟨p, st', r1, r2, r3, r4, r5, r6⟩ := g_ct_part (n := n + 16 * r) (by have := hg; rw [Nat.mul_add] at this; exact this) hpool hpl2 hpl9 hs
      refine ⟨[.st, .fz (.tup (taps.map D.str)), .fz (.str sort), .fz (.lst (inner.map D.str)), .fz (.lst ((taps ++ inner).map D.str)), .un, .fz (.int (0 + (t : Int)))], p, st', rfl, rfl, ?_, rfl, r2, ⟨r3, r4, r5, r6⟩⟩
      simp only [List.map_append] at r1
      simp [r1])
  have hlen : ps.length ≤ 9 := by rw [c3, List.length_range]; omega
  refine ⟨ps, taps ++ inner, st4, ?_, c2.less (by omega), fun x hx => List.mem_append_left _ hx, hpl9, hlen, c4⟩
  simp only [List.map_append] at c1
  simp [G__law_ct_net, wrapS, runS, entry, den__law_ct_net, size3, size2, size4, e1, e2, eix, ecut, hz, hz2, c1, Net.d]
/-- a part but for its number -/
def Part.core : Part → List D
  | .pl k r _ => .str k :: r.map D.str
  | .hub es _ => [.str "hub", .tup (es.map D.str)]
def Part.setW : Part → Num → Part
  | .pl k r _, w => .pl k r w
  | .hub es _, w => .hub es w
theorem core_eq (p : Part) : p.d = .tup (p.core ++ [p.w.d]) := by cases p <;> simp [Part.d, Part.core, Part.w]
theorem core_set (p : Part) (w : Num) : (p.setW w).d = .tup (p.core ++ [w.d]) := by cases p <;> simp [Part.d, Part.core, Part.setW]
theorem core_len {p : Part} (h : p.dr) : p.core.length ≤ 5 := by
  have := h.two
  cases p with
  | pl k r w => simp only [Part.core, List.length_cons, List.length_map]; have := this.2; omega
  | hub es w => simp [Part.core]
theorem setW_q {pool : List Str} {sort : Str} {p : Part} {w : Num} (h : PartQ pool sort p) (hw : w.wide = true) (hd : w.dr) : PartQ pool sort (p.setW w) := by
  have ho := h.ok
  have hdr := h.dr
  have hsh := hdr.shape
  cases p with
  | pl k r w0 =>
    refine ⟨?_, ⟨hdr.two, ⟨hsh.1, hsh.2.1, hsh.2.2.1, dr_small hd, hsh.2.2.2.2⟩, hdr.kind, hdr.many, hdr.ends, hd⟩, h.ends, h.kind⟩
    match r, ho with
    | [a, b], ho =>
      simp only [Part.setW, Part.ok, okPl, Bool.and_eq_true] at ho ⊢
      exact ⟨⟨⟨⟨ho.1.1.1.1, ho.1.1.1.2⟩, ho.1.1.2⟩, hw⟩, ho.2⟩
  | hub es w0 =>
    refine ⟨?_, ⟨hdr.two, ⟨hsh.1, dr_small hd, hsh.2.2⟩, hdr.kind, hdr.many, hdr.ends, hd⟩, h.ends, h.kind⟩
    simp only [Part.setW, Part.ok, Bool.and_eq_true] at ho ⊢
    exact ⟨ho.1, hw⟩
theorem g_an_net {n : Nat} {st : DSt} (h : Gd (n + 200) st) {taps : List Str} (hp : Pool taps) (hin : ∀ x ∈ taps, x ∈ tapsX ++ tapsY) (ht : tapsB taps = true) {sort : Str} (hs : SortS sort) :
    ∃ (ps : List Part) (pool : List Str) (st' : DSt), G__law_an_net [.tup (taps.map D.str), .str sort] st = some ((Net.mk taps ps).d, st') ∧ Gd n st' ∧ (∀ x ∈ taps, x ∈ pool) ∧ pool.length ≤ 9 ∧ ps.length ≤ 9 ∧ ∀ p ∈ ps, PartQ pool sort p := by
  obtain ⟨ps, pool, st1, e1, g1, h1, h2, h3, h4⟩ := g_ct_net (n := n + 40) h hp hin ht hs
  obtain ⟨v, st2, e2, g2, p2, q2⟩ := g_draw (n := n + 39) g1 (room := 4) (by decide) (by decide)
  have i1 : ixR (Net.mk taps ps).d (.int 1) = some (.tup (ps.map Part.d)) := rfl
  by_cases hv : 0 < v
  · refine ⟨ps, pool, st2, ?_, g2.less (by omega), h1, h2, h3, h4⟩
    simp [G__law_an_net, wrapS, runS, entry, den__law_an_net, e1, e2, hv]
  · obtain ⟨qs, st3, c1, c2, c3, c4⟩ := dcompS (fi := dItT (dOp ixR (dVar 3) (ret (.int 1)))) (fg := tgName 4) (ft := ret true) (fe := dOp addR (dSl (dVar 4) (ret none) (dPart (dNeg (ret (.int 1))))) (dTup (dCons (dSCall G__law_an_width (dStArg 0 (dCons (ret (.bl true)) (ret [])))) (ret [])))) (vs := [4]) Part.d Part.d
      [.st, .fz (.tup (taps.map D.str)), .fz (.str sort), .fz (Net.mk taps ps).d, .un] rfl (fun r st => Gd (n + 3 * r) st) (PartQ pool sort) ps (s := ⟨[.st, .fz (.tup (taps.map D.str)), .fz (.str sort), .fz (Net.mk taps ps).d, .un], st2⟩) (st := st2) (by simp [i1]) (g2.less (by omega)) (by
        intro r st p hpm hg
        obtain ⟨w, st', r1, r2, r3, r4⟩ := g_an_width (n := n + 3 * r) (by have := hg; rw [Nat.mul_add] at this; exact this)
        refine ⟨[.st, .fz (.tup (taps.map D.str)), .fz (.str sort), .fz (Net.mk taps ps).d, .fz p.d], p.setW w, st', rfl, rfl, ?_, rfl, r2, setW_q (h4 p hpm) r3 r4⟩
        have hcl := core_len (h4 p hpm).dr
        have hz : p.core.length + 1 ≤ sizeLine := by have := sizeLine_big; omega
        rw [core_set, core_eq]
        simp [r1, size1, hz])
    refine ⟨qs, pool, st3, ?_, c2.less (by omega), h1, h2, by omega, c4⟩
    simp [G__law_an_net, wrapS, runS, entry, den__law_an_net, e1, e2, hv, c1, size2]
    rfl
theorem g_an_drawn {n : Nat} {st : DSt} (h : Gd (n + 210) st) : ∃ (net : Net) (st' : DSt), G__law_an_drawn [.int 2, .int 6] st = some (net.d, st') ∧ Gd n st' ∧ net.ok = true ∧ net.dr := by
  obtain ⟨d, st1, e1, g1, hd⟩ := g_pick (n := n + 209) h (l := [.str "pipes", .str "leads", .str "hubs"]) (by simp) (by simp; decide)
  obtain ⟨sort, rfl, hs⟩ : ∃ s : Str, d = .str s ∧ SortS s := by
    simp only [List.mem_cons, List.not_mem_nil, or_false] at hd
    rcases hd with e | e | e
    · exact ⟨_, e, .inl rfl⟩
    · exact ⟨_, e, .inr (.inl rfl)⟩
    · exact ⟨_, e, .inr (.inr rfl)⟩
  obtain ⟨taps, st2, e2, g2, hp, hin, ht⟩ := g_ct_taps (n := n + 201) g1
  obtain ⟨ps, pool, st3, e3, g3, h1, h2, h3, h4⟩ := g_an_net (n := n + 1) g2 hp hin ht hs
  refine ⟨⟨taps, ps⟩, st3, ?_, g3.less (by omega), net_ok ht h1 h2 h3 h4, net_dr ht hp h3 h4⟩
  simp [G__law_an_drawn, wrapS, runS, entry, den__law_an_drawn, size3, e1, e2, e3]
end K12
end S_E26
section S_E27
set_option Elab.async false
set_option linter.all false
set_option autoImplicit false
set_option maxRecDepth 100000
set_option maxHeartbeats 4000000
/-! E27: texts near a written one. -/
namespace K12
open PySem PySem.Spec PyProof.Rows L2 DL
theorem tl_cut_to (z : Str) (k : Nat) : TL.tl (cutS z none (some (k : Int))) = (TL.tl z).take k := by
  show ((z.cps.toList.drop (HT.sIx z.length 0 none)).take (HT.sIx z.length z.length (some (k : Int)) - HT.sIx z.length 0 none)) = _
  rw [HT.sIx_nat, HT.sIx_none, List.drop_zero, Nat.sub_zero, List.take_eq_take_iff]
  have : z.length = z.cps.toList.length := TL.len_tl z
  omega
theorem tl_cut_from (z : Str) (k : Nat) : TL.tl (cutS z (some (k : Int)) none) = (TL.tl z).drop k := by
  show ((z.cps.toList.drop (HT.sIx z.length 0 (some (k : Int)))).take (HT.sIx z.length z.length none - HT.sIx z.length 0 (some (k : Int)))) = _
  rw [HT.sIx_nat, HT.sIx_none]
  have hz : z.length = z.cps.toList.length := TL.len_tl z
  by_cases h : k ≤ z.length
  · rw [Nat.min_eq_left h, List.take_of_length_le (by rw [List.length_drop]; omega)]
  · rw [Nat.min_eq_right (by omega), List.drop_of_length_le (by omega), List.drop_of_length_le (show z.cps.toList.length ≤ k by omega)]; simp
theorem slR_str {x : Str} (h : x.length ≤ sizeLine) (a b : Option Int) : slR (.str x) a b = some (.str (cutS x a b)) := by
  unfold slR; simp only []; rw [if_pos h]
theorem cut_to_len (z : Str) (k : Nat) : (cutS z none (some (k : Int))).length ≤ k := by rw [TL.len_tl, tl_cut_to, List.length_take]; omega
theorem cut_from_len (z : Str) (k : Nat) : (cutS z (some (k : Int)) none).length = z.length - k := by rw [TL.len_tl, tl_cut_from, List.length_drop, ← TL.len_tl]
theorem lo_cut_to {N : Nat} {z : Str} (h : Lo N z) (k : Nat) : Lo N (cutS z none (some (k : Int))) := fun c hc => by rw [tl_cut_to] at hc; exact h c (List.mem_of_mem_take hc)
theorem lo_cut_from {N : Nat} {z : Str} (h : Lo N z) (k : Nat) : Lo N (cutS z (some (k : Int)) none) := fun c hc => by rw [tl_cut_from] at hc; exact h c (List.mem_of_mem_drop hc)
def signsL : List Str := [" ", "\n", "a", "1",
  "0", "/", "-", "Z",
  "9", "b", "_"]
theorem signs_ok : ∀ x ∈ signsL, x.length ≤ 1 ∧ Lo 0x110000 x := by
  intro x hx
  have : (signsL.all fun x => decide (x.length ≤ 1) && (TL.tl x).all fun c => decide (c < 0x110000)) = true := by decide +kernel
  have := List.all_eq_true.mp this x hx
  simp only [Bool.and_eq_true, decide_eq_true_eq] at this
  exact ⟨this.1, lo_of_all this.2⟩
def oddsA : List Str := ["", "pipe a b", "lead b a 1", "hub a b 1", "hub a 1", "pipe a b 2/4", "pipe a b 01", "pipe a b 1000000000000000000000000000000"]
def oddsB : List Str := ["pipe a b 100000000000000000000000000000", "lead a a 1", "pipe a b 3/1", "taps a b", "pipe a b  1", "hub a b c 0", "pipe b a 1"]
def oddsC : List Str := ["pipe a b 1/1111111111111111111111111111111", "pipe a b 1/111111111111111111111111111111", "pipe a b 1111111111111111111111111111111/2", "pipe a b 111111111111111111111111111111/2"]
theorem odds_ok : ∀ x ∈ oddsA ++ oddsB ++ oddsC, x.length ≤ 50 ∧ Lo 0x110000 x := by
  intro x hx
  have : ((oddsA ++ oddsB ++ oddsC).all fun x => decide (x.length ≤ 50) && (TL.tl x).all fun c => decide (c < 0x110000)) = true := by decide +kernel
  have := List.all_eq_true.mp this x hx
  simp only [Bool.and_eq_true, decide_eq_true_eq] at this
  exact ⟨this.1, lo_of_all this.2⟩
theorem rep_of {a z : Str} {n : Int} (h : 2 ≤ n ∧ n ≤ 1000 ∧ a.length ≠ 0 ∧ a.length ≤ 1000) (e : repS a n = z) : mulA (.str a) (.int n) = some (.str z) := by
  unfold mulA
  simp only []
  rw [if_pos h, e]
theorem rep30 : mulA (.str "0") (.int 30) = some (.str "000000000000000000000000000000") := rep_of ⟨by decide, by decide, by decide, by decide⟩ (by decide +kernel)
theorem rep29 : mulA (.str "0") (.int 29) = some (.str "00000000000000000000000000000") := rep_of ⟨by decide, by decide, by decide, by decide⟩ (by decide +kernel)
theorem rep1_31 : mulA (.str "1") (.int 31) = some (.str "1111111111111111111111111111111") := rep_of ⟨by decide, by decide, by decide, by decide⟩ (by decide +kernel)
theorem rep1_30 : mulA (.str "1") (.int 30) = some (.str "111111111111111111111111111111") := rep_of ⟨by decide, by decide, by decide, by decide⟩ (by decide +kernel)
theorem add_of {x y z : Str} (h : x ++ y = z) (hl : x.length + y.length ≤ sizeLine) : addR (.str x) (.str y) = some (.str z) := by rw [addR_str, if_pos hl, h]
theorem sum_set (f : Str → Nat) : ∀ (l : List Str) (i : Nat) (y : Str) (h : i < l.length), ((l.set i y).map f).sum + f l[i] = (l.map f).sum + f y
  | a :: r, 0, y, h => by simp; omega
  | a :: r, i + 1, y, h => by
    have ih := sum_set f r i y (by simpa using h)
    simp only [List.set_cons_succ, List.map_cons, List.sum_cons, List.getElem_cons_succ]
    omega
theorem x_store2 {i : Nat} {fj fk : M D} {f : M (List D)} {s s1 s2 s3 : FS} {x y : D} {l : List D} {j k : Nat} (hf : f s = .ok [x, y] s1) (hs1 : s1.ρ[i]? = some (.ow l)) (hj : fj s1 = .ok (.int (j : Int)) s1) (hjl : j < l.length)
    (hs2 : s2 = { s1 with ρ := s1.ρ.set i (.ow (l.set j x)) }) (hs2' : s2.ρ[i]? = some (.ow (l.set j x))) (hk : fk s2 = .ok (.int (k : Int)) s2) (hkl : k < l.length) (hs3 : s3 = { s2 with ρ := s2.ρ.set i (.ow ((l.set j x).set k y)) }) : fStore2 i fj fk f s = .ok .nx s3 := by
  have pk : ∀ (s : FS) (l : List D), s.ρ[i]? = some (.ow l) → peek i s = .ok l s := fun s l h => by unfold peek; rw [h]
  have ixn : ∀ (n k : Nat), k < n → ixN n (k : Int) = some k := fun n k h => by
    unfold ixN
    rw [if_pos (by omega), if_pos (by omega)]
    simp
  have st : ∀ (s s' : FS) (fj : M D) (d : D) (l : List D) (j : Nat), s.ρ[i]? = some (.ow l) → fj s = .ok (.int (j : Int)) s → j < l.length → s' = { s with ρ := s.ρ.set i (.ow (l.set j d)) } → setAt i fj d s = .ok () s' := fun s s' fj d l j h1 h2 h3 h4 => by
    unfold setAt
    rw [x_bind, pk s l h1, bd_ok, x_bind, h2, bd_ok, x_bind, pk s l h1, bd_ok, x_bind]
    simp only [isI_int, x_lift, bd_ok]
    rw [x_bind, ixn _ _ h3, x_lift, bd_ok, h4]
    rfl
  unfold fStore2
  rw [x_bind, hf, bd_ok]
  show ((setAt i fj x >>= fun _ => setAt i fk y >>= fun _ => (ret .nx : M Fl)) s1) = _
  rw [x_bind, st s1 s2 fj x l j hs1 hj hjl hs2, bd_ok, x_bind, st s2 s3 fk y (l.set j x) k hs2' hk (by simpa using hkl) hs3, bd_ok]
  rfl
end K12
end S_E27
section S_E28
set_option Elab.async false
set_option linter.all false
set_option autoImplicit false
set_option maxRecDepth 100000
set_option maxHeartbeats 4000000
/-! E28: texts near a written one. -/
namespace K12
open PySem PySem.Spec PyProof.Rows L2 DL
def nS0 : M Fl := (fPar2 2 3 (vFz (dSCall G__law_draw (dStArg 0 (dCons (ret (.int 6)) (ret []))))) (vFz (dSCall G__law_draw (dStArg 0 (dCons (dCall lenR (dCons (dVar 1) (ret []))) (ret []))))))
def nS1 : M Fl := (fIf (dTest (dOp ltR (dVar 2) (ret (.int 2)))) (fSeq (fSet 4 (dSCall G__law_pick (dStArg 0 (dCons (dFrz (dLst (dCons (ret (.str " ")) (dCons (ret (.str "\n")) (dCons (ret (.str "a")) (dCons (ret (.str "1")) (dCons (ret (.str "0")) (dCons (ret (.str "/")) (dCons (ret (.str "-")) (dCons (ret (.str "Z")) (dCons (ret (.str "9")) (dCons (ret (.str "b")) (dCons (ret (.str "_")) (ret [])))))))))))))) (ret []))))) (fRet (dOp addR (dOp addR (dSl (dVar 1) (ret none) (dPart (dVar 3))) (dVar 4)) (dSl (dVar 1) (dPart (dOp subR (dOp addR (dVar 3) (ret (.int 1))) (dVar 2))) (ret none))))) (ret .nx))
def nS2 : M Fl := (fIf (dTest (dOp eqR (dVar 2) (ret (.int 2)))) (fRet (dOp addR (dSl (dVar 1) (ret none) (dPart (dVar 3))) (dSl (dVar 1) (dPart (dOp addR (dVar 3) (ret (.int 1)))) (ret none)))) (ret .nx))
def nS3 : M Fl := (fSetV 5 (vOw (dSplit (dVar 1) (ret (.str "\n")))))
def nS4 : M Fl := (fPar2 3 6 (vFz (dSCall G__law_draw (dStArg 0 (dCons (dOwnC 5 lenR) (ret []))))) (vFz (dSCall G__law_draw (dStArg 0 (dCons (dOwnC 5 lenR) (ret []))))))
def nS5 : M Fl := (fIf (dTest (dOp eqR (dVar 2) (ret (.int 3)))) (fStore2 5 (dVar 3) (dVar 6) (dCons (dOwnIx 5 (dVar 6)) (dCons (dOwnIx 5 (dVar 3)) (ret [])))) (ret .nx))
def nS6 : M Fl := (fIf (dTest (dOp eqR (dVar 2) (ret (.int 4)))) (fSeq (fSet 7 (dFrz (dLst (dCons (ret (.str "")) (dCons (ret (.str "pipe a b")) (dCons (ret (.str "lead b a 1")) (dCons (ret (.str "hub a b 1")) (dCons (ret (.str "hub a 1")) (dCons (ret (.str "pipe a b 2/4")) (dCons (ret (.str "pipe a b 01")) (dCons (dOp addR (ret (.str "pipe a b 1")) (dOp mulA (ret (.str "0")) (ret (.int 30)))) (ret [])))))))))))) (fSeq (fSet 7 (dOp addR (dVar 7) (dFrz (dLst (dCons (dOp addR (ret (.str "pipe a b 1")) (dOp mulA (ret (.str "0")) (ret (.int 29)))) (dCons (ret (.str "lead a a 1")) (dCons (ret (.str "pipe a b 3/1")) (dCons (ret (.str "taps a b")) (dCons (ret (.str "pipe a b  1")) (dCons (ret (.str "hub a b c 0")) (dCons (ret (.str "pipe b a 1")) (ret [])))))))))))) (fSeq (fSet 7 (dOp addR (dVar 7) (dFrz (dLst (dCons (dOp addR (ret (.str "pipe a b 1/")) (dOp mulA (ret (.str "1")) (ret (.int 31)))) (dCons (dOp addR (ret (.str "pipe a b 1/")) (dOp mulA (ret (.str "1")) (ret (.int 30)))) (dCons (dOp addR (dOp addR (ret (.str "pipe a b ")) (dOp mulA (ret (.str "1")) (ret (.int 31)))) (ret (.str "/2"))) (dCons (dOp addR (dOp addR (ret (.str "pipe a b ")) (dOp mulA (ret (.str "1")) (ret (.int 30)))) (ret (.str "/2"))) (ret []))))))))) (fSetV 5 (vOw (dAddL (dOp addR (dSl (dVar 5) (ret none) (dPart (dVar 3))) (dFrz (dLst (dCons (dSCall G__law_pick (dStArg 0 (dCons (dVar 7) (ret [])))) (ret []))))) (dSl (dVar 5) (dPart (dVar 3)) (ret none)))))))) (ret .nx))
def nS7 : M Fl := (fIf (dTest (dOp eqR (dVar 2) (ret (.int 5)))) (fSetV 5 (vOw (dAddL (dSl (dVar 5) (ret none) (dPart (dVar 3))) (dSl (dVar 5) (dPart (dOp addR (dVar 3) (ret (.int 1)))) (ret none))))) (ret .nx))
def nS8 : M Fl := (fRet (dJoin (ret (.str "\n")) (dVar 5)))
theorem near_eq : den__law_an_near_text G__law_draw G__law_pick = fSeq nS0 (fSeq nS1 (fSeq nS2 (fSeq nS3 (fSeq nS4 (fSeq nS5 (fSeq nS6 (fSeq nS7 nS8))))))) := rfl
theorem seq_nx {f g : M Fl} {s s1 : FS} (h : f s = .ok .nx s1) : fSeq f g s = g s1 := by rw [x_seq, h, bd_ok]
theorem near_steps {s0 s1 s2 s3 s4 s5 s6 s7 s8 : FS} (h0 : nS0 s0 = .ok .nx s1) (h1 : nS1 s1 = .ok .nx s2) (h2 : nS2 s2 = .ok .nx s3) (h3 : nS3 s3 = .ok .nx s4) (h4 : nS4 s4 = .ok .nx s5) (h5 : nS5 s5 = .ok .nx s6) (h6 : nS6 s6 = .ok .nx s7) (h7 : nS7 s7 = .ok .nx s8) : den__law_an_near_text G__law_draw G__law_pick s0 = nS8 s8 := by
  rw [near_eq, seq_nx h0, seq_nx h1, seq_nx h2, seq_nx h3, seq_nx h4, seq_nx h5, seq_nx h6, seq_nx h7]
theorem seq_rt {f g : M Fl} {s s1 : FS} {d : D} (h : f s = .ok (.rt d) s1) : fSeq f g s = .ok (.rt d) s1 := by rw [x_seq, h, bd_ok]
theorem split_write {n : Net} (h : n.dr) (k : n.ok = true) : Txt.split (writeT n) "\n" = rowsW n ++ [("" : Str)] := by
  have ht := tap_names (ok_taps k)
  have hp := ok_parts k
  have htap : Free ("taps" : Str) := free_of_all (by decide +kernel)
  have f0 : ∀ x ∈ tapL n, Free x := fun x hx => by
    unfold tapL at hx
    rcases List.mem_cons.mp hx with e | hx
    · subst e; exact htap
    · exact name_free (ht x hx)
  have fr : ∀ x ∈ rowsW n ++ [("" : Str)], 10 ∉ TL.tl x := fun x hx => by
    rcases List.mem_append.mp hx with hx | hx
    · unfold rowsW at hx
      rcases List.mem_cons.mp hx with e | hx
      · subst e; exact free_join (by rw [esp]; simp) _ fun z hz => (f0 z hz).nl
      · obtain ⟨p, hpm, rfl⟩ := List.mem_map.mp hx
        exact partS_free (h.parts p hpm) (hp p hpm)
    · rw [List.mem_singleton.mp hx]; decide
  unfold writeT
  rw [join_end _ (by unfold rowsW; simp)]
  exact TL.split_join (y := "\n") (s := 10) (S := []) enl (by decide +kernel) (by simp) fr
theorem lo_rows {n : Net} (h : n.dr) (k : n.ok = true) : ∀ x ∈ rowsW n ++ [("" : Str)], Lo 0x110000 x := fun x hx c hc => by
  rw [← split_write h k] at hx
  exact lo_write h c ((split_mem cut_line hx).2 c hc)
theorem run_near {T : Str} {st : DSt} {d : D} {s1 : FS} (h : den__law_an_near_text G__law_draw G__law_pick ⟨[.st, .fz (.str T), .un, .un, .un, .un, .un, .un], st⟩ = .ok (.rt d) s1) : G__law_an_near_text [.str T] st = some (d, s1.ds) := by
  show (match den__law_an_near_text G__law_draw G__law_pick ⟨[.st, .fz (.str T), .un, .un, .un, .un, .un, .un], st⟩ with
    | .ok (.rt d) s => some (d, s.ds)
    | .ok .nx s => some (.non, s.ds)
    | _ => none) = _
  rw [h]
/-- lines that are joined to a text that can be read -/
theorem end_near {M : List Str} {T : Str} {x2 x3 x4 x6 x7 : Sl} {st : DSt} (hl : (M.map (·.length)).sum + M.length ≤ 999) (hlo : ∀ x ∈ M, Lo 0x110000 x) :
    nS8 ⟨[.st, .fz (.str T), x2, x3, x4, .ow (M.map D.str), x6, x7], st⟩ = .ok (.rt (.str (Txt.join "\n" M))) ⟨[.st, .fz (.str T), x2, x3, x4, .fz (.lst (M.map D.str)), x6, x7], st⟩ ∧ TxtOk (Txt.join "\n" M) := by
  refine ⟨?_, ⟨?_, (lay_iff _).mpr (lo_join (lo_of_all (by decide +kernel)) M hlo)⟩⟩
  · unfold nS8
    have hj : dJoin (ret (.str "\n")) (dVar 5) ⟨[.st, .fz (.str T), x2, x3, x4, .ow (M.map D.str), x6, x7], st⟩ = .ok (.str (Txt.join "\n" M)) ⟨[.st, .fz (.str T), x2, x3, x4, .fz (.lst (M.map D.str)), x6, x7], st⟩ :=
      x_join_ok (l := M) rfl rfl (strsD_map _) (by rw [line_len]; omega)
    rw [x_fret, hj]
    rfl
  · have := join_len "\n" M
    rw [line_len] at this
    omega
theorem sum_app (f : Str → Nat) (a b : List Str) : ((a ++ b).map f).sum = (a.map f).sum + (b.map f).sum := by rw [List.map_append, List.sum_append]
theorem sum_take_drop (f : Str → Nat) (l : List Str) (i : Nat) : ((l.take i).map f).sum + ((l.drop i).map f).sum = (l.map f).sum := by rw [← sum_app, List.take_append_drop]
theorem sum_drop_le (f : Str → Nat) (l : List Str) (i : Nat) : ((l.drop i).map f).sum ≤ (l.map f).sum := by have := sum_take_drop f l i; omega
theorem sum_drop_succ (f : Str → Nat) (l : List Str) (i : Nat) : ((l.drop (i + 1)).map f).sum ≤ ((l.drop i).map f).sum := by
  have := sum_drop_le f (l.drop i) 1
  rwa [List.drop_drop] at this
def nearOk (st' : DSt) (n : Nat) (near : Str) : Prop := Gd n st' ∧ TxtOk near
theorem g_near {n : Nat} {st : DSt} (h : Gd (n + 8) st) {net : Net} (hd : net.dr) (hk : net.ok = true) : ∃ (near : Str) (st' : DSt), G__law_an_near_text [.str (writeT net)] st = some (.str near, st') ∧ Gd n st' ∧ TxtOk near := by
  have hTl := write_len hd
  have hT1 : 1 ≤ (writeT net).length := by unfold writeT; rw [app_len, line_len]; omega
  have hTlo := lo_write hd
  have hsp := split_write hd hk
  have hLlo := lo_rows hd hk
  have hLs : ((rowsW net ++ [("" : Str)]).map (·.length)).sum + (rowsW net ++ [("" : Str)]).length ≤ 872 := by
    have := rows_sum hd
    rw [line_len] at this
    simp only [List.map_append, List.map_cons, List.map_nil, List.sum_append, List.sum_cons, List.sum_nil, List.length_append, List.length_cons, List.length_nil]
    have : ("" : Str).length = 0 := by decide
    omega
  have hL1 : 1 ≤ (rowsW net ++ [("" : Str)]).length := by simp
  generalize writeT net = T at *
  generalize rowsW net ++ [("" : Str)] = L at *
  have hTs : T.length ≤ sizeLine := by have := sizeLine_big; omega
  obtain ⟨v, st1, e1, g1, p1, q1⟩ := g_draw (n := n + 7) h (room := 6) (by decide) (by decide)
  obtain ⟨sp', st2, e2, g2, p2, q2⟩ := g_draw (n := n + 6) g1 (room := (T.length : Nat)) (by omega) (log_len hTs (by omega))
  obtain ⟨sp, rfl⟩ : ∃ k : Nat, sp' = (k : Int) := ⟨sp'.toNat, by omega⟩
  have hlT := lenR_str hTs
  have h0 : nS0 ⟨[.st, .fz (.str T), .un, .un, .un, .un, .un, .un], st⟩ = .ok .nx ⟨[.st, .fz (.str T), .fz (.int v), .fz (.int (sp : Int)), .un, .un, .un, .un], st2⟩ := by
    simp [nS0, e1, hlT, e2]
  have cA := slR_str hTs none (some (sp : Int))
  have cAl := cut_to_len T sp
  have cAo := lo_cut_to hTlo sp
  by_cases hv : v < 2
  · obtain ⟨d, st3, e3, g3, hdm⟩ := g_pick (n := n + 5) g2 (l := signsL.map D.str) (by simp [signsL]) (by simp [signsL]; decide)
    obtain ⟨sg, hsg, rfl⟩ := List.mem_map.mp hdm
    obtain ⟨s1, s2⟩ := signs_ok sg hsg
    have cB := slR_str hTs (some ((sp : Int) + 1 - v)) none
    have ev : (sp : Int) + 1 - v = ((sp + 1 - v.toNat : Nat) : Int) := by omega
    have cBl : (cutS T (some ((sp : Int) + 1 - v)) none).length = T.length - (sp + 1 - v.toNat) := by rw [ev]; exact cut_from_len T _
    have cBo : Lo 0x110000 (cutS T (some ((sp : Int) + 1 - v)) none) := by rw [ev]; exact lo_cut_from hTlo _
    generalize cutS T (some ((sp : Int) + 1 - v)) none = B at *
    generalize cutS T none (some (sp : Int)) = A at *
    have z1 : A.length + sg.length ≤ sizeLine := by have := sizeLine_big; omega
    have z2 : (A ++ sg).length + B.length ≤ sizeLine := by have := sizeLine_big; rw [app_len]; omega
    have el : signsL.map D.str = [.str " ", .str "\n", .str "a", .str "1", .str "0", .str "/", .str "-", .str "Z", .str "9", .str "b", .str "_"] := rfl
    rw [el] at e3
    have z11 : (11 : Nat) ≤ sizeLine := by decide
    have h1 : nS1 ⟨[.st, .fz (.str T), .fz (.int v), .fz (.int (sp : Int)), .un, .un, .un, .un], st2⟩ = .ok (.rt (.str (A ++ sg ++ B))) ⟨[.st, .fz (.str T), .fz (.int v), .fz (.int (sp : Int)), .fz (.str sg), .un, .un, .un], st3⟩ := by
      simp [nS1, hv, z11, e3, cA, cB, z1, z2]
    refine ⟨A ++ sg ++ B, st3, ?_, g3.less (by omega), ⟨?_, (lay_iff _).mpr (lo_app (lo_app cAo s2) cBo)⟩⟩
    · have e : den__law_an_near_text G__law_draw G__law_pick ⟨[.st, .fz (.str T), .un, .un, .un, .un, .un, .un], st⟩ = .ok (.rt (.str (A ++ sg ++ B))) ⟨[.st, .fz (.str T), .fz (.int v), .fz (.int (sp : Int)), .fz (.str sg), .un, .un, .un], st3⟩ := by
        rw [near_eq, seq_nx h0]; exact seq_rt h1
      exact run_near e
    · rw [app_len, app_len]; omega
  · have h1 : nS1 ⟨[.st, .fz (.str T), .fz (.int v), .fz (.int (sp : Int)), .un, .un, .un, .un], st2⟩ = .ok .nx ⟨[.st, .fz (.str T), .fz (.int v), .fz (.int (sp : Int)), .un, .un, .un, .un], st2⟩ := by
      simp [nS1, hv]
    by_cases hv2 : v = 2
    · have cB := slR_str hTs (some ((sp : Int) + 1)) none
      have ev : (sp : Int) + 1 = ((sp + 1 : Nat) : Int) := by omega
      have cBl : (cutS T (some ((sp : Int) + 1)) none).length = T.length - (sp + 1) := by rw [ev]; exact cut_from_len T _
      have cBo : Lo 0x110000 (cutS T (some ((sp : Int) + 1)) none) := by rw [ev]; exact lo_cut_from hTlo _
      generalize cutS T (some ((sp : Int) + 1)) none = B at *
      generalize cutS T none (some (sp : Int)) = A at *
      have z1 : A.length + B.length ≤ sizeLine := by have := sizeLine_big; omega
      have h2 : nS2 ⟨[.st, .fz (.str T), .fz (.int v), .fz (.int (sp : Int)), .un, .un, .un, .un], st2⟩ = .ok (.rt (.str (A ++ B))) ⟨[.st, .fz (.str T), .fz (.int v), .fz (.int (sp : Int)), .un, .un, .un, .un], st2⟩ := by
        simp [nS2, hv2, cA, cB, z1]
      refine ⟨A ++ B, st2, ?_, g2.less (by omega), ⟨?_, (lay_iff _).mpr (lo_app cAo cBo)⟩⟩
      · have e : den__law_an_near_text G__law_draw G__law_pick ⟨[.st, .fz (.str T), .un, .un, .un, .un, .un, .un], st⟩ = .ok (.rt (.str (A ++ B))) ⟨[.st, .fz (.str T), .fz (.int v), .fz (.int (sp : Int)), .un, .un, .un, .un], st2⟩ := by
          rw [near_eq, seq_nx h0, seq_nx h1]; exact seq_rt h2
        exact run_near e
      · rw [app_len]; omega
    · have h2 : nS2 ⟨[.st, .fz (.str T), .fz (.int v), .fz (.int (sp : Int)), .un, .un, .un, .un], st2⟩ = .ok .nx ⟨[.st, .fz (.str T), .fz (.int v), .fz (.int (sp : Int)), .un, .un, .un, .un], st2⟩ := by
        simp [nS2, hv2]
      have h3 : nS3 ⟨[.st, .fz (.str T), .fz (.int v), .fz (.int (sp : Int)), .un, .un, .un, .un], st2⟩ = .ok .nx ⟨[.st, .fz (.str T), .fz (.int v), .fz (.int (sp : Int)), .un, .ow (L.map D.str), .un, .un], st2⟩ := by
        have hs : dSplit (dVar 1) (ret (.str "\n")) ⟨[.st, .fz (.str T), .fz (.int v), .fz (.int (sp : Int)), .un, .un, .un, .un], st2⟩ = .ok (L.map D.str) ⟨[.st, .fz (.str T), .fz (.int v), .fz (.int (sp : Int)), .un, .un, .un, .un], st2⟩ := by
          rw [← hsp]; exact x_split_ok (by simp) rfl cut_line (by omega)
        simp [nS3, hs]
      obtain ⟨i', st3, e3, g3, p3, q3⟩ := g_draw (n := n + 5) g2 (room := (L.length : Nat)) (by omega) (log_len (by have := sizeLine_big; omega) (by omega))
      obtain ⟨i, rfl⟩ : ∃ k : Nat, i' = (k : Int) := ⟨i'.toNat, by omega⟩
      obtain ⟨k', st4, e4, g4, p4, q4⟩ := g_draw (n := n + 4) g3 (room := (L.length : Nat)) (by omega) (log_len (by have := sizeLine_big; omega) (by omega))
      obtain ⟨k, rfl⟩ : ∃ k : Nat, k' = (k : Int) := ⟨k'.toNat, by omega⟩
      have hi : i < L.length := by omega
      have hkk : k < L.length := by omega
      have h4 : nS4 ⟨[.st, .fz (.str T), .fz (.int v), .fz (.int (sp : Int)), .un, .ow (L.map D.str), .un, .un], st2⟩ = .ok .nx ⟨[.st, .fz (.str T), .fz (.int v), .fz (.int (i : Int)), .un, .ow (L.map D.str), .fz (.int (k : Int)), .un], st4⟩ := by
        simp [nS4, flatD, e3, e4]
      have hv345 : v = 3 ∨ v = 4 ∨ v = 5 := by omega
      rcases hv345 with rfl | rfl | rfl
      · -- two lines exchanged
        have h5 : nS5 ⟨[.st, .fz (.str T), .fz (.int 3), .fz (.int (i : Int)), .un, .ow (L.map D.str), .fz (.int (k : Int)), .un], st4⟩ = .ok .nx ⟨[.st, .fz (.str T), .fz (.int 3), .fz (.int (i : Int)), .un, .ow (((L.set i L[k]).set k L[i]).map D.str), .fz (.int (k : Int)), .un], st4⟩ := by
          have hst := x_store2 (i := 5) (fj := dVar 3) (fk := dVar 6) (f := dCons (dOwnIx 5 (dVar 6)) (dCons (dOwnIx 5 (dVar 3)) (ret []))) (s := ⟨[.st, .fz (.str T), .fz (.int 3), .fz (.int (i : Int)), .un, .ow (L.map D.str), .fz (.int (k : Int)), .un], st4⟩)
            (s1 := ⟨[.st, .fz (.str T), .fz (.int 3), .fz (.int (i : Int)), .un, .ow (L.map D.str), .fz (.int (k : Int)), .un], st4⟩) (s2 := ⟨[.st, .fz (.str T), .fz (.int 3), .fz (.int (i : Int)), .un, .ow ((L.map D.str).set i (.str L[k])), .fz (.int (k : Int)), .un], st4⟩)
            (s3 := ⟨[.st, .fz (.str T), .fz (.int 3), .fz (.int (i : Int)), .un, .ow (((L.map D.str).set i (.str L[k])).set k (.str L[i])), .fz (.int (k : Int)), .un], st4⟩) (x := .str L[k]) (y := .str L[i]) (l := L.map D.str) (j := i) (k := k)
            (by simp [hi, hkk]) rfl rfl (by simpa using hi) rfl rfl rfl (by simpa using hkk) rfl
          have e5 : ((L.map D.str).set i (.str L[k])).set k (.str L[i]) = ((L.set i L[k]).set k L[i]).map D.str := by rw [List.map_set, List.map_set]
          rw [e5] at hst
          unfold nS5
          rw [x_fif]
          simp only [x_test, x_op, x_var_0, x_ret]
          simp [hst]
        have h6 : nS6 ⟨[.st, .fz (.str T), .fz (.int 3), .fz (.int (i : Int)), .un, .ow (((L.set i L[k]).set k L[i]).map D.str), .fz (.int (k : Int)), .un], st4⟩ = .ok .nx ⟨[.st, .fz (.str T), .fz (.int 3), .fz (.int (i : Int)), .un, .ow (((L.set i L[k]).set k L[i]).map D.str), .fz (.int (k : Int)), .un], st4⟩ := by simp [nS6]
        have h7 : nS7 ⟨[.st, .fz (.str T), .fz (.int 3), .fz (.int (i : Int)), .un, .ow (((L.set i L[k]).set k L[i]).map D.str), .fz (.int (k : Int)), .un], st4⟩ = .ok .nx ⟨[.st, .fz (.str T), .fz (.int 3), .fz (.int (i : Int)), .un, .ow (((L.set i L[k]).set k L[i]).map D.str), .fz (.int (k : Int)), .un], st4⟩ := by simp [nS7]
        have hk1 : k < (L.set i L[k]).length := by simpa using hkk
        have hsum1 := sum_set (·.length) L i L[k] hi
        have hsum2 := sum_set (·.length) (L.set i L[k]) k L[i] hk1
        have hgk : (L.set i L[k])[k] = L[k] := by
          rw [List.getElem_set]
          split <;> rfl
        rw [hgk] at hsum2
        have hll : ((L.set i L[k]).set k L[i]).length = L.length := by simp
        obtain ⟨h8, htx⟩ := end_near (M := (L.set i L[k]).set k L[i]) (T := T) (x2 := .fz (.int 3)) (x3 := .fz (.int (i : Int))) (x4 := .un) (x6 := .fz (.int (k : Int))) (x7 := .un) (st := st4) (by rw [hll]; omega) (fun x hx => by
          rcases List.mem_or_eq_of_mem_set hx with q | q
          · rcases List.mem_or_eq_of_mem_set q with q | q
            · exact hLlo x q
            · rw [q]; exact hLlo _ (List.getElem_mem _)
          · rw [q]; exact hLlo _ (List.getElem_mem _))
        exact ⟨_, st4, run_near ((near_steps h0 h1 h2 h3 h4 h5 h6 h7).trans h8), g4.less (by omega), htx⟩
      · -- a line more
        have h5 : nS5 ⟨[.st, .fz (.str T), .fz (.int 4), .fz (.int (i : Int)), .un, .ow (L.map D.str), .fz (.int (k : Int)), .un], st4⟩ = .ok .nx ⟨[.st, .fz (.str T), .fz (.int 4), .fz (.int (i : Int)), .un, .ow (L.map D.str), .fz (.int (k : Int)), .un], st4⟩ := by simp [nS5]
        obtain ⟨d, st5, e5, g5, hdm⟩ := g_pick (n := n + 3) g4 (l := (oddsA ++ oddsB ++ oddsC).map D.str) (by simp [oddsA]) (by simp [oddsA, oddsB, oddsC]; decide)
        obtain ⟨t, ht, rfl⟩ := List.mem_map.mp hdm
        obtain ⟨t1, t2⟩ := odds_ok t ht
        have h6 : ∃ x7, nS6 ⟨[.st, .fz (.str T), .fz (.int 4), .fz (.int (i : Int)), .un, .ow (L.map D.str), .fz (.int (k : Int)), .un], st4⟩ = .ok .nx ⟨[.st, .fz (.str T), .fz (.int 4), .fz (.int (i : Int)), .un, .ow ((L.take i ++ t :: L.drop i).map D.str), .fz (.int (k : Int)), x7], st5⟩ := by
          have a1 : addR (.str "pipe a b 1") (.str "000000000000000000000000000000") = some (.str "pipe a b 1000000000000000000000000000000") := add_of (by decide +kernel) (by decide +kernel)
          have a2 : addR (.str "pipe a b 1") (.str "00000000000000000000000000000") = some (.str "pipe a b 100000000000000000000000000000") := add_of (by decide +kernel) (by decide +kernel)
          have a3 : addR (.str "pipe a b 1/") (.str "1111111111111111111111111111111") = some (.str "pipe a b 1/1111111111111111111111111111111") := add_of (by decide +kernel) (by decide +kernel)
          have a4 : addR (.str "pipe a b 1/") (.str "111111111111111111111111111111") = some (.str "pipe a b 1/111111111111111111111111111111") := add_of (by decide +kernel) (by decide +kernel)
          have a5 : addR (.str "pipe a b ") (.str "1111111111111111111111111111111") = some (.str "pipe a b 1111111111111111111111111111111") := add_of (by decide +kernel) (by decide +kernel)
          have a6 : addR (.str "pipe a b 1111111111111111111111111111111") (.str "/2") = some (.str "pipe a b 1111111111111111111111111111111/2") := add_of (by decide +kernel) (by decide +kernel)
          have a7 : addR (.str "pipe a b ") (.str "111111111111111111111111111111") = some (.str "pipe a b 111111111111111111111111111111") := add_of (by decide +kernel) (by decide +kernel)
          have a8 : addR (.str "pipe a b 111111111111111111111111111111") (.str "/2") = some (.str "pipe a b 111111111111111111111111111111/2") := add_of (by decide +kernel) (by decide +kernel)
          have z8 : (8 : Nat) ≤ sizeLine := by decide
          have z7 : (7 : Nat) ≤ sizeLine := by decide
          have z15 : (15 : Nat) ≤ sizeLine := by decide
          have z19 : (19 : Nat) ≤ sizeLine := by decide
          have z1 : min i L.length + 1 ≤ sizeLine := by have := sizeLine_big; omega
          have z2 : min i L.length + 1 + (L.length - i) ≤ sizeLine := by have := sizeLine_big; omega
          have eo : (oddsA ++ oddsB ++ oddsC).map D.str = [.str "", .str "pipe a b", .str "lead b a 1", .str "hub a b 1", .str "hub a 1", .str "pipe a b 2/4", .str "pipe a b 01", .str "pipe a b 1000000000000000000000000000000", .str "pipe a b 100000000000000000000000000000", .str "lead a a 1", .str "pipe a b 3/1", .str "taps a b", .str "pipe a b  1", .str "hub a b c 0", .str "pipe b a 1", .str "pipe a b 1/1111111111111111111111111111111", .str "pipe a b 1/111111111111111111111111111111", .str "pipe a b 1111111111111111111111111111111/2", .str "pipe a b 111111111111111111111111111111/2"] := rfl
          rw [eo] at e5
          refine ⟨.fz (.lst ((oddsA ++ oddsB ++ oddsC).map D.str)), ?_⟩
          rw [eo]
          simp [nS6, -addR_str, rep30, rep29, rep1_31, rep1_30, a1, a2, a3, a4, a5, a6, a7, a8, z8, z7, z15, z19, size4, size1, e5, z1, z2]
        obtain ⟨x7, h6⟩ := h6
        have h7 : nS7 ⟨[.st, .fz (.str T), .fz (.int 4), .fz (.int (i : Int)), .un, .ow ((L.take i ++ t :: L.drop i).map D.str), .fz (.int (k : Int)), x7], st5⟩ = .ok .nx ⟨[.st, .fz (.str T), .fz (.int 4), .fz (.int (i : Int)), .un, .ow ((L.take i ++ t :: L.drop i).map D.str), .fz (.int (k : Int)), x7], st5⟩ := by simp [nS7]
        have hsum := sum_take_drop (·.length) L i
        have hlt : (L.take i).length + (L.drop i).length = L.length := by rw [← List.length_append, List.take_append_drop]
        obtain ⟨h8, htx⟩ := end_near (M := L.take i ++ t :: L.drop i) (T := T) (x2 := .fz (.int 4)) (x3 := .fz (.int (i : Int))) (x4 := .un) (x6 := .fz (.int (k : Int))) (x7 := x7) (st := st5) (by
          rw [sum_app, List.map_cons, List.sum_cons, List.length_append, List.length_cons]; omega) (fun x hx => by
          rcases List.mem_append.mp hx with q | q
          · exact hLlo x (List.mem_of_mem_take q)
          · rcases List.mem_cons.mp q with q | q
            · rw [q]; exact t2
            · exact hLlo x (List.mem_of_mem_drop q))
        exact ⟨_, st5, run_near ((near_steps h0 h1 h2 h3 h4 h5 h6 h7).trans h8), g5.less (by omega), htx⟩
      · -- a line less
        have h5 : nS5 ⟨[.st, .fz (.str T), .fz (.int 5), .fz (.int (i : Int)), .un, .ow (L.map D.str), .fz (.int (k : Int)), .un], st4⟩ = .ok .nx ⟨[.st, .fz (.str T), .fz (.int 5), .fz (.int (i : Int)), .un, .ow (L.map D.str), .fz (.int (k : Int)), .un], st4⟩ := by simp [nS5]
        have h6 : nS6 ⟨[.st, .fz (.str T), .fz (.int 5), .fz (.int (i : Int)), .un, .ow (L.map D.str), .fz (.int (k : Int)), .un], st4⟩ = .ok .nx ⟨[.st, .fz (.str T), .fz (.int 5), .fz (.int (i : Int)), .un, .ow (L.map D.str), .fz (.int (k : Int)), .un], st4⟩ := by simp [nS6]
        have c1 : cutD (L.map D.str) (some ((i : Int) + 1)) none = (L.map D.str).drop (i + 1) := by
          rw [show (i : Int) + 1 = ((i + 1 : Nat) : Int) by omega]; exact cut_from _ _
        have z1 : min i L.length + (L.length - (i + 1)) ≤ sizeLine := by have := sizeLine_big; omega
        have h7 : nS7 ⟨[.st, .fz (.str T), .fz (.int 5), .fz (.int (i : Int)), .un, .ow (L.map D.str), .fz (.int (k : Int)), .un], st4⟩ = .ok .nx ⟨[.st, .fz (.str T), .fz (.int 5), .fz (.int (i : Int)), .un, .ow ((L.take i ++ L.drop (i + 1)).map D.str), .fz (.int (k : Int)), .un], st4⟩ := by
          simp [nS7, c1, z1]
        have hsum := sum_take_drop (·.length) L i
        have hsum2 := sum_drop_succ (·.length) L i
        have hlt : (L.take i).length + (L.drop (i + 1)).length ≤ L.length := by rw [List.length_take, List.length_drop]; omega
        obtain ⟨h8, htx⟩ := end_near (M := L.take i ++ L.drop (i + 1)) (T := T) (x2 := .fz (.int 5)) (x3 := .fz (.int (i : Int))) (x4 := .un) (x6 := .fz (.int (k : Int))) (x7 := .un) (st := st4) (by
          rw [sum_app, List.length_append]; omega) (fun x hx => by
          rcases List.mem_append.mp hx with q | q
          · exact hLlo x (List.mem_of_mem_take q)
          · exact hLlo x (List.mem_of_mem_drop q))
        exact ⟨_, st4, run_near ((near_steps h0 h1 h2 h3 h4 h5 h6 h7).trans h8), g4.less (by omega), htx⟩
end K12
end S_E28
section S_E29
set_option Elab.async false
set_option linter.all false
set_option autoImplicit false
set_option maxRecDepth 100000
set_option maxHeartbeats 4000000
/-! E29: what the law asks holds. -/
namespace K12
open PySem PySem.Spec PyProof.Rows L2 DL
section
variable {s : FS}
@[simp] theorem x_caught (F : XF) (ns : List Str) (fa : M (List D)) : dCaught F ns fa s = (fa s).bd fun l s1 => (match F l with
    | some (.ok _) => .ok .non s1
    | some (.ex d) => if okX ns d = true then .ok d s1 else .stuck
    | none => .stuck) := by
  unfold dCaught; rw [x_bind]; congr; funext l s1
  cases F l with
  | none => rfl
  | some z =>
    cases z with
    | ok d => rfl
    | ex d =>
      show (if okX ns d = true then ret d else stk : M D) s1 = if okX ns d = true then .ok d s1 else .stuck
      by_cases h : okX ns d = true
      · rw [if_pos h, if_pos h]; rfl
      · rw [if_neg h, if_neg h]; rfl
@[simp] theorem x_isT (ns : List Str) (f : M D) : dIsT ns f s = (f s).bd fun d s1 => (match d with
    | .xc n _ => if n ∈ ns then .ok (.bl true) s1 else .stuck
    | _ => .stuck) := by
  unfold dIsT; rw [x_bind]; congr; funext d s1
  cases d <;> try rfl
  rename_i n l
  show (if n ∈ ns then ret (D.bl true) else stk : M D) s1 = if n ∈ ns then .ok (.bl true) s1 else .stuck
  by_cases h : n ∈ ns
  · rw [if_pos h, if_pos h]; rfl
  · rw [if_neg h, if_neg h]; rfl
theorem rdX_ok {n f : Str} {g : M D} {v : D} {s1 : FS} (h : g s = .ok (.xc n [(f, v)]) s1) : dRdX n f g s = .ok v s1 := by
  unfold dRdX; rw [x_bind, h, bd_ok]
  show (if n = n ∧ f = f then ret v else stk : M D) s1 = _
  rw [if_pos ⟨rfl, rfl⟩]; rfl
end
theorem neR_self {d : D} (h : d.ok = true) (hs : isS d = none) (hi : isI d = none) : neR d d = some (.bl false) := by
  have hl : d.pd.canLay0 = true := by
    rw [ok_iff, Bool.and_eq_true] at h
    exact h.1
  have e := PySem.SeqAt.eqv_refl d.pd hl
  cases d with
  | str _ => cases hs
  | int _ => cases hi
  | bl b => simp [neR, eqD]
  | non => rfl
  | _ =>
    unfold neR eqD
    simp only [h, Bool.and_self, if_true, Option.map_some, e]
    rfl
theorem lay_list {l : List Str} (h : ∀ x ∈ l, okS x = true) : (l.map D.str).all D.lay = true := List.all_eq_true.mpr fun d hd => by
  obtain ⟨x, hx, rfl⟩ := List.mem_map.mp hd
  exact okS_lay (h x hx)
theorem dep_strs (l : List Str) : ∀ d ∈ l.map D.str, d.dep ≤ 0 := fun d hd => by
  obtain ⟨x, hx, rfl⟩ := List.mem_map.mp hd
  exact Nat.le_refl _
theorem num_lay (w : Num) : w.d.lay = true ∧ w.d.dep ≤ 1 := by
  cases w with
  | int i => exact ⟨rfl, by show (0 : Nat) ≤ 1; omega⟩
  | fr a b =>
    refine ⟨by show (D.tup [.int a, .int b]).lay = true; rw [lay_tup]; rfl, dep_tup_le (l := [.int a, .int b]) (n := 0) fun d hd => ?_⟩
    rcases List.mem_cons.mp hd with e | hd
    · subst e; exact Nat.le_refl _
    · rw [List.mem_singleton.mp hd]; exact Nat.le_refl _
theorem part_lay {p : Part} (h : p.shape) : p.d.lay = true ∧ p.d.dep ≤ 2 := by
  cases p with
  | pl k r w =>
    obtain ⟨n1, n2⟩ := num_lay w
    refine ⟨?_, dep_tup_le (n := 1) fun d hd => ?_⟩
    · show (D.tup (.str k :: (r.map D.str ++ [w.d]))).lay = true
      rw [lay_tup, List.all_cons, List.all_append, lay_list h.2.2.1, okS_lay h.2.1]
      simp [n1]
    · rcases List.mem_cons.mp hd with e | hd
      · subst e; show (0 : Nat) ≤ 1; omega
      · rcases List.mem_append.mp hd with hd | hd
        · have := dep_strs r d hd; omega
        · rw [List.mem_singleton.mp hd]; exact n2
  | hub es w =>
    obtain ⟨n1, n2⟩ := num_lay w
    refine ⟨?_, dep_tup_le (n := 1) fun d hd => ?_⟩
    · show (D.tup [.str "hub", .tup (es.map D.str), w.d]).lay = true
      have h1 : (D.tup (es.map D.str)).lay = true := by rw [lay_tup]; exact lay_list h.1
      have h2 : (D.str "hub").lay = true := by decide +kernel
      rw [lay_tup]
      simp [h1, h2, n1]
    · rcases List.mem_cons.mp hd with e | hd
      · subst e; show (0 : Nat) ≤ 1; omega
      · rcases List.mem_cons.mp hd with e | hd
        · subst e; exact dep_tup_le (n := 0) (dep_strs es)
        · rw [List.mem_singleton.mp hd]; exact n2
theorem net_okD {n : Net} (h1 : ∀ x ∈ n.taps, okS x = true) (h2 : ∀ p ∈ n.parts, p.shape) : n.d.ok = true := by
  have a1 : (D.tup (n.taps.map D.str)).lay = true := by rw [lay_tup]; exact lay_list h1
  have a2 : (D.tup (n.parts.map Part.d)).lay = true := by
    rw [lay_tup]
    exact List.all_eq_true.mpr fun d hd => by
      obtain ⟨p, hp, rfl⟩ := List.mem_map.mp hd
      exact (part_lay (h2 p hp)).1
  have b1 : (D.tup (n.taps.map D.str)).dep ≤ 1 := dep_tup_le (n := 0) (dep_strs n.taps)
  have b2 : (D.tup (n.parts.map Part.d)).dep ≤ 3 := dep_tup_le (n := 2) fun d hd => by
    obtain ⟨p, hp, rfl⟩ := List.mem_map.mp hd
    exact (part_lay (h2 p hp)).2
  have b3 : n.d.dep ≤ 4 := dep_tup_le (l := [.tup (n.taps.map D.str), .tup (n.parts.map Part.d)]) (n := 3) fun d hd => by
    rcases List.mem_cons.mp hd with e | hd
    · subst e; omega
    · rw [List.mem_singleton.mp hd]; exact b2
  have a3 : n.d.lay = true := by
    show (D.tup [.tup (n.taps.map D.str), .tup (n.parts.map Part.d)]).lay = true
    rw [lay_tup]
    simp [a1, a2]
  rw [ok_iff, a3, decide_eq_true (by omega)]; rfl
theorem go_shape (taps : List Str) : ∀ (rows : List Str) (i : Nat) (ps qs : List Part), (∀ r ∈ rows, TxtOk r) → (∀ p ∈ ps, p.shape) → goT taps rows i ps = .inr qs → ∀ p ∈ qs, p.shape
  | [], i, ps, qs, _, hp, h => by
    have e : (Sum.inr ps : Nat ⊕ List Part) = .inr qs := h
    cases e; exact hp
  | r :: rest, i, ps, qs, hr, hp, h => by
    have h' : (match partT r with
      | none => (Sum.inl i : Nat ⊕ List Part)
      | some p => if (Net.mk taps (ps ++ [p])).ok = true then goT taps rest (i + 1) (ps ++ [p]) else Sum.inl i) = .inr qs := h
    cases e : partT r with
    | none => rw [e] at h'; cases h'
    | some p =>
      rw [e] at h'
      dsimp only at h'
      split at h'
      · refine go_shape taps rest (i + 1) (ps ++ [p]) qs (fun q hq => hr q (List.mem_cons_of_mem _ hq)) (fun q hq => ?_) h'
        rcases List.mem_append.mp hq with q1 | q1
        · exact hp _ q1
        · rw [List.mem_singleton.mp q1]; exact part_shape (hr r List.mem_cons_self) e
      · cases h'
theorem read_okD {x : Str} (h : TxtOk x) {n : Net} (e : readT x = .inr n) : n.d.ok = true := by
  unfold readT readW at e
  have hall : ∀ p ∈ Txt.split x "\n", TxtOk p := fun p hp => h.part cut_line hp
  have hne := split_ne (x := x) cut_line
  generalize Txt.split x "\n" = rows at *
  obtain ⟨r, t, rfl⟩ := words_of hne
  have hr := hall r List.mem_cons_self
  have hw : ∀ p ∈ Txt.split r " ", TxtOk p := fun p hp => hr.part cut_space hp
  simp only [List.headD_cons, List.drop_succ_cons, List.drop_zero] at e
  split at e
  · cases e
  · split at e
    · cases e
    · rename_i ps hg
      split at e
      · have e2 := Sum.inr.inj e
        subst e2
        exact net_okD (fun y hy => (hw y (List.mem_of_mem_drop hy)).ok) (go_shape _ _ _ _ _ (fun q hq => hall q (List.mem_cons_of_mem _ (List.dropLast_subset _ hq))) (by simp) hg)
      · cases e
theorem net_isS (n : Net) : isS n.d = none := rfl
theorem net_isI (n : Net) : isI n.d = none := rfl
/-! ### what is no net's text -/
theorem read_odd {x : Str} (h : (decide ((Txt.split x "\n").length = 1) || !decide ((Txt.split ((Txt.split x "\n").headD Str.empty) " ").headD Str.empty = "taps") || !tapsB ((Txt.split ((Txt.split x "\n").headD Str.empty) " ").drop 1)) = true) : readT x = .inl 1 := by
  unfold readT readW
  rw [if_pos h]
theorem odd_txt {x : Str} (h : TxtOk x) (k : readT x = .inl 1) : G_read_net [.str x] = some (.ex (badTx 1)) := by
  rw [g_read_net h, k]
theorem txt_by {x : Str} (h : (decide (x.length ≤ 999) && (TL.tl x).all fun c => decide (c < 0x110000)) = true) : TxtOk x := by
  simp only [Bool.and_eq_true, decide_eq_true_eq] at h
  exact ⟨h.1, (lay_iff x).mpr (lo_of_all h.2)⟩
def oddsD (told : Str) (net : D) : List D := [.str "", .non, .int 5, .bl true, .lst [.str told], .tup [.str told], .str "\n", .str "taps a", .str "taps a b", net]
theorem odds_read (told : Str) (n : Net) : ∀ d ∈ oddsD told n.d, G_read_net [d] = some (.ex (badTx 1)) := by
  intro d hd
  simp only [oddsD, List.mem_cons, List.not_mem_nil, or_false] at hd
  rcases hd with rfl | rfl | rfl | rfl | rfl | rfl | rfl | rfl | rfl | rfl
  · exact odd_txt (txt_by (by decide +kernel)) (read_odd (by decide +kernel))
  · exact g_read_net_no rfl
  · exact g_read_net_no rfl
  · exact g_read_net_no rfl
  · exact g_read_net_no rfl
  · exact g_read_net_no rfl
  · exact odd_txt (txt_by (by decide +kernel)) (read_odd (by decide +kernel))
  · exact odd_txt (txt_by (by decide +kernel)) (read_odd (by decide +kernel))
  · exact odd_txt (txt_by (by decide +kernel)) (read_odd (by decide +kernel))
  · exact g_read_net_no rfl
end K12
end S_E29
section S_E30
set_option Elab.async false
set_option linter.all false
set_option autoImplicit false
set_option maxRecDepth 100000
set_option maxHeartbeats 4000000
/-! E30: what the law asks holds, lap by lap. -/
namespace K12
open PySem PySem.Spec PyProof.Rows L2 DL
def lI0 : M Fl := (fSet 7 (dSCall G__law_an_near_text (dStArg 1 (dCons (dVar 4) (ret [])))))
def lI1 : M Fl := (fSet 8 (dCall G__law_an_read (dCons (dVar 7) (ret []))))
def lI2 : M Fl := (fSet 9 (dCaught G_read_net ["BadText"] (dCons (dVar 7) (ret []))))
def lI3 : M Fl := (fIf (dAnd (dTest (dIsi "int" (dVar 8))) (dOr (dNot (dTest (dIsT ["BadText"] (dVar 9)))) (dTest (dOp neR (dRdX "BadText" "line" (dVar 9)) (dVar 8))))) (fRet (ret (.bl false))) (ret .nx))
def lI4 : M Fl := (fIf (dAnd (dNot (dTest (dIsi "int" (dVar 8)))) (dOr (dTest (dOp notNR (dVar 9) (ret .non))) (dTest (dOp neR (dXCall G_read_net (dCons (dVar 7) (ret []))) (dVar 8))))) (fRet (ret (.bl false))) (ret .nx))
def lB0 : M Fl := (fSet 3 (dSCall G__law_an_drawn (dStArg 1 (dCons (ret (.int 2)) (dCons (ret (.int 6)) (ret []))))))
def lB1 : M Fl := (fSet 4 (dCall G__law_an_written (dCons (dVar 3) (ret []))))
def lB2 : M Fl := (fIf (dOr (dTest (dOp neR (dXCall G_net_text (dCons (dVar 3) (ret []))) (dVar 4))) (dOr (dTest (dOp neR (dXCall G_net_text (dCons (dVar 3) (ret []))) (dVar 4))) (dTest (dOp neR (dXCall G_read_net (dCons (dVar 4) (ret []))) (dVar 3))))) (fRet (ret (.bl false))) (ret .nx))
def lB3 : M Fl := (fSet 5 (dTup (dCons (dOp ixR (dVar 3) (ret (.int 0))) (dCons (dTup (ret [])) (ret [])))))
def lB4 : M Fl := (fIf (dOr (dTest (dOp neR (dXCall G_net_text (dCons (dVar 5) (ret []))) (dCall G__law_an_written (dCons (dVar 5) (ret []))))) (dTest (dOp neR (dXCall G_read_net (dCons (dCall G__law_an_written (dCons (dVar 5) (ret []))) (ret []))) (dVar 5)))) (fRet (ret (.bl false))) (ret .nx))
def lB6 : M Fl := (fSet 10 (dSCall G__law_pick (dStArg 1 (dCons (dFrz (dLst (dCons (ret (.str "")) (dCons (ret .non) (dCons (ret (.int 5)) (dCons (ret (.bl true)) (dCons (dFrz (dLst (dCons (dVar 4) (ret [])))) (dCons (dTup (dCons (dVar 4) (ret []))) (dCons (ret (.str "\n")) (dCons (ret (.str "taps a")) (dCons (ret (.str "taps a b")) (dCons (dVar 3) (ret []))))))))))))) (ret [])))))
def lB7 : M Fl := (fSet 9 (dCaught G_read_net ["BadText"] (dCons (dVar 10) (ret []))))
def lB8 : M Fl := (fIf (dOr (dNot (dTest (dIsT ["BadText"] (dVar 9)))) (dOr (dTest (dOp neR (dRdX "BadText" "line" (dVar 9)) (ret (.int 1)))) (dNot (dTest (dIsT ["BadText"] (dVar 9)))))) (fRet (ret (.bl false))) (ret .nx))
def lB9 : M Fl := (fIf (dNot (dTest (dIsT ["BadNet"] (dCaught G_net_text ["BadNet"] (dCons (dVar 4) (ret [])))))) (fRet (ret (.bl false))) (ret .nx))
def lIn : M Fl := (fSeq lI0 (fSeq lI1 (fSeq lI2 (fSeq lI3 lI4))))
def lB5 : M Fl := (fFor (dRng1 (dCons (ret (.int 3)) (ret []))) (tgName 6) lIn)
def lBody : M Fl := (fSeq lB0 (fSeq lB1 (fSeq lB2 (fSeq lB3 (fSeq lB4 (fSeq lB5 (fSeq lB6 (fSeq lB7 (fSeq lB8 lB9)))))))))
theorem lawr_eq : den_lawr G__law_an_drawn G__law_an_written G_net_text G_read_net G__law_an_near_text G__law_an_read G__law_pick = fSeq (fFor (dRng1 (dCons (ret (.int 2)) (ret []))) (tgName 2) lBody) (fRet (ret (.bl true))) := rfl
abbrev St (x2 x3 x4 x5 x6 x7 x8 x9 x10 : Sl) (st : DSt) : FS := ⟨[.un, .st, x2, x3, x4, x5, x6, x7, x8, x9, x10], st⟩
theorem forQ {τ : Type} {g : TgF} {b : M Fl} (inj : τ → D) (Q : Nat → FS → Prop) : ∀ (l : List τ) (s : FS), Q l.length s →
    (∀ n s, ∀ t ∈ l, Q (n + 1) s → ∃ s1 s2, g (inj t) s = some s1 ∧ b s1 = .ok .nx s2 ∧ Q n s2) → ∃ s', forD g b (l.map inj) s = .ok .nx s' ∧ Q 0 s'
  | [], s, h0, _ => ⟨s, rfl, h0⟩
  | t :: l, s, h0, h => by
    obtain ⟨s1, s2, h1, h2, h3⟩ := h l.length s t List.mem_cons_self h0
    show ∃ s', forD g b (inj t :: l.map inj) s = _ ∧ _
    rw [for_nx h1 h2]
    exact forQ inj Q l s2 h3 fun n s e he => h n s e (List.mem_cons_of_mem _ he)
theorem lin_steps {s0 s1 s2 s3 s4 s5 : FS} (h0 : lI0 s0 = .ok .nx s1) (h1 : lI1 s1 = .ok .nx s2) (h2 : lI2 s2 = .ok .nx s3) (h3 : lI3 s3 = .ok .nx s4) (h4 : lI4 s4 = .ok .nx s5) : lIn s0 = .ok .nx s5 := by
  unfold lIn
  rw [seq_nx h0, seq_nx h1, seq_nx h2, seq_nx h3, h4]
theorem body_steps {s0 s1 s2 s3 s4 s5 s6 s7 s8 s9 s10 : FS} (h0 : lB0 s0 = .ok .nx s1) (h1 : lB1 s1 = .ok .nx s2) (h2 : lB2 s2 = .ok .nx s3) (h3 : lB3 s3 = .ok .nx s4) (h4 : lB4 s4 = .ok .nx s5) (h5 : lB5 s5 = .ok .nx s6) (h6 : lB6 s6 = .ok .nx s7) (h7 : lB7 s7 = .ok .nx s8) (h8 : lB8 s8 = .ok .nx s9) (h9 : lB9 s9 = .ok .nx s10) : lBody s0 = .ok .nx s10 := by
  unfold lBody
  rw [seq_nx h0, seq_nx h1, seq_nx h2, seq_nx h3, seq_nx h4, seq_nx h5, seq_nx h6, seq_nx h7, seq_nx h8, h9]
theorem net_text_str (x : Str) : G_net_text [.str x] = some (.ex (.xc "BadNet" [])) := by
  simp [G_net_text, wrapX, runX, entry, den_net_text, g_need_net_str]
theorem okX_bad (n : Nat) : okX ["BadText"] (badTx n) = true := by
  show (decide (("BadText" : Str) ∈ (["BadText"] : List Str)) && decide ([(("line" : Str), D.int (n : Nat))].length ≤ 1)) = true
  simp
theorem okX_net : okX ["BadNet"] (.xc "BadNet" []) = true := by
  show (decide (("BadNet" : Str) ∈ (["BadNet"] : List Str)) && decide (([] : List (Str × D)).length ≤ 1)) = true
  simp
theorem l_inner {n : Nat} {st : DSt} {net : Net} (hd : net.dr) (hk : net.ok = true) (h : Gd (n + 8) st) (x2 x5 x6 x7 x8 x9 x10 : Sl) :
    ∃ x7' x8' x9' st', lIn (St x2 (.fz net.d) (.fz (.str (writeT net))) x5 x6 x7 x8 x9 x10 st) = .ok .nx (St x2 (.fz net.d) (.fz (.str (writeT net))) x5 x6 x7' x8' x9' x10 st') ∧ Gd n st' := by
  obtain ⟨near, st1, e1, g1, ht⟩ := g_near h hd hk
  have r1 := g_an_read ht
  have r2 := g_read_net ht
  have h0 : lI0 (St x2 (.fz net.d) (.fz (.str (writeT net))) x5 x6 x7 x8 x9 x10 st) = .ok .nx (St x2 (.fz net.d) (.fz (.str (writeT net))) x5 x6 (.fz (.str near)) x8 x9 x10 st1) := by
    simp [lI0, e1]
  cases hr : readT near with
  | inl k =>
    rw [hr] at r1 r2
    dsimp only at r1 r2
    have ok := okX_bad k
    have h1 : lI1 (St x2 (.fz net.d) (.fz (.str (writeT net))) x5 x6 (.fz (.str near)) x8 x9 x10 st1) = .ok .nx (St x2 (.fz net.d) (.fz (.str (writeT net))) x5 x6 (.fz (.str near)) (.fz (.int (k : Nat))) x9 x10 st1) := by
      simp [lI1, r1]
    have h2 : lI2 (St x2 (.fz net.d) (.fz (.str (writeT net))) x5 x6 (.fz (.str near)) (.fz (.int (k : Nat))) x9 x10 st1) = .ok .nx (St x2 (.fz net.d) (.fz (.str (writeT net))) x5 x6 (.fz (.str near)) (.fz (.int (k : Nat))) (.fz (badTx k)) x10 st1) := by
      simp [lI2, r2, ok]
    have hrd : dRdX "BadText" "line" (dVar 9) (St x2 (.fz net.d) (.fz (.str (writeT net))) x5 x6 (.fz (.str near)) (.fz (.int (k : Nat))) (.fz (badTx k)) x10 st1) = .ok (.int (k : Nat)) (St x2 (.fz net.d) (.fz (.str (writeT net))) x5 x6 (.fz (.str near)) (.fz (.int (k : Nat))) (.fz (badTx k)) x10 st1) := rdX_ok rfl
    have h3 : lI3 (St x2 (.fz net.d) (.fz (.str (writeT net))) x5 x6 (.fz (.str near)) (.fz (.int (k : Nat))) (.fz (badTx k)) x10 st1) = .ok .nx (St x2 (.fz net.d) (.fz (.str (writeT net))) x5 x6 (.fz (.str near)) (.fz (.int (k : Nat))) (.fz (badTx k)) x10 st1) := by
      simp only [badTx] at hrd ⊢
      simp [lI3, hrd]
    have h4 : lI4 (St x2 (.fz net.d) (.fz (.str (writeT net))) x5 x6 (.fz (.str near)) (.fz (.int (k : Nat))) (.fz (badTx k)) x10 st1) = .ok .nx (St x2 (.fz net.d) (.fz (.str (writeT net))) x5 x6 (.fz (.str near)) (.fz (.int (k : Nat))) (.fz (badTx k)) x10 st1) := by
      simp [lI4]
    exact ⟨_, _, _, st1, lin_steps h0 h1 h2 h3 h4, g1⟩
  | inr m =>
    rw [hr] at r1 r2
    dsimp only at r1 r2
    have hs := neR_self (read_okD ht hr) (net_isS m) (net_isI m)
    have hi : isiB "int" m.d = some false := rfl
    have h1 : lI1 (St x2 (.fz net.d) (.fz (.str (writeT net))) x5 x6 (.fz (.str near)) x8 x9 x10 st1) = .ok .nx (St x2 (.fz net.d) (.fz (.str (writeT net))) x5 x6 (.fz (.str near)) (.fz m.d) x9 x10 st1) := by
      simp [lI1, r1]
    have h2 : lI2 (St x2 (.fz net.d) (.fz (.str (writeT net))) x5 x6 (.fz (.str near)) (.fz m.d) x9 x10 st1) = .ok .nx (St x2 (.fz net.d) (.fz (.str (writeT net))) x5 x6 (.fz (.str near)) (.fz m.d) (.fz .non) x10 st1) := by
      simp [lI2, r2]
    have h3 : lI3 (St x2 (.fz net.d) (.fz (.str (writeT net))) x5 x6 (.fz (.str near)) (.fz m.d) (.fz .non) x10 st1) = .ok .nx (St x2 (.fz net.d) (.fz (.str (writeT net))) x5 x6 (.fz (.str near)) (.fz m.d) (.fz .non) x10 st1) := by
      simp [lI3, hi]
    have hnn : notNR .non .non = some (.bl false) := rfl
    have h4 : lI4 (St x2 (.fz net.d) (.fz (.str (writeT net))) x5 x6 (.fz (.str near)) (.fz m.d) (.fz .non) x10 st1) = .ok .nx (St x2 (.fz net.d) (.fz (.str (writeT net))) x5 x6 (.fz (.str near)) (.fz m.d) (.fz .non) x10 st1) := by
      simp [lI4, hi, hnn, r2, hs]
    exact ⟨_, _, _, st1, lin_steps h0 h1 h2 h3 h4, g1⟩
theorem size10 : (10 : Nat) ≤ sizeLine := by decide
theorem l_body {n : Nat} {st : DSt} (h : Gd (n + 300) st) (x2 x3 x4 x5 x6 x7 x8 x9 x10 : Sl) :
    ∃ x3' x4' x5' x6' x7' x8' x9' x10' st', lBody (St x2 x3 x4 x5 x6 x7 x8 x9 x10 st) = .ok .nx (St x2 x3' x4' x5' x6' x7' x8' x9' x10' st') ∧ Gd n st' := by
  obtain ⟨net, st1, e1, g1, hk, hd⟩ := g_an_drawn (n := n + 90) h
  have hg := hd.good
  have w1 := g_written hd
  have t1 := g_net_text hd hk
  have rd1 := g_read_net (write_ok hd)
  rw [read_back hd hk] at rd1
  dsimp only at rd1
  have s1 := neR_self (net_okD hg.1 hg.2.2) (net_isS net) (net_isI net)
  have hk0 : (Net.mk net.taps []).ok = true := ok_pre (qs := net.parts) (by simpa using hk)
  have hd0 : (Net.mk net.taps []).dr := ⟨⟨hg.1, hg.2.1, by simp⟩, hd.few, hd.ne, hd.tap, by simp, by simp⟩
  have w2 := g_written hd0
  have t2 := g_net_text hd0 hk0
  have rd2 := g_read_net (write_ok hd0)
  rw [read_back hd0 hk0] at rd2
  dsimp only at rd2
  have s2 := neR_self (net_okD (n := Net.mk net.taps []) hg.1 (by simp)) (net_isS _) (net_isI _)
  have i0 : ixR net.d (.int 0) = some (.tup (net.taps.map D.str)) := rfl
  have e0 : (Net.mk net.taps []).d = .tup [.tup (net.taps.map D.str), .tup []] := rfl
  have z0 : (0 : Nat) ≤ sizeLine := Nat.zero_le _
  have h0 : lB0 (St x2 x3 x4 x5 x6 x7 x8 x9 x10 st) = .ok .nx (St x2 (.fz net.d) x4 x5 x6 x7 x8 x9 x10 st1) := by simp [lB0, e1]
  have h1 : lB1 (St x2 (.fz net.d) x4 x5 x6 x7 x8 x9 x10 st1) = .ok .nx (St x2 (.fz net.d) (.fz (.str (writeT net))) x5 x6 x7 x8 x9 x10 st1) := by simp [lB1, w1]
  have h2 : lB2 (St x2 (.fz net.d) (.fz (.str (writeT net))) x5 x6 x7 x8 x9 x10 st1) = .ok .nx (St x2 (.fz net.d) (.fz (.str (writeT net))) x5 x6 x7 x8 x9 x10 st1) := by simp [lB2, t1, rd1, s1]
  have h3 : lB3 (St x2 (.fz net.d) (.fz (.str (writeT net))) x5 x6 x7 x8 x9 x10 st1) = .ok .nx (St x2 (.fz net.d) (.fz (.str (writeT net))) (.fz (Net.mk net.taps []).d) x6 x7 x8 x9 x10 st1) := by rw [e0]; simp [lB3, i0, z0, size2]
  have h4 : lB4 (St x2 (.fz net.d) (.fz (.str (writeT net))) (.fz (Net.mk net.taps []).d) x6 x7 x8 x9 x10 st1) = .ok .nx (St x2 (.fz net.d) (.fz (.str (writeT net))) (.fz (Net.mk net.taps []).d) x6 x7 x8 x9 x10 st1) := by simp [lB4, t2, w2, rd2, s2]
  generalize (Net.mk net.taps []).d = dE at *
  obtain ⟨s', hl, x6', x7', x8', x9', st2, rfl, g2⟩ := forQ (g := tgName 6) (b := lIn) (fun i : Nat => D.int (0 + (i : Int))) (fun r s => ∃ x6 x7 x8 x9 st, s = St x2 (.fz net.d) (.fz (.str (writeT net))) (.fz dE) x6 x7 x8 x9 x10 st ∧ Gd (n + 1 + 8 * r) st) (List.range 3)
    (St x2 (.fz net.d) (.fz (.str (writeT net))) (.fz dE) x6 x7 x8 x9 x10 st1) ⟨_, _, _, _, _, rfl, g1.less (by rw [List.length_range]; omega)⟩ (by
      rintro r s t ht ⟨x6, x7, x8, x9, st, rfl, hg2⟩
      obtain ⟨y7, y8, y9, st', q1, q2⟩ := l_inner (n := n + 1 + 8 * r) hd hk (by have := hg2; rw [Nat.mul_add] at this; exact this) x2 (.fz dE) (.fz (.int (0 + (t : Int)))) x7 x8 x9 x10
      exact ⟨_, _, rfl, q1, _, _, _, _, _, rfl, q2⟩)
  have hrg : dRng1 (dCons (ret (.int 3)) (ret [])) (St x2 (.fz net.d) (.fz (.str (writeT net))) (.fz dE) x6 x7 x8 x9 x10 st1) = .ok ((List.range 3).map fun i : Nat => D.int (0 + (i : Int))) (St x2 (.fz net.d) (.fz (.str (writeT net))) (.fz dE) x6 x7 x8 x9 x10 st1) := x_rng1 (n := 3) rfl (by have := sizeLine_big; omega)
  have h5 : lB5 (St x2 (.fz net.d) (.fz (.str (writeT net))) (.fz dE) x6 x7 x8 x9 x10 st1) = .ok .nx (St x2 (.fz net.d) (.fz (.str (writeT net))) (.fz dE) x6' x7' x8' x9' x10 st2) := by
    unfold lB5
    rw [x_for, hrg, bd_ok]
    exact hl
  obtain ⟨odd, st3, e3, g3, ho⟩ := g_pick (n := n) (g2.less (by omega)) (l := oddsD (writeT net) net.d) (by simp [oddsD]) (by simp [oddsD]; decide)
  have ro := odds_read _ _ odd ho
  have ok1 := okX_bad 1
  have h6 : lB6 (St x2 (.fz net.d) (.fz (.str (writeT net))) (.fz dE) x6' x7' x8' x9' x10 st2) = .ok .nx (St x2 (.fz net.d) (.fz (.str (writeT net))) (.fz dE) x6' x7' x8' x9' (.fz odd) st3) := by
    simp only [oddsD] at e3
    simp [lB6, size1, size10, e3]
  have h7 : lB7 (St x2 (.fz net.d) (.fz (.str (writeT net))) (.fz dE) x6' x7' x8' x9' (.fz odd) st3) = .ok .nx (St x2 (.fz net.d) (.fz (.str (writeT net))) (.fz dE) x6' x7' x8' (.fz (badTx 1)) (.fz odd) st3) := by
    simp [lB7, ro, ok1]
  have hb1 : badTx 1 = .xc "BadText" [("line", .int 1)] := rfl
  have hrd : dRdX "BadText" "line" (dVar 9) (St x2 (.fz net.d) (.fz (.str (writeT net))) (.fz dE) x6' x7' x8' (.fz (.xc "BadText" [("line", .int 1)])) (.fz odd) st3) = .ok (.int 1) (St x2 (.fz net.d) (.fz (.str (writeT net))) (.fz dE) x6' x7' x8' (.fz (.xc "BadText" [("line", .int 1)])) (.fz odd) st3) := rdX_ok rfl
  have h8 : lB8 (St x2 (.fz net.d) (.fz (.str (writeT net))) (.fz dE) x6' x7' x8' (.fz (badTx 1)) (.fz odd) st3) = .ok .nx (St x2 (.fz net.d) (.fz (.str (writeT net))) (.fz dE) x6' x7' x8' (.fz (badTx 1)) (.fz odd) st3) := by
    rw [hb1]
    simp [lB8, hrd]
  have nt := net_text_str (writeT net)
  have h9 : lB9 (St x2 (.fz net.d) (.fz (.str (writeT net))) (.fz dE) x6' x7' x8' (.fz (badTx 1)) (.fz odd) st3) = .ok .nx (St x2 (.fz net.d) (.fz (.str (writeT net))) (.fz dE) x6' x7' x8' (.fz (badTx 1)) (.fz odd) st3) := by
    simp [lB9, nt, okX_net]
  exact ⟨_, _, _, _, _, _, _, _, st3, body_steps h0 h1 h2 h3 h4 h5 h6 h7 h8 h9, g3⟩
theorem l_law {st : DSt} (h : Gd 600 st) (x2 x3 x4 x5 x6 x7 x8 x9 x10 : Sl) :
    ∃ s', den_lawr G__law_an_drawn G__law_an_written G_net_text G_read_net G__law_an_near_text G__law_an_read G__law_pick (St x2 x3 x4 x5 x6 x7 x8 x9 x10 st) = .ok (.rt (.bl true)) s' := by
  obtain ⟨s', hl, -⟩ := forQ (g := tgName 2) (b := lBody) (fun i : Nat => D.int (0 + (i : Int))) (fun r s => ∃ x2 x3 x4 x5 x6 x7 x8 x9 x10 st, s = St x2 x3 x4 x5 x6 x7 x8 x9 x10 st ∧ Gd (300 * r) st) (List.range 2)
    (St x2 x3 x4 x5 x6 x7 x8 x9 x10 st) ⟨_, _, _, _, _, _, _, _, _, _, rfl, h.less (by rw [List.length_range]; omega)⟩ (by
      rintro r s t ht ⟨x2, x3, x4, x5, x6, x7, x8, x9, x10, st, rfl, hg2⟩
      obtain ⟨y3, y4, y5, y6, y7, y8, y9, y10, st', q1, q2⟩ := l_body (n := 300 * r) (by have := hg2; rw [Nat.mul_add] at this; exact this) (.fz (.int (0 + (t : Int)))) x3 x4 x5 x6 x7 x8 x9 x10
      exact ⟨_, _, rfl, q1, _, _, _, _, _, _, _, _, _, _, rfl, q2⟩)
  have hrg : dRng1 (dCons (ret (.int 2)) (ret [])) (St x2 x3 x4 x5 x6 x7 x8 x9 x10 st) = .ok ((List.range 2).map fun i : Nat => D.int (0 + (i : Int))) (St x2 x3 x4 x5 x6 x7 x8 x9 x10 st) := x_rng1 (n := 2) rfl (by have := sizeLine_big; omega)
  refine ⟨s', ?_⟩
  have hf : fFor (dRng1 (dCons (ret (.int 2)) (ret []))) (tgName 2) lBody (St x2 x3 x4 x5 x6 x7 x8 x9 x10 st) = .ok .nx s' := by
    rw [x_for, hrg, bd_ok]
    exact hl
  rw [lawr_eq, seq_nx hf]
  rfl
end K12
end S_E30
section S_WF
set_option Elab.async false
set_option linter.all false
set_option autoImplicit false
set_option maxRecDepth 100000
set_option maxHeartbeats 4000000
/-! WF: the law's def keeps its promise. -/
namespace K12
open PySem PySem.Spec PyProof.Rows L2 DL
section
variable {P : Program} {w : World} {K : PySem.W.Frag} {mg : Str → Option Value} {base : Heap}
def spLaw (K : PySem.W.Frag) (Pt : Addr) : Sp := fun vs H Q _ => ∃ (a0 : Addr) (ns : List Int), vs = [.ref a0] ∧ SqL K H a0 (ns.map V.int) ∧ ns.length ≤ 63 ∧ H Pt = some (.tbl #[]) ∧ ∀ H', Q (.bl true) H'
abbrev denL : M Fl := den_lawr G__law_an_drawn G__law_an_written G_net_text G_read_net G__law_an_near_text G__law_an_read G__law_pick
/-- what stands behind the begun state -/
def baseOf (H : Hp) (q g : Addr) : Hp := fun b => if b = q ∨ b = g then none else noTb H b
theorem baseOf_some {H : Hp} {q g b : Addr} {o : HO} (h : baseOf H q g b = some o) : H b = some o ∧ ∀ ps, o ≠ .tbl ps := by
  unfold baseOf at h
  split at h
  · cases h
  · exact noTb_some.mp h
theorem r_law {q g c a0 Pt : Addr} {H : Hp} {d : DSt} (hq : H q = some (.dK (stK g c d))) (hg : H g = some (.lst (d.great.map V.int))) (hc : H c = some (.lst (d.cells.map V.int))) (qc : q ≠ c) (gc : g ≠ c) (lc : d.cells.length ≤ sizeLine) (lg : d.great.length ≤ sizeLine) (hT : H Pt = some (.tbl #[])) :
    R K (some (q, g, c, [(Pt, qLam)])) ⟨baseOf H q g, noTb H⟩ (baseOf H q g) H [some (.ref a0), some (.ref q), none, none, none, none, none, none, none, none, none] ⟨[.un, .st, .un, .un, .un, .un, .un, .un, .un, .un, .un], d⟩ := by
  have cls : ∀ (i : Nat) (x : Sl), ([Sl.un, .st, .un, .un, .un, .un, .un, .un, .un, .un, .un] : List Sl)[i]? = some x → (x = .st ∧ i = 1) ∨ (x = .un ∧ i < 11) := fun i x h => by
    have hi : i < 11 := by have := (List.getElem?_eq_some_iff.mp h).1; simpa using this
    by_cases h1 : i = 1
    · subst h1; left; exact ⟨by simpa using h.symm, rfl⟩
    · right
      refine ⟨?_, hi⟩
      have : i = 0 ∨ i = 2 ∨ i = 3 ∨ i = 4 ∨ i = 5 ∨ i = 6 ∨ i = 7 ∨ i = 8 ∨ i = 9 ∨ i = 10 := by omega
      rcases this with rfl | rfl | rfl | rfl | rfl | rfl | rfl | rfl | rfl | rfl <;> simpa using h.symm
  refine ⟨rfl, fun i x h => ?_, fun i j x y a hx hy ox oy _ _ => ?_, fun b o h => (baseOf_some h).1, ⟨⟨hq, hg, ?_, ?_, ⟨?_, lc, lg⟩⟩, ⟨fun b ps h => (baseOf_some h).2 ps rfl, fun z hz => ?_, fun z hz => ?_⟩⟩, Ex.refl _, fun b o h _ _ => (noTb_some.mp h).1, fun b h n => ?_, fun b _ h => h, fun b ps h => h, fun _ b ps h => (noTb_some.mp h).2 ps rfl⟩
  · rcases cls i x h with ⟨rfl, rfl⟩ | ⟨rfl, hi⟩
    · exact ⟨some (.ref q), rfl, q, g, c, _, rfl, rfl⟩
    · exact ⟨_, List.getElem?_eq_getElem (by simpa using hi), trivial⟩
  · rcases cls i x hx with ⟨rfl, _⟩ | ⟨rfl, _⟩ <;> cases ox
  · unfold baseOf; rw [if_pos (.inl rfl)]
  · unfold baseOf; rw [if_pos (.inr rfl)]
  · unfold baseOf
    rw [if_neg (by rintro (e | e); exact qc e.symm; exact gc e.symm)]
    exact noTb_some.mpr ⟨hc, fun ps z => by cases z⟩
  · rw [List.mem_singleton.mp hz]
    cases e : baseOf H q g Pt with
    | none => rfl
    | some o =>
      obtain ⟨e1, e2⟩ := baseOf_some e
      rw [hT] at e1
      exact absurd (Option.some.inj e1).symm (e2 #[])
  · rw [List.mem_singleton.mp hz]
    exact LamX.TabS.nil hT
  · cases e1 : noTb H b with
    | none => exact h e1
    | some o => rw [(noTb_some.mp e1).1] at n; cases n
theorem fn_law {fdB : FuncData} {Pt : Addr} (a : At K mg "law" (defArgs (top 72)) (defBody (top 72)) (defScope (top 72))) (o_beg : FnOk P w K mg base CX0 1 (He.ga K "_law_begun") fdB ["_law_script"] (spB K)) (m_beg : mg "_law_begun" = some (.ref (He.ga K "_law_begun"))) (k_beg : PySem.W.keepIn K (.ref (He.ga K "_law_begun")) = true) (b_beg : Binds K fdB ["_law_script"] [])
    (TB : ∀ cL oc od fd osl, K.lookup (He.ga K "law") = some ⟨oc, od, .func fd, osl⟩ → fd.code = .ref cL → LamX.TabB base mg cL Pt)
    (hcs : ∀ {p a c cL : Addr} {A : Around} {outer : List Env} {s : Shared} {H : Hp} {E : XK}, LamX.TabB base mg cL Pt → Room 9 (A.deeper (envOfC "law" (defScope (top 72)) s.heap.objs.size (He.ga K "law") (.ref cL))) →
      ∃ t, CSs (Xlaw P w K mg base (He.ga K "law") cL A outer s H E) (some (p, a, c, [(Pt, qLam)])) (wOut E) (defBody (top 72)).tail t denL) :
    FnOk P w K mg base (L2.CX P w) 10 (He.ga K "law") a.fd ["_law_script"] (spLaw K Pt) := by
  obtain ⟨oc, od, dV, kV, doc, pm, an, cdv, ct, osl, efd, lk, hcd, _, _⟩ := a.f.ex
  obtain ⟨cL, rfl⟩ := He.codeIn_ref hcd
  have tb : LamX.TabB base mg cL Pt := TB cL oc od _ osl lk (by rw [efd])
  rw [efd] at lk ⊢
  refine fn_of (N := Nlaw) lk hcd sc_law (fun vs H Q E h => ?_) (fun A outer s H vs Q E hr h => ?_)
  · obtain ⟨a0, ns, rfl, _⟩ := h; rfl
  · obtain ⟨a0, ns, rfl, hS, hl, hT, hQ⟩ := h
    have hN := sc_law.nd
    let X : Cx := Xlaw P w K mg base (He.ga K "law") cL A outer s H E
    let tt : TS := fun D σ H' => ∃ (p a c : Addr) (t : TS), CSs X (some (p, a, c, [(Pt, qLam)])) (wOut E) (defBody (top 72)).tail t denL ∧ t D σ H'
    have hrest : PSs X (defBody (top 72)).tail tt := ⟨fun pins s σ H D I ⟨p, a, c, t, hc, ht⟩ => hc.ps.run pins s σ H D I ht⟩
    have hps : PSs X (defBody (top 72)) (tSeq (tAsg (tCall (spB K) [] E0 (tCons (tVar 0) tNil)) (gName 1)) tt) :=
      pss_cons (ps_set hN (i := 1) rfl (.inl rfl) (pe_call o_beg (hr.mono (by decide)) rfl m_beg k_beg b_beg .nil pass0 (pa_cons (pe_var (i := 0) rfl (.inl rfl)) pa_nil)) (by rfl) (.inr rfl)) hrest
    refine ⟨_, hps, ?_⟩
    have s0 : start Nlaw [V.ref a0] = [some (.ref a0), none, none, none, none, none, none, none, none, none, none] := rfl
    rw [s0]
    have hz : ns.length ≤ sizeLine := by have := sizeLine_big; omega
    refine ⟨.ref a0, rfl, a0, ns, rfl, hS, hz, fun q g c H' x1 nq ng nc qg qc gc eq eg ec => ?_⟩
    show tt _ ([some (.ref a0), some (.ref q), none, none, none, none, none, none, none, none, none] : L2.St) H'
    obtain ⟨t, hc⟩ := hcs (p := q) (a := g) (c := c) (cL := cL) (A := A) (outer := outer) (s := s) (H := H) (E := E) tb hr
    refine ⟨q, g, c, t, hc, ?_⟩
    have lc : (absL ns).length ≤ sizeLine := by unfold absL; rw [List.length_map]; exact hz
    have lg : (greatL ns).length ≤ sizeLine := by
      unfold greatL
      rw [List.length_map]
      exact Nat.le_trans (List.length_filter_le _ _) hz
    have r := r_law (K := K) (a0 := a0) (d := ⟨greatL ns, absL ns, 0, 0⟩) eq eg ec qc gc lc lg (x1 _ _ hT)
    obtain ⟨s', hl⟩ := l_law (st := ⟨greatL ns, absL ns, 0, 0⟩) ⟨by show (0 : Int) ≤ 0; decide, by show (0 : Int) + (600 : Nat) ≤ 2 ^ 40; decide⟩ .un .un .un .un .un .un .un .un .un
    refine hc.de _ _ _ _ _ _ r ?_
    show (denL (St .un .un .un .un .un .un .un .un .un ⟨greatL ns, absL ns, 0, 0⟩)).post _ _
    unfold denL
    rw [hl]
    intro σ' B' H2 e2 r2 v hv
    cases hv
    exact hQ H2
end
end K12
end S_WF
section S_DX5
set_option Elab.async false
set_option linter.all false
set_option autoImplicit false
set_option maxRecDepth 100000
set_option maxHeartbeats 4000000
/-! DX5: __init__(me, i): super().__init__(f'..{i}'); me.fld = i. -/
namespace DX
open PySem PySem.Spec PyProof.Rows L2 NdefX DL
/-- what the written part says of such an __init__ -/
structure InitK (P : Program) (K : PySem.W.Frag) (mg : Str → Option Value) (f cda cc C : Addr) (fld : Str) : Prop where
  code : ∃ ccl cdd vs ccs file tf, K.lookup cda = some ⟨ccl, cdd, .fields vs, ccs⟩ ∧ vs[2]? = some (.str file tf) ∧ ((P.main.file : Str) == file) = true
  cell : ∃ cl cld csl, K.lookup cc = some ⟨cl, cld, .cell (some (.ref C)), csl⟩
  mro : PySem.W.mroIn K C (.ref C) = some true
  sup : PySem.W.ks_superIn K C C "__init__" = some (some (.builtin "ValueError.__init__"))
  sub : PySem.W.subIn K (.ref C) (.type "ValueError") = some true
  any : PySem.W.nsIn K cStatics "thirdparty.any" = some none
  glob : mg "super" = none
  top : (P.main.scope.names.lookup ("super" : Str)).isSome = false
  oex : OexC K C
  fldn : PySem.W.findIn K (.ref C) fld = some none
section
variable {P : Program} {w : World} {K : PySem.W.Frag} {mg : Str → Option Value} {base : Heap} {f cc cda C : Addr} {name qual me par fld m : Str} {scope : Scope} {dV kV doc pm ct oc : Value} {an od : Option Addr}
    {osl : Array (Option Value)} {params : Arguments} {p0 p1 p2 p3 p4 q1 q2 q3 q4 q5 q6 q7 q8 : Pos} {j : Nat} {ar : Arg}
abbrev initMsg (m par : Str) (j : Nat) (q1 q2 q3 q4 : Pos) : Expr := .JoinedStr [.Constant (.str m) j q1, .FormattedValue (.Name par q2) (-1) none q3] q4
abbrev initBody (p0 p1 p2 p3 p4 q1 q2 q3 q4 q5 q6 q7 q8 : Pos) (m me par fld : Str) (j : Nat) : List Stmt :=
  supBody p0 p1 p2 p3 p4 (initMsg m par j q1 q2 q3 q4) [] [.Assign [.Attribute (.Name me q5) fld q6] (.Name par q7) q8]
theorem fn_init (I : InitK P K mg f cda cc C fld)
    (lk : K.lookup f = some ⟨oc, od, .func (PySem.W.fnX name qual params (initBody p0 p1 p2 p3 p4 q1 q2 q3 q4 q5 q6 q7 q8 m me par fld j) scope [("__class__", cc)] dV kV doc pm an (.ref cda) ct), osl⟩) (hcd : PySem.W.codeIn K (.ref cda) qual = true)
    (har : (params.posonlyargs ++ params.args).head? = some ar) (hme : ar.arg = me) (S : NScope [me, par, "__class__"] [me, par] ["__class__"] scope) (kS : scope.names.lookup ("super" : Str) = some .globalImplicit) (hm : m.length ≤ 1000)
    (hev : ∀ L, ∃ pl, eval (.Call (.Attribute (.Call (.Name "super" p0) [] [] p1) "__init__" p2) [initMsg m par j q1 q2 q3 q4] [] p3) (envF (supNF name qual params (initBody p0 p1 p2 p3 p4 q1 q2 q3 q4 q5 q6 q7 q8 m me par fld j) scope cc cda) f L) = (do
      let ov ← attributeBase (.Call (.Name "super" p0) [] [] p1) "__init__" (envF (supNF name qual params (initBody p0 p1 p2 p3 p4 q1 q2 q3 q4 q5 q6 q7 q8 m me par fld j) scope cc cda) f L) (eval (.Call (.Name "super" p0) [] [] p1) (envF (supNF name qual params (initBody p0 p1 p2 p3 p4 q1 q2 q3 q4 q5 q6 q7 q8 m me par fld j) scope cc cda) f L))
      standAt p2.atName
      let (fm, first) ← holding [ov] (getMethod ov "__init__" pl)
      callWith p3 fm first (backTo p3 (starEach [initMsg m par j q1 q2 q3 q4] (envF (supNF name qual params (initBody p0 p1 p2 p3 p4 q1 q2 q3 q4 q5 q6 q7 q8 m me par fld j) scope cc cda) f L))) []))
    (hint : ∀ L, interactive (envF (supNF name qual params (initBody p0 p1 p2 p3 p4 q1 q2 q3 q4 q5 q6 q7 q8 m me par fld j) scope cc cda) f L) = false)
    (hsw : ∀ L, swapsWith (.Call (.Attribute (.Call (.Name "super" p0) [] [] p1) "__init__" p2) [initMsg m par j q1 q2 q3 q4] [] p3) none p4.line (envF (supNF name qual params (initBody p0 p1 p2 p3 p4 q1 q2 q3 q4 q5 q6 q7 q8 m me par fld j) scope cc cda) f L) = pure false)
    (hsw2 : ∀ L, swapsWith (.Name par q7) (some (.Attribute (.Name me q5) fld q6)) q8.line (envF (supNF name qual params (initBody p0 p1 p2 p3 p4 q1 q2 q3 q4 q5 q6 q7 q8 m me par fld j) scope cc cda) f L) = pure false)
    (d1 : (me == ("__debug__" : Str)) = false) (d2 : (me == ("__classdict__" : Str)) = false) (d3 : (par == ("__debug__" : Str)) = false) (d4 : (par == ("__classdict__" : Str)) = false) :
    FnOk P w K mg base CX0 1 f (PySem.W.fnX name qual params (initBody p0 p1 p2 p3 p4 q1 q2 q3 q4 q5 q6 q7 q8 m me par fld j) scope [("__class__", cc)] dV kV doc pm an (.ref cda) ct) [me, par] (spI C fld) := by
  obtain ⟨cl, cld, csl, hcell⟩ := I.cell
  refine fn_sup (me := me) lk hcd S rfl ⟨cl, cld, _, csl, hcell⟩ (fun vs H Q E h => ?_) (fun A outer s H vs Q E hr h => ?_) (hev := hev) (hint := hint) (hsw := hsw)
  · obtain ⟨a, y, rfl, _⟩ := h; rfl
  · obtain ⟨a, y, rfl, ⟨n, rfl, hn⟩, ea, q⟩ := h
    have lme : scope.names.lookup me = some .local := S.par me (by simp)
    have lpar : scope.names.lookup par = some .local := S.par par (by simp)
    have pm1 : ∀ {pos : Pos}, PE (ncx CX0 P w K mg base [me, par, "__class__"] (supNF name qual params (initBody p0 p1 p2 p3 p4 q1 q2 q3 q4 q5 q6 q7 q8 m me par fld j) scope cc cda) f A outer s H E) (.Name par pos) (tVar 1) := fun {pos} => pe_var rfl (.inl lpar) d3 d4
    have pm0 : ∀ {pos : Pos}, PE (ncx CX0 P w K mg base [me, par, "__class__"] (supNF name qual params (initBody p0 p1 p2 p3 p4 q1 q2 q3 q4 q5 q6 q7 q8 m me par fld j) scope cc cda) f A outer s H E) (.Name me pos) (tVar 0) := fun {pos} => pe_var rfl (.inl lme) d1 d2
    refine ⟨a, C, _, _, rfl, ea, ?_, pa_cons (pe_joined (.cons pe_str (.cons (pe_fmt pm1) .nil))) pa_nil rfl, pss_one (ps_ost pm0 pm1 (hsw2 _)), ?_⟩
    · exact ⟨⟨oc, od, osl, _, ar, lk, har, hme⟩, I.code, I.cell, I.mro, I.sup, I.sub, I.any, I.glob, I.top, rfl, rfl, (by show List.lookup ("__class__" : Str) [(("__class__" : Str), cc)] = some cc; simp [List.lookup]), kS, S.frk _ (by simp), lme, I.oex⟩
    · refine ⟨m, rfl, ?_, ⟨.int n, rfl, .inr ⟨n, rfl, hn, toString n, rfl, ?_, ?_⟩⟩⟩
      · have e : (Str.empty ++ m).length = 0 + m.length := Array.size_append
        rw [e, sizeLine_eq]; omega
      · have e : (Str.empty ++ m ++ (toString n : Str)).length = (Str.empty ++ m).length + (toString n : Str).length := Array.size_append
        have e2 : (Str.empty ++ m).length = 0 + m.length := Array.size_append
        have h3 : (toString n : Str).length ≤ 1921 := int_text_len_1921 hn
        rw [e, e2, sizeLine_eq]; omega
      · refine ⟨by simp, ea, .int n, rfl, .ref a, rfl, a, C, rfl, I.oex, I.fldn, .inl ⟨ea, fun dx h1 h2 => q dx h1 h2⟩⟩
end
end DX
end S_DX5
section S_DH1
set_option Elab.async false
set_option linter.all false
set_option autoImplicit false
set_option maxRecDepth 100000
set_option maxHeartbeats 4000000
/-! DH1: facts of a head about own exception classes with an own __init__. -/
namespace DH
open PySem PySem.Spec PyProof.Rows L2
/-- OexC, as a test -/
def oexB (K : PySem.W.Frag) (C : Addr) : Bool := (match K.lookup C with
  | some ⟨.type "type", _, .cls cd, sl⟩ => (match cd.mro, sl.toList with
    | .ref C' :: bm, [_, _, _, _, some (.builtin n), _] => C' == C && n == "ValueError.__new__" && !cd.hasDel && cd.hasDict && PySem.HandSPX.refsVE bm
    | _, _ => false)
  | _ => false) && He.eqO (PySem.W.findIn K (.ref C) "__setattr__") (some (some (.builtin "object.__setattr__"))) && decide (PySem.W.subIn K (.ref C) (.type "BaseException") = some true) && decide (PySem.W.typeIn K (.ref C) = some (.type "type")) && PySem.W.keepIn K (.ref C)
theorem oexB_ok {K : PySem.W.Frag} {C : Addr} (h : oexB K C = true) : OexC K C := by
  unfold oexB at h
  simp only [Bool.and_eq_true, decide_eq_true_eq] at h
  obtain ⟨⟨⟨⟨h1, h2⟩, h3⟩, h4⟩, h5⟩ := h
  refine ⟨?_, He.eqO_ok h2, h3, h4, h5⟩
  split at h1
  · rename_i dd cd sl ho
    split at h1
    · rename_i C' bm k0 k1 k2 k3 n k5 hm hs
      simp only [Bool.and_eq_true, beq_iff_eq, Bool.not_eq_true'] at h1
      obtain ⟨⟨⟨⟨rfl, rfl⟩, hdel⟩, hdi⟩, hr⟩ := h1
      obtain ⟨nm, bs, mro, ns, qn, hd, sn, sub, ab, col, del⟩ := cd
      dsimp only at hm hdel hdi
      subst hm hdel hdi
      have hsl : sl = #[k0, k1, k2, k3, some (.builtin "ValueError.__new__"), k5] := by
        obtain ⟨l⟩ := sl
        simp only at hs
        rw [hs]
      subst hsl
      exact ⟨nm, qn, ns, bs, bm, sn, sub, ab, col, dd, k0, k1, k2, k3, k5, ho, hr⟩
    · cases h1
  · cases h1
/-- the addresses: the __init__ of the class x, its code, its cell -/
def fI (K : PySem.W.Frag) (x : Str) : Addr := He.ma K (He.ga K x) "__init__"
def cdI (K : PySem.W.Frag) (x : Str) : Addr := match K.lookup (fI K x) with
  | some ⟨_, _, .func fd, _⟩ => (match fd.code with | .ref c => c | _ => 0)
  | _ => 0
def ccI (K : PySem.W.Frag) (x : Str) : Addr := match K.lookup (fI K x) with
  | some ⟨_, _, .func fd, _⟩ => (match fd.closure with | [(_, c)] => c | _ => 0)
  | _ => 0
abbrev FnI : Type := Option (Str × Str × Arguments × FuncBody × Scope × Addr × Addr)
def fnI (K : PySem.W.Frag) (x : Str) : FnI := match K.lookup (fI K x) with
  | some ⟨_, _, .func fd, _⟩ => some (fd.name, fd.qualname, fd.params, fd.body, fd.scope, fd.globals, fd.builtins)
  | _ => none
/-- one class: its name, its field, its __init__ as written -/
structure IniD where
  x : Str
  fld : Str
  name : Str
  qual : Str
  params : Arguments
  body : List Stmt
  scope : Scope
def IniD.val (d : IniD) : FnI := some (d.name, d.qual, d.params, .stmts d.body, d.scope, mainGlobals, builtinsNs)
def codeB (file : Str) (K : PySem.W.Frag) (a : Addr) : Bool := match K.lookup a with
  | some ⟨_, _, .fields vs, _⟩ => (match (vs[2]? : Option Value) with | some (Value.str fl _) => file == fl | _ => false)
  | _ => false
def cellB (K : PySem.W.Frag) (a C : Addr) : Bool := match K.lookup a with
  | some ⟨_, _, .cell (some (.ref D)), _⟩ => decide (D = C)
  | _ => false
def fnB (K : PySem.W.Frag) (d : IniD) : Bool := match K.lookup (fI K d.x) with
  | some ⟨_, _, .func fd, _⟩ => decide (fd.closure = [(("__class__" : Str), ccI K d.x)]) && decide (fd.code = .ref (cdI K d.x)) && PySem.W.codeIn K fd.code d.qual
  | _ => false
def IniD.ok (file : Str) (K : PySem.W.Frag) (d : IniD) : Bool :=
  fnB K d && codeB file K (cdI K d.x) && cellB K (ccI K d.x) (He.ga K d.x) && decide (PySem.W.mroIn K (He.ga K d.x) (.ref (He.ga K d.x)) = some true) &&
  He.eqO (PySem.W.ks_superIn K (He.ga K d.x) (He.ga K d.x) "__init__") (some (some (.builtin "ValueError.__init__"))) && decide (PySem.W.subIn K (.ref (He.ga K d.x)) (.type "ValueError") = some true) &&
  He.eqO (PySem.W.nsIn K cStatics "thirdparty.any") (some none) && He.eqO (PySem.W.nsIn K mainGlobals "super") (some none) && oexB K (He.ga K d.x) && He.eqO (PySem.W.findIn K (.ref (He.ga K d.x)) d.fld) (some none) &&
  He.eqO (PySem.W.findIn K (.ref (He.ga K d.x)) "__init__") (some (some (.ref (fI K d.x)))) && decide (PySem.W.typeIn K (.ref (fI K d.x)) = some (.type "function")) && He.eqO (PySem.W.nsIn K mainGlobals d.x) (some (some (.ref (He.ga K d.x))))
theorem codeB_ok {P : Program} {K : PySem.W.Frag} {a : Addr} (h : codeB P.main.file K a = true) : ∃ ccl cdd vs ccs file tf, K.lookup a = some ⟨ccl, cdd, .fields vs, ccs⟩ ∧ vs[2]? = some (.str file tf) ∧ ((P.main.file : Str) == file) = true := by
  unfold codeB at h
  split at h
  · rename_i c d vs sl e
    split at h
    · rename_i fl tf e2
      exact ⟨c, d, vs, sl, fl, tf, e, e2, h⟩
    · cases h
  · cases h
theorem cellB_ok {K : PySem.W.Frag} {a C : Addr} (h : cellB K a C = true) : ∃ cl cld csl, K.lookup a = some ⟨cl, cld, .cell (some (.ref C)), csl⟩ := by
  unfold cellB at h
  split at h
  · rename_i c d D sl e
    have := of_decide_eq_true h
    subst this
    exact ⟨c, d, sl, e⟩
  · cases h
theorem IniD.okK {P : Program} {K : PySem.W.Frag} {mg : Str → Option Value} {base : Heap} {d : IniD} (X : K.In base) (G : base.Ns mainGlobals mg) (ht : (P.main.scope.names.lookup ("super" : Str)).isSome = false) (h : d.ok P.main.file K = true) :
    DX.InitK P K mg (fI K d.x) (cdI K d.x) (ccI K d.x) (He.ga K d.x) d.fld ∧ PySem.W.findIn K (.ref (He.ga K d.x)) "__init__" = some (some (.ref (fI K d.x))) ∧ PySem.W.typeIn K (.ref (fI K d.x)) = some (.type "function") ∧ mg d.x = some (.ref (He.ga K d.x)) := by
  unfold IniD.ok at h
  simp only [Bool.and_eq_true, decide_eq_true_eq] at h
  obtain ⟨⟨⟨⟨⟨⟨⟨⟨⟨⟨⟨⟨h1, h2⟩, h3⟩, h4⟩, h5⟩, h6⟩, h7⟩, h8⟩, h9⟩, h10⟩, h11⟩, h12⟩, h13⟩ := h
  exact ⟨⟨codeB_ok h2, cellB_ok h3, h4, He.eqO_ok h5, h6, He.eqO_ok h7, PySem.W.mg_none_of X G (He.eqO_ok h8), ht, oexB_ok h9, He.eqO_ok h10⟩, He.eqO_ok h11, h12, PySem.W.mg_of X G (He.eqO_ok h13)⟩
theorem IniD.okF {K : PySem.W.Frag} {d : IniD} {file : Str} (e : fnI K d.x = d.val) (h : d.ok file K = true) :
    ∃ oc od osl dV kV doc pm an ct, K.lookup (fI K d.x) = some ⟨oc, od, .func (PySem.W.fnX d.name d.qual d.params d.body d.scope [(("__class__" : Str), ccI K d.x)] dV kV doc pm an (.ref (cdI K d.x)) ct), osl⟩ ∧ PySem.W.codeIn K (.ref (cdI K d.x)) d.qual = true := by
  unfold IniD.ok at h
  simp only [Bool.and_eq_true, decide_eq_true_eq] at h
  have h1 := h.1.1.1.1.1.1.1.1.1.1.1.1
  unfold fnB at h1
  unfold fnI at e
  cases q : K.lookup (fI K d.x) with
  | none => rw [q] at h1; cases h1
  | some o =>
    obtain ⟨oc, od, dt, osl⟩ := o
    rw [q] at h1 e
    cases dt with
    | func fd =>
      obtain ⟨n1, n2, n3, n4, n5, n6, n7, n8, n9, n10, n11, n12, n13, n14, n15⟩ := fd
      simp only [Bool.and_eq_true, decide_eq_true_eq] at h1
      obtain ⟨⟨a1, a2⟩, a3⟩ := h1
      have e2 : (some (n1, n2, n3, n4, n5, n6, n15) : FnI) = some (d.name, d.qual, d.params, .stmts d.body, d.scope, mainGlobals, builtinsNs) := e
      simp only [Option.some.injEq, Prod.mk.injEq] at e2
      obtain ⟨b1, b2, b3, b4, b5, b6, b7⟩ := e2
      subst b1 b2 b3 b4 b5 b6 b7
      rw [a2] at a3
      refine ⟨oc, od, osl, n8, n9, n10, n11, n12, n14, ?_, a3⟩
      rw [show n7 = _ from a1, show n13 = _ from a2]
    | _ => cases h1
end DH
end S_DH1
section S_DH2
set_option Elab.async false
set_option linter.all false
set_option autoImplicit false
set_option maxRecDepth 100000
set_option maxHeartbeats 4000000
/-! DH2: a head's hook that tells own __init__s too. -/
namespace DH
open PySem PySem.Spec PyProof.Rows L2
abbrev AlI : Type := He.AlD × (Bool × List FnI)
def obsI (fa : List He.Fa) (fn : List He.DefD) (is : List IniD) (file : Str) (ex : PySem.W.Frag → Bool) (K : PySem.W.Frag) : AlI := (He.obsD fa fn K, ((is.all fun d => d.ok file K) && ex K, is.map fun d => fnI K d.x))
def valI (fn : List He.DefD) (is : List IniD) : AlI := (He.valD fn, (true, is.map IniD.val))
def SaysI (fa : List He.Fa) (fn : List He.DefD) (is : List IniD) (file : Str) (ex : PySem.W.Frag → Bool) (K : PySem.W.Frag) : Prop := obsI fa fn is file ex K = valI fn is
def obsIG (n : Nat) (fa : List He.Fa) (fn : List He.DefD) (is : List IniD) (file : Str) (ex : PySem.W.Frag → Bool) (g : Addr → Option Obj) : AlI := obsI fa fn is file ex (He.frG g (He.asD g n ++ [cStatics]))
def hookI (n : Nat) (fa : List He.Fa) (fn : List He.DefD) (is : List IniD) (file : Str) (ex : PySem.W.Frag → Bool) : PySem.W.Hook where
  α := AlI
  obs := fun s => obsIG n fa fn is file ex s.heap.get?
  val := fun _ => valI fn is
  says := fun _ h => ∃ K : PySem.W.Frag, K.In h ∧ SaysI fa fn is file ex K
  of := fun _ _ e => ⟨_, He.frG_in, e⟩
  keeps := fun _ _ _ ⟨K, hK, c⟩ k => ⟨K, PySem.W.Frag.In.keeps hK k, c⟩
theorem obsIG_eq {n : Nat} {fa : List He.Fa} {fn : List He.DefD} {is : List IniD} {file : Str} {ex : PySem.W.Frag → Bool} {g : Addr → Option Obj} {s : Shared} (h : ∀ a, g a = s.heap.get? a) : obsIG n fa fn is file ex g = (hookI n fa fn is file ex).obs s := by
  have e : g = s.heap.get? := funext h
  rw [e] <;> rfl
section
variable {fa : List He.Fa} {fn : List He.DefD} {is : List IniD} {file : Str} {ex : PySem.W.Frag → Bool} {K : PySem.W.Frag}
theorem SaysI.d (c : SaysI fa fn is file ex K) : He.SaysD fa fn K := congrArg (fun z : AlI => z.1) c
theorem SaysI.ini (c : SaysI fa fn is file ex K) (i : Nat) {d : IniD} (h : is[i]? = some d := by rfl) : d.ok file K = true ∧ fnI K d.x = d.val := by
  have c1 : (is.all fun d => d.ok file K) = true := (Bool.and_eq_true_iff.mp (show ((is.all fun d => d.ok file K) && ex K) = true from congrArg (fun z : AlI => z.2.1) c)).1
  have c2 : (is.map fun d => fnI K d.x) = is.map IniD.val := congrArg (fun z : AlI => z.2.2) c
  have e2 : (is.map fun d => fnI K d.x)[i]? = (is.map IniD.val)[i]? := by rw [c2]
  rw [List.getElem?_map, List.getElem?_map, h] at e2
  exact ⟨List.all_eq_true.mp c1 d (List.mem_of_getElem? h), Option.some.inj e2⟩
theorem SaysI.extra (c : SaysI fa fn is file ex K) : ex K = true := (Bool.and_eq_true_iff.mp (show ((is.all fun d => d.ok file K) && ex K) = true from congrArg (fun z : AlI => z.2.1) c)).2
end
end DH
end S_DH2
section S_DH3
set_option Elab.async false
set_option linter.all false
set_option autoImplicit false
set_option maxRecDepth 100000
set_option maxHeartbeats 4000000
/-! DH3: a head's hook: He's facts, own __init__s, any further test, the empty tables of some defs (left out of the fragment). -/
namespace DH
open PySem PySem.Spec PyProof.Rows L2
def fragJ (n : Nat) (g : Addr → Option Obj) : PySem.W.Frag := He.frT g (He.asD g n ++ [cStatics])
def exJ (ex : PySem.W.Frag → Bool) (tf : List He.Defn) (g : Addr → Option Obj) : PySem.W.Frag → Bool := fun K => ex K && He.tabsB g tf K
def obsJ (n : Nat) (fa : List He.Fa) (fn : List He.DefD) (is : List IniD) (file : Str) (ex : PySem.W.Frag → Bool) (tf : List He.Defn) (g : Addr → Option Obj) : AlI := obsI fa fn is file (exJ ex tf g) (fragJ n g)
structure SaysJ (fa : List He.Fa) (fn : List He.DefD) (is : List IniD) (file : Str) (ex : PySem.W.Frag → Bool) (tf : List He.Defn) (h : Heap) (K : PySem.W.Frag) : Prop where
  d : He.SaysD fa fn K
  ini : ∀ (i : Nat) (d : IniD), is[i]? = some d → d.ok file K = true ∧ fnI K d.x = d.val
  more : ex K = true
  hd : ∀ p ∈ tf, PySem.W.codeHdIn K (He.cT K p).1 (He.cT K p).2 = true
  out : ∀ p ∈ tf, K.lookup (He.cT K p).2 = none
  empty : ∀ p ∈ tf, h.get? (He.cT K p).2 = some { cls := .none, data := .fields #[] }
theorem saysJ_of {n : Nat} {fa : List He.Fa} {fn : List He.DefD} {is : List IniD} {file : Str} {ex : PySem.W.Frag → Bool} {tf : List He.Defn} {h : Heap} (e : obsJ n fa fn is file ex tf h.get? = valI fn is) : SaysJ fa fn is file ex tf h (fragJ n h.get?) := by
  have c : SaysI fa fn is file (exJ ex tf h.get?) (fragJ n h.get?) := e
  have hx : (ex (fragJ n h.get?) && He.tabsB h.get? tf (fragJ n h.get?)) = true := c.extra
  rw [Bool.and_eq_true] at hx
  obtain ⟨h1, h2⟩ := hx
  have key : ∀ p ∈ tf, PySem.W.codeHdIn (fragJ n h.get?) (He.cT (fragJ n h.get?) p).1 (He.cT (fragJ n h.get?) p).2 = true ∧ ∃ o, h.get? (He.cT (fragJ n h.get?) p).2 = some o ∧ He.emptyTab o = true := fun p hp => by
    have h34 := List.all_eq_true.mp h2 p hp
    rw [Bool.and_eq_true] at h34
    obtain ⟨h3, h4⟩ := h34
    refine ⟨h3, ?_⟩
    cases q : h.get? (He.cT (fragJ n h.get?) p).2 with
    | none => rw [q] at h4; cases h4
    | some o => rw [q] at h4; exact ⟨o, rfl, h4⟩
  exact ⟨c.d, fun i d hd => c.ini i hd, h1, fun p hp => (key p hp).1, fun p hp => by
    obtain ⟨_, o, q, z⟩ := key p hp
    exact He.frT_none q z, fun p hp => by
    obtain ⟨_, o, q, z⟩ := key p hp
    rw [q, He.emptyTab_eq z]⟩
def hookJ (n : Nat) (fa : List He.Fa) (fn : List He.DefD) (is : List IniD) (file : Str) (ex : PySem.W.Frag → Bool) (tf : List He.Defn) : PySem.W.Hook where
  α := AlI
  obs := fun s => obsJ n fa fn is file ex tf s.heap.get?
  val := fun _ => valI fn is
  says := fun _ h => ∃ K : PySem.W.Frag, K.In h ∧ SaysJ fa fn is file ex tf h K
  of := fun _ _ e => ⟨_, He.frT_in, saysJ_of e⟩
  keeps := fun _ _ _ ⟨K, hK, c⟩ k => ⟨K, PySem.W.Frag.In.keeps hK k, ⟨c.d, c.ini, c.more, c.hd, c.out, fun p hp => k _ _ (c.empty p hp)⟩⟩
theorem obsJ_eq {n : Nat} {fa : List He.Fa} {fn : List He.DefD} {is : List IniD} {file : Str} {ex : PySem.W.Frag → Bool} {tf : List He.Defn} {g : Addr → Option Obj} {s : Shared} (h : ∀ a, g a = s.heap.get? a) : obsJ n fa fn is file ex tf g = (hookJ n fa fn is file ex tf).obs s := by
  have e : g = s.heap.get? := funext h
  rw [e] <;> rfl
end DH
end S_DH3
section S_K12H
set_option Elab.async false
set_option linter.all false
set_option maxRecDepth 100000
set_option maxHeartbeats 0
namespace K12H
open PySem PySem.Spec PyProof.Rows L2
open K12 (top)
def d_is_name : He.DefD := ⟨("is_name", none), "is_name", "is_name", defArgs (top 10), defBody (top 10), defScope (top 10), [], []⟩
def d_are_names : He.DefD := ⟨("are_names", none), "are_names", "are_names", defArgs (top 11), defBody (top 11), defScope (top 11), [], []⟩
def d_is_taps : He.DefD := ⟨("is_taps", none), "is_taps", "is_taps", defArgs (top 12), defBody (top 12), defScope (top 12), [], []⟩
def d_is_whole : He.DefD := ⟨("is_whole", none), "is_whole", "is_whole", defArgs (top 14), defBody (top 14), defScope (top 14), [], []⟩
def d_is_number : He.DefD := ⟨("is_number", none), "is_number", "is_number", defArgs (top 15), defBody (top 15), defScope (top 15), [], []⟩
def d_top_of : He.DefD := ⟨("top_of", none), "top_of", "top_of", defArgs (top 16), defBody (top 16), defScope (top 16), [], []⟩
def d_bottom_of : He.DefD := ⟨("bottom_of", none), "bottom_of", "bottom_of", defArgs (top 17), defBody (top 17), defScope (top 17), [], []⟩
def d_is_less : He.DefD := ⟨("is_less", none), "is_less", "is_less", defArgs (top 18), defBody (top 18), defScope (top 18), [], []⟩
def d_is_width : He.DefD := ⟨("is_width", none), "is_width", "is_width", defArgs (top 22), defBody (top 22), defScope (top 22), [], []⟩
def d_is_part : He.DefD := ⟨("is_part", none), "is_part", "is_part", defArgs (top 23), defBody (top 23), defScope (top 23), [], []⟩
def d_ends : He.DefD := ⟨("ends", none), "ends", "ends", defArgs (top 24), defBody (top 24), defScope (top 24), [], []⟩
def d_named_places : He.DefD := ⟨("named_places", none), "named_places", "named_places", defArgs (top 25), defBody (top 25), defScope (top 25), [], []⟩
def d_has_kind : He.DefD := ⟨("has_kind", none), "has_kind", "has_kind", defArgs (top 26), defBody (top 26), defScope (top 26), [], []⟩
def d_is_net : He.DefD := ⟨("is_net", none), "is_net", "is_net", defArgs (top 27), defBody (top 27), defScope (top 27), [], []⟩
def d_need_net : He.DefD := ⟨("need_net", none), "need_net", "need_net", defArgs (top 28), defBody (top 28), defScope (top 28), [], []⟩
def d_number_text : He.DefD := ⟨("number_text", none), "number_text", "number_text", defArgs (top 31), defBody (top 31), defScope (top 31), [], []⟩
def d_part_text : He.DefD := ⟨("part_text", none), "part_text", "part_text", defArgs (top 32), defBody (top 32), defScope (top 32), [], []⟩
def d_net_text : He.DefD := ⟨("net_text", none), "net_text", "net_text", defArgs (top 33), defBody (top 33), defScope (top 33), [], []⟩
def d_whole_of : He.DefD := ⟨("whole_of", none), "whole_of", "whole_of", defArgs (top 34), defBody (top 34), defScope (top 34), [], []⟩
def d_number_of : He.DefD := ⟨("number_of", none), "number_of", "number_of", defArgs (top 35), defBody (top 35), defScope (top 35), [], []⟩
def d_part_of_line : He.DefD := ⟨("part_of_line", none), "part_of_line", "part_of_line", defArgs (top 36), defBody (top 36), defScope (top 36), [], []⟩
def d_read_net : He.DefD := ⟨("read_net", none), "read_net", "read_net", defArgs (top 37), defBody (top 37), defScope (top 37), [], []⟩
def d__law_begun : He.DefD := ⟨("_law_begun", none), "_law_begun", "_law_begun", defArgs (top 39), defBody (top 39), defScope (top 39), [], []⟩
def d__law_blended : He.DefD := ⟨("_law_blended", none), "_law_blended", "_law_blended", defArgs (top 40), defBody (top 40), defScope (top 40), [], []⟩
def d__law_draw : He.DefD := ⟨("_law_draw", none), "_law_draw", "_law_draw", defArgs (top 41), defBody (top 41), defScope (top 41), [], []⟩
def d__law_pick : He.DefD := ⟨("_law_pick", none), "_law_pick", "_law_pick", defArgs (top 42), defBody (top 42), defScope (top 42), [], []⟩
def d__law_shuffled : He.DefD := ⟨("_law_shuffled", none), "_law_shuffled", "_law_shuffled", defArgs (top 43), defBody (top 43), defScope (top 43), [], []⟩
def d__law_caught : He.DefD := ⟨("_law_caught", none), "_law_caught", "_law_caught", defArgs (top 44), defBody (top 44), defScope (top 44), [], []⟩
def d__law_ct_gcd : He.DefD := ⟨("_law_ct_gcd", none), "_law_ct_gcd", "_law_ct_gcd", defArgs (top 45), defBody (top 45), defScope (top 45), [], []⟩
def d__law_ct_made : He.DefD := ⟨("_law_ct_made", none), "_law_ct_made", "_law_ct_made", defArgs (top 46), defBody (top 46), defScope (top 46), [], []⟩
def d__law_ct_top : He.DefD := ⟨("_law_ct_top", none), "_law_ct_top", "_law_ct_top", defArgs (top 47), defBody (top 47), defScope (top 47), [], []⟩
def d__law_ct_low : He.DefD := ⟨("_law_ct_low", none), "_law_ct_low", "_law_ct_low", defArgs (top 48), defBody (top 48), defScope (top 48), [], []⟩
def d__law_ct_less : He.DefD := ⟨("_law_ct_less", none), "_law_ct_less", "_law_ct_less", defArgs (top 49), defBody (top 49), defScope (top 49), [], []⟩
def d__law_ct_is_number : He.DefD := ⟨("_law_ct_is_number", none), "_law_ct_is_number", "_law_ct_is_number", defArgs (top 50), defBody (top 50), defScope (top 50), [], []⟩
def d__law_ct_number : He.DefD := ⟨("_law_ct_number", none), "_law_ct_number", "_law_ct_number", defArgs (top 51), defBody (top 51), defScope (top 51), [], []⟩
def d__law_ct_taps : He.DefD := ⟨("_law_ct_taps", none), "_law_ct_taps", "_law_ct_taps", defArgs (top 52), defBody (top 52), defScope (top 52), [], []⟩
def d__law_ct_part : He.DefD := ⟨("_law_ct_part", none), "_law_ct_part", "_law_ct_part", defArgs (top 53), defBody (top 53), defScope (top 53), [], []⟩
def d__law_ct_net : He.DefD := ⟨("_law_ct_net", none), "_law_ct_net", "_law_ct_net", defArgs (top 54), defBody (top 54), defScope (top 54), [], []⟩
def d__law_an_every : He.DefD := ⟨("_law_an_every", none), "_law_an_every", "_law_an_every", defArgs (top 55), defBody (top 55), defScope (top 55), [], []⟩
def d__law_an_ends : He.DefD := ⟨("_law_an_ends", none), "_law_an_ends", "_law_an_ends", defArgs (top 56), defBody (top 56), defScope (top 56), [], []⟩
def d__law_an_width : He.DefD := ⟨("_law_an_width", none), "_law_an_width", "_law_an_width", defArgs (top 57), defBody (top 57), defScope (top 57), [], []⟩
def d__law_an_net : He.DefD := ⟨("_law_an_net", none), "_law_an_net", "_law_an_net", defArgs (top 58), defBody (top 58), defScope (top 58), [], []⟩
def d__law_an_drawn : He.DefD := ⟨("_law_an_drawn", none), "_law_an_drawn", "_law_an_drawn", defArgs (top 59), defBody (top 59), defScope (top 59), [], []⟩
def d__law_an_is_word : He.DefD := ⟨("_law_an_is_word", none), "_law_an_is_word", "_law_an_is_word", defArgs (top 60), defBody (top 60), defScope (top 60), [], []⟩
def d__law_an_rising : He.DefD := ⟨("_law_an_rising", none), "_law_an_rising", "_law_an_rising", defArgs (top 61), defBody (top 61), defScope (top 61), [], []⟩
def d__law_an_is_wide : He.DefD := ⟨("_law_an_is_wide", none), "_law_an_is_wide", "_law_an_is_wide", defArgs (top 62), defBody (top 62), defScope (top 62), [], []⟩
def d__law_an_is_part : He.DefD := ⟨("_law_an_is_part", none), "_law_an_is_part", "_law_an_is_part", defArgs (top 63), defBody (top 63), defScope (top 63), [], []⟩
def d__law_an_is_net : He.DefD := ⟨("_law_an_is_net", none), "_law_an_is_net", "_law_an_is_net", defArgs (top 64), defBody (top 64), defScope (top 64), [], []⟩
def d__law_an_number_words : He.DefD := ⟨("_law_an_number_words", none), "_law_an_number_words", "_law_an_number_words", defArgs (top 65), defBody (top 65), defScope (top 65), [], []⟩
def d__law_an_written : He.DefD := ⟨("_law_an_written", none), "_law_an_written", "_law_an_written", defArgs (top 66), defBody (top 66), defScope (top 66), [], []⟩
def d__law_an_digits : He.DefD := ⟨("_law_an_digits", none), "_law_an_digits", "_law_an_digits", defArgs (top 67), defBody (top 67), defScope (top 67), [], []⟩
def d__law_an_read_number : He.DefD := ⟨("_law_an_read_number", none), "_law_an_read_number", "_law_an_read_number", defArgs (top 68), defBody (top 68), defScope (top 68), [], []⟩
def d__law_an_read_part : He.DefD := ⟨("_law_an_read_part", none), "_law_an_read_part", "_law_an_read_part", defArgs (top 69), defBody (top 69), defScope (top 69), [], []⟩
def d__law_an_read : He.DefD := ⟨("_law_an_read", none), "_law_an_read", "_law_an_read", defArgs (top 70), defBody (top 70), defScope (top 70), [], []⟩
def d__law_an_near_text : He.DefD := ⟨("_law_an_near_text", none), "_law_an_near_text", "_law_an_near_text", defArgs (top 71), defBody (top 71), defScope (top 71), [], []⟩
def d_law : He.DefD := ⟨("law", none), "law", "law", defArgs (top 72), defBody (top 72), defScope (top 72), [], []⟩
def fn : List He.DefD := [d_is_name, d_are_names, d_is_taps, d_is_whole, d_is_number, d_top_of, d_bottom_of, d_is_less, d_is_width, d_is_part, d_ends, d_named_places, d_has_kind, d_is_net, d_need_net, d_number_text, d_part_text, d_net_text, d_whole_of, d_number_of, d_part_of_line, d_read_net, d__law_begun, d__law_blended, d__law_draw, d__law_pick, d__law_shuffled, d__law_caught, d__law_ct_gcd, d__law_ct_made, d__law_ct_top, d__law_ct_low, d__law_ct_less, d__law_ct_is_number, d__law_ct_number, d__law_ct_taps, d__law_ct_part, d__law_ct_net, d__law_an_every, d__law_an_ends, d__law_an_width, d__law_an_net, d__law_an_drawn, d__law_an_is_word, d__law_an_rising, d__law_an_is_wide, d__law_an_is_part, d__law_an_is_net, d__law_an_number_words, d__law_an_written, d__law_an_digits, d__law_an_read_number, d__law_an_read_part, d__law_an_read, d__law_an_near_text, d_law]
def cst (s : Stmt) (j : Nat) : Stmt := match s with
  | .ClassDef _ _ _ b _ _ _ _ _ _ _ => b.getD j (.Pass ⟨0, 0, 0, 0⟩)
  | s => s
def fa : List He.Fa := [.glo "is_name", .glo "are_names", .glo "is_taps", .glo "is_whole", .glo "is_number", .glo "top_of", .glo "bottom_of", .glo "is_less", .glo "is_width", .glo "is_part", .glo "ends", .glo "named_places", .glo "has_kind", .glo "is_net", .glo "need_net", .glo "number_text", .glo "part_text", .glo "net_text", .glo "whole_of", .glo "number_of", .glo "part_of_line", .glo "read_net", .glo "_law_begun", .glo "_law_blended", .glo "_law_draw", .glo "_law_pick", .glo "_law_shuffled", .glo "_law_caught", .glo "_law_ct_gcd", .glo "_law_ct_made", .glo "_law_ct_top", .glo "_law_ct_low", .glo "_law_ct_less", .glo "_law_ct_is_number", .glo "_law_ct_number", .glo "_law_ct_taps", .glo "_law_ct_part", .glo "_law_ct_net", .glo "_law_an_every", .glo "_law_an_ends", .glo "_law_an_width", .glo "_law_an_net", .glo "_law_an_drawn", .glo "_law_an_is_word", .glo "_law_an_rising", .glo "_law_an_is_wide", .glo "_law_an_is_part", .glo "_law_an_is_net", .glo "_law_an_number_words", .glo "_law_an_written", .glo "_law_an_digits", .glo "_law_an_read_number", .glo "_law_an_read_part", .glo "_law_an_read", .glo "_law_an_near_text", .glo "law", .glo "TapError", .glo "BadNet", .glo "BadText", .free "len", .free "all", .free "any", .free "abs", .free "min", .free "max", .free "sorted", .free "tuple", .free "list", .free "int", .free "str", .free "bool", .free "isinstance", .free "range", .free "zip", .free "enumerate", .free "set", .free "super", .free "ValueError", .str "LETTERS" "abcdefghijklmnopqrstuvwxyz", .str "DIGITS" "0123456789", .int "LEAST_TAPS" 2, .int "MOST_TAPS" 6, .int "MOST_PARTS" 200, .int "MOST_PLACES" 40, .int "MOST_DIGITS" 30, .exc "TapError", .exc "BadNet", .exm "BadNet" "TapError" true, .exm "BadText" "TapError" true]
def ini : List DH.IniD := [⟨"BadText", "line", "__init__", "BadText.__init__", defArgs (cst (top 4) 0), defBody (cst (top 4) 0), defScope (cst (top 4) 0)⟩]
def noDfl (K : PySem.W.Frag) (x : PySem.Str) : Bool := match K.lookup (DH.fI K x) with
  | some ⟨_, _, .func fd, _⟩ => decide (fd.defaults = .none)
  | _ => false
def ex (K : PySem.W.Frag) : Bool := true && He.eqO (PySem.W.nsIn K mainGlobals "gcd") (some (some (.builtin "math.gcd"))) && xfB K (He.ga K "BadText") && He.eqO (PySem.W.findIn K (.ref (He.ga K "BadText")) "line") (some none) && decide (PySem.W.kitOne K (.ref (He.ga K "BadText")) (.type "ValueError") = some true) && noDfl K "BadText"
def tf : List He.Defn := [("law", none)]
abbrev R : PySem.W.OpenRow := PySem.W.OpenLaw.row PySem.Challenge.rw_behindtaps_k12_texts_of_nets_there_and_b
def file : PySem.Str := PySem.Challenge.pw_behindtaps_k12_texts_of_nets_there_and_b.main.file
abbrev hk : PySem.W.Hook := DH.hookJ 5 fa fn ini file ex tf
def ob (s : PySem.W.SharedT) : DH.AlI := DH.obsJ 5 fa fn ini file ex tf (HandSHeadRun.getT s)
theorem ob_eq (s : PySem.W.SharedT) : ob s = hk.obs s.abs := DH.obsJ_eq (HandSHeadRun.getT_eq s)
def nm0 : List PySem.Str := ["TapError", "BadNet", "BadText", "LETTERS", "DIGITS", "LEAST_TAPS", "MOST_TAPS", "is_name", "are_names", "is_taps", "is_whole", "is_number", "top_of", "bottom_of", "is_less", "MOST_PARTS", "MOST_PLACES", "is_width", "is_part", "ends", "named_places", "has_kind", "is_net", "need_net", "MOST_DIGITS", "number_text", "part_text", "net_text", "whole_of", "number_of"]
def nm1 : List PySem.Str := ["part_of_line", "read_net", "_law_begun", "_law_blended", "_law_draw", "_law_pick", "_law_shuffled", "_law_caught", "_law_ct_gcd", "_law_ct_made", "_law_ct_top", "_law_ct_low", "_law_ct_less", "_law_ct_is_number", "_law_ct_number", "_law_ct_taps", "_law_ct_part", "_law_ct_net", "_law_an_every", "_law_an_ends", "_law_an_width", "_law_an_net", "_law_an_drawn", "_law_an_is_word", "_law_an_rising", "_law_an_is_wide", "_law_an_is_part", "_law_an_is_net", "_law_an_number_words", "_law_an_written"]
def nm2 : List PySem.Str := ["_law_an_digits", "_law_an_read_number", "_law_an_read_part", "_law_an_read", "_law_an_near_text"]
def nms : List PySem.Str := nm0 ++ nm1 ++ nm2
theorem run (w : World) : HandSHeadRun.RunEqI R (PySem.W.view R.prog [0, 72]) hk ob 12000 nms w := by
  unfold HandSHeadRun.RunEqI
  kernel_rfl
end K12H
end S_K12H
section S_K12I
set_option Elab.async false
set_option linter.all false
set_option autoImplicit false
set_option maxRecDepth 100000
set_option maxHeartbeats 0
namespace K12
open PySem PySem.Spec PyProof.Rows L2 DL
theorem init_BadText {w : World} {K : PySem.W.Frag} {mg : Str → Option Value} {h base : Heap} (c : DH.SaysJ K12H.fa K12H.fn K12H.ini K12H.file K12H.ex K12H.tf h K) (m : mg "BadText" = some (.ref (He.ga K "BadText"))) (hd : K12H.noDfl K "BadText" = true) (KB : K.In base) (GB : base.Ns mainGlobals mg) : InitF K12H.R.prog w K mg base 1 "BadText" "line" := by
  obtain ⟨hok, hv⟩ := c.ini 0 _ rfl
  obtain ⟨I, f1, f2, f3⟩ := DH.IniD.okK (P := K12H.R.prog) KB GB (by decide +kernel) hok
  obtain ⟨oc, od, osl, dV, kV, doc, pm, an, ct, lk, hcd⟩ := DH.IniD.okF hv hok
  have hn : dV = .none := by
    unfold K12H.noDfl at hd
    have lk2 : K.lookup (DH.fI K "BadText") = _ := lk
    rw [lk2] at hd
    exact of_decide_eq_true hd
  subst hn
  refine ⟨I.oex, m, _, _, ["self", "line"], f1, f2, ?_, DX.fn_init (me := "self") (par := "line") (fld := "line") (m := "wrong line ") I lk hcd rfl rfl (NdefX.nscope_by (by decide +kernel)) (by rfl) (by decide) (fun L => ⟨_, rfl⟩) (fun L => rfl) (fun L => rfl) (fun L => rfl) (by decide) (by decide) (by decide) (by decide)⟩
  exact .all fun us hl => match us, hl with | [_, _], _ => rfl
end K12
end S_K12I
section S_K12J
set_option Elab.async false
set_option linter.all false
set_option autoImplicit false
set_option maxRecDepth 100000
set_option maxHeartbeats 0
namespace K12
open PySem PySem.Spec PyProof.Rows L2 DL
theorem law_ok {w : World} {K : PySem.W.Frag} {mg : Str → Option Value} {h : Heap} (X : K.In h) (G : h.Ns mainGlobals mg) (c : DH.SaysJ K12H.fa K12H.fn K12H.ini K12H.file K12H.ex K12H.tf h K) :
    ∃ fd : FuncData, (∀ (s : Shared) (u : Value), BindsTo s fd ⟨[u], []⟩ [("_law_script", u)]) ∧ mg "law" = some (.ref (He.ga K "law")) ∧ ∀ base : Heap, K.In base → base.Ns mainGlobals mg → (∀ p ∈ [He.cT K ("law", none)], LamX.TabB base mg p.1 p.2) →
      FnOk K12H.R.prog w K mg base (L2.CX K12H.R.prog w) 10 (He.ga K "law") fd ["_law_script"] (spLaw K (He.cT K ("law", none)).2) := by
  obtain ⟨fd_is_name, F_is_name⟩ := c.d.def_ 0 (d := K12H.d_is_name) rfl
  have m_is_name : mg "is_name" = some (.ref (He.ga K "is_name")) := He.glo_ok X G (c.d.fact 0 (f := .glo "is_name") rfl)
  have a_is_name : At K mg "is_name" (defArgs (top 10)) (defBody (top 10)) (defScope (top 10)) := ⟨fd_is_name, F_is_name, m_is_name⟩
  obtain ⟨fd_are_names, F_are_names⟩ := c.d.def_ 1 (d := K12H.d_are_names) rfl
  have m_are_names : mg "are_names" = some (.ref (He.ga K "are_names")) := He.glo_ok X G (c.d.fact 1 (f := .glo "are_names") rfl)
  have a_are_names : At K mg "are_names" (defArgs (top 11)) (defBody (top 11)) (defScope (top 11)) := ⟨fd_are_names, F_are_names, m_are_names⟩
  obtain ⟨fd_is_taps, F_is_taps⟩ := c.d.def_ 2 (d := K12H.d_is_taps) rfl
  have m_is_taps : mg "is_taps" = some (.ref (He.ga K "is_taps")) := He.glo_ok X G (c.d.fact 2 (f := .glo "is_taps") rfl)
  have a_is_taps : At K mg "is_taps" (defArgs (top 12)) (defBody (top 12)) (defScope (top 12)) := ⟨fd_is_taps, F_is_taps, m_is_taps⟩
  obtain ⟨fd_is_whole, F_is_whole⟩ := c.d.def_ 3 (d := K12H.d_is_whole) rfl
  have m_is_whole : mg "is_whole" = some (.ref (He.ga K "is_whole")) := He.glo_ok X G (c.d.fact 3 (f := .glo "is_whole") rfl)
  have a_is_whole : At K mg "is_whole" (defArgs (top 14)) (defBody (top 14)) (defScope (top 14)) := ⟨fd_is_whole, F_is_whole, m_is_whole⟩
  obtain ⟨fd_is_number, F_is_number⟩ := c.d.def_ 4 (d := K12H.d_is_number) rfl
  have m_is_number : mg "is_number" = some (.ref (He.ga K "is_number")) := He.glo_ok X G (c.d.fact 4 (f := .glo "is_number") rfl)
  have a_is_number : At K mg "is_number" (defArgs (top 15)) (defBody (top 15)) (defScope (top 15)) := ⟨fd_is_number, F_is_number, m_is_number⟩
  obtain ⟨fd_top_of, F_top_of⟩ := c.d.def_ 5 (d := K12H.d_top_of) rfl
  have m_top_of : mg "top_of" = some (.ref (He.ga K "top_of")) := He.glo_ok X G (c.d.fact 5 (f := .glo "top_of") rfl)
  have a_top_of : At K mg "top_of" (defArgs (top 16)) (defBody (top 16)) (defScope (top 16)) := ⟨fd_top_of, F_top_of, m_top_of⟩
  obtain ⟨fd_bottom_of, F_bottom_of⟩ := c.d.def_ 6 (d := K12H.d_bottom_of) rfl
  have m_bottom_of : mg "bottom_of" = some (.ref (He.ga K "bottom_of")) := He.glo_ok X G (c.d.fact 6 (f := .glo "bottom_of") rfl)
  have a_bottom_of : At K mg "bottom_of" (defArgs (top 17)) (defBody (top 17)) (defScope (top 17)) := ⟨fd_bottom_of, F_bottom_of, m_bottom_of⟩
  obtain ⟨fd_is_less, F_is_less⟩ := c.d.def_ 7 (d := K12H.d_is_less) rfl
  have m_is_less : mg "is_less" = some (.ref (He.ga K "is_less")) := He.glo_ok X G (c.d.fact 7 (f := .glo "is_less") rfl)
  have a_is_less : At K mg "is_less" (defArgs (top 18)) (defBody (top 18)) (defScope (top 18)) := ⟨fd_is_less, F_is_less, m_is_less⟩
  obtain ⟨fd_is_width, F_is_width⟩ := c.d.def_ 8 (d := K12H.d_is_width) rfl
  have m_is_width : mg "is_width" = some (.ref (He.ga K "is_width")) := He.glo_ok X G (c.d.fact 8 (f := .glo "is_width") rfl)
  have a_is_width : At K mg "is_width" (defArgs (top 22)) (defBody (top 22)) (defScope (top 22)) := ⟨fd_is_width, F_is_width, m_is_width⟩
  obtain ⟨fd_is_part, F_is_part⟩ := c.d.def_ 9 (d := K12H.d_is_part) rfl
  have m_is_part : mg "is_part" = some (.ref (He.ga K "is_part")) := He.glo_ok X G (c.d.fact 9 (f := .glo "is_part") rfl)
  have a_is_part : At K mg "is_part" (defArgs (top 23)) (defBody (top 23)) (defScope (top 23)) := ⟨fd_is_part, F_is_part, m_is_part⟩
  obtain ⟨fd_ends, F_ends⟩ := c.d.def_ 10 (d := K12H.d_ends) rfl
  have m_ends : mg "ends" = some (.ref (He.ga K "ends")) := He.glo_ok X G (c.d.fact 10 (f := .glo "ends") rfl)
  have a_ends : At K mg "ends" (defArgs (top 24)) (defBody (top 24)) (defScope (top 24)) := ⟨fd_ends, F_ends, m_ends⟩
  obtain ⟨fd_named_places, F_named_places⟩ := c.d.def_ 11 (d := K12H.d_named_places) rfl
  have m_named_places : mg "named_places" = some (.ref (He.ga K "named_places")) := He.glo_ok X G (c.d.fact 11 (f := .glo "named_places") rfl)
  have a_named_places : At K mg "named_places" (defArgs (top 25)) (defBody (top 25)) (defScope (top 25)) := ⟨fd_named_places, F_named_places, m_named_places⟩
  obtain ⟨fd_has_kind, F_has_kind⟩ := c.d.def_ 12 (d := K12H.d_has_kind) rfl
  have m_has_kind : mg "has_kind" = some (.ref (He.ga K "has_kind")) := He.glo_ok X G (c.d.fact 12 (f := .glo "has_kind") rfl)
  have a_has_kind : At K mg "has_kind" (defArgs (top 26)) (defBody (top 26)) (defScope (top 26)) := ⟨fd_has_kind, F_has_kind, m_has_kind⟩
  obtain ⟨fd_is_net, F_is_net⟩ := c.d.def_ 13 (d := K12H.d_is_net) rfl
  have m_is_net : mg "is_net" = some (.ref (He.ga K "is_net")) := He.glo_ok X G (c.d.fact 13 (f := .glo "is_net") rfl)
  have a_is_net : At K mg "is_net" (defArgs (top 27)) (defBody (top 27)) (defScope (top 27)) := ⟨fd_is_net, F_is_net, m_is_net⟩
  obtain ⟨fd_need_net, F_need_net⟩ := c.d.def_ 14 (d := K12H.d_need_net) rfl
  have m_need_net : mg "need_net" = some (.ref (He.ga K "need_net")) := He.glo_ok X G (c.d.fact 14 (f := .glo "need_net") rfl)
  have a_need_net : At K mg "need_net" (defArgs (top 28)) (defBody (top 28)) (defScope (top 28)) := ⟨fd_need_net, F_need_net, m_need_net⟩
  obtain ⟨fd_number_text, F_number_text⟩ := c.d.def_ 15 (d := K12H.d_number_text) rfl
  have m_number_text : mg "number_text" = some (.ref (He.ga K "number_text")) := He.glo_ok X G (c.d.fact 15 (f := .glo "number_text") rfl)
  have a_number_text : At K mg "number_text" (defArgs (top 31)) (defBody (top 31)) (defScope (top 31)) := ⟨fd_number_text, F_number_text, m_number_text⟩
  obtain ⟨fd_part_text, F_part_text⟩ := c.d.def_ 16 (d := K12H.d_part_text) rfl
  have m_part_text : mg "part_text" = some (.ref (He.ga K "part_text")) := He.glo_ok X G (c.d.fact 16 (f := .glo "part_text") rfl)
  have a_part_text : At K mg "part_text" (defArgs (top 32)) (defBody (top 32)) (defScope (top 32)) := ⟨fd_part_text, F_part_text, m_part_text⟩
  obtain ⟨fd_net_text, F_net_text⟩ := c.d.def_ 17 (d := K12H.d_net_text) rfl
  have m_net_text : mg "net_text" = some (.ref (He.ga K "net_text")) := He.glo_ok X G (c.d.fact 17 (f := .glo "net_text") rfl)
  have a_net_text : At K mg "net_text" (defArgs (top 33)) (defBody (top 33)) (defScope (top 33)) := ⟨fd_net_text, F_net_text, m_net_text⟩
  obtain ⟨fd_whole_of, F_whole_of⟩ := c.d.def_ 18 (d := K12H.d_whole_of) rfl
  have m_whole_of : mg "whole_of" = some (.ref (He.ga K "whole_of")) := He.glo_ok X G (c.d.fact 18 (f := .glo "whole_of") rfl)
  have a_whole_of : At K mg "whole_of" (defArgs (top 34)) (defBody (top 34)) (defScope (top 34)) := ⟨fd_whole_of, F_whole_of, m_whole_of⟩
  obtain ⟨fd_number_of, F_number_of⟩ := c.d.def_ 19 (d := K12H.d_number_of) rfl
  have m_number_of : mg "number_of" = some (.ref (He.ga K "number_of")) := He.glo_ok X G (c.d.fact 19 (f := .glo "number_of") rfl)
  have a_number_of : At K mg "number_of" (defArgs (top 35)) (defBody (top 35)) (defScope (top 35)) := ⟨fd_number_of, F_number_of, m_number_of⟩
  obtain ⟨fd_part_of_line, F_part_of_line⟩ := c.d.def_ 20 (d := K12H.d_part_of_line) rfl
  have m_part_of_line : mg "part_of_line" = some (.ref (He.ga K "part_of_line")) := He.glo_ok X G (c.d.fact 20 (f := .glo "part_of_line") rfl)
  have a_part_of_line : At K mg "part_of_line" (defArgs (top 36)) (defBody (top 36)) (defScope (top 36)) := ⟨fd_part_of_line, F_part_of_line, m_part_of_line⟩
  obtain ⟨fd_read_net, F_read_net⟩ := c.d.def_ 21 (d := K12H.d_read_net) rfl
  have m_read_net : mg "read_net" = some (.ref (He.ga K "read_net")) := He.glo_ok X G (c.d.fact 21 (f := .glo "read_net") rfl)
  have a_read_net : At K mg "read_net" (defArgs (top 37)) (defBody (top 37)) (defScope (top 37)) := ⟨fd_read_net, F_read_net, m_read_net⟩
  obtain ⟨fd__law_begun, F__law_begun⟩ := c.d.def_ 22 (d := K12H.d__law_begun) rfl
  have m__law_begun : mg "_law_begun" = some (.ref (He.ga K "_law_begun")) := He.glo_ok X G (c.d.fact 22 (f := .glo "_law_begun") rfl)
  have a__law_begun : At K mg "_law_begun" (defArgs (top 39)) (defBody (top 39)) (defScope (top 39)) := ⟨fd__law_begun, F__law_begun, m__law_begun⟩
  obtain ⟨fd__law_blended, F__law_blended⟩ := c.d.def_ 23 (d := K12H.d__law_blended) rfl
  have m__law_blended : mg "_law_blended" = some (.ref (He.ga K "_law_blended")) := He.glo_ok X G (c.d.fact 23 (f := .glo "_law_blended") rfl)
  have a__law_blended : At K mg "_law_blended" (defArgs (top 40)) (defBody (top 40)) (defScope (top 40)) := ⟨fd__law_blended, F__law_blended, m__law_blended⟩
  obtain ⟨fd__law_draw, F__law_draw⟩ := c.d.def_ 24 (d := K12H.d__law_draw) rfl
  have m__law_draw : mg "_law_draw" = some (.ref (He.ga K "_law_draw")) := He.glo_ok X G (c.d.fact 24 (f := .glo "_law_draw") rfl)
  have a__law_draw : At K mg "_law_draw" (defArgs (top 41)) (defBody (top 41)) (defScope (top 41)) := ⟨fd__law_draw, F__law_draw, m__law_draw⟩
  obtain ⟨fd__law_pick, F__law_pick⟩ := c.d.def_ 25 (d := K12H.d__law_pick) rfl
  have m__law_pick : mg "_law_pick" = some (.ref (He.ga K "_law_pick")) := He.glo_ok X G (c.d.fact 25 (f := .glo "_law_pick") rfl)
  have a__law_pick : At K mg "_law_pick" (defArgs (top 42)) (defBody (top 42)) (defScope (top 42)) := ⟨fd__law_pick, F__law_pick, m__law_pick⟩
  obtain ⟨fd__law_shuffled, F__law_shuffled⟩ := c.d.def_ 26 (d := K12H.d__law_shuffled) rfl
  have m__law_shuffled : mg "_law_shuffled" = some (.ref (He.ga K "_law_shuffled")) := He.glo_ok X G (c.d.fact 26 (f := .glo "_law_shuffled") rfl)
  have a__law_shuffled : At K mg "_law_shuffled" (defArgs (top 43)) (defBody (top 43)) (defScope (top 43)) := ⟨fd__law_shuffled, F__law_shuffled, m__law_shuffled⟩
  obtain ⟨fd__law_caught, F__law_caught⟩ := c.d.def_ 27 (d := K12H.d__law_caught) rfl
  have m__law_caught : mg "_law_caught" = some (.ref (He.ga K "_law_caught")) := He.glo_ok X G (c.d.fact 27 (f := .glo "_law_caught") rfl)
  have a__law_caught : At K mg "_law_caught" (defArgs (top 44)) (defBody (top 44)) (defScope (top 44)) := ⟨fd__law_caught, F__law_caught, m__law_caught⟩
  obtain ⟨fd__law_ct_gcd, F__law_ct_gcd⟩ := c.d.def_ 28 (d := K12H.d__law_ct_gcd) rfl
  have m__law_ct_gcd : mg "_law_ct_gcd" = some (.ref (He.ga K "_law_ct_gcd")) := He.glo_ok X G (c.d.fact 28 (f := .glo "_law_ct_gcd") rfl)
  have a__law_ct_gcd : At K mg "_law_ct_gcd" (defArgs (top 45)) (defBody (top 45)) (defScope (top 45)) := ⟨fd__law_ct_gcd, F__law_ct_gcd, m__law_ct_gcd⟩
  obtain ⟨fd__law_ct_made, F__law_ct_made⟩ := c.d.def_ 29 (d := K12H.d__law_ct_made) rfl
  have m__law_ct_made : mg "_law_ct_made" = some (.ref (He.ga K "_law_ct_made")) := He.glo_ok X G (c.d.fact 29 (f := .glo "_law_ct_made") rfl)
  have a__law_ct_made : At K mg "_law_ct_made" (defArgs (top 46)) (defBody (top 46)) (defScope (top 46)) := ⟨fd__law_ct_made, F__law_ct_made, m__law_ct_made⟩
  obtain ⟨fd__law_ct_top, F__law_ct_top⟩ := c.d.def_ 30 (d := K12H.d__law_ct_top) rfl
  have m__law_ct_top : mg "_law_ct_top" = some (.ref (He.ga K "_law_ct_top")) := He.glo_ok X G (c.d.fact 30 (f := .glo "_law_ct_top") rfl)
  have a__law_ct_top : At K mg "_law_ct_top" (defArgs (top 47)) (defBody (top 47)) (defScope (top 47)) := ⟨fd__law_ct_top, F__law_ct_top, m__law_ct_top⟩
  obtain ⟨fd__law_ct_low, F__law_ct_low⟩ := c.d.def_ 31 (d := K12H.d__law_ct_low) rfl
  have m__law_ct_low : mg "_law_ct_low" = some (.ref (He.ga K "_law_ct_low")) := He.glo_ok X G (c.d.fact 31 (f := .glo "_law_ct_low") rfl)
  have a__law_ct_low : At K mg "_law_ct_low" (defArgs (top 48)) (defBody (top 48)) (defScope (top 48)) := ⟨fd__law_ct_low, F__law_ct_low, m__law_ct_low⟩
  obtain ⟨fd__law_ct_less, F__law_ct_less⟩ := c.d.def_ 32 (d := K12H.d__law_ct_less) rfl
  have m__law_ct_less : mg "_law_ct_less" = some (.ref (He.ga K "_law_ct_less")) := He.glo_ok X G (c.d.fact 32 (f := .glo "_law_ct_less") rfl)
  have a__law_ct_less : At K mg "_law_ct_less" (defArgs (top 49)) (defBody (top 49)) (defScope (top 49)) := ⟨fd__law_ct_less, F__law_ct_less, m__law_ct_less⟩
  obtain ⟨fd__law_ct_is_number, F__law_ct_is_number⟩ := c.d.def_ 33 (d := K12H.d__law_ct_is_number) rfl
  have m__law_ct_is_number : mg "_law_ct_is_number" = some (.ref (He.ga K "_law_ct_is_number")) := He.glo_ok X G (c.d.fact 33 (f := .glo "_law_ct_is_number") rfl)
  have a__law_ct_is_number : At K mg "_law_ct_is_number" (defArgs (top 50)) (defBody (top 50)) (defScope (top 50)) := ⟨fd__law_ct_is_number, F__law_ct_is_number, m__law_ct_is_number⟩
  obtain ⟨fd__law_ct_number, F__law_ct_number⟩ := c.d.def_ 34 (d := K12H.d__law_ct_number) rfl
  have m__law_ct_number : mg "_law_ct_number" = some (.ref (He.ga K "_law_ct_number")) := He.glo_ok X G (c.d.fact 34 (f := .glo "_law_ct_number") rfl)
  have a__law_ct_number : At K mg "_law_ct_number" (defArgs (top 51)) (defBody (top 51)) (defScope (top 51)) := ⟨fd__law_ct_number, F__law_ct_number, m__law_ct_number⟩
  obtain ⟨fd__law_ct_taps, F__law_ct_taps⟩ := c.d.def_ 35 (d := K12H.d__law_ct_taps) rfl
  have m__law_ct_taps : mg "_law_ct_taps" = some (.ref (He.ga K "_law_ct_taps")) := He.glo_ok X G (c.d.fact 35 (f := .glo "_law_ct_taps") rfl)
  have a__law_ct_taps : At K mg "_law_ct_taps" (defArgs (top 52)) (defBody (top 52)) (defScope (top 52)) := ⟨fd__law_ct_taps, F__law_ct_taps, m__law_ct_taps⟩
  obtain ⟨fd__law_ct_part, F__law_ct_part⟩ := c.d.def_ 36 (d := K12H.d__law_ct_part) rfl
  have m__law_ct_part : mg "_law_ct_part" = some (.ref (He.ga K "_law_ct_part")) := He.glo_ok X G (c.d.fact 36 (f := .glo "_law_ct_part") rfl)
  have a__law_ct_part : At K mg "_law_ct_part" (defArgs (top 53)) (defBody (top 53)) (defScope (top 53)) := ⟨fd__law_ct_part, F__law_ct_part, m__law_ct_part⟩
  obtain ⟨fd__law_ct_net, F__law_ct_net⟩ := c.d.def_ 37 (d := K12H.d__law_ct_net) rfl
  have m__law_ct_net : mg "_law_ct_net" = some (.ref (He.ga K "_law_ct_net")) := He.glo_ok X G (c.d.fact 37 (f := .glo "_law_ct_net") rfl)
  have a__law_ct_net : At K mg "_law_ct_net" (defArgs (top 54)) (defBody (top 54)) (defScope (top 54)) := ⟨fd__law_ct_net, F__law_ct_net, m__law_ct_net⟩
  obtain ⟨fd__law_an_every, F__law_an_every⟩ := c.d.def_ 38 (d := K12H.d__law_an_every) rfl
  have m__law_an_every : mg "_law_an_every" = some (.ref (He.ga K "_law_an_every")) := He.glo_ok X G (c.d.fact 38 (f := .glo "_law_an_every") rfl)
  have a__law_an_every : At K mg "_law_an_every" (defArgs (top 55)) (defBody (top 55)) (defScope (top 55)) := ⟨fd__law_an_every, F__law_an_every, m__law_an_every⟩
  obtain ⟨fd__law_an_ends, F__law_an_ends⟩ := c.d.def_ 39 (d := K12H.d__law_an_ends) rfl
  have m__law_an_ends : mg "_law_an_ends" = some (.ref (He.ga K "_law_an_ends")) := He.glo_ok X G (c.d.fact 39 (f := .glo "_law_an_ends") rfl)
  have a__law_an_ends : At K mg "_law_an_ends" (defArgs (top 56)) (defBody (top 56)) (defScope (top 56)) := ⟨fd__law_an_ends, F__law_an_ends, m__law_an_ends⟩
  obtain ⟨fd__law_an_width, F__law_an_width⟩ := c.d.def_ 40 (d := K12H.d__law_an_width) rfl
  have m__law_an_width : mg "_law_an_width" = some (.ref (He.ga K "_law_an_width")) := He.glo_ok X G (c.d.fact 40 (f := .glo "_law_an_width") rfl)
  have a__law_an_width : At K mg "_law_an_width" (defArgs (top 57)) (defBody (top 57)) (defScope (top 57)) := ⟨fd__law_an_width, F__law_an_width, m__law_an_width⟩
  obtain ⟨fd__law_an_net, F__law_an_net⟩ := c.d.def_ 41 (d := K12H.d__law_an_net) rfl
  have m__law_an_net : mg "_law_an_net" = some (.ref (He.ga K "_law_an_net")) := He.glo_ok X G (c.d.fact 41 (f := .glo "_law_an_net") rfl)
  have a__law_an_net : At K mg "_law_an_net" (defArgs (top 58)) (defBody (top 58)) (defScope (top 58)) := ⟨fd__law_an_net, F__law_an_net, m__law_an_net⟩
  obtain ⟨fd__law_an_drawn, F__law_an_drawn⟩ := c.d.def_ 42 (d := K12H.d__law_an_drawn) rfl
  have m__law_an_drawn : mg "_law_an_drawn" = some (.ref (He.ga K "_law_an_drawn")) := He.glo_ok X G (c.d.fact 42 (f := .glo "_law_an_drawn") rfl)
  have a__law_an_drawn : At K mg "_law_an_drawn" (defArgs (top 59)) (defBody (top 59)) (defScope (top 59)) := ⟨fd__law_an_drawn, F__law_an_drawn, m__law_an_drawn⟩
  obtain ⟨fd__law_an_is_word, F__law_an_is_word⟩ := c.d.def_ 43 (d := K12H.d__law_an_is_word) rfl
  have m__law_an_is_word : mg "_law_an_is_word" = some (.ref (He.ga K "_law_an_is_word")) := He.glo_ok X G (c.d.fact 43 (f := .glo "_law_an_is_word") rfl)
  have a__law_an_is_word : At K mg "_law_an_is_word" (defArgs (top 60)) (defBody (top 60)) (defScope (top 60)) := ⟨fd__law_an_is_word, F__law_an_is_word, m__law_an_is_word⟩
  obtain ⟨fd__law_an_rising, F__law_an_rising⟩ := c.d.def_ 44 (d := K12H.d__law_an_rising) rfl
  have m__law_an_rising : mg "_law_an_rising" = some (.ref (He.ga K "_law_an_rising")) := He.glo_ok X G (c.d.fact 44 (f := .glo "_law_an_rising") rfl)
  have a__law_an_rising : At K mg "_law_an_rising" (defArgs (top 61)) (defBody (top 61)) (defScope (top 61)) := ⟨fd__law_an_rising, F__law_an_rising, m__law_an_rising⟩
  obtain ⟨fd__law_an_is_wide, F__law_an_is_wide⟩ := c.d.def_ 45 (d := K12H.d__law_an_is_wide) rfl
  have m__law_an_is_wide : mg "_law_an_is_wide" = some (.ref (He.ga K "_law_an_is_wide")) := He.glo_ok X G (c.d.fact 45 (f := .glo "_law_an_is_wide") rfl)
  have a__law_an_is_wide : At K mg "_law_an_is_wide" (defArgs (top 62)) (defBody (top 62)) (defScope (top 62)) := ⟨fd__law_an_is_wide, F__law_an_is_wide, m__law_an_is_wide⟩
  obtain ⟨fd__law_an_is_part, F__law_an_is_part⟩ := c.d.def_ 46 (d := K12H.d__law_an_is_part) rfl
  have m__law_an_is_part : mg "_law_an_is_part" = some (.ref (He.ga K "_law_an_is_part")) := He.glo_ok X G (c.d.fact 46 (f := .glo "_law_an_is_part") rfl)
  have a__law_an_is_part : At K mg "_law_an_is_part" (defArgs (top 63)) (defBody (top 63)) (defScope (top 63)) := ⟨fd__law_an_is_part, F__law_an_is_part, m__law_an_is_part⟩
  obtain ⟨fd__law_an_is_net, F__law_an_is_net⟩ := c.d.def_ 47 (d := K12H.d__law_an_is_net) rfl
  have m__law_an_is_net : mg "_law_an_is_net" = some (.ref (He.ga K "_law_an_is_net")) := He.glo_ok X G (c.d.fact 47 (f := .glo "_law_an_is_net") rfl)
  have a__law_an_is_net : At K mg "_law_an_is_net" (defArgs (top 64)) (defBody (top 64)) (defScope (top 64)) := ⟨fd__law_an_is_net, F__law_an_is_net, m__law_an_is_net⟩
  obtain ⟨fd__law_an_number_words, F__law_an_number_words⟩ := c.d.def_ 48 (d := K12H.d__law_an_number_words) rfl
  have m__law_an_number_words : mg "_law_an_number_words" = some (.ref (He.ga K "_law_an_number_words")) := He.glo_ok X G (c.d.fact 48 (f := .glo "_law_an_number_words") rfl)
  have a__law_an_number_words : At K mg "_law_an_number_words" (defArgs (top 65)) (defBody (top 65)) (defScope (top 65)) := ⟨fd__law_an_number_words, F__law_an_number_words, m__law_an_number_words⟩
  obtain ⟨fd__law_an_written, F__law_an_written⟩ := c.d.def_ 49 (d := K12H.d__law_an_written) rfl
  have m__law_an_written : mg "_law_an_written" = some (.ref (He.ga K "_law_an_written")) := He.glo_ok X G (c.d.fact 49 (f := .glo "_law_an_written") rfl)
  have a__law_an_written : At K mg "_law_an_written" (defArgs (top 66)) (defBody (top 66)) (defScope (top 66)) := ⟨fd__law_an_written, F__law_an_written, m__law_an_written⟩
  obtain ⟨fd__law_an_digits, F__law_an_digits⟩ := c.d.def_ 50 (d := K12H.d__law_an_digits) rfl
  have m__law_an_digits : mg "_law_an_digits" = some (.ref (He.ga K "_law_an_digits")) := He.glo_ok X G (c.d.fact 50 (f := .glo "_law_an_digits") rfl)
  have a__law_an_digits : At K mg "_law_an_digits" (defArgs (top 67)) (defBody (top 67)) (defScope (top 67)) := ⟨fd__law_an_digits, F__law_an_digits, m__law_an_digits⟩
  obtain ⟨fd__law_an_read_number, F__law_an_read_number⟩ := c.d.def_ 51 (d := K12H.d__law_an_read_number) rfl
  have m__law_an_read_number : mg "_law_an_read_number" = some (.ref (He.ga K "_law_an_read_number")) := He.glo_ok X G (c.d.fact 51 (f := .glo "_law_an_read_number") rfl)
  have a__law_an_read_number : At K mg "_law_an_read_number" (defArgs (top 68)) (defBody (top 68)) (defScope (top 68)) := ⟨fd__law_an_read_number, F__law_an_read_number, m__law_an_read_number⟩
  obtain ⟨fd__law_an_read_part, F__law_an_read_part⟩ := c.d.def_ 52 (d := K12H.d__law_an_read_part) rfl
  have m__law_an_read_part : mg "_law_an_read_part" = some (.ref (He.ga K "_law_an_read_part")) := He.glo_ok X G (c.d.fact 52 (f := .glo "_law_an_read_part") rfl)
  have a__law_an_read_part : At K mg "_law_an_read_part" (defArgs (top 69)) (defBody (top 69)) (defScope (top 69)) := ⟨fd__law_an_read_part, F__law_an_read_part, m__law_an_read_part⟩
  obtain ⟨fd__law_an_read, F__law_an_read⟩ := c.d.def_ 53 (d := K12H.d__law_an_read) rfl
  have m__law_an_read : mg "_law_an_read" = some (.ref (He.ga K "_law_an_read")) := He.glo_ok X G (c.d.fact 53 (f := .glo "_law_an_read") rfl)
  have a__law_an_read : At K mg "_law_an_read" (defArgs (top 70)) (defBody (top 70)) (defScope (top 70)) := ⟨fd__law_an_read, F__law_an_read, m__law_an_read⟩
  obtain ⟨fd__law_an_near_text, F__law_an_near_text⟩ := c.d.def_ 54 (d := K12H.d__law_an_near_text) rfl
  have m__law_an_near_text : mg "_law_an_near_text" = some (.ref (He.ga K "_law_an_near_text")) := He.glo_ok X G (c.d.fact 54 (f := .glo "_law_an_near_text") rfl)
  have a__law_an_near_text : At K mg "_law_an_near_text" (defArgs (top 71)) (defBody (top 71)) (defScope (top 71)) := ⟨fd__law_an_near_text, F__law_an_near_text, m__law_an_near_text⟩
  obtain ⟨fd_law, F_law⟩ := c.d.def_ 55 (d := K12H.d_law) rfl
  have m_law : mg "law" = some (.ref (He.ga K "law")) := He.glo_ok X G (c.d.fact 55 (f := .glo "law") rfl)
  have a_law : At K mg "law" (defArgs (top 72)) (defBody (top 72)) (defScope (top 72)) := ⟨fd_law, F_law, m_law⟩
  have m_TapError : mg "TapError" = some (.ref (He.ga K "TapError")) := He.glo_ok X G (c.d.fact 56 (f := .glo "TapError") rfl)
  have m_BadNet : mg "BadNet" = some (.ref (He.ga K "BadNet")) := He.glo_ok X G (c.d.fact 57 (f := .glo "BadNet") rfl)
  have m_BadText : mg "BadText" = some (.ref (He.ga K "BadText")) := He.glo_ok X G (c.d.fact 58 (f := .glo "BadText") rfl)
  have b_ValueError : mg "ValueError" = none := He.free_ok X G (c.d.fact 77 (f := .free "ValueError") rfl)
  have b_abs : mg "abs" = none := He.free_ok X G (c.d.fact 62 (f := .free "abs") rfl)
  have b_all : mg "all" = none := He.free_ok X G (c.d.fact 60 (f := .free "all") rfl)
  have b_any : mg "any" = none := He.free_ok X G (c.d.fact 61 (f := .free "any") rfl)
  have b_bool : mg "bool" = none := He.free_ok X G (c.d.fact 70 (f := .free "bool") rfl)
  have b_enumerate : mg "enumerate" = none := He.free_ok X G (c.d.fact 74 (f := .free "enumerate") rfl)
  have b_int : mg "int" = none := He.free_ok X G (c.d.fact 68 (f := .free "int") rfl)
  have b_isinstance : mg "isinstance" = none := He.free_ok X G (c.d.fact 71 (f := .free "isinstance") rfl)
  have b_len : mg "len" = none := He.free_ok X G (c.d.fact 59 (f := .free "len") rfl)
  have b_list : mg "list" = none := He.free_ok X G (c.d.fact 67 (f := .free "list") rfl)
  have b_max : mg "max" = none := He.free_ok X G (c.d.fact 64 (f := .free "max") rfl)
  have b_min : mg "min" = none := He.free_ok X G (c.d.fact 63 (f := .free "min") rfl)
  have b_range : mg "range" = none := He.free_ok X G (c.d.fact 72 (f := .free "range") rfl)
  have b_set : mg "set" = none := He.free_ok X G (c.d.fact 75 (f := .free "set") rfl)
  have b_sorted : mg "sorted" = none := He.free_ok X G (c.d.fact 65 (f := .free "sorted") rfl)
  have b_str : mg "str" = none := He.free_ok X G (c.d.fact 69 (f := .free "str") rfl)
  have b_tuple : mg "tuple" = none := He.free_ok X G (c.d.fact 66 (f := .free "tuple") rfl)
  have b_zip : mg "zip" = none := He.free_ok X G (c.d.fact 73 (f := .free "zip") rfl)
  have c0_DIGITS : ∃ t, mg "DIGITS" = some (.str "0123456789" t) := He.str_ok X G (c.d.fact 79 (f := .str "DIGITS" "0123456789") rfl)
  have c0_LEAST_TAPS : ∃ t, mg "LEAST_TAPS" = some (.int 2 t) := He.int_ok X G (c.d.fact 80 (f := .int "LEAST_TAPS" 2) rfl)
  have c0_LETTERS : ∃ t, mg "LETTERS" = some (.str "abcdefghijklmnopqrstuvwxyz" t) := He.str_ok X G (c.d.fact 78 (f := .str "LETTERS" "abcdefghijklmnopqrstuvwxyz") rfl)
  have c0_MOST_DIGITS : ∃ t, mg "MOST_DIGITS" = some (.int 30 t) := He.int_ok X G (c.d.fact 84 (f := .int "MOST_DIGITS" 30) rfl)
  have c0_MOST_PARTS : ∃ t, mg "MOST_PARTS" = some (.int 200 t) := He.int_ok X G (c.d.fact 82 (f := .int "MOST_PARTS" 200) rfl)
  have c0_MOST_PLACES : ∃ t, mg "MOST_PLACES" = some (.int 40 t) := He.int_ok X G (c.d.fact 83 (f := .int "MOST_PLACES" 40) rfl)
  have c0_MOST_TAPS : ∃ t, mg "MOST_TAPS" = some (.int 6 t) := He.int_ok X G (c.d.fact 81 (f := .int "MOST_TAPS" 6) rfl)
  have x_BadNet : ExcF K mg "BadNet" := by
    obtain ⟨e1, e2, e3, e4⟩ := He.exc_ok (c.d.fact 86 (f := .exc "BadNet") rfl)
    exact ⟨e1, m_BadNet, e2, e3, e4⟩
  have hx : K12H.ex K = true := c.more
  unfold K12H.ex at hx
  simp only [Bool.and_eq_true, decide_eq_true_eq] at hx
  obtain ⟨⟨⟨⟨⟨_, x1⟩, x2⟩, x3⟩, x4⟩, x5⟩ := hx
  have g_gcd : mg "gcd" = some (.builtin "math.gcd") := PySem.W.mg_of X G (He.eqO_ok x1)
  have xf_BadText : XfC K (He.ga K "BadText") := xfB_ok x2
  have no_BadText : PySem.W.findIn K (.ref (He.ga K "BadText")) "line" = some none := He.eqO_ok x3
  have kit_BadText_V : ∀ n ∈ (["BadText"] : List Str), PySem.W.kitOne K (.ref (He.ga K n)) (.type "ValueError") = some true := fun n hn => by rw [List.mem_singleton.mp hn]; exact x4
  have exm_BadText : ∀ n ∈ (["BadText"] : List Str), PySem.W.exmOne K (.ref (He.ga K n)) (.ref (He.ga K "TapError")) = some true := fun n hn => by rw [List.mem_singleton.mp hn]; exact He.exm_ok (c.d.fact 88 (f := .exm "BadText" "TapError" true) rfl)
  have exm_BadNet : ∀ n ∈ (["BadNet"] : List Str), PySem.W.exmOne K (.ref (He.ga K n)) (.ref (He.ga K "TapError")) = some true := fun n hn => by rw [List.mem_singleton.mp hn]; exact He.exm_ok (c.d.fact 87 (f := .exm "BadNet" "TapError" true) rfl)
  refine ⟨a_law.fd, fun s u => a_law.f.bindsA (ps := ["_law_script"]) (fun _ _ _ _ _ _ us hl => match us, hl with | [_], _ => rfl) s [u] rfl, m_law, fun base KB GB TBs => ?_⟩
  have i_BadText : InitF K12H.R.prog w K mg base 1 "BadText" "line" := init_BadText c m_BadText x5 KB GB
  obtain ⟨o_is_name, q_is_name⟩ : ∃ o : OkP K12H.R.prog w K mg base "is_name" 1 ["value"] G_is_name, o.fd = a_is_name.fd := ⟨⟨a_is_name.fd, fn_is_name a_is_name b_isinstance b_str b_len c0_LETTERS c0_DIGITS, a_is_name.f.bindsN (ps := ["value"]) (fun _ _ _ _ _ _ us hl => match us, hl with | [_], _ => rfl), a_is_name.f.kp, a_is_name.mg⟩, rfl⟩
  obtain ⟨o_is_whole, q_is_whole⟩ : ∃ o : OkP K12H.R.prog w K mg base "is_whole" 1 ["value"] G_is_whole, o.fd = a_is_whole.fd := ⟨⟨a_is_whole.fd, fn_is_whole a_is_whole b_isinstance b_int b_bool, a_is_whole.f.bindsN (ps := ["value"]) (fun _ _ _ _ _ _ us hl => match us, hl with | [_], _ => rfl), a_is_whole.f.kp, a_is_whole.mg⟩, rfl⟩
  obtain ⟨o_top_of, q_top_of⟩ : ∃ o : OkP K12H.R.prog w K mg base "top_of" 1 ["value"] G_top_of, o.fd = a_top_of.fd := ⟨⟨a_top_of.fd, fn_top_of a_top_of b_isinstance b_tuple, a_top_of.f.bindsN (ps := ["value"]) (fun _ _ _ _ _ _ us hl => match us, hl with | [_], _ => rfl), a_top_of.f.kp, a_top_of.mg⟩, rfl⟩
  obtain ⟨o_bottom_of, q_bottom_of⟩ : ∃ o : OkP K12H.R.prog w K mg base "bottom_of" 1 ["value"] G_bottom_of, o.fd = a_bottom_of.fd := ⟨⟨a_bottom_of.fd, fn_bottom_of a_bottom_of b_isinstance b_tuple, a_bottom_of.f.bindsN (ps := ["value"]) (fun _ _ _ _ _ _ us hl => match us, hl with | [_], _ => rfl), a_bottom_of.f.kp, a_bottom_of.mg⟩, rfl⟩
  obtain ⟨o_ends, q_ends⟩ : ∃ o : OkP K12H.R.prog w K mg base "ends" 1 ["part"] G_ends, o.fd = a_ends.fd := ⟨⟨a_ends.fd, fn_ends a_ends, a_ends.f.bindsN (ps := ["part"]) (fun _ _ _ _ _ _ us hl => match us, hl with | [_], _ => rfl), a_ends.f.kp, a_ends.mg⟩, rfl⟩
  obtain ⟨o_has_kind, q_has_kind⟩ : ∃ o : OkP K12H.R.prog w K mg base "has_kind" 1 ["parts", "kind"] G_has_kind, o.fd = a_has_kind.fd := ⟨⟨a_has_kind.fd, fn_has_kind a_has_kind b_any, a_has_kind.f.bindsN (ps := ["parts", "kind"]) (fun _ _ _ _ _ _ us hl => match us, hl with | [_, _], _ => rfl), a_has_kind.f.kp, a_has_kind.mg⟩, rfl⟩
  obtain ⟨o_number_text, q_number_text⟩ : ∃ o : OkP K12H.R.prog w K mg base "number_text" 1 ["value"] G_number_text, o.fd = a_number_text.fd := ⟨⟨a_number_text.fd, fn_number_text a_number_text b_isinstance b_tuple b_str, a_number_text.f.bindsN (ps := ["value"]) (fun _ _ _ _ _ _ us hl => match us, hl with | [_], _ => rfl), a_number_text.f.kp, a_number_text.mg⟩, rfl⟩
  obtain ⟨o_whole_of, q_whole_of⟩ : ∃ o : OkP K12H.R.prog w K mg base "whole_of" 1 ["word"] G_whole_of, o.fd = a_whole_of.fd := ⟨⟨a_whole_of.fd, fn_whole_of a_whole_of b_len c0_MOST_DIGITS c0_DIGITS b_int, a_whole_of.f.bindsN (ps := ["word"]) (fun _ _ _ _ _ _ us hl => match us, hl with | [_], _ => rfl), a_whole_of.f.kp, a_whole_of.mg⟩, rfl⟩
  obtain ⟨o__law_blended, q__law_blended⟩ : ∃ o : OkS K12H.R.prog w K mg base "_law_blended" 1 ["_law_state"] G__law_blended, o.fd = a__law_blended.fd := ⟨⟨a__law_blended.fd, fn__law_blended a__law_blended b_int, a__law_blended.f.bindsN (ps := ["_law_state"]) (fun _ _ _ _ _ _ us hl => match us, hl with | [_], _ => rfl), a__law_blended.f.kp, a__law_blended.mg⟩, rfl⟩
  obtain ⟨o__law_ct_gcd, q__law_ct_gcd⟩ : ∃ o : OkP K12H.R.prog w K mg base "_law_ct_gcd" 1 ["_law_one", "_law_other"] G__law_ct_gcd, o.fd = a__law_ct_gcd.fd := ⟨⟨a__law_ct_gcd.fd, fn__law_ct_gcd a__law_ct_gcd b_abs b_int (fuelB 3), a__law_ct_gcd.f.bindsN (ps := ["_law_one", "_law_other"]) (fun _ _ _ _ _ _ us hl => match us, hl with | [_, _], _ => rfl), a__law_ct_gcd.f.kp, a__law_ct_gcd.mg⟩, rfl⟩
  obtain ⟨o__law_ct_top, q__law_ct_top⟩ : ∃ o : OkP K12H.R.prog w K mg base "_law_ct_top" 1 ["_law_item"] G__law_ct_top, o.fd = a__law_ct_top.fd := ⟨⟨a__law_ct_top.fd, fn__law_ct_top a__law_ct_top b_isinstance b_tuple, a__law_ct_top.f.bindsN (ps := ["_law_item"]) (fun _ _ _ _ _ _ us hl => match us, hl with | [_], _ => rfl), a__law_ct_top.f.kp, a__law_ct_top.mg⟩, rfl⟩
  obtain ⟨o__law_ct_low, q__law_ct_low⟩ : ∃ o : OkP K12H.R.prog w K mg base "_law_ct_low" 1 ["_law_item"] G__law_ct_low, o.fd = a__law_ct_low.fd := ⟨⟨a__law_ct_low.fd, fn__law_ct_low a__law_ct_low b_isinstance b_tuple, a__law_ct_low.f.bindsN (ps := ["_law_item"]) (fun _ _ _ _ _ _ us hl => match us, hl with | [_], _ => rfl), a__law_ct_low.f.kp, a__law_ct_low.mg⟩, rfl⟩
  obtain ⟨o__law_an_every, q__law_an_every⟩ : ∃ o : OkP K12H.R.prog w K mg base "_law_an_every" 1 ["_law_net_here"] G__law_an_every, o.fd = a__law_an_every.fd := ⟨⟨a__law_an_every.fd, fn__law_an_every a__law_an_every b_list b_sorted, a__law_an_every.f.bindsN (ps := ["_law_net_here"]) (fun _ _ _ _ _ _ us hl => match us, hl with | [_], _ => rfl), a__law_an_every.f.kp, a__law_an_every.mg⟩, rfl⟩
  obtain ⟨o__law_an_ends, q__law_an_ends⟩ : ∃ o : OkP K12H.R.prog w K mg base "_law_an_ends" 1 ["_law_part"] G__law_an_ends, o.fd = a__law_an_ends.fd := ⟨⟨a__law_an_ends.fd, fn__law_an_ends a__law_an_ends, a__law_an_ends.f.bindsN (ps := ["_law_part"]) (fun _ _ _ _ _ _ us hl => match us, hl with | [_], _ => rfl), a__law_an_ends.f.kp, a__law_an_ends.mg⟩, rfl⟩
  obtain ⟨o__law_an_is_word, q__law_an_is_word⟩ : ∃ o : OkP K12H.R.prog w K mg base "_law_an_is_word" 1 ["_law_thing"] G__law_an_is_word, o.fd = a__law_an_is_word.fd := ⟨⟨a__law_an_is_word.fd, fn__law_an_is_word a__law_an_is_word b_isinstance b_str b_len, a__law_an_is_word.f.bindsN (ps := ["_law_thing"]) (fun _ _ _ _ _ _ us hl => match us, hl with | [_], _ => rfl), a__law_an_is_word.f.kp, a__law_an_is_word.mg⟩, rfl⟩
  obtain ⟨o__law_an_number_words, q__law_an_number_words⟩ : ∃ o : OkP K12H.R.prog w K mg base "_law_an_number_words" 1 ["_law_item"] G__law_an_number_words, o.fd = a__law_an_number_words.fd := ⟨⟨a__law_an_number_words.fd, fn__law_an_number_words a__law_an_number_words b_isinstance b_tuple b_str, a__law_an_number_words.f.bindsN (ps := ["_law_item"]) (fun _ _ _ _ _ _ us hl => match us, hl with | [_], _ => rfl), a__law_an_number_words.f.kp, a__law_an_number_words.mg⟩, rfl⟩
  obtain ⟨o__law_an_digits, q__law_an_digits⟩ : ∃ o : OkP K12H.R.prog w K mg base "_law_an_digits" 1 ["_law_word"] G__law_an_digits, o.fd = a__law_an_digits.fd := ⟨⟨a__law_an_digits.fd, fn__law_an_digits a__law_an_digits b_len b_int, a__law_an_digits.f.bindsN (ps := ["_law_word"]) (fun _ _ _ _ _ _ us hl => match us, hl with | [_], _ => rfl), a__law_an_digits.f.kp, a__law_an_digits.mg⟩, rfl⟩
  obtain ⟨o_are_names, q_are_names⟩ : ∃ o : OkP K12H.R.prog w K mg base "are_names" 2 ["value"] G_are_names, o.fd = a_are_names.fd := ⟨⟨a_are_names.fd, fn_are_names a_are_names b_isinstance b_tuple b_all o_is_name b_zip, a_are_names.f.bindsN (ps := ["value"]) (fun _ _ _ _ _ _ us hl => match us, hl with | [_], _ => rfl), a_are_names.f.kp, a_are_names.mg⟩, rfl⟩
  obtain ⟨o_is_number, q_is_number⟩ : ∃ o : OkP K12H.R.prog w K mg base "is_number" 2 ["value"] G_is_number, o.fd = a_is_number.fd := ⟨⟨a_is_number.fd, fn_is_number a_is_number o_is_whole b_isinstance b_tuple b_len g_gcd, a_is_number.f.bindsN (ps := ["value"]) (fun _ _ _ _ _ _ us hl => match us, hl with | [_], _ => rfl), a_is_number.f.kp, a_is_number.mg⟩, rfl⟩
  obtain ⟨o_is_less, q_is_less⟩ : ∃ o : OkP K12H.R.prog w K mg base "is_less" 2 ["one", "other"] G_is_less, o.fd = a_is_less.fd := ⟨⟨a_is_less.fd, fn_is_less a_is_less o_top_of o_bottom_of, a_is_less.f.bindsN (ps := ["one", "other"]) (fun _ _ _ _ _ _ us hl => match us, hl with | [_, _], _ => rfl), a_is_less.f.kp, a_is_less.mg⟩, rfl⟩
  obtain ⟨o_named_places, q_named_places⟩ : ∃ o : OkP K12H.R.prog w K mg base "named_places" 2 ["taps", "parts"] G_named_places, o.fd = a_named_places.fd := ⟨⟨a_named_places.fd, fn_named_places a_named_places o_ends b_sorted b_list, a_named_places.f.bindsN (ps := ["taps", "parts"]) (fun _ _ _ _ _ _ us hl => match us, hl with | [_, _], _ => rfl), a_named_places.f.kp, a_named_places.mg⟩, rfl⟩
  obtain ⟨o_part_text, q_part_text⟩ : ∃ o : OkP K12H.R.prog w K mg base "part_text" 2 ["part"] G_part_text, o.fd = a_part_text.fd := ⟨⟨a_part_text.fd, fn_part_text a_part_text b_list o_ends o_number_text, a_part_text.f.bindsN (ps := ["part"]) (fun _ _ _ _ _ _ us hl => match us, hl with | [_], _ => rfl), a_part_text.f.kp, a_part_text.mg⟩, rfl⟩
  obtain ⟨o__law_draw, q__law_draw⟩ : ∃ o : OkS K12H.R.prog w K mg base "_law_draw" 2 ["_law_state", "_law_room"] G__law_draw, o.fd = a__law_draw.fd := ⟨⟨a__law_draw.fd, fn__law_draw a__law_draw o__law_blended b_int, a__law_draw.f.bindsN (ps := ["_law_state", "_law_room"]) (fun _ _ _ _ _ _ us hl => match us, hl with | [_, _], _ => rfl), a__law_draw.f.kp, a__law_draw.mg⟩, rfl⟩
  obtain ⟨o__law_ct_made, q__law_ct_made⟩ : ∃ o : OkP K12H.R.prog w K mg base "_law_ct_made" 2 ["_law_top", "_law_bottom"] G__law_ct_made, o.fd = a__law_ct_made.fd := ⟨⟨a__law_ct_made.fd, fn__law_ct_made a__law_ct_made o__law_ct_gcd, a__law_ct_made.f.bindsN (ps := ["_law_top", "_law_bottom"]) (fun _ _ _ _ _ _ us hl => match us, hl with | [_, _], _ => rfl), a__law_ct_made.f.kp, a__law_ct_made.mg⟩, rfl⟩
  obtain ⟨o__law_ct_less, q__law_ct_less⟩ : ∃ o : OkP K12H.R.prog w K mg base "_law_ct_less" 2 ["_law_one", "_law_other"] G__law_ct_less, o.fd = a__law_ct_less.fd := ⟨⟨a__law_ct_less.fd, fn__law_ct_less a__law_ct_less o__law_ct_top o__law_ct_low, a__law_ct_less.f.bindsN (ps := ["_law_one", "_law_other"]) (fun _ _ _ _ _ _ us hl => match us, hl with | [_, _], _ => rfl), a__law_ct_less.f.kp, a__law_ct_less.mg⟩, rfl⟩
  obtain ⟨o__law_ct_is_number, q__law_ct_is_number⟩ : ∃ o : OkP K12H.R.prog w K mg base "_law_ct_is_number" 2 ["_law_item"] G__law_ct_is_number, o.fd = a__law_ct_is_number.fd := ⟨⟨a__law_ct_is_number.fd, fn__law_ct_is_number a__law_ct_is_number b_isinstance b_int b_bool b_tuple b_len o__law_ct_gcd, a__law_ct_is_number.f.bindsN (ps := ["_law_item"]) (fun _ _ _ _ _ _ us hl => match us, hl with | [_], _ => rfl), a__law_ct_is_number.f.kp, a__law_ct_is_number.mg⟩, rfl⟩
  obtain ⟨o__law_an_rising, q__law_an_rising⟩ : ∃ o : OkP K12H.R.prog w K mg base "_law_an_rising" 2 ["_law_thing", "_law_least"] G__law_an_rising, o.fd = a__law_an_rising.fd := ⟨⟨a__law_an_rising.fd, fn__law_an_rising a__law_an_rising b_isinstance b_tuple b_len o__law_an_is_word b_list b_sorted b_set, a__law_an_rising.f.bindsN (ps := ["_law_thing", "_law_least"]) (fun _ _ _ _ _ _ us hl => match us, hl with | [_, _], _ => rfl), a__law_an_rising.f.kp, a__law_an_rising.mg⟩, rfl⟩
  obtain ⟨o__law_an_written, q__law_an_written⟩ : ∃ o : OkP K12H.R.prog w K mg base "_law_an_written" 2 ["_law_net_here"] G__law_an_written, o.fd = a__law_an_written.fd := ⟨⟨a__law_an_written.fd, fn__law_an_written a__law_an_written b_list o__law_an_ends o__law_an_number_words, a__law_an_written.f.bindsN (ps := ["_law_net_here"]) (fun _ _ _ _ _ _ us hl => match us, hl with | [_], _ => rfl), a__law_an_written.f.kp, a__law_an_written.mg⟩, rfl⟩
  obtain ⟨o_is_taps, q_is_taps⟩ : ∃ o : OkP K12H.R.prog w K mg base "is_taps" 3 ["value"] G_is_taps, o.fd = a_is_taps.fd := ⟨⟨a_is_taps.fd, fn_is_taps a_is_taps o_are_names c0_LEAST_TAPS b_len c0_MOST_TAPS, a_is_taps.f.bindsN (ps := ["value"]) (fun _ _ _ _ _ _ us hl => match us, hl with | [_], _ => rfl), a_is_taps.f.kp, a_is_taps.mg⟩, rfl⟩
  obtain ⟨o_is_width, q_is_width⟩ : ∃ o : OkP K12H.R.prog w K mg base "is_width" 3 ["value"] G_is_width, o.fd = a_is_width.fd := ⟨⟨a_is_width.fd, fn_is_width a_is_width o_is_number o_is_less, a_is_width.f.bindsN (ps := ["value"]) (fun _ _ _ _ _ _ us hl => match us, hl with | [_], _ => rfl), a_is_width.f.kp, a_is_width.mg⟩, rfl⟩
  obtain ⟨o_number_of, q_number_of⟩ : ∃ o : OkP K12H.R.prog w K mg base "number_of" 3 ["word"] G_number_of, o.fd = a_number_of.fd := ⟨⟨a_number_of.fd, fn_number_of a_number_of o_whole_of b_len o_is_number, a_number_of.f.bindsN (ps := ["word"]) (fun _ _ _ _ _ _ us hl => match us, hl with | [_], _ => rfl), a_number_of.f.kp, a_number_of.mg⟩, rfl⟩
  obtain ⟨o__law_pick, q__law_pick⟩ : ∃ o : OkS K12H.R.prog w K mg base "_law_pick" 3 ["_law_state", "_law_some"] G__law_pick, o.fd = a__law_pick.fd := ⟨⟨a__law_pick.fd, fn__law_pick a__law_pick o__law_draw b_len, a__law_pick.f.bindsN (ps := ["_law_state", "_law_some"]) (fun _ _ _ _ _ _ us hl => match us, hl with | [_, _], _ => rfl), a__law_pick.f.kp, a__law_pick.mg⟩, rfl⟩
  obtain ⟨o__law_shuffled, q__law_shuffled⟩ : ∃ o : OkS K12H.R.prog w K mg base "_law_shuffled" 3 ["_law_state", "_law_some"] G__law_shuffled, o.fd = a__law_shuffled.fd := ⟨⟨a__law_shuffled.fd, fn__law_shuffled a__law_shuffled b_list o__law_draw b_len (fuelL 2), a__law_shuffled.f.bindsN (ps := ["_law_state", "_law_some"]) (fun _ _ _ _ _ _ us hl => match us, hl with | [_, _], _ => rfl), a__law_shuffled.f.kp, a__law_shuffled.mg⟩, rfl⟩
  obtain ⟨o__law_an_is_wide, q__law_an_is_wide⟩ : ∃ o : OkP K12H.R.prog w K mg base "_law_an_is_wide" 3 ["_law_thing"] G__law_an_is_wide, o.fd = a__law_an_is_wide.fd := ⟨⟨a__law_an_is_wide.fd, fn__law_an_is_wide a__law_an_is_wide o__law_ct_is_number o__law_ct_less, a__law_an_is_wide.f.bindsN (ps := ["_law_thing"]) (fun _ _ _ _ _ _ us hl => match us, hl with | [_], _ => rfl), a__law_an_is_wide.f.kp, a__law_an_is_wide.mg⟩, rfl⟩
  obtain ⟨o__law_an_read_number, q__law_an_read_number⟩ : ∃ o : OkP K12H.R.prog w K mg base "_law_an_read_number" 3 ["_law_word"] G__law_an_read_number, o.fd = a__law_an_read_number.fd := ⟨⟨a__law_an_read_number.fd, fn__law_an_read_number a__law_an_read_number o__law_an_digits b_len o__law_ct_is_number, a__law_an_read_number.f.bindsN (ps := ["_law_word"]) (fun _ _ _ _ _ _ us hl => match us, hl with | [_], _ => rfl), a__law_an_read_number.f.kp, a__law_an_read_number.mg⟩, rfl⟩
  obtain ⟨o_is_part, q_is_part⟩ : ∃ o : OkP K12H.R.prog w K mg base "is_part" 4 ["value"] G_is_part, o.fd = a_is_part.fd := ⟨⟨a_is_part.fd, fn_is_part a_is_part b_isinstance b_tuple b_len b_str o_are_names o_is_width o_is_name, a_is_part.f.bindsN (ps := ["value"]) (fun _ _ _ _ _ _ us hl => match us, hl with | [_], _ => rfl), a_is_part.f.kp, a_is_part.mg⟩, rfl⟩
  obtain ⟨o__law_ct_number, q__law_ct_number⟩ : ∃ o : OkS K12H.R.prog w K mg base "_law_ct_number" 4 ["_law_state"] G__law_ct_number, o.fd = a__law_ct_number.fd := ⟨⟨a__law_ct_number.fd, fn__law_ct_number a__law_ct_number o__law_pick, a__law_ct_number.f.bindsN (ps := ["_law_state"]) (fun _ _ _ _ _ _ us hl => match us, hl with | [_], _ => rfl), a__law_ct_number.f.kp, a__law_ct_number.mg⟩, rfl⟩
  obtain ⟨o__law_ct_taps, q__law_ct_taps⟩ : ∃ o : OkS K12H.R.prog w K mg base "_law_ct_taps" 4 ["_law_state", "_law_least", "_law_most"] G__law_ct_taps, o.fd = a__law_ct_taps.fd := ⟨⟨a__law_ct_taps.fd, fn__law_ct_taps a__law_ct_taps o__law_pick o__law_draw b_tuple b_sorted o__law_shuffled, a__law_ct_taps.f.bindsN (ps := ["_law_state", "_law_least", "_law_most"]) (fun _ _ _ _ _ _ us hl => match us, hl with | [_, _, _], _ => rfl), a__law_ct_taps.f.kp, a__law_ct_taps.mg⟩, rfl⟩
  obtain ⟨o__law_an_is_part, q__law_an_is_part⟩ : ∃ o : OkP K12H.R.prog w K mg base "_law_an_is_part" 4 ["_law_thing"] G__law_an_is_part, o.fd = a__law_an_is_part.fd := ⟨⟨a__law_an_is_part.fd, fn__law_an_is_part a__law_an_is_part b_isinstance b_tuple b_len o__law_an_rising o__law_an_is_wide o__law_an_is_word, a__law_an_is_part.f.bindsN (ps := ["_law_thing"]) (fun _ _ _ _ _ _ us hl => match us, hl with | [_], _ => rfl), a__law_an_is_part.f.kp, a__law_an_is_part.mg⟩, rfl⟩
  obtain ⟨o__law_an_near_text, q__law_an_near_text⟩ : ∃ o : OkS K12H.R.prog w K mg base "_law_an_near_text" 4 ["_law_state", "_law_told"] G__law_an_near_text, o.fd = a__law_an_near_text.fd := ⟨⟨a__law_an_near_text.fd, fn__law_an_near_text a__law_an_near_text o__law_draw b_len o__law_pick, a__law_an_near_text.f.bindsN (ps := ["_law_state", "_law_told"]) (fun _ _ _ _ _ _ us hl => match us, hl with | [_, _], _ => rfl), a__law_an_near_text.f.kp, a__law_an_near_text.mg⟩, rfl⟩
  obtain ⟨o_is_net, q_is_net⟩ : ∃ o : OkP K12H.R.prog w K mg base "is_net" 5 ["value"] G_is_net, o.fd = a_is_net.fd := ⟨⟨a_is_net.fd, fn_is_net a_is_net b_isinstance b_tuple b_len o_is_taps c0_MOST_PARTS b_all o_is_part o_has_kind o_named_places c0_MOST_PLACES, a_is_net.f.bindsN (ps := ["value"]) (fun _ _ _ _ _ _ us hl => match us, hl with | [_], _ => rfl), a_is_net.f.kp, a_is_net.mg⟩, rfl⟩
  obtain ⟨o_part_of_line, q_part_of_line⟩ : ∃ o : OkP K12H.R.prog w K mg base "part_of_line" 5 ["row"] G_part_of_line, o.fd = a_part_of_line.fd := ⟨⟨a_part_of_line.fd, fn_part_of_line a_part_of_line o_number_of b_len b_tuple o_is_part, a_part_of_line.f.bindsN (ps := ["row"]) (fun _ _ _ _ _ _ us hl => match us, hl with | [_], _ => rfl), a_part_of_line.f.kp, a_part_of_line.mg⟩, rfl⟩
  obtain ⟨o__law_ct_part, q__law_ct_part⟩ : ∃ o : OkS K12H.R.prog w K mg base "_law_ct_part" 5 ["_law_state", "_law_places_here", "_law_sort_here"] G__law_ct_part, o.fd = a__law_ct_part.fd := ⟨⟨a__law_ct_part.fd, fn__law_ct_part a__law_ct_part o__law_shuffled o__law_ct_number o__law_draw b_len b_tuple b_sorted b_min b_max, a__law_ct_part.f.bindsN (ps := ["_law_state", "_law_places_here", "_law_sort_here"]) (fun _ _ _ _ _ _ us hl => match us, hl with | [_, _, _], _ => rfl), a__law_ct_part.f.kp, a__law_ct_part.mg⟩, rfl⟩
  obtain ⟨o__law_an_width, q__law_an_width⟩ : ∃ o : OkS K12H.R.prog w K mg base "_law_an_width" 5 ["_law_state", "_law_great"] G__law_an_width, o.fd = a__law_an_width.fd := ⟨⟨a__law_an_width.fd, fn__law_an_width a__law_an_width o__law_ct_number o__law_draw o__law_ct_made, a__law_an_width.f.bindsN (ps := ["_law_state", "_law_great"]) (fun _ _ _ _ _ _ us hl => match us, hl with | [_, _], _ => rfl), a__law_an_width.f.kp, a__law_an_width.mg⟩, rfl⟩
  obtain ⟨o__law_an_is_net, q__law_an_is_net⟩ : ∃ o : OkP K12H.R.prog w K mg base "_law_an_is_net" 5 ["_law_thing"] G__law_an_is_net, o.fd = a__law_an_is_net.fd := ⟨⟨a__law_an_is_net.fd, fn__law_an_is_net a__law_an_is_net b_isinstance b_tuple b_len o__law_an_rising o__law_an_is_part o__law_an_every, a__law_an_is_net.f.bindsN (ps := ["_law_thing"]) (fun _ _ _ _ _ _ us hl => match us, hl with | [_], _ => rfl), a__law_an_is_net.f.kp, a__law_an_is_net.mg⟩, rfl⟩
  obtain ⟨o__law_an_read_part, q__law_an_read_part⟩ : ∃ o : OkP K12H.R.prog w K mg base "_law_an_read_part" 5 ["_law_line"] G__law_an_read_part, o.fd = a__law_an_read_part.fd := ⟨⟨a__law_an_read_part.fd, fn__law_an_read_part a__law_an_read_part o__law_an_read_number b_len b_tuple o__law_an_is_part, a__law_an_read_part.f.bindsN (ps := ["_law_line"]) (fun _ _ _ _ _ _ us hl => match us, hl with | [_], _ => rfl), a__law_an_read_part.f.kp, a__law_an_read_part.mg⟩, rfl⟩
  obtain ⟨o_need_net, q_need_net⟩ : ∃ o : OkX K12H.R.prog w K mg base "need_net" 6 ["net"] G_need_net, o.fd = a_need_net.fd := ⟨⟨a_need_net.fd, fn_need_net a_need_net o_is_net x_BadNet, a_need_net.f.bindsN (ps := ["net"]) (fun _ _ _ _ _ _ us hl => match us, hl with | [_], _ => rfl), a_need_net.f.kp, a_need_net.mg⟩, rfl⟩
  obtain ⟨o_read_net, q_read_net⟩ : ∃ o : OkX K12H.R.prog w K mg base "read_net" 6 ["text"] G_read_net, o.fd = a_read_net.fd := ⟨⟨a_read_net.fd, fn_read_net a_read_net b_isinstance b_str i_BadText b_len o_is_taps b_tuple b_enumerate o_part_of_line o_is_net, a_read_net.f.bindsN (ps := ["text"]) (fun _ _ _ _ _ _ us hl => match us, hl with | [_], _ => rfl), a_read_net.f.kp, a_read_net.mg⟩, rfl⟩
  obtain ⟨o__law_ct_net, q__law_ct_net⟩ : ∃ o : OkS K12H.R.prog w K mg base "_law_ct_net" 6 ["_law_state", "_law_taps_here", "_law_sort_here"] G__law_ct_net, o.fd = a__law_ct_net.fd := ⟨⟨a__law_ct_net.fd, fn__law_ct_net a__law_ct_net o__law_draw o__law_pick b_list b_range o__law_ct_part b_tuple, a__law_ct_net.f.bindsN (ps := ["_law_state", "_law_taps_here", "_law_sort_here"]) (fun _ _ _ _ _ _ us hl => match us, hl with | [_, _, _], _ => rfl), a__law_ct_net.f.kp, a__law_ct_net.mg⟩, rfl⟩
  obtain ⟨o__law_an_read, q__law_an_read⟩ : ∃ o : OkP K12H.R.prog w K mg base "_law_an_read" 6 ["_law_told"] G__law_an_read, o.fd = a__law_an_read.fd := ⟨⟨a__law_an_read.fd, fn__law_an_read a__law_an_read b_tuple b_len o__law_an_is_net b_range o__law_an_read_part, a__law_an_read.f.bindsN (ps := ["_law_told"]) (fun _ _ _ _ _ _ us hl => match us, hl with | [_], _ => rfl), a__law_an_read.f.kp, a__law_an_read.mg⟩, rfl⟩
  obtain ⟨o_net_text, q_net_text⟩ : ∃ o : OkX K12H.R.prog w K mg base "net_text" 7 ["net"] G_net_text, o.fd = a_net_text.fd := ⟨⟨a_net_text.fd, fn_net_text a_net_text o_need_net b_list o_part_text, a_net_text.f.bindsN (ps := ["net"]) (fun _ _ _ _ _ _ us hl => match us, hl with | [_], _ => rfl), a_net_text.f.kp, a_net_text.mg⟩, rfl⟩
  obtain ⟨o__law_an_net, q__law_an_net⟩ : ∃ o : OkS K12H.R.prog w K mg base "_law_an_net" 7 ["_law_state", "_law_taps_here", "_law_sort_here"] G__law_an_net, o.fd = a__law_an_net.fd := ⟨⟨a__law_an_net.fd, fn__law_an_net a__law_an_net o__law_ct_net o__law_draw b_tuple o__law_an_width, a__law_an_net.f.bindsN (ps := ["_law_state", "_law_taps_here", "_law_sort_here"]) (fun _ _ _ _ _ _ us hl => match us, hl with | [_, _, _], _ => rfl), a__law_an_net.f.kp, a__law_an_net.mg⟩, rfl⟩
  obtain ⟨o__law_an_drawn, q__law_an_drawn⟩ : ∃ o : OkS K12H.R.prog w K mg base "_law_an_drawn" 8 ["_law_state", "_law_least", "_law_most"] G__law_an_drawn, o.fd = a__law_an_drawn.fd := ⟨⟨a__law_an_drawn.fd, fn__law_an_drawn a__law_an_drawn o__law_pick o__law_an_net o__law_ct_taps, a__law_an_drawn.f.bindsN (ps := ["_law_state", "_law_least", "_law_most"]) (fun _ _ _ _ _ _ us hl => match us, hl with | [_, _, _], _ => rfl), a__law_an_drawn.f.kp, a__law_an_drawn.mg⟩, rfl⟩
  have kb_net_text : ∀ (s : Shared) (u : Value), BindsTo s o_net_text.fd ⟨[], [("net", u)]⟩ [("net", u)] := by
    rw [q_net_text]
    exact kw_bind a_net_text.f fun _ _ _ _ _ _ _ => rfl
  have kb_read_net : ∀ (s : Shared) (u : Value), BindsTo s o_read_net.fd ⟨[], [("text", u)]⟩ [("text", u)] := by
    rw [q_read_net]
    exact kw_bind a_read_net.f fun _ _ _ _ _ _ _ => rfl
  have o_beg := fn_begun (P := K12H.R.prog) (w := w) (base := base) a__law_begun b_abs
  have b_beg : Binds K a__law_begun.fd ["_law_script"] [] := a__law_begun.f.bindsN (ps := ["_law_script"]) fun _ _ _ _ _ _ us hl => match us, hl with | [_], _ => rfl
  refine fn_law a_law o_beg m__law_begun a__law_begun.f.kp b_beg (fun cL oc od fd osl lk e => ?_) fun tb hr => cs_law b_range o__law_an_drawn o__law_an_written o_net_text o_read_net o__law_an_near_text o__law_an_read b_isinstance b_int o__law_pick b_ValueError kb_net_text kb_read_net exm_BadText m_BadText xf_BadText no_BadText kit_BadText_V exm_BadNet m_BadNet m_TapError a__law_caught tb hr
  have e2 := He.codeOf_eq (p := ("law", none)) lk e
  have t := TBs _ (List.mem_singleton.mpr rfl)
  have e3 : (He.cT K ("law", none)).1 = cL := e2
  rw [e3] at t
  exact t
end K12
end S_K12J
section S_K12Z
set_option Elab.async false
set_option linter.all false
set_option maxRecDepth 100000
set_option maxHeartbeats 0
open PySem PySem.W PySem.Calls PyProof.Rows
theorem PySem.Challenge.cw_behindtaps_k12_texts_of_nets_there_and_b_holds : PySem.Challenge.rw_behindtaps_k12_texts_of_nets_there_and_b.Holds := by
  w_on; o_law
  refine HandSHeadRun.head_imp (r := OpenLaw.row PySem.Challenge.rw_behindtaps_k12_texts_of_nets_there_and_b) (q := view (OpenLaw.row PySem.Challenge.rw_behindtaps_k12_texts_of_nets_there_and_b).prog [0, 72]) (H := K12H.hk) (ob := K12H.ob) (M := 12000) (loose := K12H.nms) (d := HandSHeadRun.topDef (OpenLaw.row PySem.Challenge.rw_behindtaps_k12_texts_of_nets_there_and_b).prog 72) (kwd := []) K12H.ob_eq
    K12H.run (by kernel_rfl) (by kernel_rfl) (by kernel_rfl) (by rfl) (by first | assumption | decide +kernel) (by decide +kernel) ⟨rfl, rfl, rfl, rfl, rfl, by decide +kernel⟩ ?hw ?hc
  case hw => w_witness2
  case hc =>
    refine LamX.walk_ofTsE (l := PySem.Challenge.rw_behindtaps_k12_texts_of_nets_there_and_b) (n := 63) (k := 10) (x := "_law_script") (CX := fun w => L2.CX K12H.R.prog w) rfl (by decide) (by kernel_rfl) ⟨rfl, by decide, by decide⟩ ?F ?E
    case E =>
      rintro w H s e s' ⟨_, _, _, _, _, _, _, _, _, _, _, _, z⟩
      exact z
    case F =>
      intro w mg fa h Y G hmg0
      obtain ⟨K, KX, c⟩ := Y
      have hmg : mg ("law" : PySem.Str) = some (.ref fa) := by
        have e : (HandSHeadRun.topDef (OpenLaw.row PySem.Challenge.rw_behindtaps_k12_texts_of_nets_there_and_b).prog 72).name = ("law" : PySem.Str) := by kernel_rfl
        rw [← e]
        exact hmg0
      obtain ⟨fd, hb, hm, hF⟩ := K12.law_ok (w := w) KX G c
      rw [hm] at hmg
      cases hmg
      refine ⟨K, KX, fd, [He.cT K ("law", none)], K12.spLaw K (He.cT K ("law", none)).2, fun p hp => by rw [List.mem_singleton.mp hp]; exact c.empty ("law", none) (List.mem_singleton.mpr rfl), fun p hp => by rw [List.mem_singleton.mp hp]; exact c.out ("law", none) (List.mem_singleton.mpr rfl), fun p hp => by rw [List.mem_singleton.mp hp]; exact PySem.W.codeHd_of_K KX (c.hd ("law", none) (List.mem_singleton.mpr rfl)), hb, fun H a ns hl _ hT hS => ⟨a, ns, rfl, hS, hl, hT _ (List.mem_singleton.mpr rfl), fun _ => rfl⟩, fun base KB GB TBs => hF base KB GB TBs⟩
end S_K12Z
