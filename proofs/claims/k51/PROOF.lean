import PyProof.Rows.All
import Wide.All
import OpenK.AllK
import Wide.FinOn
import HandS.Base
import HandS.Call
import HandS.List
import HandS.Comp
import HandS.Dict
import HandS.Iter
import HandS.Exc
import HandS.ExcOwn
import HandS.Ends
import HandS.Words
import HandS.ExcInit
import HandS.Wide
import HandS.WideBits
import HandS.TupAny
import HandS.IsInst
import HandS.Deep
import KE.DataCmp
import KE.SortData
import KE.DataMinMax
import HandS.Codes
import HandS.TupLen
import HandS.Text
import HandS.Steps
import HandS.AnyAll
import HandS.Conv
import HandS.Strs
import HandS.More
import HandS.RaiseMore
import HandS.SetFor
import HandS.Zip
import HandS.Rev
import HandS.WordsExc
import HandS.Defaults
import KE.KExcIs
import HandS.Small
import KE.KExcInit
import KE.KExcSuper
import HandS.ExcSuper
import HandS.Nested
import HandS.NestedK
import HandS.MakeKw
import HandS.MakeKwOnly
import HandS.ExcField
import PyProof.StrOps2
import PySem.Challenge.RW_inkfractions_k51_errors_and_their_bases
import HandS.Head0
import HandS.Head1
import HandS.Head2
import HandS.HeadEnd
import HandS.HeadHook1
import HandS.HeadHook2
set_option Elab.async false
set_option linter.all false
set_option maxRecDepth 100000
section
set_option maxHeartbeats 4000000
/-! Data: values without addresses, a store of cells, denotations. -/
namespace D
open PySem

inductive Dt where
  | non | bl (b : Bool) | int (i : Int) | str (x : Str)
  | tup (xs : List Dt) | ktup (xs : List Dt) | lst (xs : List Dt) | klst (xs : List Dt)
  | dct (t : Bool) (kvs : List (List L2.Key × Dt))
  | obj (c : Str) (fs : List (Str × Dt))
  | ref (k : Nat)
  | raw (v : L2.V)
  | cls (x : Str)
  | exn (c : Str) (fs : List (Str × Dt))

inductive Cl where
  | lst (xs : List Dt)
  | dct (t : Bool) (kvs : List (List L2.Key × Dt))
  | ins (c : Str) (fs : List (Str × Dt))
  | froz (d : Dt)

abbrev S := List Cl
structure Exn where
  c : Str
  fs : List (Str × Dt)

inductive Res (α : Type) where
  | ok (a : α) (s : S)
  | exc (e : Exn) (s : S)
  | bad
def Res.bind {α β : Type} (r : Res α) (f : α → S → Res β) : Res β := match r with
  | .ok a s => f a s
  | .exc e s => .exc e s
  | .bad => .bad
abbrev Env := List (Option Dt)
abbrev DE := Env → S → Res Dt
abbrev DT := Env → S → Res Bool
abbrev DA := Env → S → Res (List Dt)
inductive SRes where
  | nx (env : Env) (s : S)
  | rt (d : Dt) (s : S)
  | bk (env : Env) (s : S)
  | ct (env : Env) (s : S)
  | exc (e : Exn) (env : Env) (s : S)
  | bad
abbrev DS := Env → S → SRes

/-! ### what represents what -/
open L2 in
/-- the constants of the module: the written part, its names -/
structure Ct where
  K : PySem.W.Frag
  mg : Str → Option Value
/-- a world: what is frozen, where the cells are, which dicts are locked -/
structure Wd where
  G : L2.Hp
  ρ : List Addr
  lk : List (Addr × Obj × L2.HO)

section
variable (c : Ct) (w : Wd)
open L2
/-- a dict's pairs, its values told by V -/
def keyOk (t : Bool) (k : List Key) : Prop := t = false → k.length = 1
mutual
def Rep : Dt → V → Prop
  | .non, v => v = .non
  | .bl b, v => v = .bl b
  | .int i, v => v = .int i
  | .str x, v => v = .str x
  | .raw u, v => v = u
  | .cls x, v => ∃ C, c.mg x = some (.ref C) ∧ v = .ref C
  | .exn x fs, v => ∃ a d C ws, v = .ref a ∧ w.G a = some (exo a C (some d)) ∧ w.G d = some (exd d ws) ∧ c.mg x = some (.ref C) ∧ RepF fs ws
  | .ref k, v => ∃ a, w.ρ[k]? = some a ∧ v = .ref a
  | .tup ds, v => ∃ a vs, v = .ref a ∧ w.G a = some (.tup vs) ∧ Reps ds vs
  | .ktup ds, v => ∃ a vs, v = .ref a ∧ SqT c.K w.G a vs ∧ Reps ds vs
  | .lst ds, v => ∃ a vs, v = .ref a ∧ w.G a = some (.lst vs) ∧ Reps ds vs
  | .klst ds, v => ∃ a vs, v = .ref a ∧ SqL c.K w.G a vs ∧ Reps ds vs
  | .dct t kvs, v => ∃ a, v = .ref a ∧ ((t = false ∧ ∃ ws : List (Key × V), w.G a = some (.dK ws) ∧ RepK kvs (ws.map fun p => ([p.1], p.2))) ∨ (t = true ∧ ∃ ws : List (List Key × V), w.G a = some (.dT ws) ∧ RepK kvs ws))
  | .obj x fs, v => ∃ a C dx ws, v = .ref a ∧ w.G a = some (.ins C dx ws) ∧ c.mg x = some (.ref C) ∧ RepF fs ws
def Reps : List Dt → List V → Prop
  | [], vs => vs = []
  | d :: ds, vs => ∃ v r, vs = v :: r ∧ Rep d v ∧ Reps ds r
def RepK : List (List Key × Dt) → List (List Key × V) → Prop
  | [], ws => ws = []
  | p :: ps, ws => ∃ v r, ws = (p.1, v) :: r ∧ Rep p.2 v ∧ RepK ps r
def RepF : List (Str × Dt) → List (Str × V) → Prop
  | [], ws => ws = []
  | p :: ps, ws => ∃ v r, ws = (p.1, v) :: r ∧ Rep p.2 v ∧ RepF ps r
end
end

/-! ### growing -/
open L2
structure Le (w w' : Wd) : Prop where
  G : ∀ a o, w.G a = some o → w'.G a = some o
  ρ : ∀ (k : Nat) (a : Addr), w.ρ[k]? = some a → w'.ρ[k]? = some a
  lk : w'.lk = w.lk
theorem Le.refl (w : Wd) : Le w w := ⟨fun _ _ h => h, fun _ _ h => h, rfl⟩
theorem Le.trans {a b d : Wd} (x : Le a b) (y : Le b d) : Le a d := ⟨fun p o h => y.G p o (x.G p o h), fun k p h => y.ρ k p (x.ρ k p h), y.lk.trans x.lk⟩
theorem SqL.up {K : PySem.W.Frag} {G G' : Hp} (h : ∀ a o, G a = some o → G' a = some o) {a : Addr} {vs : List V} (x : SqL K G a vs) : SqL K G' a vs := by
  rcases x with (x | ⟨o, x⟩) | x
  · exact .inl (.inl (h _ _ x))
  · exact .inl (.inr ⟨o, h _ _ x⟩)
  · exact .inr x
theorem SqT.up {K : PySem.W.Frag} {G G' : Hp} (h : ∀ a o, G a = some o → G' a = some o) {a : Addr} {vs : List V} (x : SqT K G a vs) : SqT K G' a vs := by
  rcases x with (x | ⟨o, x⟩) | x
  · exact .inl (.inl (h _ _ x))
  · exact .inl (.inr ⟨o, h _ _ x⟩)
  · exact .inr x
section
variable {c : Ct} {w w' : Wd}
mutual
theorem Rep.up (l : Le w w') : ∀ (d : Dt) (v : V), Rep c w d v → Rep c w' d v
  | .non, v, h => by simpa only [Rep] using h
  | .bl b, v, h => by simpa only [Rep] using h
  | .int i, v, h => by simpa only [Rep] using h
  | .str x, v, h => by simpa only [Rep] using h
  | .raw u, v, h => by simpa only [Rep] using h
  | .cls u, v, h => by simpa only [Rep] using h
  | .exn x fs, v, h => by
    simp only [Rep] at h ⊢
    obtain ⟨a, d, C, ws, h1, h2, h3, h4, h5⟩ := h
    exact ⟨a, d, C, ws, h1, l.G _ _ h2, l.G _ _ h3, h4, RepF.up l fs ws h5⟩
  | .ref k, v, h => by
    simp only [Rep] at h ⊢
    obtain ⟨a, h1, h2⟩ := h
    exact ⟨a, l.ρ _ _ h1, h2⟩
  | .tup ds, v, h => by
    simp only [Rep] at h ⊢
    obtain ⟨a, vs, h1, h2, h3⟩ := h
    exact ⟨a, vs, h1, l.G _ _ h2, Reps.up l ds vs h3⟩
  | .ktup ds, v, h => by
    simp only [Rep] at h ⊢
    obtain ⟨a, vs, h1, h2, h3⟩ := h
    exact ⟨a, vs, h1, SqT.up l.G h2, Reps.up l ds vs h3⟩
  | .lst ds, v, h => by
    simp only [Rep] at h ⊢
    obtain ⟨a, vs, h1, h2, h3⟩ := h
    exact ⟨a, vs, h1, l.G _ _ h2, Reps.up l ds vs h3⟩
  | .klst ds, v, h => by
    simp only [Rep] at h ⊢
    obtain ⟨a, vs, h1, h2, h3⟩ := h
    exact ⟨a, vs, h1, SqL.up l.G h2, Reps.up l ds vs h3⟩
  | .dct t kvs, v, h => by
    simp only [Rep] at h ⊢
    obtain ⟨a, h1, h2⟩ := h
    refine ⟨a, h1, ?_⟩
    rcases h2 with ⟨ht, ws, h2, h3⟩ | ⟨ht, ws, h2, h3⟩
    · exact .inl ⟨ht, ws, l.G _ _ h2, RepK.up l kvs _ h3⟩
    · exact .inr ⟨ht, ws, l.G _ _ h2, RepK.up l kvs _ h3⟩
  | .obj x fs, v, h => by
    simp only [Rep] at h ⊢
    obtain ⟨a, C, dx, ws, h1, h2, h3, h4⟩ := h
    exact ⟨a, C, dx, ws, h1, l.G _ _ h2, h3, RepF.up l fs ws h4⟩
theorem Reps.up (l : Le w w') : ∀ (ds : List Dt) (vs : List V), Reps c w ds vs → Reps c w' ds vs
  | [], vs, h => by simpa only [Reps] using h
  | d :: ds, vs, h => by
    simp only [Reps] at h ⊢
    obtain ⟨v, r, h1, h2, h3⟩ := h
    exact ⟨v, r, h1, Rep.up l d v h2, Reps.up l ds r h3⟩
theorem RepK.up (l : Le w w') : ∀ (ds : List (List Key × Dt)) (vs : List (List Key × V)), RepK c w ds vs → RepK c w' ds vs
  | [], vs, h => by simpa only [RepK] using h
  | d :: ds, vs, h => by
    simp only [RepK] at h ⊢
    obtain ⟨v, r, h1, h2, h3⟩ := h
    exact ⟨v, r, h1, Rep.up l d.2 v h2, RepK.up l ds r h3⟩
theorem RepF.up (l : Le w w') : ∀ (ds : List (Str × Dt)) (vs : List (Str × V)), RepF c w ds vs → RepF c w' ds vs
  | [], vs, h => by simpa only [RepF] using h
  | d :: ds, vs, h => by
    simp only [RepF] at h ⊢
    obtain ⟨v, r, h1, h2, h3⟩ := h
    exact ⟨v, r, h1, Rep.up l d.2 v h2, RepF.up l ds r h3⟩
end
end

/-- a dict (that a walk may lock) -/
def IsDk (o : HO) : Prop := (∃ kvs, o = .dK kvs) ∨ ∃ kvs, o = .dT kvs
/-! ### the heap is as the world and the store say -/
section
variable (c : Ct) (w : Wd) (H : Hp)
def CellOk (a : Addr) : Cl → Prop
  | .lst ds => w.G a = none ∧ ∃ vs, H a = some (.lst vs) ∧ Reps c w ds vs
  | .dct t kvs => w.G a = none ∧ ((t = false ∧ ∃ ws : List (Key × V), H a = some (.dK ws) ∧ RepK c w kvs (ws.map fun p => ([p.1], p.2))) ∨ (t = true ∧ ∃ ws : List (List Key × V), H a = some (.dT ws) ∧ RepK c w kvs ws))
  | .ins x fs => w.G a = none ∧ ∃ C dx ws, H a = some (.ins C dx ws) ∧ c.mg x = some (.ref C) ∧ RepF c w fs ws
  | .froz d => Rep c w d (.ref a) ∧ ∃ o, w.G a = some o
structure Good (s : S) : Prop where
  ext : ∀ a o, w.G a = some o → H a = some o ∨ (IsDk o ∧ ∃ ob, (a, ob, o) ∈ w.lk ∧ H a = some (.frz ob o))
  lk : ∀ a ob u, (a, ob, u) ∈ w.lk → H a = some (.frz ob u)
  len : w.ρ.length = s.length
  inj : w.ρ.Nodup
  cell : ∀ (k : Nat) (cl : Cl) (a : Addr), s[k]? = some cl → w.ρ[k]? = some a → CellOk c w H a cl
/-- the slots -/
structure SR (env : Env) (σ : L2.St) : Prop where
  len : env.length = σ.length
  at_ : ∀ (i : Nat) (d : Dt), env[i]? = some (some d) → ∃ v, σ[i]? = some (some v) ∧ Rep c w d v
/-- an exception of the program's own -/
def ExcR (e : Exn) (cls : Value) (dd : Option Addr) : Prop := ∃ C d ws, c.mg e.c = some (.ref C) ∧ cls = .ref C ∧ dd = some d ∧ H d = some (.xd ws) ∧ RepF c w e.fs ws
end
section
variable {c : Ct} {w w' : Wd} {H H' : Hp} {s s' : S} {env : Env} {σ : L2.St}
theorem SR.up (l : Le w w') (h : SR c w env σ) : SR c w' env σ := ⟨h.len, fun i d e => by
  obtain ⟨v, h1, h2⟩ := h.at_ i d e
  exact ⟨v, h1, h2.up l⟩⟩
theorem SR.set {i : Nat} {d : Dt} {v : V} (h : SR c w env σ) (r : Rep c w d v) : SR c w (env.set i (some d)) (σ.set i (some v)) := by
  refine ⟨by rw [List.length_set, List.length_set]; exact h.len, fun j e he => ?_⟩
  by_cases hj : i = j
  · subst hj
    by_cases hi : i < env.length
    · rw [List.getElem?_set_self hi] at he
      cases he
      exact ⟨v, List.getElem?_set_self (by rw [← h.len]; exact hi), r⟩
    · rw [List.getElem?_eq_none (by rw [List.length_set]; omega)] at he
      cases he
  · rw [List.getElem?_set_ne hj] at he ⊢
    exact h.at_ j e he
theorem Good.frozen_some (g : Good c w H s) {a : Addr} {o : HO} (h : w.G a = some o) : H a ≠ none := by
  rcases g.ext a o h with q | ⟨_, ob, _, q⟩ <;> (rw [q]; intro z; cases z)
theorem Good.fresh (g : Good c w H s) {p : Addr} (h : H p = none) : w.G p = none := by
  cases e : w.G p with
  | none => rfl
  | some o => exact absurd h (g.frozen_some e)
theorem CellOk.there (g : Good c w H s) {a : Addr} {cl : Cl} (x : CellOk c w H a cl) : H a ≠ none := by
  cases cl with
  | lst ds => obtain ⟨_, vs, e, _⟩ := x; rw [e]; intro z; cases z
  | dct t kvs =>
    obtain ⟨_, ⟨_, ws, e, _⟩ | ⟨_, ws, e, _⟩⟩ := x <;> (rw [e]; intro z; cases z)
  | ins y fs => obtain ⟨_, C, dx, ws, e, _⟩ := x; rw [e]; intro z; cases z
  | froz d => obtain ⟨_, o, e⟩ := x; exact g.frozen_some e
theorem Good.at_cell (g : Good c w H s) {k : Nat} {a : Addr} (h : w.ρ[k]? = some a) : ∃ cl, s[k]? = some cl ∧ CellOk c w H a cl := by
  have hk : k < w.ρ.length := (List.getElem?_eq_some_iff.mp h).1
  rw [g.len] at hk
  exact ⟨s[k], by rw [List.getElem?_eq_getElem hk], g.cell k s[k] a (by rw [List.getElem?_eq_getElem hk]) h⟩
theorem Good.new_addr (g : Good c w H s) {p : Addr} (h : H p = none) : p ∉ w.ρ := fun hm => by
  obtain ⟨k, hk⟩ := List.getElem?_of_mem hm
  obtain ⟨cl, _, x⟩ := g.at_cell hk
  exact x.there g h
theorem Good.new_lk (g : Good c w H s) {p : Addr} (h : H p = none) {ob : Obj} {u : HO} : (p, ob, u) ∉ w.lk := fun hm => by
  rw [g.lk p ob u hm] at h
  cases h
theorem CellOk.up (l : Le w w') {a : Addr} {cl : Cl} (hG : w.G a = none → w'.G a = none) (hH : ∀ o, H a = some o → H' a = some o) (x : CellOk c w H a cl) : CellOk c w' H' a cl := by
  cases cl with
  | lst ds => obtain ⟨n, vs, e, r⟩ := x; exact ⟨hG n, vs, hH _ e, r.up l⟩
  | dct t kvs =>
    obtain ⟨n, ⟨ht, ws, e, r⟩ | ⟨ht, ws, e, r⟩⟩ := x
    · exact ⟨hG n, .inl ⟨ht, ws, hH _ e, r.up l⟩⟩
    · exact ⟨hG n, .inr ⟨ht, ws, hH _ e, r.up l⟩⟩
  | ins y fs => obtain ⟨n, C, dx, ws, e, m, r⟩ := x; exact ⟨hG n, C, dx, ws, hH _ e, m, r.up l⟩
  | froz d => obtain ⟨r, o, e⟩ := x; exact ⟨r.up l, o, l.G _ _ e⟩
/-- the world with a frozen object more -/
def Wd.frz (w : Wd) (p : Addr) (o : HO) : Wd := ⟨upd w.G p o, w.ρ, w.lk⟩
def Wd.put (w : Wd) (p : Addr) : Wd := ⟨w.G, w.ρ ++ [p], w.lk⟩
theorem Le.frz {p : Addr} {o : HO} (h : w.G p = none) : Le w (w.frz p o) := ⟨fun a u e => by
  show upd w.G p o a = some u
  rw [upd_ne (ne_of_none e h)]
  exact e, fun _ _ h => h, rfl⟩
theorem Le.put {p : Addr} : Le w (w.put p) := ⟨fun _ _ h => h, fun k a h => by
  show (w.ρ ++ [p])[k]? = some a
  rw [List.getElem?_append_left (List.getElem?_eq_some_iff.mp h).1]
  exact h, rfl⟩
/-- a new object, frozen at once -/
theorem Good.frz (g : Good c w H s) {p : Addr} {o : HO} (h : H p = none) : Good c (w.frz p o) (upd H p o) s := by
  have hG := g.fresh h
  refine ⟨fun a u e => ?_, fun a ob u hm => ?_, g.len, g.inj, fun k cl a h1 h2 => ?_⟩
  · by_cases ha : a = p
    · subst ha
      have e' : upd w.G a o a = some u := e
      rw [upd_same] at e'
      exact .inl (by rw [upd_same]; exact e')
    · have e' : upd w.G p o a = some u := e
      rw [upd_ne ha] at e'
      rcases g.ext a u e' with q | ⟨dk, ob, q1, q2⟩
      · exact .inl (by rw [upd_ne ha]; exact q)
      · exact .inr ⟨dk, ob, q1, by rw [upd_ne ha]; exact q2⟩
  · have q := g.lk a ob u hm
    rw [upd_ne (ne_of_none q h)]
    exact q
  · have x := g.cell k cl a h1 h2
    have ha : a ≠ p := fun z => g.new_addr h (z ▸ List.mem_of_getElem? h2)
    refine x.up (Le.frz hG) (fun n => ?_) (fun u e => ?_)
    · show upd w.G p o a = none
      rw [upd_ne ha]
      exact n
    · rw [upd_ne ha]
      exact e
/-- a new object, a cell -/
theorem Good.put (g : Good c w H s) {p : Addr} {o : HO} {cl : Cl} (h : H p = none) (x : ∀ H', H' p = some o → CellOk c (w.put p) H' p cl) : Good c (w.put p) (upd H p o) (s ++ [cl]) := by
  have hn := g.new_addr h
  refine ⟨fun a u e => ?_, fun a ob u hm => ?_, ?_, ?_, fun k cl' a h1 h2 => ?_⟩
  · have ha : a ≠ p := fun z => g.frozen_some e (by rw [z]; exact h)
    rcases g.ext a u e with q | ⟨dk, ob, q1, q2⟩
    · exact .inl (by rw [upd_ne ha]; exact q)
    · exact .inr ⟨dk, ob, q1, by rw [upd_ne ha]; exact q2⟩
  · have q := g.lk a ob u hm
    rw [upd_ne (ne_of_none q h)]
    exact q
  · show (w.ρ ++ [p]).length = _
    rw [List.length_append, List.length_append, g.len]
    rfl
  · show (w.ρ ++ [p]).Nodup
    rw [List.nodup_append]
    refine ⟨g.inj, by simp, fun a ha b hb => ?_⟩
    have e : b = p := by simpa using hb
    rw [e]
    exact fun z => hn (z ▸ ha)
  · have h2' : (w.ρ ++ [p])[k]? = some a := h2
    by_cases hk : k < s.length
    · rw [List.getElem?_append_left hk] at h1
      rw [List.getElem?_append_left (by rw [g.len]; exact hk)] at h2'
      have y := g.cell k cl' a h1 h2'
      have ha : a ≠ p := fun z => hn (z ▸ List.mem_of_getElem? h2')
      exact y.up Le.put (fun n => n) fun u e => by rw [upd_ne ha]; exact e
    · rw [List.getElem?_append_right (by omega)] at h1
      rw [List.getElem?_append_right (by rw [g.len]; omega)] at h2'
      have k0 : k - s.length = 0 := by
        have q := (List.getElem?_eq_some_iff.mp h1).1
        simpa using q
      rw [k0] at h1
      rw [g.len, k0] at h2'
      cases h1
      cases h2'
      exact x _ upd_same
/-- a cell is written -/
theorem Good.write (g : Good c w H s) {k : Nat} {p : Addr} {o : HO} {cl : Cl} (hk : w.ρ[k]? = some p) (hG : w.G p = none) (hl : ∀ ob u, (p, ob, u) ∉ w.lk) (x : ∀ H', H' p = some o → CellOk c w H' p cl) : Good c w (upd H p o) (s.set k cl) := by
  refine ⟨fun a u e => ?_, fun a ob u hm => ?_, ?_, g.inj, fun j cl' a h1 h2 => ?_⟩
  · have ha : a ≠ p := fun z => by rw [z, hG] at e; cases e
    rcases g.ext a u e with q | ⟨dk, ob, q1, q2⟩
    · exact .inl (by rw [upd_ne ha]; exact q)
    · exact .inr ⟨dk, ob, q1, by rw [upd_ne ha]; exact q2⟩
  · have ha : a ≠ p := fun z => hl ob u (z ▸ hm)
    rw [upd_ne ha]
    exact g.lk a ob u hm
  · rw [List.length_set]
    exact g.len
  · by_cases hj : k = j
    · subst hj
      rw [hk] at h2
      cases h2
      have hs : k < s.length := by rw [← g.len]; exact (List.getElem?_eq_some_iff.mp hk).1
      rw [List.getElem?_set_self hs] at h1
      cases h1
      exact x _ upd_same
    · rw [List.getElem?_set_ne hj] at h1
      have y := g.cell j cl' a h1 h2
      have ha : a ≠ p := fun z => hj (by
        subst z
        exact (List.getElem?_inj (List.getElem?_eq_some_iff.mp hk).1 g.inj).mp (hk.trans h2.symm))
      exact y.up (Le.refl w) (fun n => n) fun u e => by rw [upd_ne ha]; exact e
theorem Good.cell_lk (g : Good c w H s) {k : Nat} {p : Addr} {cl : Cl} (h1 : s[k]? = some cl) (hk : w.ρ[k]? = some p) (hc : ∀ d, cl ≠ .froz d) : ∀ ob u, (p, ob, u) ∉ w.lk := fun ob u hm => by
  have q := g.lk p ob u hm
  have x := g.cell k cl p h1 hk
  cases cl with
  | lst ds => obtain ⟨_, vs, e, _⟩ := x; rw [e] at q; cases q
  | dct t kvs => obtain ⟨_, ⟨_, ws, e, _⟩ | ⟨_, ws, e, _⟩⟩ := x <;> (rw [e] at q; cases q)
  | ins y fs => obtain ⟨_, C, dx, ws, e, _⟩ := x; rw [e] at q; cases q
  | froz d => exact hc d rfl
end
end D
end

section
set_option maxHeartbeats 4000000
namespace D
open PySem L2
section
variable {c : Ct} {w w' : Wd} {H H' : Hp} {s s' : S} {env : Env} {σ : L2.St}
/-- a cell's content is frozen -/
theorem Good.freeze (g : Good c w H s) {k : Nat} {p : Addr} {o : HO} {d : Dt} (hk : w.ρ[k]? = some p) (hG : w.G p = none) (ho : H p = some o) (r : Rep c (w.frz p o) d (.ref p)) : Good c (w.frz p o) H (s.set k (.froz d)) := by
  have lfr : Le w (w.frz p o) := Le.frz hG
  have gp : (w.frz p o).G p = some o := upd_same
  refine ⟨fun a u e => ?_, fun a ob u hm => g.lk a ob u hm, ?_, g.inj, fun j cl' a h1 h2 => ?_⟩
  · by_cases ha : a = p
    · subst ha
      rw [gp] at e
      cases e
      exact .inl ho
    · have e' : upd w.G p o a = some u := e
      rw [upd_ne ha] at e'
      exact g.ext a u e'
  · rw [List.length_set]
    exact g.len
  · have h2' : w.ρ[j]? = some a := h2
    by_cases hj : k = j
    · subst hj
      rw [hk] at h2'
      cases h2'
      have hs : k < s.length := by rw [← g.len]; exact (List.getElem?_eq_some_iff.mp hk).1
      rw [List.getElem?_set_self hs] at h1
      cases h1
      exact ⟨r, o, gp⟩
    · rw [List.getElem?_set_ne hj] at h1
      have y := g.cell j cl' a h1 h2'
      have ha : a ≠ p := fun z => hj (by
        subst z
        exact (List.getElem?_inj (List.getElem?_eq_some_iff.mp hk).1 g.inj).mp (hk.trans h2'.symm))
      exact y.up lfr (fun n => by
        show upd w.G p o a = none
        rw [upd_ne ha]
        exact n) fun u e => e
/-! ### what is wanted behind a result -/
def Aft {α β : Type} (c : Ct) (R : Wd → α → β → Prop) (w : Wd) (σ : L2.St) (W : WX) (r : Res α) (Q : β → Hp → Prop) : Prop := match r with
  | .ok d s' => ∀ w' v H', Le w w' → Good c w' H' s' → R w' d v → Q v H'
  | .exc e s' => ∀ w' H' cls dd, Le w w' → Good c w' H' s' → ExcR c w' H' e cls dd → W cls dd σ H'
  | .bad => False
abbrev RD (c : Ct) : Wd → Dt → V → Prop := fun w d v => Rep c w d v
abbrev RB : Wd → Bool → Bool → Prop := fun _ a b => a = b
abbrev RA (c : Ct) : Wd → List Dt → List V → Prop := fun w ds vs => Reps c w ds vs
section
variable {α β γ δ : Type} {R : Wd → α → β → Prop} {R' : Wd → γ → δ → Prop} {W : WX} {r : Res α} {k : α → S → Res γ} {Q : δ → Hp → Prop} {P : β → Hp → Prop}
theorem Aft.up (l : Le w w') {Q : β → Hp → Prop} (h : Aft c R w σ W r Q) : Aft c R w' σ W r Q := by
  cases r with
  | ok d s' => exact fun w2 v H' l2 g x => h w2 v H' (l.trans l2) g x
  | exc e s' => exact fun w2 H' cls dd l2 g x => h w2 H' cls dd (l.trans l2) g x
  | bad => exact h
theorem Aft.bind (h : Aft c R' w σ W (r.bind k) Q) (hk : ∀ d s' w' v H', r = .ok d s' → Le w w' → Good c w' H' s' → R w' d v → Aft c R' w' σ W (k d s') Q → P v H') : Aft c R w σ W r P := by
  cases r with
  | ok d s' => exact fun w' v H' l g x => hk d s' w' v H' rfl l g x (Aft.up l h)
  | exc e s' => exact h
  | bad => exact h
theorem Aft.now {d : α} {Q : β → Hp → Prop} (h : Aft c R w σ W (.ok d s) Q) {v : β} (g : Good c w H s) (x : R w d v) : Q v H := h w v H (Le.refl w) g x
theorem Aft.at_ {d : α} {Q : β → Hp → Prop} (h : Aft c R w σ W (.ok d s) Q) {v : β} (l : Le w w') (g : Good c w' H s) (x : R w' d v) : Q v H := h w' v H l g x
end
end
/-- a reading by a denotation -/
def liftE (c : Ct) (W : WX) (d : DE) : TE := fun σ H Q => ∃ env s w, SR c w env σ ∧ Good c w H s ∧ Aft c (RD c) w σ W (d env s) Q
def liftT (c : Ct) (W : WX) (d : DT) : TT := fun σ H Q => ∃ env s w, SR c w env σ ∧ Good c w H s ∧ Aft c RB w σ W (d env s) Q
def liftA (c : Ct) (W : WX) (d : DA) : TA := fun σ H Q => ∃ env s w, SR c w env σ ∧ Good c w H s ∧ Aft c (RA c) w σ W (d env s) Q
def AftS (c : Ct) (w : Wd) (W : WX) (r : SRes) (D : Ends) : Prop := match r with
  | .nx env' s' => ∀ w' σ' H', Le w w' → SR c w' env' σ' → Good c w' H' s' → D.nx σ' H'
  | .bk env' s' => ∀ w' σ' H', Le w w' → SR c w' env' σ' → Good c w' H' s' → D.bk σ' H'
  | .ct env' s' => ∀ w' σ' H', Le w w' → SR c w' env' σ' → Good c w' H' s' → D.ct σ' H'
  | .rt d s' => ∀ w' v H', Le w w' → Good c w' H' s' → Rep c w' d v → D.rt v H'
  | .exc e env' s' => ∀ w' σ' H' cls dd, Le w w' → SR c w' env' σ' → Good c w' H' s' → ExcR c w' H' e cls dd → W cls dd σ' H'
  | .bad => False
def liftS (c : Ct) (W : WX) (d : DS) : TS := fun D σ H => ∃ env s w, SR c w env σ ∧ Good c w H s ∧ AftS c w W (d env s) D
theorem AftS.up {c : Ct} {w w' : Wd} {W : WX} {r : SRes} {D : Ends} (l : Le w w') (h : AftS c w W r D) : AftS c w' W r D := by
  cases r with
  | nx env s => exact fun w2 σ H l2 sr g => h w2 σ H (l.trans l2) sr g
  | bk env s => exact fun w2 σ H l2 sr g => h w2 σ H (l.trans l2) sr g
  | ct env s => exact fun w2 σ H l2 sr g => h w2 σ H (l.trans l2) sr g
  | rt d s => exact fun w2 v H l2 g x => h w2 v H (l.trans l2) g x
  | exc e env s => exact fun w2 σ H cls dd l2 sr g x => h w2 σ H cls dd (l.trans l2) sr g x
  | bad => exact h
abbrev ct (X : Cx) : Ct := ⟨X.K, X.mg⟩
/-! ### the judgements -/
structure PD (X : Cx) (W : WX) (e : Expr) (d : DE) : Prop where
  pe : PE X e (liftE (ct X) W d)
structure PDT (X : Cx) (W : WX) (e : Expr) (d : DT) : Prop where
  pt : PT X e (liftT (ct X) W d)
structure PDW (X : Cx) (W : WX) (e : Expr) (d : DT) : Prop where
  pw : PW X e (liftT (ct X) W d)
structure PDA (X : Cx) (W : WX) (es : List Expr) (d : DA) : Prop where
  pa : PA X es (liftA (ct X) W d)
structure PDS (X : Cx) (W : WX) (st : Stmt) (d : DS) : Prop where
  ps : PS X st (liftS (ct X) W d)
structure PDSs (X : Cx) (W : WX) (st : List Stmt) (d : DS) : Prop where
  pss : PSs X st (liftS (ct X) W d)
/-- weaken -/
theorem _root_.L2.PE.of {X : Cx} {e : Expr} {t t' : TE} (h : PE X e t) (i : ∀ σ H Q, t' σ H Q → t σ H Q) : PE X e t' := ⟨fun pins s σ H Q I q => h.run pins s σ H Q I (i σ H Q q)⟩
theorem _root_.L2.PT.of {X : Cx} {e : Expr} {t t' : TT} (h : PT X e t) (i : ∀ σ H Q, t' σ H Q → t σ H Q) : PT X e t' := ⟨fun pins s σ H Q I q => h.run pins s σ H Q I (i σ H Q q)⟩
theorem _root_.L2.PW.of {X : Cx} {e : Expr} {t t' : TT} (h : PW X e t) (i : ∀ σ H Q, t' σ H Q → t σ H Q) : PW X e t' := ⟨fun wh pins s σ H Q I q => h.run wh pins s σ H Q I (i σ H Q q)⟩
theorem _root_.L2.PA.of {X : Cx} {e : List Expr} {t t' : TA} (h : PA X e t) (i : ∀ σ H Q, t' σ H Q → t σ H Q) : PA X e t' := ⟨fun p pins s σ H Q I q => h.run p pins s σ H Q I (i σ H Q q)⟩
theorem _root_.L2.PS.of {X : Cx} {e : Stmt} {t t' : TS} (h : PS X e t) (i : ∀ D σ H, t' D σ H → t D σ H) : PS X e t' := ⟨fun pins s σ H D I q => h.run pins s σ H D I (i D σ H q)⟩
theorem _root_.L2.PSs.of {X : Cx} {e : List Stmt} {t t' : TS} (h : PSs X e t) (i : ∀ D σ H, t' D σ H → t D σ H) : PSs X e t' := ⟨fun pins s σ H D I q => h.run pins s σ H D I (i D σ H q)⟩

/-! ### names and constants -/
section
variable {X : Cx} {W : WX} {pos : Pos} {a b : Expr} {da db : DE}
def dVar (i : Nat) : DE := fun env s => match env[i]? with
  | some (some (.ref k)) => (match s[k]? with
    | some (.froz d) => .ok d s
    | some _ => .ok (.ref k) s
    | none => .bad)
  | some (some d) => .ok d s
  | _ => .bad
def dC (d : Dt) : DE := fun _ s => .ok d s
theorem var_aft {c : Ct} {w : Wd} {H : Hp} {s : S} {env : Env} {σ : L2.St} {i : Nat} {Q : VK} (sr : SR c w env σ) (g : Good c w H s) (h : Aft c (RD c) w σ W (dVar i env s) Q) : ∃ v, σ[i]? = some (some v) ∧ Q v H := by
  unfold dVar at h
  split at h
  · rename_i k e
    obtain ⟨v, h1, h2⟩ := sr.at_ i _ e
    refine ⟨v, h1, ?_⟩
    split at h
    · rename_i d ek
      simp only [Rep] at h2
      obtain ⟨a, h3, rfl⟩ := h2
      exact h.now g (g.cell k _ a ek h3).1
    · exact h.now g h2
    · exact h.elim
  · rename_i d _ e
    obtain ⟨v, h1, h2⟩ := sr.at_ i _ e
    exact ⟨v, h1, h.now g h2⟩
  · exact h.elim
theorem pd_var (i : Nat) {x : Str} (hN : X.N[i]? = some x := by rfl) (hv : Vis X.env.scope x := by first | exact Or.inl rfl | exact Or.inr (Or.inl rfl) | exact Or.inr (Or.inr rfl)) (hd : (x == ("__debug__" : Str)) = false := by decide)
    (hcd : (x == ("__classdict__" : Str)) = false := by decide) : PD X W (.Name x pos) (dVar i) :=
  ⟨(pe_var hN hv hd hcd).of fun σ H Q ⟨env, s, w, sr, g, h⟩ => var_aft sr g h⟩
theorem pd_int {i : Int} {j : Nat} : PD X W (.Constant (.int i) j pos) (dC (.int i)) := ⟨pe_int.of fun σ H Q ⟨env, s, w, sr, g, h⟩ => h.now g rfl⟩
end
end D
end

section
set_option maxHeartbeats 4000000
namespace D
open PySem L2
/-! ### what a value is at this moment -/
/-- a cell's content, or what it is -/
def pk (s : S) : Dt → Dt
  | .ref k => (match s[k]? with
    | some (.lst ds) => .lst ds
    | some (.dct t kvs) => .dct t kvs
    | some (.ins x fs) => .obj x fs
    | some (.froz d) => d
    | none => .ref k)
  | .ktup ds => .tup ds
  | .klst ds => .lst ds
  | d => d
section
variable {c : Ct} {w w' : Wd} {H H' : Hp} {s s' : S} {env : Env} {σ : L2.St} {d : Dt} {v : V}
theorem Good.rd (g : Good c w H s) {a : Addr} {o : HO} (h : w.G a = some o) : Rd H a o := by
  rcases g.ext a o h with q | ⟨_, ob, _, q⟩
  · exact .inl q
  · exact .inr ⟨ob, q⟩
theorem Good.same (g : Good c w H s) {a : Addr} {o : HO} (h : w.G a = some o) (n : ¬ IsDk o) : H a = some o := by
  rcases g.ext a o h with q | ⟨dk, _⟩
  · exact q
  · exact absurd dk n
theorem frz_nd {ob : Obj} {u : HO} : ¬ IsDk (.frz ob u) := fun z => by
  rcases z with ⟨_, z⟩ | ⟨_, z⟩ <;> cases z
theorem tup_nd {xs : List V} : ¬ IsDk (.tup xs) := fun z => by
  rcases z with ⟨_, z⟩ | ⟨_, z⟩ <;> cases z
theorem lst_nd {xs : List V} : ¬ IsDk (.lst xs) := fun z => by
  rcases z with ⟨_, z⟩ | ⟨_, z⟩ <;> cases z
theorem ins_nd {C dx : Addr} {fs : List (Str × V)} : ¬ IsDk (.ins C dx fs) := fun z => by
  rcases z with ⟨_, z⟩ | ⟨_, z⟩ <;> cases z
theorem Good.sqL (g : Good c w H s) {a : Addr} {vs : List V} (x : SqL c.K w.G a vs) : SqL c.K H a vs := by
  rcases x with (x | ⟨o, x⟩) | x
  · exact .inl (.inl (g.same x lst_nd))
  · exact .inl (.inr ⟨o, g.same x frz_nd⟩)
  · exact .inr x
theorem Good.sqT (g : Good c w H s) {a : Addr} {vs : List V} (x : SqT c.K w.G a vs) : SqT c.K H a vs := by
  rcases x with (x | ⟨o, x⟩) | x
  · exact .inl (.inl (g.same x tup_nd))
  · exact .inl (.inr ⟨o, g.same x frz_nd⟩)
  · exact .inr x
/-- the cell behind a value -/
theorem Good.ref_ (g : Good c w H s) {k : Nat} (r : Rep c w (.ref k) v) : ∃ a cl, v = .ref a ∧ w.ρ[k]? = some a ∧ s[k]? = some cl ∧ CellOk c w H a cl := by
  simp only [Rep] at r
  obtain ⟨a, h1, h2⟩ := r
  obtain ⟨cl, h3, h4⟩ := g.at_cell h1
  exact ⟨a, cl, h2, h1, h3, h4⟩
theorem Good.isLst (g : Good c w H s) {ds : List Dt} (r : Rep c w d v) (e : pk s d = .lst ds) : ∃ a vs, v = .ref a ∧ SqL c.K H a vs ∧ Reps c w ds vs := by
  cases d with
  | lst xs =>
    have e' : xs = ds := by
      have : Dt.lst xs = Dt.lst ds := e
      injection this
    subst e'
    simp only [Rep] at r
    obtain ⟨a, vs, h1, h2, h3⟩ := r
    exact ⟨a, vs, h1, .inl (.inl (g.same h2 lst_nd)), h3⟩
  | klst xs =>
    have e' : xs = ds := by
      have : Dt.lst xs = Dt.lst ds := e
      injection this
    subst e'
    simp only [Rep] at r
    obtain ⟨a, vs, h1, h2, h3⟩ := r
    exact ⟨a, vs, h1, g.sqL h2, h3⟩
  | ref k =>
    obtain ⟨a, cl, h1, h2, h3, h4⟩ := g.ref_ r
    have e' : (match s[k]? with
      | some (.lst ds) => Dt.lst ds
      | some (.dct t kvs) => .dct t kvs
      | some (.ins x fs) => .obj x fs
      | some (.froz d) => d
      | none => .ref k) = Dt.lst ds := e
    rw [h3] at e'
    cases cl with
    | lst xs =>
      have e2 : xs = ds := by
        have : Dt.lst xs = Dt.lst ds := e'
        injection this
      subst e2
      obtain ⟨_, vs, q1, q2⟩ := h4
      exact ⟨a, vs, h1, SqL.of q1, q2⟩
    | froz d =>
      have e2 : d = .lst ds := e'
      subst e2
      obtain ⟨q, _⟩ := h4
      simp only [Rep] at q
      obtain ⟨a', vs, p1, p2, p3⟩ := q
      cases p1
      exact ⟨a, vs, h1, .inl (.inl (g.same p2 lst_nd)), p3⟩
    | dct t kvs => cases e'
    | ins x fs => cases e'
  | _ => cases e
theorem Good.isTup (g : Good c w H s) {ds : List Dt} (r : Rep c w d v) (e : pk s d = .tup ds) : ∃ a vs, v = .ref a ∧ SqT c.K H a vs ∧ Reps c w ds vs := by
  cases d with
  | tup xs =>
    have e' : xs = ds := by
      have : Dt.tup xs = Dt.tup ds := e
      injection this
    subst e'
    simp only [Rep] at r
    obtain ⟨a, vs, h1, h2, h3⟩ := r
    exact ⟨a, vs, h1, .inl (.inl (g.same h2 tup_nd)), h3⟩
  | ktup xs =>
    have e' : xs = ds := by
      have : Dt.tup xs = Dt.tup ds := e
      injection this
    subst e'
    simp only [Rep] at r
    obtain ⟨a, vs, h1, h2, h3⟩ := r
    exact ⟨a, vs, h1, g.sqT h2, h3⟩
  | ref k =>
    obtain ⟨a, cl, h1, h2, h3, h4⟩ := g.ref_ r
    have e' : (match s[k]? with
      | some (.lst ds) => Dt.lst ds
      | some (.dct t kvs) => .dct t kvs
      | some (.ins x fs) => .obj x fs
      | some (.froz d) => d
      | none => .ref k) = Dt.tup ds := e
    rw [h3] at e'
    cases cl with
    | froz d =>
      have e2 : d = .tup ds := e'
      subst e2
      obtain ⟨q, _⟩ := h4
      simp only [Rep] at q
      obtain ⟨a', vs, p1, p2, p3⟩ := q
      cases p1
      exact ⟨a, vs, h1, .inl (.inl (g.same p2 tup_nd)), p3⟩
    | lst xs => cases e'
    | dct t kvs => cases e'
    | ins x fs => cases e'
  | _ => cases e
/-- what stands at a dict -/
def DctAt (c : Ct) (w : Wd) (H : Hp) (a : Addr) (t : Bool) (kvs : List (List Key × Dt)) : Prop :=
  (t = false ∧ ∃ ws : List (Key × V), Rd H a (.dK ws) ∧ RepK c w kvs (ws.map fun p => ([p.1], p.2))) ∨ (t = true ∧ ∃ ws : List (List Key × V), Rd H a (.dT ws) ∧ RepK c w kvs ws)
theorem Good.isDct (g : Good c w H s) {t : Bool} {kvs : List (List Key × Dt)} (r : Rep c w d v) (e : pk s d = .dct t kvs) : ∃ a, v = .ref a ∧ DctAt c w H a t kvs := by
  have frz : ∀ {v : V}, Rep c w (.dct t kvs) v → ∃ a, v = .ref a ∧ DctAt c w H a t kvs := fun {v} r => by
    simp only [Rep] at r
    obtain ⟨a, h1, ⟨ht, ws, h2, h3⟩ | ⟨ht, ws, h2, h3⟩⟩ := r
    · exact ⟨a, h1, .inl ⟨ht, ws, g.rd h2, h3⟩⟩
    · exact ⟨a, h1, .inr ⟨ht, ws, g.rd h2, h3⟩⟩
  cases d with
  | dct t' xs =>
    have e' : Dt.dct t' xs = Dt.dct t kvs := e
    rw [e'] at r
    exact frz r
  | ref k =>
    obtain ⟨a, cl, h1, h2, h3, h4⟩ := g.ref_ r
    have e' : (match s[k]? with
      | some (.lst ds) => Dt.lst ds
      | some (.dct t kvs) => .dct t kvs
      | some (.ins x fs) => .obj x fs
      | some (.froz d) => d
      | none => .ref k) = Dt.dct t kvs := e
    rw [h3] at e'
    cases cl with
    | dct t' xs =>
      have e2 : Dt.dct t' xs = Dt.dct t kvs := e'
      injection e2 with e3 e4
      subst e3 e4
      obtain ⟨_, ⟨ht, ws, q1, q2⟩ | ⟨ht, ws, q1, q2⟩⟩ := h4
      · exact ⟨a, h1, .inl ⟨ht, ws, .inl q1, q2⟩⟩
      · exact ⟨a, h1, .inr ⟨ht, ws, .inl q1, q2⟩⟩
    | froz d =>
      have e2 : d = .dct t kvs := e'
      subst e2
      rw [h1]
      exact frz h4.1
    | lst xs => cases e'
    | ins x fs => cases e'
  | _ => cases e
theorem Good.isObj (g : Good c w H s) {x : Str} {fs : List (Str × Dt)} (r : Rep c w d v) (e : pk s d = .obj x fs) : ∃ a C dx ws, v = .ref a ∧ H a = some (.ins C dx ws) ∧ c.mg x = some (.ref C) ∧ RepF c w fs ws := by
  have frz : ∀ {v : V}, Rep c w (.obj x fs) v → ∃ a C dx ws, v = .ref a ∧ H a = some (.ins C dx ws) ∧ c.mg x = some (.ref C) ∧ RepF c w fs ws := fun {v} r => by
    simp only [Rep] at r
    obtain ⟨a, C, dx, ws, h1, h2, h3, h4⟩ := r
    exact ⟨a, C, dx, ws, h1, g.same h2 ins_nd, h3, h4⟩
  cases d with
  | obj x' xs =>
    have e' : Dt.obj x' xs = Dt.obj x fs := e
    rw [e'] at r
    exact frz r
  | ref k =>
    obtain ⟨a, cl, h1, h2, h3, h4⟩ := g.ref_ r
    have e' : (match s[k]? with
      | some (.lst ds) => Dt.lst ds
      | some (.dct t kvs) => .dct t kvs
      | some (.ins x fs) => .obj x fs
      | some (.froz d) => d
      | none => .ref k) = Dt.obj x fs := e
    rw [h3] at e'
    cases cl with
    | ins x' xs =>
      have e2 : Dt.obj x' xs = Dt.obj x fs := e'
      injection e2 with e3 e4
      subst e3 e4
      obtain ⟨_, C, dx, ws, q1, q2, q3⟩ := h4
      exact ⟨a, C, dx, ws, h1, q1, q2, q3⟩
    | froz d =>
      have e2 : d = .obj x fs := e'
      subst e2
      rw [h1]
      exact frz h4.1
    | lst xs => cases e'
    | dct t kvs => cases e'
  | _ => cases e
theorem Reps.length : ∀ {ds : List Dt} {vs : List V}, Reps c w ds vs → ds.length = vs.length
  | [], vs, h => by
    simp only [Reps] at h
    rw [h] <;> rfl
  | d :: ds, vs, h => by
    simp only [Reps] at h
    obtain ⟨v, r, rfl, _, h3⟩ := h
    rw [List.length_cons, List.length_cons, Reps.length h3]
theorem Reps.get : ∀ {ds : List Dt} {vs : List V} {i : Nat} {d : Dt}, Reps c w ds vs → ds[i]? = some d → ∃ v, vs[i]? = some v ∧ Rep c w d v
  | [], _, _, _, _, e => by simp at e
  | d :: ds, vs, 0, d', h, e => by
    simp only [Reps] at h
    obtain ⟨v, r, rfl, h2, h3⟩ := h
    simp at e
    subst e
    exact ⟨v, rfl, h2⟩
  | d :: ds, vs, i + 1, d', h, e => by
    simp only [Reps] at h
    obtain ⟨v, r, rfl, h2, h3⟩ := h
    obtain ⟨v', q1, q2⟩ := Reps.get (i := i) h3 (by simpa using e)
    exact ⟨v', by simpa using q1, q2⟩
theorem Reps.append : ∀ {ds es : List Dt} {vs us : List V}, Reps c w ds vs → Reps c w es us → Reps c w (ds ++ es) (vs ++ us)
  | [], es, vs, us, h, h' => by
    simp only [Reps] at h
    subst h
    exact h'
  | d :: ds, es, vs, us, h, h' => by
    simp only [Reps] at h
    obtain ⟨v, r, rfl, h2, h3⟩ := h
    show Reps c w (d :: (ds ++ es)) (v :: (r ++ us))
    simp only [Reps]
    exact ⟨v, r ++ us, rfl, h2, Reps.append h3 h'⟩
theorem Reps.one (r : Rep c w d v) : Reps c w [d] [v] := by
  simp only [Reps]
  exact ⟨v, [], rfl, r, rfl⟩
theorem Reps.take : ∀ {ds : List Dt} {vs : List V} (n : Nat), Reps c w ds vs → Reps c w (ds.take n) (vs.take n)
  | _, _, 0, _ => by simp only [List.take_zero, Reps]
  | [], vs, n + 1, h => by
    simp only [Reps] at h
    subst h
    simp only [List.take_nil, Reps]
  | d :: ds, vs, n + 1, h => by
    simp only [Reps] at h
    obtain ⟨v, r, rfl, h2, h3⟩ := h
    simp only [List.take_succ_cons, Reps]
    exact ⟨v, r.take n, rfl, h2, Reps.take n h3⟩
theorem Reps.drop : ∀ {ds : List Dt} {vs : List V} (n : Nat), Reps c w ds vs → Reps c w (ds.drop n) (vs.drop n)
  | _, _, 0, h => by simpa only [List.drop_zero] using h
  | [], vs, n + 1, h => by
    simp only [Reps] at h
    subst h
    simp only [List.drop_nil, Reps]
  | d :: ds, vs, n + 1, h => by
    simp only [Reps] at h
    obtain ⟨v, r, rfl, h2, h3⟩ := h
    simp only [List.drop_succ_cons]
    exact Reps.drop n h3
end

/-! ### expressions -/
section
variable {X : Cx} {W : WX} {pos : Pos} {a b e : Expr} {es : List Expr} {da db d : DE} {dr : DA}
theorem pd_str {x : Str} {j : Nat} : PD X W (.Constant (.str x) j pos) (dC (.str x)) := ⟨pe_str.of fun σ H Q ⟨env, s, w, sr, g, h⟩ => h.now g rfl⟩
theorem pd_bl {x : Bool} {j : Nat} : PD X W (.Constant (.bool x) j pos) (dC (.bl x)) := ⟨pe_bl.of fun σ H Q ⟨env, s, w, sr, g, h⟩ => h.now g rfl⟩
theorem pd_non {j : Nat} : PD X W (.Constant .none j pos) (dC .non) := ⟨pe_non.of fun σ H Q ⟨env, s, w, sr, g, h⟩ => h.now g rfl⟩
def dNil : DA := fun _ s => .ok [] s
def dCons (d : DE) (r : DA) : DA := fun env s => (d env s).bind fun x s => (r env s).bind fun xs s => .ok (x :: xs) s
theorem pda_nil : PDA X W [] dNil := ⟨pa_nil.of fun σ H Q ⟨env, s, w, sr, g, h⟩ => h.now g rfl⟩
theorem pda_cons (ha : PD X W e d) (hr : PDA X W es dr) (hs : starEach (e :: es) X.env = (false, eval e X.env) :: starEach es X.env := by rfl) : PDA X W (e :: es) (dCons d dr) :=
  ⟨(pa_cons ha.pe hr.pa hs).of fun σ H Q ⟨env, s, w, sr, g, h⟩ => ⟨env, s, w, sr, g, Aft.bind h fun d1 s1 w1 v1 H1 _ l1 g1 r1 h1 =>
    ⟨env, s1, w1, sr.up l1, g1, Aft.bind h1 fun d2 s2 w2 v2 H2 _ l2 g2 r2 h2 => h2.now g2 (show Reps (ct X) w2 (d1 :: d2) (v1 :: v2) by
      simp only [Reps]
      exact ⟨v1, v2, rfl, r1.up l2, r2⟩)⟩⟩⟩
/-- a tuple -/
def dTup (r : DA) : DE := fun env s => (r env s).bind fun xs s => if xs.length ≤ sizeLine then .ok (.tup xs) s else .bad
theorem Good.newTup {c : Ct} {w : Wd} {H : Hp} {s : S} {p : Addr} {ds : List Dt} {vs : List V} (g : Good c w H s) (h : H p = none) (r : Reps c w ds vs) :
    Le w (w.frz p (.tup vs)) ∧ Good c (w.frz p (.tup vs)) (upd H p (.tup vs)) s ∧ Rep c (w.frz p (.tup vs)) (.tup ds) (.ref p) := by
  have l : Le w (w.frz p (.tup vs)) := Le.frz (g.fresh h)
  refine ⟨l, g.frz h, ?_⟩
  simp only [Rep]
  exact ⟨p, vs, rfl, upd_same, r.up l⟩
theorem Good.newLst {c : Ct} {w : Wd} {H : Hp} {s : S} {p : Addr} {ds : List Dt} {vs : List V} (g : Good c w H s) (h : H p = none) (r : Reps c w ds vs) :
    Le w (w.frz p (.lst vs)) ∧ Good c (w.frz p (.lst vs)) (upd H p (.lst vs)) s ∧ Rep c (w.frz p (.lst vs)) (.lst ds) (.ref p) := by
  have l : Le w (w.frz p (.lst vs)) := Le.frz (g.fresh h)
  refine ⟨l, g.frz h, ?_⟩
  simp only [Rep]
  exact ⟨p, vs, rfl, upd_same, r.up l⟩
theorem Good.newLstC {c : Ct} {w : Wd} {H : Hp} {s : S} {p : Addr} {ds : List Dt} {vs : List V} (g : Good c w H s) (h : H p = none) (r : Reps c w ds vs) :
    Le w (w.put p) ∧ Good c (w.put p) (upd H p (.lst vs)) (s ++ [.lst ds]) ∧ Rep c (w.put p) (.ref s.length) (.ref p) := by
  refine ⟨Le.put, g.put h fun H' e => ⟨g.fresh h, vs, e, r.up Le.put⟩, ?_⟩
  simp only [Rep]
  refine ⟨p, ?_, rfl⟩
  show (w.ρ ++ [p])[s.length]? = some p
  rw [← g.len, List.getElem?_append_right (Nat.le_refl _), Nat.sub_self]
  rfl
theorem pd_tup {k : Nat} (h : PDA X W es dr) : PD X W (.Tuple es k pos) (dTup dr) :=
  ⟨(pe_tup h.pa).of fun σ H Q ⟨env, s, w, sr, g, h⟩ => ⟨env, s, w, sr, g, Aft.bind h fun ds s1 w1 vs H1 _ l1 g1 r1 h1 => by
    have z : ds.length = vs.length := Reps.length r1
    by_cases hz : ds.length ≤ sizeLine
    · rw [if_pos hz] at h1
      refine ⟨by rw [← z]; exact hz, fun p hp => ?_⟩
      obtain ⟨l2, g2, r2⟩ := g1.newTup hp r1
      exact h1.at_ l2 g2 r2
    · rw [if_neg hz] at h1
      exact h1.elim⟩⟩
/-- what makes a new list -/
abbrev DN := Env → S → Res (List Dt)
def liftN (c : Ct) (W : WX) (d : DN) : TE := fun σ H Q => ∃ env s w, SR c w env σ ∧ Good c w H s ∧ Aft c (RA c) w σ W (d env s) (fun vs H1 => ∀ p, H1 p = none → Q (.ref p) (upd H1 p (.lst vs)))
structure PDN (X : Cx) (W : WX) (e : Expr) (d : DN) : Prop where
  pe : PE X e (liftN (ct X) W d)
def dFrz (d : DN) : DE := fun env s => (d env s).bind fun xs s => .ok (.lst xs) s
def dCel (d : DN) : DE := fun env s => (d env s).bind fun xs s => .ok (.ref s.length) (s ++ [.lst xs])
theorem pd_frz {d : DN} (h : PDN X W e d) : PD X W e (dFrz d) := ⟨h.pe.of fun σ H Q ⟨env, s, w, sr, g, h⟩ => ⟨env, s, w, sr, g, Aft.bind h fun ds s1 w1 vs H1 _ l1 g1 r1 h1 p hp => by
  obtain ⟨l2, g2, r2⟩ := g1.newLst hp r1
  exact h1.at_ l2 g2 r2⟩⟩
theorem pd_cel {d : DN} (h : PDN X W e d) : PD X W e (dCel d) := ⟨h.pe.of fun σ H Q ⟨env, s, w, sr, g, h⟩ => ⟨env, s, w, sr, g, Aft.bind h fun ds s1 w1 vs H1 _ l1 g1 r1 h1 p hp => by
  obtain ⟨l2, g2, r2⟩ := g1.newLstC hp r1
  exact h1.at_ l2 g2 r2⟩⟩
def nLst (r : DA) : DN := fun env s => (r env s).bind fun xs s => if xs.length ≤ sizeLine then .ok xs s else .bad
theorem pdn_lst (h : PDA X W es dr) : PDN X W (.List es pos) (nLst dr) :=
  ⟨(pe_lst h.pa).of fun σ H Q ⟨env, s, w, sr, g, h⟩ => ⟨env, s, w, sr, g, Aft.bind h fun ds s1 w1 vs H1 _ l1 g1 r1 h1 => by
    have z : ds.length = vs.length := Reps.length r1
    by_cases hz : ds.length ≤ sizeLine
    · rw [if_pos hz] at h1
      refine ⟨by rw [← z]; exact hz, h1.now g1 r1⟩
    · rw [if_neg hz] at h1
      exact h1.elim⟩⟩
/-! ### operators -/
/-- a pure operation on values -/
abbrev P2 := Dt → Dt → S → Option Dt
def OpP (X : Cx) (op : Value → Value → Sem Value) (f : P2) : Prop :=
  OpR X op (fun x y H Q => ∃ dx dy dz s w, Good (ct X) w H s ∧ Rep (ct X) w dx x ∧ Rep (ct X) w dy y ∧ f dx dy s = some dz ∧ ∀ w' v H', Le w w' → Good (ct X) w' H' s → Rep (ct X) w' dz v → Q v H')
def ofO (o : Option Dt) (s : S) : Res Dt := match o with
  | some d => .ok d s
  | none => .bad
def dOp (f : P2) (da db : DE) : DE := fun env s => (da env s).bind fun x s => (db env s).bind fun y s => ofO (f x y s) s
theorem Aft.ofO {c : Ct} {w : Wd} {σ : L2.St} {s : S} {o : Option Dt} {Q : VK} (h : Aft c (RD c) w σ W (ofO o s) Q) : ∃ d, o = some d ∧ ∀ w' v H', Le w w' → Good c w' H' s → Rep c w' d v → Q v H' := by
  cases o with
  | none => exact h.elim
  | some d => exact ⟨d, rfl, h⟩
theorem pd_op {op : Operator} {f : P2} (ho : OpP X (binaryOp op) f) (ha : PD X W a da) (hb : PD X W b db) : PD X W (.BinOp a op b pos) (dOp f da db) :=
  ⟨(pe_op ho ha.pe hb.pe).of fun σ H Q ⟨env, s, w, sr, g, h⟩ => ⟨env, s, w, sr, g, Aft.bind h fun d1 s1 w1 v1 H1 _ l1 g1 r1 h1 =>
    ⟨env, s1, w1, sr.up l1, g1, Aft.bind h1 fun d2 s2 w2 v2 H2 _ l2 g2 r2 h2 => by
      obtain ⟨dz, e, q⟩ := h2.ofO
      exact ⟨d1, d2, dz, s2, w2, g2, r1.up l2, r2, e, q⟩⟩⟩⟩
theorem pd_cmp {op : CmpOp} {f : P2} (ho : OpP X (compareOp op) f) (ha : PD X W a da) (hb : PD X W b db) (hm : behindInMarks op b = false) : PD X W (.Compare a [op] [b] pos) (dOp f da db) :=
  ⟨(pe_cmpR ho ha.pe hb.pe hm).of fun σ H Q ⟨env, s, w, sr, g, h⟩ => ⟨env, s, w, sr, g, Aft.bind h fun d1 s1 w1 v1 H1 _ l1 g1 r1 h1 =>
    ⟨env, s1, w1, sr.up l1, g1, Aft.bind h1 fun d2 s2 w2 v2 H2 _ l2 g2 r2 h2 => by
      obtain ⟨dz, e, q⟩ := h2.ofO
      exact ⟨d1, d2, dz, s2, w2, g2, r1.up l2, r2, e, q⟩⟩⟩⟩
/-- a value as a test: a bool -/
def asB (x : Dt) (s : S) : Res Bool := match x with
  | .bl b => .ok b s
  | _ => .bad
def tst (d : DE) : DT := fun env s => (d env s).bind asB
theorem Aft.tst {c : Ct} {w : Wd} {σ : L2.St} {r : Res Dt} {Q : Bool → Hp → Prop} (h : Aft c RB w σ W (r.bind asB) Q) : Aft c (RD c) w σ W r (fun v H1 => ∃ k, v = .bl k ∧ Q k H1) :=
  Aft.bind h fun d s' w' v H' _ l g r h1 => by
    cases d with
    | bl b =>
      have e : v = .bl b := by simpa only [Rep] using r
      exact ⟨b, e, Aft.now (R := RB) (show Aft _ RB w' _ _ (.ok b s') Q from h1) g rfl⟩
    | _ => exact h1.elim
theorem Res.bind_assoc {α β γ : Type} (r : Res α) (f : α → S → Res β) (k : β → S → Res γ) : (r.bind f).bind k = r.bind fun x s => (f x s).bind k := by
  cases r <;> rfl
theorem pdt_cmp {op : CmpOp} {f : P2} (ho : OpP X (compareOp op) f) (ha : PD X W a da) (hb : PD X W b db) (hm : behindInMarks op b = false) : PDT X W (.Compare a [op] [b] pos) (tst (dOp f da db)) :=
  ⟨(pt_cmpR ho ha.pe hb.pe hm).of fun σ H Q ⟨env, s, w, sr, g, h⟩ => ⟨env, s, w, sr, g, by
    have h0 := Aft.tst h
    exact Aft.bind (k := fun x s => (db env s).bind fun y s => ofO (f x y s) s) h0 fun d1 s1 w1 v1 H1 _ l1 g1 r1 h1 =>
      ⟨env, s1, w1, sr.up l1, g1, Aft.bind h1 fun d2 s2 w2 v2 H2 _ l2 g2 r2 h2 => by
        obtain ⟨dz, e, q⟩ := h2.ofO
        exact ⟨d1, d2, dz, s2, w2, g2, r1.up l2, r2, e, q⟩⟩⟩⟩
/-- any expression whose value is a bool -/
theorem pdt_val (h : PD X W e d) (he : ∀ whole, isTrue e X.env whole = (do let v ← whole; standAt e.pos; holding [v] (truthy v)) := by intro _; rfl) : PDT X W e (tst d) :=
  ⟨(pt_val h.pe he).of fun σ H Q ⟨env, s, w, sr, g, h⟩ => ⟨env, s, w, sr, g, Aft.tst h⟩⟩
/-! ### and, or, not -/
variable {ta tb : DT} {rest : List Expr}
def tAnd (t u : DT) : DT := fun env s => (t env s).bind fun x s => if x = true then u env s else .ok false s
def tOr (t u : DT) : DT := fun env s => (t env s).bind fun x s => if x = true then .ok true s else u env s
def tNot (t : DT) : DT := fun env s => (t env s).bind fun x s => .ok (!x) s
theorem PDW.pdt {t : DT} (h : PDW X W e t) : PDT X W e t := ⟨h.pw.pt⟩
theorem pdw_and1 (ha : PDT X W a ta) : PDW X W (.BoolOp .And [a] pos) ta := ⟨pw_and1 ha.pt⟩
theorem pdw_or1 (ha : PDT X W a ta) : PDW X W (.BoolOp .Or [a] pos) ta := ⟨pw_or1 ha.pt⟩
theorem pdw_and (ha : PDT X W a ta) (hb : PDW X W (.BoolOp .And (b :: rest) pos) tb) : PDW X W (.BoolOp .And (a :: b :: rest) pos) (tAnd ta tb) :=
  ⟨(pw_and ha.pt hb.pw).of fun σ H Q ⟨env, s, w, sr, g, h⟩ => ⟨env, s, w, sr, g, Aft.bind h fun d1 s1 w1 v1 H1 _ l1 g1 r1 h1 => by
    have e : d1 = v1 := r1
    subst e
    cases d1 with
    | true => exact ⟨env, s1, w1, sr.up l1, g1, h1⟩
    | false => exact h1.now g1 rfl⟩⟩
theorem pdw_or (ha : PDT X W a ta) (hb : PDW X W (.BoolOp .Or (b :: rest) pos) tb) : PDW X W (.BoolOp .Or (a :: b :: rest) pos) (tOr ta tb) :=
  ⟨(pw_or ha.pt hb.pw).of fun σ H Q ⟨env, s, w, sr, g, h⟩ => ⟨env, s, w, sr, g, Aft.bind h fun d1 s1 w1 v1 H1 _ l1 g1 r1 h1 => by
    have e : d1 = v1 := r1
    subst e
    cases d1 with
    | false => exact ⟨env, s1, w1, sr.up l1, g1, h1⟩
    | true => exact h1.now g1 rfl⟩⟩
theorem pdt_not (ha : PDT X W a ta) : PDT X W (.UnaryOp .Not a pos) (tNot ta) :=
  ⟨(pt_not ha.pt).of fun σ H Q ⟨env, s, w, sr, g, h⟩ => ⟨env, s, w, sr, g, Aft.bind h fun d1 s1 w1 v1 H1 _ l1 g1 r1 h1 => by
    have e : d1 = v1 := r1
    subst e
    exact h1.now g1 rfl⟩⟩
/-- .. as values -/
def dAnd (d e : DE) : DE := fun env s => (d env s).bind fun x s => (asB x s).bind fun x s => if x = true then e env s else .ok (.bl false) s
def dOr (d e : DE) : DE := fun env s => (d env s).bind fun x s => (asB x s).bind fun x s => if x = true then .ok (.bl true) s else e env s
def dNot (d : DE) : DE := fun env s => (d env s).bind fun x s => (asB x s).bind fun x s => .ok (.bl (!x)) s
theorem pd_one {op} (h : PD X W a d) : PD X W (.BoolOp op [a] pos) d := ⟨pe_one h.pe⟩
theorem pd_and (ha : PD X W a da) (hb : PD X W (.BoolOp .And (b :: rest) pos) db) : PD X W (.BoolOp .And (a :: b :: rest) pos) (dAnd da db) :=
  ⟨(pe_and ha.pe hb.pe).of fun σ H Q ⟨env, s, w, sr, g, h⟩ => ⟨env, s, w, sr, g, Aft.bind h fun d1 s1 w1 v1 H1 _ l1 g1 r1 h1 => by
    cases d1 with
    | bl k =>
      have e : v1 = .bl k := by simpa only [Rep] using r1
      refine ⟨k, e, ?_⟩
      cases k with
      | true => exact ⟨env, s1, w1, sr.up l1, g1, h1⟩
      | false => exact Aft.now (d := Dt.bl false) h1 g1 (by simp only [Rep])
    | _ => exact h1.elim⟩⟩
theorem pd_or (ha : PD X W a da) (hb : PD X W (.BoolOp .Or (b :: rest) pos) db) : PD X W (.BoolOp .Or (a :: b :: rest) pos) (dOr da db) :=
  ⟨(pe_or ha.pe hb.pe).of fun σ H Q ⟨env, s, w, sr, g, h⟩ => ⟨env, s, w, sr, g, Aft.bind h fun d1 s1 w1 v1 H1 _ l1 g1 r1 h1 => by
    cases d1 with
    | bl k =>
      have e : v1 = .bl k := by simpa only [Rep] using r1
      refine ⟨k, e, ?_⟩
      cases k with
      | false => exact ⟨env, s1, w1, sr.up l1, g1, h1⟩
      | true => exact Aft.now (d := Dt.bl true) h1 g1 (by simp only [Rep])
    | _ => exact h1.elim⟩⟩
theorem pd_not (ha : PD X W a da) : PD X W (.UnaryOp .Not a pos) (dNot da) :=
  ⟨(pe_not ha.pe).of fun σ H Q ⟨env, s, w, sr, g, h⟩ => ⟨env, s, w, sr, g, Aft.bind h fun d1 s1 w1 v1 H1 _ l1 g1 r1 h1 => by
    cases d1 with
    | bl k =>
      have e : v1 = .bl k := by simpa only [Rep] using r1
      exact ⟨k, e, Aft.now (d := Dt.bl (!k)) h1 g1 (by simp only [Rep])⟩
    | _ => exact h1.elim⟩⟩
def dIf (t : DT) (d e : DE) : DE := fun env s => (t env s).bind fun x s => if x = true then d env s else e env s
theorem pd_if {q : Expr} (hc : PDT X W q ta) (ha : PD X W a da) (hb : PD X W b db) : PD X W (.IfExp q a b pos) (dIf ta da db) :=
  ⟨(pe_ifExp hc.pt ha.pe hb.pe).of fun σ H Q ⟨env, s, w, sr, g, h⟩ => ⟨env, s, w, sr, g, Aft.bind h fun d1 s1 w1 v1 H1 _ l1 g1 r1 h1 => by
    have e : d1 = v1 := r1
    subst e
    cases d1 with
    | true => exact ⟨env, s1, w1, sr.up l1, g1, h1⟩
    | false => exact ⟨env, s1, w1, sr.up l1, g1, h1⟩⟩⟩
/-! ### comparisons in a chain -/
def dChain (f f' : P2) (da db dc : DE) : DE := fun env s => (da env s).bind fun x s => (db env s).bind fun y s => (ofO (f x y s) s).bind fun z s => (asB z s).bind fun k s =>
  if k = true then (dc env s).bind fun u s => ofO (f' y u s) s else .ok (.bl false) s
end
end D
end

section
set_option maxHeartbeats 4000000
namespace D
open PySem L2
/-! ### data -/
mutual
def toPy : Dt → Option PyData
  | .non => some .none
  | .bl b => some (.bool b)
  | .int i => some (.int i)
  | .str x => some (.str x)
  | .lst xs => match toPys xs with
    | some ps => some (.list ps)
    | none => none
  | .klst xs => match toPys xs with
    | some ps => some (.list ps)
    | none => none
  | .ktup xs => match toPys xs with
    | some ps => some (.tuple ps)
    | none => none
  | .tup xs => match toPys xs with
    | some ps => some (.tuple ps)
    | none => none
  | .dct _ _ => none
  | .obj _ _ => none
  | .ref _ => none
  | .raw _ => none
  | .cls _ => none
  | .exn _ _ => none
def toPys : List Dt → Option (List PyData)
  | [] => some []
  | d :: ds => match toPy d, toPys ds with
    | some p, some ps => some (p :: ps)
    | _, _ => none
end
section
variable {c : Ct} {w w' : Wd} {H H' : Hp} {s s' : S} {env : Env} {σ : L2.St}
mutual
theorem dp_frz (g : Good c w H s) : ∀ (d : Dt) (v : V) (p : PyData), Rep c w d v → toPy d = some p → Dp c.K H v p
  | .non, v, p, r, e => by
    simp only [Rep] at r
    simp only [toPy, Option.some.injEq] at e
    subst r e
    exact .non
  | .bl b, v, p, r, e => by
    simp only [Rep] at r
    simp only [toPy, Option.some.injEq] at e
    subst r e
    exact .bl b
  | .int b, v, p, r, e => by
    simp only [Rep] at r
    simp only [toPy, Option.some.injEq] at e
    subst r e
    exact .int b
  | .str b, v, p, r, e => by
    simp only [Rep] at r
    simp only [toPy, Option.some.injEq] at e
    subst r e
    exact .str b
  | .lst xs, v, p, r, e => by
    simp only [Rep] at r
    simp only [toPy] at e
    obtain ⟨a, vs, rfl, h2, h3⟩ := r
    cases q : toPys xs with
    | none => rw [q] at e; cases e
    | some ps =>
      rw [q] at e
      cases e
      exact .lst (.inl (.inl (g.same h2 lst_nd))) (dps_frz g xs vs ps h3 q)
  | .klst xs, v, p, r, e => by
    simp only [Rep] at r
    simp only [toPy] at e
    obtain ⟨a, vs, rfl, h2, h3⟩ := r
    cases q : toPys xs with
    | none => rw [q] at e; cases e
    | some ps =>
      rw [q] at e
      cases e
      exact .lst (g.sqL h2) (dps_frz g xs vs ps h3 q)
  | .tup xs, v, p, r, e => by
    simp only [Rep] at r
    simp only [toPy] at e
    obtain ⟨a, vs, rfl, h2, h3⟩ := r
    cases q : toPys xs with
    | none => rw [q] at e; cases e
    | some ps =>
      rw [q] at e
      cases e
      exact .tup (.inl (.inl (g.same h2 tup_nd))) (dps_frz g xs vs ps h3 q)
  | .ktup xs, v, p, r, e => by
    simp only [Rep] at r
    simp only [toPy] at e
    obtain ⟨a, vs, rfl, h2, h3⟩ := r
    cases q : toPys xs with
    | none => rw [q] at e; cases e
    | some ps =>
      rw [q] at e
      cases e
      exact .tup (g.sqT h2) (dps_frz g xs vs ps h3 q)
  | .dct _ _, v, p, r, e => by simp [toPy] at e
  | .obj _ _, v, p, r, e => by simp [toPy] at e
  | .ref _, v, p, r, e => by simp [toPy] at e
  | .raw _, v, p, r, e => by simp [toPy] at e
  | .cls _, v, p, r, e => by simp [toPy] at e
  | .exn _ _, v, p, r, e => by simp [toPy] at e
theorem dps_frz (g : Good c w H s) : ∀ (ds : List Dt) (vs : List V) (ps : List PyData), Reps c w ds vs → toPys ds = some ps → DpAll c.K H vs ps
  | [], vs, ps, r, e => by
    simp only [Reps] at r
    simp only [toPys, Option.some.injEq] at e
    subst r e
    exact .nil
  | d :: ds, vs, ps, r, e => by
    simp only [Reps] at r
    obtain ⟨v, q, rfl, h1, h2⟩ := r
    simp only [toPys] at e
    cases q1 : toPy d with
    | none => rw [q1] at e; cases e
    | some p1 =>
      cases q2 : toPys ds with
      | none => rw [q1, q2] at e; cases e
      | some p2 =>
        rw [q1, q2] at e
        cases e
        exact .cons (dp_frz g d v p1 h1 q1) (dps_frz g ds q p2 h2 q2)
end
theorem dp_of (g : Good c w H s) {d : Dt} {v : V} {p : PyData} (r : Rep c w d v) (e : toPy (pk s d) = some p) : Dp c.K H v p := by
  cases d with
  | ref k =>
    cases q : pk s (.ref k) with
    | lst ds =>
      obtain ⟨a, vs, rfl, h2, h3⟩ := g.isLst r q
      rw [q] at e
      simp only [toPy] at e
      cases q2 : toPys ds with
      | none => rw [q2] at e; cases e
      | some ps =>
        rw [q2] at e
        cases e
        exact .lst h2 (dps_frz g ds vs ps h3 q2)
    | tup ds =>
      obtain ⟨a, vs, rfl, h2, h3⟩ := g.isTup r q
      rw [q] at e
      simp only [toPy] at e
      cases q2 : toPys ds with
      | none => rw [q2] at e; cases e
      | some ps =>
        rw [q2] at e
        cases e
        exact .tup h2 (dps_frz g ds vs ps h3 q2)
    | ktup ds =>
      obtain ⟨a, cl, h1, h2, h3, h4⟩ := g.ref_ r
      have q' : (match s[k]? with
        | some (.lst ds) => Dt.lst ds
        | some (.dct t kvs) => .dct t kvs
        | some (.ins x fs) => .obj x fs
        | some (.froz d) => d
        | none => .ref k) = .ktup ds := q
      rw [h3] at q'
      cases cl with
      | froz d =>
        have q2 : d = .ktup ds := q'
        subst q2
        rw [q] at e
        rw [h1]
        exact dp_frz g (.ktup ds) _ p h4.1 e
      | lst _ => cases q'
      | dct _ _ => cases q'
      | ins _ _ => cases q'
    | klst ds =>
      obtain ⟨a, cl, h1, h2, h3, h4⟩ := g.ref_ r
      have q' : (match s[k]? with
        | some (.lst ds) => Dt.lst ds
        | some (.dct t kvs) => .dct t kvs
        | some (.ins x fs) => .obj x fs
        | some (.froz d) => d
        | none => .ref k) = .klst ds := q
      rw [h3] at q'
      cases cl with
      | froz d =>
        have q2 : d = .klst ds := q'
        subst q2
        rw [q] at e
        rw [h1]
        exact dp_frz g (.klst ds) _ p h4.1 e
      | lst _ => cases q'
      | dct _ _ => cases q'
      | ins _ _ => cases q'
    | dct t kvs => rw [q] at e; simp [toPy] at e
    | obj x fs => rw [q] at e; simp [toPy] at e
    | ref j => rw [q] at e; simp [toPy] at e
    | raw u => rw [q] at e; simp [toPy] at e
    | cls u => rw [q] at e; simp [toPy] at e
    | exn u fs => rw [q] at e; simp [toPy] at e
    | _ =>
      obtain ⟨a, cl, h1, h2, h3, h4⟩ := g.ref_ r
      have q' : (match s[k]? with
        | some (.lst ds) => Dt.lst ds
        | some (.dct t kvs) => .dct t kvs
        | some (.ins x fs) => .obj x fs
        | some (.froz d) => d
        | none => .ref k) = _ := q
      rw [h3] at q'
      cases cl with
      | froz d =>
        have q2 : d = _ := q'
        subst q2
        have z := h4.1
        simp only [Rep] at z
        cases z
      | lst _ => cases q'
      | dct _ _ => cases q'
      | ins _ _ => cases q'
  | lst xs => exact dp_frz g _ v p r e
  | klst xs =>
    refine dp_frz g (.klst xs) v p r ?_
    have e' : toPy (.lst xs) = some p := e
    simp only [toPy] at e' ⊢
    exact e'
  | tup xs => exact dp_frz g _ v p r e
  | ktup xs =>
    refine dp_frz g (.ktup xs) v p r ?_
    have e' : toPy (.tup xs) = some p := e
    simp only [toPy] at e' ⊢
    exact e'
  | non => exact dp_frz g _ v p r e
  | bl b => exact dp_frz g _ v p r e
  | int i => exact dp_frz g _ v p r e
  | str x => exact dp_frz g _ v p r e
  | dct t kvs => exact dp_frz g _ v p r e
  | obj x fs => exact dp_frz g _ v p r e
  | raw u => exact dp_frz g _ v p r e
  | cls u => exact dp_frz g _ v p r e
  | exn u fs => exact dp_frz g _ v p r e
end
def okD (p : PyData) : Bool := SeqAt.shaped p
def fEq : P2 := fun x y s => match toPy (pk s x), toPy (pk s y) with
  | some p, some q => if okD p = true ∧ okD q = true then some (.bl (PyData.eqv p q)) else none
  | _, _ => none
def fNe : P2 := fun x y s => match toPy (pk s x), toPy (pk s y) with
  | some p, some q => if okD p = true ∧ okD q = true then some (.bl (!PyData.eqv p q)) else none
  | _, _ => none
def notNone : PyData → Bool
  | .none => false
  | _ => true
theorem notNone_ok {p : PyData} (h : notNone p = true) : p ≠ .none := fun e => by
  subst e
  cases h
/-- an order of data by f -/
def fOrd (f : PyData → PyData → Bool) : P2 := fun x y s => match toPy (pk s x), toPy (pk s y) with
  | some p, some q => if okD p = true ∧ okD q = true ∧ PySem.W.alike p q = true ∧ notNone p = true then some (.bl (f p q)) else none
  | _, _ => none
section
variable {X : Cx}
theorem opp_eq (hu : X.A.units + 64 < cLine) : OpP X (compareOp .Eq) fEq := by
  intro pins sh σ H x y v u Q I rx ry h
  obtain ⟨dx, dy, dz, s, w, g, r1, r2, e, q⟩ := h
  unfold fEq at e
  split at e
  · rename_i p p' e1 e2
    split at e
    · rename_i hk
      cases e
      exact op_eqD hu pins sh σ H x y v u Q I rx ry ⟨p, p', dp_of g r1 e1, dp_of g r2 e2, hk.1, hk.2, q w _ H (Le.refl w) g (by simp only [Rep])⟩
    · cases e
  · cases e
theorem opp_ne (hu : X.A.units + 64 < cLine) : OpP X (compareOp .NotEq) fNe := by
  intro pins sh σ H x y v u Q I rx ry h
  obtain ⟨dx, dy, dz, s, w, g, r1, r2, e, q⟩ := h
  unfold fNe at e
  split at e
  · rename_i p p' e1 e2
    split at e
    · rename_i hk
      cases e
      exact op_neD hu pins sh σ H x y v u Q I rx ry ⟨p, p', dp_of g r1 e1, dp_of g r2 e2, hk.1, hk.2, q w _ H (Le.refl w) g (by simp only [Rep])⟩
    · cases e
  · cases e
theorem opp_ord {op : CmpOp} {f : PyData → PyData → Bool} (hu : X.A.units + 64 < cLine)
    (rule : ∀ (s : Shared) (a b : Value) (da db : PyData) (as bs : List Addr) (Q : Value → Shared → Prop) (E : Value → Shared → Prop), Reads s.heap a da as → Reads s.heap b db bs → PySem.W.alike da db = true → da ≠ .none → X.A.units + min da.depth db.depth < cLine → Q (.bool (f da db)) s →
      wpAny (model X.prog X.w) X.A (compareOp op a b) Q E s) : OpP X (compareOp op) (fOrd f) := by
  intro pins sh σ H x y v u Q I rx ry h
  obtain ⟨dx, dy, dz, s, w, g, r1, r2, e, q⟩ := h
  unfold fOrd at e
  split at e
  · rename_i p p' e1 e2
    split at e
    · rename_i hk
      cases e
      obtain ⟨k1, k2, k3, k4⟩ := hk
      obtain ⟨as, q1⟩ := Dp.reads I p x v (dp_of g r1 e1) rx
      obtain ⟨bs, q2⟩ := Dp.reads I p' y u (dp_of g r2 e2) ry
      exact rule sh v u p p' as bs _ _ q1 q2 k3 (notNone_ok k4) (SeqAt.room_of_shaped k1 hu) ⟨.bl _, H, I, rfl, q w _ H (Le.refl w) g (by simp only [Rep])⟩
    · cases e
  · cases e
theorem opp_lt (hu : X.A.units + 64 < cLine) : OpP X (compareOp .Lt) (fOrd fun p q => PySem.W.dataLt p q) := opp_ord hu fun _ _ _ _ _ _ _ _ _ r1 r2 h n u q => PySem.W.lt_data r1 r2 h n u q
theorem opp_gt (hu : X.A.units + 64 < cLine) : OpP X (compareOp .Gt) (fOrd fun p q => PySem.W.dataLt q p) := opp_ord hu fun _ _ _ _ _ _ _ _ _ r1 r2 h n u q => PySem.W.gt_data r1 r2 h n u q
theorem opp_le (hu : X.A.units + 64 < cLine) : OpP X (compareOp .LtE) (fOrd fun p q => !PySem.W.dataLt q p) := opp_ord hu fun _ _ _ _ _ _ _ _ _ r1 r2 h n u q => PySem.W.le_data r1 r2 h n u q
theorem opp_ge (hu : X.A.units + 64 < cLine) : OpP X (compareOp .GtE) (fOrd fun p q => !PySem.W.dataLt p q) := opp_ord hu fun _ _ _ _ _ _ _ _ _ r1 r2 h n u q => PySem.W.ge_data r1 r2 h n u q
/-- is None -/
def isN : Dt → Option Bool
  | .non => some true
  | .raw _ => none
  | _ => some false
theorem isN_rep {c : Ct} {w : Wd} {d : Dt} {v : V} {b : Bool} (r : Rep c w d v) (e : isN d = some b) : decide (v = .non) = b := by
  cases d <;> simp only [isN, Option.some.injEq, reduceCtorEq] at e <;> subst e <;> simp only [Rep] at r
  · subst r; rfl
  · subst r; rfl
  · subst r; rfl
  · subst r; rfl
  · obtain ⟨a, vs, rfl, _⟩ := r; rfl
  · obtain ⟨a, vs, rfl, _⟩ := r; rfl
  · obtain ⟨a, vs, rfl, _⟩ := r; rfl
  · obtain ⟨a, vs, rfl, _⟩ := r; rfl
  · obtain ⟨a, rfl, _⟩ := r; rfl
  · obtain ⟨a, _, _, _, rfl, _⟩ := r; rfl
  · obtain ⟨a, _, rfl⟩ := r; rfl
  · obtain ⟨a, _, rfl⟩ := r; rfl
  · obtain ⟨a, _, _, _, rfl, _⟩ := r; rfl
def fIsN : P2 := fun x y _ => match y with
  | .non => (isN x).map .bl
  | _ => none
def fNotN : P2 := fun x y _ => match y with
  | .non => (isN x).map fun b => .bl (!b)
  | _ => none
theorem opp_isN : OpP X (compareOp .Is) fIsN := by
  intro pins sh σ H x y v u Q I rx ry h
  obtain ⟨dx, dy, dz, s, w, g, r1, r2, e, q⟩ := h
  cases dy with
  | non =>
    obtain ⟨b, e1, e2⟩ := Option.map_eq_some_iff.mp (show (isN dx).map Dt.bl = some dz from e)
    subst e2
    have ey : y = .non := by simpa only [Rep] using r2
    refine op_isN pins sh σ H x y v u Q I rx ry ⟨ey, ?_⟩
    rw [isN_rep r1 e1]
    exact q w _ H (Le.refl w) g (by simp only [Rep])
  | _ => cases e
theorem opp_notN : OpP X (compareOp .IsNot) fNotN := by
  intro pins sh σ H x y v u Q I rx ry h
  obtain ⟨dx, dy, dz, s, w, g, r1, r2, e, q⟩ := h
  cases dy with
  | non =>
    obtain ⟨b, e1, e2⟩ := Option.map_eq_some_iff.mp (show (isN dx).map (fun b => Dt.bl (!b)) = some dz from e)
    subst e2
    have ey : y = .non := by simpa only [Rep] using r2
    refine op_notN pins sh σ H x y v u Q I rx ry ⟨ey, ?_⟩
    rw [isN_rep r1 e1]
    exact q w _ H (Le.refl w) g (by simp only [Rep])
  | _ => cases e
/-! ### arithmetic -/
def fAdd : P2 := fun x y s => match x, y with
  | .int i, .int j => some (.int (i + j))
  | .str i, .str j => if i.length + j.length ≤ sizeLine then some (.str (i ++ j)) else none
  | .tup xs, .tup ys => if xs.length + ys.length ≤ sizeLine then some (.tup (xs ++ ys)) else none
  | _, _ => none
theorem opp_add : OpP X (binaryOp .Add) fAdd := by
  intro pins sh σ H x y v u Q I rx ry h
  obtain ⟨dx, dy, dz, s, w, g, r1, r2, e, q⟩ := h
  unfold fAdd at e
  split at e
  · cases e
    simp only [Rep] at r1 r2
    exact op_add pins sh σ H x y v u Q I rx ry ⟨_, _, r1, r2, q w _ H (Le.refl w) g (by simp only [Rep])⟩
  · split at e
    · rename_i hz
      cases e
      simp only [Rep] at r1 r2
      exact op_add_str pins sh σ H x y v u Q I rx ry ⟨_, _, r1, r2, hz, q w _ H (Le.refl w) g (by simp only [Rep])⟩
    · cases e
  · split at e
    · rename_i xs ys hz
      cases e
      have r1' := r1
      have r2' := r2
      simp only [Rep] at r1 r2
      obtain ⟨a, vs, rfl, h2, h3⟩ := r1
      obtain ⟨b, us, rfl, k2, k3⟩ := r2
      have l1 := h3.length
      have l2 := k3.length
      refine op_catA pins sh σ H _ _ v u Q I rx ry ⟨a, b, vs, us, rfl, rfl, .inl (.inl (g.same h2 tup_nd)), .inl (.inl (g.same k2 tup_nd)), by rw [← l1, ← l2]; exact hz, fun h0 => ?_, fun _ h0 => ?_, fun _ _ p hp => ?_⟩
      · subst h0
        have x0 : xs = [] := List.length_eq_zero_iff.mp l1
        subst x0
        exact q w _ H (Le.refl w) g r2'
      · subst h0
        have y0 : ys = [] := List.length_eq_zero_iff.mp l2
        subst y0
        rw [List.append_nil] at q
        exact q w _ H (Le.refl w) g r1'
      · obtain ⟨l3, g3, r3⟩ := g.newTup hp (h3.append k3)
        exact q _ _ _ l3 g3 r3
    · cases e
  · cases e
def fInt (C : Int → Int → Bool) (f : Int → Int → Int) : P2 := fun x y _ => match x, y with
  | .int i, .int j => if C i j = true then some (.int (f i j)) else none
  | _, _ => none
theorem opp_int {op : Operator} {C : Int → Int → Prop} {B : Int → Int → Bool} {f : Int → Int → Int} (h : OpR X (binaryOp op) (rI C fun i j => .int (f i j))) (hB : ∀ i j, B i j = true → C i j) : OpP X (binaryOp op) (fInt B f) := by
  intro pins sh σ H x y v u Q I rx ry hh
  obtain ⟨dx, dy, dz, s, w, g, r1, r2, e, q⟩ := hh
  unfold fInt at e
  split at e
  · split at e
    · rename_i hb
      cases e
      simp only [Rep] at r1 r2
      exact h pins sh σ H x y v u Q I rx ry ⟨_, _, r1, r2, hB _ _ hb, q w _ H (Le.refl w) g (by simp only [Rep])⟩
    · cases e
  · cases e
def fSub : P2 := fInt (fun _ _ => true) fun i j => i - j
theorem opp_sub : OpP X (binaryOp .Sub) fSub := opp_int (C := fun _ _ => True) (fun pins sh σ H x y v u Q I rx ry ⟨i, j, e1, e2, _, q⟩ => op_sub pins sh σ H x y v u Q I rx ry ⟨i, j, e1, e2, q⟩) fun _ _ _ => trivial
/-- products: of together less than 2^27 bits -/
def mulB (i j : Int) : Bool := decide (Builtin.Int.intBits i + Builtin.Int.intBits j ≤ 134217728)
def fMul : P2 := fInt mulB fun i j => i * j
theorem opp_mul : OpP X (binaryOp .Mult) fMul := opp_int op_mulX fun i j h => by
  have h1 := of_decide_eq_true h
  unfold CMulX
  omega
def fMod : P2 := fInt (fun _ j => decide (0 < j)) fun i j => i % j
theorem opp_mod : OpP X (binaryOp .Mod) fMod := opp_int op_mod fun _ _ h => of_decide_eq_true h
def divB (i j : Int) : Bool := decide (0 < j) && decide (j.natAbs.log2 < 9000)
def fDiv : P2 := fInt divB fun i j => i / j
theorem opp_div : OpP X (binaryOp .FloorDiv) fDiv := opp_int op_fdivW fun i j h => by
  obtain ⟨h1, h2⟩ := Bool.and_eq_true_iff.mp h
  exact ⟨of_decide_eq_true h1, of_decide_eq_true h2⟩
def powB (i j : Int) : Bool := decide (0 ≤ j) && decide (j ≤ 1000000) && decide (i.natAbs < 2 ^ 64)
def fPow : P2 := fInt powB fun i j => i ^ j.toNat
theorem opp_pow : OpP X (binaryOp .Pow) fPow := opp_int op_pow fun i j h => by
  obtain ⟨h12, h3⟩ := Bool.and_eq_true_iff.mp h
  obtain ⟨h1, h2⟩ := Bool.and_eq_true_iff.mp h12
  exact ⟨of_decide_eq_true h1, of_decide_eq_true h2, of_decide_eq_true h3⟩
end
end D
end

section
set_option maxHeartbeats 4000000
namespace D
open PySem L2
open Classical
mutual
def clean (n : Nat) : Dt → Bool
  | .ref k => decide (k < n)
  | .tup ds => cleans n ds
  | .ktup ds => cleans n ds
  | .lst ds => cleans n ds
  | .klst ds => cleans n ds
  | .dct _ kvs => cleanK n kvs
  | .obj _ fs => cleanF n fs
  | .non => true
  | .bl _ => true
  | .int _ => true
  | .str _ => true
  | .raw _ => true
  | .cls _ => true
  | .exn _ fs => cleanF n fs
def cleans (n : Nat) : List Dt → Bool
  | [] => true
  | d :: ds => clean n d && cleans n ds
def cleanK (n : Nat) : List (List Key × Dt) → Bool
  | [] => true
  | d :: ds => clean n d.2 && cleanK n ds
def cleanF (n : Nat) : List (Str × Dt) → Bool
  | [] => true
  | d :: ds => clean n d.2 && cleanF n ds
end
def cleanC (n : Nat) : Cl → Bool
  | .lst ds => cleans n ds
  | .dct _ kvs => cleanK n kvs
  | .ins _ fs => cleanF n fs
  | .froz d => clean n d
/-- a world without the later cells -/
def Wd.cut (w : Wd) (n : Nat) : Wd := ⟨w.G, w.ρ.take n, w.lk⟩
section
variable {c : Ct} {w w' : Wd} {n : Nat}
mutual
theorem clean_of : ∀ (d : Dt) (v : V), Rep c w d v → clean w.ρ.length d = true
  | .non, v, r => rfl
  | .bl _, v, r => rfl
  | .int _, v, r => rfl
  | .str _, v, r => rfl
  | .raw _, v, r => rfl
  | .cls _, v, r => rfl
  | .exn x fs, v, r => by
    simp only [Rep] at r
    obtain ⟨a, d, C, ws, _, _, _, _, h⟩ := r
    simp only [clean]
    exact cleanF_of fs ws h
  | .ref k, v, r => by
    simp only [Rep] at r
    obtain ⟨a, h, _⟩ := r
    simp only [clean]
    exact decide_eq_true (List.getElem?_eq_some_iff.mp h).1
  | .tup ds, v, r => by
    simp only [Rep] at r
    obtain ⟨a, vs, _, _, h⟩ := r
    simp only [clean]
    exact cleans_of ds vs h
  | .ktup ds, v, r => by
    simp only [Rep] at r
    obtain ⟨a, vs, _, _, h⟩ := r
    simp only [clean]
    exact cleans_of ds vs h
  | .klst ds, v, r => by
    simp only [Rep] at r
    obtain ⟨a, vs, _, _, h⟩ := r
    simp only [clean]
    exact cleans_of ds vs h
  | .lst ds, v, r => by
    simp only [Rep] at r
    obtain ⟨a, vs, _, _, h⟩ := r
    simp only [clean]
    exact cleans_of ds vs h
  | .dct t kvs, v, r => by
    simp only [Rep] at r
    simp only [clean]
    obtain ⟨a, _, ⟨_, ws, _, h⟩ | ⟨_, ws, _, h⟩⟩ := r
    · exact cleanK_of kvs _ h
    · exact cleanK_of kvs _ h
  | .obj x fs, v, r => by
    simp only [Rep] at r
    obtain ⟨a, C, dx, ws, _, _, _, h⟩ := r
    simp only [clean]
    exact cleanF_of fs ws h
theorem cleans_of : ∀ (ds : List Dt) (vs : List V), Reps c w ds vs → cleans w.ρ.length ds = true
  | [], vs, r => rfl
  | d :: ds, vs, r => by
    simp only [Reps] at r
    obtain ⟨v, q, _, h1, h2⟩ := r
    simp only [cleans, Bool.and_eq_true]
    exact ⟨clean_of d v h1, cleans_of ds q h2⟩
theorem cleanK_of : ∀ (ds : List (List Key × Dt)) (vs : List (List Key × V)), RepK c w ds vs → cleanK w.ρ.length ds = true
  | [], vs, r => rfl
  | d :: ds, vs, r => by
    simp only [RepK] at r
    obtain ⟨v, q, _, h1, h2⟩ := r
    simp only [cleanK, Bool.and_eq_true]
    exact ⟨clean_of d.2 v h1, cleanK_of ds q h2⟩
theorem cleanF_of : ∀ (ds : List (Str × Dt)) (vs : List (Str × V)), RepF c w ds vs → cleanF w.ρ.length ds = true
  | [], vs, r => rfl
  | d :: ds, vs, r => by
    simp only [RepF] at r
    obtain ⟨v, q, _, h1, h2⟩ := r
    simp only [cleanF, Bool.and_eq_true]
    exact ⟨clean_of d.2 v h1, cleanF_of ds q h2⟩
end
mutual
theorem Rep.cut (hl : n ≤ w.ρ.length) : ∀ (d : Dt) (v : V), clean n d = true → Rep c w d v → Rep c (w.cut n) d v
  | .non, v, e, r => by simpa only [Rep] using r
  | .bl _, v, e, r => by simpa only [Rep] using r
  | .int _, v, e, r => by simpa only [Rep] using r
  | .str _, v, e, r => by simpa only [Rep] using r
  | .raw _, v, e, r => by simpa only [Rep] using r
  | .cls _, v, e, r => by simpa only [Rep] using r
  | .exn x fs, v, e, r => by
    simp only [Rep] at r ⊢
    simp only [clean] at e
    obtain ⟨a, d, C, ws, h1, h2, h3, h4, h5⟩ := r
    exact ⟨a, d, C, ws, h1, h2, h3, h4, RepF.cut hl fs ws e h5⟩
  | .ref k, v, e, r => by
    simp only [Rep] at r ⊢
    simp only [clean, decide_eq_true_eq] at e
    obtain ⟨a, h1, h2⟩ := r
    exact ⟨a, by show (w.ρ.take n)[k]? = some a; rw [List.getElem?_take_of_lt e]; exact h1, h2⟩
  | .tup ds, v, e, r => by
    simp only [Rep] at r ⊢
    simp only [clean] at e
    obtain ⟨a, vs, h1, h2, h3⟩ := r
    exact ⟨a, vs, h1, h2, Reps.cut hl ds vs e h3⟩
  | .ktup ds, v, e, r => by
    simp only [Rep] at r ⊢
    simp only [clean] at e
    obtain ⟨a, vs, h1, h2, h3⟩ := r
    exact ⟨a, vs, h1, h2, Reps.cut hl ds vs e h3⟩
  | .klst ds, v, e, r => by
    simp only [Rep] at r ⊢
    simp only [clean] at e
    obtain ⟨a, vs, h1, h2, h3⟩ := r
    exact ⟨a, vs, h1, h2, Reps.cut hl ds vs e h3⟩
  | .lst ds, v, e, r => by
    simp only [Rep] at r ⊢
    simp only [clean] at e
    obtain ⟨a, vs, h1, h2, h3⟩ := r
    exact ⟨a, vs, h1, h2, Reps.cut hl ds vs e h3⟩
  | .dct t kvs, v, e, r => by
    simp only [Rep] at r ⊢
    simp only [clean] at e
    obtain ⟨a, h1, ⟨ht, ws, h2, h3⟩ | ⟨ht, ws, h2, h3⟩⟩ := r
    · exact ⟨a, h1, .inl ⟨ht, ws, h2, RepK.cut hl kvs _ e h3⟩⟩
    · exact ⟨a, h1, .inr ⟨ht, ws, h2, RepK.cut hl kvs _ e h3⟩⟩
  | .obj x fs, v, e, r => by
    simp only [Rep] at r ⊢
    simp only [clean] at e
    obtain ⟨a, C, dx, ws, h1, h2, h3, h4⟩ := r
    exact ⟨a, C, dx, ws, h1, h2, h3, RepF.cut hl fs ws e h4⟩
theorem Reps.cut (hl : n ≤ w.ρ.length) : ∀ (ds : List Dt) (vs : List V), cleans n ds = true → Reps c w ds vs → Reps c (w.cut n) ds vs
  | [], vs, e, r => by simpa only [Reps] using r
  | d :: ds, vs, e, r => by
    simp only [Reps] at r ⊢
    simp only [cleans, Bool.and_eq_true] at e
    obtain ⟨v, q, h0, h1, h2⟩ := r
    exact ⟨v, q, h0, Rep.cut hl d v e.1 h1, Reps.cut hl ds q e.2 h2⟩
theorem RepK.cut (hl : n ≤ w.ρ.length) : ∀ (ds : List (List Key × Dt)) (vs : List (List Key × V)), cleanK n ds = true → RepK c w ds vs → RepK c (w.cut n) ds vs
  | [], vs, e, r => by simpa only [RepK] using r
  | d :: ds, vs, e, r => by
    simp only [RepK] at r ⊢
    simp only [cleanK, Bool.and_eq_true] at e
    obtain ⟨v, q, h0, h1, h2⟩ := r
    exact ⟨v, q, h0, Rep.cut hl d.2 v e.1 h1, RepK.cut hl ds q e.2 h2⟩
theorem RepF.cut (hl : n ≤ w.ρ.length) : ∀ (ds : List (Str × Dt)) (vs : List (Str × V)), cleanF n ds = true → RepF c w ds vs → RepF c (w.cut n) ds vs
  | [], vs, e, r => by simpa only [RepF] using r
  | d :: ds, vs, e, r => by
    simp only [RepF] at r ⊢
    simp only [cleanF, Bool.and_eq_true] at e
    obtain ⟨v, q, h0, h1, h2⟩ := r
    exact ⟨v, q, h0, Rep.cut hl d.2 v e.1 h1, RepF.cut hl ds q e.2 h2⟩
end
theorem CellOk.cut {H : Hp} {a : Addr} {cl : Cl} (hl : n ≤ w.ρ.length) (e : cleanC n cl = true) (x : CellOk c w H a cl) : CellOk c (w.cut n) H a cl := by
  cases cl with
  | lst ds => obtain ⟨h1, vs, h2, h3⟩ := x; exact ⟨h1, vs, h2, h3.cut hl _ _ e⟩
  | dct t kvs =>
    obtain ⟨h1, ⟨ht, ws, h2, h3⟩ | ⟨ht, ws, h2, h3⟩⟩ := x
    · exact ⟨h1, .inl ⟨ht, ws, h2, h3.cut hl _ _ e⟩⟩
    · exact ⟨h1, .inr ⟨ht, ws, h2, h3.cut hl _ _ e⟩⟩
  | ins y fs => obtain ⟨h1, C, dx, ws, h2, h3, h4⟩ := x; exact ⟨h1, C, dx, ws, h2, h3, h4.cut hl _ _ e⟩
  | froz d => obtain ⟨h1, h2⟩ := x; exact ⟨h1.cut hl _ _ e, h2⟩
theorem clean_cell {H : Hp} {a : Addr} {cl : Cl} (x : CellOk c w H a cl) : cleanC w.ρ.length cl = true := by
  cases cl with
  | lst ds => obtain ⟨h1, vs, h2, h3⟩ := x; exact cleans_of _ _ h3
  | dct t kvs =>
    obtain ⟨h1, ⟨ht, ws, h2, h3⟩ | ⟨ht, ws, h2, h3⟩⟩ := x
    · exact cleanK_of _ _ h3
    · exact cleanK_of _ _ h3
  | ins y fs => obtain ⟨h1, C, dx, ws, h2, h3, h4⟩ := x; exact cleanF_of _ _ h4
  | froz d => obtain ⟨h1, h2⟩ := x; exact clean_of _ _ h1
/-- what may be cut off: the cells behind the first ones -/
def CutOk (s0 s' : S) : Prop := s0.length ≤ s'.length ∧ ∀ k cl, k < s0.length → s'[k]? = some cl → s0[k]? = some cl ∨ cleanC s0.length cl = true
theorem Good.cut {H H0 : Hp} {s0 s' : S} (g0 : Good c w H0 s0) (l : Le w w') (g : Good c w' H s') (ok : CutOk s0 s') : Le w (w'.cut s0.length) ∧ Good c (w'.cut s0.length) H (s'.take s0.length) ∧ s0.length ≤ w'.ρ.length := by
  have hl : s0.length ≤ w'.ρ.length := by rw [g.len]; exact ok.1
  have hρ : w'.ρ.take s0.length = w.ρ := by
    apply List.ext_getElem?
    intro k
    by_cases hk : k < s0.length
    · rw [List.getElem?_take_of_lt hk]
      have h1 : k < w.ρ.length := by rw [g0.len]; exact hk
      have h2 := l.ρ k w.ρ[k] (List.getElem?_eq_getElem h1)
      rw [h2, List.getElem?_eq_getElem h1]
    · rw [List.getElem?_eq_none (by rw [List.length_take]; omega), List.getElem?_eq_none (by rw [g0.len]; omega)]
  refine ⟨⟨l.G, fun k a h => ?_, l.lk⟩, ⟨g.ext, g.lk, ?_, ?_, fun k cl a h1 h2 => ?_⟩, hl⟩
  · show (w'.ρ.take s0.length)[k]? = some a
    rw [hρ]
    exact h
  · show (w'.ρ.take s0.length).length = _
    rw [List.length_take, List.length_take, g.len]
  · show (w'.ρ.take s0.length).Nodup
    exact g.inj.sublist (List.take_sublist _ _)
  · have h2' : (w'.ρ.take s0.length)[k]? = some a := h2
    have hk : k < s0.length := by
      have q := (List.getElem?_eq_some_iff.mp h2').1
      rw [List.length_take] at q
      omega
    rw [List.getElem?_take_of_lt hk] at h1 h2'
    have x := g.cell k cl a h1 h2'
    refine x.cut hl ?_
    rcases ok.2 k cl hk h1 with q | q
    · have h3 : w.ρ[k]? = some a := by rw [← hρ, List.getElem?_take_of_lt hk]; exact h2'
      have y := g0.cell k cl a q h3
      have z := clean_cell y
      rw [g0.len] at z
      exact z
    · exact q
end
/-- cut where it may be done -/
noncomputable def cutR (s0 : S) (r : Res Dt) : Res Dt := match r with
  | .ok d s' => if CutOk s0 s' ∧ clean s0.length d = true then .ok d (s'.take s0.length) else .ok d s'
  | .exc e s' => if CutOk s0 s' ∧ cleanF s0.length e.fs = true then .exc e (s'.take s0.length) else .exc e s'
  | .bad => .bad
noncomputable def cutE (d : DE) : DE := fun env s => cutR s (d env s)
theorem cutR_aft {c : Ct} {w : Wd} {H : Hp} {s : S} {σ : L2.St} {W : WX} {r : Res Dt} {Q : VK} (g : Good c w H s) (h : Aft c (RD c) w σ W (cutR s r) Q) : Aft c (RD c) w σ W r Q := by
  cases r with
  | ok d s' =>
    unfold cutR at h
    simp only at h
    split at h
    · rename_i hc
      intro w' v H' l g' rr
      obtain ⟨l2, g2, hl⟩ := g.cut l g' hc.1
      exact h _ v H' l2 g2 (Rep.cut hl d v hc.2 rr)
    · exact h
  | exc e s' =>
    unfold cutR at h
    simp only at h
    split at h
    · rename_i hc
      intro w' H' cls dd l g' rr
      obtain ⟨l2, g2, hl⟩ := g.cut l g' hc.1
      obtain ⟨C, d, ws, h1, h2, h3, h4, h5⟩ := rr
      exact h _ H' cls dd l2 g2 ⟨C, d, ws, h1, h2, h3, h4, RepF.cut hl _ _ hc.2 h5⟩
    · exact h
  | bad => exact h
theorem pd_cut {X : Cx} {W : WX} {e : Expr} {d : DE} (h : PD X W e d) : PD X W e (cutE d) := ⟨h.pe.of fun σ H Q ⟨env, s, w, sr, g, h⟩ => ⟨env, s, w, sr, g, cutR_aft g h⟩⟩
theorem cutOk_app {s0 s1 j : S} (hl : s1.length = s0.length) (h : ∀ (k : Nat) (cl : Cl), s1[k]? = some cl → s0[k]? = some cl ∨ cleanC s0.length cl = true) : CutOk s0 (s1 ++ j) := by
  refine ⟨by rw [List.length_append]; omega, fun k cl hk e => ?_⟩
  rw [List.getElem?_append_left (by omega)] at e
  exact h k cl e
theorem cutR_pure {s j : S} {d : Dt} (hd : clean s.length d = true) : cutR s (.ok d (s ++ j)) = .ok d s := by
  have h : CutOk s (s ++ j) := cutOk_app rfl fun k cl e => .inl e
  unfold cutR
  simp only
  rw [if_pos ⟨h, hd⟩, List.take_left]
theorem cutR_same {s : S} {d : Dt} : cutR s (.ok d s) = .ok d s := by
  unfold cutR
  simp only
  split
  · rw [List.take_length]
  · rfl
theorem cutR_mut {s s1 j : S} {d : Dt} (hl : s1.length = s.length) (hd : clean s.length d = true) (h : ∀ (k : Nat) (cl : Cl), s1[k]? = some cl → s[k]? = some cl ∨ cleanC s.length cl = true) : cutR s (.ok d (s1 ++ j)) = .ok d s1 := by
  unfold cutR
  simp only
  rw [if_pos ⟨cutOk_app hl h, hd⟩, ← hl, List.take_left]
theorem cutR_exc {s j : S} {e : Exn} (hd : cleanF s.length e.fs = true) : cutR s (.exc e (s ++ j)) = .exc e s := by
  unfold cutR
  simp only
  rw [if_pos ⟨cutOk_app rfl fun k cl e => .inl e, hd⟩, List.take_left]
end D
end

section
set_option maxHeartbeats 4000000
namespace D
open PySem L2
/-! ### keys -/
def keysD : List Dt → Option (List Key)
  | [] => some []
  | .int i :: r => (keysD r).map (Sum.inl i :: ·)
  | .str x :: r => (keysD r).map (Sum.inr x :: ·)
  | _ :: _ => none
def keyD : Dt → Option (Bool × List Key)
  | .int i => some (false, [.inl i])
  | .str x => some (false, [.inr x])
  | .tup ds => (keysD ds).map fun ks => (true, ks)
  | _ => none
def getK (kvs : List (List Key × Dt)) (k : List Key) : Option Dt := (kvs.find? fun p => decide (p.1 = k)).map (·.2)
def putD (kvs : List (List Key × Dt)) (k : List Key) (d : Dt) : List (List Key × Dt) := if kvs.any (fun kv => decide (kv.1 = k)) then kvs.map (fun kv => if kv.1 = k then (kv.1, d) else kv) else kvs ++ [(k, d)]
section
variable {c : Ct} {w w' : Wd} {H H' : Hp} {s s' : S} {d : Dt} {v y : V}
theorem keysD_rep : ∀ {ds : List Dt} {vs : List V} {ks : List Key}, Reps c w ds vs → keysD ds = some ks → vs = ks.map kV
  | [], vs, ks, r, e => by
    simp only [Reps] at r
    simp only [keysD, Option.some.injEq] at e
    subst r e
    rfl
  | d :: ds, vs, ks, r, e => by
    simp only [Reps] at r
    obtain ⟨v, q, rfl, h1, h2⟩ := r
    cases d with
    | int i =>
      simp only [keysD] at e
      obtain ⟨ks', e1, rfl⟩ := Option.map_eq_some_iff.mp e
      simp only [Rep] at h1
      rw [h1, keysD_rep h2 e1]
      rfl
    | str i =>
      simp only [keysD] at e
      obtain ⟨ks', e1, rfl⟩ := Option.map_eq_some_iff.mp e
      simp only [Rep] at h1
      rw [h1, keysD_rep h2 e1]
      rfl
    | _ => simp [keysD] at e
theorem valV_repK (k : List Key) : ∀ {kvs : List (List Key × Dt)} {ws : List (List Key × V)}, RepK c w kvs ws → match getK kvs k, valV ws k with
    | some d, some v => Rep c w d v
    | none, none => True
    | _, _ => False
  | [], ws, r => by
    simp only [RepK] at r
    subst r
    exact True.intro
  | p :: ps, ws, r => by
    simp only [RepK] at r
    obtain ⟨v, q, rfl, h1, h2⟩ := r
    have ih := valV_repK k h2
    by_cases e : p.1 = k
    · have e1 : getK (p :: ps) k = some p.2 := by simp [getK, List.find?_cons, e]
      have e2 : valV ((p.1, v) :: q) k = some v := valV_pos (p := (p.1, v)) e
      rw [e1, e2]
      exact h1
    · have e1 : getK (p :: ps) k = getK ps k := by simp [getK, List.find?_cons, e]
      have e2 : valV ((p.1, v) :: q) k = valV q k := valV_neg (p := (p.1, v)) e
      rw [e1, e2]
      exact ih
theorem valV_one (k : Key) : ∀ ws : List (Key × V), valV (ws.map fun p => ([p.1], p.2)) [k] = valV ws k
  | [] => rfl
  | p :: ps => by
    by_cases e : p.1 = k
    · rw [List.map_cons, valV_pos (p := ([p.1], p.2)) (by rw [e]), valV_pos (p := p) e]
    · rw [List.map_cons, valV_neg (p := ([p.1], p.2)) (by simpa using e), valV_neg (p := p) e, valV_one k ps]
theorem any_repK (k : List Key) {kvs : List (List Key × Dt)} {ws : List (List Key × V)} (r : RepK c w kvs ws) : kvs.any (fun kv => decide (kv.1 = k)) = ws.any (fun kv => decide (kv.1 = k)) := by
  induction kvs generalizing ws with
  | nil =>
    simp only [RepK] at r
    subst r
    rfl
  | cons p ps ih =>
    simp only [RepK] at r
    obtain ⟨v, q, rfl, h1, h2⟩ := r
    rw [List.any_cons, List.any_cons, ih h2]
theorem RepK.put (k : List Key) {kvs : List (List Key × Dt)} {ws : List (List Key × V)} (r : RepK c w kvs ws) (rv : Rep c w d v) : RepK c w (putD kvs k d) (putK ws k v) := by
  have app : ∀ {kvs : List (List Key × Dt)} {ws : List (List Key × V)}, RepK c w kvs ws → RepK c w (kvs ++ [(k, d)]) (ws ++ [(k, v)]) := fun {kvs} => by
    induction kvs with
    | nil =>
      intro ws r
      simp only [RepK] at r
      subst r
      simp only [List.nil_append, RepK]
      exact ⟨v, [], rfl, rv, rfl⟩
    | cons p ps ih =>
      intro ws r
      simp only [RepK] at r
      obtain ⟨u, q, rfl, h1, h2⟩ := r
      simp only [List.cons_append, RepK]
      exact ⟨u, q ++ [(k, v)], rfl, h1, ih h2⟩
  have map : ∀ {kvs : List (List Key × Dt)} {ws : List (List Key × V)}, RepK c w kvs ws → RepK c w (kvs.map fun kv => if kv.1 = k then (kv.1, d) else kv) (ws.map fun kv => if kv.1 = k then (kv.1, v) else kv) := fun {kvs} => by
    induction kvs with
    | nil =>
      intro ws r
      simp only [RepK] at r
      subst r
      simp only [List.map_nil, RepK]
    | cons p ps ih =>
      intro ws r
      simp only [RepK] at r
      obtain ⟨u, q, rfl, h1, h2⟩ := r
      simp only [List.map_cons, RepK]
      by_cases e : p.1 = k
      · rw [if_pos e, if_pos e]
        exact ⟨v, _, rfl, rv, ih h2⟩
      · rw [if_neg e, if_neg e]
        exact ⟨u, _, rfl, h1, ih h2⟩
  unfold putD putK
  rw [any_repK k r]
  split
  · exact map r
  · exact app r
theorem putK_one (k : Key) (v : V) (ws : List (Key × V)) : (putK ws k v).map (fun p => ([p.1], p.2)) = putK (ws.map fun p => ([p.1], p.2)) [k] v := by
  have ha : (ws.map fun p => (([p.1] : List Key), p.2)).any (fun kv => decide (kv.1 = [k])) = ws.any (fun kv => decide (kv.1 = k)) := by
    induction ws with
    | nil => rfl
    | cons p ps ih =>
      rw [List.map_cons, List.any_cons, List.any_cons, ih]
      congr 1
      simp
  unfold putK
  rw [ha]
  split
  · rw [List.map_map, List.map_map]
    apply List.map_congr_left
    intro p _
    by_cases e : p.1 = k
    · simp [e]
    · simp [e]
  · rw [List.map_append]
    rfl
theorem length_repK {kvs : List (List Key × Dt)} {ws : List (List Key × V)} (r : RepK c w kvs ws) : kvs.length = ws.length := by
  induction kvs generalizing ws with
  | nil =>
    simp only [RepK] at r
    subst r
    rfl
  | cons p ps ih =>
    simp only [RepK] at r
    obtain ⟨v, q, rfl, h1, h2⟩ := r
    rw [List.length_cons, List.length_cons, ih h2]
/-- what a key is -/
theorem key_rep (g : Good c w H s) {t : Bool} {ks : List Key} (r : Rep c w d y) (e : keyD d = some (t, ks)) : (t = false ∧ ∃ k, ks = [k] ∧ y = kV k) ∨ (t = true ∧ ∃ b, y = .ref b ∧ H b = some (.tup (ks.map kV))) := by
  cases d with
  | int i =>
    simp only [keyD, Option.some.injEq, Prod.mk.injEq] at e
    simp only [Rep] at r
    exact .inl ⟨e.1.symm, .inl i, e.2.symm, r⟩
  | str i =>
    simp only [keyD, Option.some.injEq, Prod.mk.injEq] at e
    simp only [Rep] at r
    exact .inl ⟨e.1.symm, .inr i, e.2.symm, r⟩
  | tup ds =>
    simp only [keyD] at e
    obtain ⟨ks', e1, e2⟩ := Option.map_eq_some_iff.mp e
    simp only [Prod.mk.injEq] at e2
    obtain ⟨e3, e4⟩ := e2
    subst e4
    simp only [Rep] at r
    obtain ⟨a, vs, h1, h2, h3⟩ := r
    have := keysD_rep h3 e1
    subst this
    exact .inr ⟨e3.symm, a, h1, g.same h2 tup_nd⟩
  | _ => simp [keyD] at e
theorem dget_of (g : Good c w H s) {a : Addr} {t : Bool} {kvs : List (List Key × Dt)} {ks : List Key} (da : DctAt c w H a t kvs) (r : Rep c w d y) (e : keyD d = some (t, ks)) : ∃ o, DGet H a y o ∧ match getK kvs ks, o with
    | some d, some v => Rep c w d v
    | none, none => True
    | _, _ => False := by
  rcases key_rep g r e with ⟨ht, k, rfl, rfl⟩ | ⟨ht, b, rfl, hb⟩
  · rcases da with ⟨_, ws, h1, h2⟩ | ⟨h, _⟩
    · refine ⟨valV ws k, .inl ⟨ws, k, h1, rfl, rfl⟩, ?_⟩
      have := valV_repK [k] h2
      rw [valV_one] at this
      exact this
    · rw [ht] at h; cases h
  · rcases da with ⟨h, _⟩ | ⟨_, ws, h1, h2⟩
    · rw [ht] at h; cases h
    · exact ⟨valV ws ks, .inr ⟨ws, ks, b, h1, rfl, hb, rfl⟩, valV_repK ks h2⟩
end
/-! ### subscripts -/
def fSubD : P2 := fun x y s => match pk s x with
  | .dct t kvs => (match keyD y with
    | some (t', ks) => if t' = t then getK kvs ks else none
    | none => none)
  | _ => none
def fSubS : P2 := fun x y s => match y with
  | .int i => (match pk s x with
    | .lst ds => atI ds i
    | .tup ds => atI ds i
    | .str z => if z.length ≤ sizeLine then (atI z.cps.toList i).map fun c => .str ⟨#[c]⟩ else none
    | _ => none)
  | _ => none
def isDctD (s : S) (x : Dt) : Bool := match pk s x with
  | .dct _ _ => true
  | _ => false
def fSub' : P2 := fun x y s => if isDctD s x = true then fSubD x y s else fSubS x y s
theorem Reps.atI {c : Ct} {w : Wd} {ds : List Dt} {vs : List V} {i : Int} {d : Dt} (r : Reps c w ds vs) (e : L2.atI ds i = some d) : ∃ v, L2.atI vs i = some v ∧ Rep c w d v := by
  unfold L2.atI at e ⊢
  rw [← r.length]
  cases h : ixN ds.length i with
  | none => rw [h] at e; cases e
  | some j =>
    rw [h] at e
    exact r.get e
section
variable {X : Cx} {W : WX} {pos : Pos} {a b e : Expr} {es : List Expr} {da db d : DE} {dr : DA}
theorem ixp_seq : IxR X (fun x y H Q => ∃ dx dy dz s w, Good (ct X) w H s ∧ Rep (ct X) w dx x ∧ Rep (ct X) w dy y ∧ fSubS dx dy s = some dz ∧ ∀ w' v H', Le w w' → Good (ct X) w' H' s → Rep (ct X) w' dz v → Q v H') := by
  intro value slice pins sh σ H x y v u Q I rx ry h hs
  obtain ⟨dx, dy, dz, s, w, g, r1, r2, e, q⟩ := h
  unfold fSubS at e
  split at e
  · rename_i i
    have ey : y = .int i := by simpa only [Rep] using r2
    split at e
    · rename_i ds ek
      obtain ⟨p, vs, ex, hq, rs⟩ := g.isLst r1 ek
      obtain ⟨z, e1, r3⟩ := rs.atI e
      exact ix_list value slice pins sh σ H x y v u Q I rx ry ⟨p, vs, i, z, ex, ey, hq, e1, q w z H (Le.refl w) g r3⟩ hs
    · rename_i ds ek
      obtain ⟨p, vs, ex, hq, rs⟩ := g.isTup r1 ek
      obtain ⟨z, e1, r3⟩ := rs.atI e
      exact ix_tup value slice pins sh σ H x y v u Q I rx ry ⟨p, vs, i, z, ex, ey, hq, e1, q w z H (Le.refl w) g r3⟩ hs
    · rename_i z ek
      split at e
      · rename_i hz
        obtain ⟨ch, e1, e2⟩ := Option.map_eq_some_iff.mp e
        have ex : x = .str z := by
          cases dx with
          | ref k =>
            obtain ⟨a, cl, h1, h2, h3, h4⟩ := g.ref_ r1
            have ek' : (match s[k]? with
              | some (.lst ds) => Dt.lst ds
              | some (.dct t kvs) => .dct t kvs
              | some (.ins x fs) => .obj x fs
              | some (.froz d) => d
              | none => .ref k) = .str z := ek
            rw [h3] at ek'
            cases cl with
            | froz d =>
              have : d = .str z := ek'
              subst this
              have q1 := h4.1
              simp only [Rep] at q1
              cases q1
            | lst _ => cases ek'
            | dct _ _ => cases ek'
            | ins _ _ => cases ek'
          | str z' =>
            have : Dt.str z' = Dt.str z := ek
            injection this with this
            subst this
            simpa only [Rep] using r1
          | _ => cases ek
        subst e2
        exact ix_str value slice pins sh σ H x y v u Q I rx ry ⟨z, i, ch, ex, ey, hz, e1, q w _ H (Le.refl w) g (by simp only [Rep])⟩ hs
      · cases e
    · cases e
  · cases e
theorem pd_sub (hu : X.A.units + 1 < cLine) (ha : PD X W a da) (hb : PD X W b db) (hs : PlainIx b := by intro _ _; rfl) : PD X W (.Subscript a b pos) (dOp fSub' da db) := by
  refine ⟨⟨fun pins sh σ H Q I ⟨env, s, w, sr, g, h⟩ => ?_⟩⟩
  unfold dOp at h
  by_cases hd : ∃ x s1 y s2, da env s = .ok x s1 ∧ db env s1 = .ok y s2 ∧ isDctD s2 x = true
  · obtain ⟨x, s1, y, s2, e1, e2, e3⟩ := hd
    refine (pe_dget hu ha.pe hb.pe hs).run pins sh σ H Q I ⟨env, s, w, sr, g, ?_⟩
    rw [e1] at h ⊢
    refine Aft.bind (W := W) (r := .ok x s1) h fun x' s1' w1 v1 H1 er l1 g1 r1 h1 => ?_
    cases er
    rw [e2] at h1
    refine ⟨env, s1, w1, sr.up l1, g1, ?_⟩
    rw [e2]
    refine Aft.bind (W := W) (r := .ok y s2) h1 fun y' s2' w2 v2 H2 er l2 g2 r2 h2 => ?_
    cases er
    unfold fSub' at h2
    rw [if_pos e3] at h2
    unfold fSubD at h2
    have r1' := r1.up l2
    cases ek : pk s2 x with
    | dct t kvs =>
      rw [ek] at h2
      obtain ⟨a', ea, dat⟩ := g2.isDct r1' ek
      simp only at h2
      cases e4 : keyD y with
      | none => rw [e4] at h2; exact h2.elim
      | some p =>
        obtain ⟨t', ks⟩ := p
        rw [e4] at h2
        simp only at h2
        by_cases ht : t' = t
        · subst ht
          rw [if_pos rfl] at h2
          obtain ⟨o, dg, m⟩ := dget_of g2 dat r2 e4
          cases e5 : getK kvs ks with
          | none => rw [e5] at h2; exact h2.elim
          | some dz =>
            rw [e5] at h2 m
            cases o with
            | none => exact m.elim
            | some vz => exact ⟨a', vz, ea, dg, h2.now g2 m⟩
        · rw [if_neg ht] at h2
          exact h2.elim
    | _ => simp [isDctD, ek] at e3
  · refine (pe_ix ixp_seq ha.pe hb.pe hs).run pins sh σ H Q I ⟨env, s, w, sr, g, ?_⟩
    refine Aft.bind h fun x s1 w1 v1 H1 e1 l1 g1 r1 h1 => ⟨env, s1, w1, sr.up l1, g1, Aft.bind h1 fun y s2 w2 v2 H2 e2 l2 g2 r2 h2 => ?_⟩
    have e3 : ¬ isDctD s2 x = true := fun z => hd ⟨x, s1, y, s2, e1, e2, z⟩
    unfold fSub' at h2
    rw [if_neg e3] at h2
    cases e4 : fSubS x y s2 with
    | none => rw [e4] at h2; exact h2.elim
    | some dz =>
      rw [e4] at h2
      exact ⟨x, y, dz, s2, w2, g2, r1.up l2, r2, e4, fun w' v H' l g r => h2.at_ l g r⟩
/-! ### slices -/
abbrev DO := Env → S → Res (Option Int)
structure PDO (X : Cx) (W : WX) (e : Option Expr) (d : DO) : Prop where
  po : PO X e (fun σ H Q => ∃ env s w, SR (ct X) w env σ ∧ Good (ct X) w H s ∧ Aft (ct X) (fun _ a b => a = b) w σ W (d env s) Q)
def oNone : DO := fun _ s => .ok none s
def oSome (d : DE) : DO := fun env s => (d env s).bind fun x s => match x with
  | .int i => .ok (some i) s
  | _ => .bad
theorem _root_.L2.PO.of {X : Cx} {e : Option Expr} {t t' : TO} (h : PO X e t) (i : ∀ σ H Q, t' σ H Q → t σ H Q) : PO X e t' := ⟨fun pins s σ H Q I q => h.run pins s σ H Q I (i σ H Q q)⟩
theorem pdo_none : PDO X W none oNone := ⟨po_none.of fun σ H Q ⟨env, s, w, sr, g, h⟩ => h.now g rfl⟩
theorem pdo_some (h : PD X W e d) : PDO X W (some e) (oSome d) := ⟨(po_some h.pe).of fun σ H Q ⟨env, s, w, sr, g, h⟩ => ⟨env, s, w, sr, g, Aft.bind h fun x s1 w1 v1 H1 _ l1 g1 r1 h1 => by
  cases x with
  | int i =>
    simp only [Rep] at r1
    exact ⟨i, r1, h1.now g1 rfl⟩
  | _ => exact h1.elim⟩⟩
def cutD (xs : List Dt) (lo hi : Option Int) : List Dt := (xs.drop (HT.sIx xs.length 0 lo)).take (HT.sIx xs.length xs.length hi - HT.sIx xs.length 0 lo)
theorem Reps.cutD {c : Ct} {w : Wd} {ds : List Dt} {vs : List V} (r : Reps c w ds vs) (lo hi : Option Int) : Reps c w (D.cutD ds lo hi) (cutV vs lo hi) := by
  unfold D.cutD cutV
  rw [r.length]
  exact (r.drop _).take _
/-- slices of tuples and texts -/
def fSlT (x : Dt) (lo hi : Option Int) (s : S) : Option Dt := match x with
  | .tup ds => some (.tup (cutD ds lo hi))
  | .str z => if z.length ≤ sizeLine then some (.str (Txt.slice z lo hi)) else none
  | _ => none
def dSl (d : DE) (lo hi : DO) : DE := fun env s => (d env s).bind fun x s => (lo env s).bind fun l s => (hi env s).bind fun h s => ofO (fSlT x l h s) s
theorem cutD_all (xs : List Dt) (lo hi : Option Int) (h : HT.sIx xs.length 0 lo = 0 ∧ HT.sIx xs.length xs.length hi = xs.length) : cutD xs lo hi = xs := by
  unfold cutD
  rw [h.1, h.2]
  simp
theorem pd_sl {p2 : Pos} {lo hi : Option Expr} {dl dh : DO} (he : PD X W e d) (hl : PDO X W lo dl) (hh : PDO X W hi dh) : PD X W (.Subscript e (.Slice lo hi none p2) pos) (dSl d dl dh) := by
  refine ⟨(pe_slice (sl_tupA.or (SlR.or C8.sl_txt C8.sl_txt)) he.pe hl.po hh.po).of fun σ H Q ⟨env, s, w, sr, g, h⟩ => ⟨env, s, w, sr, g, Aft.bind h fun x s1 w1 v1 H1 _ l1 g1 r1 h1 => ⟨env, s1, w1, sr.up l1, g1, Aft.bind h1 fun l s2 w2 v2 H2 _ l2 g2 r2 h2 => ⟨env, s2, w2, (sr.up l1).up l2, g2, Aft.bind h2 fun u s3 w3 v3 H3 _ l3 g3 r3 h3 => ?_⟩⟩⟩⟩
  subst r2 r3
  have r1' := (r1.up l2).up l3
  cases x with
  | tup ds =>
    have r0 := r1'
    simp only [Rep] at r1'
    obtain ⟨a, vs, rfl, q1, q2⟩ := r1'
    have hlen := q2.length
    refine .inl ⟨a, vs, rfl, .inl (.inl (g3.same q1 tup_nd)), fun hw => ?_, fun hw p hp => ?_⟩
    · rw [← hlen] at hw
      have h3' : Aft (ct X) (RD (ct X)) w3 σ W (.ok (.tup (cutD ds l u)) s3) Q := h3
      rw [cutD_all ds l u hw] at h3'
      exact h3'.now g3 r0
    · obtain ⟨l4, g4, r4⟩ := g3.newTup hp (q2.cutD l u)
      have h3' : Aft (ct X) (RD (ct X)) w3 σ W (.ok (.tup (cutD ds l u)) s3) Q := h3
      exact h3'.at_ l4 g4 r4
  | str z =>
    simp only [Rep] at r1'
    by_cases hz : z.length ≤ sizeLine
    · have h3' : Aft (ct X) (RD (ct X)) w3 σ W (.ok (.str (Txt.slice z l u)) s3) Q := by
        have q := h3
        unfold fSlT at q
        simp only [if_pos hz] at q
        exact q
      exact .inr (.inl ⟨z, r1', hz, h3'.now g3 (by simp only [Rep])⟩)
    · exfalso
      unfold fSlT at h3
      simp only [if_neg hz] at h3
      exact h3
  | _ => exact h3.elim
/-- slices of lists: a new list -/
def nSl (d : DE) (lo hi : DO) : DN := fun env s => (d env s).bind fun x s => (lo env s).bind fun l s => (hi env s).bind fun h s => match pk s x with
  | .lst ds => .ok (cutD ds l h) s
  | _ => .bad
theorem pdn_sl {p2 : Pos} {lo hi : Option Expr} {dl dh : DO} (he : PD X W e d) (hl : PDO X W lo dl) (hh : PDO X W hi dh) : PDN X W (.Subscript e (.Slice lo hi none p2) pos) (nSl d dl dh) := by
  refine ⟨(pe_slice sl_list he.pe hl.po hh.po).of fun σ H Q ⟨env, s, w, sr, g, h⟩ => ⟨env, s, w, sr, g, Aft.bind h fun x s1 w1 v1 H1 _ l1 g1 r1 h1 => ⟨env, s1, w1, sr.up l1, g1, Aft.bind h1 fun l s2 w2 v2 H2 _ l2 g2 r2 h2 => ⟨env, s2, w2, (sr.up l1).up l2, g2, Aft.bind h2 fun u s3 w3 v3 H3 _ l3 g3 r3 h3 => ?_⟩⟩⟩⟩
  subst r2 r3
  have r1' := (r1.up l2).up l3
  split at h3
  · rename_i ds ek
    obtain ⟨a, vs, ea, hq, rs⟩ := g3.isLst r1' ek
    exact ⟨a, vs, ea, hq, h3.now g3 (rs.cutD l u)⟩
  · exact h3.elim
end
end D
end

section
set_option maxHeartbeats 4000000
namespace D
open PySem L2
/-! ### flat values -/
def vOf : Dt → Option V
  | .non => some .non
  | .bl b => some (.bl b)
  | .int i => some (.int i)
  | .str x => some (.str x)
  | _ => none
def vsOf : List Dt → Option (List V)
  | [] => some []
  | d :: ds => match vOf d, vsOf ds with
    | some v, some vs => some (v :: vs)
    | _, _ => none
section
variable {c : Ct} {w : Wd} {H : Hp} {s : S}
theorem vOf_rep {d : Dt} {v u : V} (r : Rep c w d v) (e : vOf d = some u) : v = u ∧ flatV u = true := by
  cases d <;> simp only [vOf, Option.some.injEq, reduceCtorEq] at e <;> subst e <;> simp only [Rep] at r <;> subst r <;> exact ⟨rfl, rfl⟩
theorem vsOf_rep : ∀ {ds : List Dt} {vs us : List V}, Reps c w ds vs → vsOf ds = some us → vs = us ∧ us.all flatV = true
  | [], vs, us, r, e => by
    simp only [Reps] at r
    simp only [vsOf, Option.some.injEq] at e
    subst r e
    exact ⟨rfl, rfl⟩
  | d :: ds, vs, us, r, e => by
    simp only [Reps] at r
    obtain ⟨v, q, rfl, h1, h2⟩ := r
    simp only [vsOf] at e
    cases e1 : vOf d with
    | none => rw [e1] at e; cases e
    | some u =>
      cases e2 : vsOf ds with
      | none => rw [e1, e2] at e; cases e
      | some us' =>
        rw [e1, e2] at e
        cases e
        obtain ⟨rfl, f1⟩ := vOf_rep h1 e1
        obtain ⟨rfl, f2⟩ := vsOf_rep h2 e2
        exact ⟨rfl, by rw [List.all_cons, f1, f2]; rfl⟩
end
/-- a text of one sign -/
def sign1 : Dt → Option Nat
  | .str z => (match z.cps.toList with
    | [k] => some k
    | _ => none)
  | _ => none
theorem sign1_rep {c : Ct} {w : Wd} {d : Dt} {v : V} {k : Nat} (r : Rep c w d v) (e : sign1 d = some k) : v = .str ⟨#[k]⟩ := by
  cases d with
  | str z =>
    simp only [sign1] at e
    simp only [Rep] at r
    split at e
    · rename_i k' h
      cases e
      subst r
      obtain ⟨⟨l⟩⟩ := z
      simp only at h
      subst h
      rfl
    · cases e
  | _ => simp [sign1] at e
/-- x in a list, a tuple of flat items, a text -/
def fInS : P2 := fun x y s => match pk s y with
  | .tup ds => (match vOf x, vsOf ds with
    | some v, some vs => some (.bl (inV v vs))
    | _, _ => none)
  | .lst ds => (match toPy (pk s x), toPys ds with
    | some p, some ps => if okD p = true ∧ okD (.list ps) = true then some (.bl (ps.any fun z => PyData.eqv z p)) else none
    | _, _ => none)
  | .str z => (sign1 x).map fun k => .bl (decide (k ∈ z.cps.toList))
  | _ => none
/-- x in a dict -/
def fInD : P2 := fun x y s => match pk s y with
  | .dct t kvs => (match keyD x with
    | some (t', ks) => if t' = t then some (.bl (getK kvs ks).isSome) else none
    | none => none)
  | _ => none
def fIn : P2 := fun x y s => if isDctD s y = true then fInD x y s else fInS x y s
def bNot : Dt → Option Dt
  | .bl b => some (.bl (!b))
  | _ => none
def fNotIn : P2 := fun x y s => (fIn x y s).bind bNot
theorem pk_str {c : Ct} {w : Wd} {H : Hp} {s : S} {d : Dt} {v : V} {z : Str} (g : Good c w H s) (r : Rep c w d v) (e : pk s d = .str z) : v = .str z := by
  cases d with
  | ref k =>
    obtain ⟨a, cl, h1, h2, h3, h4⟩ := g.ref_ r
    have ek' : (match s[k]? with
      | some (.lst ds) => Dt.lst ds
      | some (.dct t kvs) => .dct t kvs
      | some (.ins x fs) => .obj x fs
      | some (.froz d) => d
      | none => .ref k) = .str z := e
    rw [h3] at ek'
    cases cl with
    | froz d =>
      have : d = .str z := ek'
      subst this
      have q1 := h4.1
      simp only [Rep] at q1
      cases q1
    | lst _ => cases ek'
    | dct _ _ => cases ek'
    | ins _ _ => cases ek'
  | str z' =>
    have : Dt.str z' = Dt.str z := e
    injection this with this
    subst this
    simpa only [Rep] using r
  | _ => cases e
section
variable {X : Cx} {W : WX} {pos : Pos} {a b e : Expr} {es : List Expr} {da db d : DE} {dr : DA}
theorem opp_inS (hu : X.A.units + 65 < cLine) : OpP X (compareOp .In) fInS := by
  intro pins sh σ H x y v u Q I rx ry h
  obtain ⟨dx, dy, dz, s, w, g, r1, r2, e, q⟩ := h
  unfold fInS at e
  split at e
  · rename_i ds ek
    split at e
    · rename_i v' vs' e1 e2
      cases e
      obtain ⟨p, vs, ey, hq, rs⟩ := g.isTup r2 ek
      obtain ⟨e3, f1⟩ := vOf_rep r1 e1
      obtain ⟨e4, f2⟩ := vsOf_rep rs e2
      subst e3 e4
      exact op_in_seq pins sh σ H x y v u Q I rx ry ⟨p, vs, ey, .inr hq, f1, f2, q w _ H (Le.refl w) g (by simp [Rep])⟩
    · cases e
  · rename_i ds ek
    split at e
    · rename_i p ps e1 e2
      split at e
      · rename_i hk
        cases e
        exact op_inD hu pins sh σ H x y v u Q I rx ry ⟨p, ps, dp_of g r1 e1, dp_of g r2 (by rw [ek]; simp only [toPy, e2]), hk.1, hk.2, q w _ H (Le.refl w) g (by simp [Rep])⟩
      · cases e
    · cases e
  · rename_i z ek
    obtain ⟨k, e1, e2⟩ := Option.map_eq_some_iff.mp e
    subst e2
    exact op_in_sign pins sh σ H x y v u Q I rx ry ⟨k, z, sign1_rep r1 e1, pk_str g r2 ek, q w _ H (Le.refl w) g (by simp [Rep])⟩
  · cases e
theorem opp_notInS (hu : X.A.units + 65 < cLine) : OpP X (compareOp .NotIn) (fun x y s => (fInS x y s).bind bNot) := by
  intro pins sh σ H x y v u Q I rx ry h
  obtain ⟨dx, dy, dz, s, w, g, r1, r2, e, q⟩ := h
  obtain ⟨dz', e, e'⟩ := Option.bind_eq_some_iff.mp e
  unfold fInS at e
  split at e
  · rename_i ds ek
    split at e
    · rename_i v' vs' e1 e2
      cases e
      cases e'
      obtain ⟨p, vs, ey, hq, rs⟩ := g.isTup r2 ek
      obtain ⟨e3, f1⟩ := vOf_rep r1 e1
      obtain ⟨e4, f2⟩ := vsOf_rep rs e2
      subst e3 e4
      exact op_notIn_seq pins sh σ H x y v u Q I rx ry ⟨p, vs, ey, .inr hq, f1, f2, q w _ H (Le.refl w) g (by simp [Rep])⟩
    · cases e
  · rename_i ds ek
    split at e
    · rename_i p ps e1 e2
      split at e
      · rename_i hk
        cases e
        cases e'
        exact op_notInD hu pins sh σ H x y v u Q I rx ry ⟨p, ps, dp_of g r1 e1, dp_of g r2 (by rw [ek]; simp only [toPy, e2]), hk.1, hk.2, q w _ H (Le.refl w) g (by simp [Rep])⟩
      · cases e
    · cases e
  · rename_i z ek
    obtain ⟨k, e1, e2⟩ := Option.map_eq_some_iff.mp e
    subst e2
    cases e'
    exact op_notIn_sign pins sh σ H x y v u Q I rx ry ⟨k, z, sign1_rep r1 e1, pk_str g r2 ek, q w _ H (Le.refl w) g (by simp [Rep])⟩
  · cases e
/-- the two roads to `in`, taken by what the container is -/
theorem in_road {op : CmpOp} {f : P2} {fD fS : P2} {t1 : TE} (hf : ∀ x y s, f x y s = if isDctD s y = true then fD x y s else fS x y s)
    (hD : PE X (.Compare a [op] [b] pos) t1) (hS : OpP X (compareOp op) fS) (hm : behindInMarks op b = false) (ha : PD X W a da) (hb : PD X W b db)
    (k : ∀ σ H Q, (∃ env s w, SR (ct X) w env σ ∧ Good (ct X) w H s ∧ (∃ x s1 y s2, da env s = .ok x s1 ∧ db env s1 = .ok y s2 ∧ isDctD s2 y = true) ∧ Aft (ct X) (RD (ct X)) w σ W (dOp fD da db env s) Q) → t1 σ H Q) : PD X W (.Compare a [op] [b] pos) (dOp f da db) := by
  refine ⟨⟨fun pins sh σ H Q I ⟨env, s, w, sr, g, h⟩ => ?_⟩⟩
  by_cases hd : ∃ x s1 y s2, da env s = .ok x s1 ∧ db env s1 = .ok y s2 ∧ isDctD s2 y = true
  · refine hD.run pins sh σ H Q I (k σ H Q ⟨env, s, w, sr, g, hd, ?_⟩)
    obtain ⟨x, s1, y, s2, e1, e2, e3⟩ := hd
    have hh : dOp fD da db env s = dOp f da db env s := by
      unfold dOp
      rw [e1]
      show Res.bind (db env s1) _ = Res.bind (db env s1) _
      rw [e2]
      show ofO (fD x y s2) s2 = ofO (f x y s2) s2
      rw [hf, if_pos e3]
    rw [hh]
    exact h
  · refine (pe_cmpR hS ha.pe hb.pe hm).run pins sh σ H Q I ⟨env, s, w, sr, g, ?_⟩
    unfold dOp at h
    refine Aft.bind h fun x s1 w1 v1 H1 e1 l1 g1 r1 h1 => ⟨env, s1, w1, sr.up l1, g1, Aft.bind h1 fun y s2 w2 v2 H2 e2 l2 g2 r2 h2 => ?_⟩
    have e3 : ¬ isDctD s2 y = true := fun z => hd ⟨x, s1, y, s2, e1, e2, z⟩
    rw [hf, if_neg e3] at h2
    cases e4 : fS x y s2 with
    | none => rw [e4] at h2; exact h2.elim
    | some dz =>
      rw [e4] at h2
      exact ⟨x, y, dz, s2, w2, g2, r1.up l2, r2, e4, fun w' v H' l g r => h2.at_ l g r⟩
theorem pd_in (hu : X.A.units + 65 < cLine) (ha : PD X W a da) (hb : PD X W b db) (hm : behindInMarks .In b = false := by rfl) : PD X W (.Compare a [.In] [b] pos) (dOp fIn da db) := by
  refine in_road (fD := fInD) (fS := fInS) (fun _ _ _ => rfl) (pe_cmp (pc_din (by omega) ha.pe hb.pe) hm) (opp_inS hu) hm ha hb ?_
  rintro σ H Q ⟨env, s, w, sr, g, hd, h⟩
  unfold dOp at h
  refine ⟨env, s, w, sr, g, Aft.bind h fun x s1 w1 v1 H1 e1 l1 g1 r1 h1 => ⟨env, s1, w1, sr.up l1, g1, Aft.bind h1 fun y s2 w2 v2 H2 e2 l2 g2 r2 h2 => ?_⟩⟩
  unfold fInD at h2
  cases ek : pk s2 y with
  | dct t kvs =>
    rw [ek] at h2
    obtain ⟨a', ea, dat⟩ := g2.isDct r2 ek
    simp only at h2
    cases e4 : keyD x with
    | none => rw [e4] at h2; exact h2.elim
    | some p =>
      obtain ⟨t', ks⟩ := p
      rw [e4] at h2
      simp only at h2
      by_cases ht : t' = t
      · subst ht
        rw [if_pos rfl] at h2
        obtain ⟨o, dg, m⟩ := dget_of g2 dat (r1.up l2) e4
        refine ⟨a', o, ea, dg, ?_⟩
        have eo : o.isSome = (getK kvs ks).isSome := by
          cases e5 : getK kvs ks <;> cases o <;> rw [e5] at m <;> first | rfl | exact m.elim
        rw [eo]
        exact h2.now g2 (by simp only [Rep])
      · rw [if_neg ht] at h2
        exact h2.elim
  | _ => rw [ek] at h2; exact h2.elim
theorem pd_notIn (hu : X.A.units + 65 < cLine) (ha : PD X W a da) (hb : PD X W b db) (hm : behindInMarks .NotIn b = false := by rfl) : PD X W (.Compare a [.NotIn] [b] pos) (dOp fNotIn da db) := by
  refine in_road (fD := fun x y s => (fInD x y s).bind bNot) (fS := fun x y s => (fInS x y s).bind bNot) (fun x y s => by unfold fNotIn fIn; split <;> rfl) (pe_cmp (pc_dnotin (by omega) ha.pe hb.pe) hm) (opp_notInS hu) hm ha hb ?_
  rintro σ H Q ⟨env, s, w, sr, g, hd, h⟩
  unfold dOp at h
  refine ⟨env, s, w, sr, g, Aft.bind h fun x s1 w1 v1 H1 e1 l1 g1 r1 h1 => ⟨env, s1, w1, sr.up l1, g1, Aft.bind h1 fun y s2 w2 v2 H2 e2 l2 g2 r2 h2 => ?_⟩⟩
  replace h2 : Aft (ct X) (RD (ct X)) w2 σ W (ofO ((fInD x y s2).bind bNot) s2) Q := h2
  unfold fInD at h2
  cases ek : pk s2 y with
  | dct t kvs =>
    rw [ek] at h2
    obtain ⟨a', ea, dat⟩ := g2.isDct r2 ek
    simp only at h2
    cases e4 : keyD x with
    | none => rw [e4] at h2; exact h2.elim
    | some p =>
      obtain ⟨t', ks⟩ := p
      rw [e4] at h2
      simp only at h2
      by_cases ht : t' = t
      · subst ht
        rw [if_pos rfl] at h2
        obtain ⟨o, dg, m⟩ := dget_of g2 dat (r1.up l2) e4
        refine ⟨a', o, ea, dg, ?_⟩
        have eo : o.isSome = (getK kvs ks).isSome := by
          cases e5 : getK kvs ks <;> cases o <;> rw [e5] at m <;> first | rfl | exact m.elim
        rw [eo]
        exact h2.now g2 (by simp only [Rep])
      · rw [if_neg ht] at h2
        exact h2.elim
  | _ => rw [ek] at h2; exact h2.elim
/-! ### builtin calls -/
abbrev PF := List Dt → S → Option Dt
def CallP (X : Cx) (fv : Value) (f : PF) : Prop := CallR X fv (fun xs H Q => ∃ ds dz s w, Good (ct X) w H s ∧ Reps (ct X) w ds xs ∧ f ds s = some dz ∧ ∀ w' v H', Le w w' → Good (ct X) w' H' s → Rep (ct X) w' dz v → Q v H')
def dCall (f : PF) (a : DA) : DE := fun env s => (a env s).bind fun ds s => ofO (f ds s) s
abbrev PFN := List Dt → S → Option (List Dt)
def CallN (X : Cx) (fv : Value) (f : PFN) : Prop := CallR X fv (fun xs H Q => ∃ ds zs s w, Good (ct X) w H s ∧ Reps (ct X) w ds xs ∧ f ds s = some zs ∧ ∀ w' vs H', Le w w' → Good (ct X) w' H' s → Reps (ct X) w' zs vs → ∀ p, H' p = none → Q (.ref p) (upd H' p (.lst vs)))
def nOfO (o : Option (List Dt)) (s : S) : Res (List Dt) := match o with
  | some d => .ok d s
  | none => .bad
def nCall (f : PFN) (a : DA) : DN := fun env s => (a env s).bind fun ds s => nOfO (f ds s) s
section
variable {x : Str} {p : Pos} {id : String} {f : PF} {fn : PFN}
theorem callP_lift (h : PDA X W es dr) : ∀ σ H Q, liftE (ct X) W (dCall f dr) σ H Q → liftA (ct X) W dr σ H fun xs H1 => ∃ ds dz s w, Good (ct X) w H1 s ∧ Reps (ct X) w ds xs ∧ f ds s = some dz ∧ ∀ w' v H', Le w w' → Good (ct X) w' H' s → Rep (ct X) w' dz v → Q v H' := by
  rintro σ H Q ⟨env, s, w, sr, g, h⟩
  refine ⟨env, s, w, sr, g, Aft.bind h fun ds s1 w1 vs H1 _ l1 g1 r1 h1 => ?_⟩
  cases e : f ds s1 with
  | none => rw [e] at h1; exact h1.elim
  | some dz =>
    rw [e] at h1
    exact ⟨ds, dz, s1, w1, g1, r1, e, fun w' v H' l g r => h1.at_ l g r⟩
theorem callN_lift (h : PDA X W es dr) : ∀ σ H Q, liftN (ct X) W (nCall fn dr) σ H Q → liftA (ct X) W dr σ H fun xs H1 => ∃ ds zs s w, Good (ct X) w H1 s ∧ Reps (ct X) w ds xs ∧ fn ds s = some zs ∧ ∀ w' vs H', Le w w' → Good (ct X) w' H' s → Reps (ct X) w' zs vs → ∀ p, H' p = none → Q (.ref p) (upd H' p (.lst vs)) := by
  rintro σ H Q ⟨env, s, w, sr, g, h⟩
  refine ⟨env, s, w, sr, g, Aft.bind h fun ds s1 w1 vs H1 _ l1 g1 r1 h1 => ?_⟩
  cases e : fn ds s1 with
  | none => rw [e] at h1; exact h1.elim
  | some dz =>
    rw [e] at h1
    exact ⟨ds, dz, s1, w1, g1, r1, e, fun w' v H' l g r => h1.at_ l g r⟩
theorem pd_callB (hc : CallP X (.builtin id) f) (hm : X.mg x = none) (hv : bootBuiltins x = some (.builtin id)) (ha : PDA X W (e :: es) dr) (hg : Gl X x := by rfl) (hn : x ≠ "__name__" := by decide) (hdb : (x == ("__debug__" : Str)) = false := by decide)
    (he : starEach (e :: es) X.env = (false, eval e X.env) :: starEach es X.env := by rfl) (hpl : (backTo pos (starEach es X.env)).any (·.1) = false := by rfl) : PD X W (.Call (.Name x p) (e :: es) [] pos) (dCall f dr) :=
  ⟨(pe_callB hc hg hm hv ha.pa hn hdb he hpl).of fun σ H Q h => callP_lift ha σ H Q h⟩
theorem pd_callTy (hc : CallP X (.type id) f) (hm : X.mg x = none) (hv : bootBuiltins x = some (.type id)) (ha : PDA X W (e :: es) dr) (hg : Gl X x := by rfl) (hn : x ≠ "__name__" := by decide) (hdb : (x == ("__debug__" : Str)) = false := by decide)
    (he : starEach (e :: es) X.env = (false, eval e X.env) :: starEach es X.env := by rfl) (hpl : (backTo pos (starEach es X.env)).any (·.1) = false := by rfl) : PD X W (.Call (.Name x p) (e :: es) [] pos) (dCall f dr) :=
  ⟨(pe_callTy hc hg hm hv ha.pa hn hdb he hpl).of fun σ H Q h => callP_lift ha σ H Q h⟩
theorem pdn_callB (hc : CallN X (.builtin id) fn) (hm : X.mg x = none) (hv : bootBuiltins x = some (.builtin id)) (ha : PDA X W (e :: es) dr) (hg : Gl X x := by rfl) (hn : x ≠ "__name__" := by decide) (hdb : (x == ("__debug__" : Str)) = false := by decide)
    (he : starEach (e :: es) X.env = (false, eval e X.env) :: starEach es X.env := by rfl) (hpl : (backTo pos (starEach es X.env)).any (·.1) = false := by rfl) : PDN X W (.Call (.Name x p) (e :: es) [] pos) (nCall fn dr) :=
  ⟨(pe_callB hc hg hm hv ha.pa hn hdb he hpl).of fun σ H Q h => callN_lift ha σ H Q h⟩
theorem pdn_callTy (hc : CallN X (.type id) fn) (hm : X.mg x = none) (hv : bootBuiltins x = some (.type id)) (ha : PDA X W (e :: es) dr) (hg : Gl X x := by rfl) (hn : x ≠ "__name__" := by decide) (hdb : (x == ("__debug__" : Str)) = false := by decide)
    (he : starEach (e :: es) X.env = (false, eval e X.env) :: starEach es X.env := by rfl) (hpl : (backTo pos (starEach es X.env)).any (·.1) = false := by rfl) : PDN X W (.Call (.Name x p) (e :: es) [] pos) (nCall fn dr) :=
  ⟨(pe_callTy hc hg hm hv ha.pa hn hdb he hpl).of fun σ H Q h => callN_lift ha σ H Q h⟩
end
/-- len of lists, tuples, texts -/
def fLen : PF := fun ds s => match ds with
  | [d] => (match pk s d with
    | .lst xs => some (.int xs.length)
    | .tup xs => some (.int xs.length)
    | .str z => if z.length ≤ sizeLine then some (.int z.length) else none
    | .dct _ kvs => some (.int kvs.length)
    | _ => none)
  | _ => none
theorem reps1 {c : Ct} {w : Wd} {d : Dt} {xs : List V} (r : Reps c w [d] xs) : ∃ v, xs = [v] ∧ Rep c w d v := by
  simp only [Reps] at r
  obtain ⟨v, q, rfl, h, rfl⟩ := r
  exact ⟨v, rfl, h⟩
theorem reps2 {c : Ct} {w : Wd} {d d' : Dt} {xs : List V} (r : Reps c w [d, d'] xs) : ∃ v v', xs = [v, v'] ∧ Rep c w d v ∧ Rep c w d' v' := by
  simp only [Reps] at r
  obtain ⟨v, q, rfl, h, v', q', rfl, h', rfl⟩ := r
  exact ⟨v, v', rfl, h, h'⟩
/-- len of a dict that is read -/
theorem len_dct {c : Ct} {a : Addr} {t : Bool} {kvs : List (List Key × Dt)} {w : Wd} {pins : List (Addr × Obj)} {σ : L2.St} {H : Hp} {sh : Shared} (I : Inv X pins σ H sh) (da : DctAt c w H a t kvs) {Q : Value → Shared → Prop} {E : Value → Shared → Prop} {A : Around}
    (h : ∀ tk s', Inv X pins σ H s' → Q (.int kvs.length tk) s') : wpAny (model X.prog X.w) A (call (.builtin "len") [.ref a]) Q E sh := by
  rcases da with ⟨_, ws, h1, h2⟩ | ⟨_, ws, h1, h2⟩
  · have hl := length_repK h2
    rw [List.length_map] at hl
    exact d_len I h1 fun tk s' I' => by
      have := h tk s' I'
      rw [hl] at this
      exact this
  · have hl := length_repK h2
    obtain ⟨z, hd, xs, rel, dd⟩ := dt_rd I.hok h1
    have hlen : ws.length = xs.length := Paired.length rel
    refine call_len_dictH hd dd (by rw [← hlen]; rw [sizeLine_eq] at z; omega) ?_
    rw [← hlen, ← hl]
    exact h _ _ (I.tok _)
end
end D
end

section
set_option maxHeartbeats 4000000
namespace D
open PySem L2
/-! ### statements -/
def andS {α : Type} (r : Res α) (env : Env) (k : α → S → SRes) : SRes := match r with
  | .ok a s => k a s
  | .exc e s => .exc e env s
  | .bad => .bad
section
variable {c : Ct} {w w' : Wd} {H H' : Hp} {s s' : S} {env : Env} {σ : L2.St} {W : WX} {D : Ends}
theorem AftS.bindE {α β : Type} {R : Wd → α → β → Prop} {r : Res α} {k : α → S → SRes} {P : β → Hp → Prop} (sr : SR c w env σ) (h : AftS c w W (andS r env k) D)
    (hk : ∀ a s' w' b H', r = .ok a s' → Le w w' → Good c w' H' s' → R w' a b → AftS c w' W (k a s') D → P b H') : Aft c R w σ W r P := by
  cases r with
  | ok a s' => exact fun w' v H' l g x => hk a s' w' v H' rfl l g x (AftS.up l h)
  | exc e s' => exact fun w' H' cls dd l g x => h w' σ H' cls dd l (sr.up l) g x
  | bad => exact h
theorem AftS.nx' {env' : Env} {s' : S} {σ' : L2.St} (h : AftS c w W (.nx env' s') D) (l : Le w w') (sr : SR c w' env' σ') (g : Good c w' H' s') : D.nx σ' H' := h w' σ' H' l sr g
end
def sSet (i : Nat) (d : DE) : DS := fun env s => andS (d env s) env fun x s => .nx (env.set i (some x)) s
def sSeq (a b : DS) : DS := fun env s => match a env s with
  | .nx env s => b env s
  | r => r
def sNext : DS := fun env s => .nx env s
def sBrk : DS := fun env s => .bk env s
def sCnt : DS := fun env s => .ct env s
def sNever : DS := fun _ _ => .bad
def sExp (d : DE) : DS := fun env s => andS (d env s) env fun _ s => .nx env s
def sRet (d : DE) : DS := fun env s => andS (d env s) env fun x s => .rt x s
def sRetN : DS := fun _ s => .rt .non s
def sIf (c : DT) (a b : DS) : DS := fun env s => andS (c env s) env fun t s => if t = true then a env s else b env s
section
variable {X : Cx} {W : WX} {pos : Pos} {e : Expr} {st : Stmt} {sts a b : List Stmt} {d : DE} {dt : DT} {da db : DS}
theorem ds_never : PDS X W st sNever := ⟨ps_never.of fun D σ H ⟨env, s, w, sr, g, h⟩ => h⟩
theorem dss_never : PDSs X W sts sNever := ⟨pss_never.of fun D σ H ⟨env, s, w, sr, g, h⟩ => h⟩
theorem dss_nil : PDSs X W [] sNext := ⟨pss_nil.of fun D σ H ⟨env, s, w, sr, g, h⟩ => h w σ H (Le.refl w) sr g⟩
theorem dss_one (h : PDS X W st da) : PDSs X W [st] da := ⟨pss_one h.ps⟩
theorem dss_cons (h : PDS X W st da) (k : PDSs X W sts db) : PDSs X W (st :: sts) (sSeq da db) := by
  refine ⟨(pss_cons h.ps k.pss).of fun D σ H ⟨env, s, w, sr, g, h⟩ => ⟨env, s, w, sr, g, ?_⟩⟩
  unfold sSeq at h
  cases e : da env s with
  | nx env' s' =>
    rw [e] at h
    exact fun w' σ' H' l sr' g' => ⟨env', s', w', sr', g', h.up l⟩
  | bk env' s' => rw [e] at h; exact h
  | ct env' s' => rw [e] at h; exact h
  | rt d s' => rw [e] at h; exact h
  | exc x env' s' => rw [e] at h; exact h
  | bad => rw [e] at h; exact h
theorem ds_pass : PDS X W (.Pass pos) sNext := ⟨ps_pass.of fun D σ H ⟨env, s, w, sr, g, h⟩ => h w σ H (Le.refl w) sr g⟩
theorem ds_brk : PDS X W (.Break pos) sBrk := ⟨ps_break.of fun D σ H ⟨env, s, w, sr, g, h⟩ => h w σ H (Le.refl w) sr g⟩
theorem ds_cnt : PDS X W (.Continue pos) sCnt := ⟨ps_continue.of fun D σ H ⟨env, s, w, sr, g, h⟩ => h w σ H (Le.refl w) sr g⟩
theorem ds_retN : PDS X W (.Return none pos) sRetN := ⟨ps_retN.of fun D σ H ⟨env, s, w, sr, g, h⟩ => h w .non H (Le.refl w) g (by simp only [Rep])⟩
theorem ds_exp (he : PD X W e d) (hs : swapsWith e none pos.line X.env = pure false := by rfl) : PDS X W (.Expr e pos) (sExp d) :=
  ⟨(ps_expr he.pe hs).of fun D σ H ⟨env, s, w, sr, g, h⟩ => ⟨env, s, w, sr, g, AftS.bindE sr h fun x s1 w1 v H1 _ l1 g1 r1 h1 => h1.nx' (Le.refl w1) (sr.up l1) g1⟩⟩
theorem ds_ret (he : PD X W e d) : PDS X W (.Return (some e) pos) (sRet d) :=
  ⟨(ps_ret he.pe).of fun D σ H ⟨env, s, w, sr, g, h⟩ => ⟨env, s, w, sr, g, AftS.bindE sr h fun x s1 w1 v H1 _ l1 g1 r1 h1 => h1 w1 v H1 (Le.refl w1) g1 r1⟩⟩
theorem ds_set (i : Nat) {x : Str} {pos' : Pos} (he : PD X W e d) (hN : X.N.Nodup := by assumption) (hi : X.N[i]? = some x := by rfl) (hx : Loc X.env.scope x := by first | exact Or.inl rfl | exact Or.inr rfl)
    (hs : swapsWith e (some (.Name x pos')) pos.line X.env = pure false := by rfl) (hf : X.fn x = true ∨ X.env.scope.names.lookup x = some .local := by first | exact .inl rfl | exact .inr rfl) : PDS X W (.Assign [.Name x pos'] e pos) (sSet i d) :=
  ⟨(ps_set (i := i) hN hi hx he.pe hs hf).of fun D σ H ⟨env, s, w, sr, g, h⟩ => ⟨env, s, w, sr, g, AftS.bindE sr h fun x s1 w1 v H1 _ l1 g1 r1 h1 => h1.nx' (Le.refl w1) ((sr.up l1).set r1) g1⟩⟩
theorem ds_if {c : Expr} (hc : PDT X W c dt) (ha : PDSs X W a da) (hb : PDSs X W b db) : PDS X W (.If c a b pos) (sIf dt da db) :=
  ⟨(ps_if hc.pt ha.pss hb.pss).of fun D σ H ⟨env, s, w, sr, g, h⟩ => ⟨env, s, w, sr, g, AftS.bindE sr h fun t s1 w1 v H1 _ l1 g1 r1 h1 => by
    have r1' : t = v := r1
    subst r1'
    cases t with
    | true => exact ⟨env, s1, w1, sr.up l1, g1, h1⟩
    | false => exact ⟨env, s1, w1, sr.up l1, g1, h1⟩⟩⟩
end
/-! ### targets -/
abbrev DG := Dt → Env → S → Option Env
def gNm (i : Nat) : DG := fun x env _ => some (env.set i (some x))
def gAll : List DG → List Dt → Env → S → Option Env
  | [], [], env, _ => some env
  | g :: gs, x :: xs, env, s => (g x env s).bind fun env => gAll gs xs env s
  | _, _, _, _ => none
def gTp (gs : List DG) : DG := fun x env s => match pk s x with
  | .tup xs => gAll gs xs env s
  | _ => none
/-- alike but at some slots -/
def But (is : List Nat) (σ σ' : L2.St) : Prop := σ'.length = σ.length ∧ ∀ i, i ∉ is → σ'[i]? = σ[i]?
theorem But.refl {is : List Nat} {σ : L2.St} : But is σ σ := ⟨rfl, fun _ _ => rfl⟩
theorem But.trans {is js : List Nat} {a b c : L2.St} (h : But is a b) (k : But js b c) : But (is ++ js) a c := ⟨k.1.trans h.1, fun i hi => (k.2 i fun z => hi (List.mem_append_right _ z)).trans (h.2 i fun z => hi (List.mem_append_left _ z))⟩
def liftG (c : Ct) (g : DG) (is : List Nat) : TG := fun v σ H Q => ∃ dx env s w env', SR c w env σ ∧ Good c w H s ∧ Rep c w dx v ∧ g dx env s = some env' ∧ ∀ σ', But is σ σ' → SR c w env' σ' → Q σ' H
structure PDG (X : Cx) (t : Expr) (g : DG) (is : List Nat) : Prop where
  pg : PG X t (liftG (ct X) g is)
structure PDGs (X : Cx) (ts : List Expr) (gs : List DG) (is : List Nat) : Prop where
  len : gs.length = ts.length
  pgs : PGs X ts (fun vs σ H Q => ∃ ds env s w env', SR (ct X) w env σ ∧ Good (ct X) w H s ∧ Reps (ct X) w ds vs ∧ gAll gs ds env s = some env' ∧ ∀ σ', But is σ σ' → SR (ct X) w env' σ' → Q σ' H)
theorem _root_.L2.PG.of {X : Cx} {e : Expr} {t t' : TG} (h : PG X e t) (i : ∀ v σ H Q, t' v σ H Q → t v σ H Q) : PG X e t' := ⟨fun pins s σ H v u Q I r q => h.run pins s σ H v u Q I r (i v σ H Q q)⟩
theorem _root_.L2.PGs.of {X : Cx} {e : List Expr} {t t' : TGs} (h : PGs X e t) (i : ∀ v σ H Q, t' v σ H Q → t v σ H Q) : PGs X e t' := by
  obtain ⟨run⟩ := h
  exact ⟨by intros; exact run _ _ _ _ _ _ _ (by assumption) (by assumption) (by apply i; assumption)⟩
section
variable {X : Cx} {W : WX} {pos : Pos} {t e : Expr} {ts : List Expr} {g : DG} {gs : List DG} {d : DE} {is js : List Nat}
theorem dg_nm (i : Nat) {x : Str} (hN : X.N.Nodup := by assumption) (hi : X.N[i]? = some x := by rfl) (hx : Loc X.env.scope x := by first | exact Or.inl rfl | exact Or.inr rfl) (hf : X.fn x = true ∨ X.env.scope.names.lookup x = some .local := by first | exact .inl rfl | exact .inr rfl) : PDG X (.Name x pos) (gNm i) [i] :=
  ⟨(pg_name (i := i) hN hi hx hf).of fun v σ H Q ⟨dx, env, s, w, env', sr, g, r, e, q⟩ => by
    cases e
    exact q _ ⟨by rw [List.length_set], fun j hj => List.getElem?_set_ne (by intro z; exact hj (by simp [z]))⟩ (sr.set r)⟩
theorem dgs_nil : PDGs X [] [] [] := ⟨rfl, pgs_nil.of fun v σ H Q ⟨ds, env, s, w, env', sr, g, r, e, q⟩ => by
  cases ds with
  | nil =>
    simp only [Reps] at r
    cases e
    exact ⟨r, q _ But.refl sr⟩
  | cons d ds => cases e⟩
theorem dgs_cons (h : PDG X t g is) (k : PDGs X ts gs js) (hs : (assignEach (t :: ts) X.env).map (·.2) = assign t X.env :: (assignEach ts X.env).map (·.2) := by rfl) : PDGs X (t :: ts) (g :: gs) (is ++ js) :=
  ⟨by rw [List.length_cons, List.length_cons, k.len], (pgs_cons h.pg k.pgs hs).of fun v σ H Q ⟨ds, env, s, w, env', sr, gd, r, e, q⟩ => by
    cases ds with
    | nil => cases e
    | cons d ds =>
      simp only [Reps] at r
      obtain ⟨v0, r0, rfl, h1, h2⟩ := r
      obtain ⟨env1, e1, e2⟩ := Option.bind_eq_some_iff.mp (show (g d env s).bind (fun env => gAll gs ds env s) = some env' from e)
      exact ⟨v0, r0, rfl, d, env, s, w, env1, sr, gd, h1, e1, fun σ' b' sr' => ⟨ds, env1, s, w, env', sr', gd, h2, e2, fun σ2 b2 => q σ2 (b'.trans b2)⟩⟩⟩
theorem gAll_len : ∀ {gs : List DG} {ds : List Dt} {env : Env} {s : S} {env' : Env}, gAll gs ds env s = some env' → ds.length = gs.length
  | [], [], _, _, _, _ => rfl
  | [], _ :: _, _, _, _, e => by cases e
  | _ :: _, [], _, _, _, e => by cases e
  | g :: gs, d :: ds, env, s, env', e => by
    obtain ⟨env1, e1, e2⟩ := Option.bind_eq_some_iff.mp (show (g d env s).bind (fun env => gAll gs ds env s) = some env' from e)
    rw [List.length_cons, List.length_cons, gAll_len e2]
theorem dg_tp {k : Nat} (h : PDGs X ts gs is) (hc : X.calm = true := by rfl) (hn : (assignEach ts X.env).length = ts.length := by rfl) (hst : (assignEach ts X.env).findIdx? (·.1) = none := by rfl) : PDG X (.Tuple ts k pos) (gTp gs) is :=
  ⟨(pg_tup hc h.pgs hn hst).of fun v σ H Q ⟨dx, env, s, w, env', sr, g, r, e, q⟩ => by
    unfold gTp at e
    split at e
    · rename_i xs ek
      obtain ⟨a, vs, rfl, hq, rs⟩ := g.isTup r ek
      exact ⟨a, vs, rfl, hq, by rw [← rs.length, gAll_len e, h.len], xs, env, s, w, env', sr, g, rs, e, q⟩
    · cases e⟩
def sAsg (d : DE) (g : DG) : DS := fun env s => andS (d env s) env fun x s => match g x env s with
  | some env' => .nx env' s
  | none => .bad
theorem ds_asg (he : PD X W e d) (hg : PDG X t g is) (hs : swapsWithSole [t] e pos.line X.env = pure false := by rfl) (hw : swappedStores [t] e X.env = pure none := by rfl)
    (h1 : (assignEach [t] X.env).map (·.2) = [assign t X.env] := by rfl) : PDS X W (.Assign [t] e pos) (sAsg d g) :=
  ⟨(ps_asg he.pe hg.pg hs hw h1).of fun D σ H ⟨env, s, w, sr, gd, h⟩ => ⟨env, s, w, sr, gd, AftS.bindE sr h fun x s1 w1 v H1 _ l1 g1 r1 h1 => by
    cases eg : g x env s1 with
    | none => rw [eg] at h1; exact h1.elim
    | some env' =>
      rw [eg] at h1
      exact ⟨x, env, s1, w1, env', sr.up l1, g1, r1, eg, fun σ' _ sr' => h1.nx' (Le.refl w1) sr' g1⟩⟩⟩
/-- a, b = x, y -/
def sPar (i j : Nat) (dr : DA) : DS := fun env s => andS (dr env s) env fun ds s => match ds with
  | [x, y] => .nx ((env.set i (some x)).set j (some y)) s
  | _ => .bad
theorem ds_par (i j : Nat) {x y : Str} {a b : Expr} {dr : DA} {px py pt : Pos} {kt k2 : Nat} {pt2 : Pos} (ha : PDA X W [a, b] dr) (hN : X.N.Nodup := by assumption) (hi : X.N[i]? = some x := by rfl) (hj : X.N[j]? = some y := by rfl) (hij : i ≠ j := by decide) (hc : X.calm = true := by rfl)
    (hx : X.env.scope.names.lookup x = some .local := by rfl) (hy : X.env.scope.names.lookup y = some .local := by rfl)
    (hw : swappedStores [.Tuple [.Name x px, .Name y py] kt pt] (.Tuple [a, b] k2 pt2) X.env = pure (some [x, y]) := by rfl)
    (hs : swapsWithSole [.Tuple [.Name x px, .Name y py] kt pt] (.Tuple [a, b] k2 pt2) pos.line X.env = pure false := by rfl) :
    PDS X W (.Assign [.Tuple [.Name x px, .Name y py] kt pt] (.Tuple [a, b] k2 pt2) pos) (sPar i j dr) :=
  ⟨(ps_par hc hN hi hj hij hx hy ha.pa hw hs).of fun D σ H ⟨env, s, w, sr, gd, h⟩ => ⟨env, s, w, sr, gd, AftS.bindE sr h fun ds s1 w1 v H1 _ l1 g1 r1 h1 => by
    match ds, r1, h1 with
    | [x, y], r1, h1 =>
      obtain ⟨v1, v2, rfl, q1, q2⟩ := reps2 r1
      exact ⟨v1, v2, rfl, h1.nx' (Le.refl w1) (((sr.up l1).set q1).set q2) g1⟩
    | [], r1, h1 => exact h1.elim
    | [_], r1, h1 => exact h1.elim
    | _ :: _ :: _ :: _, r1, h1 => exact h1.elim⟩⟩
/-! ### while -/
def whl (c : DT) (b : DS) : Nat → DS
  | 0 => fun _ _ => .bad
  | n + 1 => fun env s => andS (c env s) env fun t s => if t = true then (match b env s with
      | .nx env s => whl c b n env s
      | .ct env s => whl c b n env s
      | .bk env s => .nx env s
      | r => r) else .nx env s
open Classical in
noncomputable def sWhile (c : DT) (b : DS) : DS := fun env s => if h : ∃ n, whl c b n env s ≠ .bad then whl c b h.choose env s else .bad
theorem whl_up {c : DT} {b : DS} : ∀ (n : Nat) (env : Env) (s : S), whl c b n env s ≠ .bad → whl c b (n + 1) env s = whl c b n env s
  | 0, env, s, h => absurd rfl h
  | n + 1, env, s, h => by
    have e : ∀ m, whl c b (m + 1) env s = andS (c env s) env fun t s => if t = true then (match b env s with
      | .nx env s => whl c b m env s
      | .ct env s => whl c b m env s
      | .bk env s => .nx env s
      | r => r) else .nx env s := fun _ => rfl
    rw [e n] at h
    rw [e (n + 1), e n]
    cases ec : c env s with
    | ok t s1 =>
      rw [ec] at h
      simp only [andS] at h ⊢
      by_cases ht : t = true
      · rw [if_pos ht] at h
        rw [if_pos ht, if_pos ht]
        cases eb : b env s1 with
        | nx env' s' =>
          rw [eb] at h
          exact whl_up n env' s' h
        | ct env' s' =>
          rw [eb] at h
          exact whl_up n env' s' h
        | _ => rfl
      · rw [if_neg ht, if_neg ht]
    | exc x s1 => rfl
    | bad => rfl
theorem whl_le {c : DT} {b : DS} {n : Nat} {env : Env} {s : S} (h : whl c b n env s ≠ .bad) : ∀ m, n ≤ m → whl c b m env s = whl c b n env s := by
  intro m hm
  induction m with
  | zero =>
    have : n = 0 := by omega
    subst this
    rfl
  | succ m ih =>
    by_cases e : n = m + 1
    · subst e; rfl
    · have i := ih (by omega)
      rw [whl_up m env s (by rw [i]; exact h), i]
theorem sWhile_eq {c : DT} {b : DS} {n : Nat} {env : Env} {s : S} {r : SRes} (h : whl c b n env s = r) (hr : r ≠ .bad) : sWhile c b env s = r := by
  have hx : ∃ n, whl c b n env s ≠ .bad := ⟨n, by rw [h]; exact hr⟩
  unfold sWhile
  rw [dif_pos hx]
  have h1 := whl_le hx.choose_spec (max n hx.choose) (by omega)
  have h2 := whl_le (n := n) (by rw [h]; exact hr) (max n hx.choose) (by omega)
  rw [← h1, h2, h]
theorem ds_while {c : Expr} {body : List Stmt} {dt : DT} {db : DS} (hc : PDT X W c dt) (hb : PDSs X W body db) (hp : PassesOwn (model X.prog X.w) X.A X.env X.xe := by assumption) : PDS X W (.While c body [] pos) (sWhile dt db) := by
  refine ⟨(ps_while hp hc.pt hb.pss).of fun D σ H ⟨env, s, w, sr, g, h⟩ => ?_⟩
  refine ⟨fun m σ H => ∃ env s w, SR (ct X) w env σ ∧ Good (ct X) w H s ∧ AftS (ct X) w W (whl dt db m env s) D, ?_, ?_⟩
  · unfold sWhile at h
    split at h
    · rename_i hx
      exact ⟨hx.choose, env, s, w, sr, g, h⟩
    · exact h.elim
  · rintro m σ H ⟨env, s, w, sr, g, h⟩
    cases m with
    | zero => exact h.elim
    | succ m =>
      refine ⟨env, s, w, sr, g, AftS.bindE sr h fun t s1 w1 v H1 _ l1 g1 r1 h1 => ?_⟩
      have r1' : t = v := r1
      subst r1'
      cases t with
      | true =>
        rw [if_pos rfl]
        rw [if_pos rfl] at h1
        refine ⟨fun σ' H' => ∃ env s w, SR (ct X) w env σ' ∧ Good (ct X) w H' s ∧ AftS (ct X) w W (whl dt db m env s) D, fun σ' H' q => ⟨m, Nat.lt_succ_self m, q⟩, env, s1, w1, sr.up l1, g1, ?_⟩
        cases eb : db env s1 with
        | nx env' s' => rw [eb] at h1; exact fun w' σ' H' l sr' g' => ⟨env', s', w', sr', g', h1.up l⟩
        | ct env' s' => rw [eb] at h1; exact fun w' σ' H' l sr' g' => ⟨env', s', w', sr', g', h1.up l⟩
        | bk env' s' => rw [eb] at h1; exact h1
        | rt d s' => rw [eb] at h1; exact h1
        | exc e env' s' => rw [eb] at h1; exact h1
        | bad => rw [eb] at h1; exact h1
      | false =>
        rw [if_neg (by decide)]
        rw [if_neg (by decide)] at h1
        exact h1.nx' (Le.refl w1) (sr.up l1) g1
/-! ### for -/
structure DIt where
  n : Nat
  at_ : Nat → S → Option Dt
def ItOk (c : Ct) (J : It) (j : DIt) (w : Wd) : Prop := ∀ w' H s, Le w w' → Good c w' H s → ∀ i, (i < j.n → ∀ d, j.at_ i s = some d → J.go i H ∧ ∀ x H', J.yld i H x H' → ∃ w2, Le w' w2 ∧ Good c w2 H' s ∧ Rep c w2 d x) ∧ (i = j.n → (j.at_ i s).isSome = true → J.stop i H)
abbrev DI := Env → S → Res DIt
structure PDI (X : Cx) (W : WX) (t e : Expr) (d : DI) : Prop where
  pi : PI X t e (fun σ H R => ∃ env s w, SR (ct X) w env σ ∧ Good (ct X) w H s ∧ Aft (ct X) (fun w' j J => ItOk (ct X) J j w') w σ W (d env s) R)
def runFor (j : DIt) (g : DG) (b : DS) : Nat → DS
  | 0 => fun env s => if (j.at_ j.n s).isSome = true then .nx env s else .bad
  | k + 1 => fun env s => match j.at_ (j.n - (k + 1)) s with
    | none => .bad
    | some x => match g x env s with
      | none => .bad
      | some env => match b env s with
        | .nx env s => runFor j g b k env s
        | .ct env s => runFor j g b k env s
        | .bk env s => .nx env s
        | r => r
def sFor (d : DI) (g : DG) (b : DS) : DS := fun env s => andS (d env s) env fun j s => runFor j g b j.n env s
theorem ds_for {body : List Stmt} {di : DI} {db : DS} (hi : PDI X W t e di) (hg : PDG X t g is) (hb : PDSs X W body db) (hp : PassesOwn (model X.prog X.w) X.A X.env X.xe := by assumption) (hc : X.calm = true := by rfl) (hs : ∀ x, foldedSetIterable e X.env x = pure x := by intro _; rfl) : PDS X W (.For t e body [] pos) (sFor di g db) := by
  refine ⟨(ps_for hp hc hi.pi hg.pg hb.pss hs).of fun D σ H ⟨env, s, w, sr, gd, h⟩ => ⟨env, s, w, sr, gd, AftS.bindE sr h fun j s1 w1 J H1 _ l1 g1 r1 h1 => ?_⟩⟩
  refine ⟨fun i m σ H => ∃ env s w, SR (ct X) w env σ ∧ Good (ct X) w H s ∧ Le w1 w ∧ i + m = j.n ∧ AftS (ct X) w W (runFor j g db m env s) D, ⟨j.n, env, s1, w1, sr.up l1, g1, Le.refl w1, by omega, h1⟩, ?_⟩
  rintro i m σ' H' ⟨env', s', w', sr', g', l', him, h'⟩
  have it := r1 w' H' s' l' g' i
  cases m with
  | zero =>
    have hi' : i = j.n := by omega
    unfold runFor at h'
    split at h'
    · rename_i hs'
      exact .inl ⟨it.2 hi' (by rw [hi']; exact hs'), h'.nx' (Le.refl w') sr' g'⟩
    · exact h'.elim
  | succ m =>
    have hi' : i < j.n := by omega
    have hi2 : j.n - (m + 1) = i := by omega
    unfold runFor at h'
    rw [hi2] at h'
    cases ea : j.at_ i s' with
    | none => rw [ea] at h'; exact h'.elim
    | some x =>
      rw [ea] at h'
      simp only at h'
      obtain ⟨go, yl⟩ := it.1 hi' x ea
      refine .inr ⟨go, fun σ2 H2 => ∃ env s w, SR (ct X) w env σ2 ∧ Good (ct X) w H2 s ∧ Le w1 w ∧ i + 1 + m = j.n ∧ AftS (ct X) w W (runFor j g db m env s) D, fun σ2 H2 q => ⟨m, Nat.lt_succ_self m, q⟩, fun v H2 y => ?_⟩
      obtain ⟨w2, l2, g2, r2⟩ := yl v H2 y
      cases eg : g x env' s' with
      | none => rw [eg] at h'; exact h'.elim
      | some env2 =>
        rw [eg] at h'
        simp only at h'
        refine ⟨x, env', s', w2, env2, sr'.up l2, g2, r2, eg, fun σ3 _ sr3 => ⟨env2, s', w2, sr3, g2, ?_⟩⟩
        have h2 := h'.up l2
        have l12 : Le w1 w2 := l'.trans l2
        cases eb : db env2 s' with
        | nx env3 s3 => rw [eb] at h2; exact fun w4 σ4 H4 l4 sr4 g4 => ⟨env3, s3, w4, sr4, g4, l12.trans l4, by omega, h2.up l4⟩
        | ct env3 s3 => rw [eb] at h2; exact fun w4 σ4 H4 l4 sr4 g4 => ⟨env3, s3, w4, sr4, g4, l12.trans l4, by omega, h2.up l4⟩
        | bk env3 s3 => rw [eb] at h2; exact h2
        | rt d s3 => rw [eb] at h2; exact h2
        | exc e env3 s3 => rw [eb] at h2; exact h2
        | bad => rw [eb] at h2; exact h2
end
end D
end

section
set_option maxHeartbeats 4000000
namespace D
open PySem L2
theorem _root_.L2.PI.of {X : Cx} {t e : Expr} {i i' : TI} (h : PI X t e i) (k : ∀ σ H R, i' σ H R → i σ H R) : PI X t e i' := ⟨fun pins s σ H R I q => h.run pins s σ H R I (k σ H R q)⟩
/-- the items of a list or tuple -/
def itL (d : Dt) (n : Nat) : DIt := ⟨n, fun i s => match pk s d with
  | .lst xs => if xs.length = n then (if i < n then xs[i]? else some .non) else none
  | _ => none⟩
def itT (xs : List Dt) : DIt := ⟨xs.length, fun i s => if i < xs.length then xs[i]? else some .non⟩
def iLst (d : DE) : DI := fun env s => (d env s).bind fun x s => match pk s x with
  | .lst xs => .ok (itL x xs.length) s
  | _ => .bad
def iTup (d : DE) : DI := fun env s => (d env s).bind fun x s => match pk s x with
  | .tup xs => .ok (itT xs) s
  | _ => .bad
section
variable {X : Cx} {W : WX} {pos p : Pos} {t e e2 : Expr} {ts es : List Expr} {d : DE} {dr : DA} {c : Ct}
theorem itL_ok {w : Wd} {x : Dt} {v : V} {a : Addr} {n : Nat} (r : Rep c w x v) (ev : v = .ref a) : ItOk c (Itl c.K a) (itL x n) w := by
  intro w' H s l g i
  subst ev
  have r' := r.up l
  have look : ∀ d, (itL x n).at_ i s = some d → ∃ xs, pk s x = .lst xs ∧ xs.length = n ∧ (if i < n then xs[i]? else some .non) = some d := fun d e => by
    unfold itL at e
    simp only at e
    split at e
    · rename_i xs ek
      split at e
      · rename_i hn
        exact ⟨xs, ek, hn, e⟩
      · cases e
    · cases e
  refine ⟨fun hi d e => ?_, fun hi e => ?_⟩
  · obtain ⟨xs, ek, hn, e⟩ := look d e
    rw [if_pos (show i < n from hi)] at e
    obtain ⟨a', vs, ea, hq, rs⟩ := g.isLst r' ek
    cases ea
    obtain ⟨y, ey, ry⟩ := rs.get e
    refine ⟨⟨vs, y, hq, ey⟩, ?_⟩
    rintro z H' ⟨rfl, hz⟩
    have := hz vs hq
    rw [ey] at this
    cases this
    exact ⟨w', Le.refl w', g, ry⟩
  · obtain ⟨d, e⟩ := Option.isSome_iff_exists.mp e
    obtain ⟨xs, ek, hn, e⟩ := look d e
    obtain ⟨a', vs, ea, hq, rs⟩ := g.isLst r' ek
    cases ea
    refine ⟨vs, hq, ?_⟩
    have h1 := rs.length
    have h2 : i = n := hi
    omega
theorem pdi_lst (h : PD X W e d) : PDI X W t e (iLst d) := ⟨(pi_list h.pe).of fun σ H R ⟨env, s, w, sr, g, h⟩ => ⟨env, s, w, sr, g, Aft.bind h fun x s1 w1 v H1 _ l1 g1 r1 h1 => by
  split at h1
  · rename_i xs ek
    obtain ⟨a, vs, ea, hq, rs⟩ := g1.isLst r1 ek
    exact ⟨a, ea, ⟨vs, hq⟩, h1.now g1 (itL_ok r1 ea)⟩
  · exact h1.elim⟩⟩
/-- a tuple stays what it is -/
theorem isTup_frz {w : Wd} {H : Hp} {s : S} {x : Dt} {v : V} {xs : List Dt} (g : Good c w H s) (r : Rep c w x v) (e : pk s x = .tup xs) : ∃ a vs, v = .ref a ∧ SqT c.K w.G a vs ∧ Reps c w xs vs := by
  cases x with
  | tup ys =>
    have : Dt.tup ys = Dt.tup xs := e
    injection this with this
    subst this
    simp only [Rep] at r
    obtain ⟨a, vs, h1, h2, h3⟩ := r
    exact ⟨a, vs, h1, .inl (.inl h2), h3⟩
  | ktup ys =>
    have : Dt.tup ys = Dt.tup xs := e
    injection this with this
    subst this
    simp only [Rep] at r
    exact r
  | ref k =>
    obtain ⟨a, cl, h1, h2, h3, h4⟩ := g.ref_ r
    have e' : (match s[k]? with
      | some (.lst ds) => Dt.lst ds
      | some (.dct t kvs) => .dct t kvs
      | some (.ins x fs) => .obj x fs
      | some (.froz d) => d
      | none => .ref k) = .tup xs := e
    rw [h3] at e'
    cases cl with
    | froz d =>
      have e2 : d = .tup xs := e'
      subst e2
      have q := h4.1
      simp only [Rep] at q
      obtain ⟨a', vs, p1, p2, p3⟩ := q
      cases p1
      exact ⟨a, vs, h1, .inl (.inl p2), p3⟩
    | lst _ => cases e'
    | dct _ _ => cases e'
    | ins _ _ => cases e'
  | _ => cases e
theorem pdi_tup (h : PD X W e d) : PDI X W t e (iTup d) := ⟨(pi_tup h.pe).of fun σ H R ⟨env, s, w, sr, g, h⟩ => ⟨env, s, w, sr, g, Aft.bind h fun x s1 w1 v H1 _ l1 g1 r1 h1 => by
  split at h1
  · rename_i xs ek
    obtain ⟨a, vs, ea, hq, rs⟩ := isTup_frz g1 r1 ek
    refine ⟨a, ea, ⟨vs, g1.sqT hq⟩, h1.now g1 ?_⟩
    intro w' H s l g i
    have hq' := g.sqT (SqT.up l.G hq)
    have rs' := rs.up l
    refine ⟨fun hi d e => ?_, fun hi e => ?_⟩
    · unfold itT at e
      simp only at e
      rw [if_pos (show i < xs.length from hi)] at e
      obtain ⟨y, ey, ry⟩ := rs'.get e
      refine ⟨⟨vs, y, hq', ey⟩, ?_⟩
      rintro z H' ⟨rfl, hz⟩
      have := hz vs hq'
      rw [ey] at this
      cases this
      exact ⟨w', Le.refl w', g, ry⟩
    · have h2 : i = xs.length := hi
      exact ⟨vs, hq', by rw [← rs.length]; omega⟩
  · exact h1.elim⟩⟩
/-- range -/
def itR (lo : Int) (n : Nat) : DIt := ⟨n, fun i _ => some (.int (lo + i))⟩
def rngB (j : Int) : Bool := decide (-(2 ^ 62) ≤ j) && decide (j < 2 ^ 62)
theorem rngB_ok {j : Int} (h : rngB j = true) : -(2 ^ 62) ≤ j ∧ j < 2 ^ 62 := by
  obtain ⟨h1, h2⟩ := Bool.and_eq_true_iff.mp h
  exact ⟨of_decide_eq_true h1, of_decide_eq_true h2⟩
def iR1 (dr : DA) : DI := fun env s => (dr env s).bind fun ds s => match ds with
  | [.int j] => if rngB j = true then .ok (itR 0 j.toNat) s else .bad
  | _ => .bad
def iR2 (dr : DA) : DI := fun env s => (dr env s).bind fun ds s => match ds with
  | [.int i, .int j] => if rngB i = true ∧ rngB j = true then .ok (itR i (j - i).toNat) s else .bad
  | _ => .bad
theorem itR_ok {w : Wd} {lo : Int} {n : Nat} : ItOk c (Itr lo n) (itR lo n) w := by
  intro w' H s l g i
  refine ⟨fun hi d e => ⟨hi, ?_⟩, fun hi e => Nat.le_of_eq hi.symm⟩
  cases e
  rintro z H' ⟨rfl, rfl⟩
  exact ⟨w', Le.refl w', g, by simp only [Rep]⟩
theorem pdi_r1 (h : PDA X W [e] dr) (hm : X.mg "range" = none) (hg : Gl X "range" := by rfl) (hs : starEach [e] X.env = [(false, eval e X.env)] := by rfl) : PDI X W t (.Call (.Name "range" p) [e] [] pos) (iR1 dr) := ⟨(pi_range1 hg hm h.pa hs).of fun σ H R ⟨env, s, w, sr, g, h⟩ => ⟨env, s, w, sr, g, Aft.bind h fun x s1 w1 v H1 er l1 g1 r1 h1 => by
  split at h1
  · rename_i j
    split at h1
    · rename_i hj
      obtain ⟨u, rfl, ru⟩ := reps1 r1
      simp only [Rep] at ru
      subst ru
      exact ⟨j, rfl, (rngB_ok hj).1, (rngB_ok hj).2, h1.now g1 itR_ok⟩
    · exact h1.elim
  · exact h1.elim⟩⟩
theorem pdi_r2 (h : PDA X W [e, e2] dr) (hm : X.mg "range" = none) (hg : Gl X "range" := by rfl) (hs : starEach [e, e2] X.env = [(false, eval e X.env), (false, eval e2 X.env)] := by rfl) (hs2 : starEach [e2] X.env = [(false, eval e2 X.env)] := by rfl) : PDI X W t (.Call (.Name "range" p) [e, e2] [] pos) (iR2 dr) := ⟨(pi_range2 hg hm h.pa hs hs2).of fun σ H R ⟨env, s, w, sr, g, h⟩ => ⟨env, s, w, sr, g, Aft.bind h fun x s1 w1 v H1 er l1 g1 r1 h1 => by
  split at h1
  · rename_i i j
    split at h1
    · rename_i hj
      obtain ⟨u, u', rfl, ru, ru'⟩ := reps2 r1
      simp only [Rep] at ru ru'
      subst ru ru'
      exact ⟨i, j, rfl, ⟨(rngB_ok hj.1).1, (rngB_ok hj.1).2, (rngB_ok hj.2).1, (rngB_ok hj.2).2⟩, h1.now g1 itR_ok⟩
    · exact h1.elim
  · exact h1.elim⟩⟩
/-- the signs of a text -/
def itS (x : Str) : DIt := ⟨x.cps.size, fun i _ => if h : i < x.cps.size then some (.str ⟨#[x.cps[i]]⟩) else some .non⟩
def iStr (d : DE) : DI := fun env s => (d env s).bind fun x s => match x with
  | .str z => .ok (itS z) s
  | _ => .bad
theorem pdi_str (h : PD X W e d) : PDI X W t e (iStr d) := ⟨(pi_str h.pe).of fun σ H R ⟨env, s, w, sr, g, h⟩ => ⟨env, s, w, sr, g, Aft.bind h fun x s1 w1 v H1 er l1 g1 r1 h1 => by
  split at h1
  · rename_i z
    simp only [Rep] at r1
    refine ⟨z, r1, h1.now g1 ?_⟩
    intro w' H s l g i
    refine ⟨fun hi d e => ⟨hi, ?_⟩, fun hi e => Nat.le_of_eq hi.symm⟩
    unfold itS at e
    simp only at e
    rw [dif_pos (show i < z.cps.size from hi)] at e
    cases e
    rintro y H' ⟨rfl, k, hk, rfl⟩
    rw [Array.getElem?_eq_getElem hi] at hk
    cases hk
    exact ⟨w', Le.refl w', g, by simp only [Rep, itS]; rfl⟩
  · exact h1.elim⟩⟩
/-- enumerate of a list -/
def itE (d : Dt) (n : Nat) : DIt := ⟨n, fun i s => if i < n then ((itL d n).at_ i s).map fun x => .tup [.int i, x] else (itL d n).at_ i s⟩
def iEn (dr : DA) : DI := fun env s => (dr env s).bind fun ds s => match ds with
  | [x] => (match pk s x with
    | .lst xs => .ok (itE x xs.length) s
    | _ => .bad)
  | _ => .bad
theorem at_lst {w : Wd} {H : Hp} {s : S} {x : Dt} {a : Addr} {n i : Nat} {d : Dt} (g : Good c w H s) (r : Rep c w x (.ref a)) (e : (itL x n).at_ i s = some d) : ∃ vs, SqL c.K H a vs ∧ vs.length = n ∧ (i < n → ∃ v, vs[i]? = some v ∧ Rep c w d v) := by
  unfold itL at e
  simp only at e
  split at e
  · rename_i xs ek
    split at e
    · rename_i hn
      obtain ⟨a', vs, ea, hq, rs⟩ := g.isLst r ek
      cases ea
      refine ⟨vs, hq, by rw [← rs.length]; exact hn, fun hi => ?_⟩
      rw [if_pos hi] at e
      exact rs.get e
    · cases e
  · cases e
theorem reps_two {w : Wd} {d d' : Dt} {v v' : V} (r : Rep c w d v) (r' : Rep c w d' v') : Reps c w [d, d'] [v, v'] := by
  simp only [Reps]
  exact ⟨v, [v'], rfl, r, v', [], rfl, r', rfl⟩
theorem pdi_enum {ts : List Expr} {kk : Nat} {tp : Pos} (h : PDA X W [e] dr) (hm : X.mg "enumerate" = none) (hg : Gl X "enumerate" := by rfl) (hs : starEach [e] X.env = [(false, eval e X.env)] := by rfl) : PDI X W (.Tuple ts kk tp) (.Call (.Name "enumerate" p) [e] [] pos) (iEn dr) := ⟨(pi_enum hg hm h.pa hs).of fun σ H R ⟨env, s, w, sr, g, h⟩ => ⟨env, s, w, sr, g, Aft.bind h fun x s1 w1 v H1 _ l1 g1 r1 h1 => by
  split at h1
  · rename_i x
    split at h1
    · rename_i xs ek
      obtain ⟨u, rfl, ru⟩ := reps1 r1
      obtain ⟨a, vs, rfl, hq, rs⟩ := g1.isLst ru ek
      refine ⟨a, vs, rfl, hq, h1.now g1 ?_⟩
      intro w' H s l g i
      refine ⟨fun hi d e => ?_, fun hi e => ?_⟩
      · unfold itE at e
        simp only at e
        rw [if_pos (show i < xs.length from hi)] at e
        obtain ⟨d', e', rfl⟩ := Option.map_eq_some_iff.mp e
        obtain ⟨us, h2, h3, h4⟩ := at_lst g (ru.up l) e'
        obtain ⟨y, ey, ry⟩ := h4 hi
        refine ⟨⟨us, y, h2, ey⟩, ?_⟩
        rintro z H' ⟨T, y', rfl, hT, rfl, hz⟩
        have := hz us h2
        rw [ey] at this
        cases this
        have rr : Reps (ct X) w' [.int (i : Nat), d'] [.int ((i : Nat) : Int), y] := reps_two (by simp only [Rep]) ry
        obtain ⟨l3, g3, r3⟩ := g.newTup hT rr
        exact ⟨_, l3, g3, r3⟩
      · have h2 : i = xs.length := hi
        unfold itE at e
        simp only at e
        rw [if_neg (by omega)] at e
        obtain ⟨d', e'⟩ := Option.isSome_iff_exists.mp e
        obtain ⟨us, h3, h4, _⟩ := at_lst g (ru.up l) e'
        exact ⟨us, h3, by omega⟩
    · exact h1.elim
  · exact h1.elim⟩⟩
/-- zip of two lists, or of two tuples -/
def itZ (x y : Dt) (n m : Nat) : DIt := ⟨min n m, fun i s => if i < min n m then (match (itL x n).at_ i s, (itL y m).at_ i s with
    | some a, some b => some (.tup [a, b])
    | _, _ => none) else (match (itL x n).at_ i s, (itL y m).at_ i s with
    | some a, some b => some .non
    | _, _ => none)⟩
def itZT (xs ys : List Dt) : DIt := ⟨min xs.length ys.length, fun i s => if i < min xs.length ys.length then (match xs[i]?, ys[i]? with
    | some a, some b => some (.tup [a, b])
    | _, _ => none) else some .non⟩
def iZip (dr : DA) : DI := fun env s => (dr env s).bind fun ds s => match ds with
  | [x, y] => (match pk s x, pk s y with
    | .lst xs, .lst ys => .ok (itZ x y xs.length ys.length) s
    | .tup xs, .tup ys => .ok (itZT xs ys) s
    | _, _ => .bad)
  | _ => .bad
theorem pdi_zip {ts : List Expr} {kk : Nat} {tp : Pos} (h : PDA X W [e, e2] dr) (hm : X.mg "zip" = none) (hg : Gl X "zip" := by rfl) (hs : starEach [e, e2] X.env = (false, eval e X.env) :: starEach [e2] X.env := by rfl) (hpl : (backTo pos (starEach [e2] X.env)).any (·.1) = false := by rfl) : PDI X W (.Tuple ts kk tp) (.Call (.Name "zip" p) [e, e2] [] pos) (iZip dr) := ⟨(RZ.pi_zipA hg hm h.pa hs hpl).of fun σ H R ⟨env, s, w, sr, g, h⟩ => ⟨env, s, w, sr, g, Aft.bind h fun x s1 w1 v H1 _ l1 g1 r1 h1 => by
  split at h1
  · rename_i x y
    obtain ⟨u, u', rfl, ru, ru'⟩ := reps2 r1
    split at h1
    · rename_i xs ys ek ek'
      obtain ⟨a, vs, rfl, hq, rs⟩ := g1.isLst ru ek
      obtain ⟨b, us, rfl, kq, ks⟩ := g1.isLst ru' ek'
      refine ⟨a, b, vs, us, rfl, .inl ⟨hq, kq, h1.now g1 ?_⟩⟩
      intro w' H s l g i
      refine ⟨fun hi d e => ?_, fun hi e => ?_⟩
      · have hi' : i < min xs.length ys.length := hi
        unfold itZ at e
        simp only at e
        rw [if_pos hi'] at e
        split at e
        · rename_i da db e1 e2
          cases e
          obtain ⟨v1, h2, h3, h4⟩ := at_lst g (ru.up l) e1
          obtain ⟨v2, k2, k3, k4⟩ := at_lst g (ru'.up l) e2
          obtain ⟨y1, ey, ry⟩ := h4 (by omega)
          obtain ⟨y2, ez, rz⟩ := k4 (by omega)
          refine ⟨⟨v1, v2, y1, y2, h2, k2, ey, ez⟩, ?_⟩
          rintro z H' ⟨T, z1, z2, rfl, hT, rfl, hz1, hz2⟩
          have t1 := hz1 v1 h2
          have t2 := hz2 v2 k2
          rw [ey] at t1
          rw [ez] at t2
          cases t1
          cases t2
          obtain ⟨l3, g3, r3⟩ := g.newTup hT (reps_two ry rz)
          exact ⟨_, l3, g3, r3⟩
        · cases e
      · have h2 : i = min xs.length ys.length := hi
        unfold itZ at e
        simp only at e
        rw [if_neg (by omega)] at e
        split at e
        · rename_i da db e1 e2
          obtain ⟨v1, h3, h4, _⟩ := at_lst g (ru.up l) e1
          obtain ⟨v2, k3, k4, _⟩ := at_lst g (ru'.up l) e2
          exact ⟨v1, v2, h3, k3, by omega⟩
        · cases e
    · rename_i xs ys ek ek'
      obtain ⟨a, vs, rfl, hq, rs⟩ := isTup_frz g1 ru ek
      obtain ⟨b, us, rfl, kq, ks⟩ := isTup_frz g1 ru' ek'
      refine ⟨a, b, vs, us, rfl, .inr ⟨g1.sqT hq, g1.sqT kq, h1.now g1 ?_⟩⟩
      intro w' H s l g i
      have hq' := g.sqT (SqT.up l.G hq)
      have kq' := g.sqT (SqT.up l.G kq)
      have rs' := rs.up l
      have ks' := ks.up l
      refine ⟨fun hi d e => ?_, fun hi e => ?_⟩
      · have hi' : i < min xs.length ys.length := hi
        unfold itZT at e
        simp only at e
        rw [if_pos hi'] at e
        split at e
        · rename_i da db e1 e2
          cases e
          obtain ⟨y1, ey, ry⟩ := rs'.get e1
          obtain ⟨y2, ez, rz⟩ := ks'.get e2
          refine ⟨⟨vs, us, y1, y2, hq', kq', ey, ez⟩, ?_⟩
          rintro z H' ⟨T, z1, z2, rfl, hT, rfl, hz1, hz2⟩
          have t1 := hz1 vs hq'
          have t2 := hz2 us kq'
          rw [ey] at t1
          rw [ez] at t2
          cases t1
          cases t2
          obtain ⟨l3, g3, r3⟩ := g.newTup hT (reps_two ry rz)
          exact ⟨_, l3, g3, r3⟩
        · cases e
      · have h2 : i = min xs.length ys.length := hi
        refine ⟨vs, us, hq', kq', ?_⟩
        have h3 := rs.length
        have h4 := ks.length
        omega
    · exact h1.elim
  · exact h1.elim⟩⟩
end
end D
end

section
set_option maxHeartbeats 4000000
namespace D
open PySem L2
/-- no exception is let out -/
def WNo : WX := fun _ _ _ _ => False
def wipeD (env : Env) : List Nat → Env
  | [] => env
  | v :: vs => (wipeD env vs).set v none
theorem wipeD_length (env : Env) : ∀ vs : List Nat, (wipeD env vs).length = env.length
  | [] => rfl
  | v :: vs => by unfold wipeD; rw [List.length_set, wipeD_length env vs]
theorem wipe_get (σ : L2.St) : ∀ (vs : List Nat) (i : Nat), (wipe σ vs)[i]? = if i ∈ vs ∧ i < σ.length then some none else σ[i]?
  | [], i => by simp [wipe]
  | v :: vs, i => by
    unfold wipe
    by_cases h : v = i
    · subst h
      by_cases hl : v < σ.length
      · rw [List.getElem?_set_self (by rw [wipe_length]; exact hl), if_pos ⟨List.mem_cons_self, hl⟩]
      · rw [List.getElem?_eq_none (by rw [List.length_set, wipe_length]; omega), if_neg (fun z => hl z.2), List.getElem?_eq_none (by omega)]
    · rw [List.getElem?_set_ne h, wipe_get σ vs i]
      have : (i ∈ v :: vs) ↔ i ∈ vs := by
        rw [List.mem_cons]
        exact ⟨fun z => z.elim (fun y => absurd y.symm h) id, .inr⟩
      simp only [this]
theorem wipeD_get (σ : Env) : ∀ (vs : List Nat) (i : Nat), (wipeD σ vs)[i]? = if i ∈ vs ∧ i < σ.length then some none else σ[i]?
  | [], i => by simp [wipeD]
  | v :: vs, i => by
    unfold wipeD
    by_cases h : v = i
    · subst h
      by_cases hl : v < σ.length
      · rw [List.getElem?_set_self (by rw [wipeD_length]; exact hl), if_pos ⟨List.mem_cons_self, hl⟩]
      · rw [List.getElem?_eq_none (by rw [List.length_set, wipeD_length]; omega), if_neg (fun z => hl z.2), List.getElem?_eq_none (by omega)]
    · rw [List.getElem?_set_ne h, wipeD_get σ vs i]
      have : (i ∈ v :: vs) ↔ i ∈ vs := by
        rw [List.mem_cons]
        exact ⟨fun z => z.elim (fun y => absurd y.symm h) id, .inr⟩
      simp only [this]
theorem SR.wipe {c : Ct} {w : Wd} {env : Env} {σ : L2.St} (h : SR c w env σ) (vs : List Nat) : SR c w (wipeD env vs) (L2.wipe σ vs) := by
  refine ⟨by rw [wipeD_length, wipe_length]; exact h.len, fun i d e => ?_⟩
  rw [wipeD_get] at e
  rw [wipe_get]
  split at e
  · cases e
  · rename_i hn
    rw [if_neg (by rw [← h.len]; exact hn)]
    exact h.at_ i d e
theorem wipe_but {σ σ' : L2.St} {is vs : List Nat} (h : But is (wipe σ vs) σ') (hs : ∀ i ∈ is, i ∈ vs) : wipe σ' vs = wipe σ vs := by
  have hl : σ'.length = σ.length := by rw [h.1, wipe_length]
  apply List.ext_getElem?
  intro i
  rw [wipe_get, wipe_get, hl]
  by_cases hi : i ∈ vs ∧ i < σ.length
  · rw [if_pos hi, if_pos hi]
  · rw [if_neg hi, if_neg hi]
    by_cases hv : i ∈ is
    · have h1 : ¬ i < σ.length := fun z => hi ⟨hs i hv, z⟩
      rw [List.getElem?_eq_none (by omega), List.getElem?_eq_none (by omega)]
    · rw [h.2 i hv, wipe_get, if_neg hi]
def runLc (j : DIt) (g : DG) (tt : DT) (te : DE) (k0 : Nat) (env : Env) : Nat → S → Option S
  | 0, s => if (j.at_ j.n s).isSome = true then some s else none
  | m + 1, s => match j.at_ (j.n - (m + 1)) s with
    | none => none
    | some x => match g x env s with
      | none => none
      | some env1 => match tt env1 s with
        | .ok true s => (match te env1 s with
          | .ok y s => (match s[k0]? with
            | some (.lst acc) => if acc.length < sizeLine then runLc j g tt te k0 env m (s.set k0 (.lst (acc ++ [y]))) else none
            | _ => none)
          | _ => none)
        | .ok false s => runLc j g tt te k0 env m s
        | _ => none
def dYes : DT := fun _ s => .ok true s
/-- the comprehension's list, a cell -/
def lcC (di : DI) (g : DG) (tt : DT) (te : DE) (vs : List Nat) : DE := fun env s => (di env s).bind fun j s1 => match runLc j g tt te s1.length (wipeD env vs) j.n (s1 ++ [.lst []]) with
  | some s2 => .ok (.ref s1.length) s2
  | none => .bad
/-- .. frozen -/
noncomputable def lcF (di : DI) (g : DG) (tt : DT) (te : DE) (vs : List Nat) : DE := fun env s => (di env s).bind fun j s1 => match runLc j g tt te s1.length (wipeD env vs) j.n (s1 ++ [.lst []]) with
  | some s2 => (match s2[s1.length]? with
    | some (.lst acc) => cutR s1 (.ok (.lst acc) (s2.set s1.length (.froz (.lst acc))))
    | _ => .bad)
  | none => .bad
structure PDTs (X : Cx) (W : WX) (es : List Expr) (d : DT) : Prop where
  pts : PTs X es (liftT (ct X) W d)
theorem _root_.L2.PTs.of {X : Cx} {e : List Expr} {t t' : TT} (h : PTs X e t) (i : ∀ σ H Q, t' σ H Q → t σ H Q) : PTs X e t' := ⟨fun pins s σ H Q I q => h.run pins s σ H Q I (i σ H Q q)⟩
section
variable {X : Cx} {W : WX} {t e elt : Expr} {ifs : List Expr} {di : DI} {g : DG} {is : List Nat} {tt : DT} {te : DE}
theorem dts_nil : PDTs X W [] dYes := ⟨pts_nil.of fun σ H Q ⟨env, s, w, sr, g, h⟩ => h.now (β := Bool) (v := true) g rfl⟩
theorem dts_one {c : Expr} {d : DT} (h : PDT X W c d) : PDTs X W [c] d := ⟨pts_one h.pt⟩
theorem lc_run {c : Ct} {σ : L2.St} {env : Env} {w1 : Wd} {H1 : Hp} {s1 s2 : S} {j : DIt} {J : It} {Q : VK} {vs : List Nat} (sr : SR c w1 env σ) (g1 : Good c w1 H1 s1) (ok : ItOk c J j w1) (hs : ∀ i ∈ is, i ∈ vs)
    (e : runLc j g tt te s1.length (wipeD env vs) j.n (s1 ++ [.lst []]) = some s2)
    (q : ∀ D w2 H2, Le w1 w2 → Good c w2 H2 s2 → w2.ρ[s1.length]? = some D → Q (.ref D) H2) :
    ∀ D, H1 D = none → ∃ W : Nat → Nat → Hp → Prop, (∃ m, W 0 m (upd H1 D (.lst []))) ∧ ∀ i m H, W i m H →
  (J.stop i H ∧ Q (.ref D) H) ∨ (J.go i H ∧ ∃ Nx : Hp → Prop, (∀ H', Nx H' → ∃ m', m' < m ∧ W (i + 1) m' H') ∧ ∀ x H', J.yld i H x H' → (∃ dx env s w env', SR c w env (wipe σ vs) ∧ Good c w H' s ∧ Rep c w dx x ∧ g dx env s = some env' ∧ ∀ σ', But is (wipe σ vs) σ' → SR c w env' σ' → (wipe σ' vs = wipe σ vs ∧ liftT c WNo tt σ' H' fun b H3 =>
    if b = true then liftE c WNo te σ' H3 fun y H4 => ∃ acc, H4 D = some (.lst acc) ∧ acc.length < sizeLine ∧ Nx (upd H4 D (.lst (acc ++ [y]))) else Nx H3))) := by
  intro D hD
  obtain ⟨l2, g2, r2⟩ := g1.newLstC (ds := []) (vs := []) hD (by simp only [Reps])
  have hk : (w1.put D).ρ[s1.length]? = some D := by
    simp only [Rep] at r2
    obtain ⟨a, h1, h2⟩ := r2
    cases h2
    exact h1
  refine ⟨fun i m H => ∃ s w, Good c w H s ∧ Le (w1.put D) w ∧ i + m = j.n ∧ runLc j g tt te s1.length (wipeD env vs) m s = some s2, ⟨j.n, _, _, g2, Le.refl _, by omega, e⟩, ?_⟩
  rintro i m H ⟨s, w, gd, l, him, er⟩
  have it := ok w H s (l2.trans l) gd i
  have hkw := l.ρ _ _ hk
  cases m with
  | zero =>
    have hi : i = j.n := by omega
    unfold runLc at er
    split at er
    · rename_i hs'
      cases er
      exact .inl ⟨it.2 hi (by rw [hi]; exact hs'), q D w H (l2.trans l) gd hkw⟩
    · cases er
  | succ m =>
    have hi : i < j.n := by omega
    have hi2 : j.n - (m + 1) = i := by omega
    unfold runLc at er
    rw [hi2] at er
    cases ea : j.at_ i s with
    | none => rw [ea] at er; cases er
    | some x =>
      rw [ea] at er
      simp only at er
      obtain ⟨go, yl⟩ := it.1 hi x ea
      refine .inr ⟨go, fun H => ∃ s w, Good c w H s ∧ Le (w1.put D) w ∧ i + 1 + m = j.n ∧ runLc j g tt te s1.length (wipeD env vs) m s = some s2, fun H' h => ⟨m, Nat.lt_succ_self m, h⟩, fun v H' y => ?_⟩
      obtain ⟨w3, l3, g3, r3⟩ := yl v H' y
      cases eg : g x (wipeD env vs) s with
      | none => rw [eg] at er; cases er
      | some env1 =>
        rw [eg] at er
        simp only at er
        refine ⟨x, wipeD env vs, s, w3, env1, (((sr.up l2).up l).up l3).wipe vs, g3, r3, eg, fun σ' b' sr' => ⟨wipe_but b' hs, env1, s, w3, sr', g3, ?_⟩⟩
        have l13 := l.trans l3
        cases et : tt env1 s with
        | bad => rw [et] at er; cases er
        | exc x s' => rw [et] at er; cases er
        | ok b s4 =>
          rw [et] at er
          intro w4 b' H4 l4 g4 rb
          have rb' : b = b' := rb
          subst rb'
          cases b with
          | false => exact ⟨s4, w4, g4, l13.trans l4, by omega, er⟩
          | true =>
            rw [if_pos rfl]
            simp only at er
            refine ⟨env1, s4, w4, sr'.up l4, g4, ?_⟩
            cases ee : te env1 s4 with
            | bad => rw [ee] at er; cases er
            | exc x s' => rw [ee] at er; cases er
            | ok y s5 =>
              rw [ee] at er
              simp only at er
              intro w5 v5 H5 l5 g5 r5
              have l15 := (l13.trans l4).trans l5
              have hk5 := l15.ρ _ _ hk
              cases ec : s5[s1.length]? with
              | none => rw [ec] at er; cases er
              | some cl =>
                rw [ec] at er
                cases cl with
                | lst acc =>
                  simp only at er
                  split at er
                  · rename_i hz
                    obtain ⟨n5, vs5, h5, q5⟩ := g5.cell _ _ _ ec hk5
                    have hw := g5.write (o := .lst (vs5 ++ [v5])) (cl := .lst (acc ++ [y])) hk5 n5 (g5.cell_lk ec hk5 fun d z => by cases z) fun H' e' => ⟨n5, _, e', q5.append (Reps.one r5)⟩
                    exact ⟨vs5, h5, by rw [← q5.length]; exact hz, _, w5, hw, l15, by omega, er⟩
                  · cases er
                | _ => cases er
variable {scope : Scope} {own : List (Str × Nat)} {pos : Pos}
theorem pd_lcC (own : List (Str × Nat)) (hi : PDI X W t e di)
    (hg : ∀ (s : Shared) (H : Hp) (C : Addr) (cl : List (Str × Addr)) (fp : List Addr), PDG (X.blk s H scope (compEnvC scope cl C X.env) fp) t g is)
    (ht : ∀ (s : Shared) (H : Hp) (C : Addr) (cl : List (Str × Addr)) (fp : List Addr), PDTs (X.blk s H scope (compEnvC scope cl C X.env) fp) WNo ifs tt)
    (he : ∀ (s : Shared) (H : Hp) (C : Addr) (cl : List (Str × Addr)) (fp : List Addr), PD (X.blk s H scope (compEnvC scope cl C X.env) fp) WNo elt te)
    (ok : BlkOk X.N X.env.scope scope own := by exact blkOk_by (by decide +kernel)) (his : ∀ i ∈ is, i ∈ own.map (·.2) := by decide) (hN : X.N.Nodup := by assumption) (hc : X.calm = true := by rfl)
    (hs : ∀ x, foldedSetIterable e X.env x = pure x := by intro _; rfl) : PD X W (.ListComp elt [⟨t, e, ifs, 0⟩] scope pos) (lcC di g tt te (own.map (·.2))) := by
  refine ⟨(pe_lc (g := liftG (ct X) g is) (tt := liftT (ct X) WNo tt) (te := liftE (ct X) WNo te) hc hN hi.pi ok (fun s H C cl fp => (hg s H C cl fp).pg) (fun s H C cl fp => (ht s H C cl fp).pts) (fun s H C cl fp => (he s H C cl fp).pe) hs).of fun σ H Q ⟨env, s, w, sr, gd, h⟩ => ⟨env, s, w, sr, gd, Aft.bind h fun j s1 w1 J H1 _ l1 g1 r1 h1 => ?_⟩⟩
  cases er : runLc j g tt te s1.length (wipeD env (own.map (·.2))) j.n (s1 ++ [.lst []]) with
  | none => rw [er] at h1; exact h1.elim
  | some s2 =>
    rw [er] at h1
    exact lc_run (sr.up l1) g1 r1 his er fun D w2 H2 l2 g2 hk => h1.at_ l2 g2 (by simp only [Rep]; exact ⟨D, hk, rfl⟩)
theorem pd_lcF (own : List (Str × Nat)) (hi : PDI X W t e di)
    (hg : ∀ (s : Shared) (H : Hp) (C : Addr) (cl : List (Str × Addr)) (fp : List Addr), PDG (X.blk s H scope (compEnvC scope cl C X.env) fp) t g is)
    (ht : ∀ (s : Shared) (H : Hp) (C : Addr) (cl : List (Str × Addr)) (fp : List Addr), PDTs (X.blk s H scope (compEnvC scope cl C X.env) fp) WNo ifs tt)
    (he : ∀ (s : Shared) (H : Hp) (C : Addr) (cl : List (Str × Addr)) (fp : List Addr), PD (X.blk s H scope (compEnvC scope cl C X.env) fp) WNo elt te)
    (ok : BlkOk X.N X.env.scope scope own := by exact blkOk_by (by decide +kernel)) (his : ∀ i ∈ is, i ∈ own.map (·.2) := by decide) (hN : X.N.Nodup := by assumption) (hc : X.calm = true := by rfl)
    (hs : ∀ x, foldedSetIterable e X.env x = pure x := by intro _; rfl) : PD X W (.ListComp elt [⟨t, e, ifs, 0⟩] scope pos) (lcF di g tt te (own.map (·.2))) := by
  refine ⟨(pe_lc (g := liftG (ct X) g is) (tt := liftT (ct X) WNo tt) (te := liftE (ct X) WNo te) hc hN hi.pi ok (fun s H C cl fp => (hg s H C cl fp).pg) (fun s H C cl fp => (ht s H C cl fp).pts) (fun s H C cl fp => (he s H C cl fp).pe) hs).of fun σ H Q ⟨env, s, w, sr, gd, h⟩ => ⟨env, s, w, sr, gd, Aft.bind h fun j s1 w1 J H1 _ l1 g1 r1 h1 => ?_⟩⟩
  cases er : runLc j g tt te s1.length (wipeD env (own.map (·.2))) j.n (s1 ++ [.lst []]) with
  | none => rw [er] at h1; exact h1.elim
  | some s2 =>
    rw [er] at h1
    refine lc_run (sr.up l1) g1 r1 his er fun D w2 H2 l2 g2 hk => ?_
    simp only at h1
    cases ec : s2[s1.length]? with
    | none => rw [ec] at h1; exact h1.elim
    | some cl =>
      rw [ec] at h1
      cases cl with
      | lst acc =>
        simp only at h1
        obtain ⟨n5, vs5, h5, q5⟩ := g2.cell _ _ _ ec hk
        have l3 : Le w2 (w2.frz D (.lst vs5)) := Le.frz n5
        have r3 : Rep (ct X) (w2.frz D (.lst vs5)) (.lst acc) (.ref D) := by
          simp only [Rep]
          exact ⟨D, vs5, rfl, upd_same, q5.up l3⟩
        have g3 := g2.freeze hk n5 h5 r3
        exact (cutR_aft g1 h1).at_ (l2.trans l3) g3 r3
      | _ => exact h1.elim
end
end D
end

section
set_option maxHeartbeats 4000000
namespace D
open PySem L2
/-! ### a def by what it does to data -/
abbrev DF := List Dt → S → Res Dt
def bodyR (r : SRes) : Res Dt := match r with
  | .nx _ s => .ok .non s
  | .rt d s => .ok d s
  | .exc e _ s => .exc e s
  | _ => .bad
/-- nl slots, np parameters -/
def bodyF (nl np : Nat) (b : DS) : DF := fun ds s => if ds.length = np then bodyR (b (ds.map some ++ List.replicate (nl - np) none) s) else .bad
noncomputable def cutF (g : DF) : DF := fun ds s => cutR s (g ds s)
def FnSp (c : Ct) (n : Nat) (g : DF) : Sp := fun vs H Q E => ∃ ds s w, Good c w H s ∧ Reps c w ds vs ∧ ds.length = n ∧ Aft c (RD c) w [] (fun cls dd _ H => E cls dd H) (g ds s) Q
theorem FnSp.len {c : Ct} {n : Nat} {g : DF} : ∀ vs H Q E, FnSp c n g vs H Q E → vs.length = n := fun vs H Q E ⟨ds, s, w, _, r, e, _⟩ => by rw [← r.length]; exact e
abbrev XW (E : XK) : WX := fun cls dd _ H => E cls dd H
theorem aft_st {c : Ct} {w : Wd} {σ σ' : L2.St} {E : XK} {r : Res Dt} {Q : VK} (h : Aft c (RD c) w σ (XW E) r Q) : Aft c (RD c) w σ' (XW E) r Q := by
  cases r with
  | ok d s => exact h
  | exc e s => exact h
  | bad => exact h
theorem reps_start {c : Ct} {w : Wd} {ds : List Dt} {vs : List V} {N : List Str} (r : Reps c w ds vs) : SR c w (ds.map some ++ List.replicate (N.length - ds.length) none) (L2.start N vs) := by
  unfold L2.start
  rw [r.length]
  refine ⟨by simp [r.length], fun i d e => ?_⟩
  by_cases hi : i < ds.length
  · rw [List.getElem?_append_left (by simpa using hi)] at e
    rw [List.getElem?_append_left (by rw [List.length_map, ← r.length]; exact hi)]
    rw [List.getElem?_map] at e ⊢
    obtain ⟨d', e1, e2⟩ := Option.map_eq_some_iff.mp e
    cases e2
    obtain ⟨v, h1, h2⟩ := r.get e1
    exact ⟨v, by rw [h1]; rfl, h2⟩
  · rw [List.getElem?_append_right (by simp; omega), List.getElem?_replicate] at e
    split at e <;> cases e
section
variable {P : Program} {w : World} {K : PySem.W.Frag} {mg : Str → Option Value} {base : Heap}
/-- where a body is walked -/
abbrev CxB (P : Program) (w : World) (K : PySem.W.Frag) (mg : Str → Option Value) (base : Heap) (N : List Str) (qual : Str) (scope : Scope) (f : Addr) (cdv : Value) (A : Around) (outer : List PySem.Env) (s : Shared) (H : Hp) (E : XK) : Cx := cxOf (L2.CX P w) P w K mg base N qual scope f cdv A outer s H E
/-- what a call may let out is taken, at each state -/
abbrev Lets (X : Cx) (W : WX) : Prop := ∀ σ, PassesAt (L2.CX X.prog X.w) X σ (WE W σ)
theorem lets_no {X : Cx} : Lets X WNo := by
  intro σ pins H s e s' I c
  obtain ⟨a, B, H', cls, d, rest⟩ := c
  exact absurd rest (by intro z; simp [WE, WNo] at z)
theorem body_ok {nl : Nat} {c : Ct} {w1 : Wd} {E : XK} {r : SRes} {Q : VK} (h : Aft c (RD c) w1 [] (XW E) (bodyR r) Q) : AftS c w1 (XW E) r { nx := fun _ H' => Q .non H', rt := Q } := by
  cases r with
  | nx env s => exact fun w' σ' H' l sr g => h w' .non H' l g (by simp only [Rep])
  | rt d s => exact fun w' v H' l g x => h w' v H' l g x
  | exc e env s => exact fun w' σ' H' cls dd l sr g x => h w' H' cls dd l g x
  | bk env s => exact h.elim
  | ct env s => exact h.elim
  | bad => exact h.elim
/-- the rule for a def -/
theorem fnD_of {x qual : Str} {st : Stmt} {f : Addr} {fd : FuncData} {N ps : List Str} {k : Nat} {b : DS} (F : L2.Fun K x qual st f fd) (S : FnScope N ps (defScope st))
    (hbody : ∀ (cdv : Value) (A : Around) (outer : List PySem.Env) (s : Shared) (H : Hp) (E : XK), Room k (CxB P w K mg base N qual (defScope st) f cdv A outer s H E).A → Takes (CxB P w K mg base N qual (defScope st) f cdv A outer s H E) (XW E) →
      PassesOwn (model P w) (CxB P w K mg base N qual (defScope st) f cdv A outer s H E).A (CxB P w K mg base N qual (defScope st) f cdv A outer s H E).env (CxB P w K mg base N qual (defScope st) f cdv A outer s H E).xe →
      PDSs (CxB P w K mg base N qual (defScope st) f cdv A outer s H E) (XW E) (defBody st) b) : FnOk P w K mg base (L2.CX P w) (k + 1) f fd ps (FnSp ⟨K, mg⟩ ps.length (cutF (bodyF N.length ps.length b))) := by
  refine F.okX S (FnSp.len) fun cdv A outer s H vs Q E hr hsp => ?_
  obtain ⟨ds, st', w', g, r, hl, h⟩ := hsp
  refine ⟨_, (hbody cdv A outer s H E hr (takes_of rfl rfl rfl rfl) (passes_of rfl)).pss, ?_⟩
  have h1 : Aft ⟨K, mg⟩ (RD ⟨K, mg⟩) w' [] (XW E) (bodyF N.length ps.length b ds st') Q := cutR_aft g h
  unfold bodyF at h1
  rw [if_pos hl] at h1
  have sr := reps_start (N := N) r
  rw [hl] at sr
  exact ⟨_, st', w', sr, g, body_ok (nl := 0) h1⟩
end
/-! ### calls of defs -/
/-- a def of the module, by its name: n arguments -/
def FnG (P : Program) (w : World) (K : PySem.W.Frag) (mg : Str → Option Value) (base : Heap) (k : Nat) (x : Str) (n : Nat) (g : DF) : Prop :=
  ∃ f fd ps, mg x = some (.ref f) ∧ PySem.W.keepIn K (.ref f) = true ∧ ps.length = n ∧ Binds K fd ps [] ∧ FnOk P w K mg base (L2.CX P w) k f fd ps (FnSp ⟨K, mg⟩ n g)
def dFn (n : Nat) (g : DF) (a : DA) : DE := fun env s => (a env s).bind fun ds s => if ds.length = n then g ds s else .bad
section
variable {X : Cx} {W : WX} {k j n : Nat} {x : Str} {p pos : Pos} {e : Expr} {es : List Expr} {g : DF} {dr : DA}
theorem aft_E {c : Ct} {w : Wd} {σ σ' : L2.St} {r : Res Dt} {Q : VK} (h : Aft c (RD c) w σ W r Q) : Aft c (RD c) w σ' (fun cls dd _ H => WE W σ cls dd H) r Q := by
  cases r with
  | ok d s => exact h
  | exc e s => exact h
  | bad => exact h
theorem pd_fn (G : FnG X.prog X.w X.K X.mg X.base j x n g) (hr : Room k X.A) (lt : Lets X W) (ha : PDA X W (e :: es) dr) (hj : j ≤ k := by first | decide | exact Nat.le_refl _ | omega) (hg : Gl X x := by rfl) (hdb : (x == ("__debug__" : Str)) = false := by decide)
    (he : starEach (e :: es) X.env = (false, eval e X.env) :: starEach es X.env := by rfl) (hpl : (backTo pos (starEach es X.env)).any (·.1) = false := by rfl) : PD X W (.Call (.Name x p) (e :: es) [] pos) (dFn n g dr) := by
  obtain ⟨f, fd, ps, hm, hk, hn, hb, F⟩ := G
  refine ⟨(pe_callS F (hr.mono hj) hg hm hk hb lt ha.pa hdb he hpl).of fun σ H Q ⟨env, s, w, sr, gd, h⟩ => ⟨env, s, w, sr, gd, Aft.bind h fun ds s1 w1 vs H1 _ l1 g1 r1 h1 => ?_⟩⟩
  by_cases hd : ds.length = n
  · rw [if_pos hd] at h1
    exact ⟨ds, s1, w1, g1, r1, hd, aft_E h1⟩
  · rw [if_neg hd] at h1
    exact h1.elim
/-- without arguments -/
theorem pd_fn0 (G : FnG X.prog X.w X.K X.mg X.base j x 0 g) (hr : Room k X.A) (lt : Lets X W) (hj : j ≤ k := by first | decide | exact Nat.le_refl _ | omega) (hg : Gl X x := by rfl) (hdb : (x == ("__debug__" : Str)) = false := by decide) : PD X W (.Call (.Name x p) [] [] pos) (fun _ s => g [] s) := by
  obtain ⟨f, fd, ps, hm, hk, hn, hb, F⟩ := G
  refine ⟨⟨fun pins sh σ H Q I ⟨env, s, w, sr, gd, h⟩ => ?_⟩⟩
  refine wpAny_Call_Name_kw (ld_glob I hg hm ?_ hdb)
  refine PySem.W.callWith_K0 I.kIn hk ?_
  exact run_fnS (us := []) (vs := []) (E := WE W) F (hr.mono hj) hb (lt σ) I .nil ⟨[], s, w, gd, by simp only [Reps], rfl, aft_E h⟩
end
/-! ### builtins -/
section
variable {X : Cx} {W : WX} {pos p : Pos} {e o : Expr} {es : List Expr} {d d2 : DE} {dr : DA}
theorem callp_len : CallP X (.builtin "len") fLen := by
  intro pins sh σ H xs us Q I r h
  obtain ⟨ds, dz, s, w, g, rs, e, q⟩ := h
  unfold fLen at e
  split at e
  · rename_i d
    obtain ⟨v, rfl, rv⟩ := reps1 rs
    split at e
    · rename_i ys ek
      cases e
      obtain ⟨a, vs, rfl, hq, rr⟩ := g.isLst rv ek
      exact call_len_seq pins sh σ H _ us Q I r ⟨a, vs, rfl, .inl hq, by rw [← rr.length]; exact q w _ H (Le.refl w) g (by simp only [Rep])⟩
    · rename_i ys ek
      cases e
      obtain ⟨a, vs, rfl, hq, rr⟩ := g.isTup rv ek
      exact call_len_seq pins sh σ H _ us Q I r ⟨a, vs, rfl, .inr hq, by rw [← rr.length]; exact q w _ H (Le.refl w) g (by simp only [Rep])⟩
    · rename_i z ek
      split at e
      · rename_i hz
        cases e
        have := pk_str g rv ek
        subst this
        exact call_len_str pins sh σ H _ us Q I r ⟨z, rfl, hz, q w _ H (Le.refl w) g (by simp only [Rep])⟩
      · cases e
    · rename_i t kvs ek
      cases e
      obtain ⟨a, rfl, da⟩ := g.isDct rv ek
      obtain ⟨u, rfl, ru⟩ := vals1 r
      obtain rfl : u = .ref a := ru
      exact len_dct I da fun tk s' I' => ⟨.int kvs.length, H, I', ⟨tk, rfl⟩, q w _ H (Le.refl w) g (by simp only [Rep])⟩
    · cases e
  · cases e
def fIntC : PF := fun ds _ => match ds with
  | [.int i] => some (.int i)
  | [.bl b] => some (.int (if b = true then 1 else 0))
  | _ => none
theorem callp_int : CallP X (.type "int") fIntC := by
  intro pins sh σ H xs us Q I r h
  obtain ⟨ds, dz, s, w, g, rs, e, q⟩ := h
  unfold fIntC at e
  split at e
  · cases e
    obtain ⟨v, rfl, rv⟩ := reps1 rs
    simp only [Rep] at rv
    exact call_int1 pins sh σ H _ us Q I r (.inl ⟨_, by rw [rv], q w _ H (Le.refl w) g (by simp only [Rep])⟩)
  · cases e
    obtain ⟨v, rfl, rv⟩ := reps1 rs
    simp only [Rep] at rv
    exact call_int1 pins sh σ H _ us Q I r (.inr ⟨_, by rw [rv], q w _ H (Le.refl w) g (by simp only [Rep])⟩)
  · cases e
def fAbs : PF := fun ds _ => match ds with
  | [.int i] => some (.int (if i < 0 then -i else i))
  | _ => none
theorem callp_abs : CallP X (.builtin "abs") fAbs := by
  intro pins sh σ H xs us Q I r h
  obtain ⟨ds, dz, s, w, g, rs, e, q⟩ := h
  unfold fAbs at e
  split at e
  · cases e
    obtain ⟨v, rfl, rv⟩ := reps1 rs
    simp only [Rep] at rv
    exact call_abs pins sh σ H _ us Q I r ⟨_, by rw [rv], q w _ H (Le.refl w) g (by simp only [Rep])⟩
  · cases e
/-- list(x) of a list or tuple -/
def fList : PFN := fun ds s => match ds with
  | [d] => (match pk s d with
    | .lst xs => some xs
    | .tup xs => some xs
    | _ => none)
  | _ => none
theorem calln_list : CallN X (.type "list") fList := by
  intro pins sh σ H xs us Q I r h
  obtain ⟨ds, dz, s, w, g, rs, e, q⟩ := h
  unfold fList at e
  split at e
  · rename_i d
    obtain ⟨v, rfl, rv⟩ := reps1 rs
    split at e
    · rename_i ys ek
      cases e
      obtain ⟨a, vs, rfl, hq, rr⟩ := g.isLst rv ek
      exact call_list_of pins sh σ H _ us Q I r ⟨a, vs, rfl, .inl hq, q w _ H (Le.refl w) g rr⟩
    · rename_i ys ek
      cases e
      obtain ⟨a, vs, rfl, hq, rr⟩ := g.isTup rv ek
      exact call_list_of pins sh σ H _ us Q I r ⟨a, vs, rfl, .inr hq, q w _ H (Le.refl w) g rr⟩
    · cases e
  · cases e
def bsOf : List Dt → Option (List Bool)
  | [] => some []
  | .bl b :: ds => (bsOf ds).map (b :: ·)
  | _ :: _ => none
theorem bsOf_rep {c : Ct} {w : Wd} : ∀ {ds : List Dt} {vs : List V} {bs : List Bool}, Reps c w ds vs → bsOf ds = some bs → vs = bs.map V.bl
  | [], vs, bs, r, e => by
    simp only [Reps] at r
    simp only [bsOf, Option.some.injEq] at e
    subst r e
    rfl
  | d :: ds, vs, bs, r, e => by
    simp only [Reps] at r
    obtain ⟨v, q, rfl, h1, h2⟩ := r
    cases d with
    | bl b =>
      simp only [bsOf] at e
      obtain ⟨bs', e1, rfl⟩ := Option.map_eq_some_iff.mp e
      simp only [Rep] at h1
      rw [h1, bsOf_rep h2 e1]
      rfl
    | _ => simp [bsOf] at e
def fAll : PF := fun ds s => match ds with
  | [d] => (match pk s d with
    | .lst xs => (bsOf xs).map fun bs => .bl (bs.all id)
    | _ => none)
  | _ => none
def fAny : PF := fun ds s => match ds with
  | [d] => (match pk s d with
    | .lst xs => (bsOf xs).map fun bs => .bl (bs.any id)
    | _ => none)
  | _ => none
theorem callp_all (hc : X.calm = true) : CallP X (.builtin "all") fAll := by
  intro pins sh σ H xs us Q I r h
  obtain ⟨ds, dz, s, w, g, rs, e, q⟩ := h
  unfold fAll at e
  split at e
  · rename_i d
    obtain ⟨v, rfl, rv⟩ := reps1 rs
    split at e
    · rename_i ys ek
      obtain ⟨bs, e1, rfl⟩ := Option.map_eq_some_iff.mp e
      obtain ⟨a, vs, rfl, hq, rr⟩ := g.isLst rv ek
      have := bsOf_rep rr e1
      subst this
      exact cr_all hc pins sh σ H _ us Q I r ⟨a, bs, rfl, hq, q w _ H (Le.refl w) g (by simp only [Rep])⟩
    · cases e
  · cases e
theorem callp_any (hc : X.calm = true) : CallP X (.builtin "any") fAny := by
  intro pins sh σ H xs us Q I r h
  obtain ⟨ds, dz, s, w, g, rs, e, q⟩ := h
  unfold fAny at e
  split at e
  · rename_i d
    obtain ⟨v, rfl, rv⟩ := reps1 rs
    split at e
    · rename_i ys ek
      obtain ⟨bs, e1, rfl⟩ := Option.map_eq_some_iff.mp e
      obtain ⟨a, vs, rfl, hq, rr⟩ := g.isLst rv ek
      have := bsOf_rep rr e1
      subst this
      exact cr_any hc pins sh σ H _ us Q I r ⟨a, bs, rfl, hq, q w _ H (Le.refl w) g (by simp only [Rep])⟩
    · cases e
  · cases e
/-! ### lists that are tracked -/
def tl (s : S) : Dt → Option (List Dt)
  | .lst ds => some ds
  | .ref k => (match s[k]? with
    | some (.lst ds) => some ds
    | some (.froz (.lst ds)) => some ds
    | _ => none)
  | _ => none
theorem Good.lstT {c : Ct} {w : Wd} {H : Hp} {s : S} {d : Dt} {v : V} {ds : List Dt} (g : Good c w H s) (r : Rep c w d v) (e : tl s d = some ds) : ∃ a vs, v = .ref a ∧ H a = some (.lst vs) ∧ Reps c w ds vs := by
  cases d with
  | lst xs =>
    simp only [tl, Option.some.injEq] at e
    subst e
    simp only [Rep] at r
    obtain ⟨a, vs, h1, h2, h3⟩ := r
    exact ⟨a, vs, h1, g.same h2 lst_nd, h3⟩
  | ref k =>
    obtain ⟨a, cl, h1, h2, h3, h4⟩ := g.ref_ r
    simp only [tl, h3] at e
    cases cl with
    | lst xs =>
      simp only [Option.some.injEq] at e
      subst e
      obtain ⟨_, vs, q1, q2⟩ := h4
      exact ⟨a, vs, h1, q1, q2⟩
    | froz d =>
      cases d with
      | lst xs =>
        simp only [Option.some.injEq] at e
        subst e
        obtain ⟨q, _⟩ := h4
        simp only [Rep] at q
        obtain ⟨a', vs, p1, p2, p3⟩ := q
        cases p1
        exact ⟨a, vs, h1, g.same p2 lst_nd, p3⟩
      | _ => simp at e
    | _ => simp at e
  | _ => simp [tl] at e
/-- two lists, one after the other -/
def nCat (a b : DE) : DN := fun env s => (a env s).bind fun x s => (b env s).bind fun y s => match tl s x, tl s y with
  | some xs, some ys => if xs.length + ys.length ≤ sizeLine then .ok (xs ++ ys) s else .bad
  | _, _ => .bad
theorem pdn_cat {a b : Expr} {da db : DE} (ha : PD X W a da) (hb : PD X W b db) : PDN X W (.BinOp a .Add b pos) (nCat da db) :=
  ⟨(pe_op op_cat ha.pe hb.pe).of fun σ H Q ⟨env, s, w, sr, g, h⟩ => ⟨env, s, w, sr, g, Aft.bind h fun x s1 w1 v1 H1 _ l1 g1 r1 h1 => ⟨env, s1, w1, sr.up l1, g1, Aft.bind h1 fun y s2 w2 v2 H2 _ l2 g2 r2 h2 => by
    cases ex : tl s2 x with
    | none => rw [ex] at h2; exact h2.elim
    | some xs =>
      cases ey : tl s2 y with
      | none => rw [ex, ey] at h2; exact h2.elim
      | some ys =>
        rw [ex, ey] at h2
        simp only at h2
        split at h2
        · rename_i hz
          obtain ⟨a, vs, rfl, q1, q2⟩ := g2.lstT (r1.up l2) ex
          obtain ⟨b, us, rfl, k1, k2⟩ := g2.lstT r2 ey
          exact ⟨a, b, vs, us, rfl, rfl, q1, k1, by rw [← q2.length, ← k2.length]; exact hz, h2.now g2 (q2.append k2)⟩
        · exact h2.elim⟩⟩⟩
/-- a list times a number -/
def nRep (a b : DE) : DN := fun env s => (a env s).bind fun x s => (b env s).bind fun y s => match tl s x, y with
  | some xs, .int k => if rngB k = true ∧ xs.length * k.toNat ≤ sizeLine then .ok (List.replicate k.toNat xs).flatten s else .bad
  | _, _ => .bad
theorem Reps.flat {c : Ct} {w : Wd} {ds : List Dt} {vs : List V} (r : Reps c w ds vs) : ∀ n, Reps c w (List.replicate n ds).flatten (List.replicate n vs).flatten
  | 0 => by simp only [List.replicate_zero, List.flatten_nil, Reps]
  | n + 1 => by
    rw [List.replicate_succ, List.replicate_succ, List.flatten_cons, List.flatten_cons]
    exact r.append (Reps.flat r n)
theorem pdn_rep {a b : Expr} {da db : DE} (ha : PD X W a da) (hb : PD X W b db) : PDN X W (.BinOp a .Mult b pos) (nRep da db) :=
  ⟨(pe_op op_rep ha.pe hb.pe).of fun σ H Q ⟨env, s, w, sr, g, h⟩ => ⟨env, s, w, sr, g, Aft.bind h fun x s1 w1 v1 H1 _ l1 g1 r1 h1 => ⟨env, s1, w1, sr.up l1, g1, Aft.bind h1 fun y s2 w2 v2 H2 _ l2 g2 r2 h2 => by
    cases ex : tl s2 x with
    | none => rw [ex] at h2; exact h2.elim
    | some xs =>
      rw [ex] at h2
      cases y with
      | int k =>
        simp only at h2
        split at h2
        · rename_i hz
          obtain ⟨a, vs, rfl, q1, q2⟩ := g2.lstT (r1.up l2) ex
          simp only [Rep] at r2
          have hk := rngB_ok hz.1
          exact ⟨a, k, vs, rfl, r2, q1, by omega, by omega, by rw [← q2.length]; exact hz.2, h2.now g2 (q2.flat _)⟩
        · exact h2.elim
      | _ => exact h2.elim⟩⟩⟩
/-! ### methods of lists -/
def dApp (d e : DE) : DE := fun env s => (d env s).bind fun x s => if (tl s x).isSome = true then (e env s).bind fun y s => (match x with
    | .ref k => (match s[k]? with
      | some (.lst xs) => if xs.length < sizeLine then .ok .non (s.set k (.lst (xs ++ [y]))) else .bad
      | _ => .bad)
    | _ => .bad) else .bad
theorem pd_app {apos : Pos} (ho : PD X W o d) (he : PD X W e d2) (hbase : attributeBase o "append" X.env (eval o X.env) = eval o X.env := by rfl)
    (hfew : ((backTo pos (starEach (e :: []) X.env)).all (fun x => !x.1) && (backToKw pos (keywordEach [] X.env)).all (fun x => x.1.isSome)
      && decide ((e :: []).length + ([] : List Keyword).length + (if ([] : List Keyword).isEmpty then 0 else 1) < 30)) = true := by rfl)
    (hline : (apos.endLine == pos.line) = true := by rfl) (hs : starEach (e :: []) X.env = (false, eval e X.env) :: starEach [] X.env := by rfl) (hplain : (backTo pos (starEach [] X.env)).any (·.1) = false := by rfl) : PD X W (.Call (.Attribute o "append" apos) [e] [] pos) (dApp d d2) := by
  refine ⟨(pe_bm PySem.F.plainAttrs_list PySem.F.slot_list_append PySem.F.type_list_append mt_append ho.pe (pda_cons he pda_nil hs).pa hbase hfew hline hs hplain).of fun σ H Q ⟨env, s, w, sr, g, h⟩ => ⟨env, s, w, sr, g, Aft.bind h fun x s1 w1 v1 H1 _ l1 g1 r1 h1 => ?_⟩⟩
  split at h1
  · rename_i hx
    obtain ⟨xs, ex⟩ := Option.isSome_iff_exists.mp hx
    obtain ⟨a, vs, rfl, q1, q2⟩ := g1.lstT r1 ex
    refine ⟨.inl ⟨rfl, vs, SqL.of q1⟩, env, s1, w1, sr.up l1, g1, ?_⟩
    have e1 : dCons d2 dNil env s1 = (d2 env s1).bind fun x s => .ok [x] s := rfl
    rw [e1]
    cases e2 : d2 env s1 with
    | bad => rw [e2] at h1; exact h1.elim
    | exc x s' => rw [e2] at h1; exact h1
    | ok y s2 =>
      rw [e2] at h1
      intro w2 us H2 l2 g2 r2
      obtain ⟨u, rfl, ru⟩ := reps1 r2
      have h2 := h1.up l2
      cases x with
      | ref k =>
        have h3 : Aft (ct X) (RD (ct X)) w2 σ W (match s2[k]? with
          | some (.lst xs) => if xs.length < sizeLine then .ok .non (s2.set k (.lst (xs ++ [y]))) else .bad
          | _ => .bad) Q := h2
        have r3 := r1.up l2
        simp only [Rep] at r3
        obtain ⟨a', k1, k2⟩ := r3
        cases k2
        cases ec : s2[k]? with
        | none => rw [ec] at h3; exact h3.elim
        | some cl =>
          rw [ec] at h3
          cases cl with
          | lst ys =>
            simp only at h3
            split at h3
            · rename_i hz
              obtain ⟨n5, vs5, h5, q5⟩ := g2.cell _ _ _ ec k1
              refine ⟨a, vs5, u, rfl, rfl, h5, by rw [← q5.length]; exact hz, ?_⟩
              have hw := g2.write (o := .lst (vs5 ++ [u])) (cl := .lst (ys ++ [y])) k1 n5 (g2.cell_lk ec k1 fun d z => by cases z) fun H' e' => ⟨n5, _, e', q5.append (Reps.one ru)⟩
              exact h3.now hw (by simp only [Rep])
            · exact h3.elim
          | _ => exact h3.elim
      | _ => exact h2.elim
  · exact h1.elim
def dPop (d : DE) : DE := fun env s => (d env s).bind fun x s => (match x with
    | .ref k => (match s[k]? with
      | some (.lst xs) => (match xs[xs.length - 1]? with
        | some y => .ok y (s.set k (.lst xs.dropLast))
        | none => .bad)
      | _ => .bad)
    | _ => .bad)
theorem Reps.dropLast {c : Ct} {w : Wd} {ds : List Dt} {vs : List V} (r : Reps c w ds vs) : Reps c w ds.dropLast vs.dropLast := by
  rw [List.dropLast_eq_take, List.dropLast_eq_take, r.length]
  exact r.take _
theorem pd_pop {apos : Pos} (ho : PD X W o d) (hbase : attributeBase o "pop" X.env (eval o X.env) = eval o X.env := by rfl) (hline : (apos.endLine == pos.line) = true := by rfl) : PD X W (.Call (.Attribute o "pop" apos) [] [] pos) (dPop d) := by
  refine ⟨(pe_bm0 PySem.F.plainAttrs_list PySem.F.slot_list_pop PySem.F.type_list_pop mt_pop ho.pe hbase hline).of fun σ H Q ⟨env, s, w, sr, g, h⟩ => ⟨env, s, w, sr, g, Aft.bind h fun x s2 w2 v1 H1 _ l1 g2 r1 h1 => ?_⟩⟩
  cases x with
  | ref k =>
    have h3 : Aft (ct X) (RD (ct X)) w2 σ W (match s2[k]? with
      | some (.lst xs) => (match xs[xs.length - 1]? with
        | some y => .ok y (s2.set k (.lst xs.dropLast))
        | none => .bad)
      | _ => .bad) Q := h1
    simp only [Rep] at r1
    obtain ⟨a, k1, rfl⟩ := r1
    cases ec : s2[k]? with
    | none => rw [ec] at h3; exact h3.elim
    | some cl =>
      rw [ec] at h3
      cases cl with
      | lst ys =>
        simp only at h3
        split at h3
        · rename_i y ey
          obtain ⟨n5, vs5, h5, q5⟩ := g2.cell _ _ _ ec k1
          obtain ⟨u, eu, ru⟩ := q5.get ey
          refine ⟨.inl ⟨rfl, vs5, SqL.of h5⟩, a, vs5, u, rfl, rfl, h5, by rw [← q5.length]; exact eu, ?_⟩
          have hw := g2.write (o := .lst vs5.dropLast) (cl := .lst ys.dropLast) k1 n5 (g2.cell_lk ec k1 fun d z => by cases z) fun H' e' => ⟨n5, _, e', q5.dropLast⟩
          exact h3.now hw ru
        · exact h3.elim
      | _ => exact h3.elim
  | _ => exact h1.elim
end
end D
end

section
set_option maxHeartbeats 4000000
namespace D
open PySem L2
/-! ### isinstance -/
def tyD : Dt → Option String
  | .non => some "NoneType"
  | .bl _ => some "bool"
  | .int _ => some "int"
  | .str _ => some "str"
  | .lst _ => some "list"
  | .tup _ => some "tuple"
  | .dct false _ => some "dict"
  | _ => none
structure IsTab where
  xb : Str → String → Option Bool
  xo : Str → Str → Option Bool
  ob : Str → String → Option Bool
  oo : Str → Str → Option Bool
  bo : Str → Bool
structure InsTy (K : PySem.W.Frag) (C : Addr) : Prop where
  cl : Cls K C
  ha : PySem.W.findIn K (.ref C) "__class__" = some (some (.builtin "object.__class__"))
  hn : PySem.W.specialIn K (.builtin "object.__class__") "__get__" = some (some (.builtin "getset_descriptor.__get__"))
  ht : PySem.W.takesIn K (.builtin "object.__class__") = some true
  hm : PySem.W.mroIn K C (.type "object") = some true
/-- what the class of an exception must say -/
structure ExnTy (K : PySem.W.Frag) (C : Addr) : Prop where
  cl : (PySem.W.clsIn K C).isSome = true
  ga : PySem.W.findIn K (.ref C) "__getattribute__" = some (some (.builtin "BaseException.__getattribute__"))
  gg : PySem.W.findIn K (.ref C) "__getattr__" = some none
  sb : PySem.W.subIn K (.ref C) (.type "BaseException") = some true
  ha : PySem.W.findIn K (.ref C) "__class__" = some (some (.builtin "object.__class__"))
  hn : PySem.W.specialIn K (.builtin "object.__class__") "__get__" = some (some (.builtin "getset_descriptor.__get__"))
  ht : PySem.W.takesIn K (.builtin "object.__class__") = some true
  hm : PySem.W.mroIn K C (.type "object") = some true
def tyNames : List String := ["NoneType", "bool", "int", "str", "list", "tuple", "dict"]
structure IsTabOk (K : PySem.W.Frag) (mg : Str → Option Value) (tab : IsTab) : Prop where
  ob : ∀ x T b, tab.ob x T = some b → ∀ C, mg x = some (.ref C) → InsTy K C ∧ PySem.W.kitOne K (.ref C) (.type T) = some b
  oo : ∀ x y b, tab.oo x y = some b → ∀ C C', mg x = some (.ref C) → mg y = some (.ref C') → InsTy K C ∧ PySem.W.kitOne K (.ref C) (.ref C') = some b
  xb : ∀ x T b, tab.xb x T = some b → ∀ C, mg x = some (.ref C) → ExnTy K C ∧ PySem.W.kitOne K (.ref C) (.type T) = some b
  xo : ∀ x y b, tab.xo x y = some b → ∀ C C', mg x = some (.ref C) → mg y = some (.ref C') → ExnTy K C ∧ PySem.W.kitOne K (.ref C) (.ref C') = some b
  bo : ∀ y, tab.bo y = true → ∀ C, mg y = some (.ref C) → ∀ a ∈ tyNames, PySem.W.kitOne K (.type a) (.ref C) = some false
def fIs1 (tab : IsTab) (d cl : Dt) (s : S) : Option Bool := match cl with
  | .raw (.ty T) => (match pk s d with
    | .obj x _ => tab.ob x T
    | .exn x _ => tab.xb x T
    | y => (tyD y).bind fun a => kitB a T)
  | .cls C => (match pk s d with
    | .obj x _ => tab.oo x C
    | .exn x _ => tab.xo x C
    | y => (tyD y).bind fun _ => if tab.bo C = true then some false else none)
  | _ => none
def isAny (tab : IsTab) (d : Dt) (s : S) : List Dt → Option Bool
  | [] => some false
  | cl :: cs => match fIs1 tab d cl s with
    | some true => (isAny tab d s cs).map fun _ => true
    | some false => isAny tab d s cs
    | none => none
def fIs (tab : IsTab) : PF := fun ds s => match ds with
  | [d, .tup (c :: cs)] => (isAny tab d s (c :: cs)).map .bl
  | [d, cl] => (fIs1 tab d cl s).map .bl
  | _ => none
section
variable {c : Ct} {w : Wd} {H : Hp} {s : S} {d : Dt} {v : V}
theorem tyX_lst {a : Addr} {vs : List V} (h : SqL c.K H a vs) : TyX c.K H (.ref a) (.type "list") := by
  rcases h with (h | ⟨o, h⟩) | h
  · exact .base (.lst h)
  · exact .base (.frz h)
  · obtain ⟨o, its, n, h1, h2, _⟩ := h
    exact .kList h1 h2
theorem tyX_tup {a : Addr} {vs : List V} (h : SqT c.K H a vs) : TyX c.K H (.ref a) (.type "tuple") := by
  rcases h with (h | ⟨o, h⟩) | h
  · exact .base (.tup h)
  · exact .fTuple h
  · obtain ⟨o, its, n, h1, h2, _⟩ := h
    exact .kTuple h1 h2
/-- the type of a value (dicts that are locked apart) -/
theorem tyX_of (g : Good c w H s) (r : Rep c w d v) {a : String} (e : tyD (pk s d) = some a) : TyX c.K H v (.type a) := by
  cases q : pk s d with
  | non =>
    rw [q] at e
    cases e
    cases d with
    | non => simp only [Rep] at r; subst r; exact (.base .non)
    | ref k =>
      obtain ⟨a, cl, h1, h2, h3, h4⟩ := g.ref_ r
      have q' : (match s[k]? with
        | some (.lst ds) => Dt.lst ds
        | some (.dct t kvs) => .dct t kvs
        | some (.ins x fs) => .obj x fs
        | some (.froz d) => d
        | none => .ref k) = .non := q
      rw [h3] at q'
      cases cl with
      | froz d =>
        have : d = .non := q'
        subst this
        have z := h4.1
        simp only [Rep] at z
        cases z
      | _ => cases q'
    | _ => cases q
  | bl b =>
    rw [q] at e
    cases e
    cases d with
    | bl x => simp only [Rep] at r; subst r; exact (.base (.bl _))
    | ref k =>
      obtain ⟨a, cl, h1, h2, h3, h4⟩ := g.ref_ r
      have q' : (match s[k]? with
        | some (.lst ds) => Dt.lst ds
        | some (.dct t kvs) => .dct t kvs
        | some (.ins x fs) => .obj x fs
        | some (.froz d) => d
        | none => .ref k) = .bl b := q
      rw [h3] at q'
      cases cl with
      | froz d =>
        have : d = .bl b := q'
        subst this
        have z := h4.1
        simp only [Rep] at z
        cases z
      | _ => cases q'
    | _ => cases q
  | int i =>
    rw [q] at e
    cases e
    cases d with
    | int x => simp only [Rep] at r; subst r; exact (.base (.int _))
    | ref k =>
      obtain ⟨a, cl, h1, h2, h3, h4⟩ := g.ref_ r
      have q' : (match s[k]? with
        | some (.lst ds) => Dt.lst ds
        | some (.dct t kvs) => .dct t kvs
        | some (.ins x fs) => .obj x fs
        | some (.froz d) => d
        | none => .ref k) = .int i := q
      rw [h3] at q'
      cases cl with
      | froz d =>
        have : d = .int i := q'
        subst this
        have z := h4.1
        simp only [Rep] at z
        cases z
      | _ => cases q'
    | _ => cases q
  | str x =>
    rw [q] at e
    cases e
    have := pk_str g r q
    subst this
    exact (.base (.str _))
  | lst xs =>
    rw [q] at e
    cases e
    obtain ⟨a, vs, rfl, h, _⟩ := g.isLst r q
    exact tyX_lst h
  | tup xs =>
    rw [q] at e
    cases e
    obtain ⟨a, vs, rfl, h, _⟩ := g.isTup r q
    exact tyX_tup h
  | dct t kvs =>
    rw [q] at e
    cases t with
    | true => cases e
    | false =>
      cases e
      obtain ⟨a, rfl, ⟨_, ws, h, _⟩ | ⟨ht, _⟩⟩ := g.isDct r q
      · rcases h with h | ⟨o, h⟩
        · exact .base (.dK h)
        · exact .fDict h
      · cases ht
  | _ => rw [q] at e; cases e
end
theorem exo_nd {a C : Addr} {d : Option Addr} : ¬ IsDk (exo a C d) := fun z => by
  have z' : IsDk (HO.ext _) := z
  rcases z' with ⟨_, z'⟩ | ⟨_, z'⟩ <;> cases z'
theorem exd_nd {a : Addr} {ws : List (Str × V)} : ¬ IsDk (exd a ws) := fun z => by
  have z' : IsDk (HO.ext _) := z
  rcases z' with ⟨_, z'⟩ | ⟨_, z'⟩ <;> cases z'
theorem Good.isExn {c : Ct} {w : Wd} {H : Hp} {s : S} {d : Dt} {v : V} (g : Good c w H s) {x : Str} {fs : List (Str × Dt)} (r : Rep c w d v) (e : pk s d = .exn x fs) : ∃ a dd C ws, v = .ref a ∧ H a = some (exo a C (some dd)) ∧ H dd = some (exd dd ws) ∧ c.mg x = some (.ref C) ∧ RepF c w fs ws := by
  have frz : ∀ {v : V}, Rep c w (.exn x fs) v → ∃ a dd C ws, v = .ref a ∧ H a = some (exo a C (some dd)) ∧ H dd = some (exd dd ws) ∧ c.mg x = some (.ref C) ∧ RepF c w fs ws := fun {v} r => by
    simp only [Rep] at r
    obtain ⟨a, dd, C, ws, h1, h2, h3, h4, h5⟩ := r
    exact ⟨a, dd, C, ws, h1, g.same h2 exo_nd, g.same h3 exd_nd, h4, h5⟩
  cases d with
  | exn x' xs =>
    have e' : Dt.exn x' xs = Dt.exn x fs := e
    rw [e'] at r
    exact frz r
  | ref k =>
    obtain ⟨a, cl, h1, h2, h3, h4⟩ := g.ref_ r
    have e' : (match s[k]? with
      | some (.lst ds) => Dt.lst ds
      | some (.dct t kvs) => .dct t kvs
      | some (.ins x fs) => .obj x fs
      | some (.froz d) => d
      | none => .ref k) = Dt.exn x fs := e
    rw [h3] at e'
    cases cl with
    | froz d =>
      have e2 : d = .exn x fs := e'
      subst e2
      rw [h1]
      exact frz h4.1
    | lst xs => cases e'
    | dct t kvs => cases e'
    | ins _ _ => cases e'
  | _ => cases e
/-- a class as data, as the rules want it -/
theorem clsV_of {c : Ct} {w : Wd} {cl : Dt} {v : V} (r : Rep c w cl v) : (∃ T, cl = .raw (.ty T) ∧ v = .ty T) ∨ (∃ C x, cl = .cls x ∧ c.mg x = some (.ref C) ∧ v = .ref C) ∨ ((∀ T, cl ≠ .raw (.ty T)) ∧ ∀ x, cl ≠ .cls x) := by
  cases cl with
  | raw u =>
    simp only [Rep] at r
    cases u with
    | ty T => exact .inl ⟨T, rfl, r⟩
    | _ => exact .inr (.inr ⟨(by intro T z; cases z), (by intro x z; cases z)⟩)
  | cls x =>
    simp only [Rep] at r
    obtain ⟨C, h1, h2⟩ := r
    exact .inr (.inl ⟨C, x, rfl, h1, h2⟩)
  | _ => exact .inr (.inr ⟨(by intro T z; cases z), (by intro x z; cases z)⟩)
theorem tyD_names {d : Dt} {a : String} (e : tyD d = some a) : a ∈ tyNames := by
  cases d with
  | dct t kvs => cases t <;> simp only [tyD, Option.some.injEq, reduceCtorEq] at e <;> subst e <;> simp [tyNames]
  | _ => simp only [tyD, Option.some.injEq, reduceCtorEq] at e <;> subst e <;> simp [tyNames]
section
variable {X : Cx} {W : WX} {pos p : Pos} {e o i : Expr} {es : List Expr} {d d2 d3 : DE} {dr : DA}
/-- what isinstance's rules ask of the value -/
def KitOk (X : Cx) (H : Hp) (v : V) (t : Value) : Prop := ∀ (pins : List (Addr × Obj)) (σ : L2.St) (sh : Shared) (u : Value), Inv X pins σ H sh → RelV v u → ∃ P : Heap → Prop, PySem.W.KitX X.K u t P ∧ P sh.heap ∧ u ≠ .builtin "__main__.__loader__#opaque"
theorem KitOk.of {H : Hp} {v : V} {t : Value} (h : TyX X.K H v t) : KitOk X H v t := fun pins σ sh u I r => by
  obtain ⟨P, Z, p, hx⟩ := kit_of I r h
  exact ⟨P, Z, p, hx⟩
theorem KitOk.exn {H : Hp} {a d C : Addr} {ws : List (Str × V)} (ea : H a = some (exo a C (some d))) (ed : H d = some (exd d ws)) (hC : ExnTy X.K C) : KitOk X H (.ref a) (.ref C) := fun pins σ sh u I r => by
  obtain rfl : u = .ref a := r
  obtain ⟨t1, ho⟩ := exo_at I.hok ea
  obtain ⟨mA, ⟨od, es, ep, hod, _⟩, _⟩ := exd_at I.hok ed
  exact ⟨_, PySem.W.kitx_exc (x := a) (ox := { cls := .ref C, dict := some d, data := .fields #[.ref t1, .none, .none, .none, .bool false, .none] }) (od := some od) hC.cl hC.ga hC.gg hC.sb hC.ha hC.hn hC.ht hC.hm, ⟨ho, rfl, rfl, hod⟩, fun z => nomatch z⟩
theorem call_isK {pins : List (Addr × Obj)} {sh : Shared} {σ : L2.St} {H : Hp} {v c : V} {t u : Value} {b : Bool} {us : List Value} {Q : VK} (I : Inv X pins σ H sh) (r : Vals [v, c] us) (k : ClsV c u) (ty : KitOk X H v t) (e : PySem.W.kitOne X.K t u = some b) (q : Q (.bl b) H) :
    wpAny (model X.prog X.w) X.A (call (.builtin "isinstance") us) (EP X pins σ Q) X.xe sh := by
  obtain ⟨u1, u2, rfl, r1, r2⟩ := vals2 r
  have e2 := k.eq r2
  subst e2
  obtain ⟨P, Z, p, hx⟩ := ty pins σ sh u1 I r1
  exact PySem.W.kia_one Z I.kIn p e hx fun tk => ⟨.bl b, H, I.tok tk, rfl, q⟩
theorem call_isTK {pins : List (Addr × Obj)} {sh : Shared} {σ : L2.St} {H : Hp} {v : V} {tp : Addr} {cs : List V} {ws : List Value} {t : Value} {b : Bool} {us : List Value} {Q : VK} (I : Inv X pins σ H sh) (r : Vals [v, .ref tp] us) (hT : H tp = some (.tup cs)) (k : Paired ClsV cs ws) (ty : KitOk X H v t) (e : PySem.W.kitAny X.K t ws = some b) (q : Q (.bl b) H) :
    wpAny (model X.prog X.w) X.A (call (.builtin "isinstance") us) (EP X pins σ Q) X.xe sh := by
  obtain ⟨u1, u2, rfl, r1, r2⟩ := vals2 r
  cases (show u2 = Value.ref tp from r2)
  obtain ⟨P, Z, p, hx⟩ := ty pins σ sh u1 I r1
  obtain ⟨_, its, rv, o, h1, h2, n, h3⟩ := (show ObjOk X.prog X.w H sh.heap tp (.tup cs) from I.hok tp _ hT)
  have e3 := ClsV.all k rv
  subst e3
  obtain ⟨oc, od, dt, sl⟩ := o
  simp only at h2 h3
  subst h2 h3
  exact PySem.W.kia_tup Z I.kIn p h1 e hx fun tk => ⟨.bl b, H, I.tok tk, rfl, q⟩
/-- the tests of one value -/
theorem is1_of {tab : IsTab} (tk : IsTabOk X.K X.mg tab) {w : Wd} {H : Hp} {s : S} {d cl0 : Dt} {v u0 : V} {b0 : Bool} (g : Good (ct X) w H s) (r : Rep (ct X) w d v) (rc0 : Rep (ct X) w cl0 u0) (e0 : fIs1 tab d cl0 s = some b0) :
    ∃ t, KitOk X H v t ∧ ∀ cl u b, Rep (ct X) w cl u → fIs1 tab d cl s = some b → ∃ c, ClsV u c ∧ PySem.W.kitOne X.K t c = some b := by
  have ty : ∀ {a : String}, tyD (pk s d) = some a → TyX X.K H v (.type a) := fun {a} h => tyX_of g r h
  have inv : ∀ cl u b, Rep (ct X) w cl u → fIs1 tab d cl s = some b → (∃ T, cl = .raw (.ty T) ∧ u = .ty T) ∨ (∃ C x, cl = .cls x ∧ X.mg x = some (.ref C) ∧ u = .ref C) := fun cl u b rc e => by
    rcases clsV_of rc with h | h | ⟨h1, h2⟩
    · exact .inl h
    · exact .inr h
    · exfalso
      unfold fIs1 at e
      split at e
      · exact h1 _ rfl
      · exact h2 _ rfl
      · cases e
  cases q : pk s d with
  | obj x fs =>
    obtain ⟨a, C, dx, ws, rfl, h1, h2, h3⟩ := g.isObj r q
    have it : InsTy X.K C := by
      rcases inv cl0 u0 b0 rc0 e0 with ⟨T, rfl, rfl⟩ | ⟨C', y, rfl, hC, rfl⟩
      · simp only [fIs1, q] at e0
        exact (tk.ob x T b0 e0 C h2).1
      · simp only [fIs1, q] at e0
        exact (tk.oo x y b0 e0 C C' h2 hC).1
    refine ⟨.ref C, .of (.base (.ins h1 it.cl it.ha it.hn it.ht it.hm)), fun cl u b rc e => ?_⟩
    rcases inv cl u b rc e with ⟨T, rfl, rfl⟩ | ⟨C', y, rfl, hC, rfl⟩
    · simp only [fIs1, q] at e
      exact ⟨_, .ty T, (tk.ob x T b e C h2).2⟩
    · simp only [fIs1, q] at e
      exact ⟨_, .own C', (tk.oo x y b e C C' h2 hC).2⟩
  | exn x fs =>
    obtain ⟨a, dd, C, ws, rfl, h1, h1', h2, h3⟩ := g.isExn r q
    have it : ExnTy X.K C := by
      rcases inv cl0 u0 b0 rc0 e0 with ⟨T, rfl, rfl⟩ | ⟨C', y, rfl, hC, rfl⟩
      · simp only [fIs1, q] at e0
        exact (tk.xb x T b0 e0 C h2).1
      · simp only [fIs1, q] at e0
        exact (tk.xo x y b0 e0 C C' h2 hC).1
    refine ⟨.ref C, .exn h1 h1' it, fun cl u b rc e => ?_⟩
    rcases inv cl u b rc e with ⟨T, rfl, rfl⟩ | ⟨C', y, rfl, hC, rfl⟩
    · simp only [fIs1, q] at e
      exact ⟨_, .ty T, (tk.xb x T b e C h2).2⟩
    · simp only [fIs1, q] at e
      exact ⟨_, .own C', (tk.xo x y b e C C' h2 hC).2⟩
  | _ =>
    have ha : ∃ a, tyD (pk s d) = some a := by
      rcases inv cl0 u0 b0 rc0 e0 with ⟨T, rfl, rfl⟩ | ⟨C', y, rfl, hC, rfl⟩
      · simp only [fIs1, q] at e0
        obtain ⟨a, e1, e2⟩ := Option.bind_eq_some_iff.mp e0
        exact ⟨a, by rw [q]; exact e1⟩
      · simp only [fIs1, q] at e0
        obtain ⟨a, e1, e2⟩ := Option.bind_eq_some_iff.mp e0
        exact ⟨a, by rw [q]; exact e1⟩
    obtain ⟨a, ea⟩ := ha
    refine ⟨.type a, .of (ty ea), fun cl u b rc e => ?_⟩
    rw [q] at ea
    rcases inv cl u b rc e with ⟨T, rfl, rfl⟩ | ⟨C', y, rfl, hC, rfl⟩
    · simp only [fIs1, q, ea, Option.bind_some] at e
      exact ⟨_, .ty T, kit_ty e⟩
    · simp only [fIs1, q, ea, Option.bind_some] at e
      split at e
      · rename_i hb
        cases e
        exact ⟨_, .own C', tk.bo y hb C' hC a (tyD_names ea)⟩
      · cases e
theorem isAny_of {tab : IsTab} {w : Wd} {s : S} {d : Dt} {t : Value} (k : ∀ cl u b, Rep (ct X) w cl u → fIs1 tab d cl s = some b → ∃ c, ClsV u c ∧ PySem.W.kitOne X.K t c = some b) : ∀ {cs : List Dt} {us : List V} {b : Bool}, Reps (ct X) w cs us → isAny tab d s cs = some b →
    ∃ ws, Paired ClsV us ws ∧ PySem.W.kitAny X.K t ws = some b
  | [], us, b, r, e => by
    simp only [Reps] at r
    subst r
    cases e
    exact ⟨[], .nil, rfl⟩
  | cl :: cs, us, b, r, e => by
    simp only [Reps] at r
    obtain ⟨u, q, rfl, h1, h2⟩ := r
    unfold isAny at e
    split at e
    · rename_i e1
      obtain ⟨b', e2, rfl⟩ := Option.map_eq_some_iff.mp e
      obtain ⟨c, c1, c2⟩ := k cl u true h1 e1
      obtain ⟨ws, k1, k2⟩ := isAny_of k h2 e2
      exact ⟨c :: ws, .cons c1 k1, by unfold PySem.W.kitAny; rw [c2]⟩
    · rename_i e1
      obtain ⟨c, c1, c2⟩ := k cl u false h1 e1
      obtain ⟨ws, k1, k2⟩ := isAny_of k h2 e
      exact ⟨c :: ws, .cons c1 k1, by unfold PySem.W.kitAny; rw [c2]; exact k2⟩
    · cases e
theorem isAny_first {tab : IsTab} {s : S} {d cl : Dt} {cs : List Dt} {b : Bool} (e : isAny tab d s (cl :: cs) = some b) : ∃ b0, fIs1 tab d cl s = some b0 := by
  unfold isAny at e
  split at e
  · rename_i h; exact ⟨_, h⟩
  · rename_i h; exact ⟨_, h⟩
  · cases e
theorem callp_is {tab : IsTab} (tk : IsTabOk X.K X.mg tab) : CallP X (.builtin "isinstance") (fIs tab) := by
  intro pins sh σ H xs us Q I r h
  obtain ⟨ds, dz, s, w, g, rs, e, q⟩ := h
  unfold fIs at e
  split at e
  · rename_i d cl cs
    obtain ⟨b, e1, rfl⟩ := Option.map_eq_some_iff.mp e
    obtain ⟨v, u, rfl, rv, ru⟩ := reps2 rs
    simp only [Rep] at ru
    obtain ⟨a, vs, rfl, h2, h3⟩ := ru
    obtain ⟨b0, e0⟩ := isAny_first e1
    have h3' := h3
    simp only [Reps] at h3
    obtain ⟨u0, q0, _, r0, _⟩ := h3
    obtain ⟨t, k2, k⟩ := is1_of tk g rv r0 e0
    obtain ⟨ws, k1, k3⟩ := isAny_of k h3' e1
    exact call_isTK I r (g.same h2 tup_nd) k1 k2 k3 (q w _ H (Le.refl w) g (by simp only [Rep]))
  · rename_i d cl _
    obtain ⟨b, e1, rfl⟩ := Option.map_eq_some_iff.mp e
    obtain ⟨v, u, rfl, rv, ru⟩ := reps2 rs
    obtain ⟨t, k2, k⟩ := is1_of tk g rv ru e1
    obtain ⟨c, k1, k3⟩ := k cl u b ru e1
    exact call_isK I r k1 k2 k3 (q w _ H (Le.refl w) g (by simp only [Rep]))
  · cases e
/-- the name of a builtin class -/
theorem pd_ty {x : Str} {T : String} (hm : X.mg x = none) (hv : bootBuiltins x = some (.type T)) (hg : Gl X x := by rfl) (hn : x ≠ "__name__" := by decide) (hd : (x == ("__debug__" : Str)) = false := by decide) : PD X W (.Name x pos) (dC (.raw (.ty T))) :=
  ⟨(pe_bltn (v := .ty T) hg hm hv rfl hn hd).of fun σ H Q ⟨env, s, w, sr, g, h⟩ => h.now g (by simp only [Rep])⟩
/-- the name of an own class -/
theorem pd_cls {x : Str} (hm : ∃ C, X.mg x = some (.ref C)) (hg : Gl X x := by rfl) (hd : (x == ("__debug__" : Str)) = false := by decide) : PD X W (.Name x pos) (dC (.cls x)) := by
  obtain ⟨C, hm⟩ := hm
  exact ⟨(pe_glob (v := .ref C) hg hm rfl hd).of fun σ H Q ⟨env, s, w, sr, g, h⟩ => h.now g (by simp only [Rep]; exact ⟨C, hm, rfl⟩)⟩
/-- a constant of the module -/
theorem pd_glob {x : Str} {dz : Dt} (hm : ∃ u v, X.mg x = some u ∧ RelV v u ∧ ∀ w, Rep (ct X) w dz v) (hg : Gl X x := by rfl) (hd : (x == ("__debug__" : Str)) = false := by decide) : PD X W (.Name x pos) (dC dz) := by
  obtain ⟨u, v, hm, r, hr⟩ := hm
  exact ⟨(pe_glob (v := v) hg hm r hd).of fun σ H Q ⟨env, s, w, sr, g, h⟩ => h.now g (hr w)⟩
/-! ### stores -/
def sPut (d o i : DE) : DS := fun env s => andS (d env s) env fun v s => andS (o env s) env fun x s => andS (i env s) env fun y s => match x with
  | .ref k => (match s[k]? with
    | some (.lst xs) => (match y with
      | .int n => (match ixN xs.length n with
        | some j => .nx env (s.set k (.lst (xs.set j v)))
        | none => .bad)
      | _ => .bad)
    | some (.dct t kvs) => (match keyD y with
      | some (t', ks) => if t' = t ∧ kvs.length < sizeLine then .nx env (s.set k (.dct t (putD kvs ks v))) else .bad
      | none => .bad)
    | _ => .bad)
  | _ => .bad
theorem Reps.set {c : Ct} {w : Wd} {d : Dt} {v : V} (rv : Rep c w d v) : ∀ {ds : List Dt} {vs : List V} (j : Nat), Reps c w ds vs → Reps c w (ds.set j d) (vs.set j v)
  | [], vs, j, r => by
    simp only [Reps] at r
    subst r
    simp only [List.set_nil, Reps]
  | x :: ds, vs, 0, r => by
    simp only [Reps] at r
    obtain ⟨u, q, rfl, h1, h2⟩ := r
    simp only [List.set_cons_zero, Reps]
    exact ⟨v, q, rfl, rv, h2⟩
  | x :: ds, vs, j + 1, r => by
    simp only [Reps] at r
    obtain ⟨u, q, rfl, h1, h2⟩ := r
    simp only [List.set_cons_succ, Reps]
    exact ⟨u, _, rfl, h1, Reps.set rv j h2⟩
theorem PSet.or {t t' : TSet} (h : PSet X t) (h' : PSet X t') : PSet X (fun o i v H Q => t o i v H Q ∨ t' o i v H Q) := by
  intro pins s σ H o i v ov iv u Q I ro ri rv q
  rcases q with q | q
  · exact h pins s σ H o i v ov iv u Q I ro ri rv q
  · exact h' pins s σ H o i v ov iv u Q I ro ri rv q
theorem ds_put {p2 : Pos} (hu : X.A.units + 1 < cLine) (hd : PD X W e d) (ho : PD X W o d2) (hi : PD X W i d3)
    (ha : ∀ v, assign (.Subscript o i p2) X.env v = (do
      let ov ← holding [v] (eval o X.env)
      let iv ← holding [v, ov] (eval i X.env)
      standAt p2
      holding [v, ov, iv] (setItem ov iv v)
      release [v, ov, iv] []) := by intro _; rfl)
    (hs : swapsWithSole [.Subscript o i p2] e pos.line X.env = pure false := by rfl) (hw : swappedStores [.Subscript o i p2] e X.env = pure none := by rfl)
    (h1 : (assignEach [.Subscript o i p2] X.env).map (·.2) = [assign (.Subscript o i p2) X.env] := by rfl) : PDS X W (.Assign [.Subscript o i p2] e pos) (sPut d d2 d3) := by
  refine ⟨(ps_asg hd.pe (pg_sub ho.pe hi.pe (PSet.or set_list (set_dict hu)) ha) hs hw h1).of fun D σ H ⟨env, s, w, sr, gd, h⟩ => ⟨env, s, w, sr, gd, AftS.bindE sr h fun v s1 w1 v1 H1 _ l1 g1 r1 h1 => ⟨env, s1, w1, sr.up l1, g1, AftS.bindE (sr.up l1) h1 fun x s2 w2 v2 H2 _ l2 g2 r2 h2 => ⟨env, s2, w2, (sr.up l1).up l2, g2, AftS.bindE ((sr.up l1).up l2) h2 fun y s3 w3 v3 H3 _ l3 g3 r3 h3 => ?_⟩⟩⟩⟩
  have sr3 := ((sr.up l1).up l2).up l3
  have r1' := (r1.up l2).up l3
  have r2' := r2.up l3
  cases x with
  | ref k =>
    simp only at h3
    simp only [Rep] at r2'
    obtain ⟨a, k1, rfl⟩ := r2'
    cases ec : s3[k]? with
    | none => rw [ec] at h3; exact h3.elim
    | some cl =>
      rw [ec] at h3
      cases cl with
      | lst xs =>
        simp only at h3
        cases y with
        | int n =>
          simp only at h3
          cases ej : ixN xs.length n with
          | none => rw [ej] at h3; exact h3.elim
          | some j =>
            rw [ej] at h3
            obtain ⟨n5, vs5, h5, q5⟩ := g3.cell _ _ _ ec k1
            simp only [Rep] at r3
            refine .inl ⟨a, vs5, n, j, rfl, r3, h5, by rw [← q5.length]; exact ej, ?_⟩
            have hw := g3.write (o := .lst (vs5.set j v1)) (cl := .lst (xs.set j v)) k1 n5 (g3.cell_lk ec k1 fun d z => by cases z) fun H' e' => ⟨n5, _, e', q5.set r1' j⟩
            exact h3.nx' (Le.refl w3) sr3 hw
        | _ => exact h3.elim
      | dct t kvs =>
        simp only at h3
        cases ek : keyD y with
        | none => rw [ek] at h3; exact h3.elim
        | some q =>
          obtain ⟨t', ks⟩ := q
          rw [ek] at h3
          simp only at h3
          split at h3
          · rename_i hz
            obtain ⟨rfl, hz⟩ := hz
            have x5 := g3.cell _ _ _ ec k1
            have nlk := g3.cell_lk ec k1 fun d z => by cases z
            obtain ⟨n5, x5⟩ := x5
            rcases key_rep g3 r3 ek with ⟨rfl, key, rfl, rfl⟩ | ⟨rfl, b, rfl, hb⟩
            · rcases x5 with ⟨_, ws, h5, q5⟩ | ⟨z, _⟩
              · have hl := length_repK q5
                rw [List.length_map] at hl
                refine .inr ⟨a, _, rfl, .inl ⟨ws, key, h5, rfl, by rw [← hl]; exact hz, rfl⟩, ?_⟩
                have hw := g3.write (o := .dK (putK ws key v1)) (cl := .dct false (putD kvs [key] v)) k1 n5 nlk fun H' e' => ⟨n5, .inl ⟨rfl, _, e', by rw [putK_one]; exact q5.put [key] r1'⟩⟩
                exact h3.nx' (Le.refl w3) sr3 hw
              · cases z
            · rcases x5 with ⟨z, _⟩ | ⟨_, ws, h5, q5⟩
              · cases z
              · have hl := length_repK q5
                refine .inr ⟨a, _, rfl, .inr ⟨ws, ks, b, h5, rfl, hb, by rw [← hl]; exact hz, rfl⟩, ?_⟩
                have hw := g3.write (o := .dT (putK ws ks v1)) (cl := .dct true (putD kvs ks v)) k1 n5 nlk fun H' e' => ⟨n5, .inr ⟨rfl, _, e', q5.put ks r1'⟩⟩
                exact h3.nx' (Le.refl w3) sr3 hw
          · exact h3.elim
      | _ => exact h3.elim
  | _ => exact h3.elim
/-- a new dict -/
def dNewD (t : Bool) : DE := fun _ s => .ok (.ref s.length) (s ++ [.dct t []])
theorem pd_newK : PD X W (.Dict [] [] pos) (dNewD false) := ⟨pe_dnewK.of fun σ H Q ⟨env, s, w, sr, g, h⟩ p hp => by
  have g2 := g.put (o := .dK []) (cl := .dct false []) hp fun H' e' => ⟨g.fresh hp, .inl ⟨rfl, [], e', by simp only [List.map_nil, RepK]⟩⟩
  refine h.at_ Le.put g2 ?_
  simp only [Rep]
  refine ⟨p, ?_, rfl⟩
  show (w.ρ ++ [p])[s.length]? = some p
  rw [← g.len, List.getElem?_append_right (Nat.le_refl _), Nat.sub_self]
  rfl⟩
theorem pd_newT : PD X W (.Dict [] [] pos) (dNewD true) := ⟨pe_dnewT.of fun σ H Q ⟨env, s, w, sr, g, h⟩ p hp => by
  have g2 := g.put (o := .dT []) (cl := .dct true []) hp fun H' e' => ⟨g.fresh hp, .inr ⟨rfl, [], e', by simp only [RepK]⟩⟩
  refine h.at_ Le.put g2 ?_
  simp only [Rep]
  refine ⟨p, ?_, rfl⟩
  show (w.ρ ++ [p])[s.length]? = some p
  rw [← g.len, List.getElem?_append_right (Nat.le_refl _), Nat.sub_self]
  rfl⟩
/-- d.get(k, x) -/
def dGet2 (d k x : DE) : DE := fun env s => (d env s).bind fun a s => if isDctD s a = true then (k env s).bind fun y s => (x env s).bind fun z s => (match pk s a with
    | .dct t kvs => (match keyD y with
      | some (t', ks) => if t' = t then .ok ((getK kvs ks).getD z) s else .bad
      | none => .bad)
    | _ => .bad) else .bad
theorem isD_of {c : Ct} {w : Wd} {H : Hp} {a : Addr} {t : Bool} {kvs : List (List Key × Dt)} (h : DctAt c w H a t kvs) : IsD H a := by
  rcases h with ⟨_, ws, h, _⟩ | ⟨_, ws, h, _⟩
  · exact .inl ⟨ws, h⟩
  · exact .inr ⟨ws, h⟩
theorem pd_get2 {apos : Pos} {e2 : Expr} (hu : X.A.units + 1 < cLine) (ho : PD X W o d) (he : PD X W e d2) (hf : PD X W e2 d3) (m : M2 X o "get" apos e e2 pos := by exact ⟨rfl, rfl, rfl, rfl⟩) : PD X W (.Call (.Attribute o "get" apos) [e, e2] [] pos) (dGet2 d d2 d3) := by
  refine ⟨(pe_dget2 hu ho.pe he.pe hf.pe m).of fun σ H Q ⟨env, s, w, sr, g, h⟩ => ⟨env, s, w, sr, g, Aft.bind h fun x s1 w1 v1 H1 _ l1 g1 r1 h1 => ?_⟩⟩
  split at h1
  · rename_i hx
    cases ek : pk s1 x with
    | dct t kvs =>
      obtain ⟨a, rfl, da⟩ := g1.isDct r1 ek
      refine ⟨a, rfl, isD_of da, env, s1, w1, sr.up l1, g1, Aft.bind h1 fun y s2 w2 v2 H2 _ l2 g2 r2 h2 => ⟨env, s2, w2, (sr.up l1).up l2, g2, Aft.bind h2 fun z s3 w3 v3 H3 _ l3 g3 r3 h3 => ?_⟩⟩
      have r1' := (r1.up l2).up l3
      cases ek3 : pk s3 x with
      | dct t kvs =>
        rw [ek3] at h3
        obtain ⟨a', ea, da⟩ := g3.isDct r1' ek3
        cases ea
        simp only at h3
        cases e4 : keyD y with
        | none => rw [e4] at h3; exact h3.elim
        | some q =>
          obtain ⟨t', ks⟩ := q
          rw [e4] at h3
          simp only at h3
          split at h3
          · rename_i ht
            subst ht
            obtain ⟨o, dg, m⟩ := dget_of g3 da (r2.up l3) e4
            refine ⟨o, dg, ?_⟩
            cases e5 : getK kvs ks with
            | none =>
              rw [e5] at m h3
              cases o with
              | none => exact h3.now g3 r3
              | some _ => exact m.elim
            | some dz =>
              rw [e5] at m h3
              cases o with
              | none => exact m.elim
              | some vz => exact h3.now g3 m
          · exact h3.elim
      | _ => rw [ek3] at h3; exact h3.elim
    | _ => simp [isDctD, ek] at hx
  · exact h1.elim
/-- name op= e (ints) -/
def sAug (i : Nat) (f : Int → Int → Int) (d : DE) : DS := fun env s => match env[i]? with
  | some (some (.int a)) => andS (d env s) env fun y s => (match y with
    | .int b => .nx (env.set i (some (.int (f a b)))) s
    | _ => .bad)
  | _ => .bad
theorem ds_aug {op : Operator} {f : Int → Int → Int} (i : Nat) {x : Str} {p2 : Pos} (ho : PIp X op (ipI f)) (he : PD X W e d) (hN : X.N.Nodup := by assumption) (hi : X.N[i]? = some x := by rfl) (hx : Loc X.env.scope x := by first | exact Or.inl rfl | exact Or.inr rfl)
    (hf : X.fn x = true ∨ X.env.scope.names.lookup x = some .local := by first | exact .inl rfl | exact .inr rfl) : PDS X W (.AugAssign (.Name x p2) op e pos) (sAug i f d) := by
  refine ⟨(ps_aug (i := i) hN hi hx he.pe ho hf).of fun D σ H ⟨env, s, w, sr, gd, h⟩ => ?_⟩
  unfold sAug at h
  split at h
  · rename_i a ea
    obtain ⟨v, e1, r⟩ := sr.at_ i _ ea
    simp only [Rep] at r
    refine ⟨v, e1, env, s, w, sr, gd, AftS.bindE sr h fun y s1 w1 v1 H1 _ l1 g1 r1 h1 => ?_⟩
    cases y with
    | int b =>
      simp only [Rep] at r1
      exact ⟨a, b, r, r1, h1.nx' (Le.refl w1) ((sr.up l1).set (by simp only [Rep])) g1⟩
    | _ => exact h1.elim
  · exact h.elim
end
end D
end

section
set_option maxHeartbeats 4000000
namespace D
open PySem L2
section
variable {X : Cx} {W : WX} {pos p : Pos} {a b e o i q : Expr} {es : List Expr} {d da db dc : DE} {dr : DA}
/-- a test by a reading whose value is a bool -/
theorem pdt_of {t1 : TE} (hT : ∀ r : PE X e t1, PT X e (tTest t1)) (hE : PE X e t1) (k : ∀ σ H Q, liftE (ct X) W d σ H Q → t1 σ H Q) : PDT X W e (tst d) :=
  ⟨(hT hE).of fun σ H Q ⟨env, s, w, sr, g, h⟩ => k σ H _ ⟨env, s, w, sr, g, Aft.tst h⟩⟩
theorem dct_road (hu : X.A.units + 65 < cLine) (env : Env) (s : S) (w : Wd) (σ : L2.St) (H : Hp) (Q : VK) (sr : SR (ct X) w env σ) (g : Good (ct X) w H s) (h : Aft (ct X) (RD (ct X)) w σ W (dOp fIn da db env s) Q)
    (hd : ∃ x s1 y s2, da env s = .ok x s1 ∧ db env s1 = .ok y s2 ∧ isDctD s2 y = true) : tDIn (liftE (ct X) W da) (liftE (ct X) W db) σ H Q := by
  obtain ⟨x0, s10, y0, s20, e10, e20, e3⟩ := hd
  unfold dOp at h
  refine ⟨env, s, w, sr, g, Aft.bind h fun x s1 w1 v1 H1 e1 l1 g1 r1 h1 => ⟨env, s1, w1, sr.up l1, g1, Aft.bind h1 fun y s2 w2 v2 H2 e2 l2 g2 r2 h2 => ?_⟩⟩
  obtain ⟨rfl, rfl⟩ : x0 = x ∧ s10 = s1 := by
    rw [e1] at e10
    injection e10 with h1 h2
    exact ⟨h1.symm, h2.symm⟩
  obtain ⟨rfl, rfl⟩ : y0 = y ∧ s20 = s2 := by
    rw [e2] at e20
    injection e20 with h1 h2
    exact ⟨h1.symm, h2.symm⟩
  unfold fIn at h2
  rw [if_pos e3] at h2
  unfold fInD at h2
  cases ek : pk s20 y0 with
  | dct t kvs =>
    rw [ek] at h2
    obtain ⟨a', ea, dat⟩ := g2.isDct r2 ek
    simp only at h2
    cases e4 : keyD x0 with
    | none => rw [e4] at h2; exact h2.elim
    | some p =>
      obtain ⟨t', ks⟩ := p
      rw [e4] at h2
      simp only at h2
      by_cases ht : t' = t
      · subst ht
        rw [if_pos rfl] at h2
        obtain ⟨o, dg, m⟩ := dget_of g2 dat (r1.up l2) e4
        refine ⟨a', o, ea, dg, ?_⟩
        have eo : o.isSome = (getK kvs ks).isSome := by
          cases e5 : getK kvs ks <;> cases o <;> rw [e5] at m <;> first | rfl | exact m.elim
        rw [eo]
        exact h2.now g2 (by simp only [Rep])
      · rw [if_neg ht] at h2
        exact h2.elim
  | _ => rw [ek] at h2; exact h2.elim
theorem dct_roadN (hu : X.A.units + 65 < cLine) (env : Env) (s : S) (w : Wd) (σ : L2.St) (H : Hp) (Q : VK) (sr : SR (ct X) w env σ) (g : Good (ct X) w H s) (h : Aft (ct X) (RD (ct X)) w σ W (dOp fNotIn da db env s) Q)
    (hd : ∃ x s1 y s2, da env s = .ok x s1 ∧ db env s1 = .ok y s2 ∧ isDctD s2 y = true) : tDNotIn (liftE (ct X) W da) (liftE (ct X) W db) σ H Q := by
  obtain ⟨x0, s10, y0, s20, e10, e20, e3⟩ := hd
  unfold dOp at h
  refine ⟨env, s, w, sr, g, Aft.bind h fun x s1 w1 v1 H1 e1 l1 g1 r1 h1 => ⟨env, s1, w1, sr.up l1, g1, Aft.bind h1 fun y s2 w2 v2 H2 e2 l2 g2 r2 h2 => ?_⟩⟩
  obtain ⟨rfl, rfl⟩ : x0 = x ∧ s10 = s1 := by
    rw [e1] at e10
    injection e10 with h1 h2
    exact ⟨h1.symm, h2.symm⟩
  obtain ⟨rfl, rfl⟩ : y0 = y ∧ s20 = s2 := by
    rw [e2] at e20
    injection e20 with h1 h2
    exact ⟨h1.symm, h2.symm⟩
  unfold fNotIn fIn at h2
  rw [if_pos e3] at h2
  unfold fInD at h2
  cases ek : pk s20 y0 with
  | dct t kvs =>
    rw [ek] at h2
    obtain ⟨a', ea, dat⟩ := g2.isDct r2 ek
    simp only at h2
    cases e4 : keyD x0 with
    | none => rw [e4] at h2; exact h2.elim
    | some p =>
      obtain ⟨t', ks⟩ := p
      rw [e4] at h2
      simp only at h2
      by_cases ht : t' = t
      · subst ht
        rw [if_pos rfl] at h2
        obtain ⟨o, dg, m⟩ := dget_of g2 dat (r1.up l2) e4
        refine ⟨a', o, ea, dg, ?_⟩
        have eo : o.isSome = (getK kvs ks).isSome := by
          cases e5 : getK kvs ks <;> cases o <;> rw [e5] at m <;> first | rfl | exact m.elim
        rw [eo]
        exact h2.now g2 (by simp only [Rep])
      · rw [if_neg ht] at h2
        exact h2.elim
  | _ => rw [ek] at h2; exact h2.elim
theorem seq_road {op : CmpOp} {f fS : P2} (ho : OpP X (compareOp op) fS) (hf : ∀ x y s, isDctD s y ≠ true → f x y s = fS x y s) (env : Env) (s : S) (w : Wd) (σ : L2.St) (H : Hp) (Q : VK) (sr : SR (ct X) w env σ) (g : Good (ct X) w H s) (h : Aft (ct X) (RD (ct X)) w σ W (dOp f da db env s) Q)
    (hd : ¬ ∃ x s1 y s2, da env s = .ok x s1 ∧ db env s1 = .ok y s2 ∧ isDctD s2 y = true) :
    tOp (fun x y H Q => ∃ dx dy dz s w, Good (ct X) w H s ∧ Rep (ct X) w dx x ∧ Rep (ct X) w dy y ∧ fS dx dy s = some dz ∧ ∀ w' v H', Le w w' → Good (ct X) w' H' s → Rep (ct X) w' dz v → Q v H') (liftE (ct X) W da) (liftE (ct X) W db) σ H Q := by
  unfold dOp at h
  refine ⟨env, s, w, sr, g, Aft.bind h fun x s1 w1 v1 H1 e1 l1 g1 r1 h1 => ⟨env, s1, w1, sr.up l1, g1, Aft.bind h1 fun y s2 w2 v2 H2 e2 l2 g2 r2 h2 => ?_⟩⟩
  have e3 : ¬ isDctD s2 y = true := fun z => hd ⟨x, s1, y, s2, e1, e2, z⟩
  rw [hf _ _ _ e3] at h2
  cases e4 : fS x y s2 with
  | none => rw [e4] at h2; exact h2.elim
  | some dz =>
    rw [e4] at h2
    exact ⟨x, y, dz, s2, w2, g2, r1.up l2, r2, e4, fun w' v H' l g r => h2.at_ l g r⟩
theorem pdt_in (hu : X.A.units + 65 < cLine) (ha : PD X W a da) (hb : PD X W b db) (hm : behindInMarks .In b = false := by rfl) : PDT X W (.Compare a [.In] [b] pos) (tst (dOp fIn da db)) := by
  refine ⟨⟨fun pins sh σ H Q I ⟨env, s, w, sr, g, h⟩ => ?_⟩⟩
  have h0 := Aft.tst h
  by_cases hd : ∃ x s1 y s2, da env s = .ok x s1 ∧ db env s1 = .ok y s2 ∧ isDctD s2 y = true
  · exact (pt_cmp (pc_din (by omega) ha.pe hb.pe) hm).run pins sh σ H Q I (dct_road hu env s w σ H _ sr g h0 hd)
  · exact (pt_cmpR (opp_inS hu) ha.pe hb.pe hm).run pins sh σ H Q I (seq_road (opp_inS hu) (fun x y s n => by unfold fIn; rw [if_neg n]) env s w σ H _ sr g h0 hd)
theorem pdt_notIn (hu : X.A.units + 65 < cLine) (ha : PD X W a da) (hb : PD X W b db) (hm : behindInMarks .NotIn b = false := by rfl) : PDT X W (.Compare a [.NotIn] [b] pos) (tst (dOp fNotIn da db)) := by
  refine ⟨⟨fun pins sh σ H Q I ⟨env, s, w, sr, g, h⟩ => ?_⟩⟩
  have h0 := Aft.tst h
  by_cases hd : ∃ x s1 y s2, da env s = .ok x s1 ∧ db env s1 = .ok y s2 ∧ isDctD s2 y = true
  · exact (pt_cmp (pc_dnotin (by omega) ha.pe hb.pe) hm).run pins sh σ H Q I (dct_roadN hu env s w σ H _ sr g h0 hd)
  · exact (pt_cmpR (opp_notInS hu) ha.pe hb.pe hm).run pins sh σ H Q I (seq_road (opp_notInS hu) (fun x y s n => by unfold fNotIn fIn; rw [if_neg n]) env s w σ H _ sr g h0 hd)
/-! ### chained comparisons -/
theorem chain_road {op op' : CmpOp} {f f' : P2} (σ : L2.St) (H : Hp) (Q : VK) (h : liftE (ct X) W (dChain f f' da db dc) σ H Q) :
    tChain (fun x y H Q => ∃ dx dy dz s w, Good (ct X) w H s ∧ Rep (ct X) w dx x ∧ Rep (ct X) w dy y ∧ f dx dy s = some dz ∧ ∀ w' v H', Le w w' → Good (ct X) w' H' s → Rep (ct X) w' dz v → Q v H')
      (fun x y H Q => ∃ dx dy dz s w, Good (ct X) w H s ∧ Rep (ct X) w dx x ∧ Rep (ct X) w dy y ∧ f' dx dy s = some dz ∧ ∀ w' v H', Le w w' → Good (ct X) w' H' s → Rep (ct X) w' dz v → Q v H') (liftE (ct X) W da) (liftE (ct X) W db) (liftE (ct X) W dc) σ H Q := by
  obtain ⟨env, s, w, sr, g, h⟩ := h
  unfold dChain at h
  refine ⟨env, s, w, sr, g, Aft.bind h fun x s1 w1 v1 H1 e1 l1 g1 r1 h1 => ⟨env, s1, w1, sr.up l1, g1, Aft.bind h1 fun y s2 w2 v2 H2 e2 l2 g2 r2 h2 => ?_⟩⟩
  cases e3 : f x y s2 with
  | none => rw [e3] at h2; exact h2.elim
  | some z =>
    rw [e3] at h2
    refine ⟨x, y, z, s2, w2, g2, r1.up l2, r2, e3, fun w3 v3 H3 l3 g3 r3 => ?_⟩
    have h3 : Aft (ct X) (RD (ct X)) w2 σ W ((asB z s2).bind fun k s => if k = true then (dc env s).bind fun u s => ofO (f' y u s) s else .ok (.bl false) s) Q := h2
    cases z with
    | bl k =>
      simp only [Rep] at r3
      refine ⟨k, r3, ?_⟩
      have h4 : Aft (ct X) (RD (ct X)) w3 σ W (if k = true then (dc env s2).bind fun u s => ofO (f' y u s) s else .ok (.bl false) s2) Q := h3.up l3
      cases k with
      | false =>
        rw [if_neg (by decide)] at h4
        rw [if_neg (by decide)]
        exact h4.now g3 (by simp only [Rep])
      | true =>
        rw [if_pos rfl] at h4
        rw [if_pos rfl]
        refine ⟨env, s2, w3, ((sr.up l1).up l2).up l3, g3, Aft.bind h4 fun u s4 w4 v4 H4 e4 l4 g4 r4 h5 => ?_⟩
        cases e5 : f' y u s4 with
        | none => rw [e5] at h5; exact h5.elim
        | some z2 =>
          rw [e5] at h5
          exact ⟨y, u, z2, s4, w4, g4, (r2.up l3).up l4, r4, e5, fun w' v H' l g r => h5.at_ l g r⟩
    | _ => exact h3.elim
theorem pd_chain {op op' : CmpOp} {f f' : P2} (ho : OpP X (compareOp op) f) (ho' : OpP X (compareOp op') f') (ha : PD X W a da) (hb : PD X W b db) (hc : PD X W q dc) (hm : lastMarks [op, op'] [b, q] = false := by with_unfolding_all rfl) : PD X W (.Compare a [op, op'] [b, q] pos) (dChain f f' da db dc) :=
  ⟨(pe_chain ho ho' ha.pe hb.pe hc.pe hm).of fun σ H Q h => chain_road (op := op) (op' := op') σ H Q h⟩
theorem pdt_chain {op op' : CmpOp} {f f' : P2} (ho : OpP X (compareOp op) f) (ho' : OpP X (compareOp op') f') (ha : PD X W a da) (hb : PD X W b db) (hc : PD X W q dc) (hm : lastMarks [op, op'] [b, q] = false := by with_unfolding_all rfl) : PDT X W (.Compare a [op, op'] [b, q] pos) (tst (dChain f f' da db dc)) :=
  ⟨(pt_chain ho ho' ha.pe hb.pe hc.pe hm).of fun σ H Q ⟨env, s, w, sr, g, h⟩ => chain_road (op := op) (op' := op') σ H _ ⟨env, s, w, sr, g, Aft.tst h⟩⟩
/-- -x -/
def dNeg (d : DE) : DE := fun env s => (d env s).bind fun x s => match x with
  | .int i => .ok (.int (-i)) s
  | _ => .bad
theorem pd_neg (ha : PD X W a da) : PD X W (.UnaryOp .USub a pos) (dNeg da) :=
  ⟨(pe_un un_neg ha.pe).of fun σ H Q ⟨env, s, w, sr, g, h⟩ => ⟨env, s, w, sr, g, Aft.bind h fun x s1 w1 v1 H1 _ l1 g1 r1 h1 => by
    cases x with
    | int i =>
      simp only [Rep] at r1
      exact ⟨i, r1, h1.now g1 (by simp only [Rep])⟩
    | _ => exact h1.elim⟩⟩
/-! ### a cell's content is frozen where it leaves -/
def frzR (x : Dt) (s : S) : Res Dt := match x with
  | .ref k => (match s[k]? with
    | some (.lst ds) => .ok (.lst ds) (s.set k (.froz (.lst ds)))
    | some (.dct t kvs) => .ok (.dct t kvs) (s.set k (.froz (.dct t kvs)))
    | some (.ins c fs) => .ok (.obj c fs) (s.set k (.froz (.obj c fs)))
    | some (.froz d) => .ok d s
    | none => .bad)
  | x => .ok x s
theorem frz_aft {c : Ct} {w : Wd} {H : Hp} {s : S} {σ : L2.St} {x : Dt} {v : V} {Q : VK} (g : Good c w H s) (r : Rep c w x v) (h : Aft c (RD c) w σ W (frzR x s) Q) : Q v H := by
  cases x with
  | ref k =>
    obtain ⟨a, cl, rfl, h2, h3, h4⟩ := g.ref_ r
    simp only [frzR, h3] at h
    cases cl with
    | lst ds =>
      obtain ⟨n5, vs5, h5, q5⟩ := h4
      have l3 : Le w (w.frz a (.lst vs5)) := Le.frz n5
      have r3 : Rep c (w.frz a (.lst vs5)) (.lst ds) (.ref a) := by
        simp only [Rep]
        exact ⟨a, vs5, rfl, upd_same, q5.up l3⟩
      exact h.at_ l3 (g.freeze h2 n5 h5 r3) r3
    | dct t kvs =>
      obtain ⟨n5, ⟨ht, ws, h5, q5⟩ | ⟨ht, ws, h5, q5⟩⟩ := h4
      · have l3 : Le w (w.frz a (.dK ws)) := Le.frz n5
        have r3 : Rep c (w.frz a (.dK ws)) (.dct t kvs) (.ref a) := by
          simp only [Rep]
          exact ⟨a, rfl, .inl ⟨ht, ws, upd_same, q5.up l3⟩⟩
        exact h.at_ l3 (g.freeze h2 n5 h5 r3) r3
      · have l3 : Le w (w.frz a (.dT ws)) := Le.frz n5
        have r3 : Rep c (w.frz a (.dT ws)) (.dct t kvs) (.ref a) := by
          simp only [Rep]
          exact ⟨a, rfl, .inr ⟨ht, ws, upd_same, q5.up l3⟩⟩
        exact h.at_ l3 (g.freeze h2 n5 h5 r3) r3
    | ins y fs =>
      obtain ⟨n5, C, dx, ws, h5, m5, q5⟩ := h4
      have l3 : Le w (w.frz a (.ins C dx ws)) := Le.frz n5
      have r3 : Rep c (w.frz a (.ins C dx ws)) (.obj y fs) (.ref a) := by
        simp only [Rep]
        exact ⟨a, C, dx, ws, rfl, upd_same, m5, q5.up l3⟩
      exact h.at_ l3 (g.freeze h2 n5 h5 r3) r3
    | froz d => exact h.now g h4.1
  | _ => exact h.now g r
def dFz (d : DE) : DE := fun env s => (d env s).bind frzR
theorem pd_fz (h : PD X W e d) : PD X W e (dFz d) := ⟨h.pe.of fun σ H Q ⟨env, s, w, sr, g, h⟩ => ⟨env, s, w, sr, g, Aft.bind h fun x s1 w1 v1 H1 _ l1 g1 r1 h1 => frz_aft g1 r1 h1⟩⟩
end
/-! ### defs with all that may stand at their parameters -/
section
variable {P : Program} {w : World} {K : PySem.W.Frag} {mg : Str → Option Value} {base : Heap}
theorem u65 {A : Around} {k : Nat} (hr : Room k A) : A.units + 65 < cLine := by have := hr.un; omega
theorem u1 {A : Around} {k : Nat} (hr : Room k A) : A.units + 1 < cLine := by have := hr.un; omega
theorem u64 {A : Around} {k : Nat} (hr : Room k A) : A.units + 64 < cLine := by have := hr.un; omega
theorem fnD {x qual : Str} {params : Arguments} {body : List Stmt} {scope : Scope} {dvs : List V} {kws : List (Str × V)} {f : Addr} {fd : FuncData} {N ps : List Str} {k : Nat} {b : DS} (F : FunD K x qual params body scope dvs kws f fd) (S : FnScope N ps scope)
    (hbody : ∀ (cdv : Value) (A : Around) (outer : List PySem.Env) (s : Shared) (H : Hp) (E : XK), Room k (CxB P w K mg base N qual scope f cdv A outer s H E).A → Takes (CxB P w K mg base N qual scope f cdv A outer s H E) (XW E) →
      PassesOwn (model P w) (CxB P w K mg base N qual scope f cdv A outer s H E).A (CxB P w K mg base N qual scope f cdv A outer s H E).env (CxB P w K mg base N qual scope f cdv A outer s H E).xe →
      PDSs (CxB P w K mg base N qual scope f cdv A outer s H E) (XW E) body b) : FnOk P w K mg base (L2.CX P w) (k + 1) f fd ps (FnSp ⟨K, mg⟩ ps.length (cutF (bodyF N.length ps.length b))) := by
  refine F.ok S (FnSp.len) fun cdv A outer s H vs Q E hr hsp => ?_
  obtain ⟨ds, st', w', g, r, hl, h⟩ := hsp
  refine ⟨_, (hbody cdv A outer s H E hr (takes_of rfl rfl rfl rfl) (passes_of rfl)).pss, ?_⟩
  have h1 : Aft ⟨K, mg⟩ (RD ⟨K, mg⟩) w' [] (XW E) (bodyF N.length ps.length b ds st') Q := cutR_aft g h
  unfold bodyF at h1
  rw [if_pos hl] at h1
  have sr := reps_start (N := N) r
  rw [hl] at sr
  exact ⟨_, st', w', sr, g, body_ok (nl := 0) h1⟩
theorem FnG.mk {k n : Nat} {x : Str} {g : DF} {f : Addr} {fd : FuncData} {ps : List Str} (hm : mg x = some (.ref f)) (hk : PySem.W.keepIn K (.ref f) = true) (hn : ps.length = n) (hb : Binds K fd ps []) (F : FnOk P w K mg base (L2.CX P w) k f fd ps (FnSp ⟨K, mg⟩ ps.length g)) : FnG P w K mg base k x n g :=
  ⟨f, fd, ps, hm, hk, hn, hb, by rw [← hn]; exact F⟩
end
end D
end

section
set_option maxHeartbeats 4000000
namespace D
open PySem L2
abbrev fLt : P2 := fOrd fun p q => PySem.W.dataLt p q
abbrev fGt : P2 := fOrd fun p q => PySem.W.dataLt q p
abbrev fLe : P2 := fOrd fun p q => !PySem.W.dataLt q p
abbrev fGe : P2 := fOrd fun p q => !PySem.W.dataLt p q
/-- a def of the text, where its name leads -/
def DefOk (K : PySem.W.Frag) (mg : Str → Option Value) (x qual : Str) (st : Stmt) : Prop := ∃ f fd, mg x = some (.ref f) ∧ FunD K x qual (defArgs st) (defBody st) (defScope st) [] [] f fd
section
variable {P : Program} {w : World} {K : PySem.W.Frag} {mg : Str → Option Value} {base : Heap}
theorem FnG.bad {k n : Nat} {x qual : Str} {st : Stmt} (T : DefOk K mg x qual st) (ps : List Str) (hn : ps.length = n)
    (hb : ∀ (kV doc pm : Value) (an : Option Addr) (cdv ct : Value) (us : List Value), us.length = ps.length → bindArgs (PySem.W.fnOf x qual (defArgs st) (defBody st) (defScope st) .none kV doc pm an cdv ct) ⟨us, []⟩ = pure (ps.zip us)) : FnG P w K mg base k x n (fun _ _ => .bad) := by
  obtain ⟨f, fd, hm, F⟩ := T
  have no : ∀ vs H Q E, ¬ FnSp ⟨K, mg⟩ n (fun _ _ => .bad) vs H Q E := fun vs H Q E ⟨_, _, _, _, _, _, z⟩ => z
  exact ⟨f, fd, ps, hm, F.kp, hn, FunD.bindsN F hb, ⟨fun vs H Q E z => absurd z (no vs H Q E), fun A outer s H args us vs Q E _ _ _ _ z => absurd z (no vs H Q E)⟩⟩
end
section
variable {X : Cx} {W : WX} {pos : Pos} {e o : Expr} {d d2 : DE}
/-- xs.pop(i) -/
def dPopAt (d e : DE) : DE := fun env s => (d env s).bind fun x s => if (tl s x).isSome = true then (e env s).bind fun y s => (match x, y with
    | .ref k, .int i => (match s[k]? with
      | some (.lst xs) => (match (if rngB i = true then ixN xs.length i else none) with
        | some j => (match xs[j]? with
          | some z => .ok z (s.set k (.lst (xs.eraseIdx j)))
          | none => .bad)
        | none => .bad)
      | _ => .bad)
    | _, _ => .bad) else .bad
theorem Reps.erase {c : Ct} {w : Wd} : ∀ {ds : List Dt} {vs : List V} (j : Nat), Reps c w ds vs → Reps c w (ds.eraseIdx j) (vs.eraseIdx j)
  | [], vs, j, r => by
    simp only [Reps] at r
    subst r
    simp only [List.eraseIdx_nil, Reps]
  | x :: ds, vs, 0, r => by
    simp only [Reps] at r
    obtain ⟨u, q, rfl, h1, h2⟩ := r
    simpa only [List.eraseIdx_cons_zero] using h2
  | x :: ds, vs, j + 1, r => by
    simp only [Reps] at r
    obtain ⟨u, q, rfl, h1, h2⟩ := r
    simp only [List.eraseIdx_cons_succ, Reps]
    exact ⟨u, _, rfl, h1, Reps.erase j h2⟩
theorem pd_popAt {apos : Pos} (ho : PD X W o d) (he : PD X W e d2) (hbase : attributeBase o "pop" X.env (eval o X.env) = eval o X.env := by rfl)
    (hfew : ((backTo pos (starEach (e :: []) X.env)).all (fun x => !x.1) && (backToKw pos (keywordEach [] X.env)).all (fun x => x.1.isSome)
      && decide ((e :: []).length + ([] : List Keyword).length + (if ([] : List Keyword).isEmpty then 0 else 1) < 30)) = true := by rfl)
    (hline : (apos.endLine == pos.line) = true := by rfl) (hs : starEach (e :: []) X.env = (false, eval e X.env) :: starEach [] X.env := by rfl) (hplain : (backTo pos (starEach [] X.env)).any (·.1) = false := by rfl) : PD X W (.Call (.Attribute o "pop" apos) [e] [] pos) (dPopAt d d2) := by
  refine ⟨(pe_bm PySem.F.plainAttrs_list PySem.F.slot_list_pop PySem.F.type_list_pop mt_popAt ho.pe (pda_cons he pda_nil hs).pa hbase hfew hline hs hplain).of fun σ H Q ⟨env, s, w, sr, g, h⟩ => ⟨env, s, w, sr, g, Aft.bind h fun x s1 w1 v1 H1 _ l1 g1 r1 h1 => ?_⟩⟩
  split at h1
  · rename_i hx
    obtain ⟨xs, ex⟩ := Option.isSome_iff_exists.mp hx
    obtain ⟨a, vs, rfl, q1, q2⟩ := g1.lstT r1 ex
    refine ⟨.inl ⟨rfl, vs, SqL.of q1⟩, env, s1, w1, sr.up l1, g1, ?_⟩
    have e1 : dCons d2 dNil env s1 = (d2 env s1).bind fun x s => .ok [x] s := rfl
    rw [e1]
    cases e2 : d2 env s1 with
    | bad => rw [e2] at h1; exact h1.elim
    | exc x s' => rw [e2] at h1; exact h1
    | ok y s2 =>
      rw [e2] at h1
      intro w2 us H2 l2 g2 r2
      obtain ⟨u, rfl, ru⟩ := reps1 r2
      have h2 := h1.up l2
      cases x with
      | ref k =>
        cases y with
        | int i =>
          have h3 : Aft (ct X) (RD (ct X)) w2 σ W (match s2[k]? with
            | some (.lst xs) => (match (if rngB i = true then ixN xs.length i else none) with
              | some j => (match xs[j]? with
                | some z => .ok z (s2.set k (.lst (xs.eraseIdx j)))
                | none => .bad)
              | none => .bad)
            | _ => .bad) Q := h2
          have r3 := r1.up l2
          simp only [Rep] at r3 ru
          obtain ⟨a', k1, k2⟩ := r3
          cases k2
          cases ec : s2[k]? with
          | none => rw [ec] at h3; exact h3.elim
          | some cl =>
            rw [ec] at h3
            cases cl with
            | lst ys =>
              simp only at h3
              obtain ⟨n5, vs5, h5, q5⟩ := g2.cell _ _ _ ec k1
              by_cases hr : rngB i = true
              case neg => rw [if_neg hr] at h3; exact h3.elim
              rw [if_pos hr] at h3
              cases ej : ixN ys.length i with
              | none => rw [ej] at h3; exact h3.elim
              | some j =>
                rw [ej] at h3
                simp only at h3
                cases ez : ys[j]? with
                | none => rw [ez] at h3; exact h3.elim
                | some z =>
                  rw [ez] at h3
                  obtain ⟨vz, e5, r5⟩ := q5.get ez
                  have hw := g2.write (o := .lst (vs5.eraseIdx j)) (cl := .lst (ys.eraseIdx j)) k1 n5 (g2.cell_lk ec k1 fun d z => by cases z) fun H' e' => ⟨n5, _, e', q5.erase j⟩
                  refine ⟨a, vs5, i, j, vz, rfl, by rw [ru], h5, by have := (rngB_ok hr).1; omega, by have := (rngB_ok hr).2; omega, (ixN_seq (by rw [← q5.length]; exact ej)).1, e5, ?_⟩
                  exact h3.now hw r5
            | _ => exact h3.elim
        | _ => exact h2.elim
      | _ => exact h2.elim
  · exact h1.elim
end
end D
end

section
set_option maxHeartbeats 4000000
/-! own exceptions over any base: stores, super().__init__ -/
namespace PySem
namespace GX
open PySem.W PySem.Calls PyProof.Rows PySem.HandSPX
section
open Builtin Builtin.ObjectAttr
variable {prog : Program} {w : World} {A : Around} {E : Value → Shared → Prop} {R : Result → Shared → Prop} {hp : Heap} {g : Array GenState} {d : Drawn} {t : Nat} {os : OsState} {B : String} {bmB : List Value}
theorem tail_ne {l : List Value} (hb : bmB.isEmpty = false) (e : excTail bmB l = true) : l.isEmpty = false := by
  rcases excTail_cases l e with ⟨c, r, rfl, _⟩ | rfl
  · rfl
  · exact hb
theorem osa_new {K : W.Frag} {name : Str} {tk : Tok} {v : Value} {x C : Addr} {fv : Array Value} {cd : ClassData} (SF0 : StoreFacts B bmB "object.__setattr__" "object") (hbe : bmB.isEmpty = false) (hbo : bmB.contains (.type "object") = true)
    (X : K.In hp) (hx : hp.get? x = some { cls := .ref C, data := .fields fv }) (hcd : W.clsIn K C = some cd) (hm : excTail bmB cd.mro = true) (hh : cd.hasDict = true) (ha : W.findIn K (.ref C) name = some none)
    (hq : ∀ h' tk' dx, (∀ b o, b ≠ x → hp.get? b = some o → h'.get? b = some o) → hp.objs.size ≤ dx → dx ≠ x → h'.get? x = some { cls := .ref C, dict := some dx, data := .fields fv } →
      h'.Ns1 dx (fun y => if y = name then some v else none) → R (.ok (.ret .none)) ⟨h', g, d, tk', os⟩) :
    codeAny (model prog w) A (.call (.builtin "object.__setattr__") ⟨[.ref x, .str name tk, v], []⟩) R ⟨hp, g, d, t, os⟩ := by
  have I : W.InstAt hp x { cls := .ref C, data := .fields fv } C none := ⟨hx, rfl, rfl, trivial⟩
  have SF := F.store_object
  have ne := tail_ne hbe hm
  have hob : cd.mro.contains (.type "object") = true := (excTail_contains "object" _ hm).trans hbo
  have hxs : x ≠ hp.objs.size := Nat.ne_of_lt (Heap.lt_size hx)
  have sub : W.Looks (model prog w) hp (isInstance (.ref x) (.type "object")) true := I.type.andThen (W.looks_mroIn X (by unfold W.mroIn; rw [hcd, Option.bind_some, if_neg (by rw [ne]; decide), hob]))
  refine codeAny_call_builtin SF.slot.plain SF.entry (@W.check_slot (model prog w) _ _ ⟨hp, g, d, t, os⟩ "object.__setattr__" "object" "__setattr__" (.ref x) [.str name tk, v] [] _ SF.kind SF.split sub (SF.args (.ref x) (.str name tk) v) ?_)
  have hmr : W.Looks (model prog w) hp (mroOf (.ref C)) cd.mro := (W.looks_clsIn X hcd).andThen .now
  have L3 : W.Looks (model prog w) hp (storeTaker? none) none := .now
  have hcls : W.Looks (model prog w) hp (classData C) cd := W.looks_clsIn X hcd
  rw [W.osa_eq, refuse_eq]
  refine wpAny_bind (wpAny_bind (I.type.at (wpAny_bind (hmr.at ?_))))
  rw [excTail_pass _ (SF0.passes _) _ hm]
  refine wpAny_pure (wpAny_bind (I.type.at (wpAny_bind ((W.looks_findIn X ha).at (wpAny_bind (L3.at ?_))))))
  show wpAny _ _ (storeInOwnDict (.ref x) (.ref C) (.str name tk) name v false) _ _ _
  obtain ⟨nm, bs, mro, ns, qn, hd, sn, sb, ab, col, del⟩ := cd
  dsimp only at hh
  subst hh
  unfold storeInOwnDict ownDictForStores
  repeat (first | with_reducible refine store_in_new ?_ ?_ | with_reducible refine wpAny_loadPart_at hx ?_ | with_reducible refine hcls.at ?_ | wp_step)
  · exact ⟨_, #[], _, (Heap.get?_update_ne _ _ _ _ hxs.symm).trans (Heap.get?_push_at rfl rfl), rfl, fun e he => absurd he (by simp), fun _ => rfl⟩
  · intro h' tk' hn' hs
    have hx₁ : (hp.push { cls := .type "dict", data := .dict #[] }).get? x = some { cls := .ref C, data := .fields fv } := Heap.get?_push_of_some _ hx
    refine hq h' tk' hp.objs.size (fun b o hb ho => ?_) (Nat.le_refl _) hxs.symm ?_ hn'
    · exact (hs.2 b (Nat.ne_of_lt (Heap.lt_size ho))).trans ((Heap.get?_update_ne _ _ _ _ hb).trans (Heap.get?_push_of_some _ ho))
    · exact (hs.2 x hxs).trans (Heap.get?_update_self _ hx₁ rfl)
theorem osa_old {K : W.Frag} {name : Str} {tk : Tok} {v : Value} {x C dx : Addr} {fv : Array Value} {cd : ClassData} {m0 : Str → Option Value} {nl : List Str} (SF0 : StoreFacts B bmB "object.__setattr__" "object") (hbe : bmB.isEmpty = false) (hbo : bmB.contains (.type "object") = true)
    (X : K.In hp) (hx : hp.get? x = some { cls := .ref C, dict := some dx, data := .fields fv }) (hns : hp.Ns1 dx m0) (hw : Within m0 nl) (hz : nl.length ≤ 1000) (hcd : W.clsIn K C = some cd) (hm : excTail bmB cd.mro = true) (hh : cd.hasDict = true)
    (ha : W.findIn K (.ref C) name = some none)
    (hq : ∀ h' tk', (∀ b o, b ≠ dx → hp.get? b = some o → h'.get? b = some o) → h'.Ns1 dx (fun y => if y = name then some v else m0 y) → R (.ok (.ret .none)) ⟨h', g, d, tk', os⟩) :
    codeAny (model prog w) A (.call (.builtin "object.__setattr__") ⟨[.ref x, .str name tk, v], []⟩) R ⟨hp, g, d, t, os⟩ := by
  obtain ⟨oD, esD, epD, hoD, hdD, _⟩ := hns.count hw
  have I : W.InstAt hp x { cls := .ref C, dict := some dx, data := .fields fv } C (some oD) := ⟨hx, rfl, rfl, hoD⟩
  have SF := F.store_object
  have ne := tail_ne hbe hm
  have hob : cd.mro.contains (.type "object") = true := (excTail_contains "object" _ hm).trans hbo
  have sub : W.Looks (model prog w) hp (isInstance (.ref x) (.type "object")) true := I.type.andThen (W.looks_mroIn X (by unfold W.mroIn; rw [hcd, Option.bind_some, if_neg (by rw [ne]; decide), hob]))
  refine codeAny_call_builtin SF.slot.plain SF.entry (@W.check_slot (model prog w) _ _ ⟨hp, g, d, t, os⟩ "object.__setattr__" "object" "__setattr__" (.ref x) [.str name tk, v] [] _ SF.kind SF.split sub (SF.args (.ref x) (.str name tk) v) ?_)
  have hmr : W.Looks (model prog w) hp (mroOf (.ref C)) cd.mro := (W.looks_clsIn X hcd).andThen .now
  have L3 : W.Looks (model prog w) hp (storeTaker? none) none := .now
  have hcls : W.Looks (model prog w) hp (classData C) cd := W.looks_clsIn X hcd
  rw [W.osa_eq, refuse_eq]
  refine wpAny_bind (wpAny_bind (I.type.at (wpAny_bind (hmr.at ?_))))
  rw [excTail_pass _ (SF0.passes _) _ hm]
  refine wpAny_pure (wpAny_bind (I.type.at (wpAny_bind ((W.looks_findIn X ha).at (wpAny_bind (L3.at ?_))))))
  show wpAny _ _ (storeInOwnDict (.ref x) (.ref C) (.str name tk) name v false) _ _ _
  obtain ⟨nm, bs, mro, ns, qn, hd, sn, sb, ab, col, del⟩ := cd
  dsimp only at hh
  subst hh
  unfold storeInOwnDict ownDictForStores
  repeat (first | with_reducible refine OEX.store_in_old hns hw hz ?_ | with_reducible refine wpAny_loadPart_at hx ?_ | with_reducible refine hcls.at ?_ | wp_step)
  intro h' tk' hn' hs
  exact hq h' tk' (fun b o hb ho => (hs.2 b hb).trans ho) hn'
/-- super().__init__(..) called, any base -/
theorem call_bw {nm q : Str} {C N : Addr} {bs bm : List Value} {hdct : Bool} {sn : List Str} {sub : List Value} {ab : Bool} {col : Option Bool} {dd : Option Addr} {k0 k1 k2 k3 k5 : Option Value} {newId initId : String} (FB : ExcBaseFacts B newId initId bmB) {u e t0 : Addr} {rest : List Value} {Q : Value → Shared → Prop} {h : Heap}
    (hC : h.get? C = some (excClassObj nm q C N bs bm hdct sn sub ab col dd k0 k1 k2 k3 k5 newId)) (he : h.get? e = some (excO C t0)) (hu : h.get? u = some (kxs_mw initId e)) (hrest : rest.length ≤ sizeLine)
    (hq : ∀ h' t1, (∀ b o, b ≠ e → h.get? b = some o → h'.get? b = some o) → h'.get? e = some (excO C t1) → Q .none ⟨h', g, d, t, os⟩) :
    wpAny (model prog w) A (call (.ref u) rest) Q E ⟨h, g, d, t, os⟩ := by
  refine wpAny_call (codeAny_of_tree ?_)
  show wpAny _ A.in1 (callAny (.ref u) ⟨rest, []⟩) _ _ _
  simp only [callAny]
  refine wpAny_bind (wpAny_load hu ?_)
  simp only [kxs_mw, show (Value.type "method-wrapper" == Value.type "method" || Value.type "method-wrapper" == Value.type "builtin_function_or_method" || Value.type "method-wrapper" == Value.type "method-wrapper") = true by decide, if_true]
  refine KFB.if_so (by decide) ?_
  refine wpAny_bind (check_bound_init FB.toExcCallFacts hC he rfl ?_)
  refine wpAny_bind (wpAny_pure (wpAny_pure ?_))
  refine ⟨plainId_quiet FB.init.plain _, codeAny_builtin FB.initEntry ?_⟩
  rw [Around.under_plainId FB.init.plain _]
  wp_walk
  refine hq _ h.objs.size (fun b o hb ho => ?_) ?_
  · rw [Heap.get?_update_other _ _ (Ne.symm hb)]
    exact Heap.get?_push_of_some _ ho
  · rw [Heap.get?_update_self _ (Heap.get?_push_of_some _ he) rfl]
    rfl
end
end GX
end PySem
end

section
set_option maxHeartbeats 4000000
namespace L2
open PySem PySem.Spec PyProof.Rows
/-- what the written part says of an own exception class -/
structure OexG (K : PySem.W.Frag) (C : Addr) (B newId initId : String) (bmB : List Value) : Prop where
  base : ExcBaseFacts B newId initId bmB
  st : StoreFacts B bmB "object.__setattr__" "object"
  ks : PySem.W.KxsFacts B initId
  ne : bmB.isEmpty = false
  ob : bmB.contains (.type "object") = true
  q : PySem.W.excInitIn K C bmB newId = true
  hd : PySem.W.hasDictIn K C = true
  sa : PySem.W.findIn K (.ref C) "__setattr__" = some (some (.builtin "object.__setattr__"))
  exC : PySem.W.subIn K (.ref C) (.type "BaseException") = some true
  subB : PySem.W.subIn K (.ref C) (.type B) = some true
  tyC : PySem.W.typeIn K (.ref C) = some (.type "type")
  kC : PySem.W.keepIn K (.ref C) = true
theorem OexG.cd {K : PySem.W.Frag} {C : Addr} {B newId initId : String} {bmB : List Value} (T : OexG K C B newId initId bmB) : ∃ cd, PySem.W.clsIn K C = some cd ∧ PySem.W.excTail bmB cd.mro = true ∧ cd.hasDict = true ∧ ∃ bm, cd.mro = .ref C :: bm := by
  have q := T.q
  unfold PySem.W.excInitIn at q
  split at q
  · rename_i dd cd sl ho
    split at q
    · rename_i C' bm k0 k1 k2 k3 n k5 hm hs
      simp only [Bool.and_eq_true, beq_iff_eq, Bool.not_eq_true'] at q
      have hc : PySem.W.clsIn K C = some cd := by
        unfold PySem.W.clsIn
        rw [ho] <;> rfl
      have hd := T.hd
      unfold PySem.W.hasDictIn at hd
      rw [hc] at hd
      refine ⟨cd, hc, ?_, hd, bm, ?_⟩
      · rw [hm]
        exact q.2
      · rw [hm, q.1.1.1]
    · cases q
  · cases q
section
variable {X : Cx} {pins : List (Addr × Obj)} {σ : St} {H : Hp} {s : Shared} {a C dx : Addr} {f : Str} {y : V} {u : Value} {fs : List (Str × V)} {Q : Unit → Shared → Prop} {E : Value → Shared → Prop} {A : Around} {B newId initId : String} {bmB : List Value}
/-- self.f = y, the first one -/
theorem gst_new (T : OexG X.K C B newId initId bmB) (I : Inv X pins σ H s) (e : H a = some (exo a C none)) (hno : PySem.W.findIn X.K (.ref C) f = some none) (ry : RelV y u)
    (h : ∀ dx s', H dx = none → dx ≠ a → Inv X pins σ (upd (upd H dx (exd dx [(f, y)])) a (exo a C (some dx))) s' → Q () s') : wpAny (model X.prog X.w) A (setAttr (.ref a) f u) Q E s := by
  obtain ⟨cd, hcl, hm, hh, _⟩ := T.cd
  obtain ⟨t1, ho⟩ := exo_at I.hok e
  obtain ⟨hp, g, d, t, os⟩ := s
  refine PySem.W.set_plain I.kIn (ox := { cls := .ref C, dict := none, data := .fields #[.ref t1, .none, .none, .none, .bool false, .none] }) (od := none) ⟨ho, rfl, rfl, trivial⟩ T.sa ?_
  refine PySem.GX.osa_new T.st T.ne T.ob I.kIn ho hcl hm hh hno (fun h' tk' dx k dn dne hx hn => ?_)
  have hnd : H dx = none := I.hok.fresh dn
  have nd : ∀ {b : Addr} {o : Obj}, hp.get? b = some o → b ≠ dx := fun {b o} q => Nat.ne_of_lt (Nat.lt_of_lt_of_le (Heap.lt_size q) dn)
  have na : ∀ {b : Addr}, H b = none → b ≠ a := fun {b} n z => by
    rw [z, e] at n
    cases n
  have Un1 : Un X.fs [] H (upd (upd H dx (exd dx [(f, y)])) a (exo a C (some dx))) hp h' := {
    keep := fun b o q n _ _ => k b o (na n) q
    slot := fun b o q n _ _ => ⟨o.slots, k b o (na n) q⟩
    free := fun b o q n _ => by rw [upd_ne (na n), upd_ne (nd q)]; exact n
    there := fun b o q _ => by
      by_cases hb : b = a
      · exact ⟨_, by rw [hb]; exact hx⟩
      · exact ⟨o, k b o hb q⟩
    tups := fun b xs q => by rw [upd_ne (at_ne e q exo_tup), upd_ne (ne_of_none q hnd)]; exact q
    frzs := fun b o v q => by rw [upd_ne (at_ne e q exo_frz), upd_ne (ne_of_none q hnd)]; exact q
    tbls := fun b ps q => ⟨#[], by rw [upd_ne (at_ne e q exo_tbl), upd_ne (ne_of_none q hnd), q]; simp⟩ }
  refine h dx _ hnd dne (I.un (t' := tk') Un1 fun b o q => ?_)
  by_cases hb : b = a
  · subst hb
    rw [upd_same] at q
    cases q
    exact exo_ok hx
  · rw [upd_ne hb] at q
    by_cases hd : b = dx
    · subst hd
      rw [upd_same] at q
      cases q
      exact exd_ok hn (relO_put (fs := []) ry fun g => True.intro)
    · rw [upd_ne hd] at q
      exact (I.hok b o q).stay (fun c v hc z => k c v (by
          rcases hc with hc | hc
          · rw [hc]
            exact hb
          · exact at_ne e hc exo_own) z)
        (fun c hc => by rw [upd_ne (at_ne e hc exo_own), upd_ne (ne_of_none hc hnd)]; exact hc) (fun c xs hc => by rw [upd_ne (at_ne e hc exo_tup), upd_ne (ne_of_none hc hnd)]; exact hc)
/-- self.f = y, a further one -/
theorem gst_old (T : OexG X.K C B newId initId bmB) (I : Inv X pins σ H s) (e : H a = some (exo a C (some dx))) (ed : H dx = some (exd dx fs)) (hl : fs.length ≤ 900) (hno : PySem.W.findIn X.K (.ref C) f = some none) (ry : RelV y u)
    (h : ∀ s', Inv X pins σ (upd H dx (exd dx ((f, y) :: fs))) s' → Q () s') : wpAny (model X.prog X.w) A (setAttr (.ref a) f u) Q E s := by
  obtain ⟨cd, hcl, hm, hh, _⟩ := T.cd
  obtain ⟨t1, ho⟩ := exo_at I.hok e
  obtain ⟨mA, hns, rel⟩ := exd_at I.hok ed
  have hw := within_of rel
  obtain ⟨hp, g, d, t, os⟩ := s
  obtain ⟨oD, _, _, hoD, _, _⟩ := hns.count hw
  refine PySem.W.set_plain I.kIn (ox := { cls := .ref C, dict := some dx, data := .fields #[.ref t1, .none, .none, .none, .bool false, .none] }) (od := some oD) ⟨ho, rfl, rfl, hoD⟩ T.sa ?_
  refine PySem.GX.osa_old T.st T.ne T.ob I.kIn ho hns hw (by rw [List.length_map]; omega) hcl hm hh hno (fun h' tk' k hn => ?_)
  have hd : ∃ o, h'.get? dx = some o := by
    obtain ⟨o, _, _, e', _⟩ := hn
    exact ⟨o, e'⟩
  exact h _ (I.write (t' := tk') (x := dx) (e := dx) (o := exd dx ((f, y) :: fs)) (by rw [ed]; exact True.intro) (.inl rfl) k hd (exd_ok hn (relO_put ry rel)))
end
/-- self.f = e -/
def tGst (K : PySem.W.Frag) (f : Str) (to te : TE) : TS := fun D σ H => te σ H fun y H1 => to σ H1 fun x H2 => ∃ (a C : Addr) (B newId initId : String) (bmB : List Value), x = .ref a ∧ OexG K C B newId initId bmB ∧ PySem.W.findIn K (.ref C) f = some none ∧
  ((H2 a = some (exo a C none) ∧ ∀ dx, H2 dx = none → dx ≠ a → D.nx σ (upd (upd H2 dx (exd dx [(f, y)])) a (exo a C (some dx)))) ∨
    ∃ (dx : Addr) (fs : List (Str × V)), H2 a = some (exo a C (some dx)) ∧ H2 dx = some (exd dx fs) ∧ fs.length ≤ 900 ∧ D.nx σ (upd H2 dx (exd dx ((f, y) :: fs))))
theorem ps_gst {X : Cx} {o e : Expr} {to te : TE} {f : Str} {p' pos : Pos} (ho : PE X o to) (he : PE X e te) (hs : swapsWith e (some (.Attribute o f p')) pos.line X.env = pure false := by rfl) : PS X (.Assign [.Attribute o f p'] e pos) (tGst X.K f to te) := by
  refine ⟨fun pins s σ H D I h => ?_⟩
  refine plainObj_wpAny_Assign_Attribute (thn (he.run pins s σ H _ I h) fun v s1 ⟨y, H1, I1, r1, q1⟩ => thn (ho.run pins s1 σ H1 _ I1 q1) fun u s2 ⟨x, H2, I2, r2, a, C, B, newId, initId, bmB, ex, T, hno, q⟩ => ?_) hs
  subst ex
  obtain rfl : u = Value.ref a := r2
  rcases q with ⟨ea, q⟩ | ⟨dx, fs, ea, ed, hl, q⟩
  · exact gst_new T I2 ea hno r1 fun dx s' n ne J => ⟨σ, _, J, q dx n ne⟩
  · exact gst_old T I2 ea ed hl hno r1 fun s' J => ⟨σ, _, J, q⟩
/-! ### a def whose first statement is super().__init__(..), in an own exception class -/
open NdefX
structure SupTxt (P : Program) (K : PySem.W.Frag) (mg : Str → Option Value) (F : NF) (C cc : Addr) : Prop where
  cl : F.cl = [(("__class__" : Str), cc)]
  cell : ∃ c cd sl, K.lookup cc = some ⟨c, cd, .cell (some (.ref C)), sl⟩
  code : ∃ c cd vs sl file tf, K.lookup F.c = some ⟨c, cd, .fields vs, sl⟩ ∧ vs[2]? = some (.str file tf) ∧ ((P.main.file : Str) == file) = true
  hcd : PySem.W.codeIn K (.ref F.c) F.qual = true
  sup : mg "super" = none
  top : (P.main.scope.names.lookup ("super" : Str)).isSome = false
  opq : PySem.W.nsIn K cStatics "thirdparty.any" = some none
theorem fn_sup {P : Program} {w : World} {K : PySem.W.Frag} {mg : Str → Option Value} {base : Heap} {CX : CXT} {k : Nat} {f C cc : Addr} {F : NF} {N ps : List Str} {sp : Sp} {B newId initId : String} {bmB : List Value} {e0 : Expr} {es : List Expr} {rest : List Stmt} {p0 p1 p2 pos pos2 : Pos} {doc pm ctv oc : Value} {od : Option Addr} {osl : Array (Option Value)} {self : Str} {pl : Env → Sem Bool}
    (lk : K.lookup f = some ⟨oc, od, .func (F.fd doc pm ctv), osl⟩) (T : OexG K C B newId initId bmB) (U : SupTxt P K mg F C cc) (S : NScope N ps ["__class__"] F.scope) (hks : F.scope.names.lookup ("super" : Str) = some .globalImplicit)
    (hself : ∃ ar, (F.params.posonlyargs ++ F.params.args).head? = some ar ∧ ar.arg = self) (hp0 : ps[0]? = some self) (hsup : PySem.W.ks_superIn K C C "__init__" = some (some (.builtin initId)))
    (hbody : F.body = .Expr (.Call (.Attribute (.Call (.Name "super" p0) [] [] p1) "__init__" p2) (e0 :: es) [] pos) pos2 :: rest)
    (hm : ∀ env : Env, eval (.Call (.Attribute (.Call (.Name "super" p0) [] [] p1) "__init__" p2) (e0 :: es) [] pos) env = (do
      let ov ← attributeBase (.Call (.Name "super" p0) [] [] p1) "__init__" env (eval (.Call (.Name "super" p0) [] [] p1) env)
      standAt p2.atName
      let (f, first) ← holding [ov] (getMethod ov "__init__" (pl env))
      callWith pos f first (backTo pos (starEach (e0 :: es) env)) []))
    (hst : ∀ env : Env, starEach (e0 :: es) env = (false, eval e0 env) :: starEach es env) (hpl : ∀ env : Env, (backTo pos (starEach es env)).any (·.1) = false)
    (hsw : ∀ env : Env, swapsWith (.Call (.Attribute (.Call (.Name "super" p0) [] [] p1) "__init__" p2) (e0 :: es) [] pos) none pos2.line env = pure false)
    (len : ∀ vs H Q E, sp vs H Q E → vs.length = ps.length)
    (hrun : ∀ (A : Around) (outer : List Env) (s : Shared) (H : Hp) (vs : List V) (Q : VK) (E : XK), Room k (A.deeper (envF F f s.heap.objs.size)) → sp vs H Q E →
      ∃ ta t a ws, PA (ncx CX P w K mg base N F f A outer s H E) (e0 :: es) ta ∧ PSs (ncx CX P w K mg base N F f A outer s H E) rest t ∧ vs = .ref a :: ws ∧ H a = some (exo a C none) ∧
        ta (startF N vs [some (.ref C)]) H (fun us H1 => us.length ≤ 1000 ∧ H1 a = some (exo a C none) ∧ t { nx := fun _ H' => Q .non H', rt := Q } (startF N vs [some (.ref C)]) H1)) :
    FnOk P w K mg base CX (k + 1) f (F.fd doc pm ctv) ps sp := by
  refine ⟨len, fun A outer s H args us vs Q E hr e0' hbd r hsp => ?_⟩
  have hl := len _ _ _ _ hsp
  have KX : K.In s.heap := e0'.mod.kin.keeps fun b o e => (e0'.bs b o e).1
  have lim : s.heap.NoLimit := e0'.mod.nolimit.keeps fun b o e => (e0'.bs b o e).1
  obtain ⟨ta, t, a, ws, ha, ht, rfl, ea, q⟩ := hrun A outer s H vs Q E (hr.deeper _) hsp
  obtain ⟨c1, cd1, sl1, hcell⟩ := U.cell
  have CA : CellsAt F.cl ["__class__"] [some (V.ref C)] s.heap H := by
    refine ⟨rfl, fun y c e => ?_, fun x y c e1 e2 => ?_, fun i y e => ?_⟩
    · rw [U.cl] at e
      have hc : c = cc := by
        by_cases hy : y = ("__class__" : Str)
        · subst hy; simp [List.lookup] at e; exact e.symm
        · have : (y == ("__class__" : Str)) = false := by simpa using hy
          simp [List.lookup, this] at e
      subst hc
      exact ⟨(e0'.bs _ _ (e0'.mod.kin _ _ hcell)).2, _, _, KX _ _ hcell, rfl⟩
    · rw [U.cl] at e1 e2
      have one : ∀ z : Str, List.lookup z [(("__class__" : Str), cc)] = some c → z = "__class__" := fun z e => by
        by_cases hy : z = ("__class__" : Str)
        · exact hy
        · have : (z == ("__class__" : Str)) = false := by simpa using hy
          simp [List.lookup, this] at e
      rw [one x e1, one y e2]
    · cases i with
      | zero =>
        simp at e
        subst e
        refine ⟨cc, by rw [U.cl]; simp [List.lookup], fun v ev => ?_⟩
        simp at ev
        subst ev
        exact ⟨.ref C, rfl, _, KX _ _ hcell, rfl⟩
      | succ i => simp at e
  refine ks_codeAny_call_defAt (fd := F.fd doc pm ctv) (body := F.body) (binds := ps.zip us) hr.depth (KX _ _ lk) rfl lim (PySem.W.codeRec_of KX U.hcd) rfl hbd S.nocell (fun ⟨n, _⟩ hy => S.par n (List.of_mem_zip hy).1) (fun h₁ hns kp => ?_) S.co S.gen S.kind
  have I : Inv (ncx CX P w K mg base N F f A outer s H E) [] (startF N (V.ref a :: ws) [some (V.ref C)]) H { s with heap := h₁, toks := s.toks + (ps.zip us).length } := inv_startN S hr.hd e0' hl r CA hns kp
  show PySem.wpAt (model P w) (A.deeper (envF F f s.heap.objs.size)) (.func F.body (envF F f s.heap.objs.size)) (execs F.body (envF F f s.heap.objs.size)) _ _ _
  rw [show execs F.body (envF F f s.heap.objs.size) = execs (.Expr (.Call (.Attribute (.Call (.Name "super" p0) [] [] p1) "__init__" p2) (e0 :: es) [] pos) pos2 :: rest) (envF F f s.heap.objs.size) from congrArg (fun b => execs b (envF F f s.heap.objs.size)) hbody]
  have fin : ∀ {σ' : L2.St} {H' : Hp} {v : V} {u : Value} {s' : Shared}, Inv (ncx CX P w K mg base N F f A outer s H E) [] σ' H' s' → L2.RelV v u → Q v H' → CE outer P w H s Q u s' :=
    fun {σ' H' v u s'} J rv q => ⟨v, H', J.os, J.bare, J.base, J.hok, rv, q⟩
  -- the rest behind the first statement
  have rest_ok : ∀ s2, (∃ σ2 H2, Inv (ncx CX P w K mg base N F f A outer s H E) [] σ2 H2 s2 ∧ t { nx := fun _ H' => Q .non H', rt := Q } σ2 H2) →
      PySem.wpAt (model P w) (A.deeper (envF F f s.heap.objs.size)) (.func F.body (envF F f s.heap.objs.size)) (execs rest (envF F f s.heap.objs.size)) (fun fl s' => CR CX outer P w H s Q E (.ok (.ret (match fl with | .ret v => v | _ => .none))) s')
        (fun e s' => wpAny (model P w) (A.deeper (envF F f s.heap.objs.size)) (leaving (envF F f s.heap.objs.size) e) (fun _ s'' => CR CX outer P w H s Q E (.error e) s'') (fun e' s'' => CR CX outer P w H s Q E (.error e') s'') s') s2 := by
    rintro s2 ⟨σ2, H2, I2, q2⟩
    refine PySem.wpAt_of_wpAny (wpAny_mono (ht.run [] s2 σ2 H2 _ I2 q2) (fun fl s' hs => ?_) fun e s' hs => hs)
    cases fl with
    | ret u =>
      obtain ⟨v, σ', H', J, rv, q⟩ := hs
      exact fin J rv q
    | next =>
      obtain ⟨σ', H', J, q⟩ := hs
      exact fin (v := V.non) (u := Value.none) J rfl q
    | brk =>
      obtain ⟨_, _, _, q⟩ := hs
      exact False.elim q
    | cont =>
      obtain ⟨_, _, _, q⟩ := hs
      exact False.elim q
  refine ks_wpAt_execs_cons ?_
  refine ks_wpAt_Expr_any ?_ I.quiet (hsw _)
  refine ks_wpAt_MethodCall (pl := pl _) ?_ (hm _)
  -- super()
  generalize hs1 : ({ s with heap := h₁, toks := s.toks + (ps.zip us).length } : Shared) = s1 at I ⊢
  have I1k : K.In s1.heap := I.kIn
  obtain ⟨c2, cd2, vs2, sl2, file, tf, hcode, hvs, hfile⟩ := U.code
  obtain ⟨ar, har, harn⟩ := hself
  obtain ⟨cd, hcl, hmro, hhd, bm, hbm⟩ := T.cd
  obtain ⟨oC, hC1, hC2⟩ : ∃ oC, s1.heap.get? C = some oC ∧ oC.data = .cls cd := by
    unfold PySem.W.clsIn at hcl
    split at hcl
    · rename_i c d cd' sl ho
      cases hcl
      exact ⟨_, I1k _ _ ho, rfl⟩
    · cases hcl
  obtain ⟨t1, hx⟩ := exo_at I.hok ea
  obtain ⟨mb, hb1, hb2⟩ := I.mod.blt
  refine ks_wpAt_super_base (env := envF F f s.heap.objs.size) hks (S.frk _ (by simp)) rfl rfl (I1k _ _ lk) rfl har rfl (I1k _ _ hcode) rfl hvs hfile U.top ?_
  refine PySem.W.ks_loadName_global S.kind hks (PySem.Calls.loadGlobal_builtin (env := envF F f s.heap.objs.size) (I.mod.glob.keeps I.bk) U.sup (hb1.keeps I.bk) ((hb2 _ (by decide)).trans (by rfl)) ⟨rfl, ?_⟩)
  refine wpAny_loadName_free S.kind (S.frk _ (by simp)) (c := cc) (v := .ref C) (by show List.lookup _ F.cl = _; rw [U.cl]; simp [List.lookup]) ⟨_, I1k _ _ hcell, rfl⟩ ?_
  obtain ⟨m, hn, hlk⟩ := I.loc
  have hN0 : N[0]? = some self := by
    have hps : 0 < ps.length := (List.getElem?_eq_some_iff.mp hp0).1
    have e1 : (N.take (ps.length + ([("__class__" : Str)] : List Str).length))[0]? = (ps ++ ([("__class__" : Str)] : List Str))[0]? := congrArg (fun l : List Str => l[0]?) S.pre
    rw [List.getElem?_take_of_lt (by omega), List.getElem?_append_left hps, hp0] at e1
    exact e1
  have hvself : m self = some (.ref a) := by
    obtain ⟨u0, ru, lo⟩ := hlk 0 self (.ref a) hN0 (by simp [startF]) (.inl (S.par _ (List.mem_of_getElem? hp0)))
    obtain rfl : u0 = .ref a := ru
    rcases lo with ⟨_, h⟩ | ⟨h, _⟩
    · exact h
    · have k := S.par _ (List.mem_of_getElem? hp0)
      rcases h with h | h
      · have h' : F.scope.names.lookup self = some .cell := h
        rw [k] at h'; cases h'
      · have h' : F.scope.names.lookup self = some .free := h
        rw [k] at h'; cases h'
  refine wpAny_loadName_local S.kind (by rw [harn]; exact S.par _ (List.mem_of_getElem? hp0)) hn (by rw [harn]; exact hvself) ?_
  refine ks_wpAny_isType_cls hC1 hC2 ⟨rfl, ?_⟩
  obtain ⟨hp, g1, d1, tk1, os1⟩ := s1
  refine ks_wpAny_call_super hC1 hC2 hx rfl (fun c e => by cases e) (PySem.W.looks_mroIn I1k (by unfold PySem.W.mroIn; rw [hcl, Option.bind_some, hbm]; simp)) (fun h2 e2 k2 => ?_)
  have I2 : Inv (ncx CX P w K mg base N F f A outer s H E) [] (startF N (V.ref a :: ws) [some (V.ref C)]) H ⟨h2, g1, d1, tk1, os1⟩ := I.kept (t' := tk1) k2
  have hx2 := k2 _ _ hx
  have IA : PySem.W.InstAt h2 a _ C none := ⟨hx2, rfl, rfl, trivial⟩
  refine PySem.W.kxs_getMethod T.ks e2 (PySem.W.looks_opaque I2.kIn U.opq) (l₀ := cd.mro) ((PySem.W.looks_clsIn I2.kIn hcl).andThen .now) rfl I2.kIn ?_ (IA.type.andThen (PySem.W.looks_subIn I2.kIn T.subB)) (PySem.W.ks_ne I2.kIn IA hcl) rfl ?_
  · have h0 := hsup
    unfold PySem.W.ks_superIn at h0
    rw [hcl] at h0
    exact h0
  -- the arguments, the wrapper pinned
  have hpush : (h2.push (PySem.W.kxs_mw initId a)).get? h2.objs.size = some (PySem.W.kxs_mw initId a) := Heap.get?_push_at rfl rfl
  have I3 : Inv (ncx CX P w K mg base N F f A outer s H E) [] (startF N (V.ref a :: ws) [some (V.ref C)]) H ⟨h2.push (PySem.W.kxs_mw initId a), g1, d1, tk1 + 1, os1⟩ := I2.kept (t' := tk1 + 1) fun b o e => Heap.get?_push_of_some _ e
  have I4 : Inv (ncx CX P w K mg base N F f A outer s H E) [(h2.objs.size, PySem.W.kxs_mw initId a)] (startF N (V.ref a :: ws) [some (V.ref C)]) H ⟨h2.push (PySem.W.kxs_mw initId a), g1, d1, tk1 + 1, os1⟩ := I3.pins_of fun p hp => by
    have e : p = (h2.objs.size, PySem.W.kxs_mw initId a) := by simpa using hp
    subst e
    exact ⟨hpush, I2.hok.fresh (Nat.le_refl _), Nat.ne_of_gt I2.lt, I2.nofs (Nat.le_refl _), fun v z => by cases z⟩
  have hA := ha.run pos _ _ _ _ _ I4 q
  rw [hst] at hA ⊢
  refine PySem.W.kxs_callWith (i := initId) (x := a) (by show (false || (backTo pos (starEach es _)).any (·.1)) = false; rw [hpl] <;> rfl) (PySem.Calls.evalArgs_plain ?_)
  refine thn hA fun us5 s5 ⟨vs5, H5, I5, r5, hz5, ea5, q5⟩ => ?_
  have hu5 := (I5.pin (h2.objs.size, PySem.W.kxs_mw initId a) (List.mem_append_right _ (by simp))).1
  refine ⟨hu5, ?_⟩
  obtain ⟨t5, hx5⟩ := exo_at I5.hok ea5
  obtain ⟨nm, N', qn, bs, bm', hdct, sn, sub, ab, col, dd, k0, k1, k2', k3, k5, hC5, hT5⟩ := PySem.W.excInit_of I5.kIn T.q
  have I6 : Inv (ncx CX P w K mg base N F f A outer s H E) [] (startF N (V.ref a :: ws) [some (V.ref C)]) H5 s5 := I5.pins_of fun p hp => absurd (show p ∈ ([] : List (Addr × Obj)) from hp) (by simp)
  obtain ⟨hp5, g5, d5, tk5, os5⟩ := s5
  refine PySem.GX.call_bw T.base hC5 hx5 hu5 (by show us5.length ≤ sizeLine; rw [← r5.length, sizeLine_eq]; omega) fun h6 t6 kp6 hx6 => ?_
  have J := I6.write (t' := tk5) (x := a) (e := a) (o := exo a C none) (by rw [ea5]; exact True.intro) (.inl rfl) kp6 ⟨_, hx6⟩ (exo_ok hx6)
  have eu : upd H5 a (exo a C none) = H5 := by
    funext b
    by_cases hb : b = a
    · rw [hb, upd_same, ea5]
    · rw [upd_ne hb]
  rw [eu] at J
  exact rest_ok _ ⟨_, _, J, q5⟩
end L2
end

section
set_option maxHeartbeats 4000000
/-! own exceptions made with keywords -/
namespace PySem
namespace GX
open PySem.W PySem.Calls PyProof.Rows PySem.HandSPX
section
variable {M : Model} {A : Around} {E : Value → Shared → Prop} {h : Heap} {g : Array GenState} {d : Drawn} {t : Nat} {os : OsState}
variable {nm q : Str} {C N : Addr} {bs bm bmB : List Value} {hdct : Bool} {sn : List Str} {sub : List Value} {ab : Bool} {col : Option Bool} {dd : Option Addr} {k0 k1 k2 k3 k5 : Option Value} {B newId initId : String}
theorem check_new_kw (F : ExcBaseFacts B newId initId bmB) (hT : ∀ X : String, bm.contains (.type X) = bmB.contains (.type X)) {rest : List Value} {kw : List (Str × Value)} {Q : Unit → Shared → Prop}
    (hC : h.get? C = some (excClassObj nm q C N bs bm hdct sn sub ab col dd k0 k1 k2 k3 k5 newId)) (hq : Q () ⟨h, g, d, t, os⟩) : wpAny M A (checkBuiltinCall newId ⟨.ref C :: rest, kw⟩) Q E ⟨h, g, d, t, os⟩ := by
  have hcont : (Value.ref C :: bm).contains (.type B) = true := by rw [List.contains_cons, hT, F.hasB, Bool.or_true]
  have hstar := F.noStar
  simp only [checkBuiltinCall, F.newKind, F.newSplit, F.newRow]
  repeat (first | refine wpAny_loadPart_at hC ?_ | (refine wpAny_isSubtype_exc hC ?_; rw [hcont]) | refine wpAny_staticBase_exc hC ?_ | refine wpAny_madeBy_exc hC ?_ | simp only [bne_self_eq_false, Bool.false_eq_true, if_false] | wp_step)
  exact hq
end
section
variable {prog : Program} {w : World} {A : Around} {E : Value → Shared → Prop} {R : Result → Shared → Prop} {h : Heap} {g : Array GenState} {d : Drawn} {t : Nat} {os : OsState}
variable {nm q : Str} {C N : Addr} {bs bm bmB : List Value} {hdct : Bool} {sn : List Str} {sub : List Value} {ab : Bool} {col : Option Bool} {dd : Option Addr} {k0 k1 k2 k3 k5 : Option Value} {B newId initId : String}
theorem new_kw (F : ExcBaseFacts B newId initId bmB) (hT : ∀ X : String, bm.contains (.type X) = bmB.contains (.type X)) {rest : List Value} {kw : List (Str × Value)}
    (hC : h.get? C = some (excClassObj nm q C N bs bm hdct sn sub ab col dd k0 k1 k2 k3 k5 newId))
    (hq : R (.ok (.ret (.ref (h.objs.size + 1)))) ⟨(h.push { cls := .type "tuple", data := .seq rest.toArray }).push
      { cls := .ref C, data := .fields #[.ref h.objs.size, .none, .none, .none, .bool false, .none] }, g, d, t, os⟩) (hrest : rest.length ≤ sizeLine) :
    codeAny (model prog w) A (.builtin newId ⟨.ref C :: rest, kw⟩) R ⟨h, g, d, t, os⟩ := by
  have hends := F.ends
  have hcB : (Value.ref C :: bm).contains (.type B) = true := by rw [List.contains_cons, hT, F.hasB, Bool.or_true]
  have hcA : (Value.ref C :: bm).contains (.type "AttributeError") = false := by rw [List.contains_cons, hT, F.noAttr]; rfl
  have hcN : (Value.ref C :: bm).contains (.type "NameError") = false := by rw [List.contains_cons, hT, F.noName]; rfl
  refine codeAny_builtinAt F.entry ?_
  unfold Builtin.«BaseException.__new__»
  refine wpAt_bind ?_
  show wpAt _ _ _ (stack >>= _) _ _ _
  refine wpAt_bind (wpAt_stack fun p below => wpAt_of_wpAny ?_)
  wp_walk
  refine wpAt_of_wpAny ?_
  rw [F.owner]
  repeat (first | with_reducible refine wpAny_madeHere_exc F.canon hC ?_ | with_reducible refine wpAny_loadPart_at hC ?_ | (with_reducible refine wpAny_isSubtype_exc hC ?_; first | rw [hcB] | rw [hcA] | rw [hcN]) | wp_step)
  show R _ _
  rw [Heap.size_push]
  exact hq
theorem type_call_kw (F : ExcBaseFacts B newId initId bmB) (hT : ∀ X : String, bm.contains (.type X) = bmB.contains (.type X)) {rest : List Value} {kw : List (Str × Value)} {fI : Addr} {Q : Fin → Shared → Prop}
    (hC : h.get? C = some (excClassObj nm q C N bs bm hdct sn sub ab col dd k0 k1 k2 k3 k5 newId))
    (hi : W.Looks (model prog w) h (typeLookup (.ref C) "__init__") (some (.ref fI))) (hb : ∀ self, W.Looks (model prog w) h (bindSpecial (.ref fI) self) (.ref fI, [self])) (hrest : rest.length ≤ sizeLine)
    (hq : codeAny (model prog w) A (.call (.ref fI) ⟨.ref (h.objs.size + 1) :: rest, kw⟩)
      (fun r s' => match r with | .ok (.ret v) => v = .none ∧ Q (.done (.ret (.ref (h.objs.size + 1)))) s' | .ok _ => False | .error e => E e s')
      ⟨(h.push (W.kdv_tup rest)).push (excO C h.objs.size), g, d, t, os⟩) :
    wpAny (model prog w) A (Builtin.«type.__call__» ⟨.ref C :: rest, kw⟩) Q E ⟨h, g, d, t, os⟩ := by
  repeat (first | with_reducible refine wpAny_loadPart_at hC ?_ | with_reducible refine wpAny_madeBy_exc hC ?_ | wp_step)
  refine codeAny_call_builtin_code (Code.quiet_builtin _ F.quiet) (check_new_kw F hT hC ?_)
  refine new_kw F hT hC ?_ hrest
  show wpAny _ _ _ _ _ _
  have k : ∀ b o, h.get? b = some o → ((h.push (W.kdv_tup rest)).push (excO C h.objs.size)).get? b = some o := fun b o e => Heap.get?_push_of_some _ (Heap.get?_push_of_some _ e)
  have hC₁ := k _ _ hC
  have hget : ((h.push (W.kdv_tup rest)).push (excO C h.objs.size)).get? (h.objs.size + 1) = some (excO C h.objs.size) := by heap_get
  have hcC : (Value.ref C :: bm).contains (.ref C) = true := by simp
  have i1 := hi.keeps k
  have b1 := (hb (.ref (h.objs.size + 1))).keeps k
  unfold isInstance
  repeat (first | with_reducible refine wpAny_loadPart_at hget ?_ | (with_reducible refine wpAny_isSubtype_exc hC₁ ?_; rw [hcC]) | wp_step)
  show wpAny _ _ (typeLookup (.ref C) _) _ _ _
  refine i1.at ?_
  refine wpAny_holding (wpAny_bind (b1.at ?_))
  refine wpAny_bind (wpAny_call (codeAny_mono hq fun r s' z => ?_))
  rcases r with e | (v | _ | _ | _) <;> first | exact z | exact z.elim | skip
  obtain ⟨rfl, z⟩ := z
  first
    | exact wpAny_pure (wpAny_pure z)
    | (wp_walk; exact z)
theorem check_tc_kw {M : Model} {rest : List Value} {kw : List (Str × Value)} {Q : Unit → Shared → Prop} (hC : h.get? C = some (excClassObj nm q C N bs bm hdct sn sub ab col dd k0 k1 k2 k3 k5 newId))
    (hq : Q () ⟨h, g, d, t, os⟩) : wpAny M A (checkBuiltinCall "type.__call__" ⟨.ref C :: rest, kw⟩) Q E ⟨h, g, d, t, os⟩ := by
  have f3 := tc_sub
  have hT : (⟨h, g, d, t, os⟩ : Shared).TypeIs (.ref C) "type" := ⟨_, hC, rfl⟩
  simp only [checkBuiltinCall, tc_kind, tc_split]
  repeat (any_goals (first | assumption | with_reducible refine wpAny_loadPart_at hC ?_ | with_reducible refine wpAny_onRaise ?_ | with_reducible refine wpAny_map ?_ | wp_step))
theorem call_kw (F : ExcBaseFacts B newId initId bmB) (hT : ∀ X : String, bm.contains (.type X) = bmB.contains (.type X)) {rest : List Value} {kw : List (Str × Value)} {fI : Addr}
    (hC : h.get? C = some (excClassObj nm q C N bs bm hdct sn sub ab col dd k0 k1 k2 k3 k5 newId))
    (hi : W.Looks (model prog w) h (typeLookup (.ref C) "__init__") (some (.ref fI))) (hb : ∀ self, W.Looks (model prog w) h (bindSpecial (.ref fI) self) (.ref fI, [self])) (hrest : rest.length ≤ sizeLine)
    (hq : codeAny (model prog w) (A.under (.builtin "type.__call__" ⟨.ref C :: rest, kw⟩)) (.call (.ref fI) ⟨.ref (h.objs.size + 1) :: rest, kw⟩) (W.InitBack (h.objs.size + 1) R)
      ⟨(h.push (W.kdv_tup rest)).push (excO C h.objs.size), g, d, t, os⟩) :
    codeAny (model prog w) A (.call (.ref C) ⟨rest, kw⟩) R ⟨h, g, d, t, os⟩ := by
  have f1 := tc_lookup
  have f2 := tc_bind (.ref C)
  have hTy : (⟨h, g, d, t, os⟩ : Shared).TypeIs (.ref C) "type" := ⟨_, hC, rfl⟩
  refine codeAny_of_tree ?_
  show wpAny _ _ (callAny (.ref C) _) _ _ _
  repeat (any_goals (first | assumption | with_reducible refine wpAny_loadPart_at hC ?_ | wp_step))
  refine ⟨rfl, ?_⟩
  refine codeAny_call_builtin_at (Code.quiet_builtin _ (by decide +kernel)) entry_typeCall (check_tc_kw hC (type_call_kw F hT hC hi hb hrest ?_))
  refine codeAny_mono hq fun r s' z => ?_
  rcases r with e | (v | _ | _ | _) <;> exact z
end
end GX
end PySem
end

section
set_option maxHeartbeats 4000000
namespace L2
open PySem PySem.Spec PyProof.Rows
/-- the promise of an own exception's __init__: gV of the arguments are its attributes, the last one first -/
def spInit (C : Addr) (n : Nat) (gV : List V → List (Str × V)) : Sp := fun vs H Q _ => ∃ a ws, vs = .ref a :: ws ∧ ws.length = n ∧ H a = some (exo a C none) ∧
  ∀ (d : Addr) (H' : Hp), H d = none → d ≠ a → H' a = some (exo a C (some d)) → H' d = some (exd d (gV ws)) → (∀ b, b ≠ a → b ≠ d → H' b = H b) → Q .non H'
theorem run_exn {X : Cx} {CX : CXT} {pins : List (Addr × Obj)} {σ : St} {H : Hp} {s : Shared} {Q : VK} {C fI : Addr} {k n : Nat} {fd : FuncData} {ps : List Str} {gV : List V → List (Str × V)} {B newId initId : String} {bmB : List Value} {us zs : List Value} {kw : List (Str × Value)} {ws : List V}
    (T : OexG X.K C B newId initId bmB) (iC : PySem.W.findIn X.K (.ref C) "__init__" = some (some (.ref fI))) (tI : PySem.W.typeIn X.K (.ref fI) = some (.type "function"))
    (F1 : FnOk X.prog X.w X.K X.mg X.base CX k fI fd ps (spInit C n gV)) (hr : Room (k + 1) X.A) (hx : Passes CX X (fun _ _ _ => False)) (I : Inv X pins σ H s) (hz : us.length ≤ sizeLine) (hn : ws.length = n) (r : Vals ws zs)
    (hb : ∀ (s : Shared) (a : Addr), X.K.In s.heap → BindsTo s fd ⟨.ref a :: us, kw⟩ (ps.zip (.ref a :: zs)))
    (q : ∀ (a d : Addr) (H' : Hp), H a = none → H d = none → d ≠ a → H' a = some (exo a C (some d)) → H' d = some (exd d (gV ws)) → (∀ b, b ≠ a → b ≠ d → H' b = H b) → Q (.ref a) H') :
    wpAny (model X.prog X.w) X.A (call (.ref C) us kw) (EP X pins σ Q) X.xe s := by
  obtain ⟨nm, N, qn, bs, bm, hdct, sn, sub, ab, col, dd, k0, k1, k2, k3, k5, hC, hT⟩ := PySem.W.excInit_of I.kIn T.q
  obtain ⟨hp, g, dr, tk, os⟩ := s
  have hsz : hp.objs.size ≤ hp.objs.size + 1 := Nat.le_succ _
  have hnn : H (hp.objs.size + 1) = none := I.hok.fresh hsz
  have kk : ∀ b o, hp.get? b = some o → ((hp.push (PySem.W.kdv_tup us)).push (PySem.HandSPX.excO C hp.objs.size)).get? b = some o := fun b o e => Heap.get?_push_of_some _ (Heap.get?_push_of_some _ e)
  have hget : ((hp.push (PySem.W.kdv_tup us)).push (PySem.HandSPX.excO C hp.objs.size)).get? (hp.objs.size + 1) = some (PySem.HandSPX.excO C hp.objs.size) := by heap_get
  have I2 : Inv X pins σ (upd H (hp.objs.size + 1) (exo (hp.objs.size + 1) C none)) ⟨(hp.push (PySem.W.kdv_tup us)).push (PySem.HandSPX.excO C hp.objs.size), g, dr, tk, os⟩ :=
    I.laid (t' := tk) (a := hp.objs.size + 1) (o := exo (hp.objs.size + 1) C none) (h' := (hp.push (PySem.W.kdv_tup us)).push (PySem.HandSPX.excO C hp.objs.size)) kk hsz (exo_ok hget)
  have hq : spInit C n gV (V.ref (hp.objs.size + 1) :: ws) (upd H (hp.objs.size + 1) (exo (hp.objs.size + 1) C none)) (fun v H' => v = .non ∧ Q (.ref (hp.objs.size + 1)) H') (fun _ _ _ => False) := by
    refine ⟨_, ws, rfl, hn, upd_same, fun d H' h1 h2 h3 h4 h5 => ⟨rfl, q _ d H' hnn ?_ h2 h3 h4 fun b hb hd => ?_⟩⟩
    · rw [upd_ne h2] at h1
      exact h1
    · rw [h5 b hb hd, upd_ne hb]
  have r2 : Vals (V.ref (hp.objs.size + 1) :: ws) (Value.ref (hp.objs.size + 1) :: zs) := .cons rfl r
  refine wpAny_call (PySem.GX.call_kw T.base hT hC (PySem.W.looks_findIn I.kIn iC) (fun self => PySem.W.bind_fn I.kIn self tI) hz
    (codeAny_mono (F1.run _ X.stack _ _ ⟨Value.ref (hp.objs.size + 1) :: us, kw⟩ (Value.ref (hp.objs.size + 1) :: zs) _ _ (fun _ _ _ => False) (hr.make C us kw) (I2.env0.make C us kw) (hb _ _ I2.kIn) r2 hq) fun r s' hq' => ?_))
  cases r with
  | error er => exact hx pins σ _ _ er s' I2 hq'
  | ok fl =>
    cases fl with
    | ret u =>
      obtain ⟨v, H', I3, rv, ev, q3⟩ := I2.after hq'
      subst ev
      exact ⟨rv, ⟨V.ref (hp.objs.size + 1), H', I3, rfl, q3⟩⟩
    | next => exact False.elim hq'
    | brk => exact False.elim hq'
    | cont => exact False.elim hq'
end L2
namespace D
open PySem L2
theorem passes_none {X : Cx} : Passes (L2.CX X.prog X.w) X (fun _ _ _ => False) := fun pins σ H s e s' I c => lets_no (X := X) σ pins H s e s' I (by
  obtain ⟨a, B, H', cls, d, rest⟩ := c
  exact absurd rest (by intro z; simp at z))
/-- how an own exception class is made -/
def ExMk (P : Program) (w : World) (K : PySem.W.Frag) (mg : Str → Option Value) (base : Heap) (k : Nat) (x : Str) (n : Nat) (g : List Dt → List (Str × Dt)) : Prop :=
  ∃ C fI fd ps gV B newId initId bmB, mg x = some (.ref C) ∧ OexG K C B newId initId bmB ∧ PySem.W.findIn K (.ref C) "__init__" = some (some (.ref fI)) ∧ PySem.W.typeIn K (.ref fI) = some (.type "function") ∧
    FnOk P w K mg base (L2.CX P w) k fI fd ps (spInit C n gV) ∧ ps.length = n + 1 ∧ Binds K fd ps [] ∧
    (∀ (c : Ct) (w : Wd) (ds : List Dt) (vs : List V), Reps c w ds vs → ds.length = n → RepF c w (g ds) (gV vs))
theorem exn_made {c : Ct} {w : Wd} {H H' : Hp} {s : S} {a d C : Addr} {x : Str} {fs : List (Str × Dt)} {ws : List (Str × V)} (g : Good c w H s) (ha : H a = none) (hd : H d = none) (hne : d ≠ a) (h1 : H' a = some (exo a C (some d))) (h2 : H' d = some (exd d ws)) (h3 : ∀ b, b ≠ a → b ≠ d → H' b = H b)
    (hm : c.mg x = some (.ref C)) (r : RepF c w fs ws) : ∃ w', Le w w' ∧ Good c w' H' s ∧ Rep c w' (.exn x fs) (.ref a) := by
  have e : H' = upd (upd H d (exd d ws)) a (exo a C (some d)) := by
    funext b
    by_cases hb : b = a
    · subst hb; rw [upd_same, h1]
    · rw [upd_ne hb]
      by_cases hbd : b = d
      · subst hbd; rw [upd_same, h2]
      · rw [upd_ne hbd, h3 b hb hbd]
  subst e
  have g1 : Good c (w.frz d (exd d ws)) (upd H d (exd d ws)) s := g.frz hd
  have l1 : Le w (w.frz d (exd d ws)) := Le.frz (g.fresh hd)
  have ha' : upd H d (exd d ws) a = none := by rw [upd_ne (Ne.symm hne)]; exact ha
  have g2 := g1.frz (o := exo a C (some d)) ha'
  have l2 : Le (w.frz d (exd d ws)) ((w.frz d (exd d ws)).frz a (exo a C (some d))) := Le.frz (g1.fresh ha')
  refine ⟨_, l1.trans l2, g2, ?_⟩
  simp only [Rep]
  refine ⟨a, d, C, ws, rfl, upd_same, ?_, hm, (r.up (l1.trans l2))⟩
  show upd (upd w.G d (exd d ws)) a (exo a C (some d)) d = _
  rw [upd_ne hne, upd_same]
def dEx (x : Str) (n : Nat) (g : List Dt → List (Str × Dt)) (dr : DA) : DE := fun env s => (dr env s).bind fun ds s => if ds.length = n ∧ n ≤ 900 then .ok (.exn x (g ds)) s else .bad
section
variable {X : Cx} {W : WX} {k j n : Nat} {x : Str} {p pos : Pos} {e : Expr} {es : List Expr} {g : List Dt → List (Str × Dt)} {dr : DA}
theorem pd_ex (M : ExMk X.prog X.w X.K X.mg X.base j x n g) (hr : Room k X.A) (ha : PDA X W (e :: es) dr) (hj : j + 1 ≤ k := by first | decide | omega) (hg : Gl X x := by rfl) (hdb : (x == ("__debug__" : Str)) = false := by decide)
    (he : starEach (e :: es) X.env = (false, eval e X.env) :: starEach es X.env := by rfl) (hpl : (backTo pos (starEach es X.env)).any (·.1) = false := by rfl) : PD X W (.Call (.Name x p) (e :: es) [] pos) (dEx x n g dr) := by
  obtain ⟨C, fI, fd, ps, gV, B, newId, initId, bmB, hm, T, iC, tI, F, hps, hb, hrel⟩ := M
  refine ⟨⟨fun pins sh σ H Q I ⟨env, s, w, sr, gd, h⟩ => ?_⟩⟩
  refine wpAny_Call_Name_kw (ld_glob I hg hm ?_ hdb)
  refine PySem.W.callWith_K (h₀ := X.base) I.ok.mod.kin T.kC (thn (ha.pa.run pos pins sh σ H (fun vs H1 => ∃ ds s1 w1, Good (ct X) w1 H1 s1 ∧ Reps (ct X) w1 ds vs ∧ ds.length = n ∧ n ≤ 900 ∧ Aft (ct X) (RD (ct X)) w1 σ W (.ok (.exn x (g ds)) s1) Q) I ⟨env, s, w, sr, gd, Aft.bind h fun ds s1 w1 vs H1 _ l1 g1 r1 h1 => ?_⟩) fun us s1 ⟨vs, H1, I1, r1, ds, st1, w1, g1, rr, hn, hs, h1⟩ => ⟨I1.kIn, ?_⟩) he hpl
  · split at h1
    · rename_i hc
      exact ⟨ds, s1, w1, g1, r1, hc.1, hc.2, h1⟩
    · exact h1.elim
  · have hl := rr.length
    have hlu := r1.length
    refine run_exn T iC tI F (hr.mono hj) passes_none I1 (by show us.length ≤ sizeLine; rw [← hlu, ← hl, hn, sizeLine_eq]; omega) (by rw [← hl]; exact hn) r1 (fun s a KX => ?_) (fun a d H' h2 h3 h4 h5 h6 h7 => ?_)
    · have := hb s (.ref a :: us) KX (by simp [← hlu, ← hl, hn, hps])
      rw [List.append_nil] at this
      exact this
    · obtain ⟨w', l', g', r'⟩ := exn_made (x := x) g1 h2 h3 h4 h5 h6 h7 hm (hrel _ _ _ _ rr hn)
      exact h1.at_ l' g' r'
theorem pd_ex0 (M : ExMk X.prog X.w X.K X.mg X.base j x 0 g) (hr : Room k X.A) (hj : j + 1 ≤ k := by first | decide | omega) (hg : Gl X x := by rfl) (hdb : (x == ("__debug__" : Str)) = false := by decide) : PD X W (.Call (.Name x p) [] [] pos) (dC (.exn x (g []))) := by
  obtain ⟨C, fI, fd, ps, gV, B, newId, initId, bmB, hm, T, iC, tI, F, hps, hb, hrel⟩ := M
  refine ⟨⟨fun pins sh σ H Q I ⟨env, s, w, sr, gd, h⟩ => ?_⟩⟩
  refine wpAny_Call_Name_kw (ld_glob I hg hm ?_ hdb)
  refine PySem.W.callWith_K0 I.kIn T.kC ?_
  refine run_exn (us := []) (zs := []) (ws := []) T iC tI F (hr.mono hj) passes_none I (Nat.zero_le _) rfl .nil (fun s a KX => ?_) (fun a d H' h2 h3 h4 h5 h6 h7 => ?_)
  · have := hb s [.ref a] KX (by simp [hps])
    rw [List.append_nil] at this
    exact this
  · obtain ⟨w', l', g', r'⟩ := exn_made (x := x) gd h2 h3 h4 h5 h6 h7 hm (hrel _ _ [] [] (by simp only [Reps]) rfl)
    exact h.at_ l' g' r'
/-! by keywords -/
def rvs {α : Type} (b : Bool) (l : List α) : List α := if b = true then l.reverse else l
theorem Reps.rev {c : Ct} {w : Wd} : ∀ {ds : List Dt} {vs : List V}, Reps c w ds vs → Reps c w ds.reverse vs.reverse
  | [], vs, r => by
    simp only [Reps] at r
    subst r
    simp only [List.reverse_nil, Reps]
  | d :: ds, vs, r => by
    simp only [Reps] at r
    obtain ⟨v, q, rfl, h1, h2⟩ := r
    rw [List.reverse_cons, List.reverse_cons]
    exact (Reps.rev h2).append (Reps.one h1)
theorem Reps.rvs {c : Ct} {w : Wd} {ds : List Dt} {vs : List V} (b : Bool) (r : Reps c w ds vs) : Reps c w (D.rvs b ds) (D.rvs b vs) := by
  unfold D.rvs
  split
  · exact r.rev
  · exact r
theorem vals_rev : ∀ {vs : List V} {us : List Value}, Vals vs us → Vals vs.reverse us.reverse
  | _, _, .nil => .nil
  | _, _, .cons r t => by
    rw [List.reverse_cons, List.reverse_cons]
    exact (vals_rev t).append (.cons r .nil)
theorem vals_rvs {vs : List V} {us : List Value} (b : Bool) (r : Vals vs us) : Vals (rvs b vs) (rvs b us) := by
  unfold rvs
  split
  · exact vals_rev r
  · exact r
theorem rvs_length {α : Type} (b : Bool) (l : List α) : (rvs b l).length = l.length := by
  unfold rvs
  split
  · exact List.length_reverse
  · rfl
/-- keywords' values -/
structure PDK (X : Cx) (W : WX) (kws : List Keyword) (d : DA) : Prop where
  pk : PK X kws (liftA (ct X) W d)
theorem _root_.L2.PK.of {X : Cx} {e : List Keyword} {t t' : TA} (h : PK X e t) (i : ∀ σ H Q, t' σ H Q → t σ H Q) : PK X e t' := ⟨fun p pins s σ H Q I q => h.run p pins s σ H Q I (i σ H Q q)⟩
theorem pdk_nil : PDK X W [] dNil := ⟨pk_nil.of fun σ H Q ⟨env, s, w, sr, g, h⟩ => h.now g (by simp only [Reps])⟩
theorem pdk_cons {nm : Option Str} {kpos : Pos} {kws : List Keyword} {d : DE} {dk : DA} (ha : PD X W e d) (hr : PDK X W kws dk) : PDK X W (⟨nm, e, kpos⟩ :: kws) (dCons d dk) :=
  ⟨(pk_cons ha.pe hr.pk).of fun σ H Q ⟨env, s, w, sr, g, h⟩ => ⟨env, s, w, sr, g, Aft.bind h fun d1 s1 w1 v1 H1 _ l1 g1 r1 h1 =>
    ⟨env, s1, w1, sr.up l1, g1, Aft.bind h1 fun d2 s2 w2 v2 H2 _ l2 g2 r2 h2 => h2.now g2 (show Reps (ct X) w2 (d1 :: d2) (v1 :: v2) by
      simp only [Reps]
      exact ⟨v1, v2, rfl, r1.up l2, r2⟩)⟩⟩⟩
/-- how an own exception class is made by keywords -/
def ExMkK (P : Program) (w : World) (K : PySem.W.Frag) (mg : Str → Option Value) (base : Heap) (k : Nat) (x : Str) (n : Nat) (g : List Dt → List (Str × Dt)) (ks : List Str) (b : Bool) : Prop :=
  ∃ C fI fd ps gV B newId initId bmB, mg x = some (.ref C) ∧ OexG K C B newId initId bmB ∧ PySem.W.findIn K (.ref C) "__init__" = some (some (.ref fI)) ∧ PySem.W.typeIn K (.ref fI) = some (.type "function") ∧
    FnOk P w K mg base (L2.CX P w) k fI fd ps (spInit C n gV) ∧ ps.length = n + 1 ∧ (∀ (s : Shared) (a : Addr) (ws : List Value), ws.length = n → BindsTo s fd ⟨[.ref a], ks.zip ws⟩ (ps.zip (.ref a :: rvs b ws))) ∧
    (∀ (c : Ct) (w : Wd) (ds : List Dt) (vs : List V), Reps c w ds vs → ds.length = n → RepF c w (g ds) (gV vs))
theorem pd_exK {kws : List Keyword} {ks : List Str} {b : Bool} {dk : DA} (M : ExMkK X.prog X.w X.K X.mg X.base j x n g ks b) (hr : Room k X.A) (hkw : PDK X W kws dk) (hj : j + 1 ≤ k := by first | decide | omega) (hg : Gl X x := by rfl)
    (hall : (backToKw pos (keywordEach kws X.env)).all (·.1.isSome) = true := by rfl) (hks : (backToKw pos (keywordEach kws X.env)).filterMap (·.1) = ks := by rfl) (hdb : (x == ("__debug__" : Str)) = false := by decide)
    (hpl : ((backTo pos (starEach [] X.env)).any (·.1) || (backToKw pos (keywordEach kws X.env)).any (·.1.isNone)) = false := by rfl) : PD X W (.Call (.Name x p) [] kws pos) (dEx x n (fun ds => g (rvs b ds)) dk) := by
  obtain ⟨C, fI, fd, ps, gV, B, newId, initId, bmB, hm, T, iC, tI, F, hps, hb, hrel⟩ := M
  refine ⟨⟨fun pins sh σ H Q I ⟨env, s, w, sr, gd, h⟩ => ?_⟩⟩
  refine wpAny_Call_Name_kw (ld_glob I hg hm ?_ hdb)
  refine PySem.W.callWith_KW0 (h₀ := X.base) I.ok.mod.kin T.kC hall ?_ hpl
  refine thn (hkw.pk.run pos pins sh σ H (fun vs H1 => ∃ ds s1 w1, Good (ct X) w1 H1 s1 ∧ Reps (ct X) w1 ds vs ∧ ds.length = n ∧ n ≤ 900 ∧ Aft (ct X) (RD (ct X)) w1 σ W (.ok (.exn x (g (rvs b ds))) s1) Q) I ⟨env, s, w, sr, gd, Aft.bind h fun ds s1 w1 vs H1 _ l1 g1 r1 h1 => ?_⟩) fun us s1 ⟨vs, H1, I1, r1, ds, st1, w1, g1, rr, hn, hs, h1⟩ => ⟨I1.kIn, ?_⟩
  · split at h1
    · rename_i hc
      exact ⟨ds, s1, w1, g1, r1, hc.1, hc.2, h1⟩
    · exact h1.elim
  · have hl := rr.length
    have hlu := r1.length
    rw [hks]
    refine run_exn (us := []) T iC tI F (hr.mono hj) passes_none I1 (Nat.zero_le _) (by rw [rvs_length, ← hl]; exact hn) (vals_rvs b r1) (fun s a KX => hb s a us (by rw [← hlu, ← hl]; exact hn)) (fun a d H' h2 h3 h4 h5 h6 h7 => ?_)
    obtain ⟨w', l', g', r'⟩ := exn_made (x := x) g1 h2 h3 h4 h5 h6 h7 hm (hrel _ _ _ _ (rr.rvs b) (by rw [rvs_length]; exact hn))
    exact h1.at_ l' g' r'
/-! ### attributes -/
structure AtTab where
  ob : Str → Str → Bool
  xb : Str → Str → Bool
structure AtTabOk (K : PySem.W.Frag) (mg : Str → Option Value) (tab : AtTab) : Prop where
  ob : ∀ x f, tab.ob x f = true → ∀ C, mg x = some (.ref C) → Cls K C ∧ NoAttr K C f
  xb : ∀ x f, tab.xb x f = true → ∀ C, mg x = some (.ref C) → XfC K C ∧ PySem.W.findIn K (.ref C) f = some none
def dAtt (tab : AtTab) (f : Str) (d : DE) : DE := fun env s => (d env s).bind fun x s => match pk s x with
  | .obj c fs => if tab.ob c f = true then ofO (fs.lookup f) s else .bad
  | .exn c fs => if tab.xb c f = true then ofO (fs.lookup f) s else .bad
  | _ => .bad
theorem RepF.look {c : Ct} {w : Wd} {f : Str} {d : Dt} : ∀ {fs : List (Str × Dt)} {ws : List (Str × V)}, RepF c w fs ws → fs.lookup f = some d → ∃ v, ws.lookup f = some v ∧ Rep c w d v
  | [], ws, r, e => by cases e
  | p :: fs, ws, r, e => by
    simp only [RepF] at r
    obtain ⟨v, q, rfl, h1, h2⟩ := r
    obtain ⟨k, dk⟩ := p
    rw [List.lookup_cons] at e
    rw [List.lookup_cons]
    by_cases hk : (f == k) = true
    · rw [hk] at e
      rw [hk]
      cases e
      exact ⟨v, rfl, h1⟩
    · have hk' : (f == k) = false := by simpa using hk
      rw [hk'] at e
      rw [hk']
      exact RepF.look h2 e
theorem pd_att {tab : AtTab} {f : Str} {d : DE} (tk : AtTabOk X.K X.mg tab) (he : PD X W e d) (hb : attributeBase e f X.env (eval e X.env) = eval e X.env := by rfl) : PD X W (.Attribute e f pos) (dAtt tab f d) := by
  refine ⟨⟨fun pins sh σ H Q I ⟨env, s, w, sr, gd, h⟩ => ?_⟩⟩
  refine attr_of hb (thn (he.pe.run pins sh σ H (fun v H1 => ∃ x s1 w1, Good (ct X) w1 H1 s1 ∧ Rep (ct X) w1 x v ∧ Aft (ct X) (RD (ct X)) w1 σ W (match pk s1 x with
    | .obj c fs => if tab.ob c f = true then ofO (fs.lookup f) s1 else .bad
    | .exn c fs => if tab.xb c f = true then ofO (fs.lookup f) s1 else .bad
    | _ => .bad) Q) I ⟨env, s, w, sr, gd, Aft.bind h fun x s1 w1 v H1 _ l1 g1 r1 h1 => ⟨x, s1, w1, g1, r1, h1⟩⟩) fun u sh1 ⟨v, H1, I1, rv, x, s1, w1, g1, r1, h1⟩ => ?_)
  split at h1
  · rename_i c fs ek
    split at h1
    · rename_i ht
      obtain ⟨a, C, dx, ws, rfl, e1, e2, e3⟩ := g1.isObj r1 ek
      obtain ⟨cl, na⟩ := tk.ob c f ht C e2
      obtain rfl : u = .ref a := rv
      obtain ⟨dz, e4, q⟩ := h1.ofO
      obtain ⟨vz, e5, r5⟩ := e3.look e4
      exact getattr_ok I1 e1 cl na e5 fun u' s2 I2 ru => ⟨vz, H1, I2, ru, q w1 vz H1 (Le.refl w1) g1 r5⟩
    · exact h1.elim
  · rename_i c fs ek
    split at h1
    · rename_i ht
      obtain ⟨a, dd, C, ws, rfl, e1, e1', e2, e3⟩ := g1.isExn r1 ek
      obtain ⟨T, hno⟩ := tk.xb c f ht C e2
      obtain rfl : u = .ref a := rv
      obtain ⟨dz, e4, q⟩ := h1.ofO
      obtain ⟨vz, e5, r5⟩ := e3.look e4
      obtain ⟨t1, ho⟩ := exo_at I1.hok e1
      obtain ⟨mA, hns, rel⟩ := exd_at I1.hok e1'
      obtain ⟨od, hod, hl⟩ := lookIn_ns hns
      obtain ⟨u', hu, ru⟩ := RelO.some_of (v := vz) (o := mA f) (by rw [← e5]; exact rel f)
      have J : PySem.W.InstAt sh1.heap a { cls := .ref C, dict := some dd, data := .fields #[.ref t1, .none, .none, .none, .bool false, .none] } C (some od) := ⟨ho, rfl, rfl, hod⟩
      exact PySem.HandSPX.exc_get I1.kIn J T.ga T.gg T.exC (PySem.W.findObj_own T.hdC hno rfl (by rw [hl, hu])) (handed_of ru) ⟨vz, H1, I1.tok _, ru, q w1 vz H1 (Le.refl w1) g1 r5⟩
    · exact h1.elim
  · exact h1.elim
end
end D
end

section
set_option maxHeartbeats 4000000
namespace L2
open PySem PySem.Spec PyProof.Rows NdefX
section
variable {P : Program} {w : World} {K : PySem.W.Frag} {mg : Str → Option Value} {base : Heap} {k : Nat} {f C cc : Addr} {F : NF} {B newId initId : String} {bmB : List Value} {doc pm ctv oc : Value} {od : Option Addr} {osl : Array (Option Value)} {m cd y z : Str} {j j2 : Nat} {p0 p1 p2 p3 pos pos2 a1 a2 a3 a4 b1 b2 b3 b4 c1 c2 c3 c4 : Pos}
theorem init_of0 (lk : K.lookup f = some ⟨oc, od, .func (F.fd doc pm ctv), osl⟩) (T : OexG K C B newId initId bmB) (U : SupTxt P K mg F C cc) (S : NScope ["self", "__class__"] ["self"] ["__class__"] F.scope) (hks : F.scope.names.lookup ("super" : Str) = some .globalImplicit)
    (hself : ∃ ar, (F.params.posonlyargs ++ F.params.args).head? = some ar ∧ ar.arg = ("self" : Str)) (hsup : PySem.W.ks_superIn K C C "__init__" = some (some (.builtin initId)))
    (hbody : F.body = [.Expr (.Call (.Attribute (.Call (.Name "super" p0) [] [] p1) "__init__" p2) [.Constant (.str m) j p3] [] pos) pos2, .Assign [.Attribute (.Name "self" b1) "code" b2] (.Constant (.str cd) j2 b3) b4])
    {pl : Env → Sem Bool} (hm : ∀ env : Env, eval (.Call (.Attribute (.Call (.Name "super" p0) [] [] p1) "__init__" p2) [.Constant (.str m) j p3] [] pos) env = (do
      let ov ← attributeBase (.Call (.Name "super" p0) [] [] p1) "__init__" env (eval (.Call (.Name "super" p0) [] [] p1) env)
      standAt p2.atName
      let (f, first) ← holding [ov] (getMethod ov "__init__" (pl env))
      callWith pos f first (backTo pos (starEach [.Constant (.str m) j p3] env)) []))
    (hc : PySem.W.findIn K (.ref C) "code" = some none) :
    FnOk P w K mg base (L2.CX P w) (k + 1) f (F.fd doc pm ctv) ["self"] (spInit C 0 fun _ => [("code", .str cd)]) := by
  refine fn_sup (N := ["self", "__class__"]) (self := "self") lk T U S hks hself rfl hsup hbody hm (fun _ => rfl) (fun _ => rfl) (fun _ => rfl) (fun vs H Q E ⟨a, ws, e, hn, _⟩ => by subst e; simp [hn]) fun A outer s H vs Q E hr hsp => ?_
  obtain ⟨a, ws, rfl, hn, ea, q⟩ := hsp
  obtain rfl : ws = [] := List.length_eq_zero_iff.mp hn
  have h0 : Vis F.scope "self" := .inl (S.par _ (by simp))
  refine ⟨_, _, a, [], pa_cons pe_str pa_nil, pss_one (ps_gst (pe_var (i := 0) rfl h0) pe_str), rfl, ea, ?_⟩
  refine ⟨by simp, ea, ?_⟩
  refine ⟨.ref a, rfl, a, C, B, newId, initId, bmB, rfl, T, hc, .inl ⟨ea, fun dx hdx hne => ?_⟩⟩
  refine q dx _ hdx hne upd_same ?_ fun b hb hd => ?_
  · rw [upd_ne hne, upd_same]
  · rw [upd_ne hb, upd_ne hd]
theorem init_of1 (lk : K.lookup f = some ⟨oc, od, .func (F.fd doc pm ctv), osl⟩) (T : OexG K C B newId initId bmB) (U : SupTxt P K mg F C cc) (S : NScope ["self", y, "__class__"] ["self", y] ["__class__"] F.scope) (hks : F.scope.names.lookup ("super" : Str) = some .globalImplicit)
    (hself : ∃ ar, (F.params.posonlyargs ++ F.params.args).head? = some ar ∧ ar.arg = ("self" : Str)) (hsup : PySem.W.ks_superIn K C C "__init__" = some (some (.builtin initId)))
    (hbody : F.body = [.Expr (.Call (.Attribute (.Call (.Name "super" p0) [] [] p1) "__init__" p2) [.Constant (.str m) j p3] [] pos) pos2, .Assign [.Attribute (.Name "self" a1) y a2] (.Name y a3) a4, .Assign [.Attribute (.Name "self" b1) "code" b2] (.Constant (.str cd) j2 b3) b4])
    {pl : Env → Sem Bool} (hm : ∀ env : Env, eval (.Call (.Attribute (.Call (.Name "super" p0) [] [] p1) "__init__" p2) [.Constant (.str m) j p3] [] pos) env = (do
      let ov ← attributeBase (.Call (.Name "super" p0) [] [] p1) "__init__" env (eval (.Call (.Name "super" p0) [] [] p1) env)
      standAt p2.atName
      let (f, first) ← holding [ov] (getMethod ov "__init__" (pl env))
      callWith pos f first (backTo pos (starEach [.Constant (.str m) j p3] env)) []))
    (hy : PySem.W.findIn K (.ref C) y = some none) (hc : PySem.W.findIn K (.ref C) "code" = some none) (hd : (y == ("__debug__" : Str)) = false := by decide) (hcd : (y == ("__classdict__" : Str)) = false := by decide) :
    FnOk P w K mg base (L2.CX P w) (k + 1) f (F.fd doc pm ctv) ["self", y] (spInit C 1 fun ws => [("code", .str cd), (y, ws.getD 0 .non)]) := by
  refine fn_sup (N := ["self", y, "__class__"]) (self := "self") lk T U S hks hself rfl hsup hbody hm (fun _ => rfl) (fun _ => rfl) (fun _ => rfl) (fun vs H Q E ⟨a, ws, e, hn, _⟩ => by subst e; simp [hn]) fun A outer s H vs Q E hr hsp => ?_
  obtain ⟨a, ws, rfl, hn, ea, q⟩ := hsp
  match ws, hn with
  | [v], _ =>
    have h0 : Vis F.scope "self" := .inl (S.par _ (by simp))
    have h1 : Vis F.scope y := .inl (S.par _ (by simp))
    refine ⟨_, _, a, [v], pa_cons pe_str pa_nil, pss_cons (ps_gst (pe_var (i := 0) rfl h0) (pe_var (i := 1) rfl h1 hd hcd)) (pss_one (ps_gst (pe_var (i := 0) rfl h0) pe_str)), rfl, ea, ?_⟩
    refine ⟨by simp, ea, ?_⟩
    refine ⟨v, rfl, .ref a, rfl, a, C, B, newId, initId, bmB, rfl, T, hy, .inl ⟨ea, fun dx hdx hne => ?_⟩⟩
    refine ⟨.ref a, rfl, a, C, B, newId, initId, bmB, rfl, T, hc, .inr ⟨dx, _, upd_same, by rw [upd_ne hne, upd_same], by simp, ?_⟩⟩
    refine q dx _ hdx hne ?_ upd_same fun b hb hd => ?_
    · rw [upd_ne (Ne.symm hne), upd_same]
    · rw [upd_ne hd, upd_ne hb, upd_ne hd]
theorem init_of2 (lk : K.lookup f = some ⟨oc, od, .func (F.fd doc pm ctv), osl⟩) (T : OexG K C B newId initId bmB) (U : SupTxt P K mg F C cc) (S : NScope ["self", y, z, "__class__"] ["self", y, z] ["__class__"] F.scope) (hks : F.scope.names.lookup ("super" : Str) = some .globalImplicit)
    (hself : ∃ ar, (F.params.posonlyargs ++ F.params.args).head? = some ar ∧ ar.arg = ("self" : Str)) (hsup : PySem.W.ks_superIn K C C "__init__" = some (some (.builtin initId)))
    (hbody : F.body = [.Expr (.Call (.Attribute (.Call (.Name "super" p0) [] [] p1) "__init__" p2) [.Constant (.str m) j p3] [] pos) pos2, .Assign [.Attribute (.Name "self" a1) y a2] (.Name y a3) a4, .Assign [.Attribute (.Name "self" c1) z c2] (.Name z c3) c4, .Assign [.Attribute (.Name "self" b1) "code" b2] (.Constant (.str cd) j2 b3) b4])
    {pl : Env → Sem Bool} (hm : ∀ env : Env, eval (.Call (.Attribute (.Call (.Name "super" p0) [] [] p1) "__init__" p2) [.Constant (.str m) j p3] [] pos) env = (do
      let ov ← attributeBase (.Call (.Name "super" p0) [] [] p1) "__init__" env (eval (.Call (.Name "super" p0) [] [] p1) env)
      standAt p2.atName
      let (f, first) ← holding [ov] (getMethod ov "__init__" (pl env))
      callWith pos f first (backTo pos (starEach [.Constant (.str m) j p3] env)) []))
    (hy : PySem.W.findIn K (.ref C) y = some none) (hz : PySem.W.findIn K (.ref C) z = some none) (hc : PySem.W.findIn K (.ref C) "code" = some none) (hd : (y == ("__debug__" : Str)) = false := by decide) (hcd : (y == ("__classdict__" : Str)) = false := by decide) (hd' : (z == ("__debug__" : Str)) = false := by decide) (hcd' : (z == ("__classdict__" : Str)) = false := by decide) :
    FnOk P w K mg base (L2.CX P w) (k + 1) f (F.fd doc pm ctv) ["self", y, z] (spInit C 2 fun ws => [("code", .str cd), (z, ws.getD 1 .non), (y, ws.getD 0 .non)]) := by
  refine fn_sup (N := ["self", y, z, "__class__"]) (self := "self") lk T U S hks hself rfl hsup hbody hm (fun _ => rfl) (fun _ => rfl) (fun _ => rfl) (fun vs H Q E ⟨a, ws, e, hn, _⟩ => by subst e; simp [hn]) fun A outer s H vs Q E hr hsp => ?_
  obtain ⟨a, ws, rfl, hn, ea, q⟩ := hsp
  match ws, hn with
  | [v, u], _ =>
    have h0 : Vis F.scope "self" := .inl (S.par _ (by simp))
    have h1 : Vis F.scope y := .inl (S.par _ (by simp))
    have h2 : Vis F.scope z := .inl (S.par _ (by simp))
    refine ⟨_, _, a, [v, u], pa_cons pe_str pa_nil, pss_cons (ps_gst (pe_var (i := 0) rfl h0) (pe_var (i := 1) rfl h1 hd hcd)) (pss_cons (ps_gst (pe_var (i := 0) rfl h0) (pe_var (i := 2) rfl h2 hd' hcd')) (pss_one (ps_gst (pe_var (i := 0) rfl h0) pe_str))), rfl, ea, ?_⟩
    refine ⟨by simp, ea, ?_⟩
    refine ⟨v, rfl, .ref a, rfl, a, C, B, newId, initId, bmB, rfl, T, hy, .inl ⟨ea, fun dx hdx hne => ?_⟩⟩
    refine ⟨u, rfl, .ref a, rfl, a, C, B, newId, initId, bmB, rfl, T, hz, .inr ⟨dx, _, upd_same, by rw [upd_ne hne, upd_same], by simp, ?_⟩⟩
    refine ⟨.ref a, rfl, a, C, B, newId, initId, bmB, rfl, T, hc, .inr ⟨dx, _, by rw [upd_ne (Ne.symm hne), upd_same], upd_same, by simp, ?_⟩⟩
    refine q dx _ hdx hne ?_ upd_same fun b hb hd => ?_
    · rw [upd_ne (Ne.symm hne), upd_ne (Ne.symm hne), upd_same]
    · rw [upd_ne hd, upd_ne hd, upd_ne hb, upd_ne hd]
end
end L2
end

section
set_option maxHeartbeats 4000000
namespace D
open PySem L2
/-- a text times a number -/
def repS (z : Str) (n : Int) : Str := if n < 1 then Str.empty else if (n == 1 || z.length == 0) = true then z else ⟨(List.replicate n.toNat z.cps).foldl (· ++ ·) #[]⟩
def fMulS : P2 := fun x y _ => match x, y with
  | .str z, .int n => if (-1000 ≤ n ∧ n ≤ 1000) ∧ z.length ≤ 1000 ∧ (repS z n).length ≤ 1000000 then some (.str (repS z n)) else none
  | _, _ => none
section
variable {X : Cx} {W : WX} {pos p p2 : Pos} {a b e : Expr} {d : DE}
theorem opp_mulS : OpP X (binaryOp .Mult) fMulS := by
  intro pins sh σ H x y v u Q I rx ry h
  obtain ⟨dx, dy, dz, s, w, g, r1, r2, e, q⟩ := h
  unfold fMulS at e
  split at e
  · rename_i z n
    split at e
    · rename_i hc
      cases e
      obtain ⟨⟨h1, h2⟩, h3, h4⟩ := hc
      simp only [Rep] at r1 r2
      subst r1 r2
      obtain ⟨t, rfl⟩ := rx
      obtain ⟨t', rfl⟩ := ry
      have hq : ∀ k, EP X pins σ Q (.str (repS z n) k) sh := fun k => ⟨.str (repS z n), H, I, ⟨k, rfl⟩, q w _ H (Le.refl w) g (by simp only [Rep])⟩
      refine PySem.P.mul_str (by rw [decide_eq_false (by omega), decide_eq_false (by omega)]; rfl) (fun hn _ hz => ?_) (fun hn _ => ?_) ?_
      · have hn1 : 1 ≤ n := by omega
        have : (z.length : Int) ≤ 1000 := by omega
        have h5 : (z.length : Int) ≤ (2 ^ 63 - 1) / n := by
          rw [Int.le_ediv_iff_mul_le (by omega)]
          have : (z.length : Int) * n ≤ 1000 * 1000 := Int.mul_le_mul this h2 (by omega) (by omega)
          omega
        omega
      · have : z.length * n.toNat ≤ 1000 * 1000 := Nat.mul_le_mul h3 (by omega)
        refine decide_eq_false ?_
        rw [sizeLine_eq]
        omega
      · have hq' := hq
        unfold repS at hq' h4
        split
        · rename_i hn
          rw [if_pos hn] at hq' h4
          exact ⟨by decide, ⟨.str Str.empty, H, I.tok _, ⟨_, rfl⟩, by
            have := q w (.str (repS z n)) H (Le.refl w) g (by simp only [Rep])
            unfold repS at this
            rw [if_pos hn] at this
            exact this⟩⟩
        · rename_i hn
          rw [if_neg hn] at hq' h4
          split
          · rename_i h6
            rw [if_pos h6] at hq'
            exact hq' t
          · rename_i h6
            rw [if_neg h6] at h4
            refine ⟨?_, ⟨.str _, H, I.tok _, ⟨_, rfl⟩, by
              have := q w (.str (repS z n)) H (Le.refl w) g (by simp only [Rep])
              unfold repS at this
              rw [if_neg hn, if_neg h6] at this
              exact this⟩⟩
            rw [sizeLine_eq]
            omega
    · cases e
  · cases e
/-- list(range(n)) -/
def rgD (a b : Int) : List Dt := (List.range (b - a).toNat).map fun i => .int (a + (i : Nat))
def nRg1 (d : DE) : DN := fun env s => (d env s).bind fun x s => match x with
  | .int n => if 0 ≤ n ∧ n ≤ 16777216 then .ok (rgD 0 n) s else .bad
  | _ => .bad
theorem reps_ints {c : Ct} {w : Wd} : ∀ (l : List Nat) (f : Nat → Int), Reps c w (l.map fun i => .int (f i)) (l.map fun i => V.int (f i))
  | [], f => by simp only [List.map_nil, Reps]
  | i :: l, f => by
    simp only [List.map_cons, Reps]
    exact ⟨_, _, rfl, by simp only [Rep], reps_ints l f⟩
theorem pdn_rg1 (ha : PD X W e d) (hl : X.mg "list" = none) (hm : X.mg "range" = none) (hc : X.calm = true := by rfl) (hg : Gl X "list" := by rfl) (hg2 : Gl X "range" := by rfl) (na : starEach [e] X.env = (false, eval e X.env) :: starEach [] X.env := by rfl)
    (na2 : starEach [.Call (.Name "range" p2) [e] [] pos] X.env = (false, eval (.Call (.Name "range" p2) [e] [] pos) X.env) :: starEach [] X.env := by rfl) {q : Pos} : PDN X W (.Call (.Name "list" p) [.Call (.Name "range" p2) [e] [] pos] [] q) (nRg1 d) :=
  ⟨(pe_listRg hc hg hl (prg_1 hg2 hm ha.pe na) na2).of fun σ H Q ⟨env, s, w, sr, g, h⟩ => ⟨env, s, w, sr, g, Aft.bind h fun x s1 w1 v1 H1 _ l1 g1 r1 h1 => by
    cases x with
    | int n =>
      simp only at h1
      split at h1
      · rename_i hn
        simp only [Rep] at r1
        exact ⟨n, r1, .of_le (by omega) hn.2 (by omega) hn.1, h1.now g1 (reps_ints _ fun i => 0 + (i : Nat))⟩
      · exact h1.elim
    | _ => exact h1.elim⟩⟩
end
end D
end

section
set_option maxHeartbeats 4000000
namespace D
open PySem L2 NdefX
abbrev nfOf (x : String) (st : Stmt) (cc c : Addr) : NF := ⟨"__init__", Str.ofString x ++ Str.ofString ".__init__", defArgs st, defBody st, defScope st, [(("__class__" : Str), cc)], c⟩
/-- what the text says of an own exception class, its __init__ at st -/
def ExT (P : Program) (K : PySem.W.Frag) (mg : Str → Option Value) (x qual : String) (st : Stmt) (B newId initId : String) (bmB : List Value) (attrs : List Str) : Prop :=
  ∃ C cc f c oc od osl doc pm ctv, mg x = some (.ref C) ∧ OexG K C B newId initId bmB ∧ PySem.W.findIn K (.ref C) "__init__" = some (some (.ref f)) ∧ PySem.W.typeIn K (.ref f) = some (.type "function") ∧
    K.lookup f = some ⟨oc, od, .func ((NF.mk "__init__" qual (defArgs st) (defBody st) (defScope st) [(("__class__" : Str), cc)] c).fd doc pm ctv), osl⟩ ∧
    SupTxt P K mg (NF.mk "__init__" qual (defArgs st) (defBody st) (defScope st) [(("__class__" : Str), cc)] c) C cc ∧ PySem.W.ks_superIn K C C "__init__" = some (some (.builtin initId)) ∧ ∀ a ∈ attrs, PySem.W.findIn K (.ref C) a = some none
abbrev bmVE : List Value := [.type "ValueError", .type "Exception", .type "BaseException", .type "object"]
abbrev bmLE : List Value := [.type "LookupError", .type "Exception", .type "BaseException", .type "object"]
abbrev bmIE : List Value := [.type "IndexError", .type "LookupError", .type "Exception", .type "BaseException", .type "object"]
theorem rel0 {cd : Str} (c : Ct) (w : Wd) (ds : List Dt) (vs : List V) (r : Reps c w ds vs) (hn : ds.length = 0) : RepF c w [("code", .str cd)] [("code", .str cd)] := by
  simp [RepF, Rep]
theorem rel1 {cd y : Str} (c : Ct) (w : Wd) (ds : List Dt) (vs : List V) (r : Reps c w ds vs) (hn : ds.length = 1) : RepF c w [("code", .str cd), (y, ds.getD 0 .non)] [("code", .str cd), (y, vs.getD 0 .non)] := by
  match ds, hn with
  | [d], _ =>
    obtain ⟨v, rfl, h⟩ := reps1 r
    simp only [RepF, Rep]
    exact ⟨_, _, rfl, rfl, v, _, rfl, h, rfl⟩
theorem rel2 {cd y z : Str} (c : Ct) (w : Wd) (ds : List Dt) (vs : List V) (r : Reps c w ds vs) (hn : ds.length = 2) : RepF c w [("code", .str cd), (z, ds.getD 1 .non), (y, ds.getD 0 .non)] [("code", .str cd), (z, vs.getD 1 .non), (y, vs.getD 0 .non)] := by
  match ds, hn with
  | [d, d'], _ =>
    obtain ⟨v, v', rfl, h, h'⟩ := reps2 r
    simp only [RepF, Rep]
    exact ⟨_, _, rfl, rfl, v', _, rfl, h', v, _, rfl, h, rfl⟩
end D
end

section
set_option maxHeartbeats 4000000
namespace D
open PySem L2
/-- the own exception classes: their own bases, their builtin ones -/
def exTab : List (Str × List Str × List String) := [("InvalidInk", ["InvalidInk", "InkError"], ["ValueError"]),
  ("InvalidRow", ["InvalidRow", "InkError"], ["ValueError"]),
  ("InvalidEdge", ["InvalidEdge", "InkError"], ["ValueError"]),
  ("InvalidOrder", ["InvalidOrder", "InkError"], ["ValueError"]),
  ("InvalidNumber", ["InvalidNumber", "InkError"], ["ValueError"]),
  ("InvalidDeeds", ["InvalidDeeds", "InkError"], ["ValueError"]),
  ("InvalidText", ["InvalidText", "InkError"], ["ValueError"]),
  ("InvalidName", ["InvalidName", "InkError"], ["ValueError"]),
  ("InvalidCommand", ["InvalidCommand", "InkError"], ["ValueError"]),
  ("InvalidLimit", ["InvalidLimit", "InkError"], ["ValueError"]),
  ("InvalidPage", ["InvalidPage", "InkError"], ["ValueError"]),
  ("Unlike", ["Unlike", "InkError"], ["ValueError"]),
  ("TooMany", ["TooMany", "InkError"], ["ValueError"]),
  ("TooDeep", ["TooDeep", "InkError"], ["ValueError"]),
  ("Circular", ["Circular", "InkError"], ["ValueError"]),
  ("InUse", ["InUse", "InkError"], ["ValueError"]),
  ("Full", ["Full", "InkError"], ["ValueError"]),
  ("UnknownName", ["UnknownName", "Missing"], ["LookupError"]),
  ("NothingLeft", ["NothingLeft"], ["IndexError", "LookupError"])]
def exAll : List Str := ["InkError", "Missing", "InvalidInk", "InvalidRow", "InvalidEdge", "InvalidOrder", "InvalidNumber", "InvalidDeeds", "InvalidText", "InvalidName", "InvalidCommand", "InvalidLimit", "InvalidPage", "Unlike", "TooMany", "TooDeep", "Circular", "InUse", "Full", "UnknownName", "NothingLeft"]
def tabK : IsTab := ⟨fun x T => (exTab.lookup x).bind fun p => if T ∈ ["ValueError", "LookupError", "IndexError"] then some (decide (T ∈ p.2)) else none, fun x y => (exTab.lookup x).bind fun p => if y ∈ exAll then some (decide (y ∈ p.1)) else none, fun _ _ => none, fun _ _ => none, fun _ => false⟩
def exFld : List (Str × List Str) := [("InvalidInk", ["given", "code"]), ("InvalidRow", ["at", "code"]), ("InvalidEdge", ["given", "code"]), ("InvalidOrder", ["given", "code"]), ("InvalidNumber", ["given", "code"]), ("InvalidDeeds", ["path", "code"]), ("InvalidText", ["at", "code"]), ("InvalidName", ["given", "code"]), ("InvalidCommand", ["at", "code"]), ("InvalidLimit", ["given", "code"]), ("InvalidPage", ["row", "code"]), ("Unlike", ["code"]), ("TooMany", ["subject", "most", "code"]), ("TooDeep", ["most", "code"]), ("Circular", ["name", "code"]), ("InUse", ["user", "code"]), ("Full", ["most", "code"]), ("UnknownName", ["name", "code"]), ("NothingLeft", ["code"])]
def tabA : AtTab := ⟨fun _ _ => false, fun x f => ((exFld.lookup x).getD []).contains f⟩
def x_InvalidInk : List Dt → List (Str × Dt) := fun ds => [("code", .str "InvalidInk"), ("given", ds.getD 0 .non)]
def x_InvalidRow : List Dt → List (Str × Dt) := fun ds => [("code", .str "InvalidRow"), ("at", ds.getD 0 .non)]
def x_InvalidEdge : List Dt → List (Str × Dt) := fun ds => [("code", .str "InvalidEdge"), ("given", ds.getD 0 .non)]
def x_InvalidOrder : List Dt → List (Str × Dt) := fun ds => [("code", .str "InvalidOrder"), ("given", ds.getD 0 .non)]
def x_InvalidNumber : List Dt → List (Str × Dt) := fun ds => [("code", .str "InvalidNumber"), ("given", ds.getD 0 .non)]
def x_InvalidDeeds : List Dt → List (Str × Dt) := fun ds => [("code", .str "InvalidDeeds"), ("path", ds.getD 0 .non)]
def x_InvalidText : List Dt → List (Str × Dt) := fun ds => [("code", .str "InvalidText"), ("at", ds.getD 0 .non)]
def x_InvalidName : List Dt → List (Str × Dt) := fun ds => [("code", .str "InvalidName"), ("given", ds.getD 0 .non)]
def x_InvalidCommand : List Dt → List (Str × Dt) := fun ds => [("code", .str "InvalidCommand"), ("at", ds.getD 0 .non)]
def x_InvalidLimit : List Dt → List (Str × Dt) := fun ds => [("code", .str "InvalidLimit"), ("given", ds.getD 0 .non)]
def x_InvalidPage : List Dt → List (Str × Dt) := fun ds => [("code", .str "InvalidPage"), ("row", ds.getD 0 .non)]
def x_Unlike : List Dt → List (Str × Dt) := fun ds => [("code", .str "Unlike")]
def x_TooMany : List Dt → List (Str × Dt) := fun ds => [("code", .str "TooMany"), ("most", ds.getD 1 .non), ("subject", ds.getD 0 .non)]
def x_TooDeep : List Dt → List (Str × Dt) := fun ds => [("code", .str "TooDeep"), ("most", ds.getD 0 .non)]
def x_Circular : List Dt → List (Str × Dt) := fun ds => [("code", .str "Circular"), ("name", ds.getD 0 .non)]
def x_InUse : List Dt → List (Str × Dt) := fun ds => [("code", .str "InUse"), ("user", ds.getD 0 .non)]
def x_Full : List Dt → List (Str × Dt) := fun ds => [("code", .str "Full"), ("most", ds.getD 0 .non)]
def x_UnknownName : List Dt → List (Str × Dt) := fun ds => [("code", .str "UnknownName"), ("name", ds.getD 0 .non)]
def x_NothingLeft : List Dt → List (Str × Dt) := fun ds => [("code", .str "NothingLeft")]
noncomputable def d_l_bag : DS := (sSeq (sSet 1 (dC (.int 5753)))
  (sSeq (sFor (iLst (dFrz (nSl (dVar 0) oNone (oSome (dC (.int 63)))))) (gNm 2) (sSet 1 (dOp fMod (dCall fIntC (dCons (dOp fAdd (dOp fAdd (dOp fMul (dVar 1) (dC (.int 49999))) (dOp fMul (dOp fMod (dCall fIntC (dCons (dVar 2) dNil)) (dC (.int 1000037))) (dC (.int 883)))) (dC (.int 17))) dNil)) (dC (.int 2147483563)))))
  (sRet (dCel (nLst (dCons (dFrz (nCall fList (dCons (dFrz (nSl (dVar 0) oNone (oSome (dC (.int 63))))) dNil))) (dCons (dC (.int 0)) (dCons (dC (.int 0)) (dCons (dVar 1) (dCons (dC (.int 0)) dNil))))))))))
noncomputable def f_l_bag : DF := cutF (bodyF 3 1 d_l_bag)

noncomputable def d_l_pull : DS := (sSeq (sPut (dOp fAdd (dOp fSub' (dVar 0) (dC (.int 4))) (dC (.int 1))) (dVar 0) (dC (.int 4)))
  (sSeq (sIf (tAnd (tst (dOp fEq (dOp fSub' (dVar 0) (dC (.int 2))) (dC (.int 0)))) (tst (dOp fLt (dOp fSub' (dVar 0) (dC (.int 1))) (dCall fLen (dCons (dOp fSub' (dVar 0) (dC (.int 0))) dNil))))) (sSeq (sSet 3 (dOp fSub' (dOp fSub' (dVar 0) (dC (.int 0))) (dOp fSub' (dVar 0) (dC (.int 1)))))
  (sSeq (sPut (dOp fAdd (dOp fSub' (dVar 0) (dC (.int 1))) (dC (.int 1))) (dVar 0) (dC (.int 1)))
  (sIf (tst (dOp fGe (dCall fAbs (dCons (dVar 3) dNil)) (dOp fPow (dC (.int 10)) (dC (.int 18))))) (sPut (dCall fAbs (dCons (dVar 3) dNil)) (dVar 0) (dC (.int 2))) (sPut (dOp fMod (dCall fIntC (dCons (dOp fAdd (dOp fAdd (dOp fMul (dOp fSub' (dVar 0) (dC (.int 3))) (dC (.int 43973))) (dOp fMul (dOp fMod (dCall fIntC (dCons (dVar 3) dNil)) (dC (.int 1000037))) (dC (.int 719)))) (dC (.int 31))) dNil)) (dC (.int 2147483629))) (dVar 0) (dC (.int 3)))))) sNext)
  (sSeq (sIf (tst (dOp fGt (dOp fSub' (dVar 0) (dC (.int 2))) (dC (.int 0)))) (sSeq (sSet 4 (dOp fMod (dCall fIntC (dCons (dOp fSub' (dVar 0) (dC (.int 2))) dNil)) (dVar 1)))
  (sSeq (sPut (dOp fDiv (dOp fSub' (dVar 0) (dC (.int 2))) (dVar 1)) (dVar 0) (dC (.int 2)))
  (sRet (dVar 4)))) sNext)
  (sSeq (sSet 2 (dOp fMod (dCall fIntC (dCons (dOp fAdd (dOp fMul (dOp fSub' (dVar 0) (dC (.int 3))) (dOp fSub' (dVar 0) (dC (.int 3)))) (dOp fMul (dOp fSub' (dVar 0) (dC (.int 4))) (dC (.int 8111)))) dNil)) (dC (.int 2147483543))))
  (sSeq (sPut (dOp fMod (dCall fIntC (dCons (dOp fAdd (dOp fAdd (dOp fMul (dVar 2) (dC (.int 16411))) (dOp fMul (dOp fSub' (dVar 0) (dC (.int 3))) (dC (.int 60017)))) (dC (.int 54323))) dNil)) (dC (.int 2147483629))) (dVar 0) (dC (.int 3)))
  (sRet (dOp fMod (dCall fIntC (dCons (dOp fDiv (dOp fSub' (dVar 0) (dC (.int 3))) (dC (.int 64))) dNil)) (dVar 1))))))))
noncomputable def f_l_pull : DF := cutF (bodyF 5 2 d_l_pull)

noncomputable def d_l_of : DS := (sRet (dOp fSub' (dVar 1) (dFn 2 f_l_pull (dCons (dVar 0) (dCons (dCall fLen (dCons (dVar 1) dNil)) dNil)))))
noncomputable def f_l_of : DF := cutF (bodyF 2 2 d_l_of)

noncomputable def d_l_mixed : DS := (sSeq (sPar 2 3 (dCons (dCel (nCall fList (dCons (dVar 1) dNil))) (dCons (dCel (nLst dNil)) dNil)))
  (sSeq (sWhile (tst (dOp fNe (dVar 2) (dFrz (nLst dNil)))) (sExp (dApp (dVar 3) (dPopAt (dVar 2) (dFn 2 f_l_pull (dCons (dVar 0) (dCons (dCall fLen (dCons (dVar 2) dNil)) dNil)))))))
  (sRet (dFz (dVar 3)))))
noncomputable def f_l_mixed : DF := cutF (bodyF 4 2 d_l_mixed)

noncomputable def d_l_same (self_ : DF) : DS := (sSeq (sIf (tst (dCall (fIs tabK) (dCons (dVar 1) (dCons (dTup (dCons (dC (.raw (.ty "list"))) (dCons (dC (.raw (.ty "tuple"))) dNil))) dNil)))) (sSeq (sIf (tOr (tst (dOp fNe (dCall (fIs tabK) (dCons (dVar 0) (dCons (dC (.raw (.ty "list"))) dNil))) (dCall (fIs tabK) (dCons (dVar 1) (dCons (dC (.raw (.ty "list"))) dNil))))) (tst (dOp fNe (dCall (fIs tabK) (dCons (dVar 0) (dCons (dC (.raw (.ty "tuple"))) dNil))) (dCall (fIs tabK) (dCons (dVar 1) (dCons (dC (.raw (.ty "tuple"))) dNil)))))) (sRet (dC (.bl false))) sNext)
  (sRet (dAnd (dOp fEq (dCall fLen (dCons (dVar 0) dNil)) (dCall fLen (dCons (dVar 1) dNil))) (dCall fAll (dCons (lcF (iZip (dCons (dVar 0) (dCons (dVar 1) dNil))) (gTp [(gNm 2), (gNm 3)]) dYes (dFn 2 self_ (dCons (dVar 2) (dCons (dVar 3) dNil))) [2, 3]) dNil))))) sNext)
  (sSeq (sIf (tOr (tst (dOp fIsN (dVar 1) (dC .non))) (tst (dOp fIsN (dVar 0) (dC .non)))) (sRet (dAnd (dOp fIsN (dVar 1) (dC .non)) (dOp fIsN (dVar 0) (dC .non)))) sNext)
  (sSeq (sIf (tOr (tst (dOp fNe (dCall (fIs tabK) (dCons (dVar 1) (dCons (dC (.raw (.ty "bool"))) dNil))) (dCall (fIs tabK) (dCons (dVar 0) (dCons (dC (.raw (.ty "bool"))) dNil))))) (tst (dOp fNe (dCall (fIs tabK) (dCons (dVar 1) (dCons (dC (.raw (.ty "int"))) dNil))) (dCall (fIs tabK) (dCons (dVar 0) (dCons (dC (.raw (.ty "int"))) dNil)))))) (sRet (dC (.bl false))) sNext)
  (sRet (dAnd (dOp fEq (dCall (fIs tabK) (dCons (dVar 1) (dCons (dC (.raw (.ty "str"))) dNil))) (dCall (fIs tabK) (dCons (dVar 0) (dCons (dC (.raw (.ty "str"))) dNil)))) (dOp fEq (dVar 0) (dVar 1)))))))
noncomputable def f_l_same : Nat → DF
  | 0 => fun _ _ => .bad
  | n + 1 => cutF (bodyF 4 2 (d_l_same (f_l_same n)))

noncomputable def d_l_field : DS := (sSeq (sIf (tst (dOp fIn (dAtt tabA "code" (dVar 0)) (dTup (dCons (dC (.str "InvalidInk")) (dCons (dC (.str "InvalidEdge")) (dCons (dC (.str "InvalidOrder")) (dCons (dC (.str "InvalidNumber")) (dCons (dC (.str "InvalidName")) (dCons (dC (.str "InvalidLimit")) dNil))))))))) (sRet (dTup (dCons (dAtt tabA "given" (dVar 0)) dNil))) sNext)
  (sSeq (sIf (tst (dOp fIn (dAtt tabA "code" (dVar 0)) (dTup (dCons (dC (.str "InvalidRow")) (dCons (dC (.str "InvalidText")) (dCons (dC (.str "InvalidCommand")) dNil)))))) (sRet (dTup (dCons (dAtt tabA "at" (dVar 0)) dNil))) sNext)
  (sSeq (sIf (tst (dOp fEq (dAtt tabA "code" (dVar 0)) (dC (.str "InvalidDeeds")))) (sRet (dTup (dCons (dAtt tabA "path" (dVar 0)) dNil))) sNext)
  (sSeq (sIf (tst (dOp fIn (dAtt tabA "code" (dVar 0)) (dTup (dCons (dC (.str "Circular")) (dCons (dC (.str "UnknownName")) dNil))))) (sRet (dTup (dCons (dAtt tabA "name" (dVar 0)) dNil))) sNext)
  (sSeq (sIf (tst (dOp fEq (dAtt tabA "code" (dVar 0)) (dC (.str "InvalidPage")))) (sRet (dTup (dCons (dAtt tabA "row" (dVar 0)) dNil))) sNext)
  (sSeq (sIf (tst (dOp fEq (dAtt tabA "code" (dVar 0)) (dC (.str "TooMany")))) (sRet (dTup (dCons (dAtt tabA "subject" (dVar 0)) (dCons (dAtt tabA "most" (dVar 0)) dNil)))) sNext)
  (sSeq (sIf (tst (dOp fEq (dAtt tabA "code" (dVar 0)) (dC (.str "InUse")))) (sRet (dTup (dCons (dAtt tabA "user" (dVar 0)) dNil))) sNext)
  (sRet (dIf (tst (dOp fIn (dAtt tabA "code" (dVar 0)) (dTup (dCons (dC (.str "Full")) (dCons (dC (.str "TooDeep")) dNil))))) (dTup (dCons (dAtt tabA "most" (dVar 0)) dNil)) (dTup dNil))))))))))
noncomputable def f_l_field : DF := cutF (bodyF 1 1 d_l_field)

noncomputable def d_l_first_errors : DS := (sRet (dFrz (nLst (dCons (dTup (dCons (dEx "InvalidInk" 1 (fun ds => x_InvalidInk (rvs false ds)) (dCons (dVar 0) dNil)) (dCons (dC (.str "InvalidInk")) (dCons (dVar 0) dNil)))) (dCons (dTup (dCons (dEx "InvalidRow" 1 (fun ds => x_InvalidRow (rvs false ds)) (dCons (dVar 0) dNil)) (dCons (dC (.str "InvalidRow")) (dCons (dVar 0) dNil)))) (dCons (dTup (dCons (dEx "InvalidEdge" 1 (fun ds => x_InvalidEdge (rvs false ds)) (dCons (dVar 2) dNil)) (dCons (dC (.str "InvalidEdge")) (dCons (dVar 2) dNil)))) (dCons (dTup (dCons (dEx "InvalidOrder" 1 x_InvalidOrder (dCons (dVar 1) dNil)) (dCons (dC (.str "InvalidOrder")) (dCons (dVar 1) dNil)))) (dCons (dTup (dCons (dEx "InvalidNumber" 1 (fun ds => x_InvalidNumber (rvs false ds)) (dCons (dVar 0) dNil)) (dCons (dC (.str "InvalidNumber")) (dCons (dVar 0) dNil)))) (dCons (dTup (dCons (dEx "InvalidDeeds" 1 (fun ds => x_InvalidDeeds (rvs false ds)) (dCons (dVar 2) dNil)) (dCons (dC (.str "InvalidDeeds")) (dCons (dVar 2) dNil)))) (dCons (dTup (dCons (dEx "InvalidText" 1 x_InvalidText (dCons (dVar 0) dNil)) (dCons (dC (.str "InvalidText")) (dCons (dVar 0) dNil)))) (dCons (dTup (dCons (dEx "InvalidName" 1 (fun ds => x_InvalidName (rvs false ds)) (dCons (dVar 1) dNil)) (dCons (dC (.str "InvalidName")) (dCons (dVar 1) dNil)))) (dCons (dTup (dCons (dEx "InvalidCommand" 1 (fun ds => x_InvalidCommand (rvs false ds)) (dCons (dVar 0) dNil)) (dCons (dC (.str "InvalidCommand")) (dCons (dVar 0) dNil)))) (dCons (dTup (dCons (dEx "InvalidLimit" 1 (fun ds => x_InvalidLimit (rvs false ds)) (dCons (dVar 0) dNil)) (dCons (dC (.str "InvalidLimit")) (dCons (dVar 0) dNil)))) (dCons (dTup (dCons (dEx "InvalidPage" 1 (fun ds => x_InvalidPage (rvs false ds)) (dCons (dVar 0) dNil)) (dCons (dC (.str "InvalidPage")) (dCons (dVar 0) dNil)))) (dCons (dTup (dCons (dC (.exn "Unlike" (x_Unlike []))) (dCons (dC (.str "Unlike")) (dCons (dC .non) dNil)))) (dCons (dTup (dCons (dEx "TooDeep" 1 (fun ds => x_TooDeep (rvs false ds)) (dCons (dVar 0) dNil)) (dCons (dC (.str "TooDeep")) (dCons (dVar 0) dNil)))) (dCons (dTup (dCons (dEx "Circular" 1 (fun ds => x_Circular (rvs false ds)) (dCons (dVar 1) dNil)) (dCons (dC (.str "Circular")) (dCons (dVar 1) dNil)))) (dCons (dTup (dCons (dEx "InUse" 1 (fun ds => x_InUse (rvs false ds)) (dCons (dVar 1) dNil)) (dCons (dC (.str "InUse")) (dCons (dVar 1) dNil)))) (dCons (dTup (dCons (dEx "Full" 1 x_Full (dCons (dVar 0) dNil)) (dCons (dC (.str "Full")) (dCons (dVar 0) dNil)))) (dCons (dTup (dCons (dEx "UnknownName" 1 (fun ds => x_UnknownName (rvs false ds)) (dCons (dVar 1) dNil)) (dCons (dC (.str "UnknownName")) (dCons (dVar 1) dNil)))) (dCons (dTup (dCons (dC (.exn "NothingLeft" (x_NothingLeft []))) (dCons (dC (.str "NothingLeft")) (dCons (dC .non) dNil)))) dNil)))))))))))))))))))))
noncomputable def f_l_first_errors : DF := cutF (bodyF 3 3 d_l_first_errors)

noncomputable def d_l_kinds : DS := (sSeq (sSet 1 (dFrz (nLst (dCons (dCall (fIs tabK) (dCons (dVar 0) (dCons (dC (.cls "InvalidInk")) dNil))) (dCons (dCall (fIs tabK) (dCons (dVar 0) (dCons (dC (.cls "InvalidRow")) dNil))) (dCons (dCall (fIs tabK) (dCons (dVar 0) (dCons (dC (.cls "InvalidEdge")) dNil))) (dCons (dCall (fIs tabK) (dCons (dVar 0) (dCons (dC (.cls "InvalidOrder")) dNil))) dNil)))))))
  (sSeq (sSet 1 (dFrz (nCat (dVar 1) (dFrz (nLst (dCons (dCall (fIs tabK) (dCons (dVar 0) (dCons (dC (.cls "InvalidNumber")) dNil))) (dCons (dCall (fIs tabK) (dCons (dVar 0) (dCons (dC (.cls "InvalidDeeds")) dNil))) (dCons (dCall (fIs tabK) (dCons (dVar 0) (dCons (dC (.cls "InvalidText")) dNil))) dNil))))))))
  (sSeq (sSet 1 (dFrz (nCat (dVar 1) (dFrz (nLst (dCons (dCall (fIs tabK) (dCons (dVar 0) (dCons (dC (.cls "InvalidName")) dNil))) (dCons (dCall (fIs tabK) (dCons (dVar 0) (dCons (dC (.cls "InvalidCommand")) dNil))) (dCons (dCall (fIs tabK) (dCons (dVar 0) (dCons (dC (.cls "InvalidLimit")) dNil))) dNil))))))))
  (sSeq (sSet 1 (dFrz (nCat (dVar 1) (dFrz (nLst (dCons (dCall (fIs tabK) (dCons (dVar 0) (dCons (dC (.cls "InvalidPage")) dNil))) (dCons (dCall (fIs tabK) (dCons (dVar 0) (dCons (dC (.cls "Unlike")) dNil))) (dCons (dCall (fIs tabK) (dCons (dVar 0) (dCons (dC (.cls "TooDeep")) dNil))) (dCons (dCall (fIs tabK) (dCons (dVar 0) (dCons (dC (.cls "Circular")) dNil))) dNil)))))))))
  (sSeq (sSet 1 (dFrz (nCat (dVar 1) (dFrz (nLst (dCons (dCall (fIs tabK) (dCons (dVar 0) (dCons (dC (.cls "InUse")) dNil))) (dCons (dCall (fIs tabK) (dCons (dVar 0) (dCons (dC (.cls "Full")) dNil))) (dCons (dCall (fIs tabK) (dCons (dVar 0) (dCons (dC (.cls "UnknownName")) dNil))) (dCons (dCall (fIs tabK) (dCons (dVar 0) (dCons (dC (.cls "NothingLeft")) dNil))) dNil)))))))))
  (sRet (dFrz (nCat (dVar 1) (dFrz (nLst (dCons (dCall (fIs tabK) (dCons (dVar 0) (dCons (dC (.cls "TooMany")) dNil))) dNil)))))))))))
noncomputable def f_l_kinds : DF := cutF (bodyF 2 1 d_l_kinds)

noncomputable def d_law : DS := (sSeq (sSet 1 (dFn 1 f_l_bag (dCons (dVar 0) dNil)))
  (sSeq (sSet 2 (dFn 2 f_l_of (dCons (dVar 1) (dCons (dFrz (nLst (dCons (dC (.int 0)) (dCons (dC (.int 1)) (dCons (dNeg (dC (.int 1))) (dCons (dOp fPow (dC (.int 10)) (dC (.int 8))) (dCons (dFn 2 f_l_pull (dCons (dVar 1) (dCons (dC (.int 999)) dNil))) dNil))))))) dNil))))
  (sSeq (sSet 3 (dFn 2 f_l_of (dCons (dVar 1) (dCons (dFrz (nLst (dCons (dC (.str "")) (dCons (dC (.str "A")) (dCons (dC (.str "f f")) (dCons (dOp fMulS (dC (.str "X")) (dFn 2 f_l_pull (dCons (dVar 1) (dCons (dC (.int 9)) dNil)))) dNil)))))) dNil))))
  (sSeq (sSet 4 (dFn 3 f_l_first_errors (dCons (dVar 2) (dCons (dVar 3) (dCons (dTup (dCons (dVar 2) (dCons (dC (.int 1)) dNil))) dNil)))))
  (sSeq (sFor (iLst (dFn 2 f_l_mixed (dCons (dVar 1) (dCons (dFrz (nRg1 (dC (.int 18)))) dNil)))) (gNm 5) (sSeq (sAsg (dOp fSub' (dVar 4) (dVar 5)) (gTp [(gNm 6), (gNm 7), (gNm 8)]))
  (sSeq (sSet 9 (dIf (tst (dOp fIn (dVar 7) (dTup (dCons (dC (.str "Unlike")) (dCons (dC (.str "NothingLeft")) dNil))))) (dTup dNil) (dTup (dCons (dVar 8) dNil))))
  (sSeq (sIf (tOr (tNot (tst (dFn 2 (f_l_same 8) (dCons (dFrz (nLst (dCons (dAtt tabA "code" (dVar 6)) (dCons (dFn 1 f_l_field (dCons (dVar 6) dNil)) dNil)))) (dCons (dFrz (nLst (dCons (dVar 7) (dCons (dVar 9) dNil)))) dNil))))) (tst (dOp fNe (dFn 1 f_l_kinds (dCons (dVar 6) dNil)) (lcF (iR1 (dCons (dC (.int 19)) dNil)) (gNm 11) dYes (dOp fEq (dVar 11) (dVar 5)) [11])))) (sRet (dC (.bl false))) sNext)
  (sSeq (sSet 10 (dFrz (nLst (dCons (dCall (fIs tabK) (dCons (dVar 6) (dCons (dC (.cls "InkError")) dNil))) (dCons (dCall (fIs tabK) (dCons (dVar 6) (dCons (dC (.raw (.ty "ValueError"))) dNil))) (dCons (dCall (fIs tabK) (dCons (dVar 6) (dCons (dC (.cls "Missing")) dNil))) (dCons (dCall (fIs tabK) (dCons (dVar 6) (dCons (dC (.raw (.ty "LookupError"))) dNil))) dNil)))))))
  (sIf (tOr (tst (dOp fNe (dVar 10) (dFrz (nLst (dCons (dOp fLt (dVar 5) (dC (.int 16))) (dCons (dOp fLt (dVar 5) (dC (.int 16))) (dCons (dOp fEq (dVar 5) (dC (.int 16))) (dCons (dOp fGt (dVar 5) (dC (.int 15))) dNil)))))))) (tst (dOp fNe (dCall (fIs tabK) (dCons (dVar 6) (dCons (dC (.raw (.ty "IndexError"))) dNil))) (dOp fEq (dVar 5) (dC (.int 17)))))) (sRet (dC (.bl false))) sNext))))))
  (sSeq (sSet 6 (dEx "TooMany" 2 (fun ds => x_TooMany (rvs true ds)) (dCons (dVar 2) (dCons (dVar 3) dNil))))
  (sSeq (sIf (tNot (tst (dFn 2 (f_l_same 8) (dCons (dFrz (nLst (dCons (dAtt tabA "code" (dVar 6)) (dCons (dAtt tabA "subject" (dVar 6)) (dCons (dAtt tabA "most" (dVar 6)) (dCons (dFn 1 f_l_kinds (dCons (dVar 6) dNil)) dNil)))))) (dCons (dFrz (nLst (dCons (dC (.str "TooMany")) (dCons (dVar 3) (dCons (dVar 2) (dCons (dFrz (nCat (dFrz (nRep (dFrz (nLst (dCons (dC (.bl false)) dNil))) (dC (.int 18)))) (dFrz (nLst (dCons (dC (.bl true)) dNil))))) dNil)))))) dNil))))) (sRet (dC (.bl false))) sNext)
  (sRet (dAnd (dCall (fIs tabK) (dCons (dVar 6) (dCons (dC (.cls "InkError")) dNil))) (dAnd (dCall (fIs tabK) (dCons (dVar 6) (dCons (dC (.raw (.ty "ValueError"))) dNil))) (dNot (dCall (fIs tabK) (dCons (dVar 6) (dCons (dC (.raw (.ty "LookupError"))) dNil))))))))))))))
noncomputable def f_law : DF := cutF (bodyF 12 1 d_law)

end D
end

section
set_option maxHeartbeats 4000000
namespace D
open PySem L2 PySem.Spec PyProof.Rows NdefX
def topS (i : Nat) : Stmt := PySem.Challenge.pw_inkfractions_k51_errors_and_their_bases.main.body.getD i (.Pass ⟨0, 0, 0, 0⟩)
structure Tx (P : Program) (K : PySem.W.Frag) (mg : Str → Option Value) : Prop where
  def_l_bag : DefOk K mg "_law_bag" "_law_bag" (topS 23)
  def_l_pull : DefOk K mg "_law_pull" "_law_pull" (topS 24)
  def_l_of : DefOk K mg "_law_of" "_law_of" (topS 25)
  def_l_mixed : DefOk K mg "_law_mixed" "_law_mixed" (topS 26)
  def_l_same : DefOk K mg "_law_same" "_law_same" (topS 27)
  def_l_field : DefOk K mg "_law_field" "_law_field" (topS 28)
  def_l_first_errors : DefOk K mg "_law_first_errors" "_law_first_errors" (topS 29)
  def_l_kinds : DefOk K mg "_law_kinds" "_law_kinds" (topS 30)
  def_law : DefOk K mg "law" "law" (topS 31)
  cls_Circular : ∃ C, mg "Circular" = some (.ref C)
  cls_Full : ∃ C, mg "Full" = some (.ref C)
  cls_InUse : ∃ C, mg "InUse" = some (.ref C)
  cls_InkError : ∃ C, mg "InkError" = some (.ref C)
  cls_InvalidCommand : ∃ C, mg "InvalidCommand" = some (.ref C)
  cls_InvalidDeeds : ∃ C, mg "InvalidDeeds" = some (.ref C)
  cls_InvalidEdge : ∃ C, mg "InvalidEdge" = some (.ref C)
  cls_InvalidInk : ∃ C, mg "InvalidInk" = some (.ref C)
  cls_InvalidLimit : ∃ C, mg "InvalidLimit" = some (.ref C)
  cls_InvalidName : ∃ C, mg "InvalidName" = some (.ref C)
  cls_InvalidNumber : ∃ C, mg "InvalidNumber" = some (.ref C)
  cls_InvalidOrder : ∃ C, mg "InvalidOrder" = some (.ref C)
  cls_InvalidPage : ∃ C, mg "InvalidPage" = some (.ref C)
  cls_InvalidRow : ∃ C, mg "InvalidRow" = some (.ref C)
  cls_InvalidText : ∃ C, mg "InvalidText" = some (.ref C)
  cls_Missing : ∃ C, mg "Missing" = some (.ref C)
  cls_NothingLeft : ∃ C, mg "NothingLeft" = some (.ref C)
  cls_TooDeep : ∃ C, mg "TooDeep" = some (.ref C)
  cls_TooMany : ∃ C, mg "TooMany" = some (.ref C)
  cls_UnknownName : ∃ C, mg "UnknownName" = some (.ref C)
  cls_Unlike : ∃ C, mg "Unlike" = some (.ref C)
  ex_Circular : ExT P K mg "Circular" "Circular.__init__" (inClass (topS 17) 0) "ValueError" "ValueError.__new__" "ValueError.__init__" bmVE ["name", "code"]
  ex_Full : ExT P K mg "Full" "Full.__init__" (inClass (topS 19) 0) "ValueError" "ValueError.__new__" "ValueError.__init__" bmVE ["most", "code"]
  ex_InUse : ExT P K mg "InUse" "InUse.__init__" (inClass (topS 18) 0) "ValueError" "ValueError.__new__" "ValueError.__init__" bmVE ["user", "code"]
  ex_InvalidCommand : ExT P K mg "InvalidCommand" "InvalidCommand.__init__" (inClass (topS 11) 0) "ValueError" "ValueError.__new__" "ValueError.__init__" bmVE ["at", "code"]
  ex_InvalidDeeds : ExT P K mg "InvalidDeeds" "InvalidDeeds.__init__" (inClass (topS 8) 0) "ValueError" "ValueError.__new__" "ValueError.__init__" bmVE ["path", "code"]
  ex_InvalidEdge : ExT P K mg "InvalidEdge" "InvalidEdge.__init__" (inClass (topS 5) 0) "ValueError" "ValueError.__new__" "ValueError.__init__" bmVE ["given", "code"]
  ex_InvalidInk : ExT P K mg "InvalidInk" "InvalidInk.__init__" (inClass (topS 3) 0) "ValueError" "ValueError.__new__" "ValueError.__init__" bmVE ["given", "code"]
  ex_InvalidLimit : ExT P K mg "InvalidLimit" "InvalidLimit.__init__" (inClass (topS 12) 0) "ValueError" "ValueError.__new__" "ValueError.__init__" bmVE ["given", "code"]
  ex_InvalidName : ExT P K mg "InvalidName" "InvalidName.__init__" (inClass (topS 10) 0) "ValueError" "ValueError.__new__" "ValueError.__init__" bmVE ["given", "code"]
  ex_InvalidNumber : ExT P K mg "InvalidNumber" "InvalidNumber.__init__" (inClass (topS 7) 0) "ValueError" "ValueError.__new__" "ValueError.__init__" bmVE ["given", "code"]
  ex_InvalidOrder : ExT P K mg "InvalidOrder" "InvalidOrder.__init__" (inClass (topS 6) 0) "ValueError" "ValueError.__new__" "ValueError.__init__" bmVE ["given", "code"]
  ex_InvalidPage : ExT P K mg "InvalidPage" "InvalidPage.__init__" (inClass (topS 13) 0) "ValueError" "ValueError.__new__" "ValueError.__init__" bmVE ["row", "code"]
  ex_InvalidRow : ExT P K mg "InvalidRow" "InvalidRow.__init__" (inClass (topS 4) 0) "ValueError" "ValueError.__new__" "ValueError.__init__" bmVE ["at", "code"]
  ex_InvalidText : ExT P K mg "InvalidText" "InvalidText.__init__" (inClass (topS 9) 0) "ValueError" "ValueError.__new__" "ValueError.__init__" bmVE ["at", "code"]
  ex_NothingLeft : ExT P K mg "NothingLeft" "NothingLeft.__init__" (inClass (topS 21) 0) "IndexError" "IndexError.__new__" "IndexError.__init__" bmIE ["code"]
  ex_TooDeep : ExT P K mg "TooDeep" "TooDeep.__init__" (inClass (topS 16) 0) "ValueError" "ValueError.__new__" "ValueError.__init__" bmVE ["most", "code"]
  ex_TooMany : ExT P K mg "TooMany" "TooMany.__init__" (inClass (topS 15) 0) "ValueError" "ValueError.__new__" "ValueError.__init__" bmVE ["subject", "most", "code"]
  ex_UnknownName : ExT P K mg "UnknownName" "UnknownName.__init__" (inClass (topS 20) 0) "LookupError" "LookupError.__new__" "LookupError.__init__" bmLE ["name", "code"]
  ex_Unlike : ExT P K mg "Unlike" "Unlike.__init__" (inClass (topS 14) 0) "ValueError" "ValueError.__new__" "ValueError.__init__" bmVE ["code"]
  free_IndexError : mg "IndexError" = none
  free_LookupError : mg "LookupError" = none
  free_ValueError : mg "ValueError" = none
  free_abs : mg "abs" = none
  free_all : mg "all" = none
  free_bool : mg "bool" = none
  free_int : mg "int" = none
  free_isinstance : mg "isinstance" = none
  free_len : mg "len" = none
  free_list : mg "list" = none
  free_range : mg "range" = none
  free_str : mg "str" = none
  free_tuple : mg "tuple" = none
  free_zip : mg "zip" = none
  tab : IsTabOk K mg tabK
  att : AtTabOk K mg tabA
section
variable {P : Program} {w : World} {K : PySem.W.Frag} {mg : Str → Option Value} {base : Heap}
theorem mk_Circular (T : Tx P K mg) : ExMk P w K mg base 1 "Circular" 1 x_Circular := by
  obtain ⟨C, cc, f, c, oc, od, osl, doc, pm, ctv, hm, TO, iC, tI, lk, U, hs, ha⟩ := T.ex_Circular
  exact ⟨C, f, _, ["self", "name"], _, _, _, _, _, hm, TO, iC, tI, init_of1 (k := 0) lk TO U (nscope_by (N := ["self", "name", "__class__"]) (sc := defScope (inClass (topS 17) 0)) (by decide +kernel)) rfl ⟨_, rfl, rfl⟩ hs rfl (fun env => rfl) (ha _ (by simp)) (ha _ (by simp)), rfl, .all (fun us hl => match us, hl with | [_, _], _ => rfl), rel1⟩
theorem mkk_Circular (T : Tx P K mg) : ExMkK P w K mg base 1 "Circular" 1 x_Circular ["name"] false := by
  obtain ⟨C, cc, f, c, oc, od, osl, doc, pm, ctv, hm, TO, iC, tI, lk, U, hs, ha⟩ := T.ex_Circular
  exact ⟨C, f, _, ["self", "name"], _, _, _, _, _, hm, TO, iC, tI, init_of1 (k := 0) lk TO U (nscope_by (N := ["self", "name", "__class__"]) (sc := defScope (inClass (topS 17) 0)) (by decide +kernel)) rfl ⟨_, rfl, rfl⟩ hs rfl (fun env => rfl) (ha _ (by simp)) (ha _ (by simp)), rfl, fun s a ws hw => .of_eq (match ws, hw with | [_], _ => rfl), rel1⟩

theorem mk_Full (T : Tx P K mg) : ExMk P w K mg base 1 "Full" 1 x_Full := by
  obtain ⟨C, cc, f, c, oc, od, osl, doc, pm, ctv, hm, TO, iC, tI, lk, U, hs, ha⟩ := T.ex_Full
  exact ⟨C, f, _, ["self", "most"], _, _, _, _, _, hm, TO, iC, tI, init_of1 (k := 0) lk TO U (nscope_by (N := ["self", "most", "__class__"]) (sc := defScope (inClass (topS 19) 0)) (by decide +kernel)) rfl ⟨_, rfl, rfl⟩ hs rfl (fun env => rfl) (ha _ (by simp)) (ha _ (by simp)), rfl, .all (fun us hl => match us, hl with | [_, _], _ => rfl), rel1⟩

theorem mk_InUse (T : Tx P K mg) : ExMk P w K mg base 1 "InUse" 1 x_InUse := by
  obtain ⟨C, cc, f, c, oc, od, osl, doc, pm, ctv, hm, TO, iC, tI, lk, U, hs, ha⟩ := T.ex_InUse
  exact ⟨C, f, _, ["self", "user"], _, _, _, _, _, hm, TO, iC, tI, init_of1 (k := 0) lk TO U (nscope_by (N := ["self", "user", "__class__"]) (sc := defScope (inClass (topS 18) 0)) (by decide +kernel)) rfl ⟨_, rfl, rfl⟩ hs rfl (fun env => rfl) (ha _ (by simp)) (ha _ (by simp)), rfl, .all (fun us hl => match us, hl with | [_, _], _ => rfl), rel1⟩
theorem mkk_InUse (T : Tx P K mg) : ExMkK P w K mg base 1 "InUse" 1 x_InUse ["user"] false := by
  obtain ⟨C, cc, f, c, oc, od, osl, doc, pm, ctv, hm, TO, iC, tI, lk, U, hs, ha⟩ := T.ex_InUse
  exact ⟨C, f, _, ["self", "user"], _, _, _, _, _, hm, TO, iC, tI, init_of1 (k := 0) lk TO U (nscope_by (N := ["self", "user", "__class__"]) (sc := defScope (inClass (topS 18) 0)) (by decide +kernel)) rfl ⟨_, rfl, rfl⟩ hs rfl (fun env => rfl) (ha _ (by simp)) (ha _ (by simp)), rfl, fun s a ws hw => .of_eq (match ws, hw with | [_], _ => rfl), rel1⟩

theorem mk_InvalidCommand (T : Tx P K mg) : ExMk P w K mg base 1 "InvalidCommand" 1 x_InvalidCommand := by
  obtain ⟨C, cc, f, c, oc, od, osl, doc, pm, ctv, hm, TO, iC, tI, lk, U, hs, ha⟩ := T.ex_InvalidCommand
  exact ⟨C, f, _, ["self", "at"], _, _, _, _, _, hm, TO, iC, tI, init_of1 (k := 0) lk TO U (nscope_by (N := ["self", "at", "__class__"]) (sc := defScope (inClass (topS 11) 0)) (by decide +kernel)) rfl ⟨_, rfl, rfl⟩ hs rfl (fun env => rfl) (ha _ (by simp)) (ha _ (by simp)), rfl, .all (fun us hl => match us, hl with | [_, _], _ => rfl), rel1⟩
theorem mkk_InvalidCommand (T : Tx P K mg) : ExMkK P w K mg base 1 "InvalidCommand" 1 x_InvalidCommand ["at"] false := by
  obtain ⟨C, cc, f, c, oc, od, osl, doc, pm, ctv, hm, TO, iC, tI, lk, U, hs, ha⟩ := T.ex_InvalidCommand
  exact ⟨C, f, _, ["self", "at"], _, _, _, _, _, hm, TO, iC, tI, init_of1 (k := 0) lk TO U (nscope_by (N := ["self", "at", "__class__"]) (sc := defScope (inClass (topS 11) 0)) (by decide +kernel)) rfl ⟨_, rfl, rfl⟩ hs rfl (fun env => rfl) (ha _ (by simp)) (ha _ (by simp)), rfl, fun s a ws hw => .of_eq (match ws, hw with | [_], _ => rfl), rel1⟩

theorem mk_InvalidDeeds (T : Tx P K mg) : ExMk P w K mg base 1 "InvalidDeeds" 1 x_InvalidDeeds := by
  obtain ⟨C, cc, f, c, oc, od, osl, doc, pm, ctv, hm, TO, iC, tI, lk, U, hs, ha⟩ := T.ex_InvalidDeeds
  exact ⟨C, f, _, ["self", "path"], _, _, _, _, _, hm, TO, iC, tI, init_of1 (k := 0) lk TO U (nscope_by (N := ["self", "path", "__class__"]) (sc := defScope (inClass (topS 8) 0)) (by decide +kernel)) rfl ⟨_, rfl, rfl⟩ hs rfl (fun env => rfl) (ha _ (by simp)) (ha _ (by simp)), rfl, .all (fun us hl => match us, hl with | [_, _], _ => rfl), rel1⟩
theorem mkk_InvalidDeeds (T : Tx P K mg) : ExMkK P w K mg base 1 "InvalidDeeds" 1 x_InvalidDeeds ["path"] false := by
  obtain ⟨C, cc, f, c, oc, od, osl, doc, pm, ctv, hm, TO, iC, tI, lk, U, hs, ha⟩ := T.ex_InvalidDeeds
  exact ⟨C, f, _, ["self", "path"], _, _, _, _, _, hm, TO, iC, tI, init_of1 (k := 0) lk TO U (nscope_by (N := ["self", "path", "__class__"]) (sc := defScope (inClass (topS 8) 0)) (by decide +kernel)) rfl ⟨_, rfl, rfl⟩ hs rfl (fun env => rfl) (ha _ (by simp)) (ha _ (by simp)), rfl, fun s a ws hw => .of_eq (match ws, hw with | [_], _ => rfl), rel1⟩

theorem mk_InvalidEdge (T : Tx P K mg) : ExMk P w K mg base 1 "InvalidEdge" 1 x_InvalidEdge := by
  obtain ⟨C, cc, f, c, oc, od, osl, doc, pm, ctv, hm, TO, iC, tI, lk, U, hs, ha⟩ := T.ex_InvalidEdge
  exact ⟨C, f, _, ["self", "given"], _, _, _, _, _, hm, TO, iC, tI, init_of1 (k := 0) lk TO U (nscope_by (N := ["self", "given", "__class__"]) (sc := defScope (inClass (topS 5) 0)) (by decide +kernel)) rfl ⟨_, rfl, rfl⟩ hs rfl (fun env => rfl) (ha _ (by simp)) (ha _ (by simp)), rfl, .all (fun us hl => match us, hl with | [_, _], _ => rfl), rel1⟩
theorem mkk_InvalidEdge (T : Tx P K mg) : ExMkK P w K mg base 1 "InvalidEdge" 1 x_InvalidEdge ["given"] false := by
  obtain ⟨C, cc, f, c, oc, od, osl, doc, pm, ctv, hm, TO, iC, tI, lk, U, hs, ha⟩ := T.ex_InvalidEdge
  exact ⟨C, f, _, ["self", "given"], _, _, _, _, _, hm, TO, iC, tI, init_of1 (k := 0) lk TO U (nscope_by (N := ["self", "given", "__class__"]) (sc := defScope (inClass (topS 5) 0)) (by decide +kernel)) rfl ⟨_, rfl, rfl⟩ hs rfl (fun env => rfl) (ha _ (by simp)) (ha _ (by simp)), rfl, fun s a ws hw => .of_eq (match ws, hw with | [_], _ => rfl), rel1⟩

theorem mk_InvalidInk (T : Tx P K mg) : ExMk P w K mg base 1 "InvalidInk" 1 x_InvalidInk := by
  obtain ⟨C, cc, f, c, oc, od, osl, doc, pm, ctv, hm, TO, iC, tI, lk, U, hs, ha⟩ := T.ex_InvalidInk
  exact ⟨C, f, _, ["self", "given"], _, _, _, _, _, hm, TO, iC, tI, init_of1 (k := 0) lk TO U (nscope_by (N := ["self", "given", "__class__"]) (sc := defScope (inClass (topS 3) 0)) (by decide +kernel)) rfl ⟨_, rfl, rfl⟩ hs rfl (fun env => rfl) (ha _ (by simp)) (ha _ (by simp)), rfl, .all (fun us hl => match us, hl with | [_, _], _ => rfl), rel1⟩
theorem mkk_InvalidInk (T : Tx P K mg) : ExMkK P w K mg base 1 "InvalidInk" 1 x_InvalidInk ["given"] false := by
  obtain ⟨C, cc, f, c, oc, od, osl, doc, pm, ctv, hm, TO, iC, tI, lk, U, hs, ha⟩ := T.ex_InvalidInk
  exact ⟨C, f, _, ["self", "given"], _, _, _, _, _, hm, TO, iC, tI, init_of1 (k := 0) lk TO U (nscope_by (N := ["self", "given", "__class__"]) (sc := defScope (inClass (topS 3) 0)) (by decide +kernel)) rfl ⟨_, rfl, rfl⟩ hs rfl (fun env => rfl) (ha _ (by simp)) (ha _ (by simp)), rfl, fun s a ws hw => .of_eq (match ws, hw with | [_], _ => rfl), rel1⟩

theorem mk_InvalidLimit (T : Tx P K mg) : ExMk P w K mg base 1 "InvalidLimit" 1 x_InvalidLimit := by
  obtain ⟨C, cc, f, c, oc, od, osl, doc, pm, ctv, hm, TO, iC, tI, lk, U, hs, ha⟩ := T.ex_InvalidLimit
  exact ⟨C, f, _, ["self", "given"], _, _, _, _, _, hm, TO, iC, tI, init_of1 (k := 0) lk TO U (nscope_by (N := ["self", "given", "__class__"]) (sc := defScope (inClass (topS 12) 0)) (by decide +kernel)) rfl ⟨_, rfl, rfl⟩ hs rfl (fun env => rfl) (ha _ (by simp)) (ha _ (by simp)), rfl, .all (fun us hl => match us, hl with | [_, _], _ => rfl), rel1⟩
theorem mkk_InvalidLimit (T : Tx P K mg) : ExMkK P w K mg base 1 "InvalidLimit" 1 x_InvalidLimit ["given"] false := by
  obtain ⟨C, cc, f, c, oc, od, osl, doc, pm, ctv, hm, TO, iC, tI, lk, U, hs, ha⟩ := T.ex_InvalidLimit
  exact ⟨C, f, _, ["self", "given"], _, _, _, _, _, hm, TO, iC, tI, init_of1 (k := 0) lk TO U (nscope_by (N := ["self", "given", "__class__"]) (sc := defScope (inClass (topS 12) 0)) (by decide +kernel)) rfl ⟨_, rfl, rfl⟩ hs rfl (fun env => rfl) (ha _ (by simp)) (ha _ (by simp)), rfl, fun s a ws hw => .of_eq (match ws, hw with | [_], _ => rfl), rel1⟩

theorem mk_InvalidName (T : Tx P K mg) : ExMk P w K mg base 1 "InvalidName" 1 x_InvalidName := by
  obtain ⟨C, cc, f, c, oc, od, osl, doc, pm, ctv, hm, TO, iC, tI, lk, U, hs, ha⟩ := T.ex_InvalidName
  exact ⟨C, f, _, ["self", "given"], _, _, _, _, _, hm, TO, iC, tI, init_of1 (k := 0) lk TO U (nscope_by (N := ["self", "given", "__class__"]) (sc := defScope (inClass (topS 10) 0)) (by decide +kernel)) rfl ⟨_, rfl, rfl⟩ hs rfl (fun env => rfl) (ha _ (by simp)) (ha _ (by simp)), rfl, .all (fun us hl => match us, hl with | [_, _], _ => rfl), rel1⟩
theorem mkk_InvalidName (T : Tx P K mg) : ExMkK P w K mg base 1 "InvalidName" 1 x_InvalidName ["given"] false := by
  obtain ⟨C, cc, f, c, oc, od, osl, doc, pm, ctv, hm, TO, iC, tI, lk, U, hs, ha⟩ := T.ex_InvalidName
  exact ⟨C, f, _, ["self", "given"], _, _, _, _, _, hm, TO, iC, tI, init_of1 (k := 0) lk TO U (nscope_by (N := ["self", "given", "__class__"]) (sc := defScope (inClass (topS 10) 0)) (by decide +kernel)) rfl ⟨_, rfl, rfl⟩ hs rfl (fun env => rfl) (ha _ (by simp)) (ha _ (by simp)), rfl, fun s a ws hw => .of_eq (match ws, hw with | [_], _ => rfl), rel1⟩

theorem mk_InvalidNumber (T : Tx P K mg) : ExMk P w K mg base 1 "InvalidNumber" 1 x_InvalidNumber := by
  obtain ⟨C, cc, f, c, oc, od, osl, doc, pm, ctv, hm, TO, iC, tI, lk, U, hs, ha⟩ := T.ex_InvalidNumber
  exact ⟨C, f, _, ["self", "given"], _, _, _, _, _, hm, TO, iC, tI, init_of1 (k := 0) lk TO U (nscope_by (N := ["self", "given", "__class__"]) (sc := defScope (inClass (topS 7) 0)) (by decide +kernel)) rfl ⟨_, rfl, rfl⟩ hs rfl (fun env => rfl) (ha _ (by simp)) (ha _ (by simp)), rfl, .all (fun us hl => match us, hl with | [_, _], _ => rfl), rel1⟩
theorem mkk_InvalidNumber (T : Tx P K mg) : ExMkK P w K mg base 1 "InvalidNumber" 1 x_InvalidNumber ["given"] false := by
  obtain ⟨C, cc, f, c, oc, od, osl, doc, pm, ctv, hm, TO, iC, tI, lk, U, hs, ha⟩ := T.ex_InvalidNumber
  exact ⟨C, f, _, ["self", "given"], _, _, _, _, _, hm, TO, iC, tI, init_of1 (k := 0) lk TO U (nscope_by (N := ["self", "given", "__class__"]) (sc := defScope (inClass (topS 7) 0)) (by decide +kernel)) rfl ⟨_, rfl, rfl⟩ hs rfl (fun env => rfl) (ha _ (by simp)) (ha _ (by simp)), rfl, fun s a ws hw => .of_eq (match ws, hw with | [_], _ => rfl), rel1⟩

theorem mk_InvalidOrder (T : Tx P K mg) : ExMk P w K mg base 1 "InvalidOrder" 1 x_InvalidOrder := by
  obtain ⟨C, cc, f, c, oc, od, osl, doc, pm, ctv, hm, TO, iC, tI, lk, U, hs, ha⟩ := T.ex_InvalidOrder
  exact ⟨C, f, _, ["self", "given"], _, _, _, _, _, hm, TO, iC, tI, init_of1 (k := 0) lk TO U (nscope_by (N := ["self", "given", "__class__"]) (sc := defScope (inClass (topS 6) 0)) (by decide +kernel)) rfl ⟨_, rfl, rfl⟩ hs rfl (fun env => rfl) (ha _ (by simp)) (ha _ (by simp)), rfl, .all (fun us hl => match us, hl with | [_, _], _ => rfl), rel1⟩

theorem mk_InvalidPage (T : Tx P K mg) : ExMk P w K mg base 1 "InvalidPage" 1 x_InvalidPage := by
  obtain ⟨C, cc, f, c, oc, od, osl, doc, pm, ctv, hm, TO, iC, tI, lk, U, hs, ha⟩ := T.ex_InvalidPage
  exact ⟨C, f, _, ["self", "row"], _, _, _, _, _, hm, TO, iC, tI, init_of1 (k := 0) lk TO U (nscope_by (N := ["self", "row", "__class__"]) (sc := defScope (inClass (topS 13) 0)) (by decide +kernel)) rfl ⟨_, rfl, rfl⟩ hs rfl (fun env => rfl) (ha _ (by simp)) (ha _ (by simp)), rfl, .all (fun us hl => match us, hl with | [_, _], _ => rfl), rel1⟩
theorem mkk_InvalidPage (T : Tx P K mg) : ExMkK P w K mg base 1 "InvalidPage" 1 x_InvalidPage ["row"] false := by
  obtain ⟨C, cc, f, c, oc, od, osl, doc, pm, ctv, hm, TO, iC, tI, lk, U, hs, ha⟩ := T.ex_InvalidPage
  exact ⟨C, f, _, ["self", "row"], _, _, _, _, _, hm, TO, iC, tI, init_of1 (k := 0) lk TO U (nscope_by (N := ["self", "row", "__class__"]) (sc := defScope (inClass (topS 13) 0)) (by decide +kernel)) rfl ⟨_, rfl, rfl⟩ hs rfl (fun env => rfl) (ha _ (by simp)) (ha _ (by simp)), rfl, fun s a ws hw => .of_eq (match ws, hw with | [_], _ => rfl), rel1⟩

theorem mk_InvalidRow (T : Tx P K mg) : ExMk P w K mg base 1 "InvalidRow" 1 x_InvalidRow := by
  obtain ⟨C, cc, f, c, oc, od, osl, doc, pm, ctv, hm, TO, iC, tI, lk, U, hs, ha⟩ := T.ex_InvalidRow
  exact ⟨C, f, _, ["self", "at"], _, _, _, _, _, hm, TO, iC, tI, init_of1 (k := 0) lk TO U (nscope_by (N := ["self", "at", "__class__"]) (sc := defScope (inClass (topS 4) 0)) (by decide +kernel)) rfl ⟨_, rfl, rfl⟩ hs rfl (fun env => rfl) (ha _ (by simp)) (ha _ (by simp)), rfl, .all (fun us hl => match us, hl with | [_, _], _ => rfl), rel1⟩
theorem mkk_InvalidRow (T : Tx P K mg) : ExMkK P w K mg base 1 "InvalidRow" 1 x_InvalidRow ["at"] false := by
  obtain ⟨C, cc, f, c, oc, od, osl, doc, pm, ctv, hm, TO, iC, tI, lk, U, hs, ha⟩ := T.ex_InvalidRow
  exact ⟨C, f, _, ["self", "at"], _, _, _, _, _, hm, TO, iC, tI, init_of1 (k := 0) lk TO U (nscope_by (N := ["self", "at", "__class__"]) (sc := defScope (inClass (topS 4) 0)) (by decide +kernel)) rfl ⟨_, rfl, rfl⟩ hs rfl (fun env => rfl) (ha _ (by simp)) (ha _ (by simp)), rfl, fun s a ws hw => .of_eq (match ws, hw with | [_], _ => rfl), rel1⟩

theorem mk_InvalidText (T : Tx P K mg) : ExMk P w K mg base 1 "InvalidText" 1 x_InvalidText := by
  obtain ⟨C, cc, f, c, oc, od, osl, doc, pm, ctv, hm, TO, iC, tI, lk, U, hs, ha⟩ := T.ex_InvalidText
  exact ⟨C, f, _, ["self", "at"], _, _, _, _, _, hm, TO, iC, tI, init_of1 (k := 0) lk TO U (nscope_by (N := ["self", "at", "__class__"]) (sc := defScope (inClass (topS 9) 0)) (by decide +kernel)) rfl ⟨_, rfl, rfl⟩ hs rfl (fun env => rfl) (ha _ (by simp)) (ha _ (by simp)), rfl, .all (fun us hl => match us, hl with | [_, _], _ => rfl), rel1⟩

theorem mk_NothingLeft (T : Tx P K mg) : ExMk P w K mg base 1 "NothingLeft" 0 x_NothingLeft := by
  obtain ⟨C, cc, f, c, oc, od, osl, doc, pm, ctv, hm, TO, iC, tI, lk, U, hs, ha⟩ := T.ex_NothingLeft
  exact ⟨C, f, _, ["self"], _, _, _, _, _, hm, TO, iC, tI, init_of0 (k := 0) lk TO U (nscope_by (N := ["self", "__class__"]) (sc := defScope (inClass (topS 21) 0)) (by decide +kernel)) rfl ⟨_, rfl, rfl⟩ hs rfl (fun env => rfl) (ha _ (by simp)), rfl, .all (fun us hl => match us, hl with | [_], _ => rfl), rel0⟩

theorem mk_TooDeep (T : Tx P K mg) : ExMk P w K mg base 1 "TooDeep" 1 x_TooDeep := by
  obtain ⟨C, cc, f, c, oc, od, osl, doc, pm, ctv, hm, TO, iC, tI, lk, U, hs, ha⟩ := T.ex_TooDeep
  exact ⟨C, f, _, ["self", "most"], _, _, _, _, _, hm, TO, iC, tI, init_of1 (k := 0) lk TO U (nscope_by (N := ["self", "most", "__class__"]) (sc := defScope (inClass (topS 16) 0)) (by decide +kernel)) rfl ⟨_, rfl, rfl⟩ hs rfl (fun env => rfl) (ha _ (by simp)) (ha _ (by simp)), rfl, .all (fun us hl => match us, hl with | [_, _], _ => rfl), rel1⟩
theorem mkk_TooDeep (T : Tx P K mg) : ExMkK P w K mg base 1 "TooDeep" 1 x_TooDeep ["most"] false := by
  obtain ⟨C, cc, f, c, oc, od, osl, doc, pm, ctv, hm, TO, iC, tI, lk, U, hs, ha⟩ := T.ex_TooDeep
  exact ⟨C, f, _, ["self", "most"], _, _, _, _, _, hm, TO, iC, tI, init_of1 (k := 0) lk TO U (nscope_by (N := ["self", "most", "__class__"]) (sc := defScope (inClass (topS 16) 0)) (by decide +kernel)) rfl ⟨_, rfl, rfl⟩ hs rfl (fun env => rfl) (ha _ (by simp)) (ha _ (by simp)), rfl, fun s a ws hw => .of_eq (match ws, hw with | [_], _ => rfl), rel1⟩

theorem mk_TooMany (T : Tx P K mg) : ExMk P w K mg base 1 "TooMany" 2 x_TooMany := by
  obtain ⟨C, cc, f, c, oc, od, osl, doc, pm, ctv, hm, TO, iC, tI, lk, U, hs, ha⟩ := T.ex_TooMany
  exact ⟨C, f, _, ["self", "subject", "most"], _, _, _, _, _, hm, TO, iC, tI, init_of2 (k := 0) lk TO U (nscope_by (N := ["self", "subject", "most", "__class__"]) (sc := defScope (inClass (topS 15) 0)) (by decide +kernel)) rfl ⟨_, rfl, rfl⟩ hs rfl (fun env => rfl) (ha _ (by simp)) (ha _ (by simp)) (ha _ (by simp)), rfl, .all (fun us hl => match us, hl with | [_, _, _], _ => rfl), rel2⟩
theorem mkk_TooMany (T : Tx P K mg) : ExMkK P w K mg base 1 "TooMany" 2 x_TooMany ["most", "subject"] true := by
  obtain ⟨C, cc, f, c, oc, od, osl, doc, pm, ctv, hm, TO, iC, tI, lk, U, hs, ha⟩ := T.ex_TooMany
  exact ⟨C, f, _, ["self", "subject", "most"], _, _, _, _, _, hm, TO, iC, tI, init_of2 (k := 0) lk TO U (nscope_by (N := ["self", "subject", "most", "__class__"]) (sc := defScope (inClass (topS 15) 0)) (by decide +kernel)) rfl ⟨_, rfl, rfl⟩ hs rfl (fun env => rfl) (ha _ (by simp)) (ha _ (by simp)) (ha _ (by simp)), rfl, fun s a ws hw => .of_eq (match ws, hw with | [_, _], _ => rfl), rel2⟩

theorem mk_UnknownName (T : Tx P K mg) : ExMk P w K mg base 1 "UnknownName" 1 x_UnknownName := by
  obtain ⟨C, cc, f, c, oc, od, osl, doc, pm, ctv, hm, TO, iC, tI, lk, U, hs, ha⟩ := T.ex_UnknownName
  exact ⟨C, f, _, ["self", "name"], _, _, _, _, _, hm, TO, iC, tI, init_of1 (k := 0) lk TO U (nscope_by (N := ["self", "name", "__class__"]) (sc := defScope (inClass (topS 20) 0)) (by decide +kernel)) rfl ⟨_, rfl, rfl⟩ hs rfl (fun env => rfl) (ha _ (by simp)) (ha _ (by simp)), rfl, .all (fun us hl => match us, hl with | [_, _], _ => rfl), rel1⟩
theorem mkk_UnknownName (T : Tx P K mg) : ExMkK P w K mg base 1 "UnknownName" 1 x_UnknownName ["name"] false := by
  obtain ⟨C, cc, f, c, oc, od, osl, doc, pm, ctv, hm, TO, iC, tI, lk, U, hs, ha⟩ := T.ex_UnknownName
  exact ⟨C, f, _, ["self", "name"], _, _, _, _, _, hm, TO, iC, tI, init_of1 (k := 0) lk TO U (nscope_by (N := ["self", "name", "__class__"]) (sc := defScope (inClass (topS 20) 0)) (by decide +kernel)) rfl ⟨_, rfl, rfl⟩ hs rfl (fun env => rfl) (ha _ (by simp)) (ha _ (by simp)), rfl, fun s a ws hw => .of_eq (match ws, hw with | [_], _ => rfl), rel1⟩

theorem mk_Unlike (T : Tx P K mg) : ExMk P w K mg base 1 "Unlike" 0 x_Unlike := by
  obtain ⟨C, cc, f, c, oc, od, osl, doc, pm, ctv, hm, TO, iC, tI, lk, U, hs, ha⟩ := T.ex_Unlike
  exact ⟨C, f, _, ["self"], _, _, _, _, _, hm, TO, iC, tI, init_of0 (k := 0) lk TO U (nscope_by (N := ["self", "__class__"]) (sc := defScope (inClass (topS 14) 0)) (by decide +kernel)) rfl ⟨_, rfl, rfl⟩ hs rfl (fun env => rfl) (ha _ (by simp)), rfl, .all (fun us hl => match us, hl with | [_], _ => rfl), rel0⟩

abbrev s_l_bag : Stmt := topS 23
theorem sc_l_bag : FnScope ["_law_script", "_law_mixed_here", "_law_cell"] ["_law_script"] (defScope s_l_bag) := ⟨rfl, rfl, rfl, by decide +kernel, rfl, by decide +kernel, by decide +kernel⟩
theorem g_l_bag (T : Tx P K mg) : FnG P w K mg base 1 "_law_bag" 1 f_l_bag := by
  obtain ⟨f, fd, hm, F⟩ := T.def_l_bag
  refine FnG.mk hm F.kp rfl (FunD.bindsN F fun _ _ _ _ _ _ us hl => match us, hl with | [_], _ => rfl) (fnD F sc_l_bag fun cdv A outer s H E hr tk hp => ?_)
  have hN := sc_l_bag.nd
  have lt : Lets (CxB P w K mg base _ _ _ _ cdv A outer s H E) (XW E) := fun σ => passAt tk σ
  exact (dss_cons (ds_set 1 pd_int)
  (dss_cons (ds_for (pdi_lst (pd_frz (pdn_sl (pd_var 0) pdo_none (pdo_some pd_int)))) (dg_nm 2) (dss_one (ds_set 1 (pd_op opp_mod (pd_callTy callp_int T.free_int (by rfl) (pda_cons (pd_op opp_add (pd_op opp_add (pd_op opp_mul (pd_var 1) pd_int) (pd_op opp_mul (pd_op opp_mod (pd_callTy callp_int T.free_int (by rfl) (pda_cons (pd_var 2) pda_nil)) pd_int) pd_int)) pd_int) pda_nil)) pd_int))))
  (dss_one (ds_ret (pd_cel (pdn_lst (pda_cons (pd_frz (pdn_callTy calln_list T.free_list (by rfl) (pda_cons (pd_frz (pdn_sl (pd_var 0) pdo_none (pdo_some pd_int))) pda_nil))) (pda_cons pd_int (pda_cons pd_int (pda_cons (pd_var 1) (pda_cons pd_int pda_nil)))))))))))

abbrev s_l_pull : Stmt := topS 24
theorem sc_l_pull : FnScope ["_law_bag_here", "_law_many", "_law_twice", "_law_cell", "_law_digit"] ["_law_bag_here", "_law_many"] (defScope s_l_pull) := ⟨rfl, rfl, rfl, by decide +kernel, rfl, by decide +kernel, by decide +kernel⟩
theorem g_l_pull (T : Tx P K mg) : FnG P w K mg base 1 "_law_pull" 2 f_l_pull := by
  obtain ⟨f, fd, hm, F⟩ := T.def_l_pull
  refine FnG.mk hm F.kp rfl (FunD.bindsN F fun _ _ _ _ _ _ us hl => match us, hl with | [_, _], _ => rfl) (fnD F sc_l_pull fun cdv A outer s H E hr tk hp => ?_)
  have hN := sc_l_pull.nd
  have lt : Lets (CxB P w K mg base _ _ _ _ cdv A outer s H E) (XW E) := fun σ => passAt tk σ
  exact (dss_cons (ds_put (u1 hr) (pd_op opp_add (pd_sub (u1 hr) (pd_var 0) pd_int) pd_int) (pd_var 0) pd_int)
  (dss_cons (ds_if (PDW.pdt (pdw_and (pdt_cmp (opp_eq (u64 hr)) (pd_sub (u1 hr) (pd_var 0) pd_int) pd_int (nomark _)) (pdw_and1 (pdt_cmp (opp_lt (u64 hr)) (pd_sub (u1 hr) (pd_var 0) pd_int) (pd_callB callp_len T.free_len (by rfl) (pda_cons (pd_sub (u1 hr) (pd_var 0) pd_int) pda_nil)) (nomark _))))) (dss_cons (ds_set 3 (pd_sub (u1 hr) (pd_sub (u1 hr) (pd_var 0) pd_int) (pd_sub (u1 hr) (pd_var 0) pd_int)))
  (dss_cons (ds_put (u1 hr) (pd_op opp_add (pd_sub (u1 hr) (pd_var 0) pd_int) pd_int) (pd_var 0) pd_int)
  (dss_one (ds_if (pdt_cmp (opp_ge (u64 hr)) (pd_callB callp_abs T.free_abs (by rfl) (pda_cons (pd_var 3) pda_nil)) (pd_op opp_pow pd_int pd_int) (nomark _)) (dss_one (ds_put (u1 hr) (pd_callB callp_abs T.free_abs (by rfl) (pda_cons (pd_var 3) pda_nil)) (pd_var 0) pd_int)) (dss_one (ds_put (u1 hr) (pd_op opp_mod (pd_callTy callp_int T.free_int (by rfl) (pda_cons (pd_op opp_add (pd_op opp_add (pd_op opp_mul (pd_sub (u1 hr) (pd_var 0) pd_int) pd_int) (pd_op opp_mul (pd_op opp_mod (pd_callTy callp_int T.free_int (by rfl) (pda_cons (pd_var 3) pda_nil)) pd_int) pd_int)) pd_int) pda_nil)) pd_int) (pd_var 0) pd_int)))))) dss_nil)
  (dss_cons (ds_if (pdt_cmp (opp_gt (u64 hr)) (pd_sub (u1 hr) (pd_var 0) pd_int) pd_int (nomark _)) (dss_cons (ds_set 4 (pd_op opp_mod (pd_callTy callp_int T.free_int (by rfl) (pda_cons (pd_sub (u1 hr) (pd_var 0) pd_int) pda_nil)) (pd_var 1)))
  (dss_cons (ds_put (u1 hr) (pd_op opp_div (pd_sub (u1 hr) (pd_var 0) pd_int) (pd_var 1)) (pd_var 0) pd_int)
  (dss_one (ds_ret (pd_var 4))))) dss_nil)
  (dss_cons (ds_set 2 (pd_op opp_mod (pd_callTy callp_int T.free_int (by rfl) (pda_cons (pd_op opp_add (pd_op opp_mul (pd_sub (u1 hr) (pd_var 0) pd_int) (pd_sub (u1 hr) (pd_var 0) pd_int)) (pd_op opp_mul (pd_sub (u1 hr) (pd_var 0) pd_int) pd_int)) pda_nil)) pd_int))
  (dss_cons (ds_put (u1 hr) (pd_op opp_mod (pd_callTy callp_int T.free_int (by rfl) (pda_cons (pd_op opp_add (pd_op opp_add (pd_op opp_mul (pd_var 2) pd_int) (pd_op opp_mul (pd_sub (u1 hr) (pd_var 0) pd_int) pd_int)) pd_int) pda_nil)) pd_int) (pd_var 0) pd_int)
  (dss_one (ds_ret (pd_op opp_mod (pd_callTy callp_int T.free_int (by rfl) (pda_cons (pd_op opp_div (pd_sub (u1 hr) (pd_var 0) pd_int) pd_int) pda_nil)) (pd_var 1)))))))))

abbrev s_l_of : Stmt := topS 25
theorem sc_l_of : FnScope ["_law_bag_here", "_law_some"] ["_law_bag_here", "_law_some"] (defScope s_l_of) := ⟨rfl, rfl, rfl, by decide +kernel, rfl, by decide +kernel, by decide +kernel⟩
theorem g_l_of (T : Tx P K mg) : FnG P w K mg base 2 "_law_of" 2 f_l_of := by
  obtain ⟨f, fd, hm, F⟩ := T.def_l_of
  refine FnG.mk hm F.kp rfl (FunD.bindsN F fun _ _ _ _ _ _ us hl => match us, hl with | [_, _], _ => rfl) (fnD F sc_l_of fun cdv A outer s H E hr tk hp => ?_)
  have hN := sc_l_of.nd
  have lt : Lets (CxB P w K mg base _ _ _ _ cdv A outer s H E) (XW E) := fun σ => passAt tk σ
  exact (dss_one (ds_ret (pd_sub (u1 hr) (pd_var 1) (pd_fn (g_l_pull T) hr lt (pda_cons (pd_var 0) (pda_cons (pd_callB callp_len T.free_len (by rfl) (pda_cons (pd_var 1) pda_nil)) pda_nil))))))

abbrev s_l_mixed : Stmt := topS 26
theorem sc_l_mixed : FnScope ["_law_bag_here", "_law_some", "_law_left", "_law_found"] ["_law_bag_here", "_law_some"] (defScope s_l_mixed) := ⟨rfl, rfl, rfl, by decide +kernel, rfl, by decide +kernel, by decide +kernel⟩
theorem g_l_mixed (T : Tx P K mg) : FnG P w K mg base 2 "_law_mixed" 2 f_l_mixed := by
  obtain ⟨f, fd, hm, F⟩ := T.def_l_mixed
  refine FnG.mk hm F.kp rfl (FunD.bindsN F fun _ _ _ _ _ _ us hl => match us, hl with | [_, _], _ => rfl) (fnD F sc_l_mixed fun cdv A outer s H E hr tk hp => ?_)
  have hN := sc_l_mixed.nd
  have lt : Lets (CxB P w K mg base _ _ _ _ cdv A outer s H E) (XW E) := fun σ => passAt tk σ
  exact (dss_cons (ds_par 2 3 (pda_cons (pd_cel (pdn_callTy calln_list T.free_list (by rfl) (pda_cons (pd_var 1) pda_nil))) (pda_cons (pd_cel (pdn_lst pda_nil)) pda_nil)))
  (dss_cons (ds_while (pdt_cmp (opp_ne (u64 hr)) (pd_var 2) (pd_frz (pdn_lst pda_nil)) (nomark _)) (dss_one (ds_exp (pd_app (pd_var 3) (pd_popAt (pd_var 2) (pd_fn (g_l_pull T) hr lt (pda_cons (pd_var 0) (pda_cons (pd_callB callp_len T.free_len (by rfl) (pda_cons (pd_var 2) pda_nil)) pda_nil))))))))
  (dss_one (ds_ret (pd_fz (pd_var 3))))))

abbrev s_l_same : Stmt := topS 27
theorem sc_l_same : FnScope ["_law_found", "_law_due", "_law_a", "_law_b"] ["_law_found", "_law_due"] (defScope s_l_same) := ⟨rfl, rfl, rfl, by decide +kernel, rfl, by decide +kernel, by decide +kernel⟩
theorem g_l_same (T : Tx P K mg) : ∀ n : Nat, FnG P w K mg base (1 + n) "_law_same" 2 (f_l_same n)
  | 0 => FnG.bad T.def_l_same ["_law_found", "_law_due"] rfl (fun _ _ _ _ _ _ us hl => match us, hl with | [_, _], _ => rfl)
  | n + 1 => by
    have IH := g_l_same T n
    obtain ⟨f, fd, hm, F⟩ := T.def_l_same
    refine FnG.mk hm F.kp rfl (FunD.bindsN F fun _ _ _ _ _ _ us hl => match us, hl with | [_, _], _ => rfl) (fnD F sc_l_same fun cdv A outer s H E hr tk hp => ?_)
    have hN := sc_l_same.nd
    have lt : Lets (CxB P w K mg base _ _ _ _ cdv A outer s H E) (XW E) := fun σ => passAt tk σ
    exact (dss_cons (ds_if (pdt_val (pd_callB (callp_is T.tab) T.free_isinstance (by rfl) (pda_cons (pd_var 1) (pda_cons (pd_tup (pda_cons (pd_ty T.free_list (by rfl)) (pda_cons (pd_ty T.free_tuple (by rfl)) pda_nil))) pda_nil)))) (dss_cons (ds_if (PDW.pdt (pdw_or (pdt_cmp (opp_ne (u64 hr)) (pd_callB (callp_is T.tab) T.free_isinstance (by rfl) (pda_cons (pd_var 0) (pda_cons (pd_ty T.free_list (by rfl)) pda_nil))) (pd_callB (callp_is T.tab) T.free_isinstance (by rfl) (pda_cons (pd_var 1) (pda_cons (pd_ty T.free_list (by rfl)) pda_nil))) (nomark _)) (pdw_or1 (pdt_cmp (opp_ne (u64 hr)) (pd_callB (callp_is T.tab) T.free_isinstance (by rfl) (pda_cons (pd_var 0) (pda_cons (pd_ty T.free_tuple (by rfl)) pda_nil))) (pd_callB (callp_is T.tab) T.free_isinstance (by rfl) (pda_cons (pd_var 1) (pda_cons (pd_ty T.free_tuple (by rfl)) pda_nil))) (nomark _))))) (dss_one (ds_ret pd_bl)) dss_nil)
      (dss_one (ds_ret (pd_and (pd_cmp (opp_eq (u64 hr)) (pd_callB callp_len T.free_len (by rfl) (pda_cons (pd_var 0) pda_nil)) (pd_callB callp_len T.free_len (by rfl) (pda_cons (pd_var 1) pda_nil)) (nomark _)) (pd_one (pd_callB (callp_all rfl) T.free_all (by rfl) (pda_cons (pd_lcF ([("_law_a", 2), ("_law_b", 3)] : List (Str × Nat)) (pdi_zip (pda_cons (pd_var 0) (pda_cons (pd_var 1) pda_nil)) T.free_zip) (fun _ _ _ _ _ => (dg_tp (dgs_cons (dg_nm 2) (dgs_cons (dg_nm 3) dgs_nil)))) (fun _ _ _ _ _ => dts_nil) (fun _ _ _ _ _ => (pd_fn IH hr lets_no (pda_cons (pd_var 2) (pda_cons (pd_var 3) pda_nil)))) (ok := blkOk_by (N := ["_law_found", "_law_due", "_law_a", "_law_b"]) (sc := defScope s_l_same) (by decide +kernel))) pda_nil))))))) dss_nil)
      (dss_cons (ds_if (PDW.pdt (pdw_or (pdt_cmp opp_isN (pd_var 1) pd_non (nomark _)) (pdw_or1 (pdt_cmp opp_isN (pd_var 0) pd_non (nomark _))))) (dss_one (ds_ret (pd_and (pd_cmp opp_isN (pd_var 1) pd_non (nomark _)) (pd_one (pd_cmp opp_isN (pd_var 0) pd_non (nomark _)))))) dss_nil)
      (dss_cons (ds_if (PDW.pdt (pdw_or (pdt_cmp (opp_ne (u64 hr)) (pd_callB (callp_is T.tab) T.free_isinstance (by rfl) (pda_cons (pd_var 1) (pda_cons (pd_ty T.free_bool (by rfl)) pda_nil))) (pd_callB (callp_is T.tab) T.free_isinstance (by rfl) (pda_cons (pd_var 0) (pda_cons (pd_ty T.free_bool (by rfl)) pda_nil))) (nomark _)) (pdw_or1 (pdt_cmp (opp_ne (u64 hr)) (pd_callB (callp_is T.tab) T.free_isinstance (by rfl) (pda_cons (pd_var 1) (pda_cons (pd_ty T.free_int (by rfl)) pda_nil))) (pd_callB (callp_is T.tab) T.free_isinstance (by rfl) (pda_cons (pd_var 0) (pda_cons (pd_ty T.free_int (by rfl)) pda_nil))) (nomark _))))) (dss_one (ds_ret pd_bl)) dss_nil)
      (dss_one (ds_ret (pd_and (pd_cmp (opp_eq (u64 hr)) (pd_callB (callp_is T.tab) T.free_isinstance (by rfl) (pda_cons (pd_var 1) (pda_cons (pd_ty T.free_str (by rfl)) pda_nil))) (pd_callB (callp_is T.tab) T.free_isinstance (by rfl) (pda_cons (pd_var 0) (pda_cons (pd_ty T.free_str (by rfl)) pda_nil))) (nomark _)) (pd_one (pd_cmp (opp_eq (u64 hr)) (pd_var 0) (pd_var 1) (nomark _)))))))))

abbrev s_l_field : Stmt := topS 28
theorem sc_l_field : FnScope ["_law_e"] ["_law_e"] (defScope s_l_field) := ⟨rfl, rfl, rfl, by decide +kernel, rfl, by decide +kernel, by decide +kernel⟩
theorem g_l_field (T : Tx P K mg) : FnG P w K mg base 1 "_law_field" 1 f_l_field := by
  obtain ⟨f, fd, hm, F⟩ := T.def_l_field
  refine FnG.mk hm F.kp rfl (FunD.bindsN F fun _ _ _ _ _ _ us hl => match us, hl with | [_], _ => rfl) (fnD F sc_l_field fun cdv A outer s H E hr tk hp => ?_)
  have hN := sc_l_field.nd
  have lt : Lets (CxB P w K mg base _ _ _ _ cdv A outer s H E) (XW E) := fun σ => passAt tk σ
  exact (dss_cons (ds_if (pdt_in (u65 hr) (pd_att T.att (pd_var 0)) (pd_tup (pda_cons pd_str (pda_cons pd_str (pda_cons pd_str (pda_cons pd_str (pda_cons pd_str (pda_cons pd_str pda_nil)))))))) (dss_one (ds_ret (pd_tup (pda_cons (pd_att T.att (pd_var 0)) pda_nil)))) dss_nil)
  (dss_cons (ds_if (pdt_in (u65 hr) (pd_att T.att (pd_var 0)) (pd_tup (pda_cons pd_str (pda_cons pd_str (pda_cons pd_str pda_nil))))) (dss_one (ds_ret (pd_tup (pda_cons (pd_att T.att (pd_var 0)) pda_nil)))) dss_nil)
  (dss_cons (ds_if (pdt_cmp (opp_eq (u64 hr)) (pd_att T.att (pd_var 0)) pd_str (nomark _)) (dss_one (ds_ret (pd_tup (pda_cons (pd_att T.att (pd_var 0)) pda_nil)))) dss_nil)
  (dss_cons (ds_if (pdt_in (u65 hr) (pd_att T.att (pd_var 0)) (pd_tup (pda_cons pd_str (pda_cons pd_str pda_nil)))) (dss_one (ds_ret (pd_tup (pda_cons (pd_att T.att (pd_var 0)) pda_nil)))) dss_nil)
  (dss_cons (ds_if (pdt_cmp (opp_eq (u64 hr)) (pd_att T.att (pd_var 0)) pd_str (nomark _)) (dss_one (ds_ret (pd_tup (pda_cons (pd_att T.att (pd_var 0)) pda_nil)))) dss_nil)
  (dss_cons (ds_if (pdt_cmp (opp_eq (u64 hr)) (pd_att T.att (pd_var 0)) pd_str (nomark _)) (dss_one (ds_ret (pd_tup (pda_cons (pd_att T.att (pd_var 0)) (pda_cons (pd_att T.att (pd_var 0)) pda_nil))))) dss_nil)
  (dss_cons (ds_if (pdt_cmp (opp_eq (u64 hr)) (pd_att T.att (pd_var 0)) pd_str (nomark _)) (dss_one (ds_ret (pd_tup (pda_cons (pd_att T.att (pd_var 0)) pda_nil)))) dss_nil)
  (dss_one (ds_ret (pd_if (pdt_in (u65 hr) (pd_att T.att (pd_var 0)) (pd_tup (pda_cons pd_str (pda_cons pd_str pda_nil)))) (pd_tup (pda_cons (pd_att T.att (pd_var 0)) pda_nil)) (pd_tup pda_nil)))))))))))

abbrev s_l_first_errors : Stmt := topS 29
theorem sc_l_first_errors : FnScope ["_law_far", "_law_string", "_law_duo"] ["_law_far", "_law_string", "_law_duo"] (defScope s_l_first_errors) := ⟨rfl, rfl, rfl, by decide +kernel, rfl, by decide +kernel, by decide +kernel⟩
theorem g_l_first_errors (T : Tx P K mg) : FnG P w K mg base 3 "_law_first_errors" 3 f_l_first_errors := by
  obtain ⟨f, fd, hm, F⟩ := T.def_l_first_errors
  refine FnG.mk hm F.kp rfl (FunD.bindsN F fun _ _ _ _ _ _ us hl => match us, hl with | [_, _, _], _ => rfl) (fnD F sc_l_first_errors fun cdv A outer s H E hr tk hp => ?_)
  have hN := sc_l_first_errors.nd
  have lt : Lets (CxB P w K mg base _ _ _ _ cdv A outer s H E) (XW E) := fun σ => passAt tk σ
  exact (dss_one (ds_ret (pd_frz (pdn_lst (pda_cons (pd_tup (pda_cons (pd_exK (mkk_InvalidInk T) hr (pdk_cons (pd_var 0) pdk_nil)) (pda_cons pd_str (pda_cons (pd_var 0) pda_nil)))) (pda_cons (pd_tup (pda_cons (pd_exK (mkk_InvalidRow T) hr (pdk_cons (pd_var 0) pdk_nil)) (pda_cons pd_str (pda_cons (pd_var 0) pda_nil)))) (pda_cons (pd_tup (pda_cons (pd_exK (mkk_InvalidEdge T) hr (pdk_cons (pd_var 2) pdk_nil)) (pda_cons pd_str (pda_cons (pd_var 2) pda_nil)))) (pda_cons (pd_tup (pda_cons (pd_ex (mk_InvalidOrder T) hr (pda_cons (pd_var 1) pda_nil)) (pda_cons pd_str (pda_cons (pd_var 1) pda_nil)))) (pda_cons (pd_tup (pda_cons (pd_exK (mkk_InvalidNumber T) hr (pdk_cons (pd_var 0) pdk_nil)) (pda_cons pd_str (pda_cons (pd_var 0) pda_nil)))) (pda_cons (pd_tup (pda_cons (pd_exK (mkk_InvalidDeeds T) hr (pdk_cons (pd_var 2) pdk_nil)) (pda_cons pd_str (pda_cons (pd_var 2) pda_nil)))) (pda_cons (pd_tup (pda_cons (pd_ex (mk_InvalidText T) hr (pda_cons (pd_var 0) pda_nil)) (pda_cons pd_str (pda_cons (pd_var 0) pda_nil)))) (pda_cons (pd_tup (pda_cons (pd_exK (mkk_InvalidName T) hr (pdk_cons (pd_var 1) pdk_nil)) (pda_cons pd_str (pda_cons (pd_var 1) pda_nil)))) (pda_cons (pd_tup (pda_cons (pd_exK (mkk_InvalidCommand T) hr (pdk_cons (pd_var 0) pdk_nil)) (pda_cons pd_str (pda_cons (pd_var 0) pda_nil)))) (pda_cons (pd_tup (pda_cons (pd_exK (mkk_InvalidLimit T) hr (pdk_cons (pd_var 0) pdk_nil)) (pda_cons pd_str (pda_cons (pd_var 0) pda_nil)))) (pda_cons (pd_tup (pda_cons (pd_exK (mkk_InvalidPage T) hr (pdk_cons (pd_var 0) pdk_nil)) (pda_cons pd_str (pda_cons (pd_var 0) pda_nil)))) (pda_cons (pd_tup (pda_cons (pd_ex0 (mk_Unlike T) hr) (pda_cons pd_str (pda_cons pd_non pda_nil)))) (pda_cons (pd_tup (pda_cons (pd_exK (mkk_TooDeep T) hr (pdk_cons (pd_var 0) pdk_nil)) (pda_cons pd_str (pda_cons (pd_var 0) pda_nil)))) (pda_cons (pd_tup (pda_cons (pd_exK (mkk_Circular T) hr (pdk_cons (pd_var 1) pdk_nil)) (pda_cons pd_str (pda_cons (pd_var 1) pda_nil)))) (pda_cons (pd_tup (pda_cons (pd_exK (mkk_InUse T) hr (pdk_cons (pd_var 1) pdk_nil)) (pda_cons pd_str (pda_cons (pd_var 1) pda_nil)))) (pda_cons (pd_tup (pda_cons (pd_ex (mk_Full T) hr (pda_cons (pd_var 0) pda_nil)) (pda_cons pd_str (pda_cons (pd_var 0) pda_nil)))) (pda_cons (pd_tup (pda_cons (pd_exK (mkk_UnknownName T) hr (pdk_cons (pd_var 1) pdk_nil)) (pda_cons pd_str (pda_cons (pd_var 1) pda_nil)))) (pda_cons (pd_tup (pda_cons (pd_ex0 (mk_NothingLeft T) hr) (pda_cons pd_str (pda_cons pd_non pda_nil)))) pda_nil))))))))))))))))))))))

abbrev s_l_kinds : Stmt := topS 30
theorem sc_l_kinds : FnScope ["_law_e", "_law_found"] ["_law_e"] (defScope s_l_kinds) := ⟨rfl, rfl, rfl, by decide +kernel, rfl, by decide +kernel, by decide +kernel⟩
theorem g_l_kinds (T : Tx P K mg) : FnG P w K mg base 1 "_law_kinds" 1 f_l_kinds := by
  obtain ⟨f, fd, hm, F⟩ := T.def_l_kinds
  refine FnG.mk hm F.kp rfl (FunD.bindsN F fun _ _ _ _ _ _ us hl => match us, hl with | [_], _ => rfl) (fnD F sc_l_kinds fun cdv A outer s H E hr tk hp => ?_)
  have hN := sc_l_kinds.nd
  have lt : Lets (CxB P w K mg base _ _ _ _ cdv A outer s H E) (XW E) := fun σ => passAt tk σ
  exact (dss_cons (ds_set 1 (pd_frz (pdn_lst (pda_cons (pd_callB (callp_is T.tab) T.free_isinstance (by rfl) (pda_cons (pd_var 0) (pda_cons (pd_cls T.cls_InvalidInk) pda_nil))) (pda_cons (pd_callB (callp_is T.tab) T.free_isinstance (by rfl) (pda_cons (pd_var 0) (pda_cons (pd_cls T.cls_InvalidRow) pda_nil))) (pda_cons (pd_callB (callp_is T.tab) T.free_isinstance (by rfl) (pda_cons (pd_var 0) (pda_cons (pd_cls T.cls_InvalidEdge) pda_nil))) (pda_cons (pd_callB (callp_is T.tab) T.free_isinstance (by rfl) (pda_cons (pd_var 0) (pda_cons (pd_cls T.cls_InvalidOrder) pda_nil))) pda_nil)))))))
  (dss_cons (ds_set 1 (pd_frz (pdn_cat (pd_var 1) (pd_frz (pdn_lst (pda_cons (pd_callB (callp_is T.tab) T.free_isinstance (by rfl) (pda_cons (pd_var 0) (pda_cons (pd_cls T.cls_InvalidNumber) pda_nil))) (pda_cons (pd_callB (callp_is T.tab) T.free_isinstance (by rfl) (pda_cons (pd_var 0) (pda_cons (pd_cls T.cls_InvalidDeeds) pda_nil))) (pda_cons (pd_callB (callp_is T.tab) T.free_isinstance (by rfl) (pda_cons (pd_var 0) (pda_cons (pd_cls T.cls_InvalidText) pda_nil))) pda_nil))))))))
  (dss_cons (ds_set 1 (pd_frz (pdn_cat (pd_var 1) (pd_frz (pdn_lst (pda_cons (pd_callB (callp_is T.tab) T.free_isinstance (by rfl) (pda_cons (pd_var 0) (pda_cons (pd_cls T.cls_InvalidName) pda_nil))) (pda_cons (pd_callB (callp_is T.tab) T.free_isinstance (by rfl) (pda_cons (pd_var 0) (pda_cons (pd_cls T.cls_InvalidCommand) pda_nil))) (pda_cons (pd_callB (callp_is T.tab) T.free_isinstance (by rfl) (pda_cons (pd_var 0) (pda_cons (pd_cls T.cls_InvalidLimit) pda_nil))) pda_nil))))))))
  (dss_cons (ds_set 1 (pd_frz (pdn_cat (pd_var 1) (pd_frz (pdn_lst (pda_cons (pd_callB (callp_is T.tab) T.free_isinstance (by rfl) (pda_cons (pd_var 0) (pda_cons (pd_cls T.cls_InvalidPage) pda_nil))) (pda_cons (pd_callB (callp_is T.tab) T.free_isinstance (by rfl) (pda_cons (pd_var 0) (pda_cons (pd_cls T.cls_Unlike) pda_nil))) (pda_cons (pd_callB (callp_is T.tab) T.free_isinstance (by rfl) (pda_cons (pd_var 0) (pda_cons (pd_cls T.cls_TooDeep) pda_nil))) (pda_cons (pd_callB (callp_is T.tab) T.free_isinstance (by rfl) (pda_cons (pd_var 0) (pda_cons (pd_cls T.cls_Circular) pda_nil))) pda_nil)))))))))
  (dss_cons (ds_set 1 (pd_frz (pdn_cat (pd_var 1) (pd_frz (pdn_lst (pda_cons (pd_callB (callp_is T.tab) T.free_isinstance (by rfl) (pda_cons (pd_var 0) (pda_cons (pd_cls T.cls_InUse) pda_nil))) (pda_cons (pd_callB (callp_is T.tab) T.free_isinstance (by rfl) (pda_cons (pd_var 0) (pda_cons (pd_cls T.cls_Full) pda_nil))) (pda_cons (pd_callB (callp_is T.tab) T.free_isinstance (by rfl) (pda_cons (pd_var 0) (pda_cons (pd_cls T.cls_UnknownName) pda_nil))) (pda_cons (pd_callB (callp_is T.tab) T.free_isinstance (by rfl) (pda_cons (pd_var 0) (pda_cons (pd_cls T.cls_NothingLeft) pda_nil))) pda_nil)))))))))
  (dss_one (ds_ret (pd_frz (pdn_cat (pd_var 1) (pd_frz (pdn_lst (pda_cons (pd_callB (callp_is T.tab) T.free_isinstance (by rfl) (pda_cons (pd_var 0) (pda_cons (pd_cls T.cls_TooMany) pda_nil))) pda_nil))))))))))))

abbrev s_law : Stmt := topS 31
theorem sc_law : FnScope ["_law_script", "_law_bag_here", "_law_far", "_law_string", "_law_pairs", "_law_spot", "_law_e", "_law_title", "_law_due", "_law_fields", "_law_above", "_law_k"] ["_law_script"] (defScope s_law) := ⟨rfl, rfl, rfl, by decide +kernel, rfl, by decide +kernel, by decide +kernel⟩
theorem g_law (T : Tx P K mg) : FnG P w K mg base 10 "law" 1 f_law := by
  obtain ⟨f, fd, hm, F⟩ := T.def_law
  refine FnG.mk hm F.kp rfl (FunD.bindsN F fun _ _ _ _ _ _ us hl => match us, hl with | [_], _ => rfl) (fnD F sc_law fun cdv A outer s H E hr tk hp => ?_)
  have hN := sc_law.nd
  have lt : Lets (CxB P w K mg base _ _ _ _ cdv A outer s H E) (XW E) := fun σ => passAt tk σ
  exact (dss_cons (ds_set 1 (pd_fn (g_l_bag T) hr lt (pda_cons (pd_var 0) pda_nil)))
  (dss_cons (ds_set 2 (pd_fn (g_l_of T) hr lt (pda_cons (pd_var 1) (pda_cons (pd_frz (pdn_lst (pda_cons pd_int (pda_cons pd_int (pda_cons (pd_neg pd_int) (pda_cons (pd_op opp_pow pd_int pd_int) (pda_cons (pd_fn (g_l_pull T) hr lt (pda_cons (pd_var 1) (pda_cons pd_int pda_nil))) pda_nil))))))) pda_nil))))
  (dss_cons (ds_set 3 (pd_fn (g_l_of T) hr lt (pda_cons (pd_var 1) (pda_cons (pd_frz (pdn_lst (pda_cons pd_str (pda_cons pd_str (pda_cons pd_str (pda_cons (pd_op opp_mulS pd_str (pd_fn (g_l_pull T) hr lt (pda_cons (pd_var 1) (pda_cons pd_int pda_nil)))) pda_nil)))))) pda_nil))))
  (dss_cons (ds_set 4 (pd_fn (g_l_first_errors T) hr lt (pda_cons (pd_var 2) (pda_cons (pd_var 3) (pda_cons (pd_tup (pda_cons (pd_var 2) (pda_cons pd_int pda_nil))) pda_nil)))))
  (dss_cons (ds_for (pdi_lst (pd_fn (g_l_mixed T) hr lt (pda_cons (pd_var 1) (pda_cons (pd_frz (pdn_rg1 pd_int T.free_list T.free_range)) pda_nil)))) (dg_nm 5) (dss_cons (ds_asg (pd_sub (u1 hr) (pd_var 4) (pd_var 5)) (dg_tp (dgs_cons (dg_nm 6) (dgs_cons (dg_nm 7) (dgs_cons (dg_nm 8) dgs_nil)))))
  (dss_cons (ds_set 9 (pd_if (pdt_in (u65 hr) (pd_var 7) (pd_tup (pda_cons pd_str (pda_cons pd_str pda_nil)))) (pd_tup pda_nil) (pd_tup (pda_cons (pd_var 8) pda_nil))))
  (dss_cons (ds_if (PDW.pdt (pdw_or (pdt_not (pdt_val (pd_fn (g_l_same T 8) hr lt (pda_cons (pd_frz (pdn_lst (pda_cons (pd_att T.att (pd_var 6)) (pda_cons (pd_fn (g_l_field T) hr lt (pda_cons (pd_var 6) pda_nil)) pda_nil)))) (pda_cons (pd_frz (pdn_lst (pda_cons (pd_var 7) (pda_cons (pd_var 9) pda_nil)))) pda_nil))))) (pdw_or1 (pdt_cmp (opp_ne (u64 hr)) (pd_fn (g_l_kinds T) hr lt (pda_cons (pd_var 6) pda_nil)) (pd_lcF ([("_law_k", 11)] : List (Str × Nat)) (pdi_r1 (pda_cons pd_int pda_nil) T.free_range) (fun _ _ _ _ _ => (dg_nm 11)) (fun _ _ _ _ _ => dts_nil) (fun _ _ _ _ _ => (pd_cmp (opp_eq (u64 hr)) (pd_var 11) (pd_var 5) (nomark _))) (ok := blkOk_by (N := ["_law_script", "_law_bag_here", "_law_far", "_law_string", "_law_pairs", "_law_spot", "_law_e", "_law_title", "_law_due", "_law_fields", "_law_above", "_law_k"]) (sc := defScope s_law) (by decide +kernel))) (nomark _))))) (dss_one (ds_ret pd_bl)) dss_nil)
  (dss_cons (ds_set 10 (pd_frz (pdn_lst (pda_cons (pd_callB (callp_is T.tab) T.free_isinstance (by rfl) (pda_cons (pd_var 6) (pda_cons (pd_cls T.cls_InkError) pda_nil))) (pda_cons (pd_callB (callp_is T.tab) T.free_isinstance (by rfl) (pda_cons (pd_var 6) (pda_cons (pd_ty T.free_ValueError (by rfl)) pda_nil))) (pda_cons (pd_callB (callp_is T.tab) T.free_isinstance (by rfl) (pda_cons (pd_var 6) (pda_cons (pd_cls T.cls_Missing) pda_nil))) (pda_cons (pd_callB (callp_is T.tab) T.free_isinstance (by rfl) (pda_cons (pd_var 6) (pda_cons (pd_ty T.free_LookupError (by rfl)) pda_nil))) pda_nil)))))))
  (dss_one (ds_if (PDW.pdt (pdw_or (pdt_cmp (opp_ne (u64 hr)) (pd_var 10) (pd_frz (pdn_lst (pda_cons (pd_cmp (opp_lt (u64 hr)) (pd_var 5) pd_int (nomark _)) (pda_cons (pd_cmp (opp_lt (u64 hr)) (pd_var 5) pd_int (nomark _)) (pda_cons (pd_cmp (opp_eq (u64 hr)) (pd_var 5) pd_int (nomark _)) (pda_cons (pd_cmp (opp_gt (u64 hr)) (pd_var 5) pd_int (nomark _)) pda_nil)))))) (nomark _)) (pdw_or1 (pdt_cmp (opp_ne (u64 hr)) (pd_callB (callp_is T.tab) T.free_isinstance (by rfl) (pda_cons (pd_var 6) (pda_cons (pd_ty T.free_IndexError (by rfl)) pda_nil))) (pd_cmp (opp_eq (u64 hr)) (pd_var 5) pd_int (nomark _)) (nomark _))))) (dss_one (ds_ret pd_bl)) dss_nil)))))))
  (dss_cons (ds_set 6 (pd_exK (mkk_TooMany T) hr (pdk_cons (pd_var 2) (pdk_cons (pd_var 3) pdk_nil))))
  (dss_cons (ds_if (pdt_not (pdt_val (pd_fn (g_l_same T 8) hr lt (pda_cons (pd_frz (pdn_lst (pda_cons (pd_att T.att (pd_var 6)) (pda_cons (pd_att T.att (pd_var 6)) (pda_cons (pd_att T.att (pd_var 6)) (pda_cons (pd_fn (g_l_kinds T) hr lt (pda_cons (pd_var 6) pda_nil)) pda_nil)))))) (pda_cons (pd_frz (pdn_lst (pda_cons pd_str (pda_cons (pd_var 3) (pda_cons (pd_var 2) (pda_cons (pd_frz (pdn_cat (pd_frz (pdn_rep (pd_frz (pdn_lst (pda_cons pd_bl pda_nil))) pd_int)) (pd_frz (pdn_lst (pda_cons pd_bl pda_nil))))) pda_nil)))))) pda_nil))))) (dss_one (ds_ret pd_bl)) dss_nil)
  (dss_one (ds_ret (pd_and (pd_callB (callp_is T.tab) T.free_isinstance (by rfl) (pda_cons (pd_var 6) (pda_cons (pd_cls T.cls_InkError) pda_nil))) (pd_and (pd_callB (callp_is T.tab) T.free_isinstance (by rfl) (pda_cons (pd_var 6) (pda_cons (pd_ty T.free_ValueError (by rfl)) pda_nil))) (pd_one (pd_not (pd_callB (callp_is T.tab) T.free_isinstance (by rfl) (pda_cons (pd_var 6) (pda_cons (pd_ty T.free_LookupError (by rfl)) pda_nil))))))))))))))))

end
end D
end

section
set_option maxHeartbeats 4000000
namespace D
open PySem L2
/-! what the operators do to plain data -/
section
variable {s : S} {a b : Int} {x y : Str}
theorem okD_int : okD (.int a) = true := by simp [okD, SeqAt.shaped, PyData.canLay0, PyData.depth]
theorem okD_bool {k : Bool} : okD (.bool k) = true := by simp [okD, SeqAt.shaped, PyData.canLay0, PyData.depth]
theorem okD_none : okD .none = true := by simp [okD, SeqAt.shaped, PyData.canLay0, PyData.depth]
theorem fEq_int : fEq (.int a) (.int b) s = some (.bl (a == b)) := by simp [fEq, pk, toPy, okD_int, PyData.eqv]
theorem fNe_int : fNe (.int a) (.int b) s = some (.bl (!(a == b))) := by simp [fNe, pk, toPy, okD_int, PyData.eqv]
theorem fEq_bl {k m : Bool} : fEq (.bl k) (.bl m) s = some (.bl (k == m)) := by simp [fEq, pk, toPy, okD_bool, PyData.eqv]
theorem fNe_bl {k m : Bool} : fNe (.bl k) (.bl m) s = some (.bl (!(k == m))) := by simp [fNe, pk, toPy, okD_bool, PyData.eqv]
theorem fLt_int : fLt (.int a) (.int b) s = some (.bl (decide (a < b))) := by
  simp [fOrd, pk, toPy, okD_int, PySem.W.alike, notNone, PySem.W.dataLt_int]
theorem fGt_int : fGt (.int a) (.int b) s = some (.bl (decide (b < a))) := by
  simp [fOrd, pk, toPy, okD_int, PySem.W.alike, notNone, PySem.W.dataLt_int]
theorem fLe_int : fLe (.int a) (.int b) s = some (.bl (!decide (b < a))) := by
  simp [fOrd, pk, toPy, okD_int, PySem.W.alike, notNone, PySem.W.dataLt_int]
theorem fGe_int : fGe (.int a) (.int b) s = some (.bl (!decide (a < b))) := by
  simp [fOrd, pk, toPy, okD_int, PySem.W.alike, notNone, PySem.W.dataLt_int]
theorem fAdd_int : fAdd (.int a) (.int b) s = some (.int (a + b)) := rfl
theorem fSub_int : fSub (.int a) (.int b) s = some (.int (a - b)) := rfl
theorem intBits_le {i : Int} {n : Nat} (h : i.natAbs < 2 ^ n) : Builtin.Int.intBits i ≤ n := by
  unfold Builtin.Int.intBits
  split
  · omega
  · rename_i hi
    have h0 : i.natAbs ≠ 0 := by
      intro z
      apply hi
      simp only [beq_iff_eq]
      omega
    have := (Nat.log2_lt h0).mpr h
    omega
theorem fMul_int (ha : a.natAbs < 2 ^ 1000000) (hb : b.natAbs < 2 ^ 1000000) : fMul (.int a) (.int b) s = some (.int (a * b)) := by
  have h : mulB a b = true := by
    unfold mulB
    have h1 := intBits_le ha
    have h2 := intBits_le hb
    exact decide_eq_true (by omega)
  simp [fMul, fInt, h]
theorem fMod_int (hb : 0 < b) : fMod (.int a) (.int b) s = some (.int (a % b)) := by simp [fMod, fInt, hb]
theorem fDiv_int (hb : 0 < b) (h2 : b.natAbs.log2 < 9000) : fDiv (.int a) (.int b) s = some (.int (a / b)) := by simp [fDiv, fInt, divB, hb, h2]
theorem fPow_int (hb : 0 ≤ b) (h2 : b ≤ 1000000) (h3 : a.natAbs < 2 ^ 64) : fPow (.int a) (.int b) s = some (.int (a ^ b.toNat)) := by
  have h : powB a b = true := by
    unfold powB
    simp only [Bool.and_eq_true, decide_eq_true_eq]
    exact ⟨⟨hb, h2⟩, h3⟩
  simp [fPow, fInt, h]
theorem small_abs {i : Int} {n : Nat} (h1 : -(2 ^ 64 : Int) ≤ i) (h2 : i ≤ 2 ^ 64) : i.natAbs < 2 ^ 1000000 := by
  have h3 : i.natAbs < 2 ^ 65 := by omega
  exact Nat.lt_of_lt_of_le h3 (Nat.pow_le_pow_right (by decide) (by decide))
end
end D
end

section
set_option maxHeartbeats 4000000
namespace D
open PySem L2
/-! the drawing of numbers -/
/-- the bag's cell: n bounds the number of draws -/
def Bag (n : Nat) (c : Cl) : Prop := ∃ (cs : List Int) (a1 a2 a3 a4 : Int), c = .lst [.lst (cs.map .int), .int a1, .int a2, .int a3, .int a4] ∧ 0 ≤ a1 ∧ 0 ≤ a2 ∧ 0 ≤ a3 ∧ a3 < 2 ^ 31 ∧ 0 ≤ a4 ∧ a4 ≤ n
section
variable {s : S} {k : Nat} {env : Env}
theorem dVar_ref {i k : Nat} {ds : List Dt} (h : env[i]? = some (some (.ref k))) (hs : s[k]? = some (.lst ds)) : dVar i env s = .ok (.ref k) s := by
  simp [dVar, h, hs]
/-- reading a place of a cell -/
theorem bag_at {i : Nat} {ds : List Dt} {j : Int} {d : Dt} (h : env[i]? = some (some (.ref k))) (hs : s[k]? = some (.lst ds)) (hj : atI ds j = some d) : dOp fSub' (dVar i) (dC (.int j)) env s = .ok d s := by
  simp [dOp, dVar_ref h hs, dC, Res.bind, fSub', isDctD, pk, hs, fSubS, hj, ofO]
/-- writing a place of a cell -/
theorem bag_put {i : Nat} {ds : List Dt} {j : Int} {n : Nat} {d : Dt} {e : DE} (h : env[i]? = some (some (.ref k))) (hs : s[k]? = some (.lst ds)) (he : e env s = .ok d s) (hj : ixN ds.length j = some n) : sPut e (dVar i) (dC (.int j)) env s = .nx env (s.set k (.lst (ds.set n d))) := by
  simp [sPut, he, andS, dVar_ref h hs, dC, hs, hj]
theorem set_get {c : Cl} (h : k < s.length) : (s.set k c)[k]? = some c := List.getElem?_set_self h
end
section
variable {s s' : S} {env env' : Env} {da db : DE} {x y z : Dt} {f : P2} {a b : DS} {t : DT}
theorem bodyF_eq {nl np : Nat} {b : DS} {ds : List Dt} {s : S} (h : ds.length = np) : bodyF nl np b ds s = bodyR (b (ds.map some ++ List.replicate (nl - np) none) s) := by
  unfold bodyF
  rw [if_pos h]
theorem dOp_ok (h1 : da env s = .ok x s) (h2 : db env s = .ok y s) (h3 : f x y s = some z) : dOp f da db env s = .ok z s := by
  simp [dOp, h1, h2, h3, Res.bind, ofO]
theorem sSeq_nx (h : a env s = .nx env' s') : sSeq a b env s = b env' s' := by simp [sSeq, h]
theorem sSeq_rt {d : Dt} (h : a env s = .rt d s') : sSeq a b env s = .rt d s' := by simp [sSeq, h]
theorem tst_ok {d : DE} {v : Bool} (h : d env s = .ok (.bl v) s) : tst d env s = .ok v s := by simp [tst, h, Res.bind, asB]
theorem sIf_t (h : t env s = .ok true s) : sIf t a b env s = a env s := by simp [sIf, h, andS]
theorem sIf_f (h : t env s = .ok false s) : sIf t a b env s = b env s := by simp [sIf, h, andS]
theorem sSet_ok {i : Nat} {d : DE} (h : d env s = .ok x s) : sSet i d env s = .nx (env.set i (some x)) s := by simp [sSet, h, andS]
theorem sRet_ok {d : DE} (h : d env s = .ok x s) : sRet d env s = .rt x s := by simp [sRet, h, andS]
theorem call1_ok {d : DE} {g : PF} (h : d env s = .ok x s) (hg : g [x] s = some z) : dCall g (dCons d dNil) env s = .ok z s := by simp [dCall, dCons, dNil, h, Res.bind, hg, ofO]
theorem tAnd_t {u : DT} {w : Bool} (h : t env s = .ok true s) (k : u env s = .ok w s) : tAnd t u env s = .ok w s := by simp [tAnd, h, Res.bind, k]
theorem tAnd_f {u : DT} (h : t env s = .ok false s) : tAnd t u env s = .ok false s := by simp [tAnd, h, Res.bind]
theorem dC_ok {d : Dt} : dC d env s = .ok d s := rfl
theorem dVar_int {i : Nat} {v : Int} (h : env[i]? = some (some (.int v))) : dVar i env s = .ok (.int v) s := by simp [dVar, h]
end
theorem pull_body {s : S} {k n : Nat} {m a1 a2 a3 a4 : Int} {cs : List Int} (hs : s[k]? = some (.lst [.lst (cs.map .int), .int a1, .int a2, .int a3, .int a4])) (h1 : 0 ≤ a1) (h2 : 0 ≤ a2) (h3 : 0 ≤ a3) (h3' : a3 < 2 ^ 31) (h4 : 0 ≤ a4) (h4' : a4 ≤ n) (hn : n < 2 ^ 40) (hm : 1 ≤ m) (hm2 : m < 2 ^ 40) :
    ∃ r c', bodyR (d_l_pull [some (.ref k), some (.int m), none, none, none] s) = .ok (.int r) (s.set k c') ∧ 0 ≤ r ∧ r < m ∧ Bag (n + 1) c' := by
  have hk : k < s.length := (List.getElem?_eq_some_iff.mp hs).1
  generalize hL : Dt.lst (cs.map .int) = L at hs
  have pl : pk s L = .lst (cs.map .int) := by rw [← hL]; rfl
  -- the states
  let st : Int → Int → Int → Int → S := fun a1 a2 a3 a4 => s.set k (.lst [L, .int a1, .int a2, .int a3, .int a4])
  have get : ∀ a1 a2 a3 a4, (st a1 a2 a3 a4)[k]? = some (.lst [L, .int a1, .int a2, .int a3, .int a4]) := fun _ _ _ _ => List.getElem?_set_self hk
  have put : ∀ a1 a2 a3 a4 c, (st a1 a2 a3 a4).set k c = s.set k c := fun _ _ _ _ _ => List.set_set ..
  have pkL : ∀ s, pk s L = .lst (cs.map .int) := fun s => by rw [← hL]; rfl
  unfold d_l_pull
  have e0 : ∀ v2 v3 v4 : Option Dt, ([some (.ref k), some (.int m), v2, v3, v4] : Env)[0]? = some (some (.ref k)) := fun _ _ _ => rfl
  -- the count
  rw [sSeq_nx (bag_put (n := 4) (d := .int (a4 + 1)) (e0 _ _ _) hs (dOp_ok (bag_at (e0 _ _ _) hs rfl) dC_ok fAdd_int) rfl)]
  show ∃ r c', bodyR (sSeq _ _ _ (st a1 a2 a3 (a4 + 1))) = _ ∧ _
  -- the tail, from any state
  have tail : ∀ b1 b2 b3 v3, 0 ≤ b1 → 0 ≤ b2 → 0 ≤ b3 → b3 < 2 ^ 31 → ∃ r c', bodyR (sSeq (sIf (tst (dOp fGt (dOp fSub' (dVar 0) (dC (.int 2))) (dC (.int 0)))) (sSeq (sSet 4 (dOp fMod (dCall fIntC (dCons (dOp fSub' (dVar 0) (dC (.int 2))) dNil)) (dVar 1)))
  (sSeq (sPut (dOp fDiv (dOp fSub' (dVar 0) (dC (.int 2))) (dVar 1)) (dVar 0) (dC (.int 2)))
  (sRet (dVar 4)))) sNext)
  (sSeq (sSet 2 (dOp fMod (dCall fIntC (dCons (dOp fAdd (dOp fMul (dOp fSub' (dVar 0) (dC (.int 3))) (dOp fSub' (dVar 0) (dC (.int 3)))) (dOp fMul (dOp fSub' (dVar 0) (dC (.int 4))) (dC (.int 8111)))) dNil)) (dC (.int 2147483543))))
  (sSeq (sPut (dOp fMod (dCall fIntC (dCons (dOp fAdd (dOp fAdd (dOp fMul (dVar 2) (dC (.int 16411))) (dOp fMul (dOp fSub' (dVar 0) (dC (.int 3))) (dC (.int 60017)))) (dC (.int 54323))) dNil)) (dC (.int 2147483629))) (dVar 0) (dC (.int 3)))
  (sRet (dOp fMod (dCall fIntC (dCons (dOp fDiv (dOp fSub' (dVar 0) (dC (.int 3))) (dC (.int 64))) dNil)) (dVar 1))))) [some (.ref k), some (.int m), none, v3, none] (st b1 b2 b3 (a4 + 1))) = .ok (.int r) (s.set k c') ∧ 0 ≤ r ∧ r < m ∧ Bag (n + 1) c' := by
    intro b1 b2 b3 v3 g1 g2 g3 g3'
    have G := get b1 b2 b3 (a4 + 1)
    have c2 : dOp fGt (dOp fSub' (dVar 0) (dC (.int 2))) (dC (.int 0)) [some (.ref k), some (.int m), none, v3, none] (st b1 b2 b3 (a4 + 1)) = .ok (.bl (decide (0 < b2))) (st b1 b2 b3 (a4 + 1)) := dOp_ok (bag_at (e0 _ _ _) G rfl) dC_ok fGt_int
    have hlog : m.natAbs.log2 < 9000 := by
      have : m.natAbs < 2 ^ 40 := by omega
      have := (Nat.log2_lt (by omega : m.natAbs ≠ 0)).mpr this
      omega
    by_cases hb : 0 < b2
    · rw [decide_eq_true hb] at c2
      rw [sSeq_rt (d := .int (b2 % m)) (s' := st b1 (b2 / m) b3 (a4 + 1))]
      · refine ⟨b2 % m, _, rfl, Int.emod_nonneg _ (by omega), Int.emod_lt_of_pos _ (by omega), cs, b1, b2 / m, b3, a4 + 1, by rw [hL], g1, Int.ediv_nonneg g2 (by omega), g3, g3', by omega, by omega⟩
      · rw [sIf_t (tst_ok c2), sSeq_nx (sSet_ok (dOp_ok (call1_ok (bag_at (e0 _ _ _) G rfl) rfl) (dVar_int (v := m) rfl) (fMod_int (by omega))))]
        rw [sSeq_nx (bag_put (n := 2) (d := .int (b2 / m)) rfl G (dOp_ok (bag_at rfl G rfl) (dVar_int (v := m) rfl) (fDiv_int (by omega) hlog)) rfl)]
        rw [sRet_ok (dVar_int (v := b2 % m) rfl), put]
        rfl
    · rw [decide_eq_false hb] at c2
      rw [sSeq_nx (env' := [some (.ref k), some (.int m), none, v3, none]) (s' := st b1 b2 b3 (a4 + 1)) (by rw [sIf_f (tst_ok c2)]; rfl)]
      have n3 : b3.natAbs < 2 ^ 1000000 := small_abs (n := 0) (by omega) (by omega)
      have n4 : (a4 + 1).natAbs < 2 ^ 1000000 := small_abs (n := 0) (by omega) (by omega)
      have lit : ∀ c : Int, 0 ≤ c → c < 2 ^ 40 → c.natAbs < 2 ^ 1000000 := fun c h1 h2 => small_abs (n := 0) (by omega) (by omega)
      rw [sSeq_nx (sSet_ok (x := .int ((b3 * b3 + (a4 + 1) * 8111) % 2147483543)) (dOp_ok (call1_ok (dOp_ok (dOp_ok (bag_at (e0 _ _ _) G rfl) (bag_at (e0 _ _ _) G rfl) (fMul_int n3 n3)) (dOp_ok (bag_at (e0 _ _ _) G rfl) dC_ok (fMul_int n4 (lit _ (by omega) (by omega)))) fAdd_int) rfl) dC_ok (fMod_int (by omega))))]
      generalize hw : (b3 * b3 + (a4 + 1) * 8111) % 2147483543 = w2
      have w2a : 0 ≤ w2 := by rw [← hw]; exact Int.emod_nonneg _ (by omega)
      have w2b : w2 < 2147483543 := by rw [← hw]; exact Int.emod_lt_of_pos _ (by omega)
      rw [sSeq_nx (bag_put (n := 3) (d := .int ((w2 * 16411 + b3 * 60017 + 54323) % 2147483629)) rfl G (dOp_ok (call1_ok (dOp_ok (dOp_ok (dOp_ok (dVar_int (v := w2) rfl) dC_ok (fMul_int (lit _ w2a (by omega)) (lit _ (by omega) (by omega)))) (dOp_ok (bag_at rfl G rfl) dC_ok (fMul_int n3 (lit _ (by omega) (by omega)))) fAdd_int) dC_ok fAdd_int) rfl) dC_ok (fMod_int (by omega))) rfl)]
      generalize hz : (w2 * 16411 + b3 * 60017 + 54323) % 2147483629 = z3
      have z3a : 0 ≤ z3 := by rw [← hz]; exact Int.emod_nonneg _ (by omega)
      have z3b : z3 < 2147483629 := by rw [← hz]; exact Int.emod_lt_of_pos _ (by omega)
      rw [put]
      have G2 := get b1 b2 z3 (a4 + 1)
      have e := sRet_ok (dOp_ok (call1_ok (g := fIntC) (dOp_ok (bag_at (k := k) (i := 0) (j := 3) (d := .int z3) (env := [some (.ref k), some (.int m), some (.int w2), v3, none]) rfl G2 rfl) (dC_ok (d := .int 64)) (fDiv_int (by omega) (by decide))) rfl) (dVar_int (i := 1) (v := m) rfl) (fMod_int (by omega)))
      refine ⟨z3 / 64 % m, _, ?_, Int.emod_nonneg _ (by omega), Int.emod_lt_of_pos _ (by omega), cs, b1, b2, z3, a4 + 1, by rw [hL], g1, g2, z3a, by omega, by omega, by omega⟩
      exact congrArg bodyR e
  -- the test: is a cell to be taken
  have G := get a1 a2 a3 (a4 + 1)
  generalize hs0 : st a1 a2 a3 (a4 + 1) = s0 at G ⊢
  have c2 : tst (dOp fEq (dOp fSub' (dVar 0) (dC (.int 2))) (dC (.int 0))) [some (.ref k), some (.int m), none, none, none] s0 = .ok (a2 == 0) s0 := tst_ok (dOp_ok (bag_at (e0 _ _ _) G rfl) dC_ok fEq_int)
  have c1 : tst (dOp fLt (dOp fSub' (dVar 0) (dC (.int 1))) (dCall fLen (dCons (dOp fSub' (dVar 0) (dC (.int 0))) dNil))) [some (.ref k), some (.int m), none, none, none] s0 = .ok (decide (a1 < cs.length)) s0 :=
    tst_ok (dOp_ok (bag_at (e0 _ _ _) G rfl) (call1_ok (z := .int cs.length) (bag_at (e0 _ _ _) G rfl) (by simp [fLen, pkL])) fLt_int)
  by_cases hc : (a2 == 0) = true ∧ a1 < cs.length
  case neg =>
    have ct : tAnd (tst (dOp fEq (dOp fSub' (dVar 0) (dC (.int 2))) (dC (.int 0)))) (tst (dOp fLt (dOp fSub' (dVar 0) (dC (.int 1))) (dCall fLen (dCons (dOp fSub' (dVar 0) (dC (.int 0))) dNil)))) [some (.ref k), some (.int m), none, none, none] s0 = .ok false s0 := by
      by_cases hz : (a2 == 0) = true
      · rw [tAnd_t (by rw [c2, hz]) c1, decide_eq_false (fun z => hc ⟨hz, z⟩)]
      · exact tAnd_f (by rw [c2]; simpa using hz)
    rw [sSeq_nx (env' := [some (.ref k), some (.int m), none, none, none]) (s' := s0) (by rw [sIf_f ct]; rfl), ← hs0]
    exact tail a1 a2 a3 none h1 h2 h3 h3'
  obtain ⟨hz, hlt⟩ := hc
  have ct : tAnd (tst (dOp fEq (dOp fSub' (dVar 0) (dC (.int 2))) (dC (.int 0)))) (tst (dOp fLt (dOp fSub' (dVar 0) (dC (.int 1))) (dCall fLen (dCons (dOp fSub' (dVar 0) (dC (.int 0))) dNil)))) [some (.ref k), some (.int m), none, none, none] s0 = .ok true s0 := by
    rw [tAnd_t (by rw [c2, hz]) c1, decide_eq_true hlt]
  obtain ⟨cell, hcell⟩ : ∃ cell, cs[a1.toNat]? = some cell := ⟨_, List.getElem?_eq_getElem (by omega)⟩
  have hat : fSub' L (.int a1) s0 = some (.int cell) := by
    have h0 : atI (cs.map Dt.int) a1 = some (.int cell) := by
      unfold atI ixN
      rw [if_pos h1, if_pos (by simpa using hlt)]
      simp [hcell]
    simp [fSub', isDctD, pkL, fSubS, h0]
  have inner : ∃ b2 b3 v3, 0 ≤ b2 ∧ 0 ≤ b3 ∧ b3 < 2 ^ 31 ∧ (sSeq (sSet 3 (dOp fSub' (dOp fSub' (dVar 0) (dC (.int 0))) (dOp fSub' (dVar 0) (dC (.int 1)))))
  (sSeq (sPut (dOp fAdd (dOp fSub' (dVar 0) (dC (.int 1))) (dC (.int 1))) (dVar 0) (dC (.int 1)))
  (sIf (tst (dOp fGe (dCall fAbs (dCons (dVar 3) dNil)) (dOp fPow (dC (.int 10)) (dC (.int 18))))) (sPut (dCall fAbs (dCons (dVar 3) dNil)) (dVar 0) (dC (.int 2))) (sPut (dOp fMod (dCall fIntC (dCons (dOp fAdd (dOp fAdd (dOp fMul (dOp fSub' (dVar 0) (dC (.int 3))) (dC (.int 43973))) (dOp fMul (dOp fMod (dCall fIntC (dCons (dVar 3) dNil)) (dC (.int 1000037))) (dC (.int 719)))) (dC (.int 31))) dNil)) (dC (.int 2147483629))) (dVar 0) (dC (.int 3)))))) [some (.ref k), some (.int m), none, none, none] s0 = .nx [some (.ref k), some (.int m), none, v3, none] (st (a1 + 1) b2 b3 (a4 + 1)) := by
    rw [sSeq_nx (sSet_ok (x := .int cell) (dOp_ok (bag_at (e0 _ _ _) G rfl) (bag_at (e0 _ _ _) G rfl) hat))]
    rw [sSeq_nx (bag_put (n := 1) (d := .int (a1 + 1)) rfl G (dOp_ok (bag_at rfl G rfl) dC_ok fAdd_int) rfl)]
    rw [← hs0, put]
    have G1 := get (a1 + 1) a2 a3 (a4 + 1)
    have eA : dCall fAbs (dCons (dVar 3) dNil) [some (.ref k), some (.int m), none, some (.int cell), none] (st (a1 + 1) a2 a3 (a4 + 1)) = .ok (.int (if cell < 0 then -cell else cell)) (st (a1 + 1) a2 a3 (a4 + 1)) := call1_ok (dVar_int (v := cell) rfl) rfl
    have cg : tst (dOp fGe (dCall fAbs (dCons (dVar 3) dNil)) (dOp fPow (dC (.int 10)) (dC (.int 18)))) [some (.ref k), some (.int m), none, some (.int cell), none] (st (a1 + 1) a2 a3 (a4 + 1)) = .ok (!decide ((if cell < 0 then -cell else cell) < (10 : Int) ^ (18 : Int).toNat)) (st (a1 + 1) a2 a3 (a4 + 1)) :=
      tst_ok (dOp_ok eA (dOp_ok dC_ok dC_ok (fPow_int (by omega) (by omega) (by decide))) fGe_int)
    by_cases hg : (if cell < 0 then -cell else cell) < (10 : Int) ^ (18 : Int).toNat
    · rw [decide_eq_true hg] at cg
      have cb : -(10 ^ 18 : Int) < cell ∧ cell < 10 ^ 18 := by
        have : ((10 : Int) ^ (18 : Int).toNat) = 10 ^ 18 := rfl
        rw [this] at hg
        split at hg <;> omega
      refine ⟨a2, (a3 * 43973 + cell % 1000037 * 719 + 31) % 2147483629, some (.int cell), h2, Int.emod_nonneg _ (by omega), by have := Int.emod_lt_of_pos (a3 * 43973 + cell % 1000037 * 719 + 31) (by omega : (0 : Int) < 2147483629); omega, ?_⟩
      have lit : ∀ c : Int, 0 ≤ c → c < 2 ^ 40 → c.natAbs < 2 ^ 1000000 := fun c h1 h2 => small_abs (n := 0) (by omega) (by omega)
      have m1 := Int.emod_nonneg cell (by omega : (1000037 : Int) ≠ 0)
      have m2 := Int.emod_lt_of_pos cell (by omega : (0 : Int) < 1000037)
      show sIf _ _ _ [some (.ref k), some (.int m), none, some (.int cell), none] (st (a1 + 1) a2 a3 (a4 + 1)) = _
      rw [sIf_f (by simpa using cg)]
      rw [bag_put (n := 3) (d := .int ((a3 * 43973 + cell % 1000037 * 719 + 31) % 2147483629)) rfl G1 (dOp_ok (call1_ok (dOp_ok (dOp_ok (dOp_ok (bag_at rfl G1 rfl) dC_ok (fMul_int (lit _ h3 (by omega)) (lit _ (by omega) (by omega)))) (dOp_ok (dOp_ok (call1_ok (dVar_int (v := cell) rfl) rfl) dC_ok (fMod_int (by omega))) dC_ok (fMul_int (lit _ m1 (by omega)) (lit _ (by omega) (by omega)))) fAdd_int) dC_ok fAdd_int) rfl) dC_ok (fMod_int (by omega))) rfl, put]
      rfl
    · rw [decide_eq_false hg] at cg
      refine ⟨if cell < 0 then -cell else cell, a3, some (.int cell), by split <;> omega, h3, h3', ?_⟩
      show sIf _ _ _ [some (.ref k), some (.int m), none, some (.int cell), none] (st (a1 + 1) a2 a3 (a4 + 1)) = _
      rw [sIf_t (by simpa using cg)]
      rw [bag_put (n := 2) rfl G1 eA rfl, put]
      rfl
  obtain ⟨b2, b3, v3, q1, q2, q3, q4⟩ := inner
  rw [sSeq_nx (by rw [sIf_t ct]; exact q4)]
  exact tail (a1 + 1) b2 b3 v3 (by omega) q1 q2 q3
theorem pull_spec {s : S} {k n : Nat} {m : Int} {c : Cl} (hs : s[k]? = some c) (hb : Bag n c) (hn : n < 2 ^ 40) (hm : 1 ≤ m) (hm2 : m < 2 ^ 40) :
    ∃ r c', f_l_pull [.ref k, .int m] s = .ok (.int r) (s.set k c') ∧ 0 ≤ r ∧ r < m ∧ Bag (n + 1) c' := by
  obtain ⟨cs, a1, a2, a3, a4, rfl, h1, h2, h3, h3', h4, h4'⟩ := hb
  have hk : k < s.length := (List.getElem?_eq_some_iff.mp hs).1
  have key : ∃ r c', bodyF 5 2 d_l_pull [.ref k, .int m] s = .ok (.int r) (s.set k c') ∧ 0 ≤ r ∧ r < m ∧ Bag (n + 1) c' := by
    rw [show bodyF 5 2 d_l_pull [.ref k, .int m] s = bodyR (d_l_pull [some (.ref k), some (.int m), none, none, none] s) from bodyF_eq rfl]
    exact pull_body hs h1 h2 h3 h3' h4 h4' hn hm hm2
  obtain ⟨r, c', e, q1, q2, q3⟩ := key
  refine ⟨r, c', ?_, q1, q2, q3⟩
  show cutR s (bodyF 5 2 d_l_pull [.ref k, .int m] s) = _
  rw [e]
  have := cutR_mut (s := s) (s1 := s.set k c') (j := []) (d := .int r) List.length_set (by simp [clean]) fun j cl hj => by
    by_cases hjk : k = j
    · subst hjk
      rw [List.getElem?_set_self hk] at hj
      cases hj
      right
      obtain ⟨cs, a1, a2, a3, a4, rfl, _⟩ := q3
      have hc : ∀ l : List Int, cleans s.length (l.map Dt.int) = true := fun l => by
        induction l with
        | nil => rfl
        | cons x l ih => simp [cleans, clean, ih]
      simp [cleanC, cleans, clean, hc]
    · left
      rwa [List.getElem?_set_ne hjk] at hj
  rw [List.append_nil] at this
  exact this
end D
end

section
set_option maxHeartbeats 4000000
namespace D
open PySem L2
theorem cutR_len {s s' : S} {d : Dt} (h : s'.length = s.length) : cutR s (.ok d s') = .ok d s' := by
  unfold cutR
  simp only
  split
  · rw [← h, List.take_length]
  · rfl
/-! ### comprehensions whose items leave the store as it is -/
section
variable {j : DIt} {g : DG} {tt : DT} {te : DE} {env : Env} {s : S} {xs : List Dt} {F : Dt → Dt}
/-- one item: what the target, the test and the element do -/
def Item (g : DG) (tt : DT) (te : DE) (env : Env) (x y : Dt) (s : S) : Prop := ∃ env1, g x env s = some env1 ∧ tt env1 s = .ok true s ∧ te env1 s = .ok y s
theorem runLc_map (hn : j.n = xs.length) (ha : ∀ (s : S) (i : Nat) (x : Dt), xs[i]? = some x → j.at_ i s = some x) (he : ∀ s, (j.at_ j.n s).isSome = true) (hz : xs.length ≤ sizeLine)
    (hi : ∀ acc, ∀ x ∈ xs, Item g tt te env x (F x) (s ++ [.lst acc])) : ∀ (m i : Nat), i + m = xs.length → runLc j g tt te s.length env m (s ++ [.lst ((xs.take i).map F)]) = some (s ++ [.lst (xs.map F)])
  | 0, i, h => by
    unfold runLc
    rw [if_pos (he _), List.take_of_length_le (by omega)]
  | m + 1, i, h => by
    have hlt : i < xs.length := by omega
    have hx : xs[i]? = some xs[i] := List.getElem?_eq_getElem hlt
    unfold runLc
    rw [show j.n - (m + 1) = i by omega, ha _ _ _ hx]
    obtain ⟨env1, e1, e2, e3⟩ := hi ((xs.take i).map F) xs[i] (List.getElem_mem hlt)
    simp only [e1, e2, e3]
    have hc : (s ++ [Cl.lst ((xs.take i).map F)])[s.length]? = some (.lst ((xs.take i).map F)) := by
      rw [List.getElem?_append_right (Nat.le_refl _), Nat.sub_self]
      rfl
    rw [hc]
    simp only
    rw [if_pos (by rw [List.length_map, List.length_take]; omega)]
    have hset : (s ++ [Cl.lst ((xs.take i).map F)]).set s.length (.lst ((xs.take i).map F ++ [F xs[i]])) = s ++ [.lst ((xs.take (i + 1)).map F)] := by
      rw [List.set_append_right _ _ (Nat.le_refl _), Nat.sub_self]
      congr 1
      rw [List.set_cons_zero, List.take_succ, hx, List.map_append]
      rfl
    rw [hset]
    exact runLc_map hn ha he hz hi m (i + 1) (by omega)
theorem lcF_map {di : DI} {vs : List Nat} (hj : di env s = .ok j s) (hn : j.n = xs.length) (ha : ∀ (s : S) (i : Nat) (x : Dt), xs[i]? = some x → j.at_ i s = some x) (he : ∀ s, (j.at_ j.n s).isSome = true) (hz : xs.length ≤ sizeLine)
    (hi : ∀ acc, ∀ x ∈ xs, Item g tt te (wipeD env vs) x (F x) (s ++ [.lst acc])) (hc : cleans s.length (xs.map F) = true) : lcF di g tt te vs env s = .ok (.lst (xs.map F)) s := by
  unfold lcF
  rw [hj]
  simp only [Res.bind]
  have := runLc_map (te := te) (env := wipeD env vs) hn ha he hz hi xs.length 0 (by omega)
  rw [List.take_zero, List.map_nil] at this
  rw [hn, this]
  simp only
  have hg : (s ++ [Cl.lst (xs.map F)])[s.length]? = some (.lst (xs.map F)) := by
    rw [List.getElem?_append_right (Nat.le_refl _), Nat.sub_self]
    rfl
  rw [hg]
  simp only
  rw [List.set_append_right _ _ (Nat.le_refl _), Nat.sub_self]
  exact cutR_pure (by simpa only [clean] using hc)
end
/-! ### the kinds of builtin values -/
theorem kit_1 : kitB "NoneType" "list" = some false := by decide +kernel
theorem kit_2 : kitB "bool" "list" = some false := by decide +kernel
theorem kit_3 : kitB "int" "list" = some false := by decide +kernel
theorem kit_4 : kitB "str" "list" = some false := by decide +kernel
theorem kit_5 : kitB "list" "list" = some true := by decide +kernel
theorem kit_6 : kitB "tuple" "list" = some false := by decide +kernel
theorem kit_7 : kitB "NoneType" "tuple" = some false := by decide +kernel
theorem kit_8 : kitB "bool" "tuple" = some false := by decide +kernel
theorem kit_9 : kitB "int" "tuple" = some false := by decide +kernel
theorem kit_10 : kitB "str" "tuple" = some false := by decide +kernel
theorem kit_11 : kitB "list" "tuple" = some false := by decide +kernel
theorem kit_12 : kitB "tuple" "tuple" = some true := by decide +kernel
theorem kit_13 : kitB "NoneType" "bool" = some false := by decide +kernel
theorem kit_14 : kitB "bool" "bool" = some true := by decide +kernel
theorem kit_15 : kitB "int" "bool" = some false := by decide +kernel
theorem kit_16 : kitB "str" "bool" = some false := by decide +kernel
theorem kit_17 : kitB "list" "bool" = some false := by decide +kernel
theorem kit_18 : kitB "tuple" "bool" = some false := by decide +kernel
theorem kit_19 : kitB "NoneType" "int" = some false := by decide +kernel
theorem kit_20 : kitB "bool" "int" = some true := by decide +kernel
theorem kit_21 : kitB "int" "int" = some true := by decide +kernel
theorem kit_22 : kitB "str" "int" = some false := by decide +kernel
theorem kit_23 : kitB "list" "int" = some false := by decide +kernel
theorem kit_24 : kitB "tuple" "int" = some false := by decide +kernel
theorem kit_25 : kitB "NoneType" "str" = some false := by decide +kernel
theorem kit_26 : kitB "bool" "str" = some false := by decide +kernel
theorem kit_27 : kitB "int" "str" = some false := by decide +kernel
theorem kit_28 : kitB "str" "str" = some true := by decide +kernel
theorem kit_29 : kitB "list" "str" = some false := by decide +kernel
theorem kit_30 : kitB "tuple" "str" = some false := by decide +kernel
/-! ### same: a value against itself -/
inductive Pl : Nat → Dt → Prop where
  | int (n : Nat) (i : Int) : Pl (n + 1) (.int i)
  | bl (n : Nat) (b : Bool) : Pl (n + 1) (.bl b)
  | str (n : Nat) (x : Str) (h : okD (.str x) = true) : Pl (n + 1) (.str x)
  | non (n : Nat) : Pl (n + 1) .non
  | lst (n : Nat) (xs : List Dt) (h : ∀ x ∈ xs, Pl n x) (hz : xs.length ≤ sizeLine) : Pl (n + 1) (.lst xs)
  | tup (n : Nat) (xs : List Dt) (h : ∀ x ∈ xs, Pl n x) (hz : xs.length ≤ sizeLine) : Pl (n + 1) (.tup xs)
end D
end

section
set_option maxHeartbeats 4000000
namespace D
open PySem L2
theorem cut_id {s : S} {r : Res Dt} {d : Dt} (h : r = .ok d s) : cutR s r = .ok d s := by rw [h]; exact cutR_same
theorem okD_list {ps : List PyData} : okD (.list ps) = true ↔ PyData.canLayAll0 ps = true ∧ PyData.depth (.list ps) ≤ 64 := by simp [okD, SeqAt.shaped, PyData.canLay0]
theorem same_flat {n : Nat} {d : Dt} {s : S} (h : (∃ i, d = .int i) ∨ (∃ b, d = .bl b) ∨ (∃ x, d = .str x ∧ okD (.str x) = true) ∨ d = .non) : f_l_same (n + 1) [d, d] s = .ok (.bl true) s := by
  refine cut_id ?_
  rw [show bodyF 4 2 (d_l_same (f_l_same n)) [d, d] s = bodyR (d_l_same (f_l_same n) [some d, some d, none, none] s) from bodyF_eq rfl]
  show bodyR (d_l_same (f_l_same n) [some d, some d, none, none] s) = _
  unfold d_l_same
  rcases h with ⟨i, rfl⟩ | ⟨b, rfl⟩ | ⟨x, rfl, hx⟩ | rfl
  · simp [sSeq, sIf, andS, tst, dCall, fIs, fIs1, isAny, dCons, dNil, dVar, dC, dTup, Res.bind, ofO, pk, tyD, kit_1, kit_2, kit_3, kit_4, kit_5, kit_6, kit_7, kit_8, kit_9, kit_10, kit_11, kit_12, kit_13, kit_14, kit_15, kit_16, kit_17, kit_18, kit_19, kit_20, kit_21, kit_22, kit_23, kit_24, kit_25, kit_26, kit_27, kit_28, kit_29, kit_30, tOr, tAnd, dOp, fNe_bl, fEq_bl, fIsN, isN, sRet, sNext, dAnd, asB, bodyR, fEq_int, fEq, toPy, toPys, okD_int, okD_bool, okD_none, PyData.eqv, sizeLine_eq]
  · simp [sSeq, sIf, andS, tst, dCall, fIs, fIs1, isAny, dCons, dNil, dVar, dC, dTup, Res.bind, ofO, pk, tyD, kit_1, kit_2, kit_3, kit_4, kit_5, kit_6, kit_7, kit_8, kit_9, kit_10, kit_11, kit_12, kit_13, kit_14, kit_15, kit_16, kit_17, kit_18, kit_19, kit_20, kit_21, kit_22, kit_23, kit_24, kit_25, kit_26, kit_27, kit_28, kit_29, kit_30, tOr, tAnd, dOp, fNe_bl, fEq_bl, fIsN, isN, sRet, sNext, dAnd, asB, bodyR, fEq_int, fEq, toPy, toPys, okD_int, okD_bool, okD_none, PyData.eqv, sizeLine_eq]
  · simp [sSeq, sIf, andS, tst, dCall, fIs, fIs1, isAny, dCons, dNil, dVar, dC, dTup, Res.bind, ofO, pk, tyD, kit_1, kit_2, kit_3, kit_4, kit_5, kit_6, kit_7, kit_8, kit_9, kit_10, kit_11, kit_12, kit_13, kit_14, kit_15, kit_16, kit_17, kit_18, kit_19, kit_20, kit_21, kit_22, kit_23, kit_24, kit_25, kit_26, kit_27, kit_28, kit_29, kit_30, tOr, tAnd, dOp, fNe_bl, fEq_bl, fIsN, isN, sRet, sNext, dAnd, asB, bodyR, fEq_int, fEq, toPy, toPys, okD_int, okD_bool, okD_none, PyData.eqv, sizeLine_eq, hx]
  · simp [sSeq, sIf, andS, tst, dCall, fIs, fIs1, isAny, dCons, dNil, dVar, dC, dTup, Res.bind, ofO, pk, tyD, kit_1, kit_2, kit_3, kit_4, kit_5, kit_6, kit_7, kit_8, kit_9, kit_10, kit_11, kit_12, kit_13, kit_14, kit_15, kit_16, kit_17, kit_18, kit_19, kit_20, kit_21, kit_22, kit_23, kit_24, kit_25, kit_26, kit_27, kit_28, kit_29, kit_30, tOr, tAnd, dOp, fNe_bl, fEq_bl, fIsN, isN, sRet, sNext, dAnd, asB, bodyR, fEq_int, fEq, toPy, toPys, okD_int, okD_bool, okD_none, PyData.eqv, sizeLine_eq]
theorem dVar_pl {n i : Nat} {d : Dt} {env : Env} {s : S} (h : env[i]? = some (some d)) (p : Pl n d) : dVar i env s = .ok d s := by
  cases p <;> simp [dVar, h]
theorem bsOf_true (l : List Dt) : bsOf (l.map fun _ => Dt.bl true) = some (l.map fun _ => true) := by
  induction l with
  | nil => rfl
  | cons x l ih => simp [bsOf, ih]
theorem clean_true (n : Nat) (l : List Dt) : cleans n (l.map fun _ => Dt.bl true) = true := by
  induction l with
  | nil => rfl
  | cons x l ih => simp [cleans, clean, ih]
/-- the comprehension in same -/
theorem same_lc {n : Nat} {xs : List Dt} {d : Dt} {s : S} (ih : ∀ x ∈ xs, ∀ s, f_l_same n [x, x] s = .ok (.bl true) s) (hp : ∀ x ∈ xs, Pl n x) (hz : xs.length ≤ sizeLine) {j : DIt} (hj : iZip (dCons (dVar 0) (dCons (dVar 1) dNil)) [some d, some d, none, none] s = .ok j s)
    (hn : j.n = xs.length) (ha : ∀ (s : S) (i : Nat) (x : Dt), (xs.map fun x => Dt.tup [x, x])[i]? = some x → j.at_ i s = some x) (he : ∀ s, (j.at_ j.n s).isSome = true) :
    lcF (iZip (dCons (dVar 0) (dCons (dVar 1) dNil))) (gTp [(gNm 2), (gNm 3)]) dYes (dFn 2 (f_l_same n) (dCons (dVar 2) (dCons (dVar 3) dNil))) [2, 3] [some d, some d, none, none] s = .ok (.lst (xs.map fun _ => .bl true)) s := by
  have e : (xs.map fun x => Dt.tup [x, x]).map (fun _ => Dt.bl true) = xs.map fun _ => Dt.bl true := by rw [List.map_map]; rfl
  rw [← e]
  refine lcF_map hj (by rw [hn, List.length_map]) ha he (by rw [List.length_map]; exact hz) (fun acc x hx => ?_) (clean_true _ _)
  obtain ⟨y, hy, rfl⟩ := List.mem_map.mp hx
  refine ⟨[some d, some d, some y, some y], rfl, rfl, ?_⟩
  have h2 := dVar_pl (i := 2) (env := [some d, some d, some y, some y]) (s := s ++ [.lst acc]) rfl (hp y hy)
  have h3 := dVar_pl (i := 3) (env := [some d, some d, some y, some y]) (s := s ++ [.lst acc]) rfl (hp y hy)
  simp [dFn, dCons, dNil, h2, h3, Res.bind, ih y hy]
theorem same_true : ∀ {n : Nat} {d : Dt}, Pl n d → ∀ s, f_l_same n [d, d] s = .ok (.bl true) s := by
  intro n d h
  induction h with
  | int n i => exact fun s => same_flat (.inl ⟨i, rfl⟩)
  | bl n b => exact fun s => same_flat (.inr (.inl ⟨b, rfl⟩))
  | str n x hx => exact fun s => same_flat (.inr (.inr (.inl ⟨x, rfl, hx⟩)))
  | non n => exact fun s => same_flat (.inr (.inr (.inr rfl)))
  | lst n xs hp hz ih =>
    intro s
    refine cut_id ?_
    rw [show bodyF 4 2 (d_l_same (f_l_same n)) [.lst xs, .lst xs] s = bodyR (d_l_same (f_l_same n) [some (.lst xs), some (.lst xs), none, none] s) from bodyF_eq rfl]
    have lc := same_lc (d := .lst xs) (s := s) (j := itZ (.lst xs) (.lst xs) xs.length xs.length) ih hp hz (by simp [iZip, dCons, dNil, dVar, Res.bind, pk]) (by simp [itZ]) (fun s i x hx => by
      rw [List.getElem?_map] at hx
      obtain ⟨y, hy, rfl⟩ := Option.map_eq_some_iff.mp hx
      have hi := (List.getElem?_eq_some_iff.mp hy).1
      simp [itZ, itL, pk, hi, List.getElem?_eq_getElem hi, (List.getElem?_eq_some_iff.mp hy).2]) (fun s => by simp [itZ, itL, pk])
    have v0 : dVar 0 [some (.lst xs), some (.lst xs), none, none] s = .ok (.lst xs) s := rfl
    have v1 : dVar 1 [some (.lst xs), some (.lst xs), none, none] s = .ok (.lst xs) s := rfl
    unfold d_l_same
    simp [sSeq, sIf, andS, tst, dCall, fIs, fIs1, isAny, dCons, dNil, dC, dTup, Res.bind, ofO, pk, tyD, kit_1, kit_2, kit_3, kit_4, kit_5, kit_6, kit_7, kit_8, kit_9, kit_10, kit_11, kit_12, kit_13, kit_14, kit_15, kit_16, kit_17, kit_18, kit_19, kit_20, kit_21, kit_22, kit_23, kit_24, kit_25, kit_26, kit_27, kit_28, kit_29, kit_30, tOr, tAnd, dOp, fNe_bl, fEq_bl, fIsN, isN, sRet, sNext, dAnd, asB, bodyR, fEq_int, sizeLine_eq, v0, v1, fLen, lc, fAll, bsOf_true]
  | tup n xs hp hz ih =>
    intro s
    refine cut_id ?_
    rw [show bodyF 4 2 (d_l_same (f_l_same n)) [.tup xs, .tup xs] s = bodyR (d_l_same (f_l_same n) [some (.tup xs), some (.tup xs), none, none] s) from bodyF_eq rfl]
    have lc := same_lc (d := .tup xs) (s := s) (j := itZT xs xs) ih hp hz (by simp [iZip, dCons, dNil, dVar, Res.bind, pk]) (by simp [itZT]) (fun s i x hx => by
      rw [List.getElem?_map] at hx
      obtain ⟨y, hy, rfl⟩ := Option.map_eq_some_iff.mp hx
      have hi := (List.getElem?_eq_some_iff.mp hy).1
      simp [itZT, hi, List.getElem?_eq_getElem hi, (List.getElem?_eq_some_iff.mp hy).2]) (fun s => by simp [itZT])
    have v0 : dVar 0 [some (.tup xs), some (.tup xs), none, none] s = .ok (.tup xs) s := rfl
    have v1 : dVar 1 [some (.tup xs), some (.tup xs), none, none] s = .ok (.tup xs) s := rfl
    unfold d_l_same
    simp [sSeq, sIf, andS, tst, dCall, fIs, fIs1, isAny, dCons, dNil, dC, dTup, Res.bind, ofO, pk, tyD, kit_1, kit_2, kit_3, kit_4, kit_5, kit_6, kit_7, kit_8, kit_9, kit_10, kit_11, kit_12, kit_13, kit_14, kit_15, kit_16, kit_17, kit_18, kit_19, kit_20, kit_21, kit_22, kit_23, kit_24, kit_25, kit_26, kit_27, kit_28, kit_29, kit_30, tOr, tAnd, dOp, fNe_bl, fEq_bl, fIsN, isN, sRet, sNext, dAnd, asB, bodyR, fEq_int, sizeLine_eq, v0, v1, fLen, lc, fAll, bsOf_true]
end D
end

section
set_option maxHeartbeats 4000000
namespace D
open PySem L2
theorem clean_ints (n : Nat) (l : List Int) : cleans n (l.map Dt.int) = true := by
  induction l with
  | nil => rfl
  | cons x l ih => simp [cleans, clean, ih]
/-- a loop with an invariant that never stops early -/
theorem runFor_inv {j : DIt} {g : DG} {b : DS} {P : Nat → Env → S → Prop} (step : ∀ i env s, i < j.n → P i env s → ∃ x env1 env2 s2, j.at_ i s = some x ∧ g x env s = some env1 ∧ b env1 s = .nx env2 s2 ∧ P (i + 1) env2 s2)
    (fin : ∀ env s, P j.n env s → (j.at_ j.n s).isSome = true) : ∀ (m i : Nat) (env : Env) (s : S), i + m = j.n → P i env s → ∃ env' s', runFor j g b m env s = .nx env' s' ∧ P j.n env' s'
  | 0, i, env, s, h, p => by
    have : i = j.n := by omega
    subst this
    unfold runFor
    rw [if_pos (fin env s p)]
    exact ⟨env, s, rfl, p⟩
  | m + 1, i, env, s, h, p => by
    obtain ⟨x, env1, env2, s2, e1, e2, e3, p2⟩ := step i env s (by omega) p
    unfold runFor
    rw [show j.n - (m + 1) = i by omega, e1]
    simp only [e2, e3]
    exact runFor_inv step fin m (i + 1) env2 s2 (by omega) p2
theorem frzCall1 {d : DE} {f : PFN} {env : Env} {s : S} {x : Dt} {ys : List Dt} (h : d env s = .ok x s) (hf : f [x] s = some ys) : dFrz (nCall f (dCons d dNil)) env s = .ok (.lst ys) s := by
  simp [dFrz, nCall, dCons, h, Res.bind, dNil, hf, nOfO]
theorem cutD_63 (l : List Dt) : cutD l none (some 63) = l.take 63 := by
  unfold cutD
  rw [HT.sIx_none, show (63 : Int) = ((63 : Nat) : Int) from rfl, HT.sIx_nat, List.drop_zero, Nat.sub_zero]
  rcases Nat.le_total 63 l.length with h | h
  · rw [Nat.min_eq_left h]
  · rw [Nat.min_eq_right h, List.take_length, List.take_of_length_le h]
theorem bag_spec {s : S} {cs : List Int} : ∃ c, f_l_bag [.klst (cs.map .int)] s = .ok (.ref s.length) (s ++ [c]) ∧ Bag 0 c := by
  have hcut : cutD (cs.map Dt.int) none (some 63) = (cs.take 63).map Dt.int := by rw [cutD_63, List.map_take]
  have hsl : ∀ v1 v2 s, dFrz (nSl (dVar 0) oNone (oSome (dC (.int 63)))) [some (.klst (cs.map .int)), v1, v2] s = .ok (.lst ((cs.take 63).map .int)) s := by
    intro v1 v2 s
    simp [dFrz, nSl, dVar, oNone, oSome, dC, Res.bind, pk, hcut]
  generalize cs.take 63 = l at hsl
  have loop := runFor_inv (j := itL (.lst (l.map .int)) (l.map Dt.int).length) (g := gNm 2)
    (b := sSet 1 (dOp fMod (dCall fIntC (dCons (dOp fAdd (dOp fAdd (dOp fMul (dVar 1) (dC (.int 49999))) (dOp fMul (dOp fMod (dCall fIntC (dCons (dVar 2) dNil)) (dC (.int 1000037))) (dC (.int 883)))) (dC (.int 17))) dNil)) (dC (.int 2147483563))))
    (P := fun i env s' => s' = s ∧ ∃ a v2, env = [some (.klst (cs.map .int)), some (.int a), v2] ∧ 0 ≤ a ∧ a < 2147483563)
    (fun i env s' hi ⟨hs, a, v2, he, h1, h2⟩ => by
      subst hs he
      have hi : i < l.length := by simpa [itL] using hi
      have lit : ∀ c : Int, 0 ≤ c → c < 2 ^ 40 → c.natAbs < 2 ^ 1000000 := fun c h1 h2 => small_abs (n := 0) (by omega) (by omega)
      have m1 := Int.emod_nonneg l[i] (by omega : (1000037 : Int) ≠ 0)
      have m2 := Int.emod_lt_of_pos l[i] (by omega : (0 : Int) < 1000037)
      refine ⟨.int l[i], [some (.klst (cs.map .int)), some (.int a), some (.int l[i])], _, _, by simp [itL, pk, hi], rfl, sSet_ok (dOp_ok (call1_ok (dOp_ok (dOp_ok (dOp_ok (dVar_int (v := a) rfl) dC_ok (fMul_int (lit _ h1 (by omega)) (lit _ (by omega) (by omega)))) (dOp_ok (dOp_ok (call1_ok (dVar_int (v := l[i]) rfl) rfl) dC_ok (fMod_int (by omega))) dC_ok (fMul_int (lit _ m1 (by omega)) (lit _ (by omega) (by omega)))) fAdd_int) dC_ok fAdd_int) rfl) dC_ok (fMod_int (by omega))), rfl, _, some (.int l[i]), rfl, Int.emod_nonneg _ (by omega), Int.emod_lt_of_pos _ (by omega)⟩)
    (fun env s' ⟨hs, _⟩ => by simp [itL, pk]) l.length 0 [some (.klst (cs.map .int)), some (.int 5753), none] s (by simp [itL]) ⟨rfl, 5753, none, rfl, by omega, by omega⟩
  obtain ⟨env', s', e, rfl, a, v2, rfl, h1, h2⟩ := loop
  refine ⟨.lst [.lst (l.map .int), .int 0, .int 0, .int a, .int 0], ?_, l, 0, 0, a, 0, rfl, by omega, by omega, h1, by omega, by omega, by omega⟩
  have key : bodyF 3 1 d_l_bag [.klst (cs.map .int)] s' = .ok (.ref s'.length) (s' ++ [.lst [.lst (l.map .int), .int 0, .int 0, .int a, .int 0]]) := by
    rw [show bodyF 3 1 d_l_bag [.klst (cs.map .int)] s' = bodyR (d_l_bag [some (.klst (cs.map .int)), none, none] s') from bodyF_eq rfl]
    unfold d_l_bag
    rw [sSeq_nx (sSet_ok dC_ok)]
    rw [sSeq_nx (env' := [some (.klst (cs.map .int)), some (.int a), v2]) (s' := s')]
    · have hl : dFrz (nCall fList (dCons (dFrz (nSl (dVar 0) oNone (oSome (dC (.int 63))))) dNil)) [some (.klst (cs.map .int)), some (.int a), v2] s' = .ok (.lst (l.map .int)) s' := frzCall1 (hsl _ _ _) rfl
      simp [sRet, andS, dCel, nLst, dCons, dNil, dC, hl, Res.bind, dVar, bodyR, sizeLine_eq]
    · show andS _ _ _ = _
      simp only [iLst, List.set, hsl, Res.bind, pk, andS]
      have hn : (itL (.lst (l.map .int)) (l.map Dt.int).length).n = l.length := by simp [itL]
      rw [hn]
      exact e
  show cutR s' _ = _
  rw [key]
  unfold cutR
  simp [clean]
end D
end

section
set_option maxHeartbeats 4000000
namespace D
open PySem L2
theorem fn2_ok {a b : DE} {env : Env} {s s' : S} {x y z : Dt} {g : DF} (h1 : a env s = .ok x s) (h2 : b env s = .ok y s) (hg : g [x, y] s = .ok z s') : dFn 2 g (dCons a (dCons b dNil)) env s = .ok z s' := by
  simp [dFn, dCons, dNil, h1, h2, Res.bind, hg]
theorem atI_nat {xs : List Dt} {r : Int} (h0 : 0 ≤ r) (h1 : r < xs.length) : ∃ x, atI xs r = some x ∧ x ∈ xs := by
  have hlt : r.toNat < xs.length := by omega
  refine ⟨xs[r.toNat], ?_, List.getElem_mem hlt⟩
  unfold atI ixN
  rw [if_pos h0, if_pos (by simpa using h1)]
  simp [hlt]
theorem of_spec {s : S} {k n : Nat} {c : Cl} {xs : List Dt} (hs : s[k]? = some c) (hb : Bag n c) (hn : n < 2 ^ 40) (h0 : xs ≠ []) (hz : xs.length < 2 ^ 40) :
    ∃ x c', f_l_of [.ref k, .lst xs] s = .ok x (s.set k c') ∧ x ∈ xs ∧ Bag (n + 1) c' := by
  have hpos : 0 < xs.length := List.length_pos_iff.mpr h0
  obtain ⟨r, c', e, h1, h2, hb'⟩ := pull_spec (m := xs.length) hs hb hn (by omega) (by omega)
  obtain ⟨x, hx, hm⟩ := atI_nat h1 h2
  refine ⟨x, c', ?_, hm, hb'⟩
  have hds : ∃ ds, c = .lst ds := by
    obtain ⟨_, _, _, _, _, rfl, _⟩ := hb
    exact ⟨_, rfl⟩
  obtain ⟨ds, rfl⟩ := hds
  show cutR s (bodyF 2 2 d_l_of [.ref k, .lst xs] s) = _
  rw [show bodyF 2 2 d_l_of [.ref k, .lst xs] s = bodyR (d_l_of [some (.ref k), some (.lst xs)] s) from bodyF_eq rfl]
  unfold d_l_of
  have e1 : dCall fLen (dCons (dVar 1) dNil) [some (.ref k), some (.lst xs)] s = .ok (.int xs.length) s := call1_ok (x := .lst xs) rfl (by simp [fLen, pk])
  have e2 : dFn 2 f_l_pull (dCons (dVar 0) (dCons (dCall fLen (dCons (dVar 1) dNil)) dNil)) [some (.ref k), some (.lst xs)] s = .ok (.int r) (s.set k c') := fn2_ok (dVar_ref rfl hs) e1 e
  have e3 : dOp fSub' (dVar 1) (dFn 2 f_l_pull (dCons (dVar 0) (dCons (dCall fLen (dCons (dVar 1) dNil)) dNil))) [some (.ref k), some (.lst xs)] s = .ok x (s.set k c') := by
    unfold dOp
    rw [show dVar 1 [some (.ref k), some (.lst xs)] s = .ok (.lst xs) s from rfl]
    simp only [Res.bind, e2]
    simp [fSub', isDctD, pk, fSubS, hx, ofO]
  simp only [sRet, e3, andS, bodyR]
  exact cutR_len List.length_set
end D
end

section
set_option maxHeartbeats 4000000
namespace D
open PySem L2
theorem toPys_ints (l : List Int) : toPys (l.map .int) = some (l.map .int) := by
  induction l with
  | nil => rfl
  | cons x l ih => simp [toPys, toPy, ih]
theorem lay_ints (l : List Int) : PyData.canLayAll0 (l.map .int) = true ∧ PyData.depthAll (l.map .int) ≤ 1 := by
  induction l with
  | nil => simp [PyData.canLayAll0, PyData.depthAll]
  | cons x l ih => simp [PyData.canLayAll0, PyData.depthAll, PyData.canLay0, PyData.depth, ih.1]; exact ih.2
theorem okD_ints (l : List Int) : okD (.list (l.map .int)) = true := by
  refine okD_list.mpr ⟨(lay_ints l).1, ?_⟩
  have := (lay_ints l).2
  simp only [PyData.depth]
  omega
theorem fNe_nil {s : S} {k : Nat} {l : List Int} (h : s[k]? = some (.lst (l.map .int))) : fNe (.ref k) (.lst []) s = some (.bl (!l.isEmpty)) := by
  have h1 := okD_ints l
  have h2 : okD (.list []) = true := okD_ints []
  cases l with
  | nil => simp [fNe, pk, h, toPy, toPys, h2, PyData.eqv, PyData.eqvAll]
  | cons x l => 
    have : toPys (Dt.int x :: l.map .int) = some (PyData.int x :: l.map .int) := toPys_ints (x :: l)
    simp only [List.map_cons] at h h1
    have e1 : toPy (pk s (.ref k)) = some (.list (PyData.int x :: l.map .int)) := by
      simp only [pk, h]
      rw [toPy, this]
    have e2 : toPy (pk s (.lst [])) = some (.list []) := rfl
    unfold fNe
    rw [e1, e2]
    simp [h1, h2, PyData.eqv, PyData.eqvAll]
theorem eraseIdx_map' {α β : Type} (f : α → β) : ∀ (l : List α) (i : Nat), (l.map f).eraseIdx i = (l.eraseIdx i).map f
  | [], i => by simp
  | x :: l, 0 => by simp
  | x :: l, i + 1 => by simp [eraseIdx_map' f l i]
/-- one round of mixed -/
theorem mixed_loop {s : S} {k : Nat} {d1 : Dt} (hk : k < s.length) : ∀ (m n : Nat) (left found : List Int) (c : Cl), left.length = m → Bag n c → n + m < 2 ^ 40 → found.length + m ≤ 1000 →
    ∃ (fin : List Int) (c' : Cl), whl (tst (dOp fNe (dVar 2) (dFrz (nLst dNil)))) (sExp (dApp (dVar 3) (dPopAt (dVar 2) (dFn 2 f_l_pull (dCons (dVar 0) (dCons (dCall fLen (dCons (dVar 2) dNil)) dNil)))))) (m + 1)
      [some (.ref k), some d1, some (.ref s.length), some (.ref (s.length + 1))] (s.set k c ++ [.lst (left.map .int), .lst (found.map .int)])
      = .nx [some (.ref k), some d1, some (.ref s.length), some (.ref (s.length + 1))] (s.set k c' ++ [.lst [], .lst (fin.map .int)]) ∧ (∀ x ∈ fin, x ∈ left ∨ x ∈ found) ∧ Bag (n + m) c'
  | 0, n, left, found, c, hm, hb, hn, hf => by
    have : left = [] := List.length_eq_zero_iff.mp hm
    subst this
    refine ⟨found, c, ?_, fun x h => .inr h, hb⟩
    have g2 : (s.set k c ++ [Cl.lst [], Cl.lst (found.map .int)])[s.length]? = some (.lst (([] : List Int).map .int)) := by
      rw [List.getElem?_append_right (by simp)]; simp
    have t := tst_ok (v := false) (dOp_ok (f := fNe) (dVar_ref (env := [some (.ref k), some d1, some (.ref s.length), some (.ref (s.length + 1))]) (i := 2) rfl g2) (db := dFrz (nLst dNil)) (y := .lst []) (by simp [dFrz, nLst, dNil, Res.bind, sizeLine_eq]) (fNe_nil g2))
    simp only [whl, List.map_nil]
    rw [t]
    rfl
  | m + 1, n, left, found, c, hm, hb, hn, hf => by
    have g2 : (s.set k c ++ [Cl.lst (left.map .int), Cl.lst (found.map .int)])[s.length]? = some (.lst (left.map .int)) := by
      rw [List.getElem?_append_right (by simp)]; simp
    have hne : left.isEmpty = false := by cases left <;> simp at hm ⊢
    have t := tst_ok (v := true) (dOp_ok (f := fNe) (dVar_ref (env := [some (.ref k), some d1, some (.ref s.length), some (.ref (s.length + 1))]) (i := 2) rfl g2) (db := dFrz (nLst dNil)) (y := .lst []) (by simp [dFrz, nLst, dNil, Res.bind, sizeLine_eq]) (by rw [fNe_nil g2, hne]; rfl))
    have g0 : (s.set k c ++ [Cl.lst (left.map .int), Cl.lst (found.map .int)])[k]? = some c := by
      rw [List.getElem?_append_left (by simpa using hk), List.getElem?_set_self hk]
    obtain ⟨r, c1, e, h1, h2, hb1⟩ := pull_spec (m := left.length) g0 hb (by omega) (by omega) (by omega)
    have es : (s.set k c ++ [Cl.lst (left.map .int), Cl.lst (found.map .int)]).set k c1 = s.set k c1 ++ [Cl.lst (left.map .int), Cl.lst (found.map .int)] := by
      rw [List.set_append_left _ _ (by simpa using hk), List.set_set]
    rw [es] at e
    have hlt : r.toNat < left.length := by omega
    have hb3 : ∃ ds, c = .lst ds := by
      obtain ⟨_, _, _, _, _, rfl, _⟩ := hb
      exact ⟨_, rfl⟩
    obtain ⟨dsc, rfl⟩ := hb3
    have p := fn2_ok (dVar_ref (env := [some (.ref k), some d1, some (.ref s.length), some (.ref (s.length + 1))]) (i := 0) rfl g0) (call1_ok (g := fLen) (d := dVar 2) (z := .int left.length) (dVar_ref rfl g2) (by simp [fLen, pk, g2])) e
    have q2 : (s.set k c1 ++ [Cl.lst (left.map .int), Cl.lst (found.map .int)])[s.length]? = some (.lst (left.map .int)) := by
      rw [List.getElem?_append_right (by simp)]; simp
    have q4 : ixN (left.map Dt.int).length r = some r.toNat := by
      unfold ixN
      rw [if_pos h1, if_pos (by simpa using h2)]
    have hr : rngB r = true := by
      unfold rngB
      simp only [Bool.and_eq_true, decide_eq_true_eq]
      omega
    have pop : dPopAt (dVar 2) (dFn 2 f_l_pull (dCons (dVar 0) (dCons (dCall fLen (dCons (dVar 2) dNil)) dNil))) [some (.ref k), some d1, some (.ref s.length), some (.ref (s.length + 1))] (s.set k (.lst dsc) ++ [.lst (left.map .int), .lst (found.map .int)])
        = .ok (.int left[r.toNat]) (s.set k c1 ++ [.lst ((left.eraseIdx r.toNat).map .int), .lst (found.map .int)]) := by
      unfold dPopAt
      rw [dVar_ref (env := [some (.ref k), some d1, some (.ref s.length), some (.ref (s.length + 1))]) (i := 2) rfl g2]
      simp only [Res.bind]
      rw [p]
      simp only [q2, hr, if_true, q4]
      have : (left.map Dt.int)[r.toNat]? = some (.int left[r.toNat]) := by simp [hlt]
      simp only [this, tl, g2, Option.isSome_some, if_true]
      congr 1
      rw [List.set_append_right _ _ (by simp)]
      simp [eraseIdx_map']
    have g3 : (s.set k (.lst dsc) ++ [Cl.lst (left.map .int), Cl.lst (found.map .int)])[s.length + 1]? = some (.lst (found.map .int)) := by
      rw [List.getElem?_append_right (by simp)]; simp
    have g4 : (s.set k c1 ++ [Cl.lst ((left.eraseIdx r.toNat).map .int), Cl.lst (found.map .int)])[s.length + 1]? = some (.lst (found.map .int)) := by
      rw [List.getElem?_append_right (by simp)]; simp
    have app : sExp (dApp (dVar 3) (dPopAt (dVar 2) (dFn 2 f_l_pull (dCons (dVar 0) (dCons (dCall fLen (dCons (dVar 2) dNil)) dNil))))) [some (.ref k), some d1, some (.ref s.length), some (.ref (s.length + 1))] (s.set k (.lst dsc) ++ [.lst (left.map .int), .lst (found.map .int)])
        = .nx [some (.ref k), some d1, some (.ref s.length), some (.ref (s.length + 1))] (s.set k c1 ++ [.lst ((left.eraseIdx r.toNat).map .int), .lst ((found ++ [left[r.toNat]]).map .int)]) := by
      unfold sExp dApp
      rw [dVar_ref (env := [some (.ref k), some d1, some (.ref s.length), some (.ref (s.length + 1))]) (i := 3) rfl g3]
      simp only [Res.bind, tl, g3, Option.isSome_some, if_true]
      rw [pop]
      simp only [g4]
      rw [if_pos (by simp [sizeLine_eq]; omega)]
      simp only [andS]
      congr 1
      rw [List.set_append_right _ _ (by simp)]
      simp
    obtain ⟨fin, c', ih, hin, hb'⟩ := mixed_loop (s := s) (d1 := d1) hk m (n + 1) (left.eraseIdx r.toNat) (found ++ [left[r.toNat]]) c1 (by rw [List.length_eraseIdx_of_lt hlt]; omega) hb1 (by omega) (by simp; omega)
    refine ⟨fin, c', ?_, fun x hx => ?_, by rw [show n + (m + 1) = n + 1 + m by omega]; exact hb'⟩
    · unfold whl
      simp only [t, andS, if_true, app]
      exact ih
    · rcases hin x hx with h | h
      · exact .inl (List.mem_of_mem_eraseIdx h)
      · rcases List.mem_append.mp h with h | h
        · exact .inr h
        · rw [List.mem_singleton.mp h]
          exact .inl (List.getElem_mem hlt)
theorem mixed_spec {s : S} {k n : Nat} {c : Cl} {l : List Int} (hs : s[k]? = some c) (hb : Bag n c) (hn : n + l.length < 2 ^ 40) (hl : l.length ≤ 1000) :
    ∃ (fin : List Int) (c' : Cl), f_l_mixed [.ref k, .lst (l.map .int)] s = .ok (.lst (fin.map .int)) (s.set k c') ∧ (∀ x ∈ fin, x ∈ l) ∧ Bag (n + l.length) c' := by
  have hk : k < s.length := (List.getElem?_eq_some_iff.mp hs).1
  obtain ⟨fin, c', e, hin, hb'⟩ := mixed_loop (s := s) (d1 := .lst (l.map .int)) hk l.length n l [] c rfl hb hn (by simpa using hl)
  refine ⟨fin, c', ?_, fun x hx => (hin x hx).resolve_right (by simp), hb'⟩
  have hself : s.set k c = s := by
    apply List.ext_getElem?
    intro j
    by_cases hj : k = j
    · subst hj
      rw [List.getElem?_set_self hk, hs]
    · rw [List.getElem?_set_ne hj]
  rw [hself] at e
  have w := sWhile_eq e (by simp)
  have key : bodyF 4 2 d_l_mixed [.ref k, .lst (l.map .int)] s = .ok (.lst (fin.map .int)) (s.set k c' ++ [.lst [], .froz (.lst (fin.map .int))]) := by
    rw [show bodyF 4 2 d_l_mixed [.ref k, .lst (l.map .int)] s = bodyR (d_l_mixed [some (.ref k), some (.lst (l.map .int)), none, none] s) from bodyF_eq rfl]
    unfold d_l_mixed
    rw [sSeq_nx (env' := [some (.ref k), some (.lst (l.map .int)), some (.ref s.length), some (.ref (s.length + 1))]) (s' := s ++ [.lst (l.map .int), .lst []]) (by simp [sPar, dCons, dNil, dCel, nCall, nLst, dVar, Res.bind, fList, pk, nOfO, andS, sizeLine_eq])]
    rw [sSeq_nx (by simpa using w)]
    have g : (s.set k c' ++ [Cl.lst [], Cl.lst (fin.map .int)])[s.length + 1]? = some (.lst (fin.map .int)) := by
      rw [List.getElem?_append_right (by simp)]; simp
    unfold sRet dFz
    rw [dVar_ref (env := [some (.ref k), some (.lst (l.map .int)), some (.ref s.length), some (.ref (s.length + 1))]) (i := 3) rfl g]
    simp only [Res.bind, frzR, g, andS, bodyR]
    congr 1
    rw [List.set_append_right _ _ (by simp)]
    simp
  show cutR s _ = _
  rw [key]
  exact cutR_mut List.length_set (by simpa only [clean] using clean_ints _ _) fun j cl hj => by
    by_cases hjk : k = j
    · subst hjk
      rw [List.getElem?_set_self hk] at hj
      cases hj
      right
      obtain ⟨cs, a1, a2, a3, a4, rfl, _⟩ := hb'
      simp [cleanC, cleans, clean, clean_ints]
    · left
      rwa [List.getElem?_set_ne hjk] at hj
end D
end

section
set_option maxHeartbeats 4000000
namespace D
open PySem L2
noncomputable def bA : DS := (sAsg (dOp fSub' (dVar 4) (dVar 5)) (gTp [(gNm 6), (gNm 7), (gNm 8)]))
noncomputable def bB : DS := (sSet 9 (dIf (tst (dOp fIn (dVar 7) (dTup (dCons (dC (.str "Unlike")) (dCons (dC (.str "NothingLeft")) dNil))))) (dTup dNil) (dTup (dCons (dVar 8) dNil))))
noncomputable def bC : DS := (sIf (tOr (tNot (tst (dFn 2 (f_l_same 8) (dCons (dFrz (nLst (dCons (dAtt tabA "code" (dVar 6)) (dCons (dFn 1 f_l_field (dCons (dVar 6) dNil)) dNil)))) (dCons (dFrz (nLst (dCons (dVar 7) (dCons (dVar 9) dNil)))) dNil))))) (tst (dOp fNe (dFn 1 f_l_kinds (dCons (dVar 6) dNil)) (lcF (iR1 (dCons (dC (.int 19)) dNil)) (gNm 11) dYes (dOp fEq (dVar 11) (dVar 5)) [11])))) (sRet (dC (.bl false))) sNext)
noncomputable def bD : DS := (sSeq (sSet 10 (dFrz (nLst (dCons (dCall (fIs tabK) (dCons (dVar 6) (dCons (dC (.cls "InkError")) dNil))) (dCons (dCall (fIs tabK) (dCons (dVar 6) (dCons (dC (.raw (.ty "ValueError"))) dNil))) (dCons (dCall (fIs tabK) (dCons (dVar 6) (dCons (dC (.cls "Missing")) dNil))) (dCons (dCall (fIs tabK) (dCons (dVar 6) (dCons (dC (.raw (.ty "LookupError"))) dNil))) dNil))))))) (sIf (tOr (tst (dOp fNe (dVar 10) (dFrz (nLst (dCons (dOp fLt (dVar 5) (dC (.int 16))) (dCons (dOp fLt (dVar 5) (dC (.int 16))) (dCons (dOp fEq (dVar 5) (dC (.int 16))) (dCons (dOp fGt (dVar 5) (dC (.int 15))) dNil)))))))) (tst (dOp fNe (dCall (fIs tabK) (dCons (dVar 6) (dCons (dC (.raw (.ty "IndexError"))) dNil))) (dOp fEq (dVar 5) (dC (.int 17)))))) (sRet (dC (.bl false))) sNext))
noncomputable def bAll : DS := (sSeq bA (sSeq bB (sSeq bC bD)))
def e0 (far : Int) (x : Str) : Dt := .exn "InvalidInk" (x_InvalidInk [.int far])
def e1 (far : Int) (x : Str) : Dt := .exn "InvalidRow" (x_InvalidRow [.int far])
def e2 (far : Int) (x : Str) : Dt := .exn "InvalidEdge" (x_InvalidEdge [.tup [.int far, .int 1]])
def e3 (far : Int) (x : Str) : Dt := .exn "InvalidOrder" (x_InvalidOrder [.str x])
def e4 (far : Int) (x : Str) : Dt := .exn "InvalidNumber" (x_InvalidNumber [.int far])
def e5 (far : Int) (x : Str) : Dt := .exn "InvalidDeeds" (x_InvalidDeeds [.tup [.int far, .int 1]])
def e6 (far : Int) (x : Str) : Dt := .exn "InvalidText" (x_InvalidText [.int far])
def e7 (far : Int) (x : Str) : Dt := .exn "InvalidName" (x_InvalidName [.str x])
def e8 (far : Int) (x : Str) : Dt := .exn "InvalidCommand" (x_InvalidCommand [.int far])
def e9 (far : Int) (x : Str) : Dt := .exn "InvalidLimit" (x_InvalidLimit [.int far])
def e10 (far : Int) (x : Str) : Dt := .exn "InvalidPage" (x_InvalidPage [.int far])
def e11 (far : Int) (x : Str) : Dt := .exn "Unlike" (x_Unlike [])
def e12 (far : Int) (x : Str) : Dt := .exn "TooDeep" (x_TooDeep [.int far])
def e13 (far : Int) (x : Str) : Dt := .exn "Circular" (x_Circular [.str x])
def e14 (far : Int) (x : Str) : Dt := .exn "InUse" (x_InUse [.str x])
def e15 (far : Int) (x : Str) : Dt := .exn "Full" (x_Full [.int far])
def e16 (far : Int) (x : Str) : Dt := .exn "UnknownName" (x_UnknownName [.str x])
def e17 (far : Int) (x : Str) : Dt := .exn "NothingLeft" (x_NothingLeft [])
def pairs (far : Int) (x : Str) : List Dt := [.tup [e0 far x, .str "InvalidInk", .int far], .tup [e1 far x, .str "InvalidRow", .int far], .tup [e2 far x, .str "InvalidEdge", .tup [.int far, .int 1]], .tup [e3 far x, .str "InvalidOrder", .str x], .tup [e4 far x, .str "InvalidNumber", .int far], .tup [e5 far x, .str "InvalidDeeds", .tup [.int far, .int 1]], .tup [e6 far x, .str "InvalidText", .int far], .tup [e7 far x, .str "InvalidName", .str x], .tup [e8 far x, .str "InvalidCommand", .int far], .tup [e9 far x, .str "InvalidLimit", .int far], .tup [e10 far x, .str "InvalidPage", .int far], .tup [e11 far x, .str "Unlike", .non], .tup [e12 far x, .str "TooDeep", .int far], .tup [e13 far x, .str "Circular", .str x], .tup [e14 far x, .str "InUse", .str x], .tup [e15 far x, .str "Full", .int far], .tup [e16 far x, .str "UnknownName", .str x], .tup [e17 far x, .str "NothingLeft", .non]]
def knd (i : Int) : List Dt := ((List.range 19).map fun j : Nat => Dt.int j).map fun d => match d with
  | .int j => .bl (j == i)
  | d => d
theorem field_ok {ds : List Dt} {s : S} {d : Dt} (h : bodyF 1 1 d_l_field ds s = .ok d s) : f_l_field ds s = .ok d s := by
  show cutR s _ = _
  exact cut_id h
theorem kinds_ok {ds : List Dt} {s : S} {d : Dt} (h : bodyF 2 1 d_l_kinds ds s = .ok d s) : f_l_kinds ds s = .ok d s := by
  show cutR s _ = _
  exact cut_id h
theorem firsts_ok {ds : List Dt} {s : S} {d : Dt} (h : bodyF 3 3 d_l_first_errors ds s = .ok d s) : f_l_first_errors ds s = .ok d s := by
  show cutR s _ = _
  exact cut_id h
theorem first_ok {far : Int} {x : Str} {s : S} : f_l_first_errors [.int far, .str x, .tup [.int far, .int 1]] s = .ok (.lst (pairs far x)) s := firsts_ok (by kernel_rfl)
theorem lc19 {d0 d4 : Option Dt} {i : Int} {d1 d2 d3 d6 d7 d8 d9 d10 d11 : Option Dt} {s : S} :
    lcF (iR1 (dCons (dC (.int 19)) dNil)) (gNm 11) dYes (dOp fEq (dVar 11) (dVar 5)) [11] [d0, d1, d2, d3, d4, some (.int i), d6, d7, d8, d9, d10, d11] s = .ok (.lst (knd i)) s := by
  refine lcF_map (j := itR 0 19) (xs := (List.range 19).map fun j : Nat => Dt.int j) (by simp [iR1, dCons, dNil, dC, Res.bind, rngB]) (by simp [itR]) (fun s i x h => ?_) (fun s => rfl) (by simp [sizeLine_eq]) (fun acc x hx => ?_) (by kernel_rfl)
  · rw [List.getElem?_map] at h
    obtain ⟨y, hy, rfl⟩ := Option.map_eq_some_iff.mp h
    have := List.getElem?_eq_some_iff.mp hy
    obtain ⟨hl, e⟩ := this
    simp at e
    subst e
    simp [itR]
  · obtain ⟨j, hj, rfl⟩ := List.mem_map.mp hx
    refine ⟨[d0, d1, d2, d3, d4, some (.int i), d6, d7, d8, d9, d10, some (.int j)], rfl, rfl, ?_⟩
    exact dOp_ok (dVar_int rfl) (dVar_int rfl) fEq_int
theorem pl_tup1 {n : Nat} {d : Dt} (h : Pl n d) : Pl (n + 1) (.tup [d]) := .tup n [d] (fun x hx => by rw [List.mem_singleton.mp hx]; exact h) (by simp [sizeLine_eq])
theorem pl_tup0 {n : Nat} : Pl (n + 1) (.tup []) := .tup n [] (fun x hx => by cases hx) (by simp [sizeLine_eq])
theorem pl_tup2 {n : Nat} {d e : Dt} (h : Pl n d) (k : Pl n e) : Pl (n + 1) (.tup [d, e]) := .tup n [d, e] (fun x hx => by
  rcases List.mem_cons.mp hx with rfl | hx
  · exact h
  · rw [List.mem_singleton.mp hx]; exact k) (by simp [sizeLine_eq])
theorem pl_lst2 {n : Nat} {d e : Dt} (h : Pl n d) (k : Pl n e) : Pl (n + 1) (.lst [d, e]) := .lst n [d, e] (fun x hx => by
  rcases List.mem_cons.mp hx with rfl | hx
  · exact h
  · rw [List.mem_singleton.mp hx]; exact k) (by simp [sizeLine_eq])
/-- the test in the middle -/
theorem mid {env : Env} {s : S} {e title fl ks : Dt} (h1 : dAtt tabA "code" (dVar 6) env s = .ok title s) (h6 : dVar 6 env s = .ok e s) (h2 : f_l_field [e] s = .ok fl s) (h7 : dVar 7 env s = .ok title s) (h9 : dVar 9 env s = .ok fl s)
    (hp : Pl 8 (.lst [title, fl])) (h3 : f_l_kinds [e] s = .ok ks s) (hl : lcF (iR1 (dCons (dC (.int 19)) dNil)) (gNm 11) dYes (dOp fEq (dVar 11) (dVar 5)) [11] env s = .ok ks s) (hn : fNe ks ks s = some (.bl false)) : bC env s = .nx env s := by
  unfold bC
  have a1 : dFn 1 f_l_field (dCons (dVar 6) dNil) env s = .ok fl s := by simp [dFn, dCons, dNil, h6, Res.bind, h2]
  have a2 : dFn 1 f_l_kinds (dCons (dVar 6) dNil) env s = .ok ks s := by simp [dFn, dCons, dNil, h6, Res.bind, h3]
  have a3 : dFn 2 (f_l_same 8) (dCons (dFrz (nLst (dCons (dAtt tabA "code" (dVar 6)) (dCons (dFn 1 f_l_field (dCons (dVar 6) dNil)) dNil)))) (dCons (dFrz (nLst (dCons (dVar 7) (dCons (dVar 9) dNil)))) dNil)) env s = .ok (.bl true) s :=
    fn2_ok (x := .lst [title, fl]) (y := .lst [title, fl]) (by simp [dFrz, nLst, dCons, dNil, h1, a1, Res.bind, sizeLine_eq]) (by simp [dFrz, nLst, dCons, dNil, h7, h9, Res.bind, sizeLine_eq]) (same_true hp s)
  have a4 := tst_ok (dOp_ok (f := fNe) a2 hl hn)
  rw [sIf_f]
  · rfl
  · simp [tOr, tNot, tst_ok a3, Res.bind, a4]
theorem spot_join {e0 e1 e2 e3 : Env} {s : S} (h1 : bA e0 s = .nx e1 s) (h2 : bB e1 s = .nx e2 s) (h3 : bC e2 s = .nx e2 s) (h4 : bD e2 s = .nx e3 s) : bAll e0 s = .nx e3 s := by
  unfold bAll
  rw [sSeq_nx h1, sSeq_nx h2, sSeq_nx h3, h4]
section
variable {far : Int} {x : Str} {k : Nat} {s : S} {d0 d5 d6 d7 d8 d9 d10 d11 : Option Dt}
abbrev ev (far : Int) (x : Str) (k : Nat) (d0 d5 d6 d7 d8 d9 d10 d11 : Option Dt) : Env := [d0, some (.ref k), some (.int far), some (.str x), some (.lst (pairs far x)), d5, d6, d7, d8, d9, d10, d11]
theorem spot0 (hx : okD (.str x) = true) : bAll (ev far x k d0 (some (.int 0)) d6 d7 d8 d9 d10 d11) s = .nx (ev far x k d0 (some (.int 0)) (some (e0 far x)) (some (.str "InvalidInk")) (some (.int far)) (some (.tup [.int far])) (some (.lst [.bl true, .bl true, .bl false, .bl false])) d11) s :=
  spot_join (e1 := ev far x k d0 (some (.int 0)) (some (e0 far x)) (some (.str "InvalidInk")) (some (.int far)) d9 d10 d11) (e2 := ev far x k d0 (some (.int 0)) (some (e0 far x)) (some (.str "InvalidInk")) (some (.int far)) (some (.tup [.int far])) d10 d11) (by kernel_rfl) (by kernel_rfl)
    (mid (e := e0 far x) (title := .str "InvalidInk") (fl := .tup [.int far]) (ks := .lst (knd 0)) (by kernel_rfl) (by kernel_rfl) (field_ok (by kernel_rfl)) (by kernel_rfl) (by kernel_rfl) (pl_lst2 (.str 6 _ (by decide +kernel)) (pl_tup1 (.int 5 far))) (kinds_ok (by kernel_rfl)) lc19 (by kernel_rfl)) (by kernel_rfl)
theorem spot1 (hx : okD (.str x) = true) : bAll (ev far x k d0 (some (.int 1)) d6 d7 d8 d9 d10 d11) s = .nx (ev far x k d0 (some (.int 1)) (some (e1 far x)) (some (.str "InvalidRow")) (some (.int far)) (some (.tup [.int far])) (some (.lst [.bl true, .bl true, .bl false, .bl false])) d11) s :=
  spot_join (e1 := ev far x k d0 (some (.int 1)) (some (e1 far x)) (some (.str "InvalidRow")) (some (.int far)) d9 d10 d11) (e2 := ev far x k d0 (some (.int 1)) (some (e1 far x)) (some (.str "InvalidRow")) (some (.int far)) (some (.tup [.int far])) d10 d11) (by kernel_rfl) (by kernel_rfl)
    (mid (e := e1 far x) (title := .str "InvalidRow") (fl := .tup [.int far]) (ks := .lst (knd 1)) (by kernel_rfl) (by kernel_rfl) (field_ok (by kernel_rfl)) (by kernel_rfl) (by kernel_rfl) (pl_lst2 (.str 6 _ (by decide +kernel)) (pl_tup1 (.int 5 far))) (kinds_ok (by kernel_rfl)) lc19 (by kernel_rfl)) (by kernel_rfl)
theorem spot2 (hx : okD (.str x) = true) : bAll (ev far x k d0 (some (.int 2)) d6 d7 d8 d9 d10 d11) s = .nx (ev far x k d0 (some (.int 2)) (some (e2 far x)) (some (.str "InvalidEdge")) (some (.tup [.int far, .int 1])) (some (.tup [.tup [.int far, .int 1]])) (some (.lst [.bl true, .bl true, .bl false, .bl false])) d11) s :=
  spot_join (e1 := ev far x k d0 (some (.int 2)) (some (e2 far x)) (some (.str "InvalidEdge")) (some (.tup [.int far, .int 1])) d9 d10 d11) (e2 := ev far x k d0 (some (.int 2)) (some (e2 far x)) (some (.str "InvalidEdge")) (some (.tup [.int far, .int 1])) (some (.tup [.tup [.int far, .int 1]])) d10 d11) (by kernel_rfl) (by kernel_rfl)
    (mid (e := e2 far x) (title := .str "InvalidEdge") (fl := .tup [.tup [.int far, .int 1]]) (ks := .lst (knd 2)) (by kernel_rfl) (by kernel_rfl) (field_ok (by kernel_rfl)) (by kernel_rfl) (by kernel_rfl) (pl_lst2 (.str 6 _ (by decide +kernel)) (pl_tup1 (pl_tup2 (.int 4 far) (.int 4 1)))) (kinds_ok (by kernel_rfl)) lc19 (by kernel_rfl)) (by kernel_rfl)
theorem spot3 (hx : okD (.str x) = true) : bAll (ev far x k d0 (some (.int 3)) d6 d7 d8 d9 d10 d11) s = .nx (ev far x k d0 (some (.int 3)) (some (e3 far x)) (some (.str "InvalidOrder")) (some (.str x)) (some (.tup [.str x])) (some (.lst [.bl true, .bl true, .bl false, .bl false])) d11) s :=
  spot_join (e1 := ev far x k d0 (some (.int 3)) (some (e3 far x)) (some (.str "InvalidOrder")) (some (.str x)) d9 d10 d11) (e2 := ev far x k d0 (some (.int 3)) (some (e3 far x)) (some (.str "InvalidOrder")) (some (.str x)) (some (.tup [.str x])) d10 d11) (by kernel_rfl) (by kernel_rfl)
    (mid (e := e3 far x) (title := .str "InvalidOrder") (fl := .tup [.str x]) (ks := .lst (knd 3)) (by kernel_rfl) (by kernel_rfl) (field_ok (by kernel_rfl)) (by kernel_rfl) (by kernel_rfl) (pl_lst2 (.str 6 _ (by decide +kernel)) (pl_tup1 (.str 5 x hx))) (kinds_ok (by kernel_rfl)) lc19 (by kernel_rfl)) (by kernel_rfl)
theorem spot4 (hx : okD (.str x) = true) : bAll (ev far x k d0 (some (.int 4)) d6 d7 d8 d9 d10 d11) s = .nx (ev far x k d0 (some (.int 4)) (some (e4 far x)) (some (.str "InvalidNumber")) (some (.int far)) (some (.tup [.int far])) (some (.lst [.bl true, .bl true, .bl false, .bl false])) d11) s :=
  spot_join (e1 := ev far x k d0 (some (.int 4)) (some (e4 far x)) (some (.str "InvalidNumber")) (some (.int far)) d9 d10 d11) (e2 := ev far x k d0 (some (.int 4)) (some (e4 far x)) (some (.str "InvalidNumber")) (some (.int far)) (some (.tup [.int far])) d10 d11) (by kernel_rfl) (by kernel_rfl)
    (mid (e := e4 far x) (title := .str "InvalidNumber") (fl := .tup [.int far]) (ks := .lst (knd 4)) (by kernel_rfl) (by kernel_rfl) (field_ok (by kernel_rfl)) (by kernel_rfl) (by kernel_rfl) (pl_lst2 (.str 6 _ (by decide +kernel)) (pl_tup1 (.int 5 far))) (kinds_ok (by kernel_rfl)) lc19 (by kernel_rfl)) (by kernel_rfl)
theorem spot5 (hx : okD (.str x) = true) : bAll (ev far x k d0 (some (.int 5)) d6 d7 d8 d9 d10 d11) s = .nx (ev far x k d0 (some (.int 5)) (some (e5 far x)) (some (.str "InvalidDeeds")) (some (.tup [.int far, .int 1])) (some (.tup [.tup [.int far, .int 1]])) (some (.lst [.bl true, .bl true, .bl false, .bl false])) d11) s :=
  spot_join (e1 := ev far x k d0 (some (.int 5)) (some (e5 far x)) (some (.str "InvalidDeeds")) (some (.tup [.int far, .int 1])) d9 d10 d11) (e2 := ev far x k d0 (some (.int 5)) (some (e5 far x)) (some (.str "InvalidDeeds")) (some (.tup [.int far, .int 1])) (some (.tup [.tup [.int far, .int 1]])) d10 d11) (by kernel_rfl) (by kernel_rfl)
    (mid (e := e5 far x) (title := .str "InvalidDeeds") (fl := .tup [.tup [.int far, .int 1]]) (ks := .lst (knd 5)) (by kernel_rfl) (by kernel_rfl) (field_ok (by kernel_rfl)) (by kernel_rfl) (by kernel_rfl) (pl_lst2 (.str 6 _ (by decide +kernel)) (pl_tup1 (pl_tup2 (.int 4 far) (.int 4 1)))) (kinds_ok (by kernel_rfl)) lc19 (by kernel_rfl)) (by kernel_rfl)
theorem spot6 (hx : okD (.str x) = true) : bAll (ev far x k d0 (some (.int 6)) d6 d7 d8 d9 d10 d11) s = .nx (ev far x k d0 (some (.int 6)) (some (e6 far x)) (some (.str "InvalidText")) (some (.int far)) (some (.tup [.int far])) (some (.lst [.bl true, .bl true, .bl false, .bl false])) d11) s :=
  spot_join (e1 := ev far x k d0 (some (.int 6)) (some (e6 far x)) (some (.str "InvalidText")) (some (.int far)) d9 d10 d11) (e2 := ev far x k d0 (some (.int 6)) (some (e6 far x)) (some (.str "InvalidText")) (some (.int far)) (some (.tup [.int far])) d10 d11) (by kernel_rfl) (by kernel_rfl)
    (mid (e := e6 far x) (title := .str "InvalidText") (fl := .tup [.int far]) (ks := .lst (knd 6)) (by kernel_rfl) (by kernel_rfl) (field_ok (by kernel_rfl)) (by kernel_rfl) (by kernel_rfl) (pl_lst2 (.str 6 _ (by decide +kernel)) (pl_tup1 (.int 5 far))) (kinds_ok (by kernel_rfl)) lc19 (by kernel_rfl)) (by kernel_rfl)
theorem spot7 (hx : okD (.str x) = true) : bAll (ev far x k d0 (some (.int 7)) d6 d7 d8 d9 d10 d11) s = .nx (ev far x k d0 (some (.int 7)) (some (e7 far x)) (some (.str "InvalidName")) (some (.str x)) (some (.tup [.str x])) (some (.lst [.bl true, .bl true, .bl false, .bl false])) d11) s :=
  spot_join (e1 := ev far x k d0 (some (.int 7)) (some (e7 far x)) (some (.str "InvalidName")) (some (.str x)) d9 d10 d11) (e2 := ev far x k d0 (some (.int 7)) (some (e7 far x)) (some (.str "InvalidName")) (some (.str x)) (some (.tup [.str x])) d10 d11) (by kernel_rfl) (by kernel_rfl)
    (mid (e := e7 far x) (title := .str "InvalidName") (fl := .tup [.str x]) (ks := .lst (knd 7)) (by kernel_rfl) (by kernel_rfl) (field_ok (by kernel_rfl)) (by kernel_rfl) (by kernel_rfl) (pl_lst2 (.str 6 _ (by decide +kernel)) (pl_tup1 (.str 5 x hx))) (kinds_ok (by kernel_rfl)) lc19 (by kernel_rfl)) (by kernel_rfl)
theorem spot8 (hx : okD (.str x) = true) : bAll (ev far x k d0 (some (.int 8)) d6 d7 d8 d9 d10 d11) s = .nx (ev far x k d0 (some (.int 8)) (some (e8 far x)) (some (.str "InvalidCommand")) (some (.int far)) (some (.tup [.int far])) (some (.lst [.bl true, .bl true, .bl false, .bl false])) d11) s :=
  spot_join (e1 := ev far x k d0 (some (.int 8)) (some (e8 far x)) (some (.str "InvalidCommand")) (some (.int far)) d9 d10 d11) (e2 := ev far x k d0 (some (.int 8)) (some (e8 far x)) (some (.str "InvalidCommand")) (some (.int far)) (some (.tup [.int far])) d10 d11) (by kernel_rfl) (by kernel_rfl)
    (mid (e := e8 far x) (title := .str "InvalidCommand") (fl := .tup [.int far]) (ks := .lst (knd 8)) (by kernel_rfl) (by kernel_rfl) (field_ok (by kernel_rfl)) (by kernel_rfl) (by kernel_rfl) (pl_lst2 (.str 6 _ (by decide +kernel)) (pl_tup1 (.int 5 far))) (kinds_ok (by kernel_rfl)) lc19 (by kernel_rfl)) (by kernel_rfl)
theorem spot9 (hx : okD (.str x) = true) : bAll (ev far x k d0 (some (.int 9)) d6 d7 d8 d9 d10 d11) s = .nx (ev far x k d0 (some (.int 9)) (some (e9 far x)) (some (.str "InvalidLimit")) (some (.int far)) (some (.tup [.int far])) (some (.lst [.bl true, .bl true, .bl false, .bl false])) d11) s :=
  spot_join (e1 := ev far x k d0 (some (.int 9)) (some (e9 far x)) (some (.str "InvalidLimit")) (some (.int far)) d9 d10 d11) (e2 := ev far x k d0 (some (.int 9)) (some (e9 far x)) (some (.str "InvalidLimit")) (some (.int far)) (some (.tup [.int far])) d10 d11) (by kernel_rfl) (by kernel_rfl)
    (mid (e := e9 far x) (title := .str "InvalidLimit") (fl := .tup [.int far]) (ks := .lst (knd 9)) (by kernel_rfl) (by kernel_rfl) (field_ok (by kernel_rfl)) (by kernel_rfl) (by kernel_rfl) (pl_lst2 (.str 6 _ (by decide +kernel)) (pl_tup1 (.int 5 far))) (kinds_ok (by kernel_rfl)) lc19 (by kernel_rfl)) (by kernel_rfl)
theorem spot10 (hx : okD (.str x) = true) : bAll (ev far x k d0 (some (.int 10)) d6 d7 d8 d9 d10 d11) s = .nx (ev far x k d0 (some (.int 10)) (some (e10 far x)) (some (.str "InvalidPage")) (some (.int far)) (some (.tup [.int far])) (some (.lst [.bl true, .bl true, .bl false, .bl false])) d11) s :=
  spot_join (e1 := ev far x k d0 (some (.int 10)) (some (e10 far x)) (some (.str "InvalidPage")) (some (.int far)) d9 d10 d11) (e2 := ev far x k d0 (some (.int 10)) (some (e10 far x)) (some (.str "InvalidPage")) (some (.int far)) (some (.tup [.int far])) d10 d11) (by kernel_rfl) (by kernel_rfl)
    (mid (e := e10 far x) (title := .str "InvalidPage") (fl := .tup [.int far]) (ks := .lst (knd 10)) (by kernel_rfl) (by kernel_rfl) (field_ok (by kernel_rfl)) (by kernel_rfl) (by kernel_rfl) (pl_lst2 (.str 6 _ (by decide +kernel)) (pl_tup1 (.int 5 far))) (kinds_ok (by kernel_rfl)) lc19 (by kernel_rfl)) (by kernel_rfl)
theorem spot11 (hx : okD (.str x) = true) : bAll (ev far x k d0 (some (.int 11)) d6 d7 d8 d9 d10 d11) s = .nx (ev far x k d0 (some (.int 11)) (some (e11 far x)) (some (.str "Unlike")) (some (.non)) (some (.tup [])) (some (.lst [.bl true, .bl true, .bl false, .bl false])) d11) s :=
  spot_join (e1 := ev far x k d0 (some (.int 11)) (some (e11 far x)) (some (.str "Unlike")) (some (.non)) d9 d10 d11) (e2 := ev far x k d0 (some (.int 11)) (some (e11 far x)) (some (.str "Unlike")) (some (.non)) (some (.tup [])) d10 d11) (by kernel_rfl) (by kernel_rfl)
    (mid (e := e11 far x) (title := .str "Unlike") (fl := .tup []) (ks := .lst (knd 11)) (by kernel_rfl) (by kernel_rfl) (field_ok (by kernel_rfl)) (by kernel_rfl) (by kernel_rfl) (pl_lst2 (.str 6 _ (by decide +kernel)) (pl_tup0)) (kinds_ok (by kernel_rfl)) lc19 (by kernel_rfl)) (by kernel_rfl)
theorem spot12 (hx : okD (.str x) = true) : bAll (ev far x k d0 (some (.int 12)) d6 d7 d8 d9 d10 d11) s = .nx (ev far x k d0 (some (.int 12)) (some (e12 far x)) (some (.str "TooDeep")) (some (.int far)) (some (.tup [.int far])) (some (.lst [.bl true, .bl true, .bl false, .bl false])) d11) s :=
  spot_join (e1 := ev far x k d0 (some (.int 12)) (some (e12 far x)) (some (.str "TooDeep")) (some (.int far)) d9 d10 d11) (e2 := ev far x k d0 (some (.int 12)) (some (e12 far x)) (some (.str "TooDeep")) (some (.int far)) (some (.tup [.int far])) d10 d11) (by kernel_rfl) (by kernel_rfl)
    (mid (e := e12 far x) (title := .str "TooDeep") (fl := .tup [.int far]) (ks := .lst (knd 12)) (by kernel_rfl) (by kernel_rfl) (field_ok (by kernel_rfl)) (by kernel_rfl) (by kernel_rfl) (pl_lst2 (.str 6 _ (by decide +kernel)) (pl_tup1 (.int 5 far))) (kinds_ok (by kernel_rfl)) lc19 (by kernel_rfl)) (by kernel_rfl)
theorem spot13 (hx : okD (.str x) = true) : bAll (ev far x k d0 (some (.int 13)) d6 d7 d8 d9 d10 d11) s = .nx (ev far x k d0 (some (.int 13)) (some (e13 far x)) (some (.str "Circular")) (some (.str x)) (some (.tup [.str x])) (some (.lst [.bl true, .bl true, .bl false, .bl false])) d11) s :=
  spot_join (e1 := ev far x k d0 (some (.int 13)) (some (e13 far x)) (some (.str "Circular")) (some (.str x)) d9 d10 d11) (e2 := ev far x k d0 (some (.int 13)) (some (e13 far x)) (some (.str "Circular")) (some (.str x)) (some (.tup [.str x])) d10 d11) (by kernel_rfl) (by kernel_rfl)
    (mid (e := e13 far x) (title := .str "Circular") (fl := .tup [.str x]) (ks := .lst (knd 13)) (by kernel_rfl) (by kernel_rfl) (field_ok (by kernel_rfl)) (by kernel_rfl) (by kernel_rfl) (pl_lst2 (.str 6 _ (by decide +kernel)) (pl_tup1 (.str 5 x hx))) (kinds_ok (by kernel_rfl)) lc19 (by kernel_rfl)) (by kernel_rfl)
theorem spot14 (hx : okD (.str x) = true) : bAll (ev far x k d0 (some (.int 14)) d6 d7 d8 d9 d10 d11) s = .nx (ev far x k d0 (some (.int 14)) (some (e14 far x)) (some (.str "InUse")) (some (.str x)) (some (.tup [.str x])) (some (.lst [.bl true, .bl true, .bl false, .bl false])) d11) s :=
  spot_join (e1 := ev far x k d0 (some (.int 14)) (some (e14 far x)) (some (.str "InUse")) (some (.str x)) d9 d10 d11) (e2 := ev far x k d0 (some (.int 14)) (some (e14 far x)) (some (.str "InUse")) (some (.str x)) (some (.tup [.str x])) d10 d11) (by kernel_rfl) (by kernel_rfl)
    (mid (e := e14 far x) (title := .str "InUse") (fl := .tup [.str x]) (ks := .lst (knd 14)) (by kernel_rfl) (by kernel_rfl) (field_ok (by kernel_rfl)) (by kernel_rfl) (by kernel_rfl) (pl_lst2 (.str 6 _ (by decide +kernel)) (pl_tup1 (.str 5 x hx))) (kinds_ok (by kernel_rfl)) lc19 (by kernel_rfl)) (by kernel_rfl)
theorem spot15 (hx : okD (.str x) = true) : bAll (ev far x k d0 (some (.int 15)) d6 d7 d8 d9 d10 d11) s = .nx (ev far x k d0 (some (.int 15)) (some (e15 far x)) (some (.str "Full")) (some (.int far)) (some (.tup [.int far])) (some (.lst [.bl true, .bl true, .bl false, .bl false])) d11) s :=
  spot_join (e1 := ev far x k d0 (some (.int 15)) (some (e15 far x)) (some (.str "Full")) (some (.int far)) d9 d10 d11) (e2 := ev far x k d0 (some (.int 15)) (some (e15 far x)) (some (.str "Full")) (some (.int far)) (some (.tup [.int far])) d10 d11) (by kernel_rfl) (by kernel_rfl)
    (mid (e := e15 far x) (title := .str "Full") (fl := .tup [.int far]) (ks := .lst (knd 15)) (by kernel_rfl) (by kernel_rfl) (field_ok (by kernel_rfl)) (by kernel_rfl) (by kernel_rfl) (pl_lst2 (.str 6 _ (by decide +kernel)) (pl_tup1 (.int 5 far))) (kinds_ok (by kernel_rfl)) lc19 (by kernel_rfl)) (by kernel_rfl)
theorem spot16 (hx : okD (.str x) = true) : bAll (ev far x k d0 (some (.int 16)) d6 d7 d8 d9 d10 d11) s = .nx (ev far x k d0 (some (.int 16)) (some (e16 far x)) (some (.str "UnknownName")) (some (.str x)) (some (.tup [.str x])) (some (.lst [.bl false, .bl false, .bl true, .bl true])) d11) s :=
  spot_join (e1 := ev far x k d0 (some (.int 16)) (some (e16 far x)) (some (.str "UnknownName")) (some (.str x)) d9 d10 d11) (e2 := ev far x k d0 (some (.int 16)) (some (e16 far x)) (some (.str "UnknownName")) (some (.str x)) (some (.tup [.str x])) d10 d11) (by kernel_rfl) (by kernel_rfl)
    (mid (e := e16 far x) (title := .str "UnknownName") (fl := .tup [.str x]) (ks := .lst (knd 16)) (by kernel_rfl) (by kernel_rfl) (field_ok (by kernel_rfl)) (by kernel_rfl) (by kernel_rfl) (pl_lst2 (.str 6 _ (by decide +kernel)) (pl_tup1 (.str 5 x hx))) (kinds_ok (by kernel_rfl)) lc19 (by kernel_rfl)) (by kernel_rfl)
theorem spot17 (hx : okD (.str x) = true) : bAll (ev far x k d0 (some (.int 17)) d6 d7 d8 d9 d10 d11) s = .nx (ev far x k d0 (some (.int 17)) (some (e17 far x)) (some (.str "NothingLeft")) (some (.non)) (some (.tup [])) (some (.lst [.bl false, .bl false, .bl false, .bl true])) d11) s :=
  spot_join (e1 := ev far x k d0 (some (.int 17)) (some (e17 far x)) (some (.str "NothingLeft")) (some (.non)) d9 d10 d11) (e2 := ev far x k d0 (some (.int 17)) (some (e17 far x)) (some (.str "NothingLeft")) (some (.non)) (some (.tup [])) d10 d11) (by kernel_rfl) (by kernel_rfl)
    (mid (e := e17 far x) (title := .str "NothingLeft") (fl := .tup []) (ks := .lst (knd 17)) (by kernel_rfl) (by kernel_rfl) (field_ok (by kernel_rfl)) (by kernel_rfl) (by kernel_rfl) (pl_lst2 (.str 6 _ (by decide +kernel)) (pl_tup0)) (kinds_ok (by kernel_rfl)) lc19 (by kernel_rfl)) (by kernel_rfl)
end
end D
end

section
set_option maxHeartbeats 4000000
namespace D
open PySem L2
noncomputable def cS1 : DS := (sSet 1 (dFn 1 f_l_bag (dCons (dVar 0) dNil)))
noncomputable def cS2 : DS := (sSet 2 (dFn 2 f_l_of (dCons (dVar 1) (dCons (dFrz (nLst (dCons (dC (.int 0)) (dCons (dC (.int 1)) (dCons (dNeg (dC (.int 1))) (dCons (dOp fPow (dC (.int 10)) (dC (.int 8))) (dCons (dFn 2 f_l_pull (dCons (dVar 1) (dCons (dC (.int 999)) dNil))) dNil))))))) dNil))))
noncomputable def cS3 : DS := (sSet 3 (dFn 2 f_l_of (dCons (dVar 1) (dCons (dFrz (nLst (dCons (dC (.str "")) (dCons (dC (.str "A")) (dCons (dC (.str "f f")) (dCons (dOp fMulS (dC (.str "X")) (dFn 2 f_l_pull (dCons (dVar 1) (dCons (dC (.int 9)) dNil)))) dNil)))))) dNil))))
noncomputable def cS4 : DS := (sSet 4 (dFn 3 f_l_first_errors (dCons (dVar 2) (dCons (dVar 3) (dCons (dTup (dCons (dVar 2) (dCons (dC (.int 1)) dNil))) dNil)))))
noncomputable def cE1 : DS := (sSet 6 (dEx "TooMany" 2 (fun ds => x_TooMany (rvs true ds)) (dCons (dVar 2) (dCons (dVar 3) dNil))))
noncomputable def cE2 : DS := (sIf (tNot (tst (dFn 2 (f_l_same 8) (dCons (dFrz (nLst (dCons (dAtt tabA "code" (dVar 6)) (dCons (dAtt tabA "subject" (dVar 6)) (dCons (dAtt tabA "most" (dVar 6)) (dCons (dFn 1 f_l_kinds (dCons (dVar 6) dNil)) dNil)))))) (dCons (dFrz (nLst (dCons (dC (.str "TooMany")) (dCons (dVar 3) (dCons (dVar 2) (dCons (dFrz (nCat (dFrz (nRep (dFrz (nLst (dCons (dC (.bl false)) dNil))) (dC (.int 18)))) (dFrz (nLst (dCons (dC (.bl true)) dNil))))) dNil)))))) dNil))))) (sRet (dC (.bl false))) sNext)
noncomputable def cE3 : DS := (sRet (dAnd (dCall (fIs tabK) (dCons (dVar 6) (dCons (dC (.cls "InkError")) dNil))) (dAnd (dCall (fIs tabK) (dCons (dVar 6) (dCons (dC (.raw (.ty "ValueError"))) dNil))) (dNot (dCall (fIs tabK) (dCons (dVar 6) (dCons (dC (.raw (.ty "LookupError"))) dNil)))))))
noncomputable def cDi : DI := (iLst (dFn 2 f_l_mixed (dCons (dVar 1) (dCons (dFrz (nRg1 (dC (.int 18)))) dNil))))
theorem law_eq : d_law = sSeq cS1 (sSeq cS2 (sSeq cS3 (sSeq cS4 (sSeq (sFor cDi (gNm 5) bAll) (sSeq cE1 (sSeq cE2 cE3)))))) := rfl
end D
end

section
set_option maxHeartbeats 4000000
namespace D
open PySem L2
theorem fn2_ok' {a b : DE} {env : Env} {s s1 s' : S} {x y z : Dt} {g : DF} (h1 : a env s = .ok x s) (h2 : b env s = .ok y s1) (hg : g [x, y] s1 = .ok z s') : dFn 2 g (dCons a (dCons b dNil)) env s = .ok z s' := by
  simp [dFn, dCons, dNil, h1, h2, Res.bind, hg]
theorem sSet_ok' {i : Nat} {d : DE} {env : Env} {s s1 : S} {x : Dt} (h : d env s = .ok x s1) : sSet i d env s = .nx (env.set i (some x)) s1 := by simp [sSet, h, andS]
theorem getC {s : S} {c : Cl} : (s ++ [c])[s.length]? = some c := by simp
theorem setC {s : S} {c c' : Cl} : (s ++ [c]).set s.length c' = s ++ [c'] := by simp
theorem dVar_bag {env : Env} {s : S} {c : Cl} {n : Nat} (h : env[1]? = some (some (.ref s.length))) (hb : Bag n c) : dVar 1 env (s ++ [c]) = .ok (.ref s.length) (s ++ [c]) := by
  obtain ⟨_, _, _, _, _, rfl, _⟩ := hb
  exact dVar_ref h getC
theorem mulS9 {r : Int} {s : S} (h0 : 0 ≤ r) (h1 : r < 9) : fMulS (.str "X") (.int r) s = some (.str (repS "X" r)) ∧ okD (.str (repS "X" r)) = true := by
  have : r = 0 ∨ r = 1 ∨ r = 2 ∨ r = 3 ∨ r = 4 ∨ r = 5 ∨ r = 6 ∨ r = 7 ∨ r = 8 := by omega
  rcases this with h | h | h | h | h | h | h | h | h <;> subst h <;> exact ⟨by kernel_rfl, by decide +kernel⟩
/-- a draw as the law writes it -/
theorem pull_call {env : Env} {s : S} {c : Cl} {n : Nat} {m : Int} (h : env[1]? = some (some (.ref s.length))) (hb : Bag n c) (hn : n < 2 ^ 40) (hm : 1 ≤ m) (hm2 : m < 2 ^ 40) :
    ∃ r c', dFn 2 f_l_pull (dCons (dVar 1) (dCons (dC (.int m)) dNil)) env (s ++ [c]) = .ok (.int r) (s ++ [c']) ∧ 0 ≤ r ∧ r < m ∧ Bag (n + 1) c' := by
  obtain ⟨r, c', e, h1, h2, hb'⟩ := pull_spec getC hb hn hm hm2
  rw [setC] at e
  exact ⟨r, c', fn2_ok' (dVar_bag h hb) dC_ok e, h1, h2, hb'⟩
theorem of_call {env : Env} {s : S} {c c1 : Cl} {n : Nat} {e : DE} {xs : List Dt} (h : env[1]? = some (some (.ref s.length))) {n0 : Nat} (hb0 : Bag n0 c) (hb : Bag n c1) (he : e env (s ++ [c]) = .ok (.lst xs) (s ++ [c1])) (hn : n < 2 ^ 40) (h0 : xs ≠ []) (hz : xs.length < 2 ^ 40) :
    ∃ x c', dFn 2 f_l_of (dCons (dVar 1) (dCons e dNil)) env (s ++ [c]) = .ok x (s ++ [c']) ∧ x ∈ xs ∧ Bag (n + 1) c' := by
  obtain ⟨x, c', e1, hx, hb'⟩ := of_spec getC hb hn h0 hz
  rw [setC] at e1
  exact ⟨x, c', fn2_ok' (dVar_bag h hb0) he e1, hx, hb'⟩
section
variable {s : S} {d0 d2 d3 d4 d5 d6 d7 d8 d9 d10 d11 : Option Dt}
theorem step2 {c : Cl} {n : Nat} (hb : Bag n c) (hn : n < 100) : ∃ far c', cS2 [d0, some (.ref s.length), d2, d3, d4, d5, d6, d7, d8, d9, d10, d11] (s ++ [c]) = .nx [d0, some (.ref s.length), some (.int far), d3, d4, d5, d6, d7, d8, d9, d10, d11] (s ++ [c']) ∧ Bag (n + 2) c' := by
  generalize henv : ([d0, some (.ref s.length), d2, d3, d4, d5, d6, d7, d8, d9, d10, d11] : Env) = env
  have h1 : env[1]? = some (some (.ref s.length)) := by rw [← henv]; rfl
  obtain ⟨r, c1, e1, _, _, hb1⟩ := pull_call (m := 999) h1 hb (by omega) (by omega) (by omega)
  have pw : ∀ s, dOp fPow (dC (.int 10)) (dC (.int 8)) env s = .ok (.int (10 ^ (8 : Int).toNat)) s := fun s => dOp_ok dC_ok dC_ok (fPow_int (by omega) (by omega) (by decide))
  have el : dFrz (nLst (dCons (dC (.int 0)) (dCons (dC (.int 1)) (dCons (dNeg (dC (.int 1))) (dCons (dOp fPow (dC (.int 10)) (dC (.int 8))) (dCons (dFn 2 f_l_pull (dCons (dVar 1) (dCons (dC (.int 999)) dNil))) dNil)))))) env (s ++ [c]) = .ok (.lst [.int 0, .int 1, .int (-1), .int (10 ^ (8 : Int).toNat), .int r]) (s ++ [c1]) := by
    generalize hq : dFn 2 f_l_pull (dCons (dVar 1) (dCons (dC (.int 999)) dNil)) = q at e1
    generalize hp : dOp fPow (dC (.int 10)) (dC (.int 8)) = p at pw
    simp [dFrz, nLst, dCons, dNil, Res.bind, dNeg, pw, e1, sizeLine_eq, dC]
  obtain ⟨x, c2, e2, hx, hb2⟩ := of_call h1 hb hb1 el (by omega) (by simp) (by simp)
  have hf : ∃ far, x = .int far := by
    simp only [List.mem_cons, List.not_mem_nil, or_false] at hx
    rcases hx with h | h | h | h | h <;> exact ⟨_, h⟩
  obtain ⟨far, rfl⟩ := hf
  refine ⟨far, c2, ?_, hb2⟩
  unfold cS2
  rw [sSet_ok' e2, ← henv]
  rfl
theorem step3 {c : Cl} {n : Nat} (hb : Bag n c) (hn : n < 100) : ∃ x c', cS3 [d0, some (.ref s.length), d2, d3, d4, d5, d6, d7, d8, d9, d10, d11] (s ++ [c]) = .nx [d0, some (.ref s.length), d2, some (.str x), d4, d5, d6, d7, d8, d9, d10, d11] (s ++ [c']) ∧ Bag (n + 2) c' ∧ okD (.str x) = true := by
  generalize henv : ([d0, some (.ref s.length), d2, d3, d4, d5, d6, d7, d8, d9, d10, d11] : Env) = env
  have h1 : env[1]? = some (some (.ref s.length)) := by rw [← henv]; rfl
  obtain ⟨r, c1, e1, r0, r1, hb1⟩ := pull_call (m := 9) h1 hb (by omega) (by omega) (by omega)
  have m9 := mulS9 (s := s ++ [c1]) r0 r1
  have em : dOp fMulS (dC (.str "X")) (dFn 2 f_l_pull (dCons (dVar 1) (dCons (dC (.int 9)) dNil))) env (s ++ [c]) = .ok (.str (repS "X" r)) (s ++ [c1]) := by
    unfold dOp
    rw [dC_ok]
    simp only [Res.bind, e1, m9.1, ofO]
  have el : dFrz (nLst (dCons (dC (.str "")) (dCons (dC (.str "A")) (dCons (dC (.str "f f")) (dCons (dOp fMulS (dC (.str "X")) (dFn 2 f_l_pull (dCons (dVar 1) (dCons (dC (.int 9)) dNil)))) dNil))))) env (s ++ [c]) = .ok (.lst [.str "", .str "A", .str "f f", .str (repS "X" r)]) (s ++ [c1]) := by
    generalize hq : dOp fMulS (dC (.str "X")) (dFn 2 f_l_pull (dCons (dVar 1) (dCons (dC (.int 9)) dNil))) = q at em
    simp [dFrz, nLst, dCons, dNil, Res.bind, em, sizeLine_eq, dC]
  obtain ⟨x, c2, e2, hx, hb2⟩ := of_call h1 hb hb1 el (by omega) (by simp) (by simp)
  have hf : ∃ z, x = .str z ∧ okD (.str z) = true := by
    simp only [List.mem_cons, List.not_mem_nil, or_false] at hx
    rcases hx with h | h | h | h
    · exact ⟨_, h, by decide +kernel⟩
    · exact ⟨_, h, by decide +kernel⟩
    · exact ⟨_, h, by decide +kernel⟩
    · exact ⟨_, h, m9.2⟩
  obtain ⟨z, rfl, hz⟩ := hf
  refine ⟨z, c2, ?_, hb2, hz⟩
  unfold cS3
  rw [sSet_ok' e2, ← henv]
  rfl
theorem step4 {far : Int} {x : Str} {k : Nat} : cS4 [d0, some (.ref k), some (.int far), some (.str x), d4, d5, d6, d7, d8, d9, d10, d11] s = .nx (ev far x k d0 d5 d6 d7 d8 d9 d10 d11) s := by
  unfold cS4
  refine sSet_ok' (x := .lst (pairs far x)) ?_
  simp [dFn, dCons, dNil, dVar, dTup, dC, Res.bind, sizeLine_eq, first_ok]
/-- one spot -/
theorem spot {far : Int} {x : Str} {k : Nat} {i : Int} (hx : okD (.str x) = true) (h0 : 0 ≤ i) (h1 : i < 18) : ∃ d6' d7' d8' d9' d10', bAll (ev far x k d0 (some (.int i)) d6 d7 d8 d9 d10 d11) s = .nx (ev far x k d0 (some (.int i)) d6' d7' d8' d9' d10' d11) s := by
  have : i = 0 ∨ i = 1 ∨ i = 2 ∨ i = 3 ∨ i = 4 ∨ i = 5 ∨ i = 6 ∨ i = 7 ∨ i = 8 ∨ i = 9 ∨ i = 10 ∨ i = 11 ∨ i = 12 ∨ i = 13 ∨ i = 14 ∨ i = 15 ∨ i = 16 ∨ i = 17 := by omega
  rcases this with h | h | h | h | h | h | h | h | h | h | h | h | h | h | h | h | h | h <;> subst h
  · exact ⟨_, _, _, _, _, spot0 hx⟩
  · exact ⟨_, _, _, _, _, spot1 hx⟩
  · exact ⟨_, _, _, _, _, spot2 hx⟩
  · exact ⟨_, _, _, _, _, spot3 hx⟩
  · exact ⟨_, _, _, _, _, spot4 hx⟩
  · exact ⟨_, _, _, _, _, spot5 hx⟩
  · exact ⟨_, _, _, _, _, spot6 hx⟩
  · exact ⟨_, _, _, _, _, spot7 hx⟩
  · exact ⟨_, _, _, _, _, spot8 hx⟩
  · exact ⟨_, _, _, _, _, spot9 hx⟩
  · exact ⟨_, _, _, _, _, spot10 hx⟩
  · exact ⟨_, _, _, _, _, spot11 hx⟩
  · exact ⟨_, _, _, _, _, spot12 hx⟩
  · exact ⟨_, _, _, _, _, spot13 hx⟩
  · exact ⟨_, _, _, _, _, spot14 hx⟩
  · exact ⟨_, _, _, _, _, spot15 hx⟩
  · exact ⟨_, _, _, _, _, spot16 hx⟩
  · exact ⟨_, _, _, _, _, spot17 hx⟩
theorem step5 {far : Int} {x : Str} {c : Cl} {n : Nat} (hx : okD (.str x) = true) (hb : Bag n c) (hn : n < 100) : ∃ c' d5' d6' d7' d8' d9' d10' d11', sFor cDi (gNm 5) bAll (ev far x s.length d0 d5 d6 d7 d8 d9 d10 d11) (s ++ [c]) = .nx (ev far x s.length d0 d5' d6' d7' d8' d9' d10' d11') (s ++ [c']) ∧ Bag (n + 18) c' := by
  have hr : (rgD 0 18) = (((List.range 18).map fun i : Nat => (i : Int)).map Dt.int) := by kernel_rfl
  have hlen : ((List.range 18).map fun i : Nat => (i : Int)).length = 18 := by simp
  obtain ⟨fin, c', e, hin, hb'⟩ := mixed_spec (l := (List.range 18).map fun i : Nat => (i : Int)) (s := s ++ [c]) getC hb (by rw [hlen]; omega) (by rw [hlen]; omega)
  rw [setC] at e
  rw [hlen] at hb'
  rw [← hr] at e
  have edi : cDi (ev far x s.length d0 d5 d6 d7 d8 d9 d10 d11) (s ++ [c]) = .ok (itL (.lst (fin.map .int)) (fin.map Dt.int).length) (s ++ [c']) := by
    unfold cDi iLst
    rw [fn2_ok' (x := .ref s.length) (y := .lst (rgD 0 18)) (s1 := s ++ [c]) (dVar_bag rfl hb) rfl e]
    rfl
  obtain ⟨env', s', e2, rfl, d5', d6', d7', d8', d9', d10', d11', rfl⟩ := runFor_inv (j := itL (.lst (fin.map .int)) (fin.map Dt.int).length) (g := gNm 5) (b := bAll)
    (P := fun i env s' => s' = s ++ [c'] ∧ ∃ d5 d6 d7 d8 d9 d10 d11, env = ev far x s.length d0 d5 d6 d7 d8 d9 d10 d11)
    (fun i env s' hi ⟨hs, d5, d6, d7, d8, d9, d10, d11, he⟩ => by
      subst hs he
      have hi : i < fin.length := by simpa [itL] using hi
      have hm := hin fin[i] (List.getElem_mem hi)
      obtain ⟨j, hj, ej⟩ := List.mem_map.mp hm
      have hj := List.mem_range.mp hj
      obtain ⟨a6, a7, a8, a9, a10, es⟩ := spot (far := far) (k := s.length) (s := s ++ [c']) (d0 := d0) (d6 := d6) (d7 := d7) (d8 := d8) (d9 := d9) (d10 := d10) (d11 := d11) (i := fin[i]) hx (by omega) (by omega)
      exact ⟨.int fin[i], ev far x s.length d0 (some (.int fin[i])) d6 d7 d8 d9 d10 d11, _, _, by simp [itL, pk, hi], rfl, es, rfl, _, _, _, _, _, _, _, rfl⟩)
    (fun env s' _ => by simp [itL, pk]) fin.length 0 (ev far x s.length d0 d5 d6 d7 d8 d9 d10 d11) (s ++ [c']) (by simp [itL]) ⟨rfl, _, _, _, _, _, _, _, rfl⟩
  refine ⟨c', d5', d6', d7', d8', d9', d10', d11', ?_, hb'⟩
  unfold sFor
  rw [edi]
  simp only [andS]
  have hn : (itL (.lst (fin.map .int)) (fin.map Dt.int).length).n = fin.length := by simp [itL]
  rw [hn]
  exact e2
theorem step6 {far : Int} {x : Str} {k : Nat} : cE1 (ev far x k d0 d5 d6 d7 d8 d9 d10 d11) s = .nx (ev far x k d0 d5 (some (.exn "TooMany" (x_TooMany [.str x, .int far]))) d7 d8 d9 d10 d11) s := by kernel_rfl
theorem pl_bls {n : Nat} : ∀ (l : List Bool), ∀ d ∈ l.map Dt.bl, Pl (n + 1) d := fun l d hd => by
  obtain ⟨b, _, rfl⟩ := List.mem_map.mp hd
  exact .bl n b
theorem step7 {far : Int} {x : Str} {k : Nat} (hx : okD (.str x) = true) : cE2 (ev far x k d0 d5 (some (.exn "TooMany" (x_TooMany [.str x, .int far]))) d7 d8 d9 d10 d11) s = .nx (ev far x k d0 d5 (some (.exn "TooMany" (x_TooMany [.str x, .int far]))) d7 d8 d9 d10 d11) s := by
  generalize henv : ev far x k d0 d5 (some (.exn "TooMany" (x_TooMany [.str x, .int far]))) d7 d8 d9 d10 d11 = env
  unfold cE2
  have k1 : f_l_kinds [.exn "TooMany" (x_TooMany [.str x, .int far])] s = .ok (.lst (knd 18)) s := kinds_ok (by kernel_rfl)
  have a1 : dFn 1 f_l_kinds (dCons (dVar 6) dNil) env s = .ok (.lst (knd 18)) s := by
    have : dVar 6 env s = .ok (.exn "TooMany" (x_TooMany [.str x, .int far])) s := by rw [← henv]; rfl
    simp [dFn, dCons, dNil, this, Res.bind, k1]
  have b1 : dAtt tabA "code" (dVar 6) env s = .ok (.str "TooMany") s := by rw [← henv]; kernel_rfl
  have b2 : dAtt tabA "subject" (dVar 6) env s = .ok (.str x) s := by rw [← henv]; kernel_rfl
  have b3 : dAtt tabA "most" (dVar 6) env s = .ok (.int far) s := by rw [← henv]; kernel_rfl
  have b4 : dVar 3 env s = .ok (.str x) s := by rw [← henv]; rfl
  have b5 : dVar 2 env s = .ok (.int far) s := by rw [← henv]; rfl
  have b6 : dFrz (nCat (dFrz (nRep (dFrz (nLst (dCons (dC (.bl false)) dNil))) (dC (.int 18)))) (dFrz (nLst (dCons (dC (.bl true)) dNil)))) env s = .ok (.lst (knd 18)) s := by kernel_rfl
  have pl : Pl 8 (.lst [.str "TooMany", .str x, .int far, .lst (knd 18)]) := .lst 7 _ (fun d hd => by
    simp only [List.mem_cons, List.not_mem_nil, or_false] at hd
    rcases hd with rfl | rfl | rfl | rfl
    · exact .str 6 _ (by decide +kernel)
    · exact .str 6 _ hx
    · exact .int 6 _
    · have : knd 18 = (List.replicate 18 false ++ [true]).map Dt.bl := by kernel_rfl
      rw [this]
      exact .lst 6 _ (pl_bls _) (by simp [sizeLine_eq])) (by simp [sizeLine_eq])
  have a3 : dFn 2 (f_l_same 8) (dCons (dFrz (nLst (dCons (dAtt tabA "code" (dVar 6)) (dCons (dAtt tabA "subject" (dVar 6)) (dCons (dAtt tabA "most" (dVar 6)) (dCons (dFn 1 f_l_kinds (dCons (dVar 6) dNil)) dNil)))))) (dCons (dFrz (nLst (dCons (dC (.str "TooMany")) (dCons (dVar 3) (dCons (dVar 2) (dCons (dFrz (nCat (dFrz (nRep (dFrz (nLst (dCons (dC (.bl false)) dNil))) (dC (.int 18)))) (dFrz (nLst (dCons (dC (.bl true)) dNil))))) dNil)))))) dNil)) env s = .ok (.bl true) s := by
    generalize hq : dFrz (nCat (dFrz (nRep (dFrz (nLst (dCons (dC (.bl false)) dNil))) (dC (.int 18)))) (dFrz (nLst (dCons (dC (.bl true)) dNil)))) = q at b6
    generalize hp : dFn 1 f_l_kinds (dCons (dVar 6) dNil) = p at a1
    exact fn2_ok' (by simp [dFrz, nLst, dCons, dNil, b1, b2, b3, a1, Res.bind, sizeLine_eq]) (by simp [dFrz, nLst, dCons, dNil, dC_ok, b4, b5, b6, Res.bind, sizeLine_eq]) (same_true pl s)
  rw [sIf_f]
  · rfl
  · simp [tNot, tst_ok a3, Res.bind]
theorem step8 {far : Int} {x : Str} {k : Nat} : cE3 (ev far x k d0 d5 (some (.exn "TooMany" (x_TooMany [.str x, .int far]))) d7 d8 d9 d10 d11) s = .rt (.bl true) s := by kernel_rfl
end
theorem law_true {s : S} {cs : List Int} : f_law [.klst (cs.map .int)] s = .ok (.bl true) s := by
  obtain ⟨c1, e1, hb1⟩ := bag_spec (s := s) (cs := cs)
  obtain ⟨far, c2, e2, hb2⟩ := step2 (s := s) (d0 := some (.klst (cs.map .int))) (d2 := none) (d3 := none) (d4 := none) (d5 := none) (d6 := none) (d7 := none) (d8 := none) (d9 := none) (d10 := none) (d11 := none) hb1 (by omega)
  obtain ⟨x, c3, e3, hb3, hx⟩ := step3 (s := s) (d0 := some (.klst (cs.map .int))) (d2 := some (.int far)) (d3 := none) (d4 := none) (d5 := none) (d6 := none) (d7 := none) (d8 := none) (d9 := none) (d10 := none) (d11 := none) hb2 (by omega)
  obtain ⟨c4, d5, d6, d7, d8, d9, d10, d11, e4, hb4⟩ := step5 (s := s) (far := far) (x := x) (d0 := some (.klst (cs.map .int))) (d5 := none) (d6 := none) (d7 := none) (d8 := none) (d9 := none) (d10 := none) (d11 := none) hx hb3 (by omega)
  have key : bodyF 12 1 d_law [.klst (cs.map .int)] s = .ok (.bl true) (s ++ [c4]) := by
    rw [show bodyF 12 1 d_law [.klst (cs.map .int)] s = bodyR (d_law [some (.klst (cs.map .int)), none, none, none, none, none, none, none, none, none, none, none] s) from bodyF_eq rfl]
    rw [law_eq]
    have s1 : cS1 [some (.klst (cs.map .int)), none, none, none, none, none, none, none, none, none, none, none] s = .nx [some (.klst (cs.map .int)), some (.ref s.length), none, none, none, none, none, none, none, none, none, none] (s ++ [c1]) := by
      unfold cS1
      refine sSet_ok' (x := .ref s.length) ?_
      simp [dFn, dCons, dNil, dVar, Res.bind, e1]
    rw [sSeq_nx s1, sSeq_nx e2, sSeq_nx e3, sSeq_nx step4, sSeq_nx e4, sSeq_nx step6, sSeq_nx (step7 hx), step8]
    rfl
  show cutR s _ = _
  rw [key]
  exact cutR_pure rfl
end D
end

section
set_option maxHeartbeats 4000000
namespace D
open PySem L2 NdefX PySem.Spec PyProof.Rows
/-! what the run of the top leaves: own exception classes, read off the heap -/
def iAd (K : PySem.W.Frag) (x : Str) : Addr := He.ma K (He.ga K x) "__init__"
def cellF (fd : FuncData) : Addr := match fd.closure with
  | [(_, a)] => a
  | _ => 0
def codeF (fd : FuncData) : Addr := match fd.code with
  | .ref a => a
  | _ => 0
abbrev InT : Type := Option (Str × Str × Arguments × FuncBody × Scope × Addr × Addr)
def initT (K : PySem.W.Frag) (x : Str) : InT := match K.lookup (iAd K x) with
  | some ⟨_, _, .func fd, _⟩ => some (fd.name, fd.qualname, fd.params, fd.body, fd.scope, fd.globals, fd.builtins)
  | _ => none
/-- an own exception class: its name, its __init__, its builtin base, the names that it sets -/
structure ExD where
  x : Str
  qual : Str
  st : Stmt
  B : String
  newId : String
  initId : String
  bm : List Value
  attrs : List Str
def ExD.val (d : ExD) : InT := some ("__init__", d.qual, defArgs d.st, .stmts (defBody d.st), defScope d.st, mainGlobals, builtinsNs)
def fnB (K : PySem.W.Frag) (file : Str) (d : ExD) : Bool := match K.lookup (iAd K d.x) with
  | some ⟨_, _, .func fd, _⟩ => decide (fd.closure = [(("__class__" : Str), cellF fd)]) && (decide (fd.defaults = .none) && (decide (fd.kwdefaults = .none) && (decide (fd.annotations = none) && (decide (fd.code = .ref (codeF fd)) &&
    ((match K.lookup (cellF fd) with
      | some ⟨_, _, .cell (some v), _⟩ => decide (v = .ref (He.ga K d.x))
      | _ => false) && ((match K.lookup (codeF fd) with
      | some ⟨_, _, .fields vs, _⟩ => (match (vs[2]? : Option Value) with
        | some (Value.str z _) => file == z
        | _ => false)
      | _ => false) && PySem.W.codeIn K (.ref (codeF fd)) d.qual))))))
  | _ => false
def ExD.ok (K : PySem.W.Frag) (file : Str) (d : ExD) : Bool := (He.Fa.glo d.x).ok K && ((PySem.W.excInitIn K (He.ga K d.x) d.bm d.newId && PySem.W.hasDictIn K (He.ga K d.x)) && ((He.eqO (PySem.W.findIn K (.ref (He.ga K d.x)) "__setattr__") (some (some (.builtin "object.__setattr__"))) &&
  (decide (PySem.W.subIn K (.ref (He.ga K d.x)) (.type "BaseException") = some true) && (decide (PySem.W.subIn K (.ref (He.ga K d.x)) (.type d.B) = some true) && (decide (PySem.W.typeIn K (.ref (He.ga K d.x)) = some (.type "type")) && PySem.W.keepIn K (.ref (He.ga K d.x)))))) &&
  ((He.eqO (PySem.W.findIn K (.ref (He.ga K d.x)) "__init__") (some (some (.ref (iAd K d.x)))) && decide (PySem.W.typeIn K (.ref (iAd K d.x)) = some (.type "function"))) && (fnB K file d && (decide (PySem.W.ks_superIn K (He.ga K d.x) (He.ga K d.x) "__init__" = some (some (.builtin d.initId))) &&
  d.attrs.all fun a => He.eqO (PySem.W.findIn K (.ref (He.ga K d.x)) a) (some none))))))
/-- what every class here leans on -/
def supB (K : PySem.W.Frag) : Bool := (He.Fa.free "super").ok K && He.eqO (PySem.W.nsIn K cStatics "thirdparty.any") (some none)
/-- the builtin side -/
structure ExB (B newId initId : String) (bm : List Value) : Prop where
  base : ExcBaseFacts B newId initId bm
  st : StoreFacts B bm "object.__setattr__" "object"
  ks : PySem.W.KxsFacts B initId
  ne : bm.isEmpty = false
  ob : bm.contains (.type "object") = true
theorem exB_VE : ExB "ValueError" "ValueError.__new__" "ValueError.__init__" bmVE := ⟨PySem.F.excBase_ValueError, PySem.F.store_ValueError, PySem.W.kxs_ValueError, rfl, by decide +kernel⟩
theorem exB_LE : ExB "LookupError" "LookupError.__new__" "LookupError.__init__" bmLE := ⟨PySem.F.excBase_LookupError, PySem.F.store_LookupError, PySem.W.kxs_LookupError, rfl, by decide +kernel⟩
theorem exB_IE : ExB "IndexError" "IndexError.__new__" "IndexError.__init__" bmIE := ⟨PySem.F.excBase_IndexError, PySem.F.store_IndexError, PySem.W.kxs_IndexError, rfl, by decide +kernel⟩
section
variable {P : Program} {K : PySem.W.Frag} {h : Heap} {mg : Str → Option Value} {file : Str}
theorem ex_ok (X : K.In h) (G : h.Ns mainGlobals mg) {x qual : String} {st : Stmt} {B newId initId : String} {bm : List Value} {attrs : List Str} (b : ExB B newId initId bm)
    (e : initT K (x : Str) = (ExD.mk x qual st B newId initId bm attrs).val) (c : (ExD.mk x qual st B newId initId bm attrs).ok K P.main.file = true) (cs : supB K = true) (ht : (P.main.scope.names.lookup ("super" : Str)).isSome = false) : ExT P K mg x qual st B newId initId bm attrs := by
  obtain ⟨g, c⟩ := He.ba c
  obtain ⟨c1, c⟩ := He.ba c
  obtain ⟨q, hd⟩ := He.ba c1
  obtain ⟨c2, c⟩ := He.ba c
  obtain ⟨sa, c2⟩ := He.ba c2
  obtain ⟨exC, c2⟩ := He.ba c2
  obtain ⟨subB, c2⟩ := He.ba c2
  obtain ⟨tyC, kC⟩ := He.ba c2
  obtain ⟨c3, c⟩ := He.ba c
  obtain ⟨iC, tI⟩ := He.ba c3
  obtain ⟨cf, c⟩ := He.ba c
  obtain ⟨ks, at_⟩ := He.ba c
  obtain ⟨s1, s2⟩ := He.ba cs
  have hm := He.glo_ok X G g
  unfold initT at e
  unfold fnB at cf
  simp only at e cf
  cases lk : K.lookup (iAd K (x : Str)) with
  | none => rw [lk] at cf; cases cf
  | some o =>
    obtain ⟨oc, od, dt, osl⟩ := o
    rw [lk] at cf e
    cases dt with
    | func fd =>
      obtain ⟨n1, n2, n3, n4, n5, n6, n7, n8, n9, n10, n11, n12, n13, n14, n15⟩ := fd
      have e2 : (some (n1, n2, n3, n4, n5, n6, n15) : InT) = (some (("__init__" : Str), (qual : Str), defArgs st, FuncBody.stmts (defBody st), defScope st, mainGlobals, builtinsNs) : InT) := e
      simp only [Option.some.injEq, Prod.mk.injEq] at e2
      obtain ⟨h1, h2, h3, h4, h5, h6, h7⟩ := e2
      subst h1 h2 h3 h4 h5 h6 h7
      obtain ⟨k1, cf⟩ := He.ba cf
      obtain ⟨k2, cf⟩ := He.ba cf
      obtain ⟨k3, cf⟩ := He.ba cf
      obtain ⟨k4, cf⟩ := He.ba cf
      obtain ⟨k5, cf⟩ := He.ba cf
      obtain ⟨k6, cf⟩ := He.ba cf
      obtain ⟨k7, k8⟩ := He.ba cf
      have j1 : n7 = [(("__class__" : Str), cellF _)] := of_decide_eq_true k1
      have j2 : n8 = Value.none := of_decide_eq_true k2
      have j3 : n9 = Value.none := of_decide_eq_true k3
      have j4 : n12 = none := of_decide_eq_true k4
      have j5 : n13 = Value.ref (codeF _) := of_decide_eq_true k5
      generalize hcc : cellF _ = cc at j1 k6
      generalize hco : codeF _ = co at j5 k7 k8
      clear k1 k2 k3 k4 k5
      subst j2 j3 j4
      rw [j1, j5] at lk
      refine ⟨He.ga K x, cc, iAd K x, co, oc, od, osl, n10, n11, n14, hm, ⟨b.base, b.st, b.ks, b.ne, b.ob, q, hd, He.eqO_ok sa, of_decide_eq_true exC, of_decide_eq_true subB, of_decide_eq_true tyC, kC⟩, He.eqO_ok iC, of_decide_eq_true tI, lk,
        ⟨rfl, ?_, ?_, k8, He.free_ok X G s1, ht, He.eqO_ok s2⟩, of_decide_eq_true ks, fun a ha => He.eqO_ok (List.all_eq_true.mp at_ a ha)⟩
      · split at k6
        · rename_i c0 cd0 v sl0 hl
          rw [of_decide_eq_true k6] at hl
          exact ⟨_, _, _, hl⟩
        · cases k6
      · split at k7
        · rename_i c0 cd0 vs sl0 hl
          split at k7
          · rename_i z tf hz
            exact ⟨_, _, vs, _, z, tf, hl, hz, k7⟩
          · cases k7
        · cases k7
    | _ => cases cf
end
end D
end

section
set_option maxHeartbeats 4000000
namespace D
open PySem L2 NdefX PySem.Spec PyProof.Rows
theorem mem_look {α β : Type} [BEq α] [LawfulBEq α] : ∀ {l : List (α × β)} {x : α} {p : β}, l.lookup x = some p → (x, p) ∈ l
  | [], x, p, h => by cases h
  | (y, q) :: l, x, p, h => by
    unfold List.lookup at h
    cases e : (x == y) with
    | true =>
      rw [e] at h
      cases h
      rw [eq_of_beq e]
      exact List.mem_cons_self
    | false =>
      rw [e] at h
      exact List.mem_cons_of_mem _ (mem_look h)
def exTyB (K : PySem.W.Frag) (C : Addr) : Bool := (PySem.W.clsIn K C).isSome && (He.eqO (PySem.W.findIn K (.ref C) "__getattribute__") (some (some (.builtin "BaseException.__getattribute__"))) && (He.eqO (PySem.W.findIn K (.ref C) "__getattr__") (some none) && (decide (PySem.W.subIn K (.ref C) (.type "BaseException") = some true) &&
  (He.eqO (PySem.W.findIn K (.ref C) "__class__") (some (some (.builtin "object.__class__"))) && (He.eqO (PySem.W.specialIn K (.builtin "object.__class__") "__get__") (some (some (.builtin "getset_descriptor.__get__"))) && (decide (PySem.W.takesIn K (.builtin "object.__class__") = some true) && decide (PySem.W.mroIn K C (.type "object") = some true)))))))
theorem exTy_ok {K : PySem.W.Frag} {C : Addr} (h : exTyB K C = true) : ExnTy K C := by
  obtain ⟨h1, h⟩ := He.ba h
  obtain ⟨h2, h⟩ := He.ba h
  obtain ⟨h3, h⟩ := He.ba h
  obtain ⟨h4, h⟩ := He.ba h
  obtain ⟨h5, h⟩ := He.ba h
  obtain ⟨h6, h⟩ := He.ba h
  obtain ⟨h7, h8⟩ := He.ba h
  exact ⟨h1, He.eqO_ok h2, He.eqO_ok h3, of_decide_eq_true h4, He.eqO_ok h5, He.eqO_ok h6, of_decide_eq_true h7, of_decide_eq_true h8⟩
def exTabB (K : PySem.W.Frag) (tab : List (Str × List Str × List String)) (tys : List String) (all : List Str) : Bool :=
  (all.all fun x => (He.Fa.glo x).ok K) && tab.all fun p => (He.Fa.glo p.1).ok K && (exTyB K (He.ga K p.1) && ((tys.all fun T => decide (PySem.W.kitOne K (.ref (He.ga K p.1)) (.type T) = some (decide (T ∈ p.2.2)))) && all.all fun y => decide (PySem.W.kitOne K (.ref (He.ga K p.1)) (.ref (He.ga K y)) = some (decide (y ∈ p.2.1)))))
section
variable {K : PySem.W.Frag} {h : Heap} {mg : Str → Option Value}
theorem exTab_ok (X : K.In h) (G : h.Ns mainGlobals mg) {tab : List (Str × List Str × List String)} {tys : List String} {all : List Str} (c : exTabB K tab tys all = true) :
    IsTabOk K mg ⟨fun x T => (tab.lookup x).bind fun p => if T ∈ tys then some (decide (T ∈ p.2)) else none, fun x y => (tab.lookup x).bind fun p => if y ∈ all then some (decide (y ∈ p.1)) else none, fun _ _ => none, fun _ _ => none, fun _ => false⟩ := by
  obtain ⟨c1, c2⟩ := He.ba c
  refine ⟨fun x T b e => (nomatch e), fun x y b e => (nomatch e), fun x T b e C hC => ?_, fun x y b e C C' hC hC' => ?_, fun y e => (nomatch e)⟩
  · obtain ⟨p, hp, e⟩ := Option.bind_eq_some_iff.mp e
    have m := List.all_eq_true.mp c2 _ (mem_look hp)
    obtain ⟨g, m⟩ := He.ba m
    obtain ⟨t, m⟩ := He.ba m
    obtain ⟨m1, m2⟩ := He.ba m
    have eC : He.ga K x = C := by
      have := (He.glo_ok X G g).symm.trans hC
      injection this with this
      injection this
    split at e
    · rename_i hT
      cases e
      have := of_decide_eq_true (List.all_eq_true.mp m1 T hT)
      simp only [eC] at t this
      exact ⟨exTy_ok t, this⟩
    · cases e
  · obtain ⟨p, hp, e⟩ := Option.bind_eq_some_iff.mp e
    have m := List.all_eq_true.mp c2 _ (mem_look hp)
    obtain ⟨g, m⟩ := He.ba m
    obtain ⟨t, m⟩ := He.ba m
    obtain ⟨m1, m2⟩ := He.ba m
    have eC : He.ga K x = C := by
      have := (He.glo_ok X G g).symm.trans hC
      injection this with this
      injection this
    split at e
    · rename_i hy
      cases e
      have gy := List.all_eq_true.mp c1 y hy
      have eC' : He.ga K y = C' := by
        have := (He.glo_ok X G gy).symm.trans hC'
        injection this with this
        injection this
      have := of_decide_eq_true (List.all_eq_true.mp m2 y hy)
      simp only [eC, eC'] at t this
      exact ⟨exTy_ok t, this⟩
    · cases e
def exFldB (K : PySem.W.Frag) (fld : List (Str × List Str)) : Bool := fld.all fun p => (He.Fa.glo p.1).ok K && (xfB K (He.ga K p.1) && p.2.all fun f => He.eqO (PySem.W.findIn K (.ref (He.ga K p.1)) f) (some none))
theorem exFld_ok (X : K.In h) (G : h.Ns mainGlobals mg) {fld : List (Str × List Str)} (c : exFldB K fld = true) : AtTabOk K mg ⟨fun _ _ => false, fun x f => ((fld.lookup x).getD []).contains f⟩ := by
  refine ⟨fun x f e => (nomatch e), fun x f e C hC => ?_⟩
  cases hp : fld.lookup x with
  | none => simp only [hp] at e; cases e
  | some p =>
    simp only [hp, Option.getD_some] at e
    have m := List.all_eq_true.mp c _ (mem_look hp)
    obtain ⟨g, m⟩ := He.ba m
    obtain ⟨m1, m2⟩ := He.ba m
    have eC : He.ga K x = C := by
      have := (He.glo_ok X G g).symm.trans hC
      injection this with this
      injection this
    have m3 := He.eqO_ok (List.all_eq_true.mp m2 f (by simpa using e))
    simp only [eC] at m1 m3
    exact ⟨xfB_ok m1, m3⟩
end
/-! ### the Hook: defs, names, classes -/
abbrev AlX : Type := He.AlD × List InT × Bool
section
variable (fa : List He.Fa) (fn : List He.DefD) (xs : List ExD) (tb : PySem.W.Frag → Bool)
def obsX (K : PySem.W.Frag) : AlX := (He.obsD fa fn K, xs.map fun d => initT K d.x, tb K)
def valX : AlX := (He.valD fn, xs.map ExD.val, true)
def SaysX (K : PySem.W.Frag) : Prop := obsX fa fn xs tb K = valX fn xs
def obsXG (n : Nat) (g : Addr → Option Obj) : AlX := obsX fa fn xs tb (He.frG g (He.asD g n ++ [cStatics]))
def hookX (n : Nat) : PySem.W.Hook where
  α := AlX
  obs := fun s => obsXG fa fn xs tb n s.heap.get?
  val := fun _ => valX fn xs
  says := fun _ h => ∃ K : PySem.W.Frag, K.In h ∧ SaysX fa fn xs tb K
  of := fun _ _ e => ⟨_, He.frG_in, e⟩
  keeps := fun _ _ _ ⟨K, hK, c⟩ k => ⟨K, PySem.W.Frag.In.keeps hK k, c⟩
end
theorem obsXG_eq {fa : List He.Fa} {fn : List He.DefD} {xs : List ExD} {tb : PySem.W.Frag → Bool} {n : Nat} {g : Addr → Option Obj} {s : Shared} (h : ∀ a, g a = s.heap.get? a) : obsXG fa fn xs tb n g = (hookX fa fn xs tb n).obs s := by
  have e : g = s.heap.get? := funext h
  rw [e] <;> rfl
section
variable {fa : List He.Fa} {fn : List He.DefD} {xs : List ExD} {tb : PySem.W.Frag → Bool} {K : PySem.W.Frag}
theorem SaysX.d (c : SaysX fa fn xs tb K) : He.SaysD fa fn K := congrArg (fun z : AlX => z.1) c
theorem SaysX.t (c : SaysX fa fn xs tb K) : tb K = true := congrArg (fun z : AlX => z.2.2) c
theorem SaysX.i (c : SaysX fa fn xs tb K) (i : Nat) {d : ExD} (h : xs[i]? = some d) : initT K d.x = d.val := by
  have e : xs.map (fun d => initT K d.x) = xs.map ExD.val := congrArg (fun z : AlX => z.2.1) c
  have e2 : (xs.map fun d => initT K d.x)[i]? = (xs.map ExD.val)[i]? := by rw [e]
  rw [List.getElem?_map, List.getElem?_map, h] at e2
  exact Option.some.inj e2
end
end D
end

section
set_option maxHeartbeats 0
namespace D
open PySem PySem.Spec PyProof.Rows L2 NdefX
def hFn : List He.DefD := [⟨("_law_bag", none), "_law_bag", "_law_bag", defArgs (topS 23), defBody (topS 23), defScope (topS 23), [], []⟩, ⟨("_law_pull", none), "_law_pull", "_law_pull", defArgs (topS 24), defBody (topS 24), defScope (topS 24), [], []⟩, ⟨("_law_of", none), "_law_of", "_law_of", defArgs (topS 25), defBody (topS 25), defScope (topS 25), [], []⟩, ⟨("_law_mixed", none), "_law_mixed", "_law_mixed", defArgs (topS 26), defBody (topS 26), defScope (topS 26), [], []⟩, ⟨("_law_same", none), "_law_same", "_law_same", defArgs (topS 27), defBody (topS 27), defScope (topS 27), [], []⟩, ⟨("_law_field", none), "_law_field", "_law_field", defArgs (topS 28), defBody (topS 28), defScope (topS 28), [], []⟩, ⟨("_law_first_errors", none), "_law_first_errors", "_law_first_errors", defArgs (topS 29), defBody (topS 29), defScope (topS 29), [], []⟩, ⟨("_law_kinds", none), "_law_kinds", "_law_kinds", defArgs (topS 30), defBody (topS 30), defScope (topS 30), [], []⟩, ⟨("law", none), "law", "law", defArgs (topS 31), defBody (topS 31), defScope (topS 31), [], []⟩]
def hFa : List He.Fa := [.glo "_law_bag", .glo "_law_pull", .glo "_law_of", .glo "_law_mixed", .glo "_law_same", .glo "_law_field", .glo "_law_first_errors", .glo "_law_kinds", .glo "law", .glo "Circular", .glo "Full", .glo "InUse", .glo "InkError", .glo "InvalidCommand", .glo "InvalidDeeds", .glo "InvalidEdge", .glo "InvalidInk", .glo "InvalidLimit", .glo "InvalidName", .glo "InvalidNumber", .glo "InvalidOrder", .glo "InvalidPage", .glo "InvalidRow", .glo "InvalidText", .glo "Missing", .glo "NothingLeft", .glo "TooDeep", .glo "TooMany", .glo "UnknownName", .glo "Unlike", .free "IndexError", .free "LookupError", .free "ValueError", .free "abs", .free "all", .free "bool", .free "int", .free "isinstance", .free "len", .free "list", .free "range", .free "str", .free "tuple", .free "zip"]
def hXs : List ExD := [⟨"Circular", "Circular.__init__", (inClass (topS 17) 0), "ValueError", "ValueError.__new__", "ValueError.__init__", bmVE, ["name", "code"]⟩,
  ⟨"Full", "Full.__init__", (inClass (topS 19) 0), "ValueError", "ValueError.__new__", "ValueError.__init__", bmVE, ["most", "code"]⟩,
  ⟨"InUse", "InUse.__init__", (inClass (topS 18) 0), "ValueError", "ValueError.__new__", "ValueError.__init__", bmVE, ["user", "code"]⟩,
  ⟨"InvalidCommand", "InvalidCommand.__init__", (inClass (topS 11) 0), "ValueError", "ValueError.__new__", "ValueError.__init__", bmVE, ["at", "code"]⟩,
  ⟨"InvalidDeeds", "InvalidDeeds.__init__", (inClass (topS 8) 0), "ValueError", "ValueError.__new__", "ValueError.__init__", bmVE, ["path", "code"]⟩,
  ⟨"InvalidEdge", "InvalidEdge.__init__", (inClass (topS 5) 0), "ValueError", "ValueError.__new__", "ValueError.__init__", bmVE, ["given", "code"]⟩,
  ⟨"InvalidInk", "InvalidInk.__init__", (inClass (topS 3) 0), "ValueError", "ValueError.__new__", "ValueError.__init__", bmVE, ["given", "code"]⟩,
  ⟨"InvalidLimit", "InvalidLimit.__init__", (inClass (topS 12) 0), "ValueError", "ValueError.__new__", "ValueError.__init__", bmVE, ["given", "code"]⟩,
  ⟨"InvalidName", "InvalidName.__init__", (inClass (topS 10) 0), "ValueError", "ValueError.__new__", "ValueError.__init__", bmVE, ["given", "code"]⟩,
  ⟨"InvalidNumber", "InvalidNumber.__init__", (inClass (topS 7) 0), "ValueError", "ValueError.__new__", "ValueError.__init__", bmVE, ["given", "code"]⟩,
  ⟨"InvalidOrder", "InvalidOrder.__init__", (inClass (topS 6) 0), "ValueError", "ValueError.__new__", "ValueError.__init__", bmVE, ["given", "code"]⟩,
  ⟨"InvalidPage", "InvalidPage.__init__", (inClass (topS 13) 0), "ValueError", "ValueError.__new__", "ValueError.__init__", bmVE, ["row", "code"]⟩,
  ⟨"InvalidRow", "InvalidRow.__init__", (inClass (topS 4) 0), "ValueError", "ValueError.__new__", "ValueError.__init__", bmVE, ["at", "code"]⟩,
  ⟨"InvalidText", "InvalidText.__init__", (inClass (topS 9) 0), "ValueError", "ValueError.__new__", "ValueError.__init__", bmVE, ["at", "code"]⟩,
  ⟨"NothingLeft", "NothingLeft.__init__", (inClass (topS 21) 0), "IndexError", "IndexError.__new__", "IndexError.__init__", bmIE, ["code"]⟩,
  ⟨"TooDeep", "TooDeep.__init__", (inClass (topS 16) 0), "ValueError", "ValueError.__new__", "ValueError.__init__", bmVE, ["most", "code"]⟩,
  ⟨"TooMany", "TooMany.__init__", (inClass (topS 15) 0), "ValueError", "ValueError.__new__", "ValueError.__init__", bmVE, ["subject", "most", "code"]⟩,
  ⟨"UnknownName", "UnknownName.__init__", (inClass (topS 20) 0), "LookupError", "LookupError.__new__", "LookupError.__init__", bmLE, ["name", "code"]⟩,
  ⟨"Unlike", "Unlike.__init__", (inClass (topS 14) 0), "ValueError", "ValueError.__new__", "ValueError.__init__", bmVE, ["code"]⟩]
abbrev hFile : Str := PySem.Challenge.pw_inkfractions_k51_errors_and_their_bases.main.file
def hTb (K : PySem.W.Frag) : Bool := (hXs.all fun d => d.ok K hFile) && (supB K && (exTabB K exTab ["ValueError", "LookupError", "IndexError"] exAll && exFldB K exFld))
abbrev hR : PySem.W.OpenRow := PySem.W.OpenLaw.row PySem.Challenge.rw_inkfractions_k51_errors_and_their_bases
abbrev hk : PySem.W.Hook := hookX hFa hFn hXs hTb 5
def hOb (s : PySem.W.SharedT) : AlX := obsXG hFa hFn hXs hTb 5 (HandSHeadRun.getT s)
theorem hOb_eq (s : PySem.W.SharedT) : hOb s = hk.obs s.abs := obsXG_eq (HandSHeadRun.getT_eq s)
def hNm : List PySem.Str := ["InkError", "Missing", "InvalidInk", "InvalidRow", "InvalidEdge", "InvalidOrder", "InvalidNumber", "InvalidDeeds", "InvalidText", "InvalidName", "InvalidCommand", "InvalidLimit", "InvalidPage", "Unlike", "TooMany", "TooDeep", "Circular", "InUse", "Full", "UnknownName", "NothingLeft", "_law_bag", "_law_pull", "_law_of", "_law_mixed", "_law_same", "_law_field", "_law_first_errors", "_law_kinds"]
theorem hRun (w : World) : HandSHeadRun.RunEq hR (PySem.W.view hR.prog [31]) hk hOb 20000 hNm w := by
  intro os
  kernel_rfl
theorem hTx {P : Program} {K : PySem.W.Frag} {h : Heap} {mg : Str → Option Value} (X : K.In h) (G : h.Ns mainGlobals mg) (c : SaysX hFa hFn hXs hTb K) (hf : P.main.file = hFile) (ht : (P.main.scope.names.lookup ("super" : Str)).isSome = false) : Tx P K mg := by
  obtain ⟨t1, t⟩ := He.ba c.t
  obtain ⟨t2, t⟩ := He.ba t
  obtain ⟨t3, t4⟩ := He.ba t
  rw [← hf] at t1
  have dk : ∀ (i j : Nat) (d : He.DefD) (x : Str) (st : Stmt), hFn[i]? = some d → hFa[j]? = some (.glo x) → d = ⟨(x, none), x, x, defArgs st, defBody st, defScope st, [], []⟩ → DefOk K mg x x st := by
    intro i j d x st h1 h2 h3
    obtain ⟨fd, F⟩ := c.d.def_ i h1
    subst h3
    exact ⟨_, fd, He.glo_ok X G (c.d.fact j h2), F⟩
  have gl : ∀ (j : Nat) (x : Str), hFa[j]? = some (.glo x) → ∃ C, mg x = some (.ref C) := fun j x h => ⟨_, He.glo_ok X G (c.d.fact j h)⟩
  have fr : ∀ (j : Nat) (x : Str), hFa[j]? = some (.free x) → mg x = none := fun j x h => He.free_ok X G (c.d.fact j h)
  have ek : ∀ (i : Nat) (x qual : String) (st : Stmt) (B newId initId : String) (bm : List Value) (attrs : List Str), hXs[i]? = some ⟨x, qual, st, B, newId, initId, bm, attrs⟩ → ExB B newId initId bm → ExT P K mg x qual st B newId initId bm attrs := by
    intro i x qual st B newId initId bm attrs h b
    exact ex_ok X G b (c.i i h) (List.all_eq_true.mp t1 _ (List.mem_of_getElem? h)) t2 ht
  exact {
    def_l_bag := dk 0 0 _ _ _ rfl rfl rfl
    def_l_pull := dk 1 1 _ _ _ rfl rfl rfl
    def_l_of := dk 2 2 _ _ _ rfl rfl rfl
    def_l_mixed := dk 3 3 _ _ _ rfl rfl rfl
    def_l_same := dk 4 4 _ _ _ rfl rfl rfl
    def_l_field := dk 5 5 _ _ _ rfl rfl rfl
    def_l_first_errors := dk 6 6 _ _ _ rfl rfl rfl
    def_l_kinds := dk 7 7 _ _ _ rfl rfl rfl
    def_law := dk 8 8 _ _ _ rfl rfl rfl
    cls_Circular := gl 9 _ rfl
    cls_Full := gl 10 _ rfl
    cls_InUse := gl 11 _ rfl
    cls_InkError := gl 12 _ rfl
    cls_InvalidCommand := gl 13 _ rfl
    cls_InvalidDeeds := gl 14 _ rfl
    cls_InvalidEdge := gl 15 _ rfl
    cls_InvalidInk := gl 16 _ rfl
    cls_InvalidLimit := gl 17 _ rfl
    cls_InvalidName := gl 18 _ rfl
    cls_InvalidNumber := gl 19 _ rfl
    cls_InvalidOrder := gl 20 _ rfl
    cls_InvalidPage := gl 21 _ rfl
    cls_InvalidRow := gl 22 _ rfl
    cls_InvalidText := gl 23 _ rfl
    cls_Missing := gl 24 _ rfl
    cls_NothingLeft := gl 25 _ rfl
    cls_TooDeep := gl 26 _ rfl
    cls_TooMany := gl 27 _ rfl
    cls_UnknownName := gl 28 _ rfl
    cls_Unlike := gl 29 _ rfl
    ex_Circular := ek 0 _ _ _ _ _ _ _ _ rfl exB_VE
    ex_Full := ek 1 _ _ _ _ _ _ _ _ rfl exB_VE
    ex_InUse := ek 2 _ _ _ _ _ _ _ _ rfl exB_VE
    ex_InvalidCommand := ek 3 _ _ _ _ _ _ _ _ rfl exB_VE
    ex_InvalidDeeds := ek 4 _ _ _ _ _ _ _ _ rfl exB_VE
    ex_InvalidEdge := ek 5 _ _ _ _ _ _ _ _ rfl exB_VE
    ex_InvalidInk := ek 6 _ _ _ _ _ _ _ _ rfl exB_VE
    ex_InvalidLimit := ek 7 _ _ _ _ _ _ _ _ rfl exB_VE
    ex_InvalidName := ek 8 _ _ _ _ _ _ _ _ rfl exB_VE
    ex_InvalidNumber := ek 9 _ _ _ _ _ _ _ _ rfl exB_VE
    ex_InvalidOrder := ek 10 _ _ _ _ _ _ _ _ rfl exB_VE
    ex_InvalidPage := ek 11 _ _ _ _ _ _ _ _ rfl exB_VE
    ex_InvalidRow := ek 12 _ _ _ _ _ _ _ _ rfl exB_VE
    ex_InvalidText := ek 13 _ _ _ _ _ _ _ _ rfl exB_VE
    ex_NothingLeft := ek 14 _ _ _ _ _ _ _ _ rfl exB_IE
    ex_TooDeep := ek 15 _ _ _ _ _ _ _ _ rfl exB_VE
    ex_TooMany := ek 16 _ _ _ _ _ _ _ _ rfl exB_VE
    ex_UnknownName := ek 17 _ _ _ _ _ _ _ _ rfl exB_LE
    ex_Unlike := ek 18 _ _ _ _ _ _ _ _ rfl exB_VE
    free_IndexError := fr 30 _ rfl
    free_LookupError := fr 31 _ rfl
    free_ValueError := fr 32 _ rfl
    free_abs := fr 33 _ rfl
    free_all := fr 34 _ rfl
    free_bool := fr 35 _ rfl
    free_int := fr 36 _ rfl
    free_isinstance := fr 37 _ rfl
    free_len := fr 38 _ rfl
    free_list := fr 39 _ rfl
    free_range := fr 40 _ rfl
    free_str := fr 41 _ rfl
    free_tuple := fr 42 _ rfl
    free_zip := fr 43 _ rfl
    tab := exTab_ok X G t3
    att := exFld_ok X G t4 }
end D
end

section
set_option maxHeartbeats 0
namespace D
open PySem PySem.Spec PyProof.Rows L2 NdefX
section
variable {P : Program} {w : World} {K : PySem.W.Frag} {mg : Str → Option Value} {base : Heap}
theorem gk_law (T : Tx P K mg) {f : Addr} {fd : FuncData} (F : FunD K "law" "law" (defArgs s_law) (defBody s_law) (defScope s_law) [] [] f fd) : FnOk P w K mg base (L2.CX P w) 10 f fd ["_law_script"] (FnSp ⟨K, mg⟩ 1 f_law) := by
  refine fnD F sc_law fun cdv A outer s H E hr tk hp => ?_
  have hN := sc_law.nd
  have lt : Lets (CxB P w K mg base _ _ _ _ cdv A outer s H E) (XW E) := fun σ => passAt tk σ
  exact (dss_cons (ds_set 1 (pd_fn (g_l_bag T) hr lt (pda_cons (pd_var 0) pda_nil)))
  (dss_cons (ds_set 2 (pd_fn (g_l_of T) hr lt (pda_cons (pd_var 1) (pda_cons (pd_frz (pdn_lst (pda_cons pd_int (pda_cons pd_int (pda_cons (pd_neg pd_int) (pda_cons (pd_op opp_pow pd_int pd_int) (pda_cons (pd_fn (g_l_pull T) hr lt (pda_cons (pd_var 1) (pda_cons pd_int pda_nil))) pda_nil))))))) pda_nil))))
  (dss_cons (ds_set 3 (pd_fn (g_l_of T) hr lt (pda_cons (pd_var 1) (pda_cons (pd_frz (pdn_lst (pda_cons pd_str (pda_cons pd_str (pda_cons pd_str (pda_cons (pd_op opp_mulS pd_str (pd_fn (g_l_pull T) hr lt (pda_cons (pd_var 1) (pda_cons pd_int pda_nil)))) pda_nil)))))) pda_nil))))
  (dss_cons (ds_set 4 (pd_fn (g_l_first_errors T) hr lt (pda_cons (pd_var 2) (pda_cons (pd_var 3) (pda_cons (pd_tup (pda_cons (pd_var 2) (pda_cons pd_int pda_nil))) pda_nil)))))
  (dss_cons (ds_for (pdi_lst (pd_fn (g_l_mixed T) hr lt (pda_cons (pd_var 1) (pda_cons (pd_frz (pdn_rg1 pd_int T.free_list T.free_range)) pda_nil)))) (dg_nm 5) (dss_cons (ds_asg (pd_sub (u1 hr) (pd_var 4) (pd_var 5)) (dg_tp (dgs_cons (dg_nm 6) (dgs_cons (dg_nm 7) (dgs_cons (dg_nm 8) dgs_nil)))))
  (dss_cons (ds_set 9 (pd_if (pdt_in (u65 hr) (pd_var 7) (pd_tup (pda_cons pd_str (pda_cons pd_str pda_nil)))) (pd_tup pda_nil) (pd_tup (pda_cons (pd_var 8) pda_nil))))
  (dss_cons (ds_if (PDW.pdt (pdw_or (pdt_not (pdt_val (pd_fn (g_l_same T 8) hr lt (pda_cons (pd_frz (pdn_lst (pda_cons (pd_att T.att (pd_var 6)) (pda_cons (pd_fn (g_l_field T) hr lt (pda_cons (pd_var 6) pda_nil)) pda_nil)))) (pda_cons (pd_frz (pdn_lst (pda_cons (pd_var 7) (pda_cons (pd_var 9) pda_nil)))) pda_nil))))) (pdw_or1 (pdt_cmp (opp_ne (u64 hr)) (pd_fn (g_l_kinds T) hr lt (pda_cons (pd_var 6) pda_nil)) (pd_lcF ([("_law_k", 11)] : List (Str × Nat)) (pdi_r1 (pda_cons pd_int pda_nil) T.free_range) (fun _ _ _ _ _ => (dg_nm 11)) (fun _ _ _ _ _ => dts_nil) (fun _ _ _ _ _ => (pd_cmp (opp_eq (u64 hr)) (pd_var 11) (pd_var 5) (nomark _))) (ok := blkOk_by (N := ["_law_script", "_law_bag_here", "_law_far", "_law_string", "_law_pairs", "_law_spot", "_law_e", "_law_title", "_law_due", "_law_fields", "_law_above", "_law_k"]) (sc := defScope s_law) (by decide +kernel))) (nomark _))))) (dss_one (ds_ret pd_bl)) dss_nil)
  (dss_cons (ds_set 10 (pd_frz (pdn_lst (pda_cons (pd_callB (callp_is T.tab) T.free_isinstance (by rfl) (pda_cons (pd_var 6) (pda_cons (pd_cls T.cls_InkError) pda_nil))) (pda_cons (pd_callB (callp_is T.tab) T.free_isinstance (by rfl) (pda_cons (pd_var 6) (pda_cons (pd_ty T.free_ValueError (by rfl)) pda_nil))) (pda_cons (pd_callB (callp_is T.tab) T.free_isinstance (by rfl) (pda_cons (pd_var 6) (pda_cons (pd_cls T.cls_Missing) pda_nil))) (pda_cons (pd_callB (callp_is T.tab) T.free_isinstance (by rfl) (pda_cons (pd_var 6) (pda_cons (pd_ty T.free_LookupError (by rfl)) pda_nil))) pda_nil)))))))
  (dss_one (ds_if (PDW.pdt (pdw_or (pdt_cmp (opp_ne (u64 hr)) (pd_var 10) (pd_frz (pdn_lst (pda_cons (pd_cmp (opp_lt (u64 hr)) (pd_var 5) pd_int (nomark _)) (pda_cons (pd_cmp (opp_lt (u64 hr)) (pd_var 5) pd_int (nomark _)) (pda_cons (pd_cmp (opp_eq (u64 hr)) (pd_var 5) pd_int (nomark _)) (pda_cons (pd_cmp (opp_gt (u64 hr)) (pd_var 5) pd_int (nomark _)) pda_nil)))))) (nomark _)) (pdw_or1 (pdt_cmp (opp_ne (u64 hr)) (pd_callB (callp_is T.tab) T.free_isinstance (by rfl) (pda_cons (pd_var 6) (pda_cons (pd_ty T.free_IndexError (by rfl)) pda_nil))) (pd_cmp (opp_eq (u64 hr)) (pd_var 5) pd_int (nomark _)) (nomark _))))) (dss_one (ds_ret pd_bl)) dss_nil)))))))
  (dss_cons (ds_set 6 (pd_exK (mkk_TooMany T) hr (pdk_cons (pd_var 2) (pdk_cons (pd_var 3) pdk_nil))))
  (dss_cons (ds_if (pdt_not (pdt_val (pd_fn (g_l_same T 8) hr lt (pda_cons (pd_frz (pdn_lst (pda_cons (pd_att T.att (pd_var 6)) (pda_cons (pd_att T.att (pd_var 6)) (pda_cons (pd_att T.att (pd_var 6)) (pda_cons (pd_fn (g_l_kinds T) hr lt (pda_cons (pd_var 6) pda_nil)) pda_nil)))))) (pda_cons (pd_frz (pdn_lst (pda_cons pd_str (pda_cons (pd_var 3) (pda_cons (pd_var 2) (pda_cons (pd_frz (pdn_cat (pd_frz (pdn_rep (pd_frz (pdn_lst (pda_cons pd_bl pda_nil))) pd_int)) (pd_frz (pdn_lst (pda_cons pd_bl pda_nil))))) pda_nil)))))) pda_nil))))) (dss_one (ds_ret pd_bl)) dss_nil)
  (dss_one (ds_ret (pd_and (pd_callB (callp_is T.tab) T.free_isinstance (by rfl) (pda_cons (pd_var 6) (pda_cons (pd_cls T.cls_InkError) pda_nil))) (pd_and (pd_callB (callp_is T.tab) T.free_isinstance (by rfl) (pda_cons (pd_var 6) (pda_cons (pd_ty T.free_ValueError (by rfl)) pda_nil))) (pd_one (pd_not (pd_callB (callp_is T.tab) T.free_isinstance (by rfl) (pda_cons (pd_var 6) (pda_cons (pd_ty T.free_LookupError (by rfl)) pda_nil))))))))))))))))

end
theorem cx_no {P : Program} {w : World} (H : Hp) (s : Shared) (e : Value) (s' : Shared) (h : L2.CX P w [] H s (fun _ _ _ => False) e s') : False := by
  obtain ⟨a, B, H', cls, d, _, _, _, _, _, _, _, z⟩ := h
  exact z
theorem walk_ofW {l : PySem.W.OpenLaw} {n k : Nat} {q : Program} {loose : List Str} {XP : (Str → Option Value) → Heap → Prop} {YP : World → Heap → Prop} {d : DefRec} {CX : World → CXT} {x : Str}
    (hn : l.most = some n) (hn2 : n ≤ sizeLine) (hdf : d.params.defaults = []) (hr : Room k callerA)
    (F : ∀ (w : World) (mg : Str → Option Value) (fa : Addr) (h : Heap), YP w h → h.Ns mainGlobals mg → mg d.name = some (.ref fa) → ∃ (K : PySem.W.Frag) (fd : FuncData) (sp : Sp), K.In h ∧ (∀ (s : Shared) (u : Value), BindsTo s fd ⟨[u], []⟩ [(x, u)]) ∧
        (∀ (H : Hp) (a : Addr) (ns : List Int), Only H → SqL K H a (ns.map V.int) → sp [.ref a] H (fun v _ => v = .bl true) fun _ _ _ => False) ∧ ∀ base : Heap, K.In base → base.Ns mainGlobals mg → FnOk l.prog w K mg base (CX w) k fa fd [x] sp)
    (no : ∀ (w : World) (H : Hp) (s : Shared) (e : Value) (s' : Shared), CX w [] H s (fun _ _ _ => False) e s' → False) : PySem.W.WalkO q loose XP YP l.row.toRowW d [] (fun f vs => PySem.call f vs) := by
  refine Att.attach_call hn hdf fun w s₀ s₁ mg mb fa o pm cd doc a vs ns G Y ho hd hcd hmg hobj hints hlen hg => ?_
  obtain ⟨K, fd, sp, KX, hb, hsp, hF⟩ := F w mg fa _ Y G.T.g hmg
  exact law_call KX G.T.g G.T.b G.T.builtins G.T.nolimit hg hobj hints (Nat.le_trans hlen hn2) hr hF hb (fun H hO hS => hsp H a ns hO hS) fun H e s' => no w H s₁ e s'
theorem sp_law {K : PySem.W.Frag} {mg : Str → Option Value} (H : Hp) (a : Addr) (ns : List Int) (hS : SqL K H a (ns.map V.int)) : FnSp ⟨K, mg⟩ 1 f_law [.ref a] H (fun v _ => v = .bl true) fun _ _ _ => False := by
  refine ⟨[.klst (ns.map .int)], [], ⟨H, [], []⟩, ?_, ?_, rfl, ?_⟩
  · exact ⟨fun a o h => .inl h, fun a ob u h => by simp at h, rfl, List.nodup_nil, fun k cl a h => by simp at h⟩
  · have hr : Reps ⟨K, mg⟩ ⟨H, [], []⟩ (ns.map Dt.int) (ns.map V.int) := by
      clear hS
      induction ns with
      | nil => simp only [List.map_nil, Reps]
      | cons x l ih => simp only [List.map_cons, Reps, Rep]; exact ⟨_, _, rfl, rfl, ih⟩
    simp only [Reps, Rep]
    exact ⟨_, _, rfl, ⟨a, _, rfl, hS, hr⟩, rfl⟩
  · rw [law_true]
    intro w' v H' l g r
    simpa only [Rep] using r
end D
open PySem PySem.W PySem.Calls PyProof.Rows
theorem PySem.Challenge.cw_inkfractions_k51_errors_and_their_bases_holds : PySem.Challenge.rw_inkfractions_k51_errors_and_their_bases.Holds := by
  w_on; o_law
  refine HandSHeadRun.head_any (r := D.hR) (q := view D.hR.prog [31]) (H := D.hk) (ob := D.hOb) (M := 20000) (loose := D.hNm) (d := HandSHeadRun.topDef D.hR.prog 31) (kwd := []) D.hOb_eq
    (by kernel_rfl) (fun s => by kernel_rfl) D.hRun (by kernel_rfl) (by kernel_rfl) (by kernel_rfl) (by rfl) (by first | assumption | decide +kernel) (by decide +kernel) ⟨rfl, rfl, rfl, rfl, rfl, by decide +kernel⟩ ?hw ?hc
  case hw => w_witness2
  case hc =>
    refine D.walk_ofW (l := PySem.Challenge.rw_inkfractions_k51_errors_and_their_bases) (n := 63) (k := 10) (x := "_law_script") (CX := fun w => L2.CX (PySem.Challenge.rw_inkfractions_k51_errors_and_their_bases).prog w) rfl (by decide) (by kernel_rfl) ⟨rfl, by decide, by decide⟩ ?F (fun w => D.cx_no)
    intro w mg fa h Y G hmg0
    obtain ⟨K, KX, c⟩ := Y
    have hmg : mg ("law" : PySem.Str) = some (.ref fa) := by
      have e : (HandSHeadRun.topDef D.hR.prog 31).name = ("law" : PySem.Str) := by kernel_rfl
      rw [← e]
      exact hmg0
    have T : D.Tx (PySem.Challenge.rw_inkfractions_k51_errors_and_their_bases).prog K mg := D.hTx KX G c (by kernel_rfl) (by kernel_rfl)
    obtain ⟨f, fd, hf, F⟩ := T.def_law
    have e := hf.symm.trans hmg
    cases e
    have b := L2.FunD.bindsA (ps := ["_law_script"]) F fun _ _ _ _ _ _ us hl => match us, hl with | [_], _ => rfl
    exact ⟨K, fd, _, KX, fun s v => b s [v] rfl, fun H a ns _ hS => D.sp_law H a ns hS, fun base _ _ => D.gk_law T F⟩
end
